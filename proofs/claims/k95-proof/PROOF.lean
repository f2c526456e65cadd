import PyProof.Rows.All
import Wide.All
import OpenK.AllK
import Wide.FinOn
import HandS.ForMost
import HandS.ForExc
import HandS.IsInst
import HandS.Deep
import HandS.Evl
import HandS.RevRange
import HandS.SortInts
import KE.KExcSuper
import HandS.ExcInit
import HandS.FStr
import KE.KExcIs
import HandS.ExcIs
import HandS.ExcField
import HandS.ExcOwn
import HandS.Conv
import HandS.SortRule
import HandS.DictTup
import KE.KDictSum
import HandS.DictComp
import HandS.Zip
import HandS.Iter
import PySem.Challenge.RW_noughtmeet_k95_whole_orientations_and_fo
section
set_option Elab.async false
set_option linter.all false
set_option maxRecDepth 100000
set_option maxHeartbeats 1000000
/-! No: values as data, a functional reading of statements; lists and dicts of a slot's own, lent lists and dicts -/
namespace No
open PySem PySem.Spec PyProof.Rows L2

/-- data: what a value stands for; fz: the script's list, which is never written; kt: a tuple of the written part; dT: a dict whose keys are tuples, dK: one whose keys are ints and texts; ob: an instance that stays -/
inductive D where
  | non | bl (b : Bool) | int (i : Int) | str (s : Str) | lst (l : List D) | tup (l : List D) | fz (l : List D) | kt (l : List D)
  | dT (kvs : List (List Key × D)) | dK (kvs : List (Key × D)) | ob (C : Addr) (fs : List (Str × D))
  deriving Inhabited

mutual
/-- v stands for d in H -/
inductive Rp (K : PySem.W.Frag) (H : Hp) : V → D → Prop
  | non : Rp K H .non .non
  | bl (b : Bool) : Rp K H (.bl b) (.bl b)
  | int (i : Int) : Rp K H (.int i) (.int i)
  | str (x : Str) : Rp K H (.str x) (.str x)
  | lst {a : Addr} {xs : List V} {ds : List D} : H a = some (.lst xs) → Rps K H xs ds → Rp K H (.ref a) (.lst ds)
  | tup {a : Addr} {xs : List V} {ds : List D} : H a = some (.tup xs) → Rps K H xs ds → Rp K H (.ref a) (.tup ds)
  | kt {a : Addr} {xs : List V} {ds : List D} : SqT K H a xs → Rps K H xs ds → Rp K H (.ref a) (.kt ds)
  | fz {a : Addr} {xs : List V} {ds : List D} : SqL K H a xs → Rps K H xs ds → Rp K H (.ref a) (.fz ds)
  | dT {a : Addr} {kvs : List (List Key × V)} {ds : List (List Key × D)} : Rd H a (.dT kvs) → kvs.map (·.1) = ds.map (·.1) → Rps K H (kvs.map (·.2)) (ds.map (·.2)) → Rp K H (.ref a) (.dT ds)
  | dK {a : Addr} {kvs : List (Key × V)} {ds : List (Key × D)} : Rd H a (.dK kvs) → kvs.map (·.1) = ds.map (·.1) → Rps K H (kvs.map (·.2)) (ds.map (·.2)) → Rp K H (.ref a) (.dK ds)
  | ob {a C dx : Addr} {fs : List (Str × V)} {ds : List (Str × D)} : H a = some (.ins C dx fs) → fs.map (·.1) = ds.map (·.1) → Rps K H (fs.map (·.2)) (ds.map (·.2)) → Rp K H (.ref a) (.ob C ds)
inductive Rps (K : PySem.W.Frag) (H : Hp) : List V → List D → Prop
  | nil : Rps K H [] []
  | cons {v : V} {vs : List V} {d : D} {ds : List D} : Rp K H v d → Rps K H vs ds → Rps K H (v :: vs) (d :: ds)
end

theorem same_l {K : PySem.W.Frag} {H H' : Hp} {a : Addr} {xs : List V} (e : Same H H') (h : SqL K H a xs) : SqL K H' a xs := Evl.ex_l e h
theorem same_t {K : PySem.W.Frag} {H H' : Hp} {a : Addr} {xs : List V} (e : Same H H') (h : SqT K H a xs) : SqT K H' a xs := Evl.ex_t e h
theorem same_rd {H H' : Hp} {a : Addr} {u : HO} (e : Same H H') (h : Rd H a u) : Rd H' a u := h.imp (e _ _) fun ⟨o, q⟩ => ⟨o, e _ _ q⟩

mutual
theorem Rp.mono {K : PySem.W.Frag} {H H' : Hp} (e : Same H H') : ∀ {v : V} {d : D}, Rp K H v d → Rp K H' v d
  | _, _, .non => .non
  | _, _, .bl b => .bl b
  | _, _, .int i => .int i
  | _, _, .str x => .str x
  | _, _, .lst h t => .lst (e _ _ h) (Rps.mono e t)
  | _, _, .tup h t => .tup (e _ _ h) (Rps.mono e t)
  | _, _, .kt h t => .kt (same_t e h) (Rps.mono e t)
  | _, _, .fz h t => .fz (same_l e h) (Rps.mono e t)
  | _, _, .dT h m t => .dT (same_rd e h) m (Rps.mono e t)
  | _, _, .dK h m t => .dK (same_rd e h) m (Rps.mono e t)
  | _, _, .ob h m t => .ob (e _ _ h) m (Rps.mono e t)
theorem Rps.mono {K : PySem.W.Frag} {H H' : Hp} (e : Same H H') : ∀ {vs : List V} {ds : List D}, Rps K H vs ds → Rps K H' vs ds
  | _, _, .nil => .nil
  | _, _, .cons h t => .cons (Rp.mono e h) (Rps.mono e t)
end

section
variable {K : PySem.W.Frag} {H : Hp}
theorem Rps.length : ∀ {vs : List V} {ds : List D}, Rps K H vs ds → vs.length = ds.length
  | _, _, .nil => rfl
  | _, _, .cons _ t => by simp [Rps.length t]
theorem Rps.get : ∀ {vs : List V} {ds : List D} {i : Nat} {d : D}, Rps K H vs ds → ds[i]? = some d → ∃ v, vs[i]? = some v ∧ Rp K H v d
  | _, _, _, _, .nil, e => by simp at e
  | _, _, 0, _, .cons r _, e => by simp at e; subst e; exact ⟨_, rfl, r⟩
  | _, _, i + 1, d, .cons _ t, e => by
    obtain ⟨v, h1, h2⟩ := Rps.get (i := i) (d := d) t (by simpa using e)
    exact ⟨v, by simpa using h1, h2⟩
theorem Rps.append : ∀ {vs ws : List V} {ds es : List D}, Rps K H vs ds → Rps K H ws es → Rps K H (vs ++ ws) (ds ++ es)
  | _, _, _, _, .nil, s => s
  | _, _, _, _, .cons r t, s => .cons r (Rps.append t s)
theorem Rps.one {v : V} {d : D} (h : Rp K H v d) : Rps K H [v] [d] := .cons h .nil
theorem Rps.set {x : V} {d : D} (r : Rp K H x d) : ∀ {vs : List V} {ds : List D} (i : Nat), Rps K H vs ds → Rps K H (vs.set i x) (ds.set i d)
  | _, _, _, .nil => .nil
  | _, _, 0, .cons _ t => .cons r t
  | _, _, i + 1, .cons q t => .cons q (Rps.set r i t)
theorem Rps.take : ∀ {vs : List V} {ds : List D} (n : Nat), Rps K H vs ds → Rps K H (vs.take n) (ds.take n)
  | _, _, 0, _ => .nil
  | _, _, _ + 1, .nil => .nil
  | _, _, n + 1, .cons r t => .cons r (Rps.take n t)
theorem Rps.drop : ∀ {vs : List V} {ds : List D} (n : Nat), Rps K H vs ds → Rps K H (vs.drop n) (ds.drop n)
  | _, _, 0, r => r
  | _, _, _ + 1, .nil => .nil
  | _, _, n + 1, .cons _ t => Rps.drop n t
theorem Rps.dropLast : ∀ {vs : List V} {ds : List D}, Rps K H vs ds → Rps K H vs.dropLast ds.dropLast := fun {vs ds} h => by
  rw [List.dropLast_eq_take, List.dropLast_eq_take, h.length]
  exact h.take _
theorem Rps.ints : ∀ {vs : List V} {ns : List Int}, Rps K H vs (ns.map D.int) → vs = ns.map V.int
  | _, [], .nil => rfl
  | _, _ :: ns, .cons (.int i) t => by
    show _ :: _ = _ :: _
    rw [Rps.ints (ns := ns) t]
theorem Rps.ofInts : ∀ (ns : List Int), Rps K H (ns.map V.int) (ns.map D.int)
  | [] => .nil
  | n :: ns => .cons (.int n) (Rps.ofInts ns)
end

/-- growth: shared part and whole heap; what comes to the shared part is new, or a tuple -/
structure Gr (G H G' H' : Hp) : Prop where
  gg : Same G G'
  hh : Same H H'
  gh : Same G' H'
  nw : ∀ a o, G' a = some o → G a = some o ∨ H a = none ∨ ∃ xs, o = .tup xs
section
variable {G H G1 H1 G2 H2 : Hp} {p : Addr} {o : HO}
theorem Gr.refl (e : Same G H) : Gr G H G H := ⟨Same.refl G, Same.refl H, e, fun _ _ h => .inl h⟩
theorem Gr.trans (a : Gr G H G1 H1) (b : Gr G1 H1 G2 H2) : Gr G H G2 H2 := ⟨a.gg.trans b.gg, a.hh.trans b.hh, b.gh, fun x u h => by
  rcases b.nw x u h with h | h | h
  · exact a.nw x u h
  · exact .inr (.inl (a.hh.free h))
  · exact .inr (.inr h)⟩
theorem same_upd (h : H p = none) : Same H (upd H p o) := fun a u e => by
  rw [upd_ne (ne_of_none e h)]
  exact e
theorem same_upd2 (e : Same G H) (h : H p = none) : Same (upd G p o) (upd H p o) := fun a u q => by
  by_cases c : a = p
  · subst c
    rw [upd_same] at q ⊢
    exact q
  · rw [upd_ne c] at q ⊢
    exact e a u q
theorem Gr.new (e : Same G H) (h : H p = none) : Gr G H (upd G p o) (upd H p o) :=
  ⟨same_upd (e.free h), same_upd h, same_upd2 e h, fun a u q => by
    by_cases c : a = p
    · subst c
      exact .inr (.inl h)
    · rw [upd_ne c] at q
      exact .inl q⟩
theorem Gr.hid (e : Same G H) (h : H p = none) : Gr G H G (upd H p o) :=
  ⟨Same.refl G, same_upd h, fun a u q => same_upd h a u (e a u q), fun _ _ q => .inl q⟩
theorem Gr.out (g : Gr G H G1 H1) {l : Addr} (hl : H l = some o) (gl : G l = none) (ho : ∀ xs, o ≠ .tup xs) : G1 l = none := by
  cases q : G1 l with
  | none => rfl
  | some u =>
    rcases g.nw l u q with z | z | ⟨xs, z⟩
    · rw [gl] at z
      cases z
    · rw [hl] at z
      cases z
    · have h1 := g.gh _ _ q
      rw [g.hh _ _ hl] at h1
      exact absurd ((Option.some.inj h1).trans z) (ho xs)
end


/-- a thing of its own: a list, a dict with tuple keys, a dict with keys that are ints and texts -/
inductive M where
  | fl (ds : List D) | ft (kvs : List (List Key × D)) | fk (kvs : List (Key × D))
  deriving Inhabited
@[simp] def M.d : M → D
  | .fl ds => .lst ds
  | .ft ks => .dT ks
  | .fk ks => .dK ks
/-- the object ho stands for m -/
def HM (K : PySem.W.Frag) (G : Hp) (ho : HO) : M → Prop
  | .fl ds => ∃ xs, ho = .lst xs ∧ Rps K G xs ds
  | .ft ds => ∃ kvs, ho = .dT kvs ∧ kvs.map (·.1) = ds.map (·.1) ∧ Rps K G (kvs.map (·.2)) (ds.map (·.2))
  | .fk ds => ∃ kvs, ho = .dK kvs ∧ kvs.map (·.1) = ds.map (·.1) ∧ Rps K G (kvs.map (·.2)) (ds.map (·.2))
theorem HM.mono {K : PySem.W.Frag} {G G' : Hp} {ho : HO} {m : M} (e : Same G G') (h : HM K G ho m) : HM K G' ho m := by
  cases m with
  | fl ds => obtain ⟨xs, h1, h2⟩ := h; exact ⟨xs, h1, h2.mono e⟩
  | ft ds => obtain ⟨xs, h1, h2, h3⟩ := h; exact ⟨xs, h1, h2, h3.mono e⟩
  | fk ds => obtain ⟨xs, h1, h2, h3⟩ := h; exact ⟨xs, h1, h2, h3.mono e⟩
theorem HM.rp {K : PySem.W.Frag} {G : Hp} {ho : HO} {m : M} {a : Addr} (h : HM K G ho m) (e : G a = some ho) : Rp K G (.ref a) m.d := by
  cases m with
  | fl ds => obtain ⟨xs, rfl, h2⟩ := h; exact .lst e h2
  | ft ds => obtain ⟨xs, rfl, h2, h3⟩ := h; exact .dT (.inl e) h2 h3
  | fk ds => obtain ⟨xs, rfl, h2, h3⟩ := h; exact .dK (.inl e) h2 h3

theorem HM.ntup {K : PySem.W.Frag} {G : Hp} {ho : HO} {m : M} (h : HM K G ho m) (xs : List V) : ho ≠ .tup xs := by
  cases m with
  | fl ds => obtain ⟨xs, rfl, _⟩ := h; exact fun z => by cases z
  | ft ds => obtain ⟨xs, rfl, _⟩ := h; exact fun z => by cases z
  | fk ds => obtain ⟨xs, rfl, _⟩ := h; exact fun z => by cases z

/-- what a slot holds: nothing that is known, shared data, a thing that is this slot's alone (true: lent by the caller, in the parameter's own slot) -/
inductive Cell where
  | no | sh (d : D) | ow (b : Bool) (m : M)
  deriving Inhabited
abbrev En := List Cell
/-- what stays through a def's body: the shared part and the heap (without what is lent) at its entry, its arguments -/
structure Zb where
  G0 : Hp
  H0 : Hp
  B : Nat → V
/-- the same with one more object that stands aside -/
def Zb.fr (Z : Zb) (l : Addr) (o : HO) : Zb := { Z with H0 := upd Z.H0 l o }

def RepC (K : PySem.W.Frag) (Z : Zb) (G H : Hp) (i : Nat) : Cell → Option V → Prop
  | .no, _ => True
  | .sh d, o => ∃ v, o = some v ∧ Rp K G v d
  | .ow b m, o => ∃ l ho, o = some (.ref l) ∧ H l = some ho ∧ G l = none ∧ Z.H0 l = none ∧ HM K G ho m ∧ (b = true → Z.B i = .ref l)

structure RepS (K : PySem.W.Frag) (Z : Zb) (G H : Hp) (σ : List (Option V)) (env : En) : Prop where
  gr : Gr Z.G0 Z.H0 G H
  len : env.length = σ.length
  rep : ∀ (i : Nat) (c : Cell), env[i]? = some c → ∃ o, σ[i]? = some o ∧ RepC K Z G H i c o
  dis : ∀ (i j : Nat) (b c : Bool) (m n : M) (l : Addr), env[i]? = some (.ow b m) → env[j]? = some (.ow c n) → σ[i]? = some (some (.ref l)) → σ[j]? = some (some (.ref l)) → i = j

section
variable {K : PySem.W.Frag} {Z : Zb} {G H G2 H2 : Hp} {σ : List (Option V)} {env : En} {i : Nat} {d : D} {c : Cell}
theorem RepS.gh (R : RepS K Z G H σ env) : Same G H := R.gr.gh
theorem RepC.grow (g : Gr G H G2 H2) {o : Option V} : RepC K Z G H i c o → RepC K Z G2 H2 i c o := fun h => by
  cases c with
  | no => trivial
  | sh d =>
    obtain ⟨v, e, r⟩ := h
    exact ⟨v, e, r.mono g.gg⟩
  | ow b m =>
    obtain ⟨l, ho, e, hl, gl, h0, r, hb⟩ := h
    exact ⟨l, ho, e, g.hh _ _ hl, g.out hl gl r.ntup, h0, r.mono g.gg, hb⟩
theorem RepS.grow (R : RepS K Z G H σ env) (g : Gr G H G2 H2) : RepS K Z G2 H2 σ env :=
  ⟨R.gr.trans g, R.len, fun i c e => by
    obtain ⟨o, h1, h2⟩ := R.rep i c e
    exact ⟨o, h1, h2.grow g⟩, R.dis⟩
theorem RepS.sh (R : RepS K Z G H σ env) (e : env[i]? = some (.sh d)) : ∃ v, σ[i]? = some (some v) ∧ Rp K G v d := by
  obtain ⟨o, h1, v, rfl, h2⟩ := R.rep i _ e
  exact ⟨v, h1, h2⟩
theorem RepS.ow (R : RepS K Z G H σ env) {b : Bool} {m : M} (e : env[i]? = some (.ow b m)) : ∃ l ho, σ[i]? = some (some (.ref l)) ∧ H l = some ho ∧ G l = none ∧ Z.H0 l = none ∧ HM K G ho m ∧ (b = true → Z.B i = .ref l) := by
  obtain ⟨o, h1, l, ho, rfl, h2⟩ := R.rep i _ e
  exact ⟨l, ho, h1, h2⟩
/-- a slot is set to what is no thing of its own -/
theorem RepS.setC (R : RepS K Z G H σ env) {o : Option V} {c : Cell} (hc : ∀ b m, c ≠ .ow b m) (r : RepC K Z G H i c o) : RepS K Z G H (σ.set i o) (env.set i c) := by
  refine ⟨R.gr, by simp [R.len], fun j c' e => ?_, fun a b p q m n l e1 e2 e3 e4 => ?_⟩
  · by_cases hj : i = j
    · subst hj
      obtain ⟨hi, e'⟩ := List.getElem?_eq_some_iff.mp e
      have hi' : i < env.length := by simpa using hi
      rw [List.getElem?_set_self hi'] at e
      cases e
      exact ⟨o, by rw [List.getElem?_set_self (by rw [← R.len]; exact hi')], r⟩
    · rw [List.getElem?_set_ne hj] at e ⊢
      exact R.rep j c' e
  · have na : ∀ {a : Nat} {b : Bool} {m : M}, (env.set i c)[a]? = some (.ow b m) → i ≠ a := fun {a b m} e z => by
      subst z
      obtain ⟨hi, _⟩ := List.getElem?_eq_some_iff.mp e
      rw [List.getElem?_set_self (by simpa using hi)] at e
      exact hc b m (Option.some.inj e)
    have n1 := na e1
    have n2 := na e2
    rw [List.getElem?_set_ne n1] at e1 e3
    rw [List.getElem?_set_ne n2] at e2 e4
    exact R.dis a b p q m n l e1 e2 e3 e4
theorem RepS.setSh (R : RepS K Z G H σ env) {v : V} (r : Rp K G v d) : RepS K Z G H (σ.set i (some v)) (env.set i (.sh d)) :=
  R.setC (fun b m z => by cases z) ⟨v, rfl, r⟩
theorem RepS.setNo (R : RepS K Z G H σ env) {o : Option V} : RepS K Z G H (σ.set i o) (env.set i .no) := R.setC (fun b m z => by cases z) trivial
/-- a slot is set to a new thing of its own -/
theorem RepS.setOw (R : RepS K Z G H σ env) {l : Addr} {ho : HO} {m : M} (hl : H l = some ho) (gl : G l = none) (h0 : Z.H0 l = none) (r : HM K G ho m)
    (nw : ∀ (j : Nat) (b : Bool) (n : M), j ≠ i → env[j]? = some (.ow b n) → σ[j]? ≠ some (some (.ref l))) : RepS K Z G H (σ.set i (some (.ref l))) (env.set i (.ow false m)) := by
  refine ⟨R.gr, by simp [R.len], fun j c e => ?_, fun a b p q m' n' l' e1 e2 e3 e4 => ?_⟩
  · by_cases hj : i = j
    · subst hj
      obtain ⟨hi, e'⟩ := List.getElem?_eq_some_iff.mp e
      have hi' : i < env.length := by simpa using hi
      rw [List.getElem?_set_self hi'] at e
      cases e
      exact ⟨_, by rw [List.getElem?_set_self (by rw [← R.len]; exact hi')], l, ho, rfl, hl, gl, h0, r, fun z => Bool.noConfusion z⟩
    · rw [List.getElem?_set_ne hj] at e ⊢
      exact R.rep j c e
  · by_cases ha : i = a
    · by_cases hb : i = b
      · rw [← ha, ← hb]
      · exfalso
        subst ha
        obtain ⟨hi, _⟩ := List.getElem?_eq_some_iff.mp e3
        rw [List.getElem?_set_self (by simpa using hi)] at e3
        rw [List.getElem?_set_ne hb] at e2 e4
        cases e3
        exact nw b _ _ (Ne.symm hb) e2 e4
    · rw [List.getElem?_set_ne ha] at e1 e3
      by_cases hb : i = b
      · exfalso
        subst hb
        obtain ⟨hi, _⟩ := List.getElem?_eq_some_iff.mp e4
        rw [List.getElem?_set_self (by simpa using hi)] at e4
        cases e4
        exact nw a _ _ (Ne.symm ha) e1 e3
      · rw [List.getElem?_set_ne hb] at e2 e4
        exact R.dis a b _ _ _ _ l' e1 e2 e3 e4
/-- a thing of a slot's own is changed -/
theorem RepS.mut (R : RepS K Z G H σ env) {l : Addr} {b : Bool} {m m' : M} {ho : HO} (e : env[i]? = some (.ow b m)) (el : σ[i]? = some (some (.ref l))) (r : HM K G ho m') :
    RepS K Z G (upd H l ho) σ (env.set i (.ow b m')) := by
  obtain ⟨l', ho0, el', hl0, gl, h0, _, hB⟩ := R.ow e
  rw [el] at el'
  cases el'
  have hG : Same G (upd H l ho) := fun a u q => by
    have na : a ≠ l := fun z => by
      subst z
      rw [gl] at q
      cases q
    rw [upd_ne na]
    exact R.gh a u q
  refine ⟨⟨R.gr.gg, fun a u q => ?_, hG, R.gr.nw⟩, by simp [R.len], fun j c e2 => ?_, fun a c p q m1 m2 l' e1 e2 e3 e4 => ?_⟩
  · have na : a ≠ l := fun z => by
      subst z
      rw [h0] at q
      cases q
    rw [upd_ne na]
    exact R.gr.hh a u q
  · by_cases hj : i = j
    · subst hj
      obtain ⟨hi, _⟩ := List.getElem?_eq_some_iff.mp e
      rw [List.getElem?_set_self hi] at e2
      cases e2
      exact ⟨_, el, l, ho, rfl, upd_same, gl, h0, r, hB⟩
    · rw [List.getElem?_set_ne hj] at e2
      obtain ⟨o, h1, h2⟩ := R.rep j c e2
      refine ⟨o, h1, ?_⟩
      cases c with
      | no => trivial
      | sh d => exact h2
      | ow b2 n =>
        obtain ⟨k, hk, rfl, hm, gm, hm0, rm, hb⟩ := h2
        have nm : k ≠ l := fun z => hj (R.dis i j b b2 m n l e e2 el (by rw [h1, z]))
        exact ⟨k, hk, rfl, by rw [upd_ne nm]; exact hm, gm, hm0, rm, hb⟩
  · have key : ∀ {a : Nat} {p : Bool} {n : M}, (env.set i (.ow b m'))[a]? = some (.ow p n) → ∃ p' n', env[a]? = some (.ow p' n') := fun {a p n} q => by
      by_cases ha : i = a
      · subst ha
        exact ⟨_, _, e⟩
      · rw [List.getElem?_set_ne ha] at q
        exact ⟨_, _, q⟩
    obtain ⟨_, _, q1⟩ := key e1
    obtain ⟨_, _, q2⟩ := key e2
    exact R.dis a c _ _ _ _ l' q1 q2 e3 e4
/-- an object of its own is taken over by the shared part, and no cell holds it -/
theorem RepS.hand (R : RepS K Z G H σ env) {l : Addr} {ho : HO} (hl : H l = some ho) (gl : G l = none) (h0 : Z.H0 l = none) (ne : ∀ (j : Nat) (b : Bool) (n : M), env[j]? = some (.ow b n) → σ[j]? ≠ some (some (.ref l))) : RepS K Z (upd G l ho) H σ env := by
  have sm : Same G (upd G l ho) := same_upd gl
  refine ⟨⟨R.gr.gg.trans sm, R.gr.hh, fun a u q => ?_, fun a u q => ?_⟩, R.len, fun j c e2 => ?_, R.dis⟩
  · by_cases na : a = l
    · subst na
      rw [upd_same] at q
      rw [hl]
      exact q
    · rw [upd_ne na] at q
      exact R.gh a u q
  · by_cases na : a = l
    · subst na
      exact .inr (.inl h0)
    · rw [upd_ne na] at q
      exact R.gr.nw a u q
  · obtain ⟨o, h1, h2⟩ := R.rep j c e2
    refine ⟨o, h1, ?_⟩
    cases c with
    | no => trivial
    | sh d =>
      obtain ⟨v, ev, rv⟩ := h2
      exact ⟨v, ev, rv.mono sm⟩
    | ow b n =>
      obtain ⟨k, hk, rfl, hm, gm, hm0, rm, hb⟩ := h2
      have nm : k ≠ l := fun z => ne j b n e2 (by rw [h1, z])
      exact ⟨k, hk, rfl, hm, by rw [upd_ne nm]; exact gm, hm0, rm.mono sm, hb⟩
/-- a thing of a slot's own becomes shared -/
theorem RepS.freeze (R : RepS K Z G H σ env) {b : Bool} {m : M} (e : env[i]? = some (.ow b m)) : ∃ G', Same G G' ∧ RepS K Z G' H σ (env.set i (.sh m.d)) := by
  obtain ⟨l, ho, el, hl, gl, h0, r, _⟩ := R.ow e
  have hi : i < σ.length := (List.getElem?_eq_some_iff.mp el).1
  have R1 : RepS K Z G H σ (env.set i .no) := by
    have R2 := R.setNo (i := i) (o := some (.ref l))
    have es : σ.set i (some (.ref l)) = σ := by
      refine List.ext_getElem? fun j => ?_
      by_cases hj : i = j
      · subst hj
        rw [List.getElem?_set_self hi, el]
      · rw [List.getElem?_set_ne hj]
    rw [es] at R2
    exact R2
  have R3 := R1.hand hl gl h0 fun j c n q z => by
    by_cases hj : i = j
    · subst hj
      obtain ⟨hi', _⟩ := List.getElem?_eq_some_iff.mp q
      rw [List.getElem?_set_self (by simpa using hi')] at q
      cases q
    · rw [List.getElem?_set_ne hj] at q
      exact hj (R.dis i j _ _ _ _ l e q el z)
  have sm : Same G (upd G l ho) := same_upd gl
  refine ⟨upd G l ho, sm, ?_⟩
  have R4 := R3.setSh (i := i) (v := .ref l) (d := m.d) ((r.mono sm).rp upd_same)
  have es : σ.set i (some (.ref l)) = σ := by
    refine List.ext_getElem? fun j => ?_
    by_cases hj : i = j
    · subst hj
      rw [List.getElem?_set_self hi, el]
    · rw [List.getElem?_set_ne hj]
  rw [es, List.set_set] at R4
  exact R4
end
/-! bounds that stand still where a number is not known (Nat.ble looks at its first argument) -/
/-- below 2 ^ 64, whatever the sign -/
def smB (i : Int) : Bool := Nat.ble i.natAbs 18446744073709551615
/-- below 2 ^ 62 -/
def inR (i : Int) : Bool := Nat.ble i.natAbs 4611686018427387903
theorem smB_ok {i : Int} (h : smB i = true) : -(2 ^ 64) < i ∧ i < 2 ^ 64 := by
  have := Nat.le_of_ble_eq_true h
  omega
theorem smB_of {i : Int} (h : i.natAbs < 2 ^ 64) : smB i = true := Nat.ble_eq_true_of_le (by omega)
theorem inR_ok {i : Int} (h : inR i = true) : -(2 ^ 62) ≤ i ∧ i < 2 ^ 62 := by
  have := Nat.le_of_ble_eq_true h
  omega
theorem inR_of {i : Int} (h : i.natAbs < 2 ^ 62) : inR i = true := Nat.ble_eq_true_of_le (by omega)
end No
end

section
set_option Elab.async false
set_option linter.all false
set_option maxRecDepth 100000
set_option maxHeartbeats 1000000
namespace No
open PySem PySem.Spec PyProof.Rows L2

/-! ### results -/
structure Exc where
  cls : Str
  fs : List (Str × D)
inductive Res (α : Type) where
  | ok (a : α) (e : En) | exc (x : Exc) (e : En) | bad
def Res.bind {α β : Type} (r : Res α) (f : α → En → Res β) : Res β :=
  match r with
  | .ok a e => f a e
  | .exc x e => .exc x e
  | .bad => .bad
@[simp] theorem Res.bind_ok {α β : Type} (a : α) (e : En) (f : α → En → Res β) : (Res.ok a e).bind f = f a e := rfl
@[simp] theorem Res.bind_exc {α β : Type} (x : Exc) (e : En) (f : α → En → Res β) : (Res.exc x e).bind f = .exc x e := rfl
@[simp] theorem Res.bind_bad {α β : Type} (f : α → En → Res β) : (Res.bad : Res α).bind f = .bad := rfl
def ofO {α : Type} (o : Option α) (e : En) : Res α :=
  match o with
  | some a => .ok a e
  | none => .bad
@[simp] theorem ofO_some {α : Type} (a : α) (e : En) : ofO (some a) e = .ok a e := rfl
@[simp] theorem ofO_none {α : Type} (e : En) : ofO (none : Option α) e = .bad := rfl
abbrev ME := En → Res D
abbrev MT := En → Res Bool
abbrev MA := En → Res (List D)
abbrev MM := En → Res M
inductive Rt where
  | sh (d : D) | ow (m : M)
inductive Out where
  | nx (e : En) | rt (r : Rt) (e : En) | bk (e : En) | ct (e : En) | exc (x : Exc) (e : En) | bad
abbrev MS := En → Out

/-- the exception x as it lies in the heap: its class, its fields in its own dict -/
def ExcR (K : PySem.W.Frag) (mg : Str → Option Value) (G H : Hp) (x : Exc) (c : Value) (od : Option Addr) : Prop :=
  mg x.cls = some c ∧ ((x.fs = [] ∧ od = none) ∨ ∃ dd kvs, od = some dd ∧ G dd = some (.xd kvs) ∧ kvs.map (·.1) = x.fs.map (·.1) ∧ Rps K G (kvs.map (·.2)) (x.fs.map (·.2)))
theorem ExcR.mono {K : PySem.W.Frag} {mg : Str → Option Value} {G H G2 H2 : Hp} {x : Exc} {c : Value} {od : Option Addr} (h : ExcR K mg G H x c od) (s : Same G G2) : ExcR K mg G2 H2 x c od :=
  ⟨h.1, h.2.imp id fun ⟨dd, kvs, e, g, m, r⟩ => ⟨dd, kvs, e, s _ _ g, m, r.mono s⟩⟩

section
variable {α β : Type}
/-- what is shown of a result: r is what the reading of an expression gives from (G, H) on -/
def PostE (X : Cx) (W : WX) (Z : Zb) (σ : L2.St) (G : Hp) (r : Res α) (P : α → En → Hp → Hp → Prop) : Prop :=
  match r with
  | .ok a env => ∀ G2 H2, RepS X.K Z G2 H2 σ env → Same G G2 → P a env G2 H2
  | .exc x env => ∀ c od G2 H2, RepS X.K Z G2 H2 σ env → Same G G2 → ExcR X.K X.mg G2 H2 x c od → W c od σ H2
  | .bad => False
variable {X : Cx} {W : WX} {Z : Zb} {G G1 H : Hp} {σ : L2.St} {env : En} {r : Res α} {P P' : α → En → Hp → Hp → Prop}
theorem PostE.mono (h : PostE X W Z σ G r P) (e : Same G G1) : PostE X W Z σ G1 r P := by
  cases r with
  | ok a env => exact fun G2 H2 R s => h G2 H2 R (e.trans s)
  | exc x env => exact fun c od G2 H2 R s => h c od G2 H2 R (e.trans s)
  | bad => exact h
theorem PostE.imp (h : PostE X W Z σ G r P) (f : ∀ a env G2 H2, RepS X.K Z G2 H2 σ env → Same G G2 → P a env G2 H2 → P' a env G2 H2) : PostE X W Z σ G r P' := by
  cases r with
  | ok a env => exact fun G2 H2 R s => f a env G2 H2 R s (h G2 H2 R s)
  | exc x env => exact h
  | bad => exact h
theorem PostE.bind {f : α → En → Res β} {P : β → En → Hp → Hp → Prop} (h : PostE X W Z σ G (r.bind f) P) :
    PostE X W Z σ G r (fun a env G2 H2 => PostE X W Z σ G2 (f a env) P) := by
  cases r with
  | ok a env => exact fun G2 H2 R s => PostE.mono (r := f a env) h s
  | exc x env => exact h
  | bad => exact h
theorem PostE.ofO {o : Option α} (h : PostE X W Z σ G (ofO o env) P) : ∃ a, o = some a ∧ ∀ G2 H2, RepS X.K Z G2 H2 σ env → Same G G2 → P a env G2 H2 := by
  cases o with
  | none => exact h.elim
  | some a => exact ⟨a, rfl, h⟩
/-- nothing raised in a block -/
theorem PostE.nox {W' : WX} (h : PostE X W Z σ G r P) (hw : ∀ c od H2, W c od σ H2 → W' c od σ H2) : PostE X W' Z σ G r P := by
  cases r with
  | ok a env => exact h
  | exc x env => exact fun c od G2 H2 R s e => hw _ _ _ (h c od G2 H2 R s e)
  | bad => exact h
end

/-- a new thing at l that nothing else holds -/
structure Own (K : PySem.W.Frag) (Z : Zb) (G H : Hp) (σ : L2.St) (env : En) (l : Addr) (ho : HO) (m : M) : Prop where
  at_ : H l = some ho
  gl : G l = none
  h0 : Z.H0 l = none
  ne : ∀ (j : Nat) (b : Bool) (n : M), env[j]? = some (.ow b n) → σ[j]? ≠ some (some (.ref l))
  rps : HM K G ho m

theorem RepS.share {K : PySem.W.Frag} {Z : Zb} {G H : Hp} {σ : List (Option V)} {env : En} {l : Addr} {ho : HO} {m : M} (R : RepS K Z G H σ env) (O : Own K Z G H σ env l ho m) :
    RepS K Z (upd G l ho) H σ env ∧ Same G (upd G l ho) ∧ Rp K (upd G l ho) (.ref l) m.d :=
  ⟨R.hand O.at_ O.gl O.h0 O.ne, same_upd O.gl, (O.rps.mono (same_upd O.gl)).rp upd_same⟩
/-- a thing that is new in H is its own -/
theorem RepS.own {K : PySem.W.Frag} {Z : Zb} {G H : Hp} {σ : List (Option V)} {env : En} {l : Addr} {ho : HO} {m : M} (R : RepS K Z G H σ env) (hl : H l = none) (r : HM K G ho m) :
    RepS K Z G (upd H l ho) σ env ∧ Own K Z G (upd H l ho) σ env l ho m := by
  refine ⟨R.grow (Gr.hid R.gh hl), upd_same, R.gh.free hl, R.gr.hh.free hl, fun j b n e q => ?_, r⟩
  obtain ⟨k, hk, em, hm, _⟩ := R.ow e
  rw [em] at q
  cases q
  rw [hl] at hm
  cases hm
theorem HM.fl {K : PySem.W.Frag} {G : Hp} {xs : List V} {ds : List D} (r : Rps K G xs ds) : HM K G (.lst xs) (.fl ds) := ⟨xs, rfl, r⟩

/-! ### the judgements -/
structure DE (X : Cx) (W : WX) (e : Expr) (m : ME) : Prop where
  run : ∃ t : TE, PE X e t ∧ ∀ (Z : Zb) (G H : Hp) (σ : L2.St) (env : En) (Q : VK), RepS X.K Z G H σ env → PostE X W Z σ G (m env) (fun d _ G2 H2 => ∀ v, Rp X.K G2 v d → Q v H2) → t σ H Q
structure DO (X : Cx) (W : WX) (e : Expr) (m : MM) : Prop where
  run : ∃ t : TE, PE X e t ∧ ∀ (Z : Zb) (G H : Hp) (σ : L2.St) (env : En) (Q : VK), RepS X.K Z G H σ env → PostE X W Z σ G (m env) (fun ds env2 G2 H2 => ∀ l ho, Own X.K Z G2 H2 σ env2 l ho ds → Q (.ref l) H2) → t σ H Q
structure DT (X : Cx) (W : WX) (e : Expr) (m : MT) : Prop where
  run : ∃ t : TT, PT X e t ∧ ∀ (Z : Zb) (G H : Hp) (σ : L2.St) (env : En) (Q : Bool → Hp → Prop), RepS X.K Z G H σ env → PostE X W Z σ G (m env) (fun b _ _ H2 => Q b H2) → t σ H Q
structure DW (X : Cx) (W : WX) (e : Expr) (m : MT) : Prop where
  run : ∃ t : TT, PW X e t ∧ ∀ (Z : Zb) (G H : Hp) (σ : L2.St) (env : En) (Q : Bool → Hp → Prop), RepS X.K Z G H σ env → PostE X W Z σ G (m env) (fun b _ _ H2 => Q b H2) → t σ H Q
structure DA (X : Cx) (W : WX) (es : List Expr) (m : MA) : Prop where
  run : ∃ t : TA, PA X es t ∧ ∀ (Z : Zb) (G H : Hp) (σ : L2.St) (env : En) (Q : List V → Hp → Prop), RepS X.K Z G H σ env → PostE X W Z σ G (m env) (fun ds _ G2 H2 => ∀ vs, Rps X.K G2 vs ds → Q vs H2) → t σ H Q

section
variable {X : Cx} {W : WX} {a b : Expr} {ma mb : ME} {pos : Pos}

/-! ### names and constants -/
@[simp] def mVar (i : Nat) : ME := fun env => match env[i]? with
  | some (.sh d) => .ok d env
  | _ => .bad
theorem de_var (i : Nat) {x : Str} {pos : Pos} (h : PE X (.Name x pos) (tVar i)) : DE X W (.Name x pos) (mVar i) := by
  refine ⟨_, h, fun Z G H σ env Q R p => ?_⟩
  unfold mVar at p
  split at p
  · rename_i d e
    obtain ⟨v, ev, r⟩ := R.sh e
    exact ⟨v, ev, p G H R (Same.refl G) v r⟩
  · exact p.elim
@[simp] def mC (d : D) : ME := fun env => .ok d env
theorem de_c {e : Expr} {v : V} {d : D} (h : PE X e (tC v)) (r : ∀ G, Rp X.K G v d) : DE X W e (mC d) :=
  ⟨_, h, fun Z G H σ env Q R p => p G H R (Same.refl G) v (r G)⟩
theorem de_int {i : Int} {j : Nat} : DE X W (.Constant (.int i) j pos) (mC (.int i)) := de_c pe_int fun _ => .int i
theorem de_bl {b : Bool} {j : Nat} : DE X W (.Constant (.bool b) j pos) (mC (.bl b)) := de_c pe_bl fun _ => .bl b
theorem de_non {j : Nat} : DE X W (.Constant .none j pos) (mC .non) := de_c pe_non fun _ => .non
theorem de_str {x : Str} {j : Nat} : DE X W (.Constant (.str x) j pos) (mC (.str x)) := de_c pe_str fun _ => .str x

/-! ### operators -/
/-- an operation by values agrees with g on data -/
def OpD (K : PySem.W.Frag) (r : R2) (g : D → D → Option D) : Prop :=
  ∀ (G H : Hp) (x y : V) (dx dy d : D) (Q : VK), Same G H → Rp K G x dx → Rp K G y dy → g dx dy = some d → (∀ v G2 H2, Gr G H G2 H2 → Rp K G2 v d → Q v H2) → r x y H Q
/-- .. that makes a new list -/
def OpL (K : PySem.W.Frag) (r : R2) (g : D → D → Option (List D)) : Prop :=
  ∀ (G H : Hp) (x y : V) (dx dy : D) (d : List D) (Q : VK), Same G H → Rp K G x dx → Rp K G y dy → g dx dy = some d → (∀ p xs, H p = none → Rps K G xs d → Q (.ref p) (upd H p (.lst xs))) → r x y H Q
def UnD (K : PySem.W.Frag) (r : V → Hp → VK → Prop) (g : D → Option D) : Prop :=
  ∀ (G H : Hp) (x : V) (dx d : D) (Q : VK), Same G H → Rp K G x dx → g dx = some d → (∀ v G2 H2, Gr G H G2 H2 → Rp K G2 v d → Q v H2) → r x H Q
def CallD (K : PySem.W.Frag) (r : List V → Hp → VK → Prop) (g : List D → Option D) : Prop :=
  ∀ (G H : Hp) (xs : List V) (ds : List D) (d : D) (Q : VK), Same G H → Rps K G xs ds → g ds = some d → (∀ v G2 H2, Gr G H G2 H2 → Rp K G2 v d → Q v H2) → r xs H Q
def CallL (K : PySem.W.Frag) (r : List V → Hp → VK → Prop) (g : List D → Option (List D)) : Prop :=
  ∀ (G H : Hp) (xs : List V) (ds : List D) (d : List D) (Q : VK), Same G H → Rps K G xs ds → g ds = some d → (∀ p ys, H p = none → Rps K G ys d → Q (.ref p) (upd H p (.lst ys))) → r xs H Q

/-- a new list -/
@[simp] def mFl (m : MA) : MM := fun env => (m env).bind fun ds e => .ok (.fl ds) e
@[simp] def mBin {α : Type} (g : D → D → Option α) (ma mb : ME) : En → Res α := fun env => (ma env).bind fun x e1 => (mb e1).bind fun y e2 => ofO (g x y) e2
@[simp] def mUn {α : Type} (g : D → Option α) (ma : ME) : En → Res α := fun env => (ma env).bind fun x e1 => ofO (g x) e1
@[simp] def mCB {α : Type} (g : List D → Option α) (ma : MA) : En → Res α := fun env => (ma env).bind fun x e1 => ofO (g x) e1

theorem bin_core {α : Type} {Z : Zb} {G H : Hp} {σ : L2.St} {env : En} {ta tb : TE} {r : V → V → Hp → Prop} {g : D → D → Option α} {P : α → En → Hp → Hp → Prop}
    (ha : ∀ (Z : Zb) (G H : Hp) (σ : L2.St) (env : En) (Q : VK), RepS X.K Z G H σ env → PostE X W Z σ G (ma env) (fun d _ G2 H2 => ∀ v, Rp X.K G2 v d → Q v H2) → ta σ H Q)
    (hb : ∀ (Z : Zb) (G H : Hp) (σ : L2.St) (env : En) (Q : VK), RepS X.K Z G H σ env → PostE X W Z σ G (mb env) (fun d _ G2 H2 => ∀ v, Rp X.K G2 v d → Q v H2) → tb σ H Q)
    (R : RepS X.K Z G H σ env) (p : PostE X W Z σ G (mBin g ma mb env) P)
    (hr : ∀ x y dx dy d env2 G2 H2, RepS X.K Z G2 H2 σ env2 → Rp X.K G2 x dx → Rp X.K G2 y dy → g dx dy = some d → (∀ G3 H3, RepS X.K Z G3 H3 σ env2 → Same G2 G3 → P d env2 G3 H3) → r x y H2) :
    ta σ H fun x H1 => tb σ H1 fun y H2 => r x y H2 := by
  refine ha Z G H σ env _ R ((PostE.bind p).imp fun dx env1 G1 H1 R1 s1 p1 x rx => ?_)
  refine hb Z G1 H1 σ env1 _ R1 ((PostE.bind p1).imp fun dy env2 G2 H2 R2 s2 p2 y ry => ?_)
  obtain ⟨d, e, k⟩ := p2.ofO
  exact hr x y dx dy d env2 G2 H2 R2 (rx.mono s2) ry e k
theorem de_op {op : Operator} {r : R2} {g : D → D → Option D} (ho : OpR X (binaryOp op) r) (hg : OpD X.K r g) (ha : DE X W a ma) (hb : DE X W b mb) : DE X W (.BinOp a op b pos) (mBin g ma mb) := by
  obtain ⟨ta, pa, ka⟩ := ha.run
  obtain ⟨tb, pb, kb⟩ := hb.run
  refine ⟨_, pe_op ho pa pb, fun Z G H σ env Q R p => ?_⟩
  exact bin_core ka kb R p fun x y dx dy d env2 G2 H2 R2 rx ry e k => hg G2 H2 x y dx dy d Q R2.gh rx ry e fun v G3 H3 g3 r3 => k G3 H3 (R2.grow g3) g3.gg v r3
theorem do_op {op : Operator} {r : R2} {g : D → D → Option (List D)} (ho : OpR X (binaryOp op) r) (hg : OpL X.K r g) (ha : DE X W a ma) (hb : DE X W b mb) : DO X W (.BinOp a op b pos) (mFl (mBin g ma mb)) := by
  obtain ⟨ta, pa, ka⟩ := ha.run
  obtain ⟨tb, pb, kb⟩ := hb.run
  refine ⟨_, pe_op ho pa pb, fun Z G H σ env Q R p => ?_⟩
  exact bin_core ka kb R (PostE.bind p) fun x y dx dy d env2 G2 H2 R2 rx ry e k => hg G2 H2 x y dx dy d Q R2.gh rx ry e fun l xs hl rl => by
    obtain ⟨R3, O⟩ := R2.own hl (HM.fl rl)
    exact k _ _ (R2.grow (Gr.refl R2.gh)) (Same.refl _) _ _ R3 (Same.refl _) l _ O
theorem de_cmp {op : CmpOp} {r : R2} {g : D → D → Option D} (ho : OpR X (compareOp op) r) (hg : OpD X.K r g) (ha : DE X W a ma) (hb : DE X W b mb) (hm : behindInMarks op b = false) : DE X W (.Compare a [op] [b] pos) (mBin g ma mb) := by
  obtain ⟨ta, pa, ka⟩ := ha.run
  obtain ⟨tb, pb, kb⟩ := hb.run
  refine ⟨_, pe_cmpR ho pa pb hm, fun Z G H σ env Q R p => ?_⟩
  exact bin_core ka kb R p fun x y dx dy d env2 G2 H2 R2 rx ry e k => hg G2 H2 x y dx dy d Q R2.gh rx ry e fun v G3 H3 g3 r3 => k G3 H3 (R2.grow g3) g3.gg v r3
/-- a bool as a test -/
@[simp] def mB (m : ME) : MT := fun env => (m env).bind fun d e => match d with
  | .bl b => .ok b e
  | _ => .bad
theorem test_of {t : TE} (h : ∀ (Z : Zb) (G H : Hp) (σ : L2.St) (env : En) (Q : VK), RepS X.K Z G H σ env → PostE X W Z σ G (ma env) (fun d _ G2 H2 => ∀ v, Rp X.K G2 v d → Q v H2) → t σ H Q)
    (Z : Zb) (G H : Hp) (σ : L2.St) (env : En) (Q : Bool → Hp → Prop) (R : RepS X.K Z G H σ env) (p : PostE X W Z σ G (mB ma env) (fun b _ _ H2 => Q b H2)) :
    t σ H fun x H' => ∃ k, x = .bl k ∧ Q k H' := by
  refine h Z G H σ env _ R ((PostE.bind p).imp fun d env1 G1 H1 R1 s1 p1 v rv => ?_)
  cases rv with
  | bl b => exact ⟨b, rfl, p1 G1 H1 R1 (Same.refl _)⟩
  | _ => exact p1.elim
theorem dt_cmp {op : CmpOp} {r : R2} {g : D → D → Option D} (ho : OpR X (compareOp op) r) (hg : OpD X.K r g) (ha : DE X W a ma) (hb : DE X W b mb) (hm : behindInMarks op b = false) : DT X W (.Compare a [op] [b] pos) (mB (mBin g ma mb)) := by
  obtain ⟨ta, pa, ka⟩ := ha.run
  obtain ⟨tb, pb, kb⟩ := hb.run
  refine ⟨_, pt_cmpR ho pa pb hm, ?_⟩
  refine test_of (ma := mBin g ma mb) (t := tOp r ta tb) fun Z G H σ env Q R p => ?_
  exact bin_core ka kb R p fun x y dx dy d env2 G2 H2 R2 rx ry e k => hg G2 H2 x y dx dy d Q R2.gh rx ry e fun v G3 H3 g3 r3 => k G3 H3 (R2.grow g3) g3.gg v r3
theorem dt_val (ha : DE X W a ma) (he : ∀ whole, isTrue a X.env whole = (do let v ← whole; standAt a.pos; holding [v] (truthy v)) := by intro _; rfl) : DT X W a (mB ma) := by
  obtain ⟨ta, pa, ka⟩ := ha.run
  exact ⟨_, pt_val pa he, test_of ka⟩
theorem de_un {op : UnaryOp} {r : V → Hp → VK → Prop} {g : D → Option D} (ho : UnR X (unaryOp op) r) (hg : UnD X.K r g) (ha : DE X W a ma) : DE X W (.UnaryOp op a pos) (mUn g ma) := by
  obtain ⟨ta, pa, ka⟩ := ha.run
  refine ⟨_, pe_un ho pa, fun Z G H σ env Q R p => ?_⟩
  refine ka Z G H σ env _ R ((PostE.bind p).imp fun dx env1 G1 H1 R1 s1 p1 x rx => ?_)
  obtain ⟨d, e, k⟩ := p1.ofO
  exact hg G1 H1 x dx d Q R1.gh rx e fun v G3 H3 g3 r3 => k G3 H3 (R1.grow g3) g3.gg v r3
/-- a list of its own, shared -/
@[simp] def mL (m : MM) : ME := fun env => (m env).bind fun ds e => .ok ds.d e
theorem de_do {m : MM} (h : DO X W a m) : DE X W a (mL m) := by
  obtain ⟨t, pt, k⟩ := h.run
  refine ⟨t, pt, fun Z G H σ env Q R p => ?_⟩
  refine k Z G H σ env _ R ((PostE.bind p).imp fun ds env1 G1 H1 R1 s1 p1 l xs O => ?_)
  obtain ⟨R2, s2, r2⟩ := R1.share O
  exact p1 _ _ R2 s2 _ r2

/-! ### argument lists, displays -/
@[simp] def mNil : MA := fun env => .ok [] env
@[simp] def mCons (ma : ME) (mr : MA) : MA := fun env => (ma env).bind fun d e1 => (mr e1).bind fun ds e2 => .ok (d :: ds) e2
theorem da_nil : DA X W [] mNil := ⟨_, pa_nil, fun Z G H σ env Q R p => p G H R (Same.refl G) [] .nil⟩
theorem da_cons {es : List Expr} {mr : MA} (ha : DE X W a ma) (hr : DA X W es mr) (hs : starEach (a :: es) X.env = (false, eval a X.env) :: starEach es X.env := by rfl) : DA X W (a :: es) (mCons ma mr) := by
  obtain ⟨ta, pa, ka⟩ := ha.run
  obtain ⟨tr, pr, kr⟩ := hr.run
  refine ⟨_, pa_cons pa pr hs, fun Z G H σ env Q R p => ?_⟩
  refine ka Z G H σ env _ R ((PostE.bind p).imp fun dx env1 G1 H1 R1 s1 p1 x rx => ?_)
  refine kr Z G1 H1 σ env1 _ R1 ((PostE.bind p1).imp fun ds env2 G2 H2 R2 s2 p2 xs rs => ?_)
  exact p2 G2 H2 R2 (Same.refl _) (x :: xs) (.cons (rx.mono s2) rs)
@[simp] def gLst (ds : List D) : Option (List D) := if ds.length ≤ sizeLine then some ds else none
@[simp] def gTup (ds : List D) : Option D := if ds.length ≤ sizeLine then some (.tup ds) else none
theorem do_lst {es : List Expr} {m : MA} (h : DA X W es m) : DO X W (.List es pos) (mFl (mCB gLst m)) := by
  obtain ⟨t, pt, k⟩ := h.run
  refine ⟨_, pe_lst pt, fun Z G H σ env Q R p => ?_⟩
  refine k Z G H σ env _ R ((PostE.bind (PostE.bind p)).imp fun ds env1 G1 H1 R1 s1 p1 xs rs => ?_)
  obtain ⟨d, e, q⟩ := p1.ofO
  unfold gLst at e
  split at e
  · rename_i hz
    cases e
    refine ⟨by rw [rs.length]; exact hz, fun l hl => ?_⟩
    obtain ⟨R3, O⟩ := R1.own hl (HM.fl rs)
    exact q _ _ R1 (Same.refl _) _ _ R3 (Same.refl _) l _ O
  · cases e
theorem de_tup {x1 : Nat} {es : List Expr} {m : MA} (h : DA X W es m) : DE X W (.Tuple es x1 pos) (mCB gTup m) := by
  obtain ⟨t, pt, k⟩ := h.run
  refine ⟨_, pe_tup pt, fun Z G H σ env Q R p => ?_⟩
  refine k Z G H σ env _ R ((PostE.bind p).imp fun ds env1 G1 H1 R1 s1 p1 xs rs => ?_)
  obtain ⟨d, e, q⟩ := p1.ofO
  unfold gTup at e
  split at e
  · rename_i hz
    cases e
    refine ⟨by rw [rs.length]; exact hz, fun l hl => ?_⟩
    exact q _ _ (R1.grow (Gr.new R1.gh hl)) (same_upd (R1.gh.free hl)) _ (.tup upd_same (rs.mono (same_upd (R1.gh.free hl))))
  · cases e
/-- built-in functions, types, by their rule -/
theorem de_cb {es : List Expr} {m : MA} {e : Expr} {r : List V → Hp → VK → Prop} {g : List D → Option D} (hp : ∀ t, PA X es t → PE X e (tCB r t)) (hg : CallD X.K r g) (h : DA X W es m) : DE X W e (mCB g m) := by
  obtain ⟨t, pt, k⟩ := h.run
  refine ⟨_, hp t pt, fun Z G H σ env Q R p => ?_⟩
  refine k Z G H σ env _ R ((PostE.bind p).imp fun ds env1 G1 H1 R1 s1 p1 xs rs => ?_)
  obtain ⟨d, e, q⟩ := p1.ofO
  exact hg G1 H1 xs ds d Q R1.gh rs e fun v G3 H3 g3 r3 => q G3 H3 (R1.grow g3) g3.gg v r3
theorem do_cb {es : List Expr} {m : MA} {e : Expr} {r : List V → Hp → VK → Prop} {g : List D → Option (List D)} (hp : ∀ t, PA X es t → PE X e (tCB r t)) (hg : CallL X.K r g) (h : DA X W es m) : DO X W e (mFl (mCB g m)) := by
  obtain ⟨t, pt, k⟩ := h.run
  refine ⟨_, hp t pt, fun Z G H σ env Q R p => ?_⟩
  refine k Z G H σ env _ R ((PostE.bind (PostE.bind p)).imp fun ds env1 G1 H1 R1 s1 p1 xs rs => ?_)
  obtain ⟨d, e, q⟩ := p1.ofO
  exact hg G1 H1 xs ds d Q R1.gh rs e fun l ys hl rl => by
    obtain ⟨R3, O⟩ := R1.own hl (HM.fl rl)
    exact q _ _ R1 (Same.refl _) _ _ R3 (Same.refl _) l _ O
/-- a subscript -/
theorem de_ix {r : R2} {g : D → D → Option D} (hr : IxR X r) (hg : OpD X.K r g) (ha : DE X W a ma) (hb : DE X W b mb) (hs : PlainIx b) : DE X W (.Subscript a b pos) (mBin g ma mb) := by
  obtain ⟨ta, pa, ka⟩ := ha.run
  obtain ⟨tb, pb, kb⟩ := hb.run
  refine ⟨_, pe_ix hr pa pb hs, fun Z G H σ env Q R p => ?_⟩
  exact bin_core ka kb R p fun x y dx dy d env2 G2 H2 R2 rx ry e k => hg G2 H2 x y dx dy d Q R2.gh rx ry e fun v G3 H3 g3 r3 => k G3 H3 (R2.grow g3) g3.gg v r3
end
end No
end

section
set_option Elab.async false
set_option linter.all false
set_option maxRecDepth 100000
set_option maxHeartbeats 1000000
namespace No
open PySem PySem.Spec PyProof.Rows L2

/-! ### the canonical readings -/
def cE (X : Cx) (W : WX) (m : ME) : TE := fun σ H Q => ∃ Z G env, RepS X.K Z G H σ env ∧ PostE X W Z σ G (m env) (fun d _ G2 H2 => ∀ v, Rp X.K G2 v d → Q v H2)
def cT (X : Cx) (W : WX) (m : MT) : TT := fun σ H Q => ∃ Z G env, RepS X.K Z G H σ env ∧ PostE X W Z σ G (m env) (fun b _ _ H2 => Q b H2)
theorem DE.canon {X : Cx} {W : WX} {e : Expr} {m : ME} (h : DE X W e m) : PE X e (cE X W m) := by
  obtain ⟨t, p, k⟩ := h.run
  exact ⟨fun pins s σ H Q I ⟨Z, G, env, R, q⟩ => p.run pins s σ H Q I (k Z G H σ env Q R q)⟩
theorem DT.canon {X : Cx} {W : WX} {e : Expr} {m : MT} (h : DT X W e m) : PT X e (cT X W m) := by
  obtain ⟨t, p, k⟩ := h.run
  exact ⟨fun pins s σ H Q I ⟨Z, G, env, R, q⟩ => p.run pins s σ H Q I (k Z G H σ env Q R q)⟩

section
variable {X : Cx} {W : WX} {a b c : Expr} {ma mb mc : ME} {ta tb tc : MT} {rest : List Expr} {pos : Pos}
/-! ### tests -/
theorem DW.dt (h : DW X W a ta) : DT X W a ta := by
  obtain ⟨t, p, k⟩ := h.run
  exact ⟨t, p.pt, k⟩
theorem dw_and1 (h : DT X W a ta) : DW X W (.BoolOp .And [a] pos) ta := by
  obtain ⟨t, p, k⟩ := h.run
  exact ⟨t, pw_and1 p, k⟩
theorem dw_or1 (h : DT X W a ta) : DW X W (.BoolOp .Or [a] pos) ta := by
  obtain ⟨t, p, k⟩ := h.run
  exact ⟨t, pw_or1 p, k⟩
@[simp] def mAnd (ta tb : MT) : MT := fun env => (ta env).bind fun x e1 => if x = true then tb e1 else .ok false e1
@[simp] def mOr (ta tb : MT) : MT := fun env => (ta env).bind fun x e1 => if x = true then .ok true e1 else tb e1
@[simp] def mNot (ta : MT) : MT := fun env => (ta env).bind fun x e1 => .ok (!x) e1
theorem dw_and (ha : DT X W a ta) (hb : DW X W (.BoolOp .And (b :: rest) pos) tb) : DW X W (.BoolOp .And (a :: b :: rest) pos) (mAnd ta tb) := by
  obtain ⟨t, p, k⟩ := ha.run
  obtain ⟨u, p2, k2⟩ := hb.run
  refine ⟨_, pw_and p p2, fun Z G H σ env Q R q => ?_⟩
  refine k Z G H σ env _ R ((PostE.bind q).imp fun x env1 G1 H1 R1 s1 q1 => ?_)
  cases x with
  | true => exact k2 Z G1 H1 σ env1 Q R1 q1
  | false => exact q1 G1 H1 R1 (Same.refl _)
theorem dw_or (ha : DT X W a ta) (hb : DW X W (.BoolOp .Or (b :: rest) pos) tb) : DW X W (.BoolOp .Or (a :: b :: rest) pos) (mOr ta tb) := by
  obtain ⟨t, p, k⟩ := ha.run
  obtain ⟨u, p2, k2⟩ := hb.run
  refine ⟨_, pw_or p p2, fun Z G H σ env Q R q => ?_⟩
  refine k Z G H σ env _ R ((PostE.bind q).imp fun x env1 G1 H1 R1 s1 q1 => ?_)
  cases x with
  | true => exact q1 G1 H1 R1 (Same.refl _)
  | false => exact k2 Z G1 H1 σ env1 Q R1 q1
theorem dt_not (ha : DT X W a ta) : DT X W (.UnaryOp .Not a pos) (mNot ta) := by
  obtain ⟨t, p, k⟩ := ha.run
  refine ⟨_, pt_not p, fun Z G H σ env Q R q => ?_⟩
  exact k Z G H σ env _ R ((PostE.bind q).imp fun x env1 G1 H1 R1 s1 q1 => q1 G1 H1 R1 (Same.refl _))
/-- and, or, not of bools as values -/
@[simp] def mBl (t : MT) : ME := fun env => (t env).bind fun x e1 => .ok (.bl x) e1
theorem de_one {op : BoolOp} (h : DE X W a ma) : DE X W (.BoolOp op [a] pos) ma := by
  obtain ⟨t, p, k⟩ := h.run
  exact ⟨t, pe_one p, k⟩
theorem de_and (ha : DE X W a ma) (hb : DE X W (.BoolOp .And (b :: rest) pos) mb) : DE X W (.BoolOp .And (a :: b :: rest) pos) (fun env => (mB ma env).bind fun x e1 => if x = true then mb e1 else .ok (.bl false) e1) := by
  obtain ⟨t, p, k⟩ := ha.run
  obtain ⟨u, p2, k2⟩ := hb.run
  refine ⟨_, pe_and p p2, fun Z G H σ env Q R q => ?_⟩
  refine test_of k Z G H σ env (fun c H1 => if c = true then u σ H1 Q else Q (.bl false) H1) R ((PostE.bind q).imp fun x env1 G1 H1 R1 s1 q1 => ?_)
  cases x with
  | true => exact k2 Z G1 H1 σ env1 Q R1 q1
  | false => exact q1 G1 H1 R1 (Same.refl _) _ (.bl false)
theorem de_or (ha : DE X W a ma) (hb : DE X W (.BoolOp .Or (b :: rest) pos) mb) : DE X W (.BoolOp .Or (a :: b :: rest) pos) (fun env => (mB ma env).bind fun x e1 => if x = true then .ok (.bl true) e1 else mb e1) := by
  obtain ⟨t, p, k⟩ := ha.run
  obtain ⟨u, p2, k2⟩ := hb.run
  refine ⟨_, pe_or p p2, fun Z G H σ env Q R q => ?_⟩
  refine test_of k Z G H σ env (fun c H1 => if c = true then Q (.bl true) H1 else u σ H1 Q) R ((PostE.bind q).imp fun x env1 G1 H1 R1 s1 q1 => ?_)
  cases x with
  | true => exact q1 G1 H1 R1 (Same.refl _) _ (.bl true)
  | false => exact k2 Z G1 H1 σ env1 Q R1 q1
theorem de_not (ha : DE X W a ma) : DE X W (.UnaryOp .Not a pos) (fun env => (mB ma env).bind fun x e1 => .ok (.bl (!x)) e1) := by
  obtain ⟨t, p, k⟩ := ha.run
  refine ⟨_, pe_not p, fun Z G H σ env Q R q => ?_⟩
  exact test_of k Z G H σ env (fun c H1 => Q (.bl (!c)) H1) R ((PostE.bind q).imp fun x env1 G1 H1 R1 s1 q1 => q1 G1 H1 R1 (Same.refl _) _ (.bl _))
@[simp] def mIf {α : Type} (t : MT) (ma mb : En → Res α) : En → Res α := fun env => (t env).bind fun x e1 => if x = true then ma e1 else mb e1
theorem de_if (hc : DT X W c tc) (ha : DE X W a ma) (hb : DE X W b mb) : DE X W (.IfExp c a b pos) (mIf tc ma mb) := by
  obtain ⟨t, p, k⟩ := hc.run
  obtain ⟨u, p2, k2⟩ := ha.run
  obtain ⟨w, p3, k3⟩ := hb.run
  refine ⟨_, pe_ifExp p p2 p3, fun Z G H σ env Q R q => ?_⟩
  refine k Z G H σ env _ R ((PostE.bind q).imp fun x env1 G1 H1 R1 s1 q1 => ?_)
  cases x with
  | true => exact k2 Z G1 H1 σ env1 Q R1 q1
  | false => exact k3 Z G1 H1 σ env1 Q R1 q1
/-- a op1 b op2 c -/
@[simp] def mChain (g g' : D → D → Option D) (ma mb mc : ME) : ME := fun env => (ma env).bind fun x e1 => (mb e1).bind fun y e2 => (ofO (g x y) e2).bind fun z e3 => match z with
  | .bl true => (mc e3).bind fun w e4 => ofO (g' y w) e4
  | .bl false => .ok (.bl false) e3
  | _ => .bad
theorem chain_core {op op' : CmpOp} {r r' : R2} {g g' : D → D → Option D} (hg : OpD X.K r g) (hg' : OpD X.K r' g') {t u w : TE}
    (k : ∀ (Z : Zb) (G H : Hp) (σ : L2.St) (env : En) (Q : VK), RepS X.K Z G H σ env → PostE X W Z σ G (ma env) (fun d _ G2 H2 => ∀ v, Rp X.K G2 v d → Q v H2) → t σ H Q)
    (k2 : ∀ (Z : Zb) (G H : Hp) (σ : L2.St) (env : En) (Q : VK), RepS X.K Z G H σ env → PostE X W Z σ G (mb env) (fun d _ G2 H2 => ∀ v, Rp X.K G2 v d → Q v H2) → u σ H Q)
    (k3 : ∀ (Z : Zb) (G H : Hp) (σ : L2.St) (env : En) (Q : VK), RepS X.K Z G H σ env → PostE X W Z σ G (mc env) (fun d _ G2 H2 => ∀ v, Rp X.K G2 v d → Q v H2) → w σ H Q)
    (Z : Zb) (G H : Hp) (σ : L2.St) (env : En) (Q : VK) (R : RepS X.K Z G H σ env) (q : PostE X W Z σ G (mChain g g' ma mb mc env) (fun d _ G2 H2 => ∀ v, Rp X.K G2 v d → Q v H2)) : tChain r r' t u w σ H Q := by
  refine k Z G H σ env _ R ((PostE.bind q).imp fun dx env1 G1 H1 R1 s1 q1 x rx => ?_)
  refine k2 Z G1 H1 σ env1 _ R1 ((PostE.bind q1).imp fun dy env2 G2 H2 R2 s2 q2 y ry => ?_)
  obtain ⟨dz, e, q3⟩ := (PostE.bind q2).ofO
  refine hg G2 H2 x y dx dy dz _ R2.gh (rx.mono s2) ry e fun z G3 H3 g3 rz => ?_
  have q4 := q3 G3 H3 (R2.grow g3) g3.gg
  cases rz with
  | bl b0 =>
    cases b0 with
    | false => exact ⟨false, rfl, q4 G3 H3 (R2.grow g3) (Same.refl _) _ (.bl false)⟩
    | true =>
      refine ⟨true, rfl, ?_⟩
      refine k3 Z G3 H3 σ _ _ (R2.grow g3) ((PostE.bind q4).imp fun dw env4 G4 H4 R4 s4 q5 v rv => ?_)
      obtain ⟨d, e5, q6⟩ := q5.ofO
      exact hg' G4 H4 y v dy dw d Q R4.gh ((ry.mono g3.gg).mono s4) rv e5 fun v' G5 H5 g5 r5 => q6 G5 H5 (R4.grow g5) g5.gg v' r5
  | _ => exact q4.elim
theorem de_chain {op op' : CmpOp} {r r' : R2} {g g' : D → D → Option D} (ho : OpR X (compareOp op) r) (ho' : OpR X (compareOp op') r') (hg : OpD X.K r g) (hg' : OpD X.K r' g') (ha : DE X W a ma) (hb : DE X W b mb) (hc : DE X W c mc)
    (hm : lastMarks [op, op'] [b, c] = false := by with_unfolding_all rfl) : DE X W (.Compare a [op, op'] [b, c] pos) (mChain g g' ma mb mc) := by
  obtain ⟨t, p, k⟩ := ha.run
  obtain ⟨u, p2, k2⟩ := hb.run
  obtain ⟨w, p3, k3⟩ := hc.run
  exact ⟨_, pe_chain ho ho' p p2 p3 hm, chain_core (op := op) (op' := op') hg hg' k k2 k3⟩
theorem dt_chain {op op' : CmpOp} {r r' : R2} {g g' : D → D → Option D} (ho : OpR X (compareOp op) r) (ho' : OpR X (compareOp op') r') (hg : OpD X.K r g) (hg' : OpD X.K r' g') (ha : DE X W a ma) (hb : DE X W b mb) (hc : DE X W c mc)
    (hm : lastMarks [op, op'] [b, c] = false := by with_unfolding_all rfl) : DT X W (.Compare a [op, op'] [b, c] pos) (mB (mChain g g' ma mb mc)) := by
  obtain ⟨t, p, k⟩ := ha.run
  obtain ⟨u, p2, k2⟩ := hb.run
  obtain ⟨w, p3, k3⟩ := hc.run
  refine ⟨_, pt_chain ho ho' p p2 p3 hm, ?_⟩
  exact test_of (ma := mChain g g' ma mb mc) (chain_core (op := op) (op' := op') hg hg' k k2 k3)
end

/-! ### borrowing: a slot's own list is read as shared data by an expression whose value is a bool or an int -/
def scalD : D → Bool
  | .bl _ => true
  | .int _ => true
  | .str _ => true
  | .non => true
  | _ => false
theorem Rp.scal {K : PySem.W.Frag} {G G' : Hp} {v : V} {d : D} (r : Rp K G v d) (h : scalD d = true) : Rp K G' v d := by
  cases r with
  | non => exact .non
  | bl b => exact .bl b
  | int i => exact .int i
  | str x => exact .str x
  | _ => exact absurd (show false = true from h) Bool.false_ne_true
/-- the slot i, frozen -/
@[simp] def frz (i : Nat) (env : En) : En := match env[i]? with
  | some (.ow _ m) => env.set i (.sh m.d)
  | _ => env
theorem RepS.frz {K : PySem.W.Frag} {Z : Zb} {G H : Hp} {σ : List (Option V)} {env : En} (R : RepS K Z G H σ env) (i : Nat) : ∃ G', Same G G' ∧ RepS K Z G' H σ (frz i env) := by
  unfold No.frz
  split
  · rename_i ds e
    exact R.freeze e
  · exact ⟨G, Same.refl G, R⟩
@[simp] def frzC : Cell → Cell
  | .ow _ m => .sh m.d
  | c => c
/-- all slots frozen: the shared part is then the whole of what the env holds; nothing of H is changed -/
theorem RepS.all {K : PySem.W.Frag} {Z : Zb} {G H : Hp} {σ : List (Option V)} {env : En} (R : RepS K Z G H σ env) : ∃ G', Same G G' ∧ RepS K ⟨G', H, Z.B⟩ G' H σ (env.map frzC) := by
  classical
  let P : Addr → Prop := fun a => ∃ (i : Nat) (b : Bool) (m : M), env[i]? = some (.ow b m) ∧ σ[i]? = some (some (.ref a))
  let G' : Hp := fun a => if P a then H a else G a
  have sg : Same G G' := fun a u q => by
    by_cases p : P a
    · obtain ⟨i, b, m, e, es⟩ := p
      obtain ⟨l, ho, el, hl, gl, _⟩ := R.ow e
      rw [es] at el
      cases el
      rw [gl] at q
      cases q
    · show (if P a then H a else G a) = some u
      rw [if_neg p]
      exact q
  have gh : Same G' H := fun a u q => by
    have q' : (if P a then H a else G a) = some u := q
    by_cases p : P a
    · rw [if_pos p] at q'
      exact q'
    · rw [if_neg p] at q'
      exact R.gh a u q'
  refine ⟨G', sg, Gr.refl gh, by simp [R.len], fun i c e => ?_, fun a b p q m n l' e1 e2 e3 e4 => ?_⟩
  · rw [List.getElem?_map] at e
    cases q : env[i]? with
    | none =>
      rw [q] at e
      cases e
    | some c0 =>
      rw [q] at e
      cases e
      obtain ⟨o, h1, h2⟩ := R.rep i c0 q
      refine ⟨o, h1, ?_⟩
      cases c0 with
      | no => trivial
      | sh d =>
        obtain ⟨v, ev, rv⟩ := h2
        exact ⟨v, ev, rv.mono sg⟩
      | ow b n =>
        obtain ⟨k, ho, rfl, hm, gm, hm0, rm, _⟩ := h2
        refine ⟨_, rfl, (rm.mono sg).rp ?_⟩
        show (if P k then H k else G k) = _
        rw [if_pos (show P k from ⟨i, b, n, q, h1⟩)]
        exact hm
  · rw [List.getElem?_map] at e1
    cases q : env[a]? with
    | none =>
      rw [q] at e1
      cases e1
    | some c0 =>
      rw [q] at e1
      cases c0 with
      | no => cases e1
      | sh d => cases e1
      | ow b n => cases e1
/-- an expression that reads all slots as shared data, its value a bool, an int, a text or None -/
@[simp] def mBor (m : ME) : ME := fun env => match m (env.map frzC) with
  | .ok d _ => if scalD d = true then .ok d env else .bad
  | _ => .bad
@[simp] def mBorT (m : MT) : MT := fun env => match m (env.map frzC) with
  | .ok d _ => .ok d env
  | _ => .bad
def mBorO (m : MM) : MM := fun env => match m (env.map frzC) with
  | .ok (.fl ds) _ => if ds.all scalD = true then .ok (.fl ds) env else .bad
  | _ => .bad
theorem Rps.scal {K : PySem.W.Frag} {G G' : Hp} : ∀ {vs : List V} {ds : List D}, Rps K G vs ds → ds.all scalD = true → Rps K G' vs ds
  | _, _, .nil, _ => .nil
  | _, _, .cons r t, h => by
    rw [List.all_cons, Bool.and_eq_true] at h
    exact .cons (r.scal h.1) (Rps.scal t h.2)
section
variable {X : Cx} {W : WX} {a : Expr}
theorem de_bor {m : ME} (h : DE X W a m) : DE X W a (mBor m) := by
  obtain ⟨t, p, k⟩ := h.run
  refine ⟨t, p, fun Z G H σ env Q R q => ?_⟩
  obtain ⟨G', sg, R'⟩ := R.all
  unfold mBor at q
  refine k ⟨G', H, Z.B⟩ G' H σ _ Q R' ?_
  generalize m (env.map frzC) = r at q
  cases r with
  | ok d e =>
    intro G2 H2 R2 s2 v rv
    dsimp only at q
    split at q
    · rename_i hs
      exact q G H2 (R.grow ⟨Same.refl G, R2.gr.hh, fun a u z => R2.gr.hh a u (R.gh a u z), fun _ _ z => .inl z⟩) (Same.refl G) v (rv.scal hs)
    · exact q.elim
  | exc x e => exact q.elim
  | bad => exact q.elim
theorem dt_bor {m : MT} (h : DT X W a m) : DT X W a (mBorT m) := by
  obtain ⟨t, p, k⟩ := h.run
  refine ⟨t, p, fun Z G H σ env Q R q => ?_⟩
  obtain ⟨G', sg, R'⟩ := R.all
  unfold mBorT at q
  refine k ⟨G', H, Z.B⟩ G' H σ _ Q R' ?_
  generalize m (env.map frzC) = r at q
  cases r with
  | ok d e =>
    intro G2 H2 R2 s2
    exact q G H2 (R.grow ⟨Same.refl G, R2.gr.hh, fun a u z => R2.gr.hh a u (R.gh a u z), fun _ _ z => .inl z⟩) (Same.refl G)
  | exc x e => exact q.elim
  | bad => exact q.elim
theorem do_bor {m : MM} (h : DO X W a m) : DO X W a (mBorO m) := by
  obtain ⟨t, p, k⟩ := h.run
  refine ⟨t, p, fun Z G H σ env Q R q => ?_⟩
  obtain ⟨G', sg, R'⟩ := R.all
  unfold mBorO at q
  refine k ⟨G', H, Z.B⟩ G' H σ _ Q R' ?_
  generalize m (env.map frzC) = r at q
  cases r with
  | ok d e =>
    intro G2 H2 R2 s2 l ho O
    cases d with
    | fl ds =>
      dsimp only at q
      split at q
      · rename_i hs
        obtain ⟨xs, rfl, rs⟩ := O.rps
        refine q G H2 (R.grow ⟨Same.refl G, R2.gr.hh, fun a u z => R2.gr.hh a u (R.gh a u z), fun _ _ z => .inl z⟩) (Same.refl G) l _ ⟨O.at_, R.gh.free O.h0, R.gr.hh.free O.h0, fun j b n e1 e2 => ?_, HM.fl (rs.scal hs)⟩
        obtain ⟨m', ys, em, hm, _⟩ := R.ow e1
        rw [em] at e2
        cases e2
        have z : H l = none := O.h0
        rw [z] at hm
        cases hm
      · exact q.elim
    | ft ds => exact q.elim
    | fk ds => exact q.elim
  | exc x e => exact q.elim
  | bad => exact q.elim
end

/-! ### statements -/
section
variable {X : Cx} {W : WX} {Z : Zb} {G H : Hp} {σ : L2.St} {env : En}
def PostS (X : Cx) (W : WX) (Z : Zb) (Gs : Hp) (r : Out) (Dn : Ends) : Prop :=
  match r with
  | .nx env => ∀ σ G H, RepS X.K Z G H σ env → Same Gs G → Dn.nx σ H
  | .bk env => ∀ σ G H, RepS X.K Z G H σ env → Same Gs G → Dn.bk σ H
  | .ct env => ∀ σ G H, RepS X.K Z G H σ env → Same Gs G → Dn.ct σ H
  | .rt (.sh d) env => ∀ σ G H v, RepS X.K Z G H σ env → Rp X.K G v d → Dn.rt v H
  | .rt (.ow m) env => ∀ σ G H l ho, RepS X.K Z G H σ env → Own X.K Z G H σ env l ho m → Dn.rt (.ref l) H
  | .exc x env => ∀ σ G H c od, RepS X.K Z G H σ env → Same Gs G → ExcR X.K X.mg G H x c od → W c od σ H
  | .bad => False
theorem PostS.mono {Gs Gt : Hp} {r : Out} {Dn : Ends} (h : PostS X W Z Gs r Dn) (e : Same Gs Gt) : PostS X W Z Gt r Dn := by
  cases r with
  | nx env => exact fun σ G H R s => h σ G H R (e.trans s)
  | bk env => exact fun σ G H R s => h σ G H R (e.trans s)
  | ct env => exact fun σ G H R s => h σ G H R (e.trans s)
  | rt x env =>
    cases x with
    | sh d => exact h
    | ow ds => exact h
  | exc x env => exact fun σ G H c od R s => h σ G H c od R (e.trans s)
  | bad => exact h
end
structure DS (X : Cx) (W : WX) (st : Stmt) (m : MS) : Prop where
  run : ∃ t : TS, PS X st t ∧ ∀ (Z : Zb) (G H : Hp) (σ : L2.St) (env : En) (Dn : Ends), RepS X.K Z G H σ env → PostS X W Z G (m env) Dn → t Dn σ H
structure DB (X : Cx) (W : WX) (st : List Stmt) (m : MS) : Prop where
  run : ∃ t : TS, PSs X st t ∧ ∀ (Z : Zb) (G H : Hp) (σ : L2.St) (env : En) (Dn : Ends), RepS X.K Z G H σ env → PostS X W Z G (m env) Dn → t Dn σ H
/-- a result, then a statement -/
def Res.so {α : Type} (r : Res α) (f : α → En → Out) : Out := match r with
  | .ok a e => f a e
  | .exc x e => .exc x e
  | .bad => .bad
@[simp] theorem Res.so_ok {α : Type} (a : α) (e : En) (f : α → En → Out) : (Res.ok a e).so f = f a e := rfl
@[simp] theorem Res.so_exc {α : Type} (x : Exc) (e : En) (f : α → En → Out) : (Res.exc x e).so f = .exc x e := rfl
@[simp] theorem Res.so_bad {α : Type} (f : α → En → Out) : (Res.bad : Res α).so f = .bad := rfl
theorem PostS.so {α : Type} {X : Cx} {W : WX} {Z : Zb} {G : Hp} {σ : L2.St} {r : Res α} {f : α → En → Out} {Dn : Ends} (h : PostS X W Z G (r.so f) Dn) :
    PostE X W Z σ G r (fun a e G2 _ => PostS X W Z G2 (f a e) Dn) := by
  cases r with
  | ok a e => exact fun G2 _ _ s => PostS.mono (r := f a e) h s
  | exc x e => exact fun c od G2 H2 R s q => h σ G2 H2 c od R s q
  | bad => exact h
section
variable {X : Cx} {W : WX} {st : Stmt} {rest : List Stmt} {m m2 : MS} {e : Expr} {pos : Pos}
@[simp] def sNx : MS := fun env => .nx env
@[simp] def sSeq (m m2 : MS) : MS := fun env => match m env with
  | .nx e => m2 e
  | o => o
theorem db_nil : DB X W [] sNx := ⟨_, pss_nil, fun Z G H σ env Dn R p => p σ G H R (Same.refl _)⟩
theorem db_one (h : DS X W st m) : DB X W [st] m := by
  obtain ⟨t, p, k⟩ := h.run
  exact ⟨t, pss_one p, k⟩
theorem db_cons (h : DS X W st m) (h2 : DB X W rest m2) : DB X W (st :: rest) (sSeq m m2) := by
  obtain ⟨t, p, k⟩ := h.run
  obtain ⟨u, p2, k2⟩ := h2.run
  refine ⟨_, pss_cons p p2, fun Z G H σ env Dn R q => ?_⟩
  refine k Z G H σ env _ R ?_
  unfold sSeq at q
  generalize m env = r at q
  cases r with
  | nx e1 => exact fun σ1 G1 H1 R1 s1 => k2 Z G1 H1 σ1 e1 Dn R1 (PostS.mono (r := m2 e1) q s1)
  | rt x e1 =>
    cases x with
    | sh d => exact q
    | ow ds => exact q
  | bk e1 => exact q
  | ct e1 => exact q
  | exc x e1 => exact q
  | bad => exact q
theorem ds_pass : DS X W (.Pass pos) sNx := ⟨_, ps_pass, fun Z G H σ env Dn R p => p σ G H R (Same.refl _)⟩
theorem ds_break : DS X W (.Break pos) (fun env => .bk env) := ⟨_, ps_break, fun Z G H σ env Dn R p => p σ G H R (Same.refl _)⟩
theorem ds_continue : DS X W (.Continue pos) (fun env => .ct env) := ⟨_, ps_continue, fun Z G H σ env Dn R p => p σ G H R (Same.refl _)⟩
/-- name = e, shared -/
@[simp] def sSet (i : Nat) (m : ME) : MS := fun env => (m env).so fun d e => .nx (e.set i (.sh d))
@[simp] def sSetO (i : Nat) (m : MM) : MS := fun env => (m env).so fun ds e => .nx (e.set i (.ow false ds))
theorem ds_set {i : Nat} {tg : Expr} {m : ME} (h : DE X W e m) (hp : ∀ t, PE X e t → PS X (.Assign [tg] e pos) (tAsg t (gName i))) : DS X W (.Assign [tg] e pos) (sSet i m) := by
  obtain ⟨t, p, k⟩ := h.run
  refine ⟨_, hp t p, fun Z G H σ env Dn R q => ?_⟩
  exact k Z G H σ env _ R ((PostS.so q).imp fun d e1 G1 H1 R1 s1 q1 v rv => q1 _ G1 H1 (R1.setSh rv) (Same.refl _))
theorem ds_setO {i : Nat} {tg : Expr} {m : MM} (h : DO X W e m) (hp : ∀ t, PE X e t → PS X (.Assign [tg] e pos) (tAsg t (gName i))) : DS X W (.Assign [tg] e pos) (sSetO i m) := by
  obtain ⟨t, p, k⟩ := h.run
  refine ⟨_, hp t p, fun Z G H σ env Dn R q => ?_⟩
  exact k Z G H σ env _ R ((PostS.so q).imp fun ds e1 G1 H1 R1 s1 q1 l xs O => q1 _ G1 H1 (R1.setOw O.at_ O.gl O.h0 O.rps fun j b n _ => O.ne j b n) (Same.refl _))
/-- return -/
@[simp] def sRet (m : ME) : MS := fun env => (m env).so fun d e => .rt (.sh d) e
@[simp] def sRetO (m : MM) : MS := fun env => (m env).so fun ds e => .rt (.ow ds) e
theorem ds_ret {m : ME} (h : DE X W e m) : DS X W (.Return (some e) pos) (sRet m) := by
  obtain ⟨t, p, k⟩ := h.run
  refine ⟨_, ps_ret p, fun Z G H σ env Dn R q => ?_⟩
  exact k Z G H σ env _ R ((PostS.so q).imp fun d e1 G1 H1 R1 s1 q1 v rv => q1 σ G1 H1 v R1 rv)
theorem ds_retO {m : MM} (h : DO X W e m) : DS X W (.Return (some e) pos) (sRetO m) := by
  obtain ⟨t, p, k⟩ := h.run
  refine ⟨_, ps_ret p, fun Z G H σ env Dn R q => ?_⟩
  exact k Z G H σ env _ R ((PostS.so q).imp fun ds e1 G1 H1 R1 s1 q1 l xs O => q1 σ G1 H1 l xs R1 O)
/-- return of a slot's own list -/
@[simp] def sRetV (i : Nat) : MS := fun env => match env[i]? with
  | some (.ow false m) => .rt (.ow m) (env.set i .no)
  | _ => .bad
theorem ds_retV {i : Nat} (h : PE X e (tVar i)) : DS X W (.Return (some e) pos) (sRetV i) := by
  refine ⟨_, ps_ret h, fun Z G H σ env Dn R q => ?_⟩
  unfold sRetV at q
  split at q
  · rename_i m e1
    obtain ⟨l, ho, el, hl, gl, h0, r, _⟩ := R.ow e1
    have R1 := R.setNo (i := i) (o := some (.ref l))
    have es : σ.set i (some (.ref l)) = σ := by
      refine List.ext_getElem? fun j => ?_
      by_cases hj : i = j
      · subst hj
        rw [List.getElem?_set_self (List.getElem?_eq_some_iff.mp el).1, el]
      · rw [List.getElem?_set_ne hj]
    rw [es] at R1
    refine ⟨_, el, q σ G H l ho R1 ⟨hl, gl, h0, fun j b n e2 z => ?_, r⟩⟩
    by_cases hj : i = j
    · subst hj
      obtain ⟨hi, _⟩ := List.getElem?_eq_some_iff.mp e2
      rw [List.getElem?_set_self (by simpa using hi)] at e2
      cases e2
    · rw [List.getElem?_set_ne hj] at e2
      exact hj (R.dis i j _ _ _ _ l e1 e2 el z)
  · exact q.elim
theorem ds_retN : DS X W (.Return none pos) (fun env => .rt (.sh .non) env) := ⟨_, ps_retN, fun Z G H σ env Dn R p => p σ G H _ R .non⟩
/-- if -/
@[simp] def sIf (t : MT) (m m2 : MS) : MS := fun env => (t env).so fun b e => if b = true then m e else m2 e
theorem ds_if {c : Expr} {a b : List Stmt} {t : MT} (hc : DT X W c t) (ha : DB X W a m) (hb : DB X W b m2) : DS X W (.If c a b pos) (sIf t m m2) := by
  obtain ⟨tc, pc, kc⟩ := hc.run
  obtain ⟨ta, pa, ka⟩ := ha.run
  obtain ⟨tb, pb, kb⟩ := hb.run
  refine ⟨_, ps_if pc pa pb, fun Z G H σ env Dn R q => ?_⟩
  refine kc Z G H σ env _ R ((PostS.so q).imp fun x e1 G1 H1 R1 s1 q1 => ?_)
  cases x with
  | true => exact ka Z G1 H1 σ e1 Dn R1 q1
  | false => exact kb Z G1 H1 σ e1 Dn R1 q1
/-- ahead of a statement a slot is frozen -/
theorem ds_frz (i : Nat) (h : DS X W st m) : DS X W st (fun env => m (frz i env)) := by
  obtain ⟨t, p, k⟩ := h.run
  refine ⟨t, p, fun Z G H σ env Dn R q => ?_⟩
  obtain ⟨G', sg, R'⟩ := R.frz i
  exact k Z G' H σ _ Dn R' (q.mono sg)
/-- an expression whose value is dropped -/
@[simp] def sDrop (m : ME) : MS := fun env => (m env).so fun _ e => .nx e
theorem ds_expr {m : ME} (h : DE X W e m) (hs : swapsWith e none pos.line X.env = pure false := by rfl) : DS X W (.Expr e pos) (sDrop m) := by
  obtain ⟨t, p, k⟩ := h.run
  refine ⟨_, ps_expr p hs, fun Z G H σ env Dn R q => ?_⟩
  refine k Z G H σ env _ R ((PostS.so q).imp fun d e1 G1 H1 R1 s1 q1 v rv => q1 σ G1 H1 R1 (Same.refl _))
/-- xs.append(e), xs a slot's own list -/
@[simp] def sApp (i : Nat) (m : ME) : MS := fun env => (m env).so fun d e => match e[i]? with
  | some (.ow b (.fl ds)) => if ds.length < sizeLine then .nx (e.set i (.ow b (.fl (ds ++ [d])))) else .bad
  | _ => .bad
theorem ds_app {i : Nat} {o : Expr} {m : ME} (h : DE X W e m) (hp : ∀ t, PE X e t → PS X st (tDrop (tBM X.K "list" rAppend (tVar i) (tCons t tNil)))) : DS X W st (fun env => match env[i]? with
    | some (.ow _ (.fl _)) => sApp i m env
    | _ => .bad) := by
  obtain ⟨t, p, k⟩ := h.run
  refine ⟨_, hp t p, fun Z G H σ env Dn R q => ?_⟩
  split at q
  · rename_i b0 ds0 e0
    obtain ⟨l, ho0, el, hl0, gl0, h00, r0, _⟩ := R.ow e0
    obtain ⟨xs0, rfl, r0⟩ := r0
    refine ⟨.ref l, el, .inl ⟨rfl, xs0, .inl (.inl hl0)⟩, ?_⟩
    refine k Z G H σ env _ R ((PostS.so q).imp fun d e1 G1 H1 R1 s1 q1 v rv => ?_)
    split at q1
    · rename_i b1 ds e2
      obtain ⟨l1, ho, el1, hl, gl, h0, r, _⟩ := R1.ow e2
      obtain ⟨xs, rfl, r⟩ := r
      rw [el] at el1
      cases el1
      split at q1
      · rename_i hz
        refine ⟨l, xs, v, rfl, rfl, hl, by rw [r.length]; exact hz, ?_⟩
        exact q1 σ G1 _ (R1.mut e2 el (HM.fl (r.append (Rps.one rv)))) (Same.refl _)
      · exact q1.elim
    · exact q1.elim
  · exact q.elim
end
end No
end

section
set_option Elab.async false
set_option linter.all false
set_option maxRecDepth 100000
set_option maxHeartbeats 1000000
namespace No
open PySem PySem.Spec PyProof.Rows L2

/-! ### targets -/
/-- ix: the slots that are set -/
structure DG (X : Cx) (tg : Expr) (ix : List Nat) (g : D → En → Option En) : Prop where
  run : ∃ t : TG, PG X tg t ∧ ∀ (Z : Zb) (G H : Hp) (σ : L2.St) (env env' : En) (v : V) (d : D) (Q : L2.St → Hp → Prop), RepS X.K Z G H σ env → Rp X.K G v d → g d env = some env' →
    (∀ σ' : L2.St, RepS X.K Z G H σ' env' → (∀ vs : List Nat, (∀ i ∈ ix, i ∈ vs) → wipe σ' vs = wipe σ vs) → Q σ' H) → t v σ H Q
structure DGs (X : Cx) (tg : List Expr) (ix : List Nat) (g : List D → En → Option En) : Prop where
  run : ∃ t : TGs, PGs X tg t ∧ ∀ (Z : Zb) (G H : Hp) (σ : L2.St) (env env' : En) (v : List V) (d : List D) (Q : L2.St → Hp → Prop), RepS X.K Z G H σ env → Rps X.K G v d → g d env = some env' →
    (∀ σ' : L2.St, RepS X.K Z G H σ' env' → (∀ vs : List Nat, (∀ i ∈ ix, i ∈ vs) → wipe σ' vs = wipe σ vs) → Q σ' H) → t v σ H Q
theorem wipe_set (i : Nat) (x : Option V) : ∀ (vs : List Nat) (σ : L2.St), (i ∈ vs → wipe (σ.set i x) vs = wipe σ vs) ∧ (i ∉ vs → wipe (σ.set i x) vs = (wipe σ vs).set i x)
  | [], σ => ⟨fun h => (by simp at h), fun _ => rfl⟩
  | v :: vs, σ => by
    have ih := wipe_set i x vs σ
    constructor
    · intro h
      show (wipe (σ.set i x) vs).set v none = (wipe σ vs).set v none
      by_cases hv : i ∈ vs
      · rw [ih.1 hv]
      · have e : i = v := by
          rcases List.mem_cons.mp h with e | e
          · exact e
          · exact absurd e hv
        rw [ih.2 hv, e, List.set_set]
    · intro h
      have h1 : i ≠ v := fun e => h (by rw [e]; exact List.mem_cons_self)
      have h2 : i ∉ vs := fun e => h (List.mem_cons_of_mem _ e)
      show (wipe (σ.set i x) vs).set v none = ((wipe σ vs).set v none).set i x
      rw [ih.2 h2, List.set_comm _ _ h1]
@[simp] def gNm (i : Nat) : D → En → Option En := fun d e => some (e.set i (.sh d))
@[simp] def gNil : List D → En → Option En := fun ds e => match ds with
  | [] => some e
  | _ => none
@[simp] def gCons (g : D → En → Option En) (gs : List D → En → Option En) : List D → En → Option En := fun ds e => match ds with
  | d :: r => (g d e).bind fun e1 => gs r e1
  | _ => none
@[simp] def gTp (n : Nat) (gs : List D → En → Option En) : D → En → Option En := fun d e => match d with
  | .tup ds => if ds.length = n then gs ds e else none
  | _ => none
section
variable {X : Cx} {W : WX} {tg : Expr} {tgs : List Expr} {pos : Pos}
theorem dg_name {i : Nat} (h : PG X tg (L2.gName i)) : DG X tg [i] (gNm i) := by
  refine ⟨_, h, fun Z G H σ env env' v d Q R r e k => ?_⟩
  cases e
  exact k _ (R.setSh r) fun vs hv => (wipe_set i (some v) vs σ).1 (hv i (by simp))
theorem dgs_nil : DGs X [] [] gNil := by
  refine ⟨_, pgs_nil, fun Z G H σ env env' v d Q R r e k => ?_⟩
  cases r with
  | nil =>
    cases e
    exact ⟨rfl, k σ R fun _ _ => rfl⟩
  | cons _ _ => cases e
theorem dgs_cons {ix jx : List Nat} {g : D → En → Option En} {gs : List D → En → Option En} (h : DG X tg ix g) (hs : DGs X tgs jx gs) (hc : PG X tg h.run.choose → PGs X tgs hs.run.choose → PGs X (tg :: tgs) (L2.gCons h.run.choose hs.run.choose)) : DGs X (tg :: tgs) (ix ++ jx) (gCons g gs) := by
  obtain ⟨p1, k1⟩ := h.run.choose_spec
  obtain ⟨p2, k2⟩ := hs.run.choose_spec
  refine ⟨_, hc p1 p2, fun Z G H σ env env' v d Q R r e k => ?_⟩
  cases r with
  | nil => cases e
  | @cons v0 vs d0 ds r0 rs =>
    refine ⟨v0, vs, rfl, ?_⟩
    have e : (g d0 env).bind (fun e1 => gs ds e1) = some env' := e
    cases q : g d0 env with
    | none =>
      rw [q] at e
      cases e
    | some e1 =>
      rw [q] at e
      refine k1 Z G H σ env e1 v0 d0 _ R r0 q fun σ1 R1 w1 => ?_
      refine k2 Z G H σ1 e1 env' vs ds Q R1 rs e fun σ2 R2 w2 => ?_
      exact k σ2 R2 fun us hu => (w2 us fun i hi => hu i (List.mem_append_right _ hi)).trans (w1 us fun i hi => hu i (List.mem_append_left _ hi))
theorem dg_tup {n : Nat} {kx : Nat} {ix : List Nat} {gs : List D → En → Option En} (hs : DGs X tgs ix gs) (hp : ∀ t, PGs X tgs t → PG X (.Tuple tgs kx pos) (L2.gTup X.K n t)) : DG X (.Tuple tgs kx pos) ix (gTp n gs) := by
  obtain ⟨t, p, k⟩ := hs.run
  refine ⟨_, hp t p, fun Z G H σ env env' v d Q R r e kk => ?_⟩
  cases r with
  | @tup a xs ds hx rs =>
    unfold gTp at e
    dsimp only at e
    split at e
    · rename_i hn
      exact ⟨a, xs, rfl, .inl (.inl (R.gh _ _ hx)), by rw [rs.length]; exact hn, k Z G H σ env env' xs ds Q R rs e kk⟩
    · cases e
  | _ => cases e

/-- an assignment to a target -/
@[simp] def sAsg (g : D → En → Option En) (m : ME) : MS := fun env => (m env).so fun d e => match g d e with
  | some e1 => .nx e1
  | none => .bad
theorem ds_asg {ix : List Nat} {g : D → En → Option En} {e : Expr} {m : ME} (hg : DG X tg ix g) (h : DE X W e m) (hp : ∀ t u, PE X e t → PG X tg u → PS X (.Assign [tg] e pos) (tAsg t u)) : DS X W (.Assign [tg] e pos) (sAsg g m) := by
  obtain ⟨t, p, k⟩ := h.run
  obtain ⟨u, p2, k2⟩ := hg.run
  refine ⟨_, hp t u p p2, fun Z G H σ env Dn R q => ?_⟩
  refine k Z G H σ env _ R ((PostS.so q).imp fun d e1 G1 H1 R1 s1 q1 v rv => ?_)
  cases z : g d e1 with
  | none =>
    rw [z] at q1
    exact q1.elim
  | some e2 =>
    rw [z] at q1
    exact k2 Z G1 H1 σ e1 e2 v d _ R1 rv z fun σ' R' _ => q1 σ' G1 H1 R' (Same.refl _)
/-- target = xs.pop(), xs a slot's own list -/
@[simp] def sPop (i : Nat) (g : D → En → Option En) : MS := fun env => match env[i]? with
  | some (.ow b (.fl ds)) => match ds.getLast? with
    | some d => match g d (env.set i (.ow b (.fl ds.dropLast))) with
      | some e1 => .nx e1
      | none => .bad
    | none => .bad
  | _ => .bad
theorem ds_pop {i : Nat} {ix : List Nat} {g : D → En → Option En} {st : Stmt} (hg : DG X tg ix g) (hp : ∀ u, PG X tg u → PS X st (tAsg (tBM0 X.K "list" rPop (tVar i)) u)) : DS X W st (sPop i g) := by
  obtain ⟨u, p2, k2⟩ := hg.run
  refine ⟨_, hp u p2, fun Z G H σ env Dn R q => ?_⟩
  unfold sPop at q
  split at q
  · rename_i b ds e0
    obtain ⟨l, ho, el, hl, gl, h0, r, _⟩ := R.ow e0
    obtain ⟨xs, rfl, r⟩ := r
    cases hd : ds.getLast? with
    | none =>
      rw [hd] at q
      exact q.elim
    | some d =>
      rw [hd] at q
      dsimp only at q
      rw [List.getLast?_eq_getElem?] at hd
      obtain ⟨v, hv, rv⟩ := r.get hd
      refine ⟨.ref l, el, .inl ⟨rfl, xs, .inl (.inl hl)⟩, l, xs, v, rfl, rfl, hl, by rw [r.length]; exact hv, ?_⟩
      have R1 := R.mut e0 el (HM.fl r.dropLast)
      cases z : g d (env.set i (.ow b (.fl ds.dropLast))) with
      | none =>
        rw [z] at q
        exact q.elim
      | some e2 =>
        rw [z] at q
        exact k2 Z G _ σ _ e2 v d _ R1 rv z fun σ' R' _ => q σ' G _ R' (Same.refl _)
  · exact q.elim
/-- xs[e] = v, xs a slot's own list -/
@[simp] def sPut (i : Nat) (mv mi : ME) : MS := fun env => match env[i]? with
  | some (.ow _ (.fl _)) => (mv env).so fun d e1 => (mi e1).so fun k e2 => match e2[i]?, k with
    | some (.ow b (.fl ds)), .int z => match ixN ds.length z with
      | some j => .nx (e2.set i (.ow b (.fl (ds.set j d))))
      | none => .bad
    | _, _ => .bad
  | _ => .bad
theorem ds_put {i : Nat} {ei ev : Expr} {mv mi : ME} {st : Stmt} (hv : DE X W ev mv) (hi : DE X W ei mi) (hp : ∀ t u, PE X ev t → PE X ei u → PS X st (tAsg t (L2.gSub (tVar i) u rSetL))) : DS X W st (sPut i mv mi) := by
  obtain ⟨t, p, k⟩ := hv.run
  obtain ⟨u, p2, k2⟩ := hi.run
  refine ⟨_, hp t u p p2, fun Z G H σ env Dn R q => ?_⟩
  unfold sPut at q
  split at q
  · rename_i b0 ds0 e0
    obtain ⟨l, ho0, el, hl0, gl0, h00, r0, _⟩ := R.ow e0
    refine k Z G H σ env _ R ((PostS.so q).imp fun d e1 G1 H1 R1 s1 q1 v rv => ?_)
    refine ⟨.ref l, el, ?_⟩
    refine k2 Z G1 H1 σ e1 _ R1 ((PostS.so q1).imp fun kd e2 G2 H2 R2 s2 q2 w rw' => ?_)
    split at q2
    · rename_i b ds z hds
      cases rw' with
      | int z' =>
        obtain ⟨l1, ho, el1, hl, gl, h0, r, _⟩ := R2.ow hds
        obtain ⟨xs, rfl, r⟩ := r
        rw [el] at el1
        cases el1
        split at q2
        · rename_i j hj
          exact ⟨l, xs, z, j, rfl, rfl, hl, by rw [r.length]; exact hj, q2 σ G2 _ (R2.mut hds el (HM.fl (r.set (rv.mono s2) j))) (Same.refl _)⟩
        · exact q2.elim
    · exact q2.elim
  · exact q.elim

/-! ### what is walked -/
def ItD (K : PySem.W.Frag) (G : Hp) (J : It) (items : List D) : Prop :=
  ∀ (G1 H1 : Hp), Same G G1 → Same G1 H1 → ∀ i : Nat,
    (∀ d, items[i]? = some d → J.go i H1 ∧ ∀ x H2, J.yld i H1 x H2 → ∃ G2, Gr G1 H1 G2 H2 ∧ Rp K G2 x d) ∧ (items.length ≤ i → J.stop i H1)
structure DI (X : Cx) (W : WX) (tg iter : Expr) (m : MA) : Prop where
  run : ∃ wi : TI, PI X tg iter wi ∧ ∀ (Z : Zb) (G H : Hp) (σ : L2.St) (env : En) (Rw : It → Hp → Prop), RepS X.K Z G H σ env →
    PostE X W Z σ G (m env) (fun ds _ G2 H2 => ∀ J, ItD X.K G2 J ds → Rw J H2) → wi σ H Rw
/-- the items of a list -/
@[simp] def mItems (m : ME) : MA := fun env => (m env).bind fun d e => match d with
  | .lst ds => .ok ds e
  | .fz ds => .ok ds e
  | _ => .bad
@[simp] def mItemsT (m : ME) : MA := fun env => (m env).bind fun d e => match d with
  | .tup ds => .ok ds e
  | .kt ds => .ok ds e
  | _ => .bad
theorem itd_list {K : PySem.W.Frag} {G : Hp} {a : Addr} {xs : List V} {ds : List D} (h : SqL K G a xs) (r : Rps K G xs ds) : ItD K G (Itl K a) ds := fun G1 H1 s1 s2 i => by
  have h1 : SqL K H1 a xs := same_l s2 (same_l s1 h)
  refine ⟨fun d e => ?_, fun hi => ⟨xs, h1, by rw [r.length]; exact hi⟩⟩
  obtain ⟨v, hv, rv⟩ := r.get e
  exact ⟨⟨xs, v, h1, hv⟩, fun x H2 y => by
    obtain ⟨rfl, y⟩ := y
    have e2 := y xs h1
    rw [hv] at e2
    cases e2
    exact ⟨G1, Gr.refl s2, rv.mono s1⟩⟩
theorem itd_tup {K : PySem.W.Frag} {G : Hp} {a : Addr} {xs : List V} {ds : List D} (h : SqT K G a xs) (r : Rps K G xs ds) : ItD K G (Itt K a) ds := fun G1 H1 s1 s2 i => by
  have h1 : SqT K H1 a xs := same_t s2 (same_t s1 h)
  refine ⟨fun d e => ?_, fun hi => ⟨xs, h1, by rw [r.length]; exact hi⟩⟩
  obtain ⟨v, hv, rv⟩ := r.get e
  exact ⟨⟨xs, v, h1, hv⟩, fun x H2 y => by
    obtain ⟨rfl, y⟩ := y
    have e2 := y xs h1
    rw [hv] at e2
    cases e2
    exact ⟨G1, Gr.refl s2, rv.mono s1⟩⟩
theorem di_list {e : Expr} {m : ME} (h : DE X W e m) : DI X W tg e (mItems m) := by
  obtain ⟨t, p, k⟩ := h.run
  refine ⟨_, pi_list p, fun Z G H σ env Rw R q => ?_⟩
  refine k Z G H σ env _ R ((PostE.bind q).imp fun d e1 G1 H1 R1 s1 q1 v rv => ?_)
  cases rv with
  | @lst a xs ds hx rs => exact ⟨a, rfl, ⟨xs, .inl (.inl (R1.gh _ _ hx))⟩, q1 G1 H1 R1 (Same.refl _) _ (itd_list (.inl (.inl hx)) rs)⟩
  | @fz a xs ds hx rs => exact ⟨a, rfl, ⟨xs, same_l R1.gh hx⟩, q1 G1 H1 R1 (Same.refl _) _ (itd_list hx rs)⟩
  | _ => exact q1.elim
theorem di_tup {e : Expr} {m : ME} (h : DE X W e m) : DI X W tg e (mItemsT m) := by
  obtain ⟨t, p, k⟩ := h.run
  refine ⟨_, pi_tup p, fun Z G H σ env Rw R q => ?_⟩
  refine k Z G H σ env _ R ((PostE.bind q).imp fun d e1 G1 H1 R1 s1 q1 v rv => ?_)
  cases rv with
  | @tup a xs ds hx rs => exact ⟨a, rfl, ⟨xs, .inl (.inl (R1.gh _ _ hx))⟩, q1 G1 H1 R1 (Same.refl _) _ (itd_tup (.inl (.inl hx)) rs)⟩
  | @kt a xs ds hx rs => exact ⟨a, rfl, ⟨xs, same_t R1.gh hx⟩, q1 G1 H1 R1 (Same.refl _) _ (itd_tup hx rs)⟩
  | _ => exact q1.elim
/-- lo, lo + 1, .. -/
def upto (lo : Int) (n : Nat) : List D := (List.range n).map fun i => .int (lo + (i : Nat))
theorem upto_get {lo : Int} {n i : Nat} {d : D} (h : (upto lo n)[i]? = some d) : i < n ∧ d = .int (lo + (i : Nat)) := by
  unfold upto at h
  rw [List.getElem?_map] at h
  by_cases hi : i < n
  · rw [List.getElem?_range hi] at h
    cases h
    exact ⟨hi, rfl⟩
  · rw [List.getElem?_eq_none (by rw [List.length_range]; omega)] at h
    cases h
theorem upto_len (lo : Int) (n : Nat) : (upto lo n).length = n := by simp [upto]
theorem itd_rng {K : PySem.W.Frag} {G : Hp} {lo : Int} {n : Nat} : ItD K G (Itr lo n) (upto lo n) := fun G1 H1 s1 s2 i => by
  refine ⟨fun d e => ?_, fun hi => by rw [upto_len] at hi; exact hi⟩
  obtain ⟨hi, rfl⟩ := upto_get e
  exact ⟨hi, fun x H2 y => by
    obtain ⟨rfl, rfl⟩ := y
    exact ⟨G1, Gr.refl s2, .int _⟩⟩
@[simp] def mRng1 (m : MA) : MA := fun env => (m env).bind fun ds e => match ds with
  | [.int j] => if inR j = true then .ok (upto 0 j.toNat) e else .bad
  | _ => .bad
@[simp] def mRng2 (m : MA) : MA := fun env => (m env).bind fun ds e => match ds with
  | [.int i, .int j] => if inR i = true ∧ inR j = true then .ok (upto i (j - i).toNat) e else .bad
  | _ => .bad
theorem di_rng1 {e : Expr} {es : List Expr} {m : MA} (h : DA X W es m) (hp : ∀ t, PA X es t → PI X tg e (iRng1 t)) : DI X W tg e (mRng1 m) := by
  obtain ⟨t, p, k⟩ := h.run
  refine ⟨_, hp t p, fun Z G H σ env Rw R q => ?_⟩
  refine k Z G H σ env _ R ((PostE.bind q).imp fun ds e1 G1 H1 R1 s1 q1 vs rs => ?_)
  split at q1
  · rename_i j
    cases rs with
    | cons r0 rs =>
      cases r0
      cases rs
      split at q1
      · rename_i hj
        have hj' := inR_ok hj
        exact ⟨j, rfl, hj'.1, hj'.2, q1 G1 H1 R1 (Same.refl _) _ itd_rng⟩
      · exact q1.elim
  · exact q1.elim
theorem di_rng2 {e : Expr} {es : List Expr} {m : MA} (h : DA X W es m) (hp : ∀ t, PA X es t → PI X tg e (iRng2 t)) : DI X W tg e (mRng2 m) := by
  obtain ⟨t, p, k⟩ := h.run
  refine ⟨_, hp t p, fun Z G H σ env Rw R q => ?_⟩
  refine k Z G H σ env _ R ((PostE.bind q).imp fun ds e1 G1 H1 R1 s1 q1 vs rs => ?_)
  split at q1
  · rename_i i j
    cases rs with
    | cons r0 rs =>
      cases r0
      cases rs with
      | cons r0 rs =>
        cases r0
        cases rs
        split at q1
        · rename_i hj
          have h1 := inR_ok hj.1
          have h2 := inR_ok hj.2
          exact ⟨i, j, rfl, ⟨h1.1, h1.2, h2.1, h2.2⟩, q1 G1 H1 R1 (Same.refl _) _ itd_rng⟩
        · exact q1.elim
  · exact q1.elim
/-- enumerate(xs) -/
def pairs (ds : List D) : List D := (List.range ds.length).map fun i => .tup [.int (i : Nat), ds.getD i .non]
theorem pairs_get {ds : List D} {i : Nat} {d : D} (h : (pairs ds)[i]? = some d) : ∃ x, ds[i]? = some x ∧ d = .tup [.int (i : Nat), x] := by
  unfold pairs at h
  rw [List.getElem?_map] at h
  by_cases hi : i < ds.length
  · rw [List.getElem?_range hi] at h
    cases h
    exact ⟨ds[i], List.getElem?_eq_getElem hi, by show D.tup [D.int (i : Nat), ds.getD i D.non] = _; rw [List.getD_eq_getElem?_getD, List.getElem?_eq_getElem hi]; rfl⟩
  · rw [List.getElem?_eq_none (by rw [List.length_range]; omega)] at h
    cases h
theorem itd_enum {K : PySem.W.Frag} {G : Hp} {a : Addr} {xs : List V} {ds : List D} (h : SqL K G a xs) (r : Rps K G xs ds) : ItD K G (Ite K a) (pairs ds) := fun G1 H1 s1 s2 i => by
  have h1 : SqL K H1 a xs := same_l s2 (same_l s1 h)
  refine ⟨fun d e => ?_, fun hi => ⟨xs, h1, by rw [r.length]; simpa [pairs] using hi⟩⟩
  obtain ⟨x, ex, rfl⟩ := pairs_get e
  obtain ⟨v, hv, rv⟩ := r.get ex
  exact ⟨⟨xs, v, h1, hv⟩, fun y H2 yy => by
    obtain ⟨T, x', rfl, hT, rfl, k⟩ := yy
    have e2 := k xs h1
    rw [hv] at e2
    cases e2
    exact ⟨_, Gr.new s2 hT, .tup upd_same (.cons (.int _) (.cons ((rv.mono s1).mono (same_upd (s2.free hT))) .nil))⟩⟩
@[simp] def mEnum (m : MA) : MA := fun env => (m env).bind fun ds e => match ds with
  | [.lst xs] => .ok (pairs xs) e
  | _ => .bad
theorem di_enum {e : Expr} {es : List Expr} {m : MA} (h : DA X W es m) (hp : ∀ t, PA X es t → PI X tg e (iEnum X.K t)) : DI X W tg e (mEnum m) := by
  obtain ⟨t, p, k⟩ := h.run
  refine ⟨_, hp t p, fun Z G H σ env Rw R q => ?_⟩
  refine k Z G H σ env _ R ((PostE.bind q).imp fun ds e1 G1 H1 R1 s1 q1 vs rs => ?_)
  split at q1
  · rename_i ds
    cases rs with
    | cons r0 rs =>
      cases rs
      cases r0 with
      | @lst a xs _ hx r => exact ⟨a, xs, rfl, .inl (.inl (R1.gh _ _ hx)), q1 G1 H1 R1 (Same.refl _) _ (itd_enum (.inl (.inl hx)) r)⟩
  · exact q1.elim

/-! ### for -/
def runFor (g : D → En → Option En) (b : MS) : List D → MS
  | [], e => .nx e
  | d :: ds, e => match g d e with
    | none => .bad
    | some e1 => match b e1 with
      | .nx e2 => runFor g b ds e2
      | .ct e2 => runFor g b ds e2
      | .bk e2 => .nx e2
      | o => o
@[simp] def sFor (g : D → En → Option En) (mi : MA) (b : MS) : MS := fun env => (mi env).so fun ds e => runFor g b ds e
theorem ds_for {ix : List Nat} {g : D → En → Option En} {iter : Expr} {body : List Stmt} {mi : MA} {b : MS} (hi : DI X W tg iter mi) (hg : DG X tg ix g) (hb : DB X W body b)
    (hp : ∀ wi u t, PI X tg iter wi → PG X tg u → PSs X body t → PS X (.For tg iter body [] pos) (tFor wi u t)) : DS X W (.For tg iter body [] pos) (sFor g mi b) := by
  obtain ⟨wi, p, k⟩ := hi.run
  obtain ⟨u, p2, k2⟩ := hg.run
  obtain ⟨t, p3, k3⟩ := hb.run
  refine ⟨_, hp wi u t p p2 p3, fun Z G H σ env Dn R q => ?_⟩
  refine k Z G H σ env _ R ((PostS.so q).imp fun items e1 G1 H1 R1 s1 q1 J hJ => ?_)
  refine ⟨fun i n σ' H' => ∃ G' e', Same G1 G' ∧ RepS X.K Z G' H' σ' e' ∧ i + n = items.length ∧ PostS X W Z G' (runFor g b (items.drop i) e') Dn, ⟨items.length, G1, e1, Same.refl _, R1, by omega, q1⟩, ?_⟩
  rintro i n σ' H' ⟨G', e', sG, R', hn, pq⟩
  have it := hJ G' H' sG R'.gh i
  by_cases hlt : i < items.length
  · obtain ⟨go, yl⟩ := it.1 items[i] (List.getElem?_eq_getElem hlt)
    refine .inr ⟨go, fun σ2 H2 => ∃ G2 e2, Same G1 G2 ∧ RepS X.K Z G2 H2 σ2 e2 ∧ PostS X W Z G2 (runFor g b (items.drop (i + 1)) e2) Dn, fun σ2 H2 ⟨G2, e2, h1, h2, h3⟩ => ⟨n - 1, by omega, G2, e2, h1, h2, by omega, h3⟩, fun x H2 y => ?_⟩
    obtain ⟨G2, gr, rx⟩ := yl x H2 y
    rw [List.drop_eq_getElem_cons hlt] at pq
    unfold runFor at pq
    cases z : g items[i] e' with
    | none =>
      rw [z] at pq
      exact pq.elim
    | some e2 =>
      rw [z] at pq
      dsimp only at pq
      refine k2 Z G2 H2 σ' e' e2 x _ _ (R'.grow gr) rx z fun σ3 R3 _ => ?_
      refine k3 Z G2 H2 σ3 e2 _ R3 ?_
      have sG2 : Same G1 G2 := sG.trans gr.gg
      generalize b e2 = r at pq
      cases r with
      | nx e3 => exact fun σ4 G4 H4 R4 s4 => ⟨G4, e3, sG2.trans s4, R4, PostS.mono (r := runFor g b _ e3) pq (gr.gg.trans s4)⟩
      | ct e3 => exact fun σ4 G4 H4 R4 s4 => ⟨G4, e3, sG2.trans s4, R4, PostS.mono (r := runFor g b _ e3) pq (gr.gg.trans s4)⟩
      | bk e3 => exact fun σ4 G4 H4 R4 s4 => pq σ4 G4 H4 R4 (gr.gg.trans s4)
      | rt x e3 =>
        cases x with
        | sh d => exact pq
        | ow ds => exact pq
      | exc x e3 => exact fun σ4 G4 H4 c od R4 s4 => pq σ4 G4 H4 c od R4 (gr.gg.trans s4)
      | bad => exact pq.elim
  · refine .inl ⟨it.2 (by omega), ?_⟩
    rw [List.drop_eq_nil_of_le (by omega)] at pq
    exact pq σ' G' H' R' (Same.refl _)

/-! ### while -/
def runWhile (t : MT) (b : MS) : Nat → MS
  | 0, _ => .bad
  | n + 1, e => (t e).so fun x e1 => if x = true then match b e1 with
      | .nx e2 => runWhile t b n e2
      | .ct e2 => runWhile t b n e2
      | .bk e2 => .nx e2
      | o => o
    else .nx e1
/-- the fuel of a while -/
def fuel : Nat := 2 ^ 70
def sWhile (t : MT) (b : MS) : MS := fun env => runWhile t b fuel env
theorem ds_while {c : Expr} {body : List Stmt} {t : MT} {b : MS} (hc : DT X W c t) (hb : DB X W body b) (hp : ∀ u v, PT X c u → PSs X body v → PS X (.While c body [] pos) (tWhile u v)) : DS X W (.While c body [] pos) (sWhile t b) := by
  obtain ⟨tc, p, k⟩ := hc.run
  obtain ⟨u, p2, k2⟩ := hb.run
  refine ⟨_, hp tc u p p2, fun Z G H σ env Dn R q => ?_⟩
  unfold sWhile at q
  generalize fuel = N at q
  refine ⟨fun n σ' H' => ∃ G' e', RepS X.K Z G' H' σ' e' ∧ PostS X W Z G' (runWhile t b n e') Dn, ⟨N, G, env, R, q⟩, ?_⟩
  rintro n σ' H' ⟨G', e', R', pq⟩
  cases n with
  | zero => exact pq.elim
  | succ n =>
    unfold runWhile at pq
    refine k Z G' H' σ' e' _ R' ((PostS.so pq).imp fun x e1 G1 H1 R1 s1 q1 => ?_)
    cases x with
    | false => exact q1 σ' G1 H1 R1 (Same.refl _)
    | true =>
      rw [if_pos rfl] at q1
      refine ⟨fun σ2 H2 => ∃ G2 e2, RepS X.K Z G2 H2 σ2 e2 ∧ PostS X W Z G2 (runWhile t b n e2) Dn, fun σ2 H2 ⟨G2, e2, h1, h2⟩ => ⟨n, by omega, G2, e2, h1, h2⟩, ?_⟩
      refine k2 Z G1 H1 σ' e1 _ R1 ?_
      generalize b e1 = r at q1
      cases r with
      | nx e3 => exact fun σ4 G4 H4 R4 s4 => ⟨G4, e3, R4, PostS.mono (r := runWhile t b n e3) q1 s4⟩
      | ct e3 => exact fun σ4 G4 H4 R4 s4 => ⟨G4, e3, R4, PostS.mono (r := runWhile t b n e3) q1 s4⟩
      | bk e3 => exact fun σ4 G4 H4 R4 s4 => q1 σ4 G4 H4 R4 s4
      | rt x e3 =>
        cases x with
        | sh d => exact q1
        | ow ds => exact q1
      | exc x e3 => exact q1
      | bad => exact q1.elim
end
end No
end

section
set_option Elab.async false
set_option linter.all false
set_option maxRecDepth 100000
set_option maxHeartbeats 1000000
namespace No
open PySem PySem.Spec PyProof.Rows L2

/-! ### comprehensions: slots forgotten and given back -/
@[simp] def wipeE (e : En) : List Nat → En
  | [] => e
  | v :: vs => (wipeE e vs).set v .no
@[simp] def restE (e0 e : En) : List Nat → En
  | [] => e
  | v :: vs => (restE e0 e vs).set v (e0.getD v .no)
def restS (σ τ : L2.St) : List Nat → L2.St
  | [] => τ
  | v :: vs => (restS σ τ vs).set v (σ.getD v none)
theorem restS_get (σ τ : L2.St) (i : Nat) : ∀ vs : List Nat, (restS σ τ vs)[i]? = if i ∈ vs ∧ i < τ.length then some (σ.getD i none) else τ[i]?
  | [] => by simp [restS]
  | v :: vs => by
    have ih := restS_get σ τ i vs
    have hl : ∀ us : List Nat, (restS σ τ us).length = τ.length := fun us => by
      induction us with
      | nil => rfl
      | cons u us ih => simp [restS, ih]
    unfold restS
    by_cases hv : v = i
    · subst hv
      by_cases hi : v < τ.length
      · rw [List.getElem?_set_self (by rw [hl]; exact hi), if_pos ⟨List.mem_cons_self, hi⟩]
      · rw [List.getElem?_eq_none (by rw [List.length_set, hl]; omega), if_neg (by rintro ⟨_, h⟩; exact hi h), List.getElem?_eq_none (by omega)]
    · rw [List.getElem?_set_ne hv, ih]
      by_cases hm : i ∈ vs
      · simp [hm]
      · have : ¬ i ∈ v :: vs := fun h => by
          rcases List.mem_cons.mp h with h | h
          · exact hv h.symm
          · exact hm h
        rw [if_neg (fun h => hm h.1), if_neg (fun h => this h.1)]
theorem restS_wipe (σ : L2.St) (vs : List Nat) : restS σ (wipe σ vs) vs = σ := by
  refine List.ext_getElem? fun i => ?_
  rw [restS_get, wipe_length]
  by_cases h : i ∈ vs ∧ i < σ.length
  · rw [if_pos h, List.getD_eq_getElem?_getD, List.getElem?_eq_getElem h.2]
    rfl
  · rw [if_neg h]
    by_cases hm : i ∈ vs
    · have hi : ¬ i < σ.length := fun z => h ⟨hm, z⟩
      rw [List.getElem?_eq_none (by rw [wipe_length]; omega), List.getElem?_eq_none (by omega)]
    · exact wipe_out hm
theorem wipe_idem (σ : L2.St) : ∀ vs : List Nat, wipe (wipe σ vs) vs = wipe σ vs := by
  have key : ∀ (us vs : List Nat), (∀ u ∈ us, u ∈ vs) → wipe (wipe σ us) vs = wipe σ vs := by
    intro us
    induction us with
    | nil => intro vs _; rfl
    | cons u us ih =>
      intro vs h
      show wipe ((wipe σ us).set u none) vs = wipe σ vs
      rw [(wipe_set u none vs (wipe σ us)).1 (h u List.mem_cons_self)]
      exact ih vs fun z hz => h z (List.mem_cons_of_mem _ hz)
  exact fun vs => key vs vs fun _ h => h
section
variable {K : PySem.W.Frag} {Z : Zb} {G H G1 H1 : Hp} {σ τ : List (Option V)} {env e0 e : En} {l : Addr} {o o' : HO}
theorem RepS.wipe (R : RepS K Z G H σ env) : ∀ vs : List Nat, RepS K Z G H (L2.wipe σ vs) (wipeE env vs)
  | [] => R
  | v :: vs => (RepS.wipe R vs).setNo
/-- the cells at vs hold no list of their own -/
@[simp] def noOw (e : En) (vs : List Nat) : Bool := vs.all fun i => match e[i]? with
  | some (.ow _ _) => false
  | _ => true
theorem RepS.rest (R0 : RepS K Z G1 H1 σ e0) (sG : Same G1 G) (R : RepS K Z G H τ e) (hl : τ.length = σ.length) : ∀ vs : List Nat, noOw e0 vs = true → RepS K Z G H (restS σ τ vs) (restE e0 e vs)
  | [], _ => R
  | v :: vs, h => by
    unfold noOw at h
    rw [List.all_cons, Bool.and_eq_true] at h
    have ih := RepS.rest R0 sG R hl vs h.2
    show RepS K Z G H ((restS σ τ vs).set v (σ.getD v none)) ((restE e0 e vs).set v (e0.getD v .no))
    have h1 := h.1
    rw [List.getD_eq_getElem?_getD, List.getD_eq_getElem?_getD]
    cases q : e0[v]? with
    | none => exact ih.setNo
    | some c =>
      rw [q] at h1
      cases c with
      | no => exact ih.setNo
      | sh d =>
        obtain ⟨x, ex, rx⟩ := R0.sh q
        rw [ex]
        exact ih.setSh (rx.mono sG)
      | ow b m => exact absurd (show false = true from h1) Bool.false_ne_true
/-- a new object beside -/
theorem RepS.frame (R : RepS K Z G H σ env) (h : H l = none) : RepS K (Z.fr l o) G (upd H l o) σ env := by
  refine ⟨⟨R.gr.gg, same_upd2 R.gr.hh h, fun a u q => ?_, fun a u q => ?_⟩, R.len, fun i c e1 => ?_, R.dis⟩
  · rw [upd_ne (ne_of_none (R.gh a u q) h)]
    exact R.gh a u q
  · show _ ∨ upd Z.H0 l o a = none ∨ _
    rw [upd_ne (ne_of_none (R.gh a u q) h)]
    exact R.gr.nw a u q
  · obtain ⟨w, h1, h2⟩ := R.rep i c e1
    refine ⟨w, h1, ?_⟩
    cases c with
    | no => trivial
    | sh d => exact h2
    | ow b n =>
      obtain ⟨m, ho, rfl, hm, gm, hm0, rm, hb⟩ := h2
      have nm : m ≠ l := ne_of_none hm h
      refine ⟨m, ho, rfl, by rw [upd_ne nm]; exact hm, gm, ?_, rm, hb⟩
      show upd Z.H0 l o m = none
      rw [upd_ne nm]
      exact hm0
theorem RepS.framed (R : RepS K (Z.fr l o) G H σ env) (g0 : Z.G0 l = none) (ho : ∀ xs, o ≠ .tup xs := by intro _ z; cases z) : H l = some o ∧ G l = none ∧ ∀ (j : Nat) (b : Bool) (n : M), env[j]? = some (.ow b n) → σ[j]? ≠ some (some (.ref l)) := by
  refine ⟨R.gr.hh l o upd_same, ?_, fun j b n e1 e2 => ?_⟩
  · cases q : G l with
    | none => rfl
    | some u =>
      rcases R.gr.nw l u q with z | z | ⟨xs, z⟩
      · have z : Z.G0 l = some u := z
        rw [g0] at z
        cases z
      · have z : upd Z.H0 l o l = none := z
        rw [upd_same] at z
        cases z
      · have h1 := R.gh _ _ q
        have h2 : H l = some o := R.gr.hh l o upd_same
        rw [h2] at h1
        exact absurd ((Option.some.inj h1).trans z) (ho xs)
  · obtain ⟨m, ho, em, hm, gm, h0, _⟩ := R.ow e1
    rw [em] at e2
    cases e2
    have h0 : upd Z.H0 l o l = none := h0
    rw [upd_same] at h0
    cases h0
theorem RepS.reframe (R : RepS K (Z.fr l o) G H σ env) (g0 : Z.G0 l = none) (h0 : Z.H0 l = none) (ho : ∀ xs, o ≠ .tup xs := by intro _ z; cases z) : RepS K (Z.fr l o') G (upd H l o') σ env := by
  obtain ⟨hl, gl, ne⟩ := R.framed g0 ho
  have nG : ∀ {a : Addr} {u : HO}, G a = some u → a ≠ l := fun {a u} q z => by
    rw [z, gl] at q
    cases q
  refine ⟨⟨R.gr.gg, fun a u q => ?_, fun a u q => ?_, fun a u q => ?_⟩, R.len, fun i c e1 => ?_, R.dis⟩
  · have q : upd Z.H0 l o' a = some u := q
    by_cases na : a = l
    · subst na
      rw [upd_same] at q ⊢
      exact q
    · rw [upd_ne na] at q ⊢
      exact R.gr.hh a u (show upd Z.H0 l o a = some u by rw [upd_ne na]; exact q)
  · rw [upd_ne (nG q)]
    exact R.gh a u q
  · show _ ∨ upd Z.H0 l o' a = none ∨ _
    rw [upd_ne (nG q)]
    rcases R.gr.nw a u q with z | z | z
    · exact .inl z
    · have z : upd Z.H0 l o a = none := z
      rw [upd_ne (nG q)] at z
      exact .inr (.inl z)
    · exact .inr (.inr z)
  · obtain ⟨w, h1, h2⟩ := R.rep i c e1
    refine ⟨w, h1, ?_⟩
    cases c with
    | no => trivial
    | sh d => exact h2
    | ow b n =>
      obtain ⟨m, ho, rfl, hm, gm, hm0, rm, hb⟩ := h2
      have nm : m ≠ l := fun z => ne i b n e1 (by rw [h1, z])
      refine ⟨m, ho, rfl, by rw [upd_ne nm]; exact hm, gm, ?_, rm, hb⟩
      have hm0 : upd Z.H0 l o m = none := hm0
      show upd Z.H0 l o' m = none
      rw [upd_ne nm] at hm0 ⊢
      exact hm0
theorem RepS.unframe (R : RepS K (Z.fr l o) G H σ env) (g0 : Z.G0 l = none) (h0 : Z.H0 l = none) (ho : ∀ xs, o ≠ .tup xs := by intro _ z; cases z) : RepS K Z G H σ env := by
  obtain ⟨hl, gl, ne⟩ := R.framed g0 ho
  refine ⟨⟨R.gr.gg, fun a u q => R.gr.hh a u ?_, R.gh, fun a u q => ?_⟩, R.len, fun i c e1 => ?_, R.dis⟩
  · show upd Z.H0 l o a = some u
    rw [upd_ne (ne_of_none q h0)]
    exact q
  · rcases R.gr.nw a u q with z | z | z
    · exact .inl z
    · have z : upd Z.H0 l o a = none := z
      by_cases na : a = l
      · subst na
        exact .inr (.inl h0)
      · rw [upd_ne na] at z
        exact .inr (.inl z)
    · exact .inr (.inr z)
  · obtain ⟨w, h1, h2⟩ := R.rep i c e1
    refine ⟨w, h1, ?_⟩
    cases c with
    | no => trivial
    | sh d => exact h2
    | ow b n =>
      obtain ⟨m, ho, rfl, hm, gm, hm0, rm, hb⟩ := h2
      have nm : m ≠ l := fun z => ne i b n e1 (by rw [h1, z])
      have hm0 : upd Z.H0 l o m = none := hm0
      rw [upd_ne nm] at hm0
      exact ⟨m, ho, rfl, hm, gm, hm0, rm, hb⟩
end

/-! ### comprehensions -/
def runLc (g : D → En → Option En) (t : MT) (el : ME) (vs : List Nat) : List D → En → Res (List D)
  | [], e => .ok [] e
  | d :: ds, e => match g d e with
    | none => .bad
    | some e1 => match t e1 with
      | .ok b e2 => if b = true then match el e2 with
          | .ok y e3 => (runLc g t el vs ds (wipeE e3 vs)).bind fun ys e4 => .ok (y :: ys) e4
          | _ => .bad
        else runLc g t el vs ds (wipeE e2 vs)
      | _ => .bad
@[simp] def mLc (g : D → En → Option En) (mi : MA) (t : MT) (el : ME) (vs : List Nat) : MA := fun env => (mi env).bind fun ds e =>
  if ds.length ≤ sizeLine ∧ noOw e vs = true then (runLc g t el vs ds (wipeE e vs)).bind fun ys e4 => .ok ys (restE e e4 vs) else .bad
def cG (X : Cx) (ix : List Nat) (g : D → En → Option En) : TG := fun v σ H Q => ∃ Z G env d env', RepS X.K Z G H σ env ∧ Rp X.K G v d ∧ g d env = some env' ∧
  ∀ σ' : L2.St, RepS X.K Z G H σ' env' → (∀ vs : List Nat, (∀ i ∈ ix, i ∈ vs) → wipe σ' vs = wipe σ vs) → Q σ' H
theorem DG.canon {X : Cx} {tg : Expr} {ix : List Nat} {g : D → En → Option En} (h : DG X tg ix g) : PG X tg (cG X ix g) := by
  obtain ⟨t, p, k⟩ := h.run
  exact ⟨fun pins s σ H v u Q I r ⟨Z, G, env, d, env', R, rv, e, q⟩ => p.run pins s σ H v u Q I r (k Z G H σ env env' v d Q R rv e q)⟩
abbrev wF : WX := fun _ _ _ _ => False
structure DTs (X : Cx) (ifs : List Expr) (m : MT) : Prop where
  run : PTs X ifs (cT X wF m)
@[simp] def mYes : MT := fun env => .ok true env
theorem dts_nil {X : Cx} : DTs X [] mYes := ⟨⟨fun pins s σ H Q I ⟨Z, G, env, R, q⟩ => (pts_nil (X := X)).run pins s σ H Q I (q G H R (Same.refl _))⟩⟩
theorem dts_one {X : Cx} {c : Expr} {m : MT} (h : DT X wF c m) : DTs X [c] m := ⟨pts_one h.canon⟩

section
variable {X : Cx} {W : WX} {tg iter elt : Expr} {ifs : List Expr} {ix : List Nat} {g : D → En → Option En} {mi : MA} {mt : MT} {el : ME}
theorem lc_read {wi : TI} {vs : List Nat} (hix : ∀ i ∈ ix, i ∈ vs)
    (k : ∀ (Z : Zb) (G H : Hp) (σ : L2.St) (env : En) (Rw : It → Hp → Prop), RepS X.K Z G H σ env → PostE X W Z σ G (mi env) (fun ds _ G2 H2 => ∀ J, ItD X.K G2 J ds → Rw J H2) → wi σ H Rw)
    (Z : Zb) (G H : Hp) (σ : L2.St) (env : En) (Q : VK) (R : RepS X.K Z G H σ env)
    (q : PostE X W Z σ G (mLc g mi mt el vs env) (fun ds env2 G2 H2 => ∀ l ho, Own X.K Z G2 H2 σ env2 l ho (.fl ds) → Q (.ref l) H2)) :
    tLc wi (cG X ix g) (cT X wF mt) (cE X wF el) vs σ H Q := by
  refine k Z G H σ env _ R ((PostE.bind q).imp fun items e1 G1 H1 R1 s1 q1 J hJ Dl hD => ?_)
  by_cases hc : items.length ≤ sizeLine ∧ noOw e1 vs = true
  case neg =>
    rw [if_neg hc] at q1
    exact q1.elim
  rw [if_pos hc] at q1
  have g1 : G1 Dl = none := R1.gh.free hD
  have g0 : Z.G0 Dl = none := R1.gr.gg.free g1
  have h0 : Z.H0 Dl = none := R1.gr.hh.free hD
  have Pdef : ∃ P : List D → En → Hp → Hp → Prop, P = (fun ds env2 G2 H2 => ∀ l ho, Own X.K Z G2 H2 σ env2 l ho (.fl ds) → Q (.ref l) H2) := ⟨_, rfl⟩
  obtain ⟨P, hP⟩ := Pdef
  rw [← hP] at q1
  refine ⟨fun i m H' => ∃ G' e' acc ds, Same G1 G' ∧ RepS X.K (Z.fr Dl (.lst acc)) G' H' (wipe σ vs) e' ∧ i + m = items.length ∧ Rps X.K G' acc ds ∧ acc.length ≤ i ∧
    PostE X W Z σ G' ((runLc g mt el vs (items.drop i) e').bind fun ys e4 => .ok (ds ++ ys) (restE e1 e4 vs)) P,
    ⟨items.length, G1, _, [], [], Same.refl _, (R1.wipe vs).frame hD, by omega, .nil, Nat.le_refl _, q1⟩, ?_⟩
  rintro i m H' ⟨G', e', acc, ds, sG, R', hm, hr, hacc, pq⟩
  have it := hJ G' H' sG R'.gh i
  by_cases hlt : i < items.length
  · obtain ⟨go, yl⟩ := it.1 items[i] (List.getElem?_eq_getElem hlt)
    rw [List.drop_eq_getElem_cons hlt] at pq
    unfold runLc at pq
    refine .inr ⟨go, fun H5 => ∃ G5 e5 acc5 ds5, Same G1 G5 ∧ RepS X.K (Z.fr Dl (.lst acc5)) G5 H5 (wipe σ vs) e5 ∧ Rps X.K G5 acc5 ds5 ∧ acc5.length ≤ i + 1 ∧
      PostE X W Z σ G5 ((runLc g mt el vs (items.drop (i + 1)) e5).bind fun ys e4 => .ok (ds5 ++ ys) (restE e1 e4 vs)) P,
      fun H5 ⟨G5, e5, acc5, ds5, a1, a2, a3, a4, a5⟩ => ⟨m - 1, by omega, G5, e5, acc5, ds5, a1, a2, by omega, a3, a4, a5⟩, fun x H2 y => ?_⟩
    obtain ⟨G2, gr, rx⟩ := yl x H2 y
    cases z : g items[i] e' with
    | none =>
      rw [z] at pq
      exact pq.elim
    | some e2 =>
      rw [z] at pq
      dsimp only at pq
      refine ⟨_, G2, e', items[i], e2, R'.grow gr, rx, z, fun σ3 R3 hw => ?_⟩
      have hw' : wipe σ3 vs = wipe σ vs := (hw vs hix).trans (wipe_idem σ vs)
      refine ⟨hw', _, G2, e2, R3, ?_⟩
      have sG2 : Same G1 G2 := sG.trans gr.gg
      cases z2 : mt e2 with
      | exc x e3 =>
        rw [z2] at pq
        exact pq.elim
      | bad =>
        rw [z2] at pq
        exact pq.elim
      | ok b e3 =>
        rw [z2] at pq
        dsimp only at pq
        intro G3 H3 R4 s4
        cases b with
        | false =>
          rw [if_neg Bool.false_ne_true] at pq ⊢
          refine ⟨G3, wipeE e3 vs, acc, ds, sG2.trans s4, ?_, hr.mono (gr.gg.trans s4), by omega, pq.mono (gr.gg.trans s4)⟩
          have R5 := R4.wipe vs
          rw [hw'] at R5
          exact R5
        | true =>
          rw [if_pos rfl] at pq ⊢
          cases z3 : el e3 with
          | exc x e4 =>
            rw [z3] at pq
            exact pq.elim
          | bad =>
            rw [z3] at pq
            exact pq.elim
          | ok yd e4 =>
            rw [z3] at pq
            dsimp only at pq
            refine ⟨_, G3, e3, R4, ?_⟩
            rw [z3]
            intro G5 H5 R5 s5 v rv
            refine ⟨acc, (R5.framed g0).1, by omega, ?_⟩
            refine ⟨G5, wipeE e4 vs, acc ++ [v], ds ++ [yd], (sG2.trans s4).trans s5, ?_, (hr.mono ((gr.gg.trans s4).trans s5)).append (Rps.one rv), by simp; omega, ?_⟩
            · have R6 := (R5.reframe (o' := .lst (acc ++ [v])) g0 h0).wipe vs
              rw [hw'] at R6
              exact R6
            · have pq2 := pq.mono ((gr.gg.trans s4).trans s5)
              have e5 : ∀ r : Res (List D), ((r.bind fun ys e4 => Res.ok (yd :: ys) e4).bind fun ys e4 => Res.ok (ds ++ ys) (restE e1 e4 vs)) = r.bind fun ys e4 => Res.ok (ds ++ [yd] ++ ys) (restE e1 e4 vs) := fun r => by
                cases r with
                | ok ys e => simp
                | exc x e => rfl
                | bad => rfl
              rw [e5] at pq2
              exact pq2
  · rw [List.drop_eq_nil_of_le (by omega)] at pq
    obtain ⟨hl, gl, ne⟩ := R'.framed g0
    have Ru := R'.unframe g0 h0
    have Rr := RepS.rest R1 sG Ru (wipe_length σ vs) vs hc.2
    rw [restS_wipe] at Rr
    have pq1 := pq G' H' Rr (Same.refl _)
    rw [hP] at pq1
    refine .inl ⟨it.2 (by omega), pq1 Dl _ ⟨hl, gl, h0, fun j b0 es ej ek => ?_, HM.fl (by simpa using hr)⟩⟩
    obtain ⟨m2, xs2, em, hm2, gm2, h02, _⟩ := Rr.ow ej
    rw [em] at ek
    cases ek
    -- the slot's list is the block's own: its cell stands outside vs
    have key : ∀ (us : List Nat), (restE e1 e' us)[j]? = some (.ow b0 es) → noOw e1 us = true → e'[j]? = some (.ow b0 es) ∧ j ∉ us := by
      intro us
      induction us with
      | nil => exact fun h _ => ⟨h, by simp⟩
      | cons u us ih =>
        intro h hn
        unfold noOw at hn
        rw [List.all_cons, Bool.and_eq_true] at hn
        have h' : ((restE e1 e' us).set u (e1.getD u .no))[j]? = some (.ow b0 es) := h
        by_cases hu : u = j
        · exfalso
          subst hu
          obtain ⟨hi, _⟩ := List.getElem?_eq_some_iff.mp h'
          rw [List.getElem?_set_self (by simpa using hi), List.getD_eq_getElem?_getD] at h'
          have h1 := hn.1
          cases q : e1[u]? with
          | none =>
            rw [q] at h'
            cases h'
          | some c =>
            rw [q] at h' h1
            cases h'
            exact absurd (show false = true from h1) Bool.false_ne_true
        · rw [List.getElem?_set_ne hu] at h'
          obtain ⟨a, b⟩ := ih h' hn.2
          exact ⟨a, fun z => by
            rcases List.mem_cons.mp z with z | z
            · exact hu z.symm
            · exact b z⟩
    obtain ⟨k1, k2⟩ := key vs ej hc.2
    exact ne j b0 es k1 (by rw [wipe_out k2]; exact em)
/-- [elt for tg in iter if ..] -/
theorem do_lc {e : Expr} {vs : List Nat} (hi : DI X W tg iter mi) (hix : ∀ i ∈ ix, i ∈ vs)
    (hp : ∀ wi, PI X tg iter wi → PE X e (tLc wi (cG X ix g) (cT X wF mt) (cE X wF el) vs)) : DO X W e (mFl (mLc g mi mt el vs)) := by
  obtain ⟨wi, p, k⟩ := hi.run
  refine ⟨_, hp wi p, fun Z G H σ env Q R q => lc_read hix k Z G H σ env Q R ((PostE.bind q).imp fun ds e1 G1 H1 R1 s1 q1 => q1 G1 H1 R1 (Same.refl _))⟩
/-- name = [..] -/
theorem ds_setLc {i : Nat} {st : Stmt} {vs : List Nat} (hi : DI X W tg iter mi) (hix : ∀ i ∈ ix, i ∈ vs)
    (hp : ∀ wi, PI X tg iter wi → PS X st (tAsg (tLc wi (cG X ix g) (cT X wF mt) (cE X wF el) vs) (L2.gName i))) : DS X W st (sSetO i (mFl (mLc g mi mt el vs))) := by
  obtain ⟨wi, p, k⟩ := hi.run
  refine ⟨_, hp wi p, fun Z G H σ env Dn R q => ?_⟩
  exact lc_read hix k Z G H σ env _ R ((PostE.bind (PostS.so q)).imp fun ds e1 G1 H1 R1 s1 q1 l xs O => q1 G1 H1 R1 (Same.refl _) _ G1 H1 (R1.setOw O.at_ O.gl O.h0 O.rps fun j b n _ => O.ne j b n) (Same.refl _))
end
end No
end

section
set_option Elab.async false
set_option linter.all false
set_option maxRecDepth 100000
set_option maxHeartbeats 1000000
namespace No
open PySem PySem.Spec PyProof.Rows L2

/-! ### defs -/
/-- what a def hands back -/
inductive FR where
  | sh (d : D) | ow (m : M) | exc (x : Exc) | bad
def FRp (K : PySem.W.Frag) (mg : Str → Option Value) (G H : Hp) (r : FR) (Q : VK) (E : XK) : Prop :=
  match r with
  | .sh d => ∀ v G2 H2, Gr G H G2 H2 → Rp K G2 v d → Q v H2
  | .ow m => ∀ l ho G2 H2, Gr G H G2 H2 → H2 l = some ho → G2 l = none → H l = none → HM K G2 ho m → Q (.ref l) H2
  | .exc x => ∀ c od G2 H2, Gr G H G2 H2 → ExcR K mg G2 H2 x c od → E c od H2
  | .bad => False
/-- a def of n parameters that computes f and changes nothing -/
def spF (K : PySem.W.Frag) (mg : Str → Option Value) (n : Nat) (f : List D → FR) : Sp := fun vs H Q E => vs.length = n ∧ ∃ G ds, Same G H ∧ Rps K G vs ds ∧ FRp K mg G H (f ds) Q E
@[simp] def outF (o : Out) : FR := match o with
  | .nx _ => .sh .non
  | .rt (.sh d) _ => .sh d
  | .rt (.ow m) _ => .ow m
  | .exc x _ => .exc x
  | _ => .bad
def env0 (N : Nat) (ds : List D) : En := ds.map Cell.sh ++ List.replicate (N - ds.length) Cell.no
def frun (N : Nat) (m : MS) (ds : List D) : FR := outF (m (env0 N ds))

theorem reps_start {K : PySem.W.Frag} {G H : Hp} {N : List Str} {vs : List V} {ds : List D} (e : Same G H) (r : Rps K G vs ds) : RepS K ⟨G, H, fun _ => .non⟩ G H (L2.start N vs) (env0 N.length ds) := by
  have hl := r.length
  refine ⟨Gr.refl e, by simp [env0, L2.start, hl], fun i c q => ?_, fun i j b1 b2 as bs l q1 q2 q3 q4 => ?_⟩
  · unfold env0 at q
    unfold L2.start
    by_cases hi : i < ds.length
    · rw [List.getElem?_append_left (by simpa using hi), List.getElem?_map, List.getElem?_eq_getElem hi] at q
      cases q
      obtain ⟨v, hv, rv⟩ := r.get (List.getElem?_eq_getElem hi)
      exact ⟨some v, by rw [List.getElem?_append_left (by simpa [hl] using hi), List.getElem?_map, hv]; rfl, v, rfl, rv⟩
    · rw [List.getElem?_append_right (by simpa using hi), List.getElem?_replicate] at q
      split at q
      · rename_i h1
        cases q
        refine ⟨none, ?_, trivial⟩
        rw [List.getElem?_append_right (by simp [hl]; omega), List.getElem?_replicate, if_pos (by simp [hl] at h1 ⊢; omega)]
      · cases q
  · exfalso
    unfold env0 at q1
    by_cases hi : i < ds.length
    · rw [List.getElem?_append_left (by simpa using hi), List.getElem?_map, List.getElem?_eq_getElem hi] at q1
      cases q1
    · rw [List.getElem?_append_right (by simpa using hi), List.getElem?_replicate] at q1
      split at q1
      · cases q1
      · cases q1

section
variable {P : Program} {w : World} {K : PySem.W.Frag} {mg : Str → Option Value} {base : Heap}
/-- the wish of a def's body: what is raised leaves it -/
abbrev wE (E : XK) : WX := fun cls d _ H => E cls d H
theorem fn_ok {x qual : Str} {st : Stmt} {f : Addr} {fd : FuncData} {N ps : List Str} {k : Nat} {m : MS} (F : Fun K x qual st f fd) (S : FnScope N ps (defScope st))
    (hb : ∀ (cdv : Value) (A : Around) (outer : List Env) (s : Shared) (H : Hp) (E : XK), Room k (A.deeper (envOfC qual (defScope st) s.heap.objs.size f cdv)) →
      DB (cxOf (L2.CX P w) P w K mg base N qual (defScope st) f cdv A outer s H E) (wE E) (defBody st) m) :
    FnOk P w K mg base (L2.CX P w) (k + 1) f fd ps (spF K mg ps.length (frun N.length m)) := by
  refine F.okX S (fun vs H Q E h => h.1) (fun cdv A outer s H vs Q E hr h => ?_)
  obtain ⟨hl, G, ds, sG, rs, q⟩ := h
  obtain ⟨t, p, kk⟩ := (hb cdv A outer s H E hr).run
  refine ⟨t, p, kk ⟨G, H, fun _ => .non⟩ G H _ (env0 N.length ds) _ (reps_start sG rs) ?_⟩
  unfold frun at q
  generalize m (env0 N.length ds) = r at q
  cases r with
  | nx e => exact fun σ G2 H2 R s => q _ G2 H2 R.gr .non
  | rt x e =>
    cases x with
    | sh d => exact fun σ G2 H2 v R rv => q v G2 H2 R.gr rv
    | ow es => exact fun σ G2 H2 l ho R O => q l ho G2 H2 R.gr O.at_ O.gl O.h0 O.rps
  | bk e => exact q.elim
  | ct e => exact q.elim
  | exc x e => exact fun σ G2 H2 c od R s er => q c od G2 H2 R.gr er
  | bad => exact q.elim
/-- the same promise by another function that says as much -/
theorem fn_to {f : Addr} {fd : FuncData} {ps : List Str} {k n : Nat} {g g' : List D → FR} (F : FnOk P w K mg base (L2.CX P w) k f fd ps (spF K mg n g)) (h : ∀ ds, ds.length = n → g' ds = .bad ∨ g ds = g' ds) :
    FnOk P w K mg base (L2.CX P w) k f fd ps (spF K mg n g') := F.imp fun vs H Q E ⟨hl, G, ds, sG, rs, q⟩ => ⟨hl, G, ds, sG, rs, by
  rcases h ds (by rw [← rs.length]; exact hl) with z | z
  · rw [z] at q
    exact q.elim
  · rw [z]
    exact q⟩
end

/-! ### calls -/
@[simp] def mCall (n : Nat) (f : List D → FR) (ma : MA) : ME := fun env => (ma env).bind fun ds e => if ds.length = n then match f ds with
    | .sh d => .ok d e
    | .ow es => .ok es.d e
    | .exc x => .exc x e
    | .bad => .bad
  else .bad
@[simp] def mCallO (n : Nat) (f : List D → FR) (ma : MA) : MM := fun env => (ma env).bind fun ds e => if ds.length = n then match f ds with
    | .ow es => .ok es e
    | .exc x => .exc x e
    | _ => .bad
  else .bad
section
variable {X : Cx} {W : WX} {e : Expr} {es : List Expr} {ma : MA} {n : Nat} {f : List D → FR}
theorem call_core {Z : Zb} {G H : Hp} {σ : L2.St} {env : En} {Q : VK} {vs : List V} {ds : List D} (R : RepS X.K Z G H σ env) (rs : Rps X.K G vs ds) (hn : ds.length = n)
    (q : match f ds with
      | .sh d => ∀ v G2 H2, RepS X.K Z G2 H2 σ env → Same G G2 → Rp X.K G2 v d → Q v H2
      | .ow es => ∀ l ho G2 H2, RepS X.K Z G2 H2 σ env → Same G G2 → Own X.K Z G2 H2 σ env l ho es → Q (.ref l) H2
      | .exc x => ∀ c od G2 H2, RepS X.K Z G2 H2 σ env → Same G G2 → ExcR X.K X.mg G2 H2 x c od → W c od σ H2
      | .bad => False) : spF X.K X.mg n f vs H Q (WE W σ) := by
  refine ⟨by rw [rs.length]; exact hn, G, ds, R.gh, rs, ?_⟩
  cases z : f ds with
  | sh d =>
    rw [z] at q
    exact fun v G2 H2 gr rv => q v G2 H2 (R.grow gr) gr.gg rv
  | ow es =>
    rw [z] at q
    refine fun l ho G2 H2 gr hl gl h0 rl => q l ho G2 H2 (R.grow gr) gr.gg ⟨hl, gl, R.gr.hh.free h0, fun j b fs ej ek => ?_, rl⟩
    obtain ⟨m, ys, em, hm, _⟩ := R.ow ej
    rw [em] at ek
    cases ek
    rw [h0] at hm
    cases hm
  | exc x =>
    rw [z] at q
    exact fun c od G2 H2 gr er => q c od G2 H2 (R.grow gr) gr.gg er
  | bad =>
    rw [z] at q
    exact q.elim
/-- a call's reading: the arguments', then the promise at their values -/
theorem de_call {c : Expr} (h : DA X W es ma) (hp : ∀ t, PA X es t → PE X c (tCallS (spF X.K X.mg n f) (WE W) t)) : DE X W c (mCall n f ma) := by
  obtain ⟨t, p, k⟩ := h.run
  refine ⟨_, hp t p, fun Z G H σ env Q R q => ?_⟩
  refine k Z G H σ env _ R ((PostE.bind q).imp fun ds e1 G1 H1 R1 s1 q1 vs rs => ?_)
  split at q1
  · rename_i hn
    refine call_core R1 rs hn ?_
    cases z : f ds with
    | sh d =>
      rw [z] at q1
      exact fun v G2 H2 R2 s2 rv => q1 G2 H2 R2 s2 v rv
    | ow es =>
      rw [z] at q1
      refine fun l xs G2 H2 R2 s2 O => ?_
      obtain ⟨R3, s3, r3⟩ := R2.share O
      exact q1 _ _ R3 (s2.trans s3) _ r3
    | exc x =>
      rw [z] at q1
      exact q1
    | bad =>
      rw [z] at q1
      exact q1.elim
  · exact q1.elim
theorem do_call {c : Expr} (h : DA X W es ma) (hp : ∀ t, PA X es t → PE X c (tCallS (spF X.K X.mg n f) (WE W) t)) : DO X W c (mCallO n f ma) := by
  obtain ⟨t, p, k⟩ := h.run
  refine ⟨_, hp t p, fun Z G H σ env Q R q => ?_⟩
  refine k Z G H σ env _ R ((PostE.bind q).imp fun ds e1 G1 H1 R1 s1 q1 vs rs => ?_)
  split at q1
  · rename_i hn
    refine call_core R1 rs hn ?_
    cases z : f ds with
    | sh d =>
      rw [z] at q1
      exact q1.elim
    | ow es =>
      rw [z] at q1
      exact fun l xs G2 H2 R2 s2 O => q1 G2 H2 R2 s2 l xs O
    | exc x =>
      rw [z] at q1
      exact q1
    | bad =>
      rw [z] at q1
      exact q1.elim
  · exact q1.elim
end

/-! ### calls with keyword-only parameters -/
section
variable {X : Cx} {W : WX} {k : Nat} {fa : Addr} {fd : FuncData} {ps ks : List Str} {sp : Sp} {x : Str} {p pos : Pos} {e : Expr} {es : List Expr} {kws : List Keyword} {t tk : TA} {n : Nat}
def tCallKS (sp : Sp) (n m : Nat) (Ew : L2.St → XK) (t tk : TA) : TE := fun σ H Q => t σ H fun vs H1 => tk σ H1 fun zs H2 => vs.length = n ∧ zs.length = m ∧ sp (vs ++ zs) H2 Q (Ew σ)
theorem pe_callKS (F : FnOk X.prog X.w X.K X.mg X.base (L2.CX X.prog X.w) k fa fd ps sp) (hr : Room k X.A) (hg : Gl X x) (hm : X.mg x = some (.ref fa)) (hk : PySem.W.keepIn X.K (.ref fa) = true)
    (hb : ∀ (s : Shared) (us ws : List Value), us.length = n → ws.length = ks.length → BindsTo s fd ⟨us, ks.zip ws⟩ (ps.zip (us ++ ws))) (tw : Takes X W) (ha : PA X (e :: es) t) (hkw : PK X kws tk)
    (hall : (backToKw pos (keywordEach kws X.env)).all (·.1.isSome) = true := by rfl) (hks : (backToKw pos (keywordEach kws X.env)).filterMap (·.1) = ks := by rfl)
    (hdb : (x == ("__debug__" : Str)) = false := by decide) (he : starEach (e :: es) X.env = (false, eval e X.env) :: starEach es X.env := by rfl)
    (hpl : ((backTo pos (starEach (e :: es) X.env)).any (·.1) || (backToKw pos (keywordEach kws X.env)).any (·.1.isNone)) = false := by rfl) :
    PE X (.Call (.Name x p) (e :: es) kws pos) (tCallKS sp n ks.length (WE W) t tk) := by
  refine ⟨fun pins s σ H Q I h => wpAny_Call_Name_kw (ld_glob I hg hm ?_ hdb)⟩
  refine PySem.W.callWith_KW (h₀ := X.base) I.ok.mod.kin hk hall (thn (ha.run pos pins s σ H _ I h) fun us s1 ⟨vs, H1, I1, r1, q1⟩ => thn (hkw.run pos pins s1 σ H1 _ I1 q1) fun ws s2 ⟨zs, H2, I2, r2, hv, hz, q2⟩ => ⟨I2.kIn, ?_⟩) hpl he
  rw [hks]
  have lu : us.length = n := r1.length.symm.trans hv
  have lw : ws.length = ks.length := r2.length.symm.trans hz
  refine wpAny_call (codeAny_mono (F.run X.A X.stack s2 H2 ⟨us, ks.zip ws⟩ (us ++ ws) (vs ++ zs) Q (WE W σ) hr I2.env0 (hb s2 us ws lu lw) (r1.append r2) q2) fun r s3 hq => ?_)
  cases r with
  | error err => exact passAt tw σ pins H2 s2 err s3 I2 hq
  | ok fl =>
    cases fl with
    | ret u => exact I2.after hq
    | _ => exact hq.elim
structure DK (X : Cx) (W : WX) (kws : List Keyword) (m : MA) : Prop where
  run : ∃ t : TA, PK X kws t ∧ ∀ (Z : Zb) (G H : Hp) (σ : L2.St) (env : En) (Q : List V → Hp → Prop), RepS X.K Z G H σ env → PostE X W Z σ G (m env) (fun ds _ G2 H2 => ∀ vs, Rps X.K G2 vs ds → Q vs H2) → t σ H Q
theorem dk_nil : DK X W [] mNil := ⟨_, pk_nil, fun Z G H σ env Q R q => q G H R (Same.refl G) [] .nil⟩
theorem dk_cons {nm : Option Str} {kpos : Pos} {ma : ME} {mr : MA} (ha : DE X W e ma) (hr : DK X W kws mr) : DK X W (⟨nm, e, kpos⟩ :: kws) (mCons ma mr) := by
  obtain ⟨ta, pa, ka⟩ := ha.run
  obtain ⟨tr, pr, kr⟩ := hr.run
  refine ⟨_, pk_cons pa pr, fun Z G H σ env Q R q => ?_⟩
  refine ka Z G H σ env _ R ((PostE.bind q).imp fun dx env1 G1 H1 R1 s1 q1 x rx => ?_)
  refine kr Z G1 H1 σ env1 _ R1 ((PostE.bind q1).imp fun ds env2 G2 H2 R2 s2 q2 xs rs => ?_)
  exact q2 G2 H2 R2 (Same.refl _) (x :: xs) (.cons (rx.mono s2) rs)
@[simp] def mCallK (n m : Nat) (f : List D → FR) (ma mk : MA) : ME := fun env => (ma env).bind fun ds e => (mk e).bind fun ks e2 => if ds.length = n ∧ ks.length = m then match f (ds ++ ks) with
    | .sh d => .ok d e2
    | .ow es => .ok es.d e2
    | .exc x => .exc x e2
    | .bad => .bad
  else .bad
theorem Rps.app2 {K : PySem.W.Frag} {G : Hp} {vs ws : List V} {ds es : List D} (a : Rps K G vs ds) (b : Rps K G ws es) : Rps K G (vs ++ ws) (ds ++ es) := a.append b
theorem de_callK {c : Expr} {m : Nat} {ma mk : MA} {f : List D → FR} (h : DA X W es ma) (hk : DK X W kws mk) (hp : ∀ t u, PA X es t → PK X kws u → PE X c (tCallKS (spF X.K X.mg (n + m) f) n m (WE W) t u)) : DE X W c (mCallK n m f ma mk) := by
  obtain ⟨t, p, kk⟩ := h.run
  obtain ⟨u, p2, k2⟩ := hk.run
  refine ⟨_, hp t u p p2, fun Z G H σ env Q R q => ?_⟩
  refine kk Z G H σ env _ R ((PostE.bind q).imp fun ds e1 G1 H1 R1 s1 q1 vs rs => ?_)
  refine k2 Z G1 H1 σ e1 _ R1 ((PostE.bind q1).imp fun es e2 G2 H2 R2 s2 q2 zs rz => ?_)
  split at q2
  · rename_i hn
    refine ⟨by rw [rs.length]; exact hn.1, by rw [rz.length]; exact hn.2, ?_⟩
    refine call_core R2 ((rs.mono s2).append rz) (by rw [List.length_append, hn.1, hn.2]) ?_
    cases z : f (ds ++ es) with
    | sh d =>
      rw [z] at q2
      exact fun v G3 H3 R3 s3 rv => q2 G3 H3 R3 s3 v rv
    | ow fs =>
      rw [z] at q2
      refine fun l xs G3 H3 R3 s3 O => ?_
      obtain ⟨R4, s4, r4⟩ := R3.share O
      exact q2 _ _ R4 (s3.trans s4) _ r4
    | exc x =>
      rw [z] at q2
      exact q2
    | bad =>
      rw [z] at q2
      exact q2.elim
  · exact q2.elim
end
end No
end

section
set_option Elab.async false
set_option linter.all false
set_option maxRecDepth 100000
set_option maxHeartbeats 1000000
namespace No
open PySem PySem.Spec PyProof.Rows L2

/-! ### defs that change a thing that is lent to them -/
/-- an argument: data, or the slot whose thing is lent -/
inductive Arg where
  | sh (d : D) | ln (i : Nat)
abbrev MG := En → Res (List Arg)
def RepA (K : PySem.W.Frag) (G : Hp) (σ : L2.St) : List V → List Arg → Prop
  | [], [] => True
  | v :: vs, .sh d :: as => Rp K G v d ∧ RepA K G σ vs as
  | v :: vs, .ln i :: as => σ[i]? = some (some v) ∧ RepA K G σ vs as
  | _, _ => False
theorem RepA.length {K : PySem.W.Frag} {G : Hp} {σ : L2.St} : ∀ {vs : List V} {as : List Arg}, RepA K G σ vs as → vs.length = as.length
  | [], [], _ => rfl
  | v :: vs, .sh d :: as, h => by
    have ih := RepA.length (vs := vs) (as := as) h.2
    simp [ih]
  | v :: vs, .ln i :: as, h => by
    have ih := RepA.length (vs := vs) (as := as) h.2
    simp [ih]
  | [], _ :: _, h => h.elim
  | _ :: _, [], h => h.elim
theorem RepA.mono {K : PySem.W.Frag} {G G' : Hp} {σ : L2.St} (e : Same G G') : ∀ {vs : List V} {as : List Arg}, RepA K G σ vs as → RepA K G' σ vs as
  | [], [], _ => trivial
  | v :: vs, .sh d :: as, h => ⟨h.1.mono e, RepA.mono e (vs := vs) (as := as) h.2⟩
  | v :: vs, .ln i :: as, h => ⟨h.1, RepA.mono e (vs := vs) (as := as) h.2⟩
  | [], _ :: _, h => h.elim
  | _ :: _, [], h => h.elim
theorem RepA.get {K : PySem.W.Frag} {G : Hp} {σ : L2.St} : ∀ {vs : List V} {as : List Arg} {k : Nat} {a : Arg}, RepA K G σ vs as → as[k]? = some a → ∃ v, vs[k]? = some v ∧ match a with
    | .sh d => Rp K G v d
    | .ln i => σ[i]? = some (some v)
  | [], [], _, _, _, e => by simp at e
  | v :: vs, .sh d :: as, 0, _, h, e => by simp at e; subst e; exact ⟨v, rfl, h.1⟩
  | v :: vs, .ln i :: as, 0, _, h, e => by simp at e; subst e; exact ⟨v, rfl, h.1⟩
  | v :: vs, .sh d :: as, k + 1, a, h, e => by
    obtain ⟨w, h1, h2⟩ := RepA.get (k := k) (a := a) (vs := vs) (as := as) h.2 (by simpa using e)
    exact ⟨w, by simpa using h1, h2⟩
  | v :: vs, .ln i :: as, k + 1, a, h, e => by
    obtain ⟨w, h1, h2⟩ := RepA.get (k := k) (a := a) (vs := vs) (as := as) h.2 (by simpa using e)
    exact ⟨w, by simpa using h1, h2⟩
  | [], _ :: _, _, _, h, _ => h.elim
  | _ :: _, [], _, _, h, _ => h.elim
/-- the cell that the def's parameter begins with -/
@[simp] def argC (e : En) : Arg → Cell
  | .sh d => .sh d
  | .ln i => match e[i]? with
    | some (.ow _ m) => .ow true m
    | _ => .no
@[simp] def okA (e : En) : Arg → Bool
  | .sh _ => true
  | .ln i => match e[i]? with
    | some (.ow _ _) => true
    | _ => false
/-- the cell of a lent thing behind the call -/
@[simp] def reC (c c' : Cell) : Cell := match c, c' with
  | .ow b _, .ow _ m => .ow b m
  | _, _ => .no
@[simp] def backE : List Arg → List Cell → En → En
  | .ln i :: as, c :: cs, e => backE as cs (e.set i (reC (e.getD i .no) c))
  | .sh _ :: as, _ :: cs, e => backE as cs e
  | _, _, e => e
@[simp] def lents : List Arg → List Nat
  | .ln i :: as => i :: lents as
  | .sh _ :: as => lents as
  | [] => []
theorem mem_lents : ∀ {as : List Arg} {i : Nat}, i ∈ lents as ↔ ∃ k : Nat, as[k]? = some (.ln i)
  | [], i => by simp
  | .sh d :: as, i => by
    simp only [lents]
    rw [mem_lents]
    constructor
    · rintro ⟨k, h⟩
      exact ⟨k + 1, by simpa using h⟩
    · rintro ⟨k, h⟩
      cases k with
      | zero => simp at h
      | succ k => exact ⟨k, by simpa using h⟩
  | .ln j :: as, i => by
    simp only [lents, List.mem_cons]
    rw [mem_lents]
    constructor
    · rintro (h | ⟨k, h⟩)
      · subst h
        exact ⟨0, rfl⟩
      · exact ⟨k + 1, by simpa using h⟩
    · rintro ⟨k, h⟩
      cases k with
      | zero =>
        simp at h
        exact .inl h.symm
      | succ k => exact .inr ⟨k, by simpa using h⟩
theorem lents_inj : ∀ {as : List Arg} {i k k' : Nat}, (lents as).Nodup → as[k]? = some (.ln i) → as[k']? = some (.ln i) → k = k'
  | [], i, k, k', _, h, _ => by simp at h
  | .sh d :: as, i, k, k', n, h, h' => by
    cases k with
    | zero => simp at h
    | succ k =>
      cases k' with
      | zero => simp at h'
      | succ k' => rw [lents_inj (as := as) (i := i) (k := k) (k' := k') n (by simpa using h) (by simpa using h')]
  | .ln j :: as, i, k, k', n, h, h' => by
    obtain ⟨n1, n2⟩ := List.nodup_cons.mp n
    cases k with
    | zero =>
      simp at h
      subst h
      cases k' with
      | zero => rfl
      | succ k' => exact absurd (mem_lents.mpr ⟨k', by simpa using h'⟩) n1
    | succ k =>
      cases k' with
      | zero =>
        simp at h'
        subst h'
        exact absurd (mem_lents.mpr ⟨k, by simpa using h⟩) n1
      | succ k' => rw [lents_inj (as := as) (i := i) (k := k) (k' := k') n2 (by simpa using h) (by simpa using h')]
theorem backE_len : ∀ (as : List Arg) (cs : List Cell) (e : En), (backE as cs e).length = e.length
  | [], _, _ => rfl
  | .sh d :: as, [], _ => rfl
  | .ln i :: as, [], _ => rfl
  | .sh d :: as, c :: cs, e => backE_len as cs e
  | .ln i :: as, c :: cs, e => by
    simp only [backE]
    rw [backE_len as cs, List.length_set]
theorem backE_out {j : Nat} : ∀ {as : List Arg} {cs : List Cell} {e : En}, j ∉ lents as → (backE as cs e)[j]? = e[j]?
  | [], _, _, _ => rfl
  | .sh d :: as, [], _, _ => rfl
  | .ln i :: as, [], _, _ => rfl
  | .sh d :: as, c :: cs, e, h => backE_out (as := as) (cs := cs) (e := e) h
  | .ln i :: as, c :: cs, e, h => by
    simp only [backE]
    simp only [lents, List.mem_cons] at h
    rw [backE_out (as := as) (fun z => h (.inr z)), List.getElem?_set_ne (fun z => h (.inl z.symm))]
theorem backE_in {j : Nat} : ∀ {as : List Arg} {cs : List Cell} {e : En} {k : Nat} {c : Cell}, (lents as).Nodup → as[k]? = some (.ln j) → cs[k]? = some c → j < e.length → (backE as cs e)[j]? = some (reC (e.getD j .no) c)
  | [], _, _, k, _, _, h, _, _ => by simp at h
  | .sh d :: as, [], _, _, _, _, _, h, _ => by simp at h
  | .ln i :: as, [], _, _, _, _, _, h, _ => by simp at h
  | .sh d :: as, c0 :: cs, e, k, c, n, h, h2, hj => by
    cases k with
    | zero => simp at h
    | succ k => exact backE_in (as := as) (cs := cs) (e := e) (k := k) n (by simpa using h) (by simpa using h2) hj
  | .ln i :: as, c0 :: cs, e, k, c, n, h, h2, hj => by
    obtain ⟨n1, n2⟩ := List.nodup_cons.mp n
    simp only [backE]
    cases k with
    | zero =>
      simp only [List.getElem?_cons_zero, Option.some.injEq, Arg.ln.injEq] at h h2
      subst h
      subst h2
      rw [backE_out n1, List.getElem?_set_self hj]
    | succ k =>
      have h' : as[k]? = some (.ln j) := by simpa using h
      have nj : i ≠ j := fun z => n1 (mem_lents.mpr ⟨k, by rw [z]; exact h'⟩)
      have h3 := backE_in (as := as) (cs := cs) (e := e.set i (reC (e.getD i .no) c0)) (k := k) (c := c) n2 h' (by simpa using h2) (by simpa using hj)
      have h4 : (e.set i (reC (e.getD i .no) c0)).getD j .no = e.getD j .no := by
        rw [List.getD_eq_getElem?_getD, List.getElem?_set_ne nj, List.getD_eq_getElem?_getD]
      rw [h4] at h3
      exact h3

/-! #### what is lent, and back -/
section
variable {K : PySem.W.Frag} {Z : Zb} {G H G2 H2 : Hp} {σ : List (Option V)} {env : En} {vs : List V} {as : List Arg} {cs : List Cell}
/-- the addresses that are lent -/
def Lnt (σ : L2.St) (env : En) (as : List Arg) (a : Addr) : Prop := ∃ (k i : Nat) (b : Bool) (m : M), as[k]? = some (.ln i) ∧ env[i]? = some (.ow b m) ∧ σ[i]? = some (some (.ref a))
open Classical in
/-- the heap without what is lent -/
noncomputable def offL (σ : L2.St) (env : En) (as : List Arg) (H : Hp) : Hp := fun a => if Lnt σ env as a then none else H a
noncomputable def lendZ (σ : L2.St) (env : En) (as : List Arg) (vs : List V) (G H : Hp) : Zb := ⟨G, offL σ env as H, fun k => vs.getD k .non⟩
theorem offL_in {a : Addr} (h : Lnt σ env as a) : offL σ env as H a = none := if_pos h
theorem offL_out {a : Addr} (h : ¬ Lnt σ env as a) : offL σ env as H a = H a := if_neg h
theorem offL_some {a : Addr} {o : HO} (h : offL σ env as H a = some o) : ¬ Lnt σ env as a ∧ H a = some o := by
  by_cases c : Lnt σ env as a
  · rw [offL_in c] at h
    cases h
  · rw [offL_out c] at h
    exact ⟨c, h⟩
theorem RepS.lnt (R : RepS K Z G H σ env) {a : Addr} (h : Lnt σ env as a) : G a = none ∧ Z.H0 a = none := by
  obtain ⟨k, i, b, m, _, e, es⟩ := h
  obtain ⟨l, ho, el, _, gl, h0, _⟩ := R.ow e
  rw [es] at el
  cases el
  exact ⟨gl, h0⟩
theorem RepS.lend (R : RepS K Z G H σ env) (ra : RepA K G σ vs as) (hn : (lents as).Nodup) : RepS K (lendZ σ env as vs G H) G H (vs.map some) (as.map (argC env)) := by
  have hl := ra.length
  refine ⟨⟨Same.refl G, fun a u q => (offL_some q).2, R.gh, fun a o q => .inl q⟩, by simp [hl], fun k c e => ?_, fun k k' b b' m m' l e1 e2 e3 e4 => ?_⟩
  · rw [List.getElem?_map] at e
    cases ek : as[k]? with
    | none =>
      rw [ek] at e
      cases e
    | some a =>
      rw [ek] at e
      cases e
      obtain ⟨v, hv, hr⟩ := ra.get ek
      refine ⟨some v, by rw [List.getElem?_map, hv]; rfl, ?_⟩
      cases a with
      | sh d => exact ⟨v, rfl, hr⟩
      | ln i =>
        have hr : σ[i]? = some (some v) := hr
        simp only [argC]
        split
        · rename_i b m em
          obtain ⟨l, ho, el, hl1, gl, h0, rm, _⟩ := R.ow em
          rw [hr] at el
          cases el
          refine ⟨l, ho, rfl, hl1, gl, offL_in ⟨k, i, b, m, ek, em, hr⟩, rm, fun _ => ?_⟩
          show vs.getD k .non = _
          rw [List.getD_eq_getElem?_getD, hv]
          rfl
        · trivial
  · have key : ∀ {k : Nat} {b : Bool} {m : M}, (as.map (argC env))[k]? = some (.ow b m) → (vs.map some)[k]? = some (some (.ref l)) → ∃ (i : Nat) (b' : Bool) (m' : M), as[k]? = some (.ln i) ∧ env[i]? = some (.ow b' m') ∧ σ[i]? = some (some (.ref l)) := fun {k b m} e q => by
      rw [List.getElem?_map] at e
      cases ek : as[k]? with
      | none =>
        rw [ek] at e
        cases e
      | some a =>
        rw [ek] at e
        cases a with
        | sh d => cases e
        | ln i =>
          obtain ⟨v, hv, hr⟩ := ra.get ek
          rw [List.getElem?_map, hv] at q
          cases q
          have e' : argC env (.ln i) = .ow b m := Option.some.inj e
          simp only [argC] at e'
          split at e'
          · rename_i b1 m1 em
            exact ⟨i, b1, m1, rfl, em, hr⟩
          · cases e'
    obtain ⟨i, b1, m1, a1, a2, a3⟩ := key e1 e3
    obtain ⟨i', b2, m2, c1, c2, c3⟩ := key e2 e4
    have : i = i' := R.dis i i' _ _ _ _ l a2 c2 a3 c3
    subst this
    exact lents_inj hn a1 c1
theorem RepS.back (R : RepS K Z G H σ env) (ra : RepA K G σ vs as) (hn : (lents as).Nodup) (hcl : cs.length = as.length) (R2 : RepS K (lendZ σ env as vs G H) G2 H2 (vs.map some) cs) : RepS K Z G2 H2 σ (backE as cs env) := by
  have s12 : Same G G2 := R2.gr.gg
  have cell : ∀ (j : Nat) (c : Cell), (backE as cs env)[j]? = some c → ∃ c0, env[j]? = some c0 ∧ ((j ∉ lents as ∧ c = c0) ∨ ∃ (k : Nat) (c' : Cell), as[k]? = some (.ln j) ∧ cs[k]? = some c' ∧ c = reC c0 c') := fun j c e => by
    have hj : j < env.length := by
      have := (List.getElem?_eq_some_iff.mp e).1
      rw [backE_len] at this
      exact this
    by_cases hm : j ∈ lents as
    · obtain ⟨k, hk⟩ := mem_lents.mp hm
      have hkl : k < cs.length := by
        rw [hcl]
        exact (List.getElem?_eq_some_iff.mp hk).1
      have hc : cs[k]? = some cs[k] := List.getElem?_eq_getElem hkl
      rw [backE_in hn hk hc hj] at e
      cases e
      rw [List.getD_eq_getElem?_getD, List.getElem?_eq_getElem hj]
      exact ⟨env[j], rfl, .inr ⟨k, _, hk, hc, rfl⟩⟩
    · rw [backE_out hm] at e
      exact ⟨c, e, .inl ⟨hm, rfl⟩⟩
  have ows : ∀ {j : Nat} {b : Bool} {m : M}, (backE as cs env)[j]? = some (.ow b m) → ∃ m0, env[j]? = some (.ow b m0) := fun {j b m} e => by
    obtain ⟨c0, h0, (⟨_, h⟩ | ⟨k, c', _, _, h⟩)⟩ := cell j _ e
    · rw [← h] at h0
      exact ⟨_, h0⟩
    · simp only [reC] at h
      split at h
      · cases h
        exact ⟨_, h0⟩
      · cases h
  refine ⟨⟨R.gr.gg.trans s12, fun a u q => ?_, R2.gr.gh, fun a o q => ?_⟩, by rw [backE_len]; exact R.len, fun j c e => ?_, fun i j b b' m m' l e1 e2 e3 e4 => ?_⟩
  · refine R2.gr.hh a u ?_
    have nl : ¬ Lnt σ env as a := fun z => by
      rw [(R.lnt z).2] at q
      cases q
    show offL σ env as H a = some u
    rw [offL_out nl]
    exact R.gr.hh a u q
  · rcases R2.gr.nw a o q with z | z | z
    · exact R.gr.nw a o z
    · have z : offL σ env as H a = none := z
      by_cases c : Lnt σ env as a
      · exact .inr (.inl (R.lnt c).2)
      · rw [offL_out c] at z
        exact .inr (.inl (R.gr.hh.free z))
    · exact .inr (.inr z)
  · obtain ⟨c0, h0, hc⟩ := cell j c e
    obtain ⟨o, ho, rc⟩ := R.rep j c0 h0
    refine ⟨o, ho, ?_⟩
    rcases hc with ⟨hm, rfl⟩ | ⟨k, c', hk, hk', rfl⟩
    · cases c with
      | no => trivial
      | sh d =>
        obtain ⟨v, ev, rv⟩ := rc
        exact ⟨v, ev, rv.mono s12⟩
      | ow b n =>
        obtain ⟨l, hob, rfl, hl, gl, hz, rm, hb⟩ := rc
        have nl : ¬ Lnt σ env as l := fun ⟨k, i, b2, m2, a1, a2, a3⟩ => by
          have : i = j := R.dis i j _ _ _ _ l a2 h0 a3 ho
          subst this
          exact hm (mem_lents.mpr ⟨k, a1⟩)
        have hl2 : offL σ env as H l = some hob := by
          rw [offL_out nl]
          exact hl
        refine ⟨l, hob, rfl, R2.gr.hh _ _ hl2, ?_, hz, rm.mono s12, hb⟩
        cases q : G2 l with
        | none => rfl
        | some u =>
          rcases R2.gr.nw l u q with z | z | ⟨xs, z⟩
          · have z : G l = some u := z
            rw [gl] at z
            cases z
          · have z : offL σ env as H l = none := z
            rw [hl2] at z
            cases z
          · have h1 := R2.gh _ _ q
            rw [R2.gr.hh _ _ hl2] at h1
            exact absurd ((Option.some.inj h1).trans z) (rm.ntup xs)
    · simp only [reC]
      split
      · rename_i b n b' n'
        obtain ⟨l, hob, rfl, hl, gl, hz, rm, hb⟩ := rc
        obtain ⟨l', ho', el', hl', gl', hz', rm', hb'⟩ := R2.ow hk'
        obtain ⟨v, hv, hr⟩ := ra.get hk
        have hr : σ[j]? = some (some v) := hr
        rw [ho] at hr
        cases hr
        rw [List.getElem?_map, hv] at el'
        cases el'
        exact ⟨l, ho', rfl, hl', gl', hz, rm', hb⟩
      · trivial
  · obtain ⟨_, q1⟩ := ows e1
    obtain ⟨_, q2⟩ := ows e2
    exact R.dis i j _ _ _ _ l q1 q2 e3 e4
theorem RepS.backOwn (R : RepS K Z G H σ env) (ra : RepA K G σ vs as) (hn : (lents as).Nodup) (hcl : cs.length = as.length) {l : Addr} {ho : HO} {m : M} (R2 : RepS K (lendZ σ env as vs G H) G2 H2 (vs.map some) cs)
    (O : Own K (lendZ σ env as vs G H) G2 H2 (vs.map some) cs l ho m) : Own K Z G2 H2 σ (backE as cs env) l ho m := by
  have h0 : offL σ env as H l = none := O.h0
  refine ⟨O.at_, O.gl, ?_, fun j b n e q => ?_, O.rps⟩
  · by_cases c : Lnt σ env as l
    · exact (R.lnt c).2
    · rw [offL_out c] at h0
      exact R.gr.hh.free h0
  · have hj : j < env.length := by
      have := (List.getElem?_eq_some_iff.mp e).1
      rw [backE_len] at this
      exact this
    by_cases hm : j ∈ lents as
    · obtain ⟨k, hk⟩ := mem_lents.mp hm
      have hkl : k < cs.length := by
        rw [hcl]
        exact (List.getElem?_eq_some_iff.mp hk).1
      have hc : cs[k]? = some cs[k] := List.getElem?_eq_getElem hkl
      rw [backE_in hn hk hc hj] at e
      have e := Option.some.inj e
      obtain ⟨v, hv, hr⟩ := ra.get hk
      have hr : σ[j]? = some (some v) := hr
      rw [q] at hr
      cases hr
      generalize hcc : cs[k] = cc at e hc
      simp only [reC] at e
      split at e
      · exact O.ne k _ _ hc (by rw [List.getElem?_map, hv]; rfl)
      · cases e
    · rw [backE_out hm] at e
      obtain ⟨l', ho', el, hl, gl, hz, _⟩ := R.ow e
      rw [q] at el
      cases el
      have nl : ¬ Lnt σ env as l := fun ⟨k, i, b2, m2, a1, a2, a3⟩ => by
        have : i = j := R.dis i j _ _ _ _ l a2 e a3 q
        subst this
        exact hm (mem_lents.mpr ⟨k, a1⟩)
      rw [offL_out nl, hl] at h0
      cases h0
end

/-! #### the promise of such a def -/
inductive FM where
  | sh (d : D) (cs : List Cell) | ow (m : M) (cs : List Cell) | exc (x : Exc) | bad
def FMp (K : PySem.W.Frag) (mg : Str → Option Value) (Z : Zb) (σ : L2.St) (n : Nat) (r : FM) (Q : VK) (E : XK) : Prop :=
  match r with
  | .sh d cs => cs.length = n ∧ ∀ v G2 H2, RepS K Z G2 H2 σ cs → Rp K G2 v d → Q v H2
  | .ow m cs => cs.length = n ∧ ∀ l ho G2 H2, RepS K Z G2 H2 σ cs → Own K Z G2 H2 σ cs l ho m → Q (.ref l) H2
  | .exc x => ∀ c od G2 H2, RepS K Z G2 H2 σ (List.replicate n .no) → ExcR K mg G2 H2 x c od → E c od H2
  | .bad => False
/-- a def of n parameters that computes f and may change what is lent -/
def spM (K : PySem.W.Frag) (mg : Str → Option Value) (n : Nat) (f : List Cell → FM) : Sp := fun vs H Q E => vs.length = n ∧ ∃ G H0 cs, RepS K ⟨G, H0, fun k => vs.getD k .non⟩ G H (vs.map some) cs ∧ FMp K mg ⟨G, H0, fun k => vs.getD k .non⟩ (vs.map some) n (f cs) Q E
/-- a parameter's cell at the end -/
@[simp] def endC (c0 c : Cell) : Cell := match c0 with
  | .sh d => .sh d
  | _ => match c with
    | .ow true m => .ow true m
    | _ => .no
@[simp] def endCs : List Cell → En → List Cell
  | [], _ => []
  | c :: cs, [] => .no :: endCs cs []
  | c :: cs, e :: es => endC c e :: endCs cs es
@[simp] def outM (cs : List Cell) (o : Out) : FM := match o with
  | .nx e => .sh .non (endCs cs e)
  | .rt (.sh d) e => .sh d (endCs cs e)
  | .rt (.ow m) e => .ow m (endCs cs e)
  | .exc x _ => .exc x
  | _ => .bad
@[simp] def env0M (N : Nat) (cs : List Cell) : En := cs ++ List.replicate (N - cs.length) Cell.no
def mrun (N : Nat) (m : MS) (cs : List Cell) : FM := outM cs (m (env0M N cs))
theorem endCs_len : ∀ (cs : List Cell) (e : En), (endCs cs e).length = cs.length
  | [], _ => rfl
  | c :: cs, [] => by simp [endCs_len cs []]
  | c :: cs, x :: es => by simp [endCs_len cs es]
theorem endCs_get : ∀ (cs : List Cell) (e : En) (k : Nat) (c : Cell), (endCs cs e)[k]? = some c → ∃ c0, cs[k]? = some c0 ∧ (c = .no ∨ ∃ c1, e[k]? = some c1 ∧ c = endC c0 c1)
  | [], _, _, _, h => by simp at h
  | c :: cs, [], 0, _, h => by simp at h; exact ⟨c, rfl, .inl h.symm⟩
  | c :: cs, [], k + 1, d, h => by
    obtain ⟨c0, h1, h2⟩ := endCs_get cs [] k d (by simpa using h)
    exact ⟨c0, by simpa using h1, h2.imp id fun ⟨c1, z, _⟩ => by simp at z⟩
  | c :: cs, x :: es, 0, _, h => by simp only [endCs, List.getElem?_cons_zero, Option.some.injEq] at h; exact ⟨c, rfl, .inr ⟨x, rfl, h.symm⟩⟩
  | c :: cs, x :: es, k + 1, d, h => by
    obtain ⟨c0, h1, h2⟩ := endCs_get cs es k d (by simpa using h)
    exact ⟨c0, by simpa using h1, h2.imp id fun ⟨c1, z, w⟩ => ⟨c1, by simpa using z, w⟩⟩
section
variable {K : PySem.W.Frag} {G H H0 G2 H2 : Hp} {B : Nat → V} {vs : List V} {cs : List Cell} {σ : List (Option V)} {e : En}
theorem reps_startM {N : List Str} (R : RepS K ⟨G, H0, B⟩ G H (vs.map some) cs) : RepS K ⟨G, H0, B⟩ G H (L2.start N vs) (env0M N.length cs) := by
  have hl : cs.length = vs.length := by simpa using R.len
  have low : ∀ {i : Nat}, i < vs.length → (L2.start N vs)[i]? = (vs.map some)[i]? := fun {i} hi => by
    unfold L2.start
    rw [List.getElem?_append_left (by simpa using hi)]
  refine ⟨R.gr, by simp [L2.start, hl], fun i c q => ?_, fun i j b b' m m' l e1 e2 e3 e4 => ?_⟩
  · by_cases hi : i < cs.length
    · rw [env0M, List.getElem?_append_left hi] at q
      rw [low (by omega)]
      exact R.rep i c q
    · rw [env0M, List.getElem?_append_right (by omega), List.getElem?_replicate] at q
      split at q
      · rename_i h1
        cases q
        refine ⟨none, ?_, trivial⟩
        unfold L2.start
        rw [List.getElem?_append_right (by simp; omega), List.getElem?_replicate, if_pos (by simp at h1 ⊢; omega)]
      · cases q
  · have lt : ∀ {i : Nat} {b : Bool} {m : M}, (env0M N.length cs)[i]? = some (.ow b m) → i < cs.length ∧ cs[i]? = some (.ow b m) := fun {i b m} q => by
      by_cases hi : i < cs.length
      · rw [env0M, List.getElem?_append_left hi] at q
        exact ⟨hi, q⟩
      · rw [env0M, List.getElem?_append_right (by omega), List.getElem?_replicate] at q
        split at q <;> cases q
    obtain ⟨h1, q1⟩ := lt e1
    obtain ⟨h2, q2⟩ := lt e2
    rw [low (by omega)] at e3 e4
    exact R.dis i j _ _ _ _ l q1 q2 e3 e4
/-- at the end -/
theorem reps_end (hB : ∀ (i : Nat) (v : V), vs[i]? = some v → B i = v) (R : RepS K ⟨G, H0, B⟩ G H (vs.map some) cs) (R2 : RepS K ⟨G, H0, B⟩ G2 H2 σ e) : RepS K ⟨G, H0, B⟩ G2 H2 (vs.map some) (endCs cs e) := by
  have hl : cs.length = vs.length := by simpa using R.len
  have same : ∀ {k : Nat} {m : M} {l : Addr}, k < vs.length → e[k]? = some (.ow true m) → (σ[k]? = some (some (.ref l)) ↔ (vs.map some)[k]? = some (some (.ref l))) := fun {k m l} hk q => by
    obtain ⟨l', ho, el, _, _, _, _, hb⟩ := R2.ow q
    have hv : vs[k]? = some vs[k] := List.getElem?_eq_getElem hk
    have z : B k = .ref l' := hb rfl
    rw [hB k _ hv] at z
    rw [el, List.getElem?_map, hv, z]
    rfl
  have ows : ∀ {k : Nat} {b : Bool} {m : M}, (endCs cs e)[k]? = some (.ow b m) → k < vs.length ∧ b = true ∧ e[k]? = some (.ow true m) := fun {k b m} q => by
    obtain ⟨c0, h0, h1⟩ := endCs_get cs e k _ q
    have hk : k < vs.length := by
      rw [← hl]
      exact (List.getElem?_eq_some_iff.mp h0).1
    rcases h1 with h1 | ⟨c1, h1, h2⟩
    · cases h1
    · cases c0 with
      | sh d => cases h2
      | _ =>
        simp only [endC] at h2
        split at h2
        · cases h2
          exact ⟨hk, rfl, h1⟩
        · cases h2
  refine ⟨R2.gr, by rw [endCs_len]; exact R.len, fun k c q => ?_, fun i j b b' m m' l e1 e2 e3 e4 => ?_⟩
  · obtain ⟨c0, h0, h1⟩ := endCs_get cs e k _ q
    obtain ⟨o, ho, rc⟩ := R.rep k c0 h0
    refine ⟨o, ho, ?_⟩
    rcases h1 with rfl | ⟨c1, h1, rfl⟩
    · trivial
    · cases c0 with
      | sh d =>
        obtain ⟨v, ev, rv⟩ := rc
        exact ⟨v, ev, rv.mono R2.gr.gg⟩
      | no =>
        simp only [endC]
        split
        · rename_i m
          have hk : k < vs.length := by
            rw [← hl]
            exact (List.getElem?_eq_some_iff.mp h0).1
          obtain ⟨l, hob, el, r2⟩ := R2.ow h1
          have z := (same hk h1).mp el
          rw [ho] at z
          exact ⟨l, hob, Option.some.inj z, r2⟩
        · trivial
      | ow b m0 =>
        simp only [endC]
        split
        · rename_i m
          have hk : k < vs.length := by
            rw [← hl]
            exact (List.getElem?_eq_some_iff.mp h0).1
          obtain ⟨l, hob, el, r2⟩ := R2.ow h1
          have z := (same hk h1).mp el
          rw [ho] at z
          exact ⟨l, hob, Option.some.inj z, r2⟩
        · trivial
  · obtain ⟨h1, rfl, q1⟩ := ows e1
    obtain ⟨h2, rfl, q2⟩ := ows e2
    exact R2.dis i j _ _ _ _ l q1 q2 ((same h1 q1).mpr e3) ((same h2 q2).mpr e4)
theorem own_end (hB : ∀ (i : Nat) (v : V), vs[i]? = some v → B i = v) (R : RepS K ⟨G, H0, B⟩ G H (vs.map some) cs) (R2 : RepS K ⟨G, H0, B⟩ G2 H2 σ e) {l : Addr} {ho : HO} {m : M} (O : Own K ⟨G, H0, B⟩ G2 H2 σ e l ho m) : Own K ⟨G, H0, B⟩ G2 H2 (vs.map some) (endCs cs e) l ho m := by
  refine ⟨O.at_, O.gl, O.h0, fun k b n q z => ?_, O.rps⟩
  obtain ⟨c0, h0, h1⟩ := endCs_get cs e k _ q
  have hl : cs.length = vs.length := by simpa using R.len
  have hk : k < vs.length := by
    rw [← hl]
    exact (List.getElem?_eq_some_iff.mp h0).1
  have hv : vs[k]? = some vs[k] := List.getElem?_eq_getElem hk
  have key : e[k]? = some (.ow true n) := by
    rcases h1 with h1 | ⟨c1, h1, h2⟩
    · cases h1
    · cases c0 with
      | sh d => cases h2
      | _ =>
        simp only [endC] at h2
        split at h2
        · cases h2
          exact h1
        · cases h2
  obtain ⟨l', hob, el, _, _, _, _, hb⟩ := R2.ow key
  have y : B k = .ref l' := hb rfl
  rw [hB k _ hv] at y
  rw [List.getElem?_map, hv, y] at z
  cases z
  exact O.ne k _ _ key el
theorem reps_no (R : RepS K ⟨G, H0, B⟩ G2 H2 σ e) : RepS K ⟨G, H0, B⟩ G2 H2 (vs.map some) (List.replicate vs.length .no) := by
  refine ⟨R.gr, by simp, fun k c q => ?_, fun i j b b' m m' l e1 e2 e3 e4 => ?_⟩
  · rw [List.getElem?_replicate] at q
    split at q
    · rename_i hk
      cases q
      exact ⟨some vs[k], by rw [List.getElem?_map, List.getElem?_eq_getElem hk]; rfl, trivial⟩
    · cases q
  · rw [List.getElem?_replicate] at e1
    split at e1 <;> cases e1
end
section
variable {P : Program} {w : World} {K : PySem.W.Frag} {mg : Str → Option Value} {base : Heap}
theorem fn_okM {x qual : Str} {st : Stmt} {f : Addr} {fd : FuncData} {N ps : List Str} {k : Nat} {m : MS} (F : Fun K x qual st f fd) (S : FnScope N ps (defScope st))
    (hb : ∀ (cdv : Value) (A : Around) (outer : List Env) (s : Shared) (H : Hp) (E : XK), Room k (A.deeper (envOfC qual (defScope st) s.heap.objs.size f cdv)) →
      DB (cxOf (L2.CX P w) P w K mg base N qual (defScope st) f cdv A outer s H E) (wE E) (defBody st) m) :
    FnOk P w K mg base (L2.CX P w) (k + 1) f fd ps (spM K mg ps.length (mrun N.length m)) := by
  refine F.okX S (fun vs H Q E h => h.1) (fun cdv A outer s H vs Q E hr h => ?_)
  obtain ⟨hl, G, H0, cs, R, q⟩ := h
  obtain ⟨t, p, kk⟩ := (hb cdv A outer s H E hr).run
  have hB : ∀ (i : Nat) (v : V), vs[i]? = some v → vs.getD i .non = v := fun i v h => by rw [List.getD_eq_getElem?_getD, h]; rfl
  refine ⟨t, p, kk _ G H _ (env0M N.length cs) _ (reps_startM R) ?_⟩
  unfold mrun at q
  generalize m (env0M N.length cs) = r at q
  cases r with
  | nx e => exact fun σ G2 H2 R2 s => q.2 _ G2 H2 (reps_end hB R R2) .non
  | rt x e =>
    cases x with
    | sh d => exact fun σ G2 H2 v R2 rv => q.2 v G2 H2 (reps_end hB R R2) rv
    | ow es => exact fun σ G2 H2 l ho R2 O => q.2 l ho G2 H2 (reps_end hB R R2) (own_end hB R R2 O)
  | bk e => exact q.elim
  | ct e => exact q.elim
  | exc x e => exact fun σ G2 H2 c od R2 s er => q c od G2 H2 (by rw [← hl]; exact reps_no R2) er
  | bad => exact q.elim
end

/-! #### calls that lend -/
structure DL (X : Cx) (W : WX) (es : List Expr) (m : MG) : Prop where
  run : ∃ t : TA, PA X es t ∧ ∀ (Z : Zb) (G H : Hp) (σ : L2.St) (env : En) (Q : List V → Hp → Prop), RepS X.K Z G H σ env → PostE X W Z σ G (m env) (fun as _ G2 H2 => ∀ vs, RepA X.K G2 σ vs as → Q vs H2) → t σ H Q
@[simp] def aNil : MG := fun env => .ok [] env
@[simp] def aSh (ma : ME) (mr : MG) : MG := fun env => (ma env).bind fun d e1 => (mr e1).bind fun ds e2 => .ok (.sh d :: ds) e2
@[simp] def aLn (i : Nat) (mr : MG) : MG := fun env => match env[i]? with
  | some (.ow _ _) => (mr env).bind fun ds e2 => .ok (.ln i :: ds) e2
  | _ => .bad
section
variable {X : Cx} {W : WX} {a e : Expr} {es : List Expr} {ma : ME} {mr : MG} {n : Nat} {f : List Cell → FM}
theorem dl_nil : DL X W [] aNil := ⟨_, pa_nil, fun Z G H σ env Q R p => p G H R (Same.refl G) [] trivial⟩
theorem dl_sh (ha : DE X W a ma) (hr : DL X W es mr) (hs : starEach (a :: es) X.env = (false, eval a X.env) :: starEach es X.env := by rfl) : DL X W (a :: es) (aSh ma mr) := by
  obtain ⟨ta, pa, ka⟩ := ha.run
  obtain ⟨tr, pr, kr⟩ := hr.run
  refine ⟨_, pa_cons pa pr hs, fun Z G H σ env Q R p => ?_⟩
  refine ka Z G H σ env _ R ((PostE.bind p).imp fun dx env1 G1 H1 R1 s1 p1 x rx => ?_)
  refine kr Z G1 H1 σ env1 _ R1 ((PostE.bind p1).imp fun ds env2 G2 H2 R2 s2 p2 xs rs => ?_)
  exact p2 G2 H2 R2 (Same.refl _) (x :: xs) ⟨rx.mono s2, rs⟩
theorem dl_ln (i : Nat) (ha : PE X a (tVar i)) (hr : DL X W es mr) (hs : starEach (a :: es) X.env = (false, eval a X.env) :: starEach es X.env := by rfl) : DL X W (a :: es) (aLn i mr) := by
  obtain ⟨tr, pr, kr⟩ := hr.run
  refine ⟨_, pa_cons ha pr hs, fun Z G H σ env Q R p => ?_⟩
  unfold aLn at p
  split at p
  · rename_i b m em
    obtain ⟨l, ho, el, _⟩ := R.ow em
    refine ⟨_, el, ?_⟩
    refine kr Z G H σ env _ R ((PostE.bind p).imp fun ds env2 G2 H2 R2 s2 p2 xs rs => ?_)
    exact p2 G2 H2 R2 (Same.refl _) (.ref l :: xs) ⟨el, rs⟩
  · exact p.elim
@[simp] def okL (e : En) (as : List Arg) : Bool := as.all (okA e) && decide (lents as).Nodup
@[simp] def mCallM (n : Nat) (f : List Cell → FM) (ma : MG) : ME := fun env => (ma env).bind fun as e => if as.length = n ∧ okL e as = true then match f (as.map (argC e)) with
    | .sh d cs => .ok d (backE as cs e)
    | .ow m cs => .ok m.d (backE as cs e)
    | .exc x => .exc x (backE as (List.replicate n .no) e)
    | .bad => .bad
  else .bad
@[simp] def mCallMO (n : Nat) (f : List Cell → FM) (ma : MG) : MM := fun env => (ma env).bind fun as e => if as.length = n ∧ okL e as = true then match f (as.map (argC e)) with
    | .ow m cs => .ok m (backE as cs e)
    | .exc x => .exc x (backE as (List.replicate n .no) e)
    | _ => .bad
  else .bad
theorem callM_core {Z : Zb} {G H : Hp} {σ : L2.St} {env : En} {Q : VK} {vs : List V} {as : List Arg} (R : RepS X.K Z G H σ env) (ra : RepA X.K G σ vs as) (hn : as.length = n) (hok : okL env as = true)
    (q : match f (as.map (argC env)) with
      | .sh d cs => cs.length = n ∧ ∀ v G2 H2, RepS X.K Z G2 H2 σ (backE as cs env) → Same G G2 → Rp X.K G2 v d → Q v H2
      | .ow m cs => cs.length = n ∧ ∀ l ho G2 H2, RepS X.K Z G2 H2 σ (backE as cs env) → Same G G2 → Own X.K Z G2 H2 σ (backE as cs env) l ho m → Q (.ref l) H2
      | .exc x => ∀ c od G2 H2, RepS X.K Z G2 H2 σ (backE as (List.replicate n .no) env) → Same G G2 → ExcR X.K X.mg G2 H2 x c od → W c od σ H2
      | .bad => False) : spM X.K X.mg n f vs H Q (WE W σ) := by
  unfold okL at hok
  rw [Bool.and_eq_true] at hok
  have hnd : (lents as).Nodup := of_decide_eq_true hok.2
  refine ⟨by rw [ra.length]; exact hn, G, offL σ env as H, _, R.lend ra hnd, ?_⟩
  cases z : f (as.map (argC env)) with
  | sh d cs =>
    rw [z] at q
    exact ⟨q.1, fun v G2 H2 R2 rv => q.2 v G2 H2 (R.back ra hnd (by rw [q.1, hn]) R2) R2.gr.gg rv⟩
  | ow m cs =>
    rw [z] at q
    exact ⟨q.1, fun l ho G2 H2 R2 O => q.2 l ho G2 H2 (R.back ra hnd (by rw [q.1, hn]) R2) R2.gr.gg (R.backOwn ra hnd (by rw [q.1, hn]) R2 O)⟩
  | exc x =>
    rw [z] at q
    exact fun c od G2 H2 R2 er => q c od G2 H2 (R.back ra hnd (by rw [List.length_replicate, hn]) R2) R2.gr.gg er
  | bad =>
    rw [z] at q
    exact q.elim
theorem de_callM {c : Expr} (h : DL X W es mr) (hf : ∀ cs d ds, f cs = .sh d ds → ds.length = cs.length) (hf2 : ∀ cs d ds, f cs = .ow d ds → ds.length = cs.length) (hp : ∀ t, PA X es t → PE X c (tCallS (spM X.K X.mg n f) (WE W) t)) : DE X W c (mCallM n f mr) := by
  obtain ⟨t, p, k⟩ := h.run
  refine ⟨_, hp t p, fun Z G H σ env Q R q => ?_⟩
  refine k Z G H σ env _ R ((PostE.bind q).imp fun as e1 G1 H1 R1 s1 q1 vs rs => ?_)
  split at q1
  · rename_i hn
    refine callM_core R1 rs hn.1 hn.2 ?_
    cases z : f (as.map (argC e1)) with
    | sh d cs =>
      rw [z] at q1
      exact ⟨by rw [hf _ _ _ z, List.length_map]; exact hn.1, fun v G2 H2 R2 s2 rv => q1 G2 H2 R2 s2 v rv⟩
    | ow m cs =>
      rw [z] at q1
      refine ⟨by rw [hf2 _ _ _ z, List.length_map]; exact hn.1, fun l ho G2 H2 R2 s2 O => ?_⟩
      obtain ⟨R3, s3, r3⟩ := R2.share O
      exact q1 _ _ R3 (s2.trans s3) _ r3
    | exc x =>
      rw [z] at q1
      exact q1
    | bad =>
      rw [z] at q1
      exact q1.elim
  · exact q1.elim
theorem do_callM {c : Expr} (h : DL X W es mr) (hf2 : ∀ cs d ds, f cs = .ow d ds → ds.length = cs.length) (hp : ∀ t, PA X es t → PE X c (tCallS (spM X.K X.mg n f) (WE W) t)) : DO X W c (mCallMO n f mr) := by
  obtain ⟨t, p, k⟩ := h.run
  refine ⟨_, hp t p, fun Z G H σ env Q R q => ?_⟩
  refine k Z G H σ env _ R ((PostE.bind q).imp fun as e1 G1 H1 R1 s1 q1 vs rs => ?_)
  split at q1
  · rename_i hn
    refine callM_core R1 rs hn.1 hn.2 ?_
    cases z : f (as.map (argC e1)) with
    | sh d cs =>
      rw [z] at q1
      exact q1.elim
    | ow m cs =>
      rw [z] at q1
      exact ⟨by rw [hf2 _ _ _ z, List.length_map]; exact hn.1, fun l ho G2 H2 R2 s2 O => q1 G2 H2 R2 s2 l ho O⟩
    | exc x =>
      rw [z] at q1
      exact q1
    | bad =>
      rw [z] at q1
      exact q1.elim
  · exact q1.elim
end
theorem mrun_sh {N : Nat} {m : MS} {cs ds : List Cell} {d : D} (h : mrun N m cs = .sh d ds) : ds.length = cs.length := by
  unfold mrun at h
  generalize m (env0M N cs) = o at h
  unfold outM at h
  split at h <;> cases h <;> exact endCs_len _ _
theorem mrun_ow {N : Nat} {m : MS} {cs ds : List Cell} {d : M} (h : mrun N m cs = .ow d ds) : ds.length = cs.length := by
  unfold mrun at h
  generalize m (env0M N cs) = o at h
  unfold outM at h
  split at h <;> cases h <;> exact endCs_len _ _
end No
end

section
set_option Elab.async false
set_option linter.all false
set_option maxRecDepth 100000
set_option maxHeartbeats 1000000
namespace No
open PySem PySem.Spec PyProof.Rows L2

/-! ### data as the model's own data, for == -/
mutual
def D.py : D → PyData
  | .non => .none
  | .bl b => .bool b
  | .int i => .int i
  | .str s => .str s
  | .lst l => .list (pyAll l)
  | .fz l => .list (pyAll l)
  | .tup l => .tuple (pyAll l)
  | .kt l => .tuple (pyAll l)
  | .dT _ => .none
  | .dK _ => .none
  | .ob _ _ => .none
def pyAll : List D → List PyData
  | [] => []
  | d :: ds => d.py :: pyAll ds
end
mutual
/-- no dict and no instance in it -/
def D.plain : D → Bool
  | .lst l => plainAll l
  | .fz l => plainAll l
  | .tup l => plainAll l
  | .kt l => plainAll l
  | .dT _ => false
  | .dK _ => false
  | .ob _ _ => false
  | _ => true
def plainAll : List D → Bool
  | [] => true
  | d :: ds => d.plain && plainAll ds
end
mutual
theorem Rp.dp {K : PySem.W.Frag} {H : Hp} : ∀ {v : V} {d : D}, Rp K H v d → d.plain = true → Dp K H v d.py
  | _, _, .non, _ => by rw [D.py]; exact .non
  | _, _, .bl b, _ => by rw [D.py]; exact .bl b
  | _, _, .int i, _ => by rw [D.py]; exact .int i
  | _, _, .str x, _ => by rw [D.py]; exact .str x
  | _, _, .lst h t, p => by rw [D.plain] at p; rw [D.py]; exact .lst (.inl (.inl h)) (Rps.dp t p)
  | _, _, .tup h t, p => by rw [D.plain] at p; rw [D.py]; exact .tup (.inl (.inl h)) (Rps.dp t p)
  | _, _, .kt h t, p => by rw [D.plain] at p; rw [D.py]; exact .tup h (Rps.dp t p)
  | _, _, .fz h t, p => by rw [D.plain] at p; rw [D.py]; exact .lst h (Rps.dp t p)
  | _, _, .dT _ _ _, p => by rw [D.plain] at p; cases p
  | _, _, .dK _ _ _, p => by rw [D.plain] at p; cases p
  | _, _, .ob _ _ _, p => by rw [D.plain] at p; cases p
theorem Rps.dp {K : PySem.W.Frag} {H : Hp} : ∀ {vs : List V} {ds : List D}, Rps K H vs ds → plainAll ds = true → DpAll K H vs (pyAll ds)
  | _, _, .nil, _ => by rw [pyAll]; exact .nil
  | _, _, .cons h t, p => by
    rw [plainAll, Bool.and_eq_true] at p
    rw [pyAll]
    exact .cons (Rp.dp h p.1) (Rps.dp t p.2)
end

/-! ### operators on data -/
def toI : D → Option Int
  | .int i => some i
  | _ => none
def toIs : List D → Option (List Int)
  | [] => some []
  | .int i :: ds => (toIs ds).map (i :: ·)
  | _ :: _ => none
theorem toIs_ints : ∀ {ds : List D} {ns : List Int}, toIs ds = some ns → ds = ns.map D.int
  | [], ns, h => by
    cases h
    rfl
  | d :: ds, ns, h => by
    cases d with
    | int i =>
      simp only [toIs] at h
      cases q : toIs ds with
      | none =>
        rw [q] at h
        cases h
      | some ms =>
        rw [q] at h
        cases h
        rw [toIs_ints q]
        rfl
    | _ => simp [toIs] at h
@[simp] theorem toIs_map : ∀ (ns : List Int), toIs (ns.map D.int) = some ns
  | [] => rfl
  | n :: ns => by simp [toIs, toIs_map ns]
/-- ints by a function, under a condition -/
@[simp] def gI (C : Int → Int → Bool) (f : Int → Int → Int) : D → D → Option D := fun x y => match x, y with
  | .int i, .int j => if C i j = true then some (.int (f i j)) else none
  | _, _ => none
@[simp] def gB (f : Int → Int → Bool) : D → D → Option D := fun x y => match x, y with
  | .int i, .int j => some (.bl (f i j))
  | _, _ => none
theorem opd_I {K : PySem.W.Frag} {Cp : Int → Int → Prop} {C : Int → Int → Bool} {f : Int → Int → Int} (hC : ∀ i j, C i j = true → Cp i j) : OpD K (rI Cp fun i j => .int (f i j)) (gI C f) := by
  intro G H x y dx dy d Q e rx ry h q
  unfold gI at h
  split at h
  · rename_i i j
    cases rx
    cases ry
    split at h
    · rename_i hc
      cases h
      exact ⟨i, j, rfl, rfl, hC i j hc, q _ G H (Gr.refl e) (.int _)⟩
    · cases h
  · cases h
theorem opd_I0 {K : PySem.W.Frag} {f : Int → Int → Int} : OpD K (rI0 fun i j => .int (f i j)) (gI (fun _ _ => true) f) := by
  intro G H x y dx dy d Q e rx ry h q
  unfold gI at h
  split at h
  · rename_i i j
    cases rx
    cases ry
    cases h
    exact ⟨i, j, rfl, rfl, q _ G H (Gr.refl e) (.int _)⟩
  · cases h
theorem opd_B {K : PySem.W.Frag} {f : Int → Int → Bool} : OpD K (rI0 fun i j => .bl (f i j)) (gB f) := by
  intro G H x y dx dy d Q e rx ry h q
  unfold gB at h
  split at h
  · rename_i i j
    cases rx
    cases ry
    cases h
    exact ⟨i, j, rfl, rfl, q _ G H (Gr.refl e) (.bl _)⟩
  · cases h
/-- lists: a + b, a * n -/
@[simp] def gCat : D → D → Option (List D) := fun x y => match x, y with
  | .lst a, .lst b => if a.length + b.length ≤ sizeLine then some (a ++ b) else none
  | _, _ => none
theorem opl_cat {K : PySem.W.Frag} : OpL K rCat gCat := by
  intro G H x y dx dy d Q e rx ry h q
  unfold gCat at h
  split at h
  · rename_i a b
    cases rx with
    | @lst l xs _ hx r1 =>
      cases ry with
      | @lst m ys _ hy r2 =>
        split at h
        · rename_i hz
          cases h
          exact ⟨l, m, xs, ys, rfl, rfl, e _ _ hx, e _ _ hy, by rw [r1.length, r2.length]; exact hz, fun p hp => q p _ hp (r1.append r2)⟩
        · cases h
  · cases h
@[simp] def gRep : D → D → Option (List D) := fun x y => match x, y with
  | .lst a, .int k => if inR k = true ∧ a.length * k.toNat ≤ sizeLine then some (List.replicate k.toNat a).flatten else none
  | _, _ => none
theorem Rps.flat {K : PySem.W.Frag} {G : Hp} {vs : List V} {ds : List D} (r : Rps K G vs ds) : ∀ n : Nat, Rps K G (List.replicate n vs).flatten (List.replicate n ds).flatten
  | 0 => .nil
  | n + 1 => by
    rw [List.replicate_succ, List.replicate_succ, List.flatten_cons, List.flatten_cons]
    exact r.append (Rps.flat r n)
theorem opl_rep {K : PySem.W.Frag} : OpL K rRep gRep := by
  intro G H x y dx dy d Q e rx ry h q
  unfold gRep at h
  split at h
  · rename_i a k
    cases rx with
    | @lst l xs _ hx r1 =>
      cases ry
      split at h
      · rename_i hz
        cases h
        exact ⟨l, k, xs, rfl, rfl, e _ _ hx, by have := inR_ok hz.1; omega, by have := inR_ok hz.1; omega, by rw [r1.length]; exact hz.2, fun p hp => q p _ hp (r1.flat _)⟩
      · cases h
  · cases h
/-- a new list as shared data -/
def gSh (g : D → D → Option (List D)) : D → D → Option D := fun x y => (g x y).map D.lst
/-- texts -/
def gCatS : D → D → Option D := fun x y => match x, y with
  | .str a, .str b => if a.length + b.length ≤ sizeLine then some (.str (a ++ b)) else none
  | _, _ => none
theorem opd_catS {K : PySem.W.Frag} : OpD K (fun x y H Q => ∃ i j, x = .str i ∧ y = .str j ∧ i.length + j.length ≤ sizeLine ∧ Q (.str (i ++ j)) H) gCatS := by
  intro G H x y dx dy d Q e rx ry h q
  unfold gCatS at h
  split at h
  · rename_i a b
    cases rx
    cases ry
    split at h
    · rename_i hz
      cases h
      exact ⟨a, b, rfl, rfl, hz, q _ G H (Gr.refl e) (.str _)⟩
    · cases h
  · cases h
/-- == and != -/
def okEq (x : D) : Bool := x.plain && SeqAt.shaped x.py
theorem okEq_is {x : D} (h : okEq x = true) : x.plain = true ∧ SeqAt.shaped x.py = true := by
  unfold okEq at h
  rwa [Bool.and_eq_true] at h
def eqvD (x y : D) : Bool := PyData.eqv x.py y.py
def gEq : D → D → Option D := fun x y => if okEq x = true ∧ okEq y = true then some (.bl (eqvD x y)) else none
def gNe : D → D → Option D := fun x y => if okEq x = true ∧ okEq y = true then some (.bl (!eqvD x y)) else none
theorem opd_eq {K : PySem.W.Frag} : OpD K (rEqD K) gEq := by
  intro G H x y dx dy d Q e rx ry h q
  unfold gEq at h
  split at h
  · rename_i hz
    cases h
    exact ⟨_, _, (rx.mono e).dp (okEq_is hz.1).1, (ry.mono e).dp (okEq_is hz.2).1, (okEq_is hz.1).2, (okEq_is hz.2).2, q _ G H (Gr.refl e) (.bl _)⟩
  · cases h
theorem opd_ne {K : PySem.W.Frag} : OpD K (rNeD K) gNe := by
  intro G H x y dx dy d Q e rx ry h q
  unfold gNe at h
  split at h
  · rename_i hz
    cases h
    exact ⟨_, _, (rx.mono e).dp (okEq_is hz.1).1, (ry.mono e).dp (okEq_is hz.2).1, (okEq_is hz.1).2, (okEq_is hz.2).2, q _ G H (Gr.refl e) (.bl _)⟩
  · cases h
/-- is None -/
@[simp] def isN : D → Bool
  | .non => true
  | _ => false
@[simp] def gIsN : D → D → Option D := fun x y => match y with
  | .non => some (.bl (isN x))
  | _ => none
@[simp] def gNotN : D → D → Option D := fun x y => match y with
  | .non => some (.bl (!isN x))
  | _ => none
theorem Rp.isN {K : PySem.W.Frag} {G : Hp} {v : V} {d : D} (r : Rp K G v d) : decide (v = .non) = isN d := by
  cases r with
  | non => exact decide_eq_true rfl
  | _ => exact decide_eq_false (fun z => by cases z)
theorem opd_isN {K : PySem.W.Frag} : OpD K (fun x y H Q => y = .non ∧ Q (.bl (decide (x = .non))) H) gIsN := by
  intro G H x y dx dy d Q e rx ry h q
  unfold gIsN at h
  split at h
  · cases ry
    cases h
    exact ⟨rfl, q _ G H (Gr.refl e) (by rw [rx.isN]; exact .bl _)⟩
  · cases h
theorem opd_notN {K : PySem.W.Frag} : OpD K (fun x y H Q => y = .non ∧ Q (.bl (!decide (x = .non))) H) gNotN := by
  intro G H x y dx dy d Q e rx ry h q
  unfold gNotN at h
  split at h
  · cases ry
    cases h
    exact ⟨rfl, q _ G H (Gr.refl e) (by rw [rx.isN]; exact .bl _)⟩
  · cases h
/-- a subscript of a list, a tuple, a text -/
@[simp] def gIx : D → D → Option D := fun x y => match x, y with
  | .lst ds, .int i => atI ds i
  | .fz ds, .int i => atI ds i
  | .tup ds, .int i => atI ds i
  | .str z, .int i => if z.length ≤ sizeLine then (atI z.cps.toList i).map fun c => .str ⟨#[c]⟩ else none
  | _, _ => none
theorem Rps.atI {K : PySem.W.Frag} {G : Hp} {vs : List V} {ds : List D} {i : Int} {d : D} (r : Rps K G vs ds) (h : atI ds i = some d) : ∃ v, L2.atI vs i = some v ∧ Rp K G v d := by
  unfold L2.atI at h ⊢
  rw [r.length]
  cases q : ixN ds.length i with
  | none =>
    rw [q] at h
    cases h
  | some j =>
    rw [q] at h
    exact r.get h
theorem opd_ix {K : PySem.W.Frag} : OpD K (rIx K) gIx := by
  intro G H x y dx dy d Q e rx ry h q
  unfold gIx at h
  split at h
  · rename_i ds i
    cases rx with
    | @lst a xs _ hx r =>
      cases ry
      obtain ⟨v, hv, rv⟩ := r.atI h
      exact .inl ⟨a, xs, i, v, rfl, rfl, .inl (.inl (e _ _ hx)), hv, q v G H (Gr.refl e) rv⟩
  · rename_i ds i
    cases rx with
    | @fz a xs _ hx r =>
      cases ry
      obtain ⟨v, hv, rv⟩ := r.atI h
      exact .inl ⟨a, xs, i, v, rfl, rfl, same_l e hx, hv, q v G H (Gr.refl e) rv⟩
  · rename_i ds i
    cases rx with
    | @tup a xs _ hx r =>
      cases ry
      obtain ⟨v, hv, rv⟩ := r.atI h
      exact .inr (.inl ⟨a, xs, i, v, rfl, rfl, .inl (.inl (e _ _ hx)), hv, q v G H (Gr.refl e) rv⟩)
  · rename_i z i
    cases rx
    cases ry
    split at h
    · rename_i hz
      cases q2 : L2.atI z.cps.toList i with
      | none =>
        rw [q2] at h
        cases h
      | some c =>
        rw [q2] at h
        cases h
        exact .inr (.inr ⟨z, i, c, rfl, rfl, hz, q2, q _ G H (Gr.refl e) (.str _)⟩)
    · cases h
  · cases h
/-- -x -/
@[simp] def gNeg : D → Option D := fun x => match x with
  | .int i => some (.int (-i))
  | _ => none
theorem und_neg {K : PySem.W.Frag} : UnD K (rU fun i => .int (-i)) gNeg := by
  intro G H x dx d Q e rx h q
  unfold gNeg at h
  split at h
  · rename_i i
    cases rx
    cases h
    exact ⟨i, rfl, q _ G H (Gr.refl e) (.int _)⟩
  · cases h

/-! ### built-ins -/
@[simp] def gLen : List D → Option D := fun ds => match ds with
  | [.lst xs] => some (.int xs.length)
  | [.fz xs] => some (.int xs.length)
  | [.tup xs] => some (.int xs.length)
  | [.str z] => if z.length ≤ sizeLine then some (.int z.length) else none
  | _ => none
theorem cd_len {K : PySem.W.Frag} : CallD K (fun xs H Q => ∃ x n, xs = [x] ∧ LenV K x H n ∧ Q (.int n) H) gLen := by
  intro G H xs ds d Q e rs h q
  unfold gLen at h
  split at h
  · rename_i ys
    cases rs with
    | cons r0 rs =>
      cases rs
      cases r0 with
      | @lst a vs _ hx r =>
        cases h
        exact ⟨_, _, rfl, .inl ⟨vs, .inl (.inl (e _ _ hx)), rfl⟩, q _ G H (Gr.refl e) (by rw [r.length]; exact .int _)⟩
  · rename_i ys
    cases rs with
    | cons r0 rs =>
      cases rs
      cases r0 with
      | @fz a vs _ hx r =>
        cases h
        exact ⟨_, _, rfl, .inl ⟨vs, same_l e hx, rfl⟩, q _ G H (Gr.refl e) (by rw [r.length]; exact .int _)⟩
  · rename_i ys
    cases rs with
    | cons r0 rs =>
      cases rs
      cases r0 with
      | @tup a vs _ hx r =>
        cases h
        exact ⟨_, _, rfl, .inr ⟨vs, .inl (.inl (e _ _ hx)), rfl⟩, q _ G H (Gr.refl e) (by rw [r.length]; exact .int _)⟩
  · rename_i z
    cases rs with
    | cons r0 rs =>
      cases rs
      cases r0
      split at h
      · rename_i hz
        cases h
        exact ⟨_, _, rfl, ⟨hz, rfl⟩, q _ G H (Gr.refl e) (.int _)⟩
      · cases h
  · cases h
@[simp] def gInt : List D → Option D := fun ds => match ds with
  | [.int i] => some (.int i)
  | [.bl b] => some (.int (if b = true then 1 else 0))
  | _ => none
theorem cd_int {K : PySem.W.Frag} : CallD K (fun xs H Q => (∃ i, xs = [.int i] ∧ Q (.int i) H) ∨ ∃ k, xs = [.bl k] ∧ Q (.int (if k then 1 else 0)) H) gInt := by
  intro G H xs ds d Q e rs h q
  unfold gInt at h
  split at h
  · cases rs with
    | cons r0 rs =>
      cases rs
      cases r0
      cases h
      exact .inl ⟨_, rfl, q _ G H (Gr.refl e) (.int _)⟩
  · cases rs with
    | cons r0 rs =>
      cases rs
      cases r0
      cases h
      exact .inr ⟨_, rfl, q _ G H (Gr.refl e) (.int _)⟩
  · cases h
/-- of a list of ints -/
def gOfInts {α : Type} (f : List Int → Option α) : List D → Option α := fun ds => match ds with
  | [.lst xs] => (toIs xs).bind f
  | _ => none
theorem ofInts_core {α : Type} {K : PySem.W.Frag} {G H : Hp} {xs : List V} {ds : List D} {f : List Int → Option α} {d : α} (e : Same G H) (rs : Rps K G xs ds) (h : gOfInts f ds = some d) :
    ∃ (a : Addr) (ns : List Int), xs = [.ref a] ∧ SqL K H a (ns.map V.int) ∧ f ns = some d := by
  unfold gOfInts at h
  split at h
  · rename_i ys
    cases rs with
    | cons r0 rs =>
      cases rs
      cases r0 with
      | @lst a vs _ hx r =>
        cases z : toIs ys with
        | none =>
          rw [z] at h
          cases h
        | some ns =>
          rw [z] at h
          have e2 := toIs_ints z
          subst e2
          refine ⟨a, ns, rfl, ?_, h⟩
          rw [← r.ints]
          exact .inl (.inl (e _ _ hx))
  · cases h
def lmin : List Int → Option Int
  | [] => none
  | x :: xs => some (xs.foldl (fun a b => if b < a then b else a) x)
def lmax : List Int → Option Int
  | [] => none
  | x :: xs => some (xs.foldl (fun a b => if a < b then b else a) x)
theorem foldmin_le : ∀ (xs : List Int) (x : Int), xs.foldl (fun a b => if b < a then b else a) x ≤ x ∧ (∀ y ∈ xs, xs.foldl (fun a b => if b < a then b else a) x ≤ y) ∧ (xs.foldl (fun a b => if b < a then b else a) x = x ∨ xs.foldl (fun a b => if b < a then b else a) x ∈ xs)
  | [], x => ⟨Int.le_refl _, by simp, .inl rfl⟩
  | z :: zs, x => by
    obtain ⟨h1, h2, h3⟩ := foldmin_le zs (if z < x then z else x)
    simp only [List.foldl_cons]
    have hx : (if z < x then z else x) ≤ x ∧ (if z < x then z else x) ≤ z := by split <;> omega
    refine ⟨by omega, fun y hy => ?_, ?_⟩
    · rcases List.mem_cons.mp hy with e | hy
      · omega
      · exact h2 y hy
    · rcases h3 with e | e
      · by_cases c : z < x
        · rw [if_pos c] at e ⊢
          exact .inr (by rw [e]; exact List.mem_cons_self)
        · rw [if_neg c] at e ⊢
          exact .inl e
      · exact .inr (List.mem_cons_of_mem _ e)
theorem foldmax_ge : ∀ (xs : List Int) (x : Int), x ≤ xs.foldl (fun a b => if a < b then b else a) x ∧ (∀ y ∈ xs, y ≤ xs.foldl (fun a b => if a < b then b else a) x) ∧ (xs.foldl (fun a b => if a < b then b else a) x = x ∨ xs.foldl (fun a b => if a < b then b else a) x ∈ xs)
  | [], x => ⟨Int.le_refl _, by simp, .inl rfl⟩
  | z :: zs, x => by
    obtain ⟨h1, h2, h3⟩ := foldmax_ge zs (if x < z then z else x)
    simp only [List.foldl_cons]
    have hx : x ≤ (if x < z then z else x) ∧ z ≤ (if x < z then z else x) := by split <;> omega
    refine ⟨by omega, fun y hy => ?_, ?_⟩
    · rcases List.mem_cons.mp hy with e | hy
      · omega
      · exact h2 y hy
    · rcases h3 with e | e
      · by_cases c : x < z
        · rw [if_pos c] at e ⊢
          exact .inr (by rw [e]; exact List.mem_cons_self)
        · rw [if_neg c] at e ⊢
          exact .inl e
      · exact .inr (List.mem_cons_of_mem _ e)
theorem lmin_spec {xs : List Int} {m : Int} (h : lmin xs = some m) : m ∈ xs ∧ ∀ y ∈ xs, m ≤ y := by
  cases xs with
  | nil => cases h
  | cons x xs =>
    cases h
    obtain ⟨h1, h2, h3⟩ := foldmin_le xs x
    refine ⟨?_, fun y hy => ?_⟩
    · rcases h3 with e | e
      · rw [e]
        exact List.mem_cons_self
      · exact List.mem_cons_of_mem _ e
    · rcases List.mem_cons.mp hy with e | hy
      · rw [e]
        exact h1
      · exact h2 y hy
theorem lmax_spec {xs : List Int} {m : Int} (h : lmax xs = some m) : m ∈ xs ∧ ∀ y ∈ xs, y ≤ m := by
  cases xs with
  | nil => cases h
  | cons x xs =>
    cases h
    obtain ⟨h1, h2, h3⟩ := foldmax_ge xs x
    refine ⟨?_, fun y hy => ?_⟩
    · rcases h3 with e | e
      · rw [e]
        exact List.mem_cons_self
      · exact List.mem_cons_of_mem _ e
    · rcases List.mem_cons.mp hy with e | hy
      · rw [e]
        exact h1
      · exact h2 y hy
def gSum : List D → Option D := gOfInts fun ns => some (.int ns.sum)
def gMinL : List D → Option D := gOfInts fun ns => (lmin ns).map D.int
def gMaxL : List D → Option D := gOfInts fun ns => (lmax ns).map D.int
theorem cd_sum {K : PySem.W.Frag} : CallD K (rSum K) gSum := by
  intro G H xs ds d Q e rs h q
  obtain ⟨a, ns, rfl, hs, hd⟩ := ofInts_core e rs h
  cases hd
  exact ⟨a, ns, rfl, hs, q _ G H (Gr.refl e) (.int _)⟩
theorem cd_minL {K : PySem.W.Frag} : CallD K (rMin K) gMinL := by
  intro G H xs ds d Q e rs h q
  obtain ⟨a, ns, rfl, hs, hd⟩ := ofInts_core e rs h
  cases z : lmin ns with
  | none =>
    rw [z] at hd
    cases hd
  | some m =>
    rw [z] at hd
    cases hd
    obtain ⟨m1, m2⟩ := lmin_spec z
    refine ⟨a, ns, rfl, hs, List.length_pos_of_mem m1, fun m' h1 h2 => ?_⟩
    have e1 : m' = m := Int.le_antisymm (h2 m m1) (m2 m' h1)
    rw [e1]
    exact q _ G H (Gr.refl e) (.int _)
theorem cd_maxL {K : PySem.W.Frag} : CallD K (rMax K) gMaxL := by
  intro G H xs ds d Q e rs h q
  obtain ⟨a, ns, rfl, hs, hd⟩ := ofInts_core e rs h
  cases z : lmax ns with
  | none =>
    rw [z] at hd
    cases hd
  | some m =>
    rw [z] at hd
    cases hd
    obtain ⟨m1, m2⟩ := lmax_spec z
    refine ⟨a, ns, rfl, hs, List.length_pos_of_mem m1, fun m' h1 h2 => ?_⟩
    have e1 : m' = m := Int.le_antisymm (m2 m' h1) (h2 m m1)
    rw [e1]
    exact q _ G H (Gr.refl e) (.int _)
/-- max(i, j), min(i, j) -/
def gMax2 : List D → Option D := fun ds => match ds with
  | [.int i, .int j] => some (.int (if j > i then j else i))
  | _ => none
def gMin2 : List D → Option D := fun ds => match ds with
  | [.int i, .int j] => some (.int (if j < i then j else i))
  | _ => none
theorem cd_max2 {K : PySem.W.Frag} : CallD K (fun xs H Q => ∃ i j, xs = [.int i, .int j] ∧ Q (.int (if j > i then j else i)) H) gMax2 := by
  intro G H xs ds d Q e rs h q
  unfold gMax2 at h
  split at h
  · cases rs with
    | cons r0 rs =>
      cases r0
      cases rs with
      | cons r1 rs =>
        cases r1
        cases rs
        cases h
        exact ⟨_, _, rfl, q _ G H (Gr.refl e) (.int _)⟩
  · cases h
theorem cd_min2 {K : PySem.W.Frag} : CallD K (fun xs H Q => ∃ i j, xs = [.int i, .int j] ∧ Q (.int (if j < i then j else i)) H) gMin2 := by
  intro G H xs ds d Q e rs h q
  unfold gMin2 at h
  split at h
  · cases rs with
    | cons r0 rs =>
      cases r0
      cases rs with
      | cons r1 rs =>
        cases r1
        cases rs
        cases h
        exact ⟨_, _, rfl, q _ G H (Gr.refl e) (.int _)⟩
  · cases h
/-- list(x) of a list or a tuple -/
@[simp] def gList : List D → Option (List D) := fun ds => match ds with
  | [.lst xs] => some xs
  | [.fz xs] => some xs
  | [.tup xs] => some xs
  | _ => none
theorem cl_list {K : PySem.W.Frag} : CallL K (fun xs H Q => ∃ p ys, xs = [.ref p] ∧ (SqL K H p ys ∨ SqT K H p ys) ∧ ∀ l, H l = none → Q (.ref l) (upd H l (.lst ys))) gList := by
  intro G H xs ds d Q e rs h q
  unfold gList at h
  split at h
  · cases rs with
    | cons r0 rs =>
      cases rs
      cases r0 with
      | @lst a vs _ hx r =>
        cases h
        exact ⟨a, vs, rfl, .inl (.inl (.inl (e _ _ hx))), fun l hl => q l vs hl r⟩
  · cases rs with
    | cons r0 rs =>
      cases rs
      cases r0 with
      | @fz a vs _ hx r =>
        cases h
        exact ⟨a, vs, rfl, .inl (same_l e hx), fun l hl => q l vs hl r⟩
  · cases rs with
    | cons r0 rs =>
      cases rs
      cases r0 with
      | @tup a vs _ hx r =>
        cases h
        exact ⟨a, vs, rfl, .inr (.inl (.inl (e _ _ hx))), fun l hl => q l vs hl r⟩
  · cases h
/-- isinstance(x, T), T one of the built-in types that are asked here -/
def tyN : D → String
  | .non => "NoneType"
  | .bl _ => "bool"
  | .int _ => "int"
  | .str _ => "str"
  | .lst _ => "list"
  | .fz _ => "list"
  | .tup _ => "tuple"
  | .kt _ => "tuple"
  | .dT _ => "dict"
  | .dK _ => "dict"
  | .ob _ _ => "dict"
@[simp] def tyOk : D → Bool
  | .dT _ => false
  | .dK _ => false
  | .ob _ _ => false
  | _ => true
theorem Rp.ty {K : PySem.W.Frag} {G H : Hp} {v : V} {d : D} (e : Same G H) (r : Rp K G v d) (hk : tyOk d = true) : TyX K H v (.type (tyN d)) := by
  cases r with
  | non => exact .base .non
  | bl b => exact .base (.bl b)
  | int i => exact .base (.int i)
  | str x => exact .base (.str x)
  | lst h t => exact .base (.lst (e _ _ h))
  | tup h t => exact .base (.tup (e _ _ h))
  | kt h t =>
    rcases same_t e h with (h | ⟨o, h⟩) | ⟨o, its, n, h, c, _⟩
    · exact .base (.tup h)
    · exact .fTuple h
    · exact .kTuple h c
  | fz h t =>
    rcases same_l e h with (h | ⟨o, h⟩) | ⟨o, its, n, h, c, _⟩
    · exact .base (.lst h)
    · exact .base (.frz h)
    · exact .kList h c
  | dT _ _ _ => cases hk
  | dK _ _ _ => cases hk
  | ob _ _ _ => cases hk
@[simp] def mIsi (b : String → Bool) (m : ME) : ME := fun env => (m env).bind fun d e => if tyOk d = true then .ok (.bl (b (tyN d))) e else .bad
def isList (t : String) : Bool := t == "list"
def isTuple (t : String) : Bool := t == "tuple"
def isInt (t : String) : Bool := t == "int" || t == "bool"
def isBool (t : String) : Bool := t == "bool"
def isStr (t : String) : Bool := t == "str"
theorem de_isi {X : Cx} {W : WX} {a e : Expr} {m : ME} {T : String} {b : String → Bool} (hk : ∀ d : D, kitB (tyN d) T = some (b (tyN d))) (ha : DE X W a m) (hp : ∀ t, PE X a t → PE X e (tCB (rIsi X.K) (tCons t (tCons (tC (.ty T)) tNil)))) : DE X W e (mIsi b m) := by
  obtain ⟨t, p, k⟩ := ha.run
  refine ⟨_, hp t p, fun Z G H σ env Q R q => ?_⟩
  refine k Z G H σ env _ R ((PostE.bind q).imp fun d e1 G1 H1 R1 s1 q1 v rv => ?_)
  split at q1
  · rename_i ho
    exact ⟨v, .ty T, _, _, _, rfl, .ty T, rv.ty R1.gh ho, kit_ty (hk d), q1 G1 H1 R1 (Same.refl _) _ (.bl _)⟩
  · exact q1.elim
theorem kit_list (d : D) : kitB (tyN d) "list" = some (isList (tyN d)) := by cases d <;> (dsimp only [tyN]; decide +kernel)
theorem kit_tuple (d : D) : kitB (tyN d) "tuple" = some (isTuple (tyN d)) := by cases d <;> (dsimp only [tyN]; decide +kernel)
theorem kit_int (d : D) : kitB (tyN d) "int" = some (isInt (tyN d)) := by cases d <;> (dsimp only [tyN]; decide +kernel)
theorem kit_bool (d : D) : kitB (tyN d) "bool" = some (isBool (tyN d)) := by cases d <;> (dsimp only [tyN]; decide +kernel)
theorem kit_str (d : D) : kitB (tyN d) "str" = some (isStr (tyN d)) := by cases d <;> (dsimp only [tyN]; decide +kernel)
end No
end

section
set_option Elab.async false
set_option linter.all false
set_option maxRecDepth 100000
set_option maxHeartbeats 1000000
namespace No
open PySem PySem.Spec PyProof.Rows L2

/-! ### an own exception class over ValueError with super().__init__(text) in its __init__ -/
/-- the body's context: one captured cell -/
def cxS (CX : CXT) (P : Program) (w : World) (K : PySem.W.Frag) (mg : Str → Option Value) (base : Heap) (N : List Str) (qual : Str) (scope : Scope) (f : Addr) (cd : Value) (cc : Addr) (A : Around) (outer : List Env) (s : Shared) (H : Hp) (E : XK) : Cx :=
  let env := PySem.W.ksEnv qual scope s.heap.objs.size f cd cc
  { prog := P, w := w, K := K, mg := mg, base := base, A := A.deeper env, N := N, s_0 := s, H_0 := H, env := env, outer := outer, stack := env :: outer, ex := [], calm := true, fn := fun _ => false, pn := [],
    xe := fun e s' => wpAny (model P w) (A.deeper env) (leaving env e) (fun _ s'' => CX outer H s E e s'') (fun e' s'' => CX outer H s E e' s'') s' }

theorem inv_super {CX : CXT} {P : Program} {w : World} {K : PySem.W.Frag} {mg : Str → Option Value} {base : Heap} {a0 b0 : Str} {qual : Str} {scope : Scope} {f cc : Addr} {cd : Value} {A : Around} {outer : List Env} {s : Shared} {H : Hp} {E : XK} {v1 v2 : V} {u1 u2 : Value}
    {cl : Value} {cld : Option Addr} {csl : Array (Option Value)} {cvo : Option Value} {h0 : Heap} {tk : Nat}
    (hk : scope.kind = .function) (hfr : ∀ x, scope.names.lookup x = some .cell ∨ scope.names.lookup x = some .free → x = "__class__") (hab : a0 ≠ b0) (la : scope.names.lookup a0 = some .local) (lb : scope.names.lookup b0 = some .local)
    (hcell : K.lookup cc = some ⟨cl, cld, .cell cvo, csl⟩) (hd : A.handled = none) (e0 : Env0 P w K mg base A outer s H) (r1 : RelV v1 u1) (r2 : RelV v2 u2)
    (hns : h0.Ns s.heap.objs.size (fun x => ([(a0, u1), (b0, u2)] : List (Str × Value)).reverse.lookup x)) (hkp : ∀ b o, s.heap.get? b = some o → h0.get? b = some o) :
    Inv (cxS CX P w K mg base [a0, b0] qual scope f cd cc A outer s H E) [] [some v1, some v2] H { s with heap := h0, toks := tk } := by
  have cl1 : ∀ {x : Str} {c : Addr}, ([("__class__", cc)] : List (Str × Addr)).lookup x = some c → x = "__class__" ∧ c = cc := fun {x c} h => by
    by_cases e : x = "__class__"
    · subst e
      simp [List.lookup] at h
      exact ⟨rfl, h.symm⟩
    · have e' : (x == ("__class__" : Str)) = false := by simpa using e
      simp [List.lookup, e'] at h
  have bcc := e0.mod.kin _ _ hcell
  have scc := e0.bs _ _ bcc
  have noA : ∀ b : Addr, b ∉ ([] : List Addr) := fun b z => absurd z (by simp)
  refine ⟨⟨e0.mod, hk, rfl, rfl, Nat.le_refl _, fun y z c h1 h2 => ?_, fun y hy => ?_, fun y c h _ => ?_, fun _ => hd, Around.frames_deeper e0.frames, .inr ⟨rfl, rfl⟩, fun b z => absurd z (noA b), e0.bs, e0.bsz, fun b _ _ => noA b, fun b z => absurd z (noA b), e0.funs, e0.frf⟩,
    rfl, e0.bare, Un.kept hkp, ⟨_, hns, fun i y v h1 h2 h3 => ?_⟩, fun y c h => ?_, e0.hok.fresh (Nat.le_refl _), fun y c h => ?_, fun p hp => absurd (show p ∈ ([] : List (Addr × Obj)) from hp) (by simp), e0.hok.kept hkp, rfl⟩
  · exact (cl1 h1).1.trans (cl1 h2).1.symm
  · refine ⟨cc, ?_⟩
    rw [hfr y hy]
    rfl
  · cases h
  · have h1' : ([a0, b0] : List Str)[i]? = some y := h1
    rcases i with _ | _ | i
    · simp at h1' h2
      subst h1'; subst h2
      refine ⟨u1, r1, .inl ⟨la, ?_⟩⟩
      have : (a0 == b0) = false := by simpa using hab
      simp [List.lookup, this]
    · simp at h1' h2
      subst h1'; subst h2
      refine ⟨u2, r2, .inl ⟨lb, ?_⟩⟩
      simp [List.lookup]
    · simp at h1'
  · rw [(cl1 h).2]
    exact ⟨_, _, hkp _ _ scc.1, rfl⟩
  · rw [(cl1 h).2]
    exact scc.2

/-- ValueError.__init__, bound, is called -/
theorem call_wrap {X : Cx} {pins : List (Addr × Obj)} {σ : L2.St} {H : Hp} {s : Shared} {A : Around} {E : Value → Shared → Prop} {a C u : Addr} {us : List Value} {Q : Value → Shared → Prop} (T : OexC X.K C) (I : Inv X pins σ H s) (e : H a = some (exo a C none)) (hl : us.length ≤ sizeLine)
    (hu : s.heap.get? u = some (PySem.W.kxs_mw "ValueError.__init__" a)) (h : ∀ s', Inv X pins σ H s' → Q .none s') : wpAny (model X.prog X.w) A (call (.ref u) us) Q E s := by
  obtain ⟨nm, q, N, bs, bm, sn, sub, ab, col, dd, k0, k1, k2, k3, k5, hC, hbm⟩ := T.cls
  obtain ⟨t1, ho⟩ := exo_at I.hok e
  obtain ⟨hp, g, d, t, os⟩ := s
  refine wpAny_call (codeAny_of_tree ?_)
  show wpAny _ A.in1 (callAny (.ref u) ⟨us, []⟩) _ _ _
  simp only [callAny]
  refine wpAny_bind (wpAny_load hu ?_)
  simp only [PySem.W.kxs_mw, show (Value.type "method-wrapper" == Value.type "method" || Value.type "method-wrapper" == Value.type "builtin_function_or_method" || Value.type "method-wrapper" == Value.type "method-wrapper") = true by decide, if_true]
  refine PySem.W.KFB.if_so (by decide) ?_
  refine wpAny_bind (PySem.W.check_bound_init F.excBase_ValueError.toExcCallFacts (I.kIn _ _ hC) ho rfl ?_)
  refine wpAny_bind (wpAny_pure (wpAny_pure ?_))
  refine ⟨plainId_quiet F.excBase_ValueError.init.plain _, codeAny_builtin F.excBase_ValueError.initEntry ?_⟩
  refine PySem.W.exc_init_tree (cls := .ref C) (t0 := t1) (dv := none) (c2 := .none) (c3 := .none) (b4 := .bool false) ho hl fun h' k hx ht => ?_
  have J := I.write (t' := t) (x := a) (e := a) (o := exo a C none) (by rw [e]; exact True.intro) (.inl rfl) k ⟨_, hx⟩ (exo_ok hx)
  have eu : upd H a (exo a C none) = H := by
    funext b
    by_cases hb : b = a
    · rw [hb, upd_same, e]
    · rw [upd_ne hb]
  rw [eu] at J
  exact h _ J

/-- what the __init__ keeps: the field is stored -/
def spI (K : PySem.W.Frag) (C : Addr) (fld : Str) : Sp := fun vs H Q E => ∃ (a : Addr) (y : Str), vs = [.ref a, .str y] ∧ y.length ≤ 1000 ∧ H a = some (exo a C none) ∧
  ∀ dx, H dx = none → dx ≠ a → Q .non (upd (upd H dx (exd dx [(fld, .str y)])) a (exo a C (some dx)))

/-- the one scope of such an __init__(self, part) -/
abbrev scI : Scope := { kind := .function, names := [("self", .local), ("part", .local), ("__class__", .free), ("super", .globalImplicit)], isGenerator := false, isCoroutine := false, more := [] }
abbrev bodyI (ta tb : Str) (p0 p1 p2 p3 p4 p5 p6 p7 p8 q1 q2 q3 q4 q5 : Pos) : List Stmt :=
  [.Expr (.Call (.Attribute (.Call (.Name "super" p0) [] [] p1) "__init__" p2) [.JoinedStr [.Constant (.str ta) 0 q1, .FormattedValue (.Name "part" q2) (-1) none q3, .Constant (.str tb) 0 q4] q5] [] p3) p4, .Assign [.Attribute (.Name "self" p5) "part" p6] (.Name "part" p7) p8]
theorem init_super {CX : CXT} {P : Program} {w : World} {K : PySem.W.Frag} {mg : Str → Option Value} {base : Heap} {k : Nat} {f C cc cda : Addr} {name qual : Str} {params : Arguments} {dV kV doc pm ct oc ccl cl : Value} {an od cdd cld : Option Addr}
    {osl ccs csl : Array (Option Value)} {vs0 : Array Value} {file : Str} {tf : Tok} {cdC : ClassData} {ta tb : Str} {ar : PySem.Arg} {p0 p1 p2 p3 p4 p5 p6 p7 p8 q1 q2 q3 q4 q5 : Pos}
    (lk : K.lookup f = some ⟨oc, od, .func (PySem.W.ksFn name qual params (bodyI ta tb p0 p1 p2 p3 p4 p5 p6 p7 p8 q1 q2 q3 q4 q5) scI dV kV doc pm an (.ref cda) ct cc), osl⟩)
    (hcd : PySem.W.codeIn K (.ref cda) qual = true) (hcode : K.lookup cda = some ⟨ccl, cdd, .fields vs0, ccs⟩) (hvs : vs0[2]? = some (.str file tf)) (hfile : ((P.main.file : Str) == file) = true)
    (hcell : K.lookup cc = some ⟨cl, cld, .cell (some (.ref C)), csl⟩) (hC : PySem.W.clsIn K C = some cdC) (hsub : PySem.W.mroIn K C (.ref C) = some true) (hB : PySem.W.subIn K (.ref C) (.type "ValueError") = some true)
    (hany : PySem.W.nsIn K cStatics "thirdparty.any" = some none) (hsup : PySem.W.ks_superIn K C C "__init__" = some (some (.builtin "ValueError.__init__"))) (hmgs : mg "super" = none)
    (htop : (P.main.scope.names.lookup ("super" : Str)).isSome = false) (T : OexC K C) (hno : PySem.W.findIn K (.ref C) "part" = some none)
    (hp : (params.posonlyargs ++ params.args).head? = some ar) (har : ar.arg = "self")
    (hlen : ta.length + tb.length ≤ 1000)
    (hev : ∀ L, ∃ pl, eval (.Call (.Attribute (.Call (.Name "super" p0) [] [] p1) "__init__" p2) [.JoinedStr [.Constant (.str ta) 0 q1, .FormattedValue (.Name "part" q2) (-1) none q3, .Constant (.str tb) 0 q4] q5] [] p3) (PySem.W.ksEnv qual scI L f (.ref cda) cc) = (do
      let ov ← attributeBase (.Call (.Name "super" p0) [] [] p1) "__init__" (PySem.W.ksEnv qual scI L f (.ref cda) cc) (eval (.Call (.Name "super" p0) [] [] p1) (PySem.W.ksEnv qual scI L f (.ref cda) cc))
      standAt p2.atName
      let (fx, first) ← holding [ov] (getMethod ov "__init__" pl)
      callWith p3 fx first (backTo p3 (starEach [.JoinedStr [.Constant (.str ta) 0 q1, .FormattedValue (.Name "part" q2) (-1) none q3, .Constant (.str tb) 0 q4] q5] (PySem.W.ksEnv qual scI L f (.ref cda) cc))) [])) :
    FnOk P w K mg base CX (k + 1) f (PySem.W.ksFn name qual params (bodyI ta tb p0 p1 p2 p3 p4 p5 p6 p7 p8 q1 q2 q3 q4 q5) scI dV kV doc pm an (.ref cda) ct cc) ["self", "part"] (spI K C "part") := by
  refine ⟨fun vs H Q E h => ?_, fun A outer s H args us vs Q E hr e0 hb r hsp => ?_⟩
  · obtain ⟨a, y, e, _⟩ := h
    subst e
    rfl
  · obtain ⟨a, y, rfl, hy, ha, hq⟩ := hsp
    cases r with
    | @cons _ u1 _ ur r1 rr =>
    cases rr with
    | @cons _ u2 _ ur2 r2 rr2 =>
    cases rr2
    obtain rfl : u1 = Value.ref a := r1
    obtain ⟨t2, rfl⟩ := (show ∃ t, u2 = Value.str y t from r2)
    have KX : K.In s.heap := e0.mod.kin.keeps fun b o e => (e0.bs b o e).1
    have lim : s.heap.NoLimit := e0.mod.nolimit.keeps fun b o e => (e0.bs b o e).1
    have hfr : ∀ x, scI.names.lookup x = some .cell ∨ scI.names.lookup x = some .free → x = "__class__" := fun x hx => by
      have key : (x, NameKind.cell) ∈ scI.names ∨ (x, NameKind.free) ∈ scI.names := hx.imp PySem.mem_of_lookup PySem.mem_of_lookup
      simp at key
      exact key
    refine ks_codeAny_call_defAt (binds := [("self", .ref a), ("part", .str y t2)]) hr.depth (KX _ _ lk) rfl lim (PySem.W.codeRec_of KX hcd) rfl hb (show ∀ x ∈ scI.names, x.2 ≠ NameKind.cell by decide) (fun x hx => ?_) (fun h0 hns hkp => ?_)
    · rcases List.mem_cons.mp hx with rfl | hx
      · rfl
      · rcases List.mem_cons.mp hx with rfl | hx
        · rfl
        · cases hx
    have I : Inv (cxS CX P w K mg base ["self", "part"] qual scI f (.ref cda) cc A outer s H E) [] [some (.ref a), some (.str y)] H { s with heap := h0, toks := s.toks + 2 } :=
      inv_super rfl hfr (by decide) rfl rfl hcell hr.hd e0 rfl ⟨t2, rfl⟩ hns hkp
    have hf := I.kIn _ _ lk
    have hcda := I.kIn _ _ hcode
    have hcc := I.kIn _ _ hcell
    obtain ⟨mb, hb1, hb2⟩ := I.mod.blt
    obtain ⟨t1, ho⟩ := exo_at I.hok ha
    obtain ⟨oD, hD1, hD2⟩ : ∃ oD, h0.get? C = some oD ∧ oD.data = .cls cdC := by
      unfold PySem.W.clsIn at hC
      split at hC
      · rename_i c d cd' sl hlk
        cases hC
        exact ⟨_, I.kIn _ _ hlk, rfl⟩
      · cases hC
    have haC : a ≠ C := fun z => by
      rw [z, hD1] at ho
      cases ho
      cases hD2
    obtain ⟨pl, hev'⟩ := hev s.heap.objs.size
    refine ks_wpAt_execs_cons (ks_wpAt_Expr_any (ks_wpAt_MethodCall (pl := pl) ?_ hev'))
    refine ks_wpAt_super_base (env := PySem.W.ksEnv qual scI s.heap.objs.size f (.ref cda) cc) rfl rfl rfl rfl hf rfl hp rfl hcda rfl hvs hfile htop ?_
    refine PySem.W.ks_loadName_global rfl rfl (PySem.Calls.loadGlobal_builtin (env := PySem.W.ksEnv qual scI s.heap.objs.size f (.ref cda) cc) (I.mod.glob.keeps I.bk) hmgs (hb1.keeps I.bk) ((hb2 _ (by decide)).trans PyProof.Rows.Boot.«super») ⟨rfl, ?_⟩)
    refine wpAny_loadName_free rfl rfl rfl ⟨_, hcc, rfl⟩ ?_
    rw [har]
    refine wpAny_loadName_local rfl rfl hns (v := .ref a) rfl ?_
    refine ks_wpAny_isType_cls hD1 hD2 ⟨rfl, ?_⟩
    refine ks_wpAny_call_super hD1 hD2 ho rfl (fun c z => by cases z) (PySem.W.looks_mroIn I.kIn hsub) (fun h1 e1 kk1 => ?_)
    have I1 := I.kept (t' := s.toks + 2) kk1
    have hnc : ∀ cd, ({ cls := .ref C, dict := none, data := .fields #[.ref t1, .none, .none, .none, .bool false, .none] } : Obj).data ≠ .cls cd := fun cd z => by cases z
    have IA : PySem.W.InstAt h1 a { cls := .ref C, dict := none, data := .fields #[.ref t1, .none, .none, .none, .bool false, .none] } C none := ⟨kk1 _ _ ho, rfl, rfl, trivial⟩
    have hsup' := hsup
    unfold PySem.W.ks_superIn at hsup'
    rw [hC] at hsup'
    refine PySem.W.kxs_getMethod PySem.W.kxs_ValueError e1 (PySem.W.looks_opaque I1.kIn hany) (l₀ := cdC.mro) (fun A Q E s k q => wpAny_bind ((PySem.W.looks_clsIn I1.kIn hC) A _ E s k (wpAny_pure q))) rfl I1.kIn hsup' (IA.type.andThen (PySem.W.looks_subIn I1.kIn hB)) haC rfl ?_
    have kk2 : ∀ b o, h1.get? b = some o → (h1.push (PySem.W.kxs_mw "ValueError.__init__" a)).get? b = some o := fun b o e => Heap.get?_push_of_some _ e
    have hu : (h1.push (PySem.W.kxs_mw "ValueError.__init__" a)).get? h1.objs.size = some (PySem.W.kxs_mw "ValueError.__init__" a) := Heap.get?_push_at rfl rfl
    have I2 := I1.kept (t' := s.toks + 2 + 1) kk2
    have I3 := I2.pins_of (pins' := [(h1.objs.size, PySem.W.kxs_mw "ValueError.__init__" a)]) (fun p hp => by
      rcases List.mem_cons.mp hp with rfl | hp
      · refine ⟨hu, I1.hok.fresh (Nat.le_refl _), Nat.ne_of_gt I1.lt, I1.nofs (Nat.le_refl _), fun v z => by cases z⟩
      · cases hp)
    refine PySem.W.kxs_callWith (i := "ValueError.__init__") (x := a) rfl (PySem.Calls.evalArgs_plain ?_)
    have ha2 : PA (cxS CX P w K mg base ["self", "part"] qual scI f (.ref cda) cc A outer s H E) [.JoinedStr [.Constant (.str ta) 0 q1, .FormattedValue (.Name "part" q2) (-1) none q3, .Constant (.str tb) 0 q4] q5]
        (tCons (fun σ H Q => tJs [tC (.str ta), tFmt (tVar 1), tC (.str tb)] Str.empty σ H fun out H1 => Q (.str out) H1) tNil) :=
      pa_cons (pe_joined (.cons pe_str (.cons (pe_fmt (pe_var rfl (.inl rfl))) (.cons pe_str .nil)))) pa_nil
    refine thn (ha2.run p3 _ _ _ H (fun vs H' => ∃ out : Str, vs = [.str out] ∧ H = H') I3 ?_) (fun us s4 h4 => ?_)
    · refine ⟨ta, rfl, ?_, .str y, rfl, .inl ⟨y, rfl, ?_, y, rfl, ?_, tb, rfl, ?_, _, rfl, rfl⟩⟩
      all_goals (simp only [Str.length_append, show Str.empty.length = 0 from rfl, sizeLine_eq]; omega)
    obtain ⟨vs, H4, I4, r4, out, rfl, rfl⟩ := h4
    have p4 := (I4.pin (h1.objs.size, PySem.W.kxs_mw "ValueError.__init__" a) (List.mem_append_right _ List.mem_cons_self)).1
    refine ⟨p4, ?_⟩
    refine call_wrap T I4 ha (show us.length ≤ sizeLine by rw [← r4.length, List.length_singleton, sizeLine_eq]; omega) p4 fun s5 I5 => ?_
    have I6 := I5.pins_of (pins' := []) (fun p hp => by cases hp)
    refine wpAt_of_wpAny ?_
    have p2' : PSs (cxS CX P w K mg base ["self", "part"] qual scI f (.ref cda) cc A outer s H E) [.Assign [.Attribute (.Name "self" p5) "part" p6] (.Name "part" p7) p8] (tOst K "part" (tVar 0) (tVar 1)) :=
      pss_one (ps_ost (pe_var rfl (.inl rfl)) (pe_var rfl (.inl rfl)))
    refine wpAny_mono (p2'.run [] s5 [some (.ref a), some (.str y)] H { nx := fun _ H' => Q .non H', rt := Q } I6 ⟨_, rfl, _, rfl, a, C, rfl, T, hno, .inl ⟨ha, hq⟩⟩) (fun fl s' hs => ?_) fun e s' hs => hs
    have fin : ∀ {σ' : L2.St} {H' : Hp} {v : V} {u : Value}, Inv (cxS CX P w K mg base ["self", "part"] qual scI f (.ref cda) cc A outer s H E) [] σ' H' s' → RelV v u → Q v H' → CE outer P w H s Q u s' :=
      fun {σ' H' v u} J rv q => ⟨v, H', J.os, J.bare, J.base, J.hok, rv, q⟩
    cases fl with
    | ret u =>
      obtain ⟨v, σ', H', J, rv, q⟩ := hs
      exact fin J rv q
    | next =>
      obtain ⟨σ', H', J, q⟩ := hs
      exact fin (v := V.non) (u := Value.none) J rfl q
    | brk =>
      obtain ⟨_, _, _, q⟩ := hs
      exact False.elim q
    | cont =>
      obtain ⟨_, _, _, q⟩ := hs
      exact False.elim q
end No
end

section
set_option Elab.async false
set_option linter.all false
set_option maxRecDepth 100000
set_option maxHeartbeats 1000000
namespace No
open PySem PySem.Spec PyProof.Rows L2

/-! ### raise -/
section
variable {X : Cx} {W : WX}
/-- raise C('..'), C's own __init__ keeping the text as part -/
@[simp] def sRaiseP (nm s : Str) : MS := fun env => .exc ⟨nm, [("part", .str s)]⟩ env
theorem ds_raiseP {x s : Str} {C fI : Addr} {k : Nat} {fd : FuncData} {ps : List Str} {j : Nat} {p p1 p2 pos : Pos} (hc : X.calm = true) (tk : Takes X W) (T : OexC X.K C) (iC : PySem.W.findIn X.K (.ref C) "__init__" = some (some (.ref fI))) (tI : PySem.W.typeIn X.K (.ref fI) = some (.type "function"))
    (F1 : FnOk X.prog X.w X.K X.mg X.base (L2.CX X.prog X.w) k fI fd ps (spI X.K C "part")) (hr : Room (k + 1) X.A) (hb : Binds X.K fd ps []) (hg : Gl X x) (hm : X.mg x = some (.ref C)) (hs : s.length ≤ 1000)
    (hdb : (x == ("__debug__" : Str)) = false := by decide) : DS X W (.Raise (some (.Call (.Name x p) [.Constant (.str s) j p1] [] p2)) none pos) (sRaiseP x s) := by
  have ha : PA X [.Constant (.str s) j p1] (tCons (tC (.str s)) tNil) := pa_cons pe_str pa_nil
  have pm : PMk X (.Call (.Name x p) [.Constant (.str s) j p1] [] p2) (tMkO C (spI X.K C "part") [] (tCons (tC (.str s)) tNil)) :=
    pmk_oex (CX := L2.CX X.prog X.w) T iC tI F1 hr hb .nil (passes_call tk fun _ _ _ _ z => z.elim) hg hm ha hdb
  refine ⟨_, ps_raise hc tk pm, fun Z G H σ env Dn R q => ?_⟩
  refine ⟨(show (1 : Nat) ≤ 1000 by omega), fun a hn => ⟨a, s, rfl, hs, upd_same, fun dx hd ne => ⟨rfl, dx, [("part", .str s)], upd_same, ?_, ?_, ?_⟩⟩⟩
  · rw [upd_ne ne, upd_same]
  · rw [upd_ne ne] at hd
    exact hd
  · rw [upd_ne ne] at hd
    have e : upd (del (upd (upd (upd H a (exo a C none)) dx (exd dx [("part", .str s)])) a (exo a C (some dx))) a) dx (.xd [("part", .str s)]) = upd H dx (.xd [("part", .str s)]) := by
      funext b
      by_cases h1 : b = dx
      · subst h1
        rw [upd_same, upd_same]
      · rw [upd_ne h1, upd_ne h1]
        by_cases h2 : b = a
        · subst h2
          rw [del_same, hn]
        · rw [del_ne h2, upd_ne h2, upd_ne h1, upd_ne h2]
    rw [e]
    refine q σ (upd G dx (.xd [("part", .str s)])) _ (.ref C) (some dx) (R.grow (Gr.new R.gh hd)) (same_upd (R.gh.free hd)) ⟨hm, .inr ⟨dx, _, rfl, upd_same, rfl, .cons (.str s) .nil⟩⟩
/-- raise C('..'), C without an __init__ of its own -/
@[simp] def sRaiseT (nm : Str) : MS := fun env => .exc ⟨nm, []⟩ env
theorem ds_raiseT {B newId initId : String} {bmB : List Value} {x s : Str} {C : Addr} {j : Nat} {p p1 p2 pos : Pos} (hc : X.calm = true) (tk : Takes X W) (F : ExcBaseFacts B newId initId bmB) (q : PySem.W.excIn X.K C bmB newId = true) (hm : X.mg x = some (.ref C)) (kC : PySem.W.keepIn X.K (.ref C) = true) (r : Raises X (.ref C)) (hg : Gl X x)
    (hdb : (x == ("__debug__" : Str)) = false := by decide) : DS X W (.Raise (some (.Call (.Name x p) [.Constant (.str s) j p1] [] p2)) none pos) (sRaiseT x) :=
  ⟨_, ps_raise hc tk (pmk_own F q hm kC r hg hdb), fun Z G H σ env Dn R q => q σ G H (.ref C) none R (Same.refl _) ⟨hm, .inl ⟨rfl, rfl⟩⟩⟩
end

/-! ### isinstance of a caught exception, with or without a dict -/
def rIs (K : PySem.W.Frag) (a : Addr) (cls : Value) (d : Option Addr) : List V → Hp → VK → Prop := fun xs H Q => ∃ (C : Addr) (c : V) (cv : Value) (b : Bool), cls = .ref C ∧ ExcC K C ∧ xs = [.ref a, c] ∧ (∀ u, RelV c u → u = cv) ∧
  PySem.W.kitOne K (.ref C) cv = some b ∧ (d = none ∨ ∃ dd kvs, d = some dd ∧ H dd = some (.xd kvs)) ∧ Q (.bl b) H
theorem call_is {X : Cx} {a : Addr} {oe : Obj} {pn : List (Addr × Obj)} {cls : Value} {d : Option Addr} (hz : Zc cls d oe) (hf : ∃ vs, oe.data = .fields vs) : CallR (X.suite a ((a, oe) :: pn)) (.builtin "isinstance") (rIs X.K a cls d) := by
  intro pins s σ H xs us Q I r h
  obtain ⟨C, c, cv, b, rfl, T, rfl, hcv, e, hd, q⟩ := h
  cases r with
  | cons rx rr =>
  cases rr with
  | cons rt rr =>
  cases rr
  cases rx
  have ec := hcv _ rt
  subst ec
  obtain ⟨hget, _⟩ := I.pin (a, oe) (List.mem_append_left _ List.mem_cons_self)
  obtain ⟨vs, hv⟩ := hf
  have hno : PySem.W.notCls oe = true := by
    unfold PySem.W.notCls
    rw [hv] <;> rfl
  have main : ∀ od : Option Obj, PySem.W.InstAt s.heap a oe C od → wpAny (model X.prog X.w) (X.suite a ((a, oe) :: pn)).A (call (.builtin "isinstance") [.ref a, _]) (EP (X.suite a ((a, oe) :: pn)) pins σ Q) (X.suite a ((a, oe) :: pn)).xe s := fun od J =>
    PySem.W.kia_one (PySem.W.kitx_exc (od := od) (by obtain ⟨cd, hcd, _⟩ := PySem.W.any_some T.hd; rw [hcd]; rfl) T.hg T.hk T.hs T.ha T.hn T.ht T.hm) I.kIn J e (fun z => nomatch z) fun tk => ⟨.bl b, H, I.kept (t' := tk) fun _ _ z => z, rfl, q⟩
  rcases hd with rfl | ⟨dd, kvs, rfl, hdd⟩
  · exact main none ⟨hget, hz.1, hno, by rw [hz.2]; trivial⟩
  · have hx : ObjOk X.prog X.w H s.heap dd (.xd kvs) := I.hok dd _ hdd
    obtain ⟨mA, hns, hr⟩ := hx
    obtain ⟨od, ho, hl⟩ := lookIn_ns hns
    exact main (some od) ⟨hget, hz.1, hno, by rw [hz.2]; exact ho⟩

/-! ### an except suite: slot i holds the exception -/
structure HE (X : Cx) (i : Nat) (e : Expr) (m : Exc → Option D) : Prop where
  run : ∃ t : Addr → Value → Option Addr → TE, (∀ (a : Addr) (oe : Obj) (cls : Value) (d : Option Addr) (pn : List (Addr × Obj)), Zc cls d oe → (∃ vs, oe.data = .fields vs) → PE (X.suite a ((a, oe) :: pn)) e (t a cls d)) ∧
    ∀ (a : Addr) (cls : Value) (d : Option Addr) (x : Exc) (dd : D) (Z : Zb) (G H : Hp) (σ : L2.St) (env : En) (Q : VK), RepS X.K Z G H σ env → σ[i]? = some (some (.ref a)) → ExcR X.K X.mg G H x cls d → m x = some dd →
      (∀ v G2 H2, RepS X.K Z G2 H2 σ env → Same G G2 → Rp X.K G2 v dd → Q v H2) → t a cls d σ H Q
structure HT (X : Cx) (i : Nat) (e : Expr) (m : Exc → Option Bool) : Prop where
  run : ∃ t : Addr → Value → Option Addr → TT, (∀ (a : Addr) (oe : Obj) (cls : Value) (d : Option Addr) (pn : List (Addr × Obj)), Zc cls d oe → (∃ vs, oe.data = .fields vs) → PT (X.suite a ((a, oe) :: pn)) e (t a cls d)) ∧
    ∀ (a : Addr) (cls : Value) (d : Option Addr) (x : Exc) (b : Bool) (Z : Zb) (G H : Hp) (σ : L2.St) (env : En) (Q : Bool → Hp → Prop), RepS X.K Z G H σ env → σ[i]? = some (some (.ref a)) → ExcR X.K X.mg G H x cls d → m x = some b →
      (∀ G2 H2, RepS X.K Z G2 H2 σ env → Same G G2 → Q b H2) → t a cls d σ H Q
structure HW (X : Cx) (i : Nat) (e : Expr) (m : Exc → Option Bool) : Prop where
  run : ∃ t : Addr → Value → Option Addr → TT, (∀ (a : Addr) (oe : Obj) (cls : Value) (d : Option Addr) (pn : List (Addr × Obj)), Zc cls d oe → (∃ vs, oe.data = .fields vs) → PW (X.suite a ((a, oe) :: pn)) e (t a cls d)) ∧
    ∀ (a : Addr) (cls : Value) (d : Option Addr) (x : Exc) (b : Bool) (Z : Zb) (G H : Hp) (σ : L2.St) (env : En) (Q : Bool → Hp → Prop), RepS X.K Z G H σ env → σ[i]? = some (some (.ref a)) → ExcR X.K X.mg G H x cls d → m x = some b →
      (∀ G2 H2, RepS X.K Z G2 H2 σ env → Same G G2 → Q b H2) → t a cls d σ H Q
section
variable {X : Cx} {i : Nat} {e e1 e2 : Expr} {rest : List Expr} {pos : Pos} {m m1 m2 : Exc → Option D} {b1 b2 : Exc → Option Bool}
theorem he_str {s : Str} {j : Nat} : HE X i (.Constant (.str s) j pos) (fun _ => some (.str s)) :=
  ⟨fun _ _ _ => tC (.str s), fun _ _ _ _ _ _ _ => pe_str, fun a cls d x dd Z G H σ env Q R ei er em k => by
    cases em
    exact k _ G H R (Same.refl _) (.str s)⟩
theorem he_bl {b : Bool} {j : Nat} : HE X i (.Constant (.bool b) j pos) (fun _ => some (.bl b)) :=
  ⟨fun _ _ _ => tC (.bl b), fun _ _ _ _ _ _ _ => pe_bl, fun a cls d x dd Z G H σ env Q R ei er em k => by
    cases em
    exact k _ G H R (Same.refl _) (.bl b)⟩
/-- e.f of an exception of the class nm -/
theorem he_fld {nm n : Str} {C : Addr} {x : Str} {p : Pos} (T : XfC X.K C) (hno : PySem.W.findIn X.K (.ref C) n = some none) (hm : X.mg nm = some (.ref C)) (hv : ∀ (a : Addr) (pn : List (Addr × Obj)), PE (X.suite a pn) (.Name x p) (tVar i))
    (hb : attributeBase (.Name x p) n X.env (eval (.Name x p) X.env) = eval (.Name x p) X.env := by rfl) : HE X i (.Attribute (.Name x p) n pos) (fun ex => if ex.cls = nm then ex.fs.lookup n else none) := by
  refine ⟨fun a cls d => tXf a cls d C n (tVar i), fun a oe cls d pn hz hf => pe_xf T hno hz hf (hv _ _) hb, fun a cls d ex dd Z G H σ env Q R ei er em k => ?_⟩
  split at em
  · rename_i hc
    obtain ⟨h1, h2⟩ := er
    rw [hc, hm] at h1
    cases h1
    rcases h2 with ⟨h2, _⟩ | ⟨ad, kvs, rfl, hg, hk, hr⟩
    · rw [h2] at em
      cases em
    · have key : ∀ (kvs : List (Str × V)) (fs : List (Str × D)), kvs.map (·.1) = fs.map (·.1) → Rps X.K G (kvs.map (·.2)) (fs.map (·.2)) → fs.lookup n = some dd → ∃ v, kvs.lookup n = some v ∧ Rp X.K G v dd := by
        intro kvs
        induction kvs with
        | nil =>
          intro fs h1 _ h3
          cases fs with
          | nil => cases h3
          | cons => cases h1
        | cons p kvs ih =>
          intro fs h1 h2 h3
          cases fs with
          | nil => cases h1
          | cons q fs =>
            obtain ⟨pk, pv⟩ := p
            obtain ⟨qk, qv⟩ := q
            simp only [List.map_cons, List.cons.injEq] at h1
            obtain ⟨rfl, h1⟩ := h1
            simp only [List.map_cons] at h2
            cases h2 with
            | cons ra rb =>
            simp only [List.lookup_cons] at h3 ⊢
            cases hq : n == pk with
            | true =>
              rw [hq] at h3
              cases h3
              exact ⟨pv, rfl, ra⟩
            | false =>
              rw [hq] at h3
              exact ih fs h1 rb h3
      obtain ⟨v, hv1, hv2⟩ := key kvs ex.fs hk hr em
      exact ⟨_, ei, rfl, rfl, ad, kvs, v, rfl, R.gh _ _ hg, hv1, k v G H R (Same.refl _) hv2⟩
  · cases em
/-- isinstance(e, c): tab tells the answer by the class's name -/
theorem he_is {x c : Str} {p p1 p2 : Pos} {tab : List (Str × Bool)} {cv : V} {cu : Value} (hg : Gl X "isinstance") (hmi : X.mg "isinstance" = none) (hv : ∀ (a : Addr) (pn : List (Addr × Obj)), PE (X.suite a pn) (.Name x p1) (tVar i))
    (hc : ∀ (a : Addr) (pn : List (Addr × Obj)), PE (X.suite a pn) (.Name c p2) (tC cv)) (hcv : ∀ u, RelV cv u → u = cu)
    (ht : ∀ q ∈ tab, ∃ C, X.mg q.1 = some (.ref C) ∧ ExcC X.K C ∧ PySem.W.kitOne X.K (.ref C) cu = some q.2) : HE X i (.Call (.Name "isinstance" p) [.Name x p1, .Name c p2] [] pos) (fun ex => (tab.lookup ex.cls).map D.bl) := by
  refine ⟨fun a cls d => tCB (rIs X.K a cls d) (tCons (tVar i) (tCons (tC cv) tNil)), fun a oe cls d pn hz hf => ?_, fun a cls d ex dd Z G H σ env Q R ei er em k => ?_⟩
  · exact pe_callB (X := X.suite a ((a, oe) :: pn)) (call_is hz hf) hg hmi PyProof.Rows.Boot.«isinstance» (pa_cons (hv _ _) (pa_cons (hc _ _) pa_nil))
  · cases hb : tab.lookup ex.cls with
    | none =>
      rw [hb] at em
      cases em
    | some b =>
      rw [hb] at em
      cases em
      obtain ⟨C, h1, h2, h3⟩ := ht _ (PySem.mem_of_lookup hb)
      obtain ⟨e1, e2⟩ := er
      have h1' : X.mg ex.cls = some (.ref C) := h1
      rw [h1'] at e1
      cases e1
      refine ⟨_, ei, C, cv, cu, b, rfl, h2, rfl, hcv, h3, ?_, k _ G H R (Same.refl _) (.bl b)⟩
      rcases e2 with ⟨_, e2⟩ | ⟨ad, kvs, e2, hg2, _⟩
      · exact .inl e2
      · exact .inr ⟨ad, kvs, e2, R.gh _ _ hg2⟩
theorem he_one {op : BoolOp} (h : HE X i e m) : HE X i (.BoolOp op [e] pos) m := by
  obtain ⟨t, p, k⟩ := h.run
  exact ⟨t, fun a oe cls d pn hz hf => pe_one (p a oe cls d pn hz hf), k⟩
theorem he_and (ha : HE X i e m) (hb : HE X i (.BoolOp .And (e1 :: rest) pos) m1) : HE X i (.BoolOp .And (e :: e1 :: rest) pos) (fun x => match m x with
    | some (.bl true) => m1 x
    | some (.bl false) => some (.bl false)
    | _ => none) := by
  obtain ⟨t, p, k⟩ := ha.run
  obtain ⟨u, p2, k2⟩ := hb.run
  refine ⟨fun a cls d => tAndV (t a cls d) (u a cls d), fun a oe cls d pn hz hf => pe_and (p a oe cls d pn hz hf) (p2 a oe cls d pn hz hf), fun a cls d x dd Z G H σ env Q R ei er em kk => ?_⟩
  split at em
  · rename_i h1
    refine k a cls d x _ Z G H σ env _ R ei er h1 fun v G2 H2 R2 s2 rv => ?_
    cases rv
    exact ⟨true, rfl, k2 a cls d x dd Z G2 H2 σ env Q R2 ei (er.mono s2) em fun v G3 H3 R3 s3 r3 => kk v G3 H3 R3 (s2.trans s3) r3⟩
  · rename_i h1
    cases em
    refine k a cls d x _ Z G H σ env _ R ei er h1 fun v G2 H2 R2 s2 rv => ?_
    cases rv
    exact ⟨false, rfl, kk _ G2 H2 R2 s2 (.bl false)⟩
  · cases em
theorem he_not (ha : HE X i e m) : HE X i (.UnaryOp .Not e pos) (fun x => match m x with
    | some (.bl b) => some (.bl (!b))
    | _ => none) := by
  obtain ⟨t, p, k⟩ := ha.run
  refine ⟨fun a cls d => tNotV (t a cls d), fun a oe cls d pn hz hf => pe_not (p a oe cls d pn hz hf), fun a cls d x dd Z G H σ env Q R ei er em kk => ?_⟩
  split at em
  · rename_i b h1
    cases em
    refine k a cls d x _ Z G H σ env _ R ei er h1 fun v G2 H2 R2 s2 rv => ?_
    cases rv
    exact ⟨b, rfl, kk _ G2 H2 R2 s2 (.bl _)⟩
  · cases em
theorem ht_of (ha : HE X i e m) (he : ∀ whole, isTrue e X.env whole = (do let v ← whole; standAt e.pos; holding [v] (truthy v)) := by intro _; rfl) : HT X i e (fun x => match m x with
    | some (.bl b) => some b
    | _ => none) := by
  obtain ⟨t, p, k⟩ := ha.run
  refine ⟨fun a cls d => tTest (t a cls d), fun a oe cls d pn hz hf => pt_val (p a oe cls d pn hz hf) he, fun a cls d x b Z G H σ env Q R ei er em kk => ?_⟩
  split at em
  · rename_i b' h1
    cases em
    refine k a cls d x _ Z G H σ env _ R ei er h1 fun v G2 H2 R2 s2 rv => ?_
    cases rv
    exact ⟨_, rfl, kk G2 H2 R2 s2⟩
  · cases em
theorem ht_not (ha : HT X i e b1) : HT X i (.UnaryOp .Not e pos) (fun x => (b1 x).map (!·)) := by
  obtain ⟨t, p, k⟩ := ha.run
  refine ⟨fun a cls d => tNot (t a cls d), fun a oe cls d pn hz hf => pt_not (p a oe cls d pn hz hf), fun a cls d x b Z G H σ env Q R ei er em kk => ?_⟩
  cases h1 : b1 x with
  | none =>
    rw [h1] at em
    cases em
  | some c =>
    rw [h1] at em
    cases em
    exact k a cls d x _ Z G H σ env _ R ei er h1 kk
theorem hw_and1 (ha : HT X i e b1) : HW X i (.BoolOp .And [e] pos) b1 := by
  obtain ⟨t, p, k⟩ := ha.run
  exact ⟨t, fun a oe cls d pn hz hf => pw_and1 (p a oe cls d pn hz hf), k⟩
theorem hw_and (ha : HT X i e b1) (hb : HW X i (.BoolOp .And (e1 :: rest) pos) b2) : HW X i (.BoolOp .And (e :: e1 :: rest) pos) (fun x => (b1 x).bind fun c => if c = true then b2 x else some false) := by
  obtain ⟨t, p, k⟩ := ha.run
  obtain ⟨u, p2, k2⟩ := hb.run
  refine ⟨fun a cls d => tAnd (t a cls d) (u a cls d), fun a oe cls d pn hz hf => pw_and (p a oe cls d pn hz hf) (p2 a oe cls d pn hz hf), fun a cls d x b Z G H σ env Q R ei er em kk => ?_⟩
  cases h1 : b1 x with
  | none =>
    rw [h1] at em
    cases em
  | some c =>
    rw [h1] at em
    refine k a cls d x _ Z G H σ env _ R ei er h1 fun G2 H2 R2 s2 => ?_
    cases c with
    | true => exact k2 a cls d x b Z G2 H2 σ env Q R2 ei (er.mono s2) em fun G3 H3 R3 s3 => kk G3 H3 R3 (s2.trans s3)
    | false =>
      cases em
      exact kk G2 H2 R2 s2
theorem HW.ht (h : HW X i e b1) : HT X i e b1 := by
  obtain ⟨t, p, k⟩ := h.run
  exact ⟨t, fun a oe cls d pn hz hf => (p a oe cls d pn hz hf).pt, k⟩
theorem he_if (hc : HT X i e b1) (ha : HE X i e1 m1) (hb : HE X i e2 m2) : HE X i (.IfExp e e1 e2 pos) (fun x => (b1 x).bind fun c => if c = true then m1 x else m2 x) := by
  obtain ⟨t, p, k⟩ := hc.run
  obtain ⟨u, p2, k2⟩ := ha.run
  obtain ⟨w, p3, k3⟩ := hb.run
  refine ⟨fun a cls d => tIf (t a cls d) (u a cls d) (w a cls d), fun a oe cls d pn hz hf => pe_ifExp (p a oe cls d pn hz hf) (p2 a oe cls d pn hz hf) (p3 a oe cls d pn hz hf), fun a cls d x dd Z G H σ env Q R ei er em kk => ?_⟩
  cases h1 : b1 x with
  | none =>
    rw [h1] at em
    cases em
  | some c =>
    rw [h1] at em
    refine k a cls d x _ Z G H σ env _ R ei er h1 fun G2 H2 R2 s2 => ?_
    cases c with
    | true => exact k2 a cls d x dd Z G2 H2 σ env Q R2 ei (er.mono s2) em fun v G3 H3 R3 s3 => kk v G3 H3 R3 (s2.trans s3)
    | false => exact k3 a cls d x dd Z G2 H2 σ env Q R2 ei (er.mono s2) em fun v G3 H3 R3 s3 => kk v G3 H3 R3 (s2.trans s3)
/-- (e1, e2) -/
theorem he_tup2 {x1 : Nat} (ha : HE X i e1 m1) (hb : HE X i e2 m2) (s1 : starEach [e1, e2] X.env = (false, eval e1 X.env) :: starEach [e2] X.env := by rfl) (s2 : starEach [e2] X.env = (false, eval e2 X.env) :: starEach [] X.env := by rfl) :
    HE X i (.Tuple [e1, e2] x1 pos) (fun x => (m1 x).bind fun d1 => (m2 x).map fun d2 => .tup [d1, d2]) := by
  obtain ⟨t, p, k⟩ := ha.run
  obtain ⟨u, p2, k2⟩ := hb.run
  refine ⟨fun a cls d => tTup (tCons (t a cls d) (tCons (u a cls d) tNil)), fun a oe cls d pn hz hf => pe_tup (pa_cons (p a oe cls d pn hz hf) (pa_cons (p2 a oe cls d pn hz hf) pa_nil s2) s1), fun a cls d x dd Z G H σ env Q R ei er em kk => ?_⟩
  cases h1 : m1 x with
  | none =>
    rw [h1] at em
    cases em
  | some d1 =>
    cases h2 : m2 x with
    | none =>
      rw [h1, h2] at em
      cases em
    | some d2 =>
      rw [h1, h2] at em
      cases em
      refine k a cls d x d1 Z G H σ env _ R ei er h1 fun v1 G2 H2 R2 s2 r1 => ?_
      refine k2 a cls d x d2 Z G2 H2 σ env _ R2 ei (er.mono s2) h2 fun v2 G3 H3 R3 s3 r2 => ?_
      refine ⟨(show (2 : Nat) ≤ sizeLine by rw [sizeLine_eq]; omega), fun l hl => ?_⟩
      exact kk _ _ _ (R3.grow (Gr.new R3.gh hl)) ((s2.trans s3).trans (same_upd (R3.gh.free hl))) (.tup upd_same ((Rps.cons (r1.mono s3) (.cons r2 .nil)).mono (same_upd (R3.gh.free hl))))
end
/-- a suite that returns or falls through -/
def HEnd (X : Cx) (Z : Zb) (G : Hp) (σ : L2.St) (env : En) (r : Option D) (Dn : Ends) : Prop :=
  match r with
  | some dd => ∀ v G2 H2, RepS X.K Z G2 H2 σ env → Rp X.K G2 v dd → Dn.rt v H2
  | none => ∀ G2 H2, RepS X.K Z G2 H2 σ env → Same G G2 → Dn.nx σ H2
structure HS (X : Cx) (i : Nat) (st : Stmt) (m : Exc → Option (Option D)) : Prop where
  run : ∃ t : Addr → Value → Option Addr → TS, (∀ (a : Addr) (oe : Obj) (cls : Value) (d : Option Addr) (pn : List (Addr × Obj)), Zc cls d oe → (∃ vs, oe.data = .fields vs) → PS (X.suite a ((a, oe) :: pn)) st (t a cls d)) ∧
    ∀ (a : Addr) (cls : Value) (d : Option Addr) (x : Exc) (r : Option D) (Z : Zb) (G H : Hp) (σ : L2.St) (env : En) (Dn : Ends), RepS X.K Z G H σ env → σ[i]? = some (some (.ref a)) → ExcR X.K X.mg G H x cls d → m x = some r → HEnd X Z G σ env r Dn → t a cls d Dn σ H
structure HB (X : Cx) (i : Nat) (st : List Stmt) (m : Exc → Option (Option D)) : Prop where
  run : ∃ t : Addr → Value → Option Addr → TS, (∀ (a : Addr) (oe : Obj) (cls : Value) (d : Option Addr) (pn : List (Addr × Obj)), Zc cls d oe → (∃ vs, oe.data = .fields vs) → PSs (X.suite a ((a, oe) :: pn)) st (t a cls d)) ∧
    ∀ (a : Addr) (cls : Value) (d : Option Addr) (x : Exc) (r : Option D) (Z : Zb) (G H : Hp) (σ : L2.St) (env : En) (Dn : Ends), RepS X.K Z G H σ env → σ[i]? = some (some (.ref a)) → ExcR X.K X.mg G H x cls d → m x = some r → HEnd X Z G σ env r Dn → t a cls d Dn σ H
section
variable {X : Cx} {i : Nat} {e c : Expr} {st : Stmt} {A B rest : List Stmt} {pos : Pos} {m : Exc → Option D} {b1 : Exc → Option Bool} {n n1 n2 : Exc → Option (Option D)}
theorem HEnd.mono {Z : Zb} {G G' : Hp} {σ : L2.St} {env : En} {r : Option D} {Dn : Ends} (h : HEnd X Z G σ env r Dn) (s : Same G G') : HEnd X Z G' σ env r Dn := by
  cases r with
  | some d => exact h
  | none => exact fun G2 H2 R s2 => h G2 H2 R (s.trans s2)
theorem hs_ret (h : HE X i e m) : HS X i (.Return (some e) pos) (fun x => (m x).map some) := by
  obtain ⟨t, p, k⟩ := h.run
  refine ⟨fun a cls d => tRet (t a cls d), fun a oe cls d pn hz hf => ps_ret (p a oe cls d pn hz hf), fun a cls d x r Z G H σ env Dn R ei er em q => ?_⟩
  cases h1 : m x with
  | none =>
    rw [h1] at em
    cases em
  | some dd =>
    rw [h1] at em
    cases em
    exact k a cls d x dd Z G H σ env _ R ei er h1 fun v G2 H2 R2 s2 rv => q v G2 H2 R2 rv
theorem hb_nil : HB X i [] (fun _ => some none) :=
  ⟨fun _ _ _ => tNext, fun _ _ _ _ _ _ _ => pss_nil, fun a cls d x r Z G H σ env Dn R ei er em q => by
    cases em
    exact q G H R (Same.refl _)⟩
theorem hb_cons (h : HS X i st n) (h2 : HB X i rest n1) : HB X i (st :: rest) (fun x => (n x).bind fun r => match r with
    | some d => some (some d)
    | none => n1 x) := by
  obtain ⟨t, p, k⟩ := h.run
  obtain ⟨u, p2, k2⟩ := h2.run
  refine ⟨fun a cls d => tSeq (t a cls d) (u a cls d), fun a oe cls d pn hz hf => pss_cons (p a oe cls d pn hz hf) (p2 a oe cls d pn hz hf), fun a cls d x r Z G H σ env Dn R ei er em q => ?_⟩
  cases h1 : n x with
  | none =>
    rw [h1] at em
    cases em
  | some r1 =>
    rw [h1] at em
    refine k a cls d x r1 Z G H σ env _ R ei er h1 ?_
    cases r1 with
    | some dd =>
      cases em
      exact q
    | none => exact fun G2 H2 R2 s2 => k2 a cls d x r Z G2 H2 σ env Dn R2 ei (er.mono s2) em (q.mono s2)
theorem hs_if (hc : HT X i c b1) (ha : HB X i A n1) (hb : HB X i B n2) : HS X i (.If c A B pos) (fun x => (b1 x).bind fun b => if b = true then n1 x else n2 x) := by
  obtain ⟨t, p, k⟩ := hc.run
  obtain ⟨u, p2, k2⟩ := ha.run
  obtain ⟨w, p3, k3⟩ := hb.run
  refine ⟨fun a cls d => tIfS (t a cls d) (u a cls d) (w a cls d), fun a oe cls d pn hz hf => ps_if (p a oe cls d pn hz hf) (p2 a oe cls d pn hz hf) (p3 a oe cls d pn hz hf), fun a cls d x r Z G H σ env Dn R ei er em q => ?_⟩
  cases h1 : b1 x with
  | none =>
    rw [h1] at em
    cases em
  | some b =>
    rw [h1] at em
    refine k a cls d x b Z G H σ env _ R ei er h1 fun G2 H2 R2 s2 => ?_
    cases b with
    | true => exact k2 a cls d x r Z G2 H2 σ env Dn R2 ei (er.mono s2) em (q.mono s2)
    | false => exact k3 a cls d x r Z G2 H2 σ env Dn R2 ei (er.mono s2) em (q.mono s2)
end

/-! ### try -/
def cS (X : Cx) (W : WX) (m : MS) : TS := fun Dn σ H => ∃ Z G env, RepS X.K Z G H σ env ∧ PostS X W Z G (m env) Dn
theorem DB.canon {X : Cx} {W : WX} {st : List Stmt} {m : MS} (h : DB X W st m) : PSs X st (cS X W m) := by
  obtain ⟨t, p, k⟩ := h.run
  exact ⟨fun pins s σ H Dn I ⟨Z, G, env, R, q⟩ => p.run pins s σ H Dn I (k Z G H σ env Dn R q)⟩
def sTry (i : Nat) (tk : List (Str × Bool)) (mb : MS) (mh : Exc → Option (Option D)) : MS := fun env => match mb env with
  | .exc x e => match tk.lookup x.cls with
    | some true => if i < e.length then match mh x with
        | some (some d) => .rt (.sh d) (e.set i .no)
        | some none => .nx (e.set i .no)
        | none => .bad
      else .bad
    | some false => .exc x e
    | none => .bad
  | r => r
theorem ds_try {X : Cx} {W : WX} {i : Nat} {x n : Str} {c : Value} {body suite : List Stmt} {b0 : Stmt} {np pos pos' : Pos} {mb : MS} {mh : Exc → Option (Option D)} {tk : List (Str × Bool)} (hs : X.stack = X.env :: X.outer) (hf : X.env.frame = some X.env.locals) (hN : X.N.Nodup) (hi : X.N[i]? = some n) (hln : X.env.kindOf n = some .local)
    (hc : Names X x c) (ht : Takes X W) (htk : ∀ q ∈ tk, ∃ cv, X.mg q.1 = some cv ∧ PySem.W.exmOne X.K cv c = some q.2)
    (hb : ∀ (W' : WX) (pn : List (Addr × Obj)) (xe : Value → Shared → Prop), Takes (X.tr pn xe) W' → PassesOwn (model X.prog X.w) X.A X.env xe → DB (X.tr pn xe) W' body mb) (hh : HB X i (b0 :: suite) mh) :
    DS X W (.Try body [.ExceptHandler (some (.Name x np)) (some n) (b0 :: suite) pos'] [] [] pos) (sTry i tk mb mh) := by
  obtain ⟨t, p, k⟩ := hh.run
  refine ⟨_, ps_try_as (tb := fun W' => cS X W' mb) (ts := t) (Wout := W) hs hf hN hi hln hc ht (fun W' pn xe h1 h2 => (hb W' pn xe h1 h2).canon) (fun a oe cls d pn hz hfs => p a oe cls d pn hz hfs), fun Z G H σ env Dn R q => ?_⟩
  refine ⟨Z, G, env, R, ?_⟩
  unfold sTry at q
  generalize hr : mb env = r at q
  cases r with
  | nx e => exact q
  | rt y e =>
    cases y with
    | sh d => exact q
    | ow ds => exact q
  | bk e => exact q
  | ct e => exact q
  | bad => exact q
  | exc y e =>
    dsimp only at q
    refine fun σ2 G2 H2 cl od R2 s2 er => ?_
    cases hl : tk.lookup y.cls with
    | none =>
      rw [hl] at q
      exact q.elim
    | some b =>
      obtain ⟨cv, h1, h2⟩ := htk _ (PySem.mem_of_lookup hl)
      have h1' : X.mg y.cls = some cv := h1
      have h3 := er.1
      rw [h1'] at h3
      cases h3
      rw [hl] at q
      cases b with
      | false => exact ⟨false, h2, fun z => Bool.noConfusion z, fun _ => q σ2 G2 H2 _ od R2 s2 er⟩
      | true =>
        refine ⟨true, h2, fun _ a ha => ?_, fun z => Bool.noConfusion z⟩
        dsimp only at q
        split at q
        case isFalse => exact q.elim
        rename_i hie
        have hiσ : i < σ2.length := by
          rw [← R2.len]
          exact hie
        have R3 : RepS X.K Z G2 H2 (σ2.set i (some (.ref a))) (e.set i .no) := R2.setNo
        cases hm : mh y with
        | none =>
          rw [hm] at q
          exact q.elim
        | some r =>
          rw [hm] at q
          refine k a _ od y r Z G2 H2 _ (e.set i .no) _ R3 (by rw [List.getElem?_set_self hiσ]) er hm ?_
          cases r with
          | some d => exact fun v G4 H4 R4 rv => q _ G4 H4 v R4 rv
          | none =>
            refine fun G4 H4 R4 s4 => ?_
            refine q _ G4 H4 ?_ (s2.trans s4)
            have R5 := R4.setNo (i := i) (o := none)
            have e5 : (e.set i Cell.no).set i Cell.no = e.set i Cell.no := List.set_set ..
            rw [e5] at R5
            exact R5
end No
end

section
set_option Elab.async false
set_option linter.all false
set_option maxRecDepth 100000
set_option maxHeartbeats 1000000
namespace No
open PySem PySem.Spec PyProof.Rows L2

/-! ### comprehensions of two clauses -/
def cI (X : Cx) (m : MA) : TI := fun σ H Rw => ∃ Z G env, RepS X.K Z G H σ env ∧ PostE X wF Z σ G (m env) (fun ds _ G2 H2 => ∀ J, ItD X.K G2 J ds → Rw J H2)
theorem DI.canon {X : Cx} {tg iter : Expr} {m : MA} (h : DI X wF tg iter m) : PI X tg iter (cI X m) := by
  obtain ⟨t, p, k⟩ := h.run
  exact ⟨fun pins s σ H Rw I ⟨Z, G, env, R, q⟩ => p.run pins s σ H Rw I (k Z G H σ env Rw R q)⟩
def runLc2 (g : D → En → Option En) (t : MT) (vs : List Nat) (mi1 : MA) (g1 : D → En → Option En) (t1 : MT) (el : ME) (vs1 : List Nat) : List D → En → Res (List D)
  | [], e => .ok [] e
  | d :: ds, e => match g d e with
    | none => .bad
    | some e1 => match t e1 with
      | .ok b e2 => if b = true then match mi1 e2 with
          | .ok ds1 e3 => match runLc g1 t1 el vs1 ds1 (wipeE e3 vs1) with
            | .ok ys e4 => (runLc2 g t vs mi1 g1 t1 el vs1 ds (wipeE e4 vs)).bind fun zs e5 => .ok (ys ++ zs) e5
            | _ => .bad
          | _ => .bad
        else runLc2 g t vs mi1 g1 t1 el vs1 ds (wipeE e2 vs)
      | _ => .bad
@[simp] def mLc2 (g : D → En → Option En) (mi : MA) (t : MT) (vs : List Nat) (mi1 : MA) (g1 : D → En → Option En) (t1 : MT) (el : ME) (vs1 : List Nat) : MA := fun env => (mi env).bind fun ds e =>
  if noOw e vs = true then match runLc2 g t vs mi1 g1 t1 el vs1 ds (wipeE e vs) with
    | .ok ys e4 => if ys.length ≤ sizeLine then .ok ys (restE e e4 vs) else .bad
    | _ => .bad
  else .bad
theorem bind_ok {α β : Type} {r : Res α} {f : α → En → Res β} {b : β} {e : En} (h : r.bind f = .ok b e) : ∃ a e1, r = .ok a e1 ∧ f a e1 = .ok b e := by
  cases r with
  | ok a e1 => exact ⟨a, e1, rfl, h⟩
  | exc x e1 => cases h
  | bad => cases h
theorem wipe_sub (σ : L2.St) (us vs : List Nat) (h : ∀ u ∈ us, u ∈ vs) : wipe (wipe σ us) vs = wipe σ vs := by
  induction us with
  | nil => rfl
  | cons u us ih =>
    show wipe ((wipe σ us).set u none) vs = wipe σ vs
    rw [(wipe_set u none vs (wipe σ us)).1 (h u List.mem_cons_self)]
    exact ih fun z hz => h z (List.mem_cons_of_mem _ hz)
section
variable {X : Cx} {W : WX} {tg iter elt : Expr} {ifs : List Expr} {ix ix1 : List Nat} {g g1 : D → En → Option En} {mi mi1 : MA} {mt mt1 : MT} {el : ME}
theorem lc2_read {wi : TI} {vs vs1 : List Nat} (hix : ∀ i ∈ ix, i ∈ vs) (hix1 : ∀ i ∈ ix1, i ∈ vs1) (hvs : ∀ i ∈ vs1, i ∈ vs)
    (k : ∀ (Z : Zb) (G H : Hp) (σ : L2.St) (env : En) (Rw : It → Hp → Prop), RepS X.K Z G H σ env → PostE X W Z σ G (mi env) (fun ds _ G2 H2 => ∀ J, ItD X.K G2 J ds → Rw J H2) → wi σ H Rw)
    (Z : Zb) (G H : Hp) (σ : L2.St) (env : En) (Q : VK) (R : RepS X.K Z G H σ env)
    (q : PostE X W Z σ G (mLc2 g mi mt vs mi1 g1 mt1 el vs1 env) (fun ds env2 G2 H2 => ∀ l ho, Own X.K Z G2 H2 σ env2 l ho (.fl ds) → Q (.ref l) H2)) :
    tLc2 wi (cG X ix g) (cT X wF mt) (cI X mi1) (cG X ix1 g1) (cT X wF mt1) (cE X wF el) vs vs1 σ H Q := by
  refine k Z G H σ env _ R ((PostE.bind q).imp fun items e1 G1 H1 R1 s1 q1 J hJ Dl hD => ?_)
  split at q1
  case isFalse => exact q1.elim
  rename_i hno
  generalize hrun : runLc2 g mt vs mi1 g1 mt1 el vs1 items (wipeE e1 vs) = rr at q1
  cases rr with
  | exc x e => exact q1.elim
  | bad => exact q1.elim
  | ok all efin =>
  dsimp only at q1
  split at q1
  case isFalse => exact q1.elim
  rename_i hsz
  have g1' : G1 Dl = none := R1.gh.free hD
  have g0 : Z.G0 Dl = none := R1.gr.gg.free g1'
  have h0 : Z.H0 Dl = none := R1.gr.hh.free hD
  refine ⟨fun i m H' => ∃ G' e' acc ds zs, Same G1 G' ∧ RepS X.K (Z.fr Dl (.lst acc)) G' H' (wipe σ vs) e' ∧ i + m = items.length ∧ Rps X.K G' acc ds ∧
    runLc2 g mt vs mi1 g1 mt1 el vs1 (items.drop i) e' = .ok zs efin ∧ ds ++ zs = all,
    ⟨items.length, G1, _, [], [], all, Same.refl _, (R1.wipe vs).frame hD, by omega, .nil, hrun, rfl⟩, ?_⟩
  rintro i m H' ⟨G', e', acc, ds, zs, sG, R', hm, hr, hz, hall⟩
  have it := hJ G' H' sG R'.gh i
  by_cases hlt : i < items.length
  · obtain ⟨go, yl⟩ := it.1 items[i] (List.getElem?_eq_getElem hlt)
    rw [List.drop_eq_getElem_cons hlt] at hz
    unfold runLc2 at hz
    refine .inr ⟨go, fun H5 => ∃ G5 e5 acc5 ds5 zs5, Same G1 G5 ∧ RepS X.K (Z.fr Dl (.lst acc5)) G5 H5 (wipe σ vs) e5 ∧ Rps X.K G5 acc5 ds5 ∧
      runLc2 g mt vs mi1 g1 mt1 el vs1 (items.drop (i + 1)) e5 = .ok zs5 efin ∧ ds5 ++ zs5 = all,
      fun H5 ⟨G5, e5, acc5, ds5, zs5, a1, a2, a3, a4, a5⟩ => ⟨m - 1, by omega, G5, e5, acc5, ds5, zs5, a1, a2, by omega, a3, a4, a5⟩, fun x H2 y => ?_⟩
    obtain ⟨G2, gr, rx⟩ := yl x H2 y
    cases z : g items[i] e' with
    | none =>
      rw [z] at hz
      cases hz
    | some e2 =>
    rw [z] at hz
    dsimp only at hz
    refine ⟨_, G2, e', items[i], e2, R'.grow gr, rx, z, fun σ3 R3 hw => ?_⟩
    have hw' : wipe σ3 vs = wipe σ vs := (hw vs hix).trans (wipe_idem σ vs)
    refine ⟨hw', _, G2, e2, R3, ?_⟩
    have sG2 : Same G1 G2 := sG.trans gr.gg
    cases z2 : mt e2 with
    | exc x e3 =>
      rw [z2] at hz
      cases hz
    | bad =>
      rw [z2] at hz
      cases hz
    | ok b e3 =>
    rw [z2] at hz
    dsimp only at hz
    intro G3 H3 R4 s4
    cases b with
    | false =>
      rw [if_neg Bool.false_ne_true] at hz ⊢
      refine ⟨G3, wipeE e3 vs, acc, ds, zs, sG2.trans s4, ?_, hr.mono (gr.gg.trans s4), hz, hall⟩
      have R5 := R4.wipe vs
      rw [hw'] at R5
      exact R5
    | true =>
      rw [if_pos rfl] at hz ⊢
      cases z3 : mi1 e3 with
      | exc x e4 =>
        rw [z3] at hz
        cases hz
      | bad =>
        rw [z3] at hz
        cases hz
      | ok items1 e4 =>
      rw [z3] at hz
      dsimp only at hz
      refine ⟨_, G3, e3, R4, ?_⟩
      rw [z3]
      intro G4 H4 R5 s5 J1 hJ1
      have sG4 : Same G1 G4 := (sG2.trans s4).trans s5
      have hr4 := hr.mono ((gr.gg.trans s4).trans s5)
      generalize hrun1 : runLc g1 mt1 el vs1 items1 (wipeE e4 vs1) = rr1 at hz
      cases rr1 with
      | exc x e => cases hz
      | bad => cases hz
      | ok ys1 e5 =>
      dsimp only at hz
      obtain ⟨zs2, e6, hz2, hz3⟩ := bind_ok hz
      cases hz3
      refine ⟨fun j n H' => ∃ G' e' acc' ds' ws, Same G4 G' ∧ RepS X.K (Z.fr Dl (.lst acc')) G' H' (wipe σ3 vs1) e' ∧ j + n = items1.length ∧ Rps X.K G' acc' ds' ∧
        runLc g1 mt1 el vs1 (items1.drop j) e' = .ok ws e5 ∧ ds' ++ ws ++ zs2 = all,
        ⟨items1.length, G4, _, acc, ds, ys1, Same.refl _, R5.wipe vs1, by omega, hr4, hrun1, by rw [← hall, List.append_assoc]⟩, ?_⟩
      rintro j n H7 ⟨G7, e7, acc7, ds7, ws, sG7, R7, hn, hr7, hw7, hall7⟩
      have it1 := hJ1 G7 H7 sG7 R7.gh j
      by_cases hlt1 : j < items1.length
      · obtain ⟨go1, yl1⟩ := it1.1 items1[j] (List.getElem?_eq_getElem hlt1)
        rw [List.drop_eq_getElem_cons hlt1] at hw7
        unfold runLc at hw7
        refine .inr ⟨go1, fun H5 => ∃ G5 e5' acc5 ds5 ws5, Same G4 G5 ∧ RepS X.K (Z.fr Dl (.lst acc5)) G5 H5 (wipe σ3 vs1) e5' ∧ Rps X.K G5 acc5 ds5 ∧
          runLc g1 mt1 el vs1 (items1.drop (j + 1)) e5' = .ok ws5 e5 ∧ ds5 ++ ws5 ++ zs2 = all,
          fun H5 ⟨G5, e5', acc5, ds5, ws5, a1, a2, a3, a4, a5⟩ => ⟨n - 1, by omega, G5, e5', acc5, ds5, ws5, a1, a2, by omega, a3, a4, a5⟩, fun x1 H8 y1 => ?_⟩
        obtain ⟨G8, gr8, rx8⟩ := yl1 x1 H8 y1
        cases z4 : g1 items1[j] e7 with
        | none =>
          rw [z4] at hw7
          cases hw7
        | some e8 =>
        rw [z4] at hw7
        dsimp only at hw7
        refine ⟨_, G8, e7, items1[j], e8, R7.grow gr8, rx8, z4, fun σ9 R9 hw9 => ?_⟩
        have hw9' : wipe σ9 vs1 = wipe σ3 vs1 := (hw9 vs1 hix1).trans (wipe_idem σ3 vs1)
        refine ⟨hw9', _, G8, e8, R9, ?_⟩
        have sG8 : Same G4 G8 := sG7.trans gr8.gg
        cases z5 : mt1 e8 with
        | exc x e3 =>
          rw [z5] at hw7
          cases hw7
        | bad =>
          rw [z5] at hw7
          cases hw7
        | ok b e9 =>
        rw [z5] at hw7
        dsimp only at hw7
        intro G10 H10 R10 s10
        cases b with
        | false =>
          rw [if_neg Bool.false_ne_true] at hw7 ⊢
          refine ⟨G10, wipeE e9 vs1, acc7, ds7, ws, sG8.trans s10, ?_, hr7.mono (gr8.gg.trans s10), hw7, hall7⟩
          have R11 := R10.wipe vs1
          rw [hw9'] at R11
          exact R11
        | true =>
          rw [if_pos rfl] at hw7 ⊢
          cases z6 : el e9 with
          | exc x e10 =>
            rw [z6] at hw7
            cases hw7
          | bad =>
            rw [z6] at hw7
            cases hw7
          | ok yd e10 =>
          rw [z6] at hw7
          dsimp only at hw7
          obtain ⟨ws2, e11, hw8, hw10⟩ := bind_ok hw7
          cases hw10
          refine ⟨_, G10, e9, R10, ?_⟩
          rw [z6]
          intro G12 H12 R12 s12 v rv
          have hlen : acc7.length < sizeLine := by
            have e13 := hr7.length
            have e14 : all.length ≤ sizeLine := hsz
            rw [← hall7] at e14
            simp at e14
            omega
          refine ⟨acc7, (R12.framed g0).1, hlen, ?_⟩
          refine ⟨G12, wipeE e10 vs1, acc7 ++ [v], ds7 ++ [yd], ws2, (sG8.trans s10).trans s12, ?_, (hr7.mono ((gr8.gg.trans s10).trans s12)).append (Rps.one rv), hw8, by rw [← hall7]; simp⟩
          have R13 := (R12.reframe (o' := .lst (acc7 ++ [v])) g0 h0).wipe vs1
          rw [hw9'] at R13
          exact R13
      · rw [List.drop_eq_nil_of_le (by omega)] at hw7
        cases hw7
        refine .inl ⟨it1.2 (by omega), G7, wipeE e5 vs, acc7, ds7, zs2, sG4.trans sG7, ?_, hr7, hz2, by rw [← hall7]; simp⟩
        have R8 := R7.wipe vs
        rw [wipe_sub σ3 vs1 vs hvs, hw'] at R8
        exact R8
  · rw [List.drop_eq_nil_of_le (by omega)] at hz
    cases hz
    obtain ⟨hl, gl, ne⟩ := R'.framed g0
    have Ru := R'.unframe g0 h0
    have Rr := RepS.rest R1 sG Ru (wipe_length σ vs) vs hno
    rw [restS_wipe] at Rr
    have pq1 := q1 G' H' Rr sG
    refine .inl ⟨it.2 (by omega), pq1 Dl _ ⟨hl, gl, h0, fun j b0 es ej ek => ?_, HM.fl (by rw [← hall]; simpa using hr)⟩⟩
    obtain ⟨m2, xs2, em, hm2, gm2, h02, _⟩ := Rr.ow ej
    rw [em] at ek
    cases ek
    have key : ∀ (us : List Nat), (restE e1 efin us)[j]? = some (.ow b0 es) → noOw e1 us = true → efin[j]? = some (.ow b0 es) ∧ j ∉ us := by
      intro us
      induction us with
      | nil => exact fun h _ => ⟨h, by simp⟩
      | cons u us ih =>
        intro h hn
        unfold noOw at hn
        rw [List.all_cons, Bool.and_eq_true] at hn
        have h' : ((restE e1 efin us).set u (e1.getD u .no))[j]? = some (.ow b0 es) := h
        by_cases hu : u = j
        · exfalso
          subst hu
          obtain ⟨hi, _⟩ := List.getElem?_eq_some_iff.mp h'
          rw [List.getElem?_set_self (by simpa using hi), List.getD_eq_getElem?_getD] at h'
          have h1 := hn.1
          cases q : e1[u]? with
          | none =>
            rw [q] at h'
            cases h'
          | some c =>
            rw [q] at h' h1
            cases h'
            exact absurd (show false = true from h1) Bool.false_ne_true
        · rw [List.getElem?_set_ne hu] at h'
          obtain ⟨a, b⟩ := ih h' hn.2
          exact ⟨a, fun z => by
            rcases List.mem_cons.mp z with z | z
            · exact hu z.symm
            · exact b z⟩
    obtain ⟨k1, k2⟩ := key vs ej hno
    exact ne j b0 es k1 (by rw [wipe_out k2]; exact em)
theorem do_lc2 {e : Expr} {vs vs1 : List Nat} (hi : DI X W tg iter mi) (hix : ∀ i ∈ ix, i ∈ vs) (hix1 : ∀ i ∈ ix1, i ∈ vs1) (hvs : ∀ i ∈ vs1, i ∈ vs)
    (hp : ∀ wi, PI X tg iter wi → PE X e (tLc2 wi (cG X ix g) (cT X wF mt) (cI X mi1) (cG X ix1 g1) (cT X wF mt1) (cE X wF el) vs vs1)) : DO X W e (mFl (mLc2 g mi mt vs mi1 g1 mt1 el vs1)) := by
  obtain ⟨wi, p, k⟩ := hi.run
  exact ⟨_, hp wi p, fun Z G H σ env Q R q => lc2_read hix hix1 hvs k Z G H σ env Q R ((PostE.bind q).imp fun ds e1 G1 H1 R1 s1 q1 => q1 G1 H1 R1 (Same.refl _))⟩
end
end No
end

section
set_option Elab.async false
set_option linter.all false
set_option maxRecDepth 100000
set_option maxHeartbeats 1000000
namespace No
open PySem PySem.Spec PyProof.Rows L2

/-! ### reversed(range(n)) -/
def downs (n : Nat) : List D := (List.range n).map fun i => .int ((n : Int) - 1 - (i : Nat))
theorem downs_get {n i : Nat} {d : D} (h : (downs n)[i]? = some d) : i < n ∧ d = .int ((n : Int) - 1 - (i : Nat)) := by
  unfold downs at h
  rw [List.getElem?_map] at h
  by_cases hi : i < n
  · rw [List.getElem?_range hi] at h
    cases h
    exact ⟨hi, rfl⟩
  · rw [List.getElem?_eq_none (by simpa using hi)] at h
    cases h
theorem itd_rev {K : PySem.W.Frag} {G : Hp} {n : Nat} : ItD K G (Itc ((n : Int) - 1) (-1) n) (downs n) := fun G1 H1 s1 s2 i => by
  refine ⟨fun d e => ?_, fun hi => show n ≤ i by simpa [downs] using hi⟩
  obtain ⟨hi, rfl⟩ := downs_get e
  refine ⟨hi, fun x H2 y => ?_⟩
  obtain ⟨rfl, rfl⟩ := y
  refine ⟨G1, Gr.refl s2, ?_⟩
  have e : (n : Int) - 1 + (i : Nat) * -1 = (n : Int) - 1 - (i : Nat) := by omega
  rw [e]
  exact .int _
@[simp] def mRev1 (m : ME) : MA := fun env => (m env).bind fun d e => match d with
  | .int j => if inR j = true then .ok (downs j.toNat) e else .bad
  | _ => .bad
section
variable {X : Cx} {W : WX} {tg a b : Expr} {pos p p2 pos2 : Pos}
theorem di_rev1 {m : ME} (hg : Gl X "reversed") (hm : X.mg "reversed" = none) (hg2 : Gl X "range") (hm2 : X.mg "range" = none) (h : DE X W a m) (na : starEach [a] X.env = (false, eval a X.env) :: starEach [] X.env := by rfl)
    (hs : starEach [.Call (.Name "range" p2) [a] [] pos2] X.env = (false, eval (.Call (.Name "range" p2) [a] [] pos2) X.env) :: starEach [] X.env := by rfl) : DI X W tg (.Call (.Name "reversed" p) [.Call (.Name "range" p2) [a] [] pos2] [] pos) (mRev1 m) := by
  obtain ⟨t, pt, k⟩ := h.run
  refine ⟨_, pi_revR hg hm (prg_1 hg2 hm2 pt na) hs, fun Z G H σ env Rw R q => ?_⟩
  refine k Z G H σ env _ R ((PostE.bind q).imp fun d e1 G1 H1 R1 s1 q1 v rv => ?_)
  split at q1
  case h_2 => exact q1.elim
  rename_i j
  split at q1
  case isFalse => exact q1.elim
  rename_i hj
  have hj' := inR_ok hj
  cases rv
  refine ⟨j, rfl, by omega, by omega, hj'.1, hj'.2, ?_⟩
  have e : (0 : Int) + (((j - 0).toNat : Nat) : Int) - 1 = ((j.toNat : Nat) : Int) - 1 := by omega
  have e2 : (j - 0).toNat = j.toNat := by omega
  rw [e, e2]
  exact q1 G1 H1 R1 (Same.refl _) _ itd_rev

/-! ### x in xs, whole numbers -/
@[simp] def gIn : D → D → Option D := fun x y => match x, y with
  | .int i, .lst ds => (toIs ds).map fun ns => .bl (ns.contains i)
  | _, _ => none
theorem inV_ints (i : Int) : ∀ ns : List Int, inV (.int i) (ns.map V.int) = ns.contains i
  | [] => rfl
  | n :: ns => by
    have ih := inV_ints i ns
    unfold inV at ih ⊢
    rw [List.map_cons, List.any_cons, ih, List.contains_cons]
    congr 1
    show decide (n = i) = (i == n)
    by_cases h : n = i
    · subst h
      simp
    · have h2 : i ≠ n := fun z => h z.symm
      simp [h, h2]
theorem opd_in {K : PySem.W.Frag} : OpD K (rIn K false) gIn := by
  intro G H x y dx dy d Q e rx ry h k
  unfold gIn at h
  split at h
  case h_2 => cases h
  rename_i i ds
  cases ht : toIs ds with
  | none =>
    rw [ht] at h
    cases h
  | some ns =>
    rw [ht] at h
    cases h
    have e2 := toIs_ints ht
    subst e2
    cases rx
    cases ry with
    | @lst a xs _ hx rs =>
    have e3 := Rps.ints rs
    subst e3
    refine ⟨a, _, rfl, .inl (.inl (.inl (e a _ hx))), rfl, ?_, ?_⟩
    · rw [List.all_eq_true]
      intro z hz
      obtain ⟨n, _, rfl⟩ := List.mem_map.mp hz
      rfl
    · rw [if_neg Bool.false_ne_true, inV_ints]
      exact k _ G H (Gr.refl e) (.bl _)

/-! ### xs[lo:hi] -/
def cutD (xs : List D) (lo hi : Option Int) : List D := (xs.drop (HT.sIx xs.length 0 lo)).take (HT.sIx xs.length xs.length hi - HT.sIx xs.length 0 lo)
abbrev MO := En → Res (Option Int)
structure DP (X : Cx) (W : WX) (e : Option Expr) (m : MO) : Prop where
  run : ∃ t : TO, PO X e t ∧ ∀ (Z : Zb) (G H : Hp) (σ : L2.St) (env : En) (Q : Option Int → Hp → Prop), RepS X.K Z G H σ env → PostE X W Z σ G (m env) (fun o _ _ H2 => Q o H2) → t σ H Q
@[simp] def mNoP : MO := fun env => .ok none env
@[simp] def mPart (m : ME) : MO := fun env => (m env).bind fun d e => match d with
  | .int i => .ok (some i) e
  | _ => .bad
theorem dp_none : DP X W none mNoP := ⟨_, po_none, fun Z G H σ env Q R q => q G H R (Same.refl _)⟩
theorem dp_some {m : ME} (h : DE X W a m) : DP X W (some a) (mPart m) := by
  obtain ⟨t, p, k⟩ := h.run
  refine ⟨_, po_some p, fun Z G H σ env Q R q => ?_⟩
  refine k Z G H σ env _ R ((PostE.bind q).imp fun d e1 G1 H1 R1 s1 q1 v rv => ?_)
  split at q1
  case h_2 => exact q1.elim
  cases rv
  exact ⟨_, rfl, q1 G1 H1 R1 (Same.refl _)⟩
@[simp] def mSl (m : ME) (lo hi : MO) : MA := fun env => (m env).bind fun d e => (lo e).bind fun l e1 => (hi e1).bind fun u e2 => match d with
  | .lst xs => .ok (cutD xs l u) e2
  | _ => .bad
theorem do_sl {m : ME} {lo hi : Option Expr} {ml mh : MO} (h : DE X W a m) (hl : DP X W lo ml) (hh : DP X W hi mh) : DO X W (.Subscript a (.Slice lo hi none p2) pos) (mFl (mSl m ml mh)) := by
  obtain ⟨t, p, k⟩ := h.run
  obtain ⟨tl, pl, kl⟩ := hl.run
  obtain ⟨tu, pu, ku⟩ := hh.run
  refine ⟨_, pe_slice sl_list p pl pu, fun Z G H σ env Q R q => ?_⟩
  refine k Z G H σ env _ R ((PostE.bind (PostE.bind q)).imp fun d e1 G1 H1 R1 s1 q1 v rv => ?_)
  refine kl Z G1 H1 σ e1 _ R1 ((PostE.bind q1).imp fun l e2 G2 H2 R2 s2 q2 => ?_)
  refine ku Z G2 H2 σ e2 _ R2 ((PostE.bind q2).imp fun u e3 G3 H3 R3 s3 q3 => ?_)
  cases rv with
  | @lst l1 xs ds hx rs =>
    dsimp only at q3
    have hx3 : G3 l1 = some (.lst xs) := s3 _ _ (s2 _ _ hx)
    refine ⟨l1, xs, rfl, .inl (.inl (R3.gh _ _ hx3)), fun q hq => ?_⟩
    have rc : Rps X.K G3 (cutV xs l u) (cutD ds l u) := by
      unfold cutV cutD
      rw [rs.length]
      exact (((rs.mono s2).mono s3).drop _).take _
    obtain ⟨R4, O⟩ := R3.own hq (HM.fl rc)
    exact q3 _ _ R3 (Same.refl _) _ _ R4 (Same.refl _) q _ O
  | _ => exact q3.elim
end

/-! ### calls of defs, by what is told of them -/
structure CalN (P : Program) (w : World) (K : PySem.W.Frag) (mg : Str → Option Value) (base : Heap) (k : Nat) (x : Str) (n : Nat) (f : List D → FR) : Prop where
  ex : ∃ (fa : Addr) (fd : FuncData) (ps : List Str), FnOk P w K mg base (L2.CX P w) k fa fd ps (spF K mg n f) ∧ mg x = some (.ref fa) ∧ PySem.W.keepIn K (.ref fa) = true ∧ Binds K fd ps []
section
variable {X : Cx} {W : WX} {e : Expr} {es : List Expr} {ma : MA} {n k j : Nat} {f : List D → FR} {x : Str} {p pos : Pos}
theorem de_cl (C : CalN X.prog X.w X.K X.mg X.base k x n f) (hr : Room j X.A) (hk : k ≤ j) (hg : Gl X x) (tw : Takes X W) (h : DA X W (e :: es) ma) (hdb : (x == ("__debug__" : Str)) = false := by decide)
    (he : starEach (e :: es) X.env = (false, eval e X.env) :: starEach es X.env := by rfl) (hpl : (backTo pos (starEach es X.env)).any (·.1) = false := by rfl) : DE X W (.Call (.Name x p) (e :: es) [] pos) (mCall n f ma) := by
  obtain ⟨fa, fd, ps, F, hm, hkp, hb⟩ := C.ex
  exact de_call h fun t ht => pe_callS F (hr.mono hk) hg hm hkp hb (fun σ => passAt tw σ) ht hdb he hpl
theorem do_cl (C : CalN X.prog X.w X.K X.mg X.base k x n f) (hr : Room j X.A) (hk : k ≤ j) (hg : Gl X x) (tw : Takes X W) (h : DA X W (e :: es) ma) (hdb : (x == ("__debug__" : Str)) = false := by decide)
    (he : starEach (e :: es) X.env = (false, eval e X.env) :: starEach es X.env := by rfl) (hpl : (backTo pos (starEach es X.env)).any (·.1) = false := by rfl) : DO X W (.Call (.Name x p) (e :: es) [] pos) (mCallO n f ma) := by
  obtain ⟨fa, fd, ps, F, hm, hkp, hb⟩ := C.ex
  exact do_call h fun t ht => pe_callS F (hr.mono hk) hg hm hkp hb (fun σ => passAt tw σ) ht hdb he hpl
/-- a module's whole number -/
theorem de_gi {i : Int} (hg : Gl X x) (hm : ∃ t, X.mg x = some (.int i t)) (hdb : (x == ("__debug__" : Str)) = false := by decide) : DE X W (.Name x pos) (mC (.int i)) := by
  obtain ⟨t, hm⟩ := hm
  exact de_c (v := .int i) (pe_glob hg hm ⟨t, rfl⟩ hdb) fun _ => .int i
end

/-! ### calls that lend -/
structure CalM (P : Program) (w : World) (K : PySem.W.Frag) (mg : Str → Option Value) (base : Heap) (k : Nat) (x : Str) (n : Nat) (f : List Cell → FM) : Prop where
  ex : ∃ (fa : Addr) (fd : FuncData) (ps : List Str), FnOk P w K mg base (L2.CX P w) k fa fd ps (spM K mg n f) ∧ mg x = some (.ref fa) ∧ PySem.W.keepIn K (.ref fa) = true ∧ Binds K fd ps []
  ls : ∀ cs d ds, f cs = .sh d ds → ds.length = cs.length
  lo : ∀ cs d ds, f cs = .ow d ds → ds.length = cs.length
section
variable {X : Cx} {W : WX} {e : Expr} {es : List Expr} {ma : MG} {n k j : Nat} {f : List Cell → FM} {x : Str} {p pos : Pos}
theorem de_clM (C : CalM X.prog X.w X.K X.mg X.base k x n f) (hr : Room j X.A) (hk : k ≤ j) (hg : Gl X x) (tw : Takes X W) (h : DL X W (e :: es) ma) (hdb : (x == ("__debug__" : Str)) = false := by decide)
    (he : starEach (e :: es) X.env = (false, eval e X.env) :: starEach es X.env := by rfl) (hpl : (backTo pos (starEach es X.env)).any (·.1) = false := by rfl) : DE X W (.Call (.Name x p) (e :: es) [] pos) (mCallM n f ma) := by
  obtain ⟨fa, fd, ps, F, hm, hkp, hb⟩ := C.ex
  exact de_callM h C.ls C.lo fun t ht => pe_callS F (hr.mono hk) hg hm hkp hb (fun σ => passAt tw σ) ht hdb he hpl
theorem do_clM (C : CalM X.prog X.w X.K X.mg X.base k x n f) (hr : Room j X.A) (hk : k ≤ j) (hg : Gl X x) (tw : Takes X W) (h : DL X W (e :: es) ma) (hdb : (x == ("__debug__" : Str)) = false := by decide)
    (he : starEach (e :: es) X.env = (false, eval e X.env) :: starEach es X.env := by rfl) (hpl : (backTo pos (starEach es X.env)).any (·.1) = false := by rfl) : DO X W (.Call (.Name x p) (e :: es) [] pos) (mCallMO n f ma) := by
  obtain ⟨fa, fd, ps, F, hm, hkp, hb⟩ := C.ex
  exact do_callM h C.lo fun t ht => pe_callS F (hr.mono hk) hg hm hkp hb (fun σ => passAt tw σ) ht hdb he hpl
end
end No
end

section
set_option Elab.async false
set_option linter.all false
set_option maxRecDepth 100000
set_option maxHeartbeats 1000000
namespace No
open PySem PySem.Spec PyProof.Rows L2

/-! ### the operators by name -/
def cYes : Int → Int → Bool := fun _ _ => true
def cMul : Int → Int → Bool := fun i j => smB i || smB j
def cDiv : Int → Int → Bool := fun _ j => Nat.ble 1 j.toNat && Nat.ble j.toNat 1073741823
def cMod : Int → Int → Bool := fun _ j => Nat.ble 1 j.toNat
def cPow : Int → Int → Bool := fun i j => smB i && (Nat.ble j.toNat 1000000 && Nat.ble j.natAbs j.toNat)
def cShr : Int → Int → Bool := fun _ j => Nat.ble j.natAbs j.toNat
theorem cMul_ok {i j : Int} (h : cMul i j = true) : CMul i j := by
  unfold cMul at h
  rw [Bool.or_eq_true] at h
  exact h.imp smB_ok smB_ok
theorem cDiv_ok {i j : Int} (h : cDiv i j = true) : CDiv i j := by
  unfold cDiv at h
  rw [Bool.and_eq_true] at h
  have h1 := Nat.le_of_ble_eq_true h.1
  have h2 := Nat.le_of_ble_eq_true h.2
  exact ⟨by omega, by omega⟩
theorem cMod_ok {i j : Int} (h : cMod i j = true) : 0 < j := by
  have h1 := Nat.le_of_ble_eq_true h
  omega
theorem cPow_ok {i j : Int} (h : cPow i j = true) : CPow i j := by
  unfold cPow at h
  rw [Bool.and_eq_true, Bool.and_eq_true] at h
  have h1 := smB_ok h.1
  have h2 := Nat.le_of_ble_eq_true h.2.1
  have h3 := Nat.le_of_ble_eq_true h.2.2
  exact ⟨by omega, by omega, by omega⟩
theorem cShr_ok {i j : Int} (h : cShr i j = true) : 0 ≤ j := by
  have h1 := Nat.le_of_ble_eq_true h
  omega
theorem mul_l {i j : Int} (h : i.natAbs < 2 ^ 64) : cMul i j = true := by
  unfold cMul
  rw [smB_of h]
  rfl
theorem mul_r {i j : Int} (h : j.natAbs < 2 ^ 64) : cMul i j = true := by
  unfold cMul
  rw [smB_of h, Bool.or_true]
theorem div_of {i j : Int} (h : 0 < j) (h2 : j < 1073741824) : cDiv i j = true := by
  unfold cDiv
  rw [Bool.and_eq_true]
  exact ⟨Nat.ble_eq_true_of_le (by omega), Nat.ble_eq_true_of_le (by omega)⟩
theorem mod_of {i j : Int} (h : 0 < j) : cMod i j = true := Nat.ble_eq_true_of_le (by omega)
theorem shr_of {i j : Int} (h : 0 ≤ j) : cShr i j = true := Nat.ble_eq_true_of_le (by omega)
def gAdd := gI cYes fun i j => i + j
def gSub := gI cYes fun i j => i - j
def gMul := gI cMul fun i j => i * j
def gDiv := gI cDiv fun i j => i / j
def gMod := gI cMod fun i j => i % j
def gPow := gI cPow fun i j => i ^ j.toNat
def gShr := gI cShr fun i j => i / 2 ^ j.toNat
def gLt := gB fun i j => decide (i < j)
def gLe := gB fun i j => decide (i ≤ j)
def gGt := gB fun i j => decide (j < i)
def gGe := gB fun i j => decide (j ≤ i)
section
variable (i j : Int)
@[simp] theorem gAdd_i : gAdd (.int i) (.int j) = some (.int (i + j)) := rfl
@[simp] theorem gSub_i : gSub (.int i) (.int j) = some (.int (i - j)) := rfl
@[simp] theorem gMul_i : gMul (.int i) (.int j) = if cMul i j = true then some (.int (i * j)) else none := rfl
@[simp] theorem gDiv_i : gDiv (.int i) (.int j) = if cDiv i j = true then some (.int (i / j)) else none := rfl
@[simp] theorem gMod_i : gMod (.int i) (.int j) = if cMod i j = true then some (.int (i % j)) else none := rfl
@[simp] theorem gPow_i : gPow (.int i) (.int j) = if cPow i j = true then some (.int (i ^ j.toNat)) else none := rfl
@[simp] theorem gShr_i : gShr (.int i) (.int j) = if cShr i j = true then some (.int (i / 2 ^ j.toNat)) else none := rfl
@[simp] theorem gLt_i : gLt (.int i) (.int j) = some (.bl (decide (i < j))) := rfl
@[simp] theorem gLe_i : gLe (.int i) (.int j) = some (.bl (decide (i ≤ j))) := rfl
@[simp] theorem gGt_i : gGt (.int i) (.int j) = some (.bl (decide (j < i))) := rfl
@[simp] theorem gGe_i : gGe (.int i) (.int j) = some (.bl (decide (j ≤ i))) := rfl
end
section
variable {K : PySem.W.Frag}
theorem od_add : OpD K (rI0 fun i j => .int (i + j)) gAdd := opd_I0
theorem od_sub : OpD K (rI0 fun i j => .int (i - j)) gSub := opd_I0
theorem od_mul : OpD K (rI CMul fun i j => .int (i * j)) gMul := opd_I fun _ _ h => cMul_ok h
theorem od_div : OpD K (rI CDiv fun i j => .int (i / j)) gDiv := opd_I fun _ _ h => cDiv_ok h
theorem od_mod : OpD K (rI (fun _ j => 0 < j) fun i j => .int (i % j)) gMod := opd_I fun _ _ h => cMod_ok h
theorem od_pow : OpD K (rI CPow fun i j => .int (i ^ j.toNat)) gPow := opd_I fun _ _ h => cPow_ok h
theorem od_shr : OpD K (rI (fun _ j => 0 ≤ j) fun i j => .int (i / 2 ^ j.toNat)) gShr := opd_I fun _ _ h => cShr_ok h
theorem od_lt : OpD K (rI0 fun i j => .bl (decide (i < j))) gLt := opd_B
theorem od_le : OpD K (rI0 fun i j => .bl (decide (i ≤ j))) gLe := opd_B
theorem od_gt : OpD K (rI0 fun i j => .bl (decide (j < i))) gGt := opd_B
theorem od_ge : OpD K (rI0 fun i j => .bl (decide (j ≤ i))) gGe := opd_B
end
@[simp] def mAndV (ma mb : ME) : ME := fun env => (mB ma env).bind fun x e1 => if x = true then mb e1 else .ok (.bl false) e1
@[simp] def mOrV (ma mb : ME) : ME := fun env => (mB ma env).bind fun x e1 => if x = true then .ok (.bl true) e1 else mb e1
@[simp] def mNotV (ma : ME) : ME := fun env => (mB ma env).bind fun x e1 => .ok (.bl (!x)) e1
@[simp] def sFrz (i : Nat) (m : MS) : MS := fun env => m (frz i env)
@[simp] def sAppend (i : Nat) (m : ME) : MS := fun env => match env[i]? with
  | some (.ow _ (.fl _)) => sApp i m env
  | _ => .bad
@[simp] def sBk : MS := fun env => .bk env
@[simp] def sCt : MS := fun env => .ct env
/-! the mirrors of except suites -/
def hFld (nm n : Str) : Exc → Option D := fun ex => if ex.cls = nm then ex.fs.lookup n else none
def hIs (tab : List (Str × Bool)) : Exc → Option D := fun ex => (tab.lookup ex.cls).map D.bl
def hNot (m : Exc → Option D) : Exc → Option D := fun x => match m x with
  | some (.bl b) => some (.bl (!b))
  | _ => none
def hAnd (m m1 : Exc → Option D) : Exc → Option D := fun x => match m x with
  | some (.bl true) => m1 x
  | some (.bl false) => some (.bl false)
  | _ => none
def hTup2 (m1 m2 : Exc → Option D) : Exc → Option D := fun x => (m1 x).bind fun d1 => (m2 x).map fun d2 => .tup [d1, d2]
def hIf (b1 : Exc → Option Bool) (m1 m2 : Exc → Option D) : Exc → Option D := fun x => (b1 x).bind fun c => if c = true then m1 x else m2 x
def hT (m : Exc → Option D) : Exc → Option Bool := fun x => match m x with
  | some (.bl b) => some b
  | _ => none
def hNotT (b1 : Exc → Option Bool) : Exc → Option Bool := fun x => (b1 x).map (!·)
def hAndT (b1 b2 : Exc → Option Bool) : Exc → Option Bool := fun x => (b1 x).bind fun c => if c = true then b2 x else some false
def hRet (m : Exc → Option D) : Exc → Option (Option D) := fun x => (m x).map some
def hIfS (b1 : Exc → Option Bool) (n1 n2 : Exc → Option (Option D)) : Exc → Option (Option D) := fun x => (b1 x).bind fun b => if b = true then n1 x else n2 x
def hNil : Exc → Option (Option D) := fun _ => some none
def hSeq (n n1 : Exc → Option (Option D)) : Exc → Option (Option D) := fun x => (n x).bind fun r => match r with
  | some d => some (some d)
  | none => n1 x
/-- what the text tells of an own exception class with its own __init__(self, part) -/
structure XP (P : Program) (w : World) (K : PySem.W.Frag) (mg : Str → Option Value) (base : Heap) (nm : Str) (C fI : Addr) (fd : FuncData) : Prop where
  gC : mg nm = some (.ref C)
  ox : OexC K C
  iC : PySem.W.findIn K (.ref C) "__init__" = some (some (.ref fI))
  tI : PySem.W.typeIn K (.ref fI) = some (.type "function")
  fn : FnOk P w K mg base (L2.CX P w) 1 fI fd ["self", "part"] (spI K C "part")
  bd : Binds K fd ["self", "part"] []
  xf : XfC K C
  nf : PySem.W.findIn K (.ref C) "part" = some none
/-- .. never raised here -/
structure XR (mg : Str → Option Value) (nm : Str) (C : Addr) : Prop where
  gC : mg nm = some (.ref C)
/-- .. without one -/
structure XT (K : PySem.W.Frag) (mg : Str → Option Value) (nm : Str) (C : Addr) : Prop where
  gC : mg nm = some (.ref C)
  ec : PySem.W.excIn K C [.type "ValueError", .type "Exception", .type "BaseException", .type "object"] "ValueError.__new__" = true
  kC : PySem.W.keepIn K (.ref C) = true
  exC : PySem.W.subIn K (.ref C) (.type "BaseException") = some true
  tyC : PySem.W.typeIn K (.ref C) = some (.type "type")

/-- a def with keyword-only parameters -/
structure CalK (P : Program) (w : World) (K : PySem.W.Frag) (mg : Str → Option Value) (base : Heap) (k : Nat) (x : Str) (n : Nat) (ks : List Str) (f : List D → FR) : Prop where
  ex : ∃ (fa : Addr) (fd : FuncData) (ps : List Str), FnOk P w K mg base (L2.CX P w) k fa fd ps (spF K mg (n + ks.length) f) ∧ mg x = some (.ref fa) ∧ PySem.W.keepIn K (.ref fa) = true ∧
    ∀ (s : Shared) (us ws : List Value), us.length = n → ws.length = ks.length → BindsTo s fd ⟨us, ks.zip ws⟩ (ps.zip (us ++ ws))
section
variable {X : Cx} {W : WX} {e : Expr} {es : List Expr} {kws : List Keyword} {ma mk : MA} {n k j : Nat} {ks : List Str} {f : List D → FR} {x : Str} {p pos : Pos}
theorem de_clK {nk : Nat} (C : CalK X.prog X.w X.K X.mg X.base k x n ks f) (hr : Room j X.A) (hk : k ≤ j) (hg : Gl X x) (tw : Takes X W) (h : DA X W (e :: es) ma) (h2 : DK X W kws mk) (hl : ks.length = nk := by rfl)
    (hall : (backToKw pos (keywordEach kws X.env)).all (·.1.isSome) = true := by rfl) (hks : (backToKw pos (keywordEach kws X.env)).filterMap (·.1) = ks := by rfl)
    (hdb : (x == ("__debug__" : Str)) = false := by decide) (he : starEach (e :: es) X.env = (false, eval e X.env) :: starEach es X.env := by rfl)
    (hpl : ((backTo pos (starEach (e :: es) X.env)).any (·.1) || (backToKw pos (keywordEach kws X.env)).any (·.1.isNone)) = false := by rfl) : DE X W (.Call (.Name x p) (e :: es) kws pos) (mCallK n nk f ma mk) := by
  subst hl
  obtain ⟨fa, fd, ps, F, hm, hkp, hb⟩ := C.ex
  exact de_callK h h2 fun t u ht hu => pe_callKS F (hr.mono hk) hg hm hkp hb tw ht hu hall hks hdb he hpl
theorem ds_frz' {st : Stmt} {m : MS} (i : Nat) (h : DS X W st m) : DS X W st (sFrz i m) := ds_frz i h
end
section
variable {X : Cx} {s : Shared} {H : Hp} {scope : Scope} {cenv : Env} {fp : List Addr}
theorem DE.blk {e : Expr} {m : ME} (h : DE (X.blk s H scope cenv fp) wF e m) : PE (X.blk s H scope cenv fp) e (cE X wF m) := h.canon
theorem DG.blk {tg : Expr} {ix : List Nat} {g : D → En → Option En} (h : DG (X.blk s H scope cenv fp) tg ix g) : PG (X.blk s H scope cenv fp) tg (cG X ix g) := h.canon
theorem DTs.blk {ifs : List Expr} {m : MT} (h : DTs (X.blk s H scope cenv fp) ifs m) : PTs (X.blk s H scope cenv fp) ifs (cT X wF m) := h.run
theorem DI.blk {tg iter : Expr} {m : MA} (h : DI (X.blk s H scope cenv fp) wF tg iter m) : PI (X.blk s H scope cenv fp) tg iter (cI X m) := h.canon
end

/-! ### the rules with the whole expression in their end -/
section
variable {X : Cx} {W : WX} {tg iter elt a b e : Expr} {es ifs : List Expr} {ix ix1 : List Nat} {g g1 : D → En → Option En} {mi mi1 : MA} {mt mt1 : MT} {el m : ME} {x id T : Str} {p pos : Pos} {k : List D → Option D}
theorem de_bi {id : String} {r : List V → Hp → VK → Prop} {ma : MA} (hc : CallR X (.builtin id) r) (hk : CallD X.K r k) (hg : Gl X x) (hm : X.mg x = none) (hv : bootBuiltins x = some (.builtin id)) (h : DA X W (a :: es) ma) (hn : x ≠ "__name__" := by decide) (hdb : (x == ("__debug__" : Str)) = false := by decide)
    (he : starEach (a :: es) X.env = (false, eval a X.env) :: starEach es X.env := by rfl) (hpl : (backTo pos (starEach es X.env)).any (·.1) = false := by rfl) : DE X W (.Call (.Name x p) (a :: es) [] pos) (mCB k ma) :=
  de_cb (fun t ht => pe_callB hc hg hm hv ht hn hdb he hpl) hk h
theorem de_ty {T : String} {r : List V → Hp → VK → Prop} {ma : MA} (hc : CallR X (.type T) r) (hk : CallD X.K r k) (hg : Gl X x) (hm : X.mg x = none) (hv : bootBuiltins x = some (.type T)) (h : DA X W (a :: es) ma) (hn : x ≠ "__name__" := by decide) (hdb : (x == ("__debug__" : Str)) = false := by decide)
    (he : starEach (a :: es) X.env = (false, eval a X.env) :: starEach es X.env := by rfl) (hpl : (backTo pos (starEach es X.env)).any (·.1) = false := by rfl) : DE X W (.Call (.Name x p) (a :: es) [] pos) (mCB k ma) :=
  de_cb (fun t ht => pe_callTy hc hg hm hv ht hn hdb he hpl) hk h
theorem do_ty {T : String} {r : List V → Hp → VK → Prop} {ma : MA} {k : List D → Option (List D)} (hc : CallR X (.type T) r) (hk : CallL X.K r k) (hg : Gl X x) (hm : X.mg x = none) (hv : bootBuiltins x = some (.type T)) (h : DA X W (a :: es) ma) (hn : x ≠ "__name__" := by decide) (hdb : (x == ("__debug__" : Str)) = false := by decide)
    (he : starEach (a :: es) X.env = (false, eval a X.env) :: starEach es X.env := by rfl) (hpl : (backTo pos (starEach es X.env)).any (·.1) = false := by rfl) : DO X W (.Call (.Name x p) (a :: es) [] pos) (mFl (mCB k ma)) :=
  do_cb (fun t ht => pe_callTy hc hg hm hv ht hn hdb he hpl) hk h
/-- isinstance(a, T) of data -/
theorem de_is {T : String} {c : Str} {p2 : Pos} {bf : String → Bool} (hk : ∀ d : D, kitB (tyN d) T = some (bf (tyN d))) (hg : Gl X "isinstance") (hm : X.mg "isinstance" = none) (hg2 : Gl X c) (hm2 : X.mg c = none) (hv2 : bootBuiltins c = some (.type T)) (h : DE X W a m)
    (hn : c ≠ "__name__" := by decide) (hdb : (c == ("__debug__" : Str)) = false := by decide)
    (he : starEach (a :: [.Name c p2]) X.env = (false, eval a X.env) :: starEach [.Name c p2] X.env := by rfl) (he2 : starEach [.Name c p2] X.env = (false, eval (.Name c p2) X.env) :: starEach [] X.env := by rfl) (hpl : (backTo pos (starEach [.Name c p2] X.env)).any (·.1) = false := by rfl) :
    DE X W (.Call (.Name "isinstance" p) [a, .Name c p2] [] pos) (mIsi bf m) :=
  de_isi hk h fun t ht => pe_callB call_isi hg hm PyProof.Rows.Boot.«isinstance» (pa_cons ht (pa_cons (pe_bltn hg2 hm2 hv2 rfl hn hdb) pa_nil he2) he) (by decide) (by decide) he hpl
theorem di_r1 {ma : MA} (hg : Gl X "range") (hm : X.mg "range" = none) (h : DA X W [a] ma) (hs : starEach [a] X.env = [(false, eval a X.env)] := by rfl) : DI X W tg (.Call (.Name "range" p) [a] [] pos) (mRng1 ma) := di_rng1 h fun t ht => pi_range1 hg hm ht hs
theorem di_r2 {ma : MA} (hg : Gl X "range") (hm : X.mg "range" = none) (h : DA X W [a, b] ma) (hs : starEach [a, b] X.env = [(false, eval a X.env), (false, eval b X.env)] := by rfl) (hs2 : starEach [b] X.env = [(false, eval b X.env)] := by rfl) : DI X W tg (.Call (.Name "range" p) [a, b] [] pos) (mRng2 ma) := di_rng2 h fun t ht => pi_range2 hg hm ht hs hs2
/-- [elt for tg in iter if ..] -/
theorem do_lcx {scope : Scope} {own : List (Str × Nat)} (hc : X.calm = true) (nd : X.N.Nodup) (ok : BlkOk X.N X.env.scope scope own) (hi : DI X W tg iter mi)
    (hg : ∀ (s : Shared) (H : Hp) (C : Addr) (cl : List (Str × Addr)) (fp : List Addr), DG (X.blk s H scope (compEnvC scope cl C X.env) fp) tg ix g)
    (ht : ∀ (s : Shared) (H : Hp) (C : Addr) (cl : List (Str × Addr)) (fp : List Addr), DTs (X.blk s H scope (compEnvC scope cl C X.env) fp) ifs mt)
    (he : ∀ (s : Shared) (H : Hp) (C : Addr) (cl : List (Str × Addr)) (fp : List Addr), DE (X.blk s H scope (compEnvC scope cl C X.env) fp) wF elt el) (hix : ∀ i ∈ ix, i ∈ own.map (·.2)) (hs : ∀ x, foldedSetIterable iter X.env x = pure x := by intro _; rfl) :
    DO X W (.ListComp elt [⟨tg, iter, ifs, 0⟩] scope pos) (mFl (mLc g mi mt el (own.map (·.2)))) :=
  do_lc hi hix fun wi pi => pe_lc hc nd pi ok (fun s H C cl fp => (hg s H C cl fp).blk) (fun s H C cl fp => (ht s H C cl fp).blk) (fun s H C cl fp => (he s H C cl fp).blk) hs
theorem ds_lcx {i : Nat} {y : Str} {py spos : Pos} {scope : Scope} {own : List (Str × Nat)} (hc : X.calm = true) (nd : X.N.Nodup) (hy : X.N[i]? = some y) (hyl : X.env.scope.names.lookup y = some .local) (hk : X.env.scope.kind = .function) (hl : (py.line == pos.line) = true)
    (hsn : (scope.names.any fun (n, k) => n == y && (k == .local || k == .cell)) = false) (ok : BlkOk X.N X.env.scope scope own) (hi : DI X W tg iter mi)
    (hg : ∀ (s : Shared) (H : Hp) (C : Addr) (cl : List (Str × Addr)) (fp : List Addr), DG (X.blk s H scope (compEnvC scope cl C X.env) fp) tg ix g)
    (ht : ∀ (s : Shared) (H : Hp) (C : Addr) (cl : List (Str × Addr)) (fp : List Addr), DTs (X.blk s H scope (compEnvC scope cl C X.env) fp) ifs mt)
    (he : ∀ (s : Shared) (H : Hp) (C : Addr) (cl : List (Str × Addr)) (fp : List Addr), DE (X.blk s H scope (compEnvC scope cl C X.env) fp) wF elt el) (hix : ∀ i ∈ ix, i ∈ own.map (·.2)) (hs : ∀ x, foldedSetIterable iter X.env x = pure x := by intro _; rfl) :
    DS X W (.Assign [.Name y py] (.ListComp elt [⟨tg, iter, ifs, 0⟩] scope pos) spos) (sSetO i (mFl (mLc g mi mt el (own.map (·.2))))) :=
  ds_setLc hi hix fun wi pi => ps_setLc hc nd hy hyl (sw_true hk hyl hl hsn) pi ok (fun s H C cl fp => (hg s H C cl fp).blk) (fun s H C cl fp => (ht s H C cl fp).blk) (fun s H C cl fp => (he s H C cl fp).blk) hs
theorem do_lc2x {tg1 iter1 : Expr} {ifs1 : List Expr} {scope : Scope} {own : List (Str × Nat)} {vs1 : List Nat} (hc : X.calm = true) (nd : X.N.Nodup) (ok : BlkOk X.N X.env.scope scope own) (hv : ∀ i ∈ vs1, i ∈ own.map (·.2)) (hi : DI X W tg iter mi)
    (hg : ∀ (s : Shared) (H : Hp) (C : Addr) (cl : List (Str × Addr)) (fp : List Addr), DG (X.blk s H scope (compEnvC scope cl C X.env) fp) tg ix g)
    (ht : ∀ (s : Shared) (H : Hp) (C : Addr) (cl : List (Str × Addr)) (fp : List Addr), DTs (X.blk s H scope (compEnvC scope cl C X.env) fp) ifs mt)
    (hi1 : ∀ (s : Shared) (H : Hp) (C : Addr) (cl : List (Str × Addr)) (fp : List Addr), DI (X.blk s H scope (compEnvC scope cl C X.env) fp) wF tg1 iter1 mi1)
    (hg1 : ∀ (s : Shared) (H : Hp) (C : Addr) (cl : List (Str × Addr)) (fp : List Addr), DG (X.blk s H scope (compEnvC scope cl C X.env) fp) tg1 ix1 g1)
    (ht1 : ∀ (s : Shared) (H : Hp) (C : Addr) (cl : List (Str × Addr)) (fp : List Addr), DTs (X.blk s H scope (compEnvC scope cl C X.env) fp) ifs1 mt1)
    (he : ∀ (s : Shared) (H : Hp) (C : Addr) (cl : List (Str × Addr)) (fp : List Addr), DE (X.blk s H scope (compEnvC scope cl C X.env) fp) wF elt el) (hix : ∀ i ∈ ix, i ∈ own.map (·.2)) (hix1 : ∀ i ∈ ix1, i ∈ vs1)
    (hs : ∀ x, foldedSetIterable iter X.env x = pure x := by intro _; rfl) (hs1 : ∀ env x, foldedSetIterable iter1 env x = pure x := by intro _ _; rfl) :
    DO X W (.ListComp elt [⟨tg, iter, ifs, 0⟩, ⟨tg1, iter1, ifs1, 0⟩] scope pos) (mFl (mLc2 g mi mt (own.map (·.2)) mi1 g1 mt1 el vs1)) :=
  do_lc2 hi hix hix1 hv fun wi pi => pe_lc2 hc nd pi ok hv (fun s H C cl fp => (hg s H C cl fp).blk) (fun s H C cl fp => (ht s H C cl fp).blk) (fun s H C cl fp => (hi1 s H C cl fp).blk) (fun s H C cl fp => (hg1 s H C cl fp).blk) (fun s H C cl fp => (ht1 s H C cl fp).blk) (fun s H C cl fp => (he s H C cl fp).blk) hs hs1
theorem di_en {elts : List Expr} {kk : Nat} {tpos : Pos} {ma : MA} (hg : Gl X "enumerate") (hm : X.mg "enumerate" = none) (h : DA X W [a] ma) (hs : starEach [a] X.env = [(false, eval a X.env)] := by rfl) : DI X W (.Tuple elts kk tpos) (.Call (.Name "enumerate" p) [a] [] pos) (mEnum ma) := di_enum h fun t ht => pi_enum hg hm ht hs
/-- xs.append(a) -/
theorem ds_append {i : Nat} {o : Expr} {apos cpos : Pos} (ho : PE X o (tVar i)) (h : DE X W a m) (hbase : attributeBase o "append" X.env (eval o X.env) = eval o X.env := by rfl)
    (hfew : ((backTo cpos (starEach (a :: []) X.env)).all (fun x => !x.1) && (backToKw cpos (keywordEach [] X.env)).all (fun x => x.1.isSome) && decide ((a :: ([] : List Expr)).length + ([] : List Keyword).length + (if ([] : List Keyword).isEmpty then 0 else 1) < 30)) = true := by rfl)
    (hline : (apos.endLine == cpos.line) = true := by rfl) (hs : starEach (a :: []) X.env = (false, eval a X.env) :: starEach [] X.env := by rfl) (hpl : (backTo cpos (starEach [] X.env)).any (·.1) = false := by rfl)
    (hsw : swapsWith (.Call (.Attribute o "append" apos) [a] [] cpos) none pos.line X.env = pure false := by rfl) : DS X W (.Expr (.Call (.Attribute o "append" apos) [a] [] cpos) pos) (sAppend i m) :=
  ds_app (o := o) h fun t ht => ps_expr (pe_bm PySem.F.plainAttrs_list PySem.F.slot_list_append PySem.F.type_list_append mt_append ho (pa_cons ht pa_nil hs) hbase hfew hline hs hpl) hsw
/-- xs[b] = a -/
theorem ds_putx {i : Nat} {o : Expr} {p2 : Pos} {mi : ME} (ho : PE X o (tVar i)) (h : DE X W a m) (hi : DE X W b mi) (hp : ∀ t u, PE X a t → PE X b u → PS X (.Assign [.Subscript o b p2] a pos) (tAsg t (L2.gSub (tVar i) u rSetL))) :
    DS X W (.Assign [.Subscript o b p2] a pos) (sPut i m mi) := ds_put h hi hp
end
end No
end

section
set_option Elab.async false
set_option linter.all false
set_option maxRecDepth 100000
set_option maxHeartbeats 1000000
namespace No
open PySem PySem.Spec PyProof.Rows L2

/-! ### == of data -/
/-- plain data of a depth -/
def okN (n : Nat) (d : D) : Prop := d.py.canLay0 = true ∧ d.py.depth ≤ n ∧ d.plain = true
theorem okN.eq {n : Nat} {d : D} (h : okN n d) (hn : n ≤ 64 := by decide) : okEq d = true := by
  unfold okEq SeqAt.shaped
  rw [h.1, h.2.2, decide_eq_true (Nat.le_trans h.2.1 hn)]
  rfl
theorem okN.mono {n m : Nat} {d : D} (h : okN n d) (k : n ≤ m := by decide) : okN m d := ⟨h.1, Nat.le_trans h.2.1 k, h.2.2⟩
theorem okN_int (i : Int) : okN 0 (.int i) := ⟨by simp [D.py, PyData.canLay0], by simp [D.py, PyData.depth], by simp [D.plain]⟩
theorem okN_bl (b : Bool) : okN 0 (.bl b) := ⟨by simp [D.py, PyData.canLay0], by simp [D.py, PyData.depth], by simp [D.plain]⟩
theorem okN_non : okN 0 .non := ⟨by simp [D.py, PyData.canLay0], by simp [D.py, PyData.depth], by simp [D.plain]⟩
theorem okN_all {n : Nat} : ∀ {l : List D}, (∀ d ∈ l, okN n d) → PyData.canLayAll0 (pyAll l) = true ∧ PyData.depthAll (pyAll l) ≤ n ∧ plainAll l = true
  | [], _ => ⟨by simp [pyAll, PyData.canLayAll0], by simp [pyAll, PyData.depthAll], by simp [plainAll]⟩
  | d :: l, h => by
    have ih := okN_all fun x hx => h x (List.mem_cons_of_mem _ hx)
    have h0 := h d List.mem_cons_self
    refine ⟨by simp [pyAll, PyData.canLayAll0, h0.1, ih.1], ?_, by simp [plainAll, h0.2.2, ih.2.2]⟩
    simp only [pyAll, PyData.depthAll]
    exact Nat.max_le.mpr ⟨h0.2.1, ih.2.1⟩
theorem okN_lst {n : Nat} {l : List D} (h : ∀ d ∈ l, okN n d) : okN (n + 1) (.lst l) := by
  have := okN_all h
  exact ⟨by simp [D.py, PyData.canLay0, this.1], by simp only [D.py, PyData.depth]; exact Nat.succ_le_succ this.2.1, by simp [D.plain, this.2.2]⟩
theorem okN_tup {n : Nat} {l : List D} (h : ∀ d ∈ l, okN n d) : okN (n + 1) (.tup l) := by
  have := okN_all h
  exact ⟨by simp [D.py, PyData.canLay0, this.1], by simp only [D.py, PyData.depth]; exact Nat.succ_le_succ this.2.1, by simp [D.plain, this.2.2]⟩
@[simp] theorem eqvD_nil (xs : List D) : eqvD (.lst xs) (.lst []) = xs.isEmpty := by
  cases xs with
  | nil => simp [eqvD, D.py, pyAll, PyData.eqv, PyData.eqvAll]
  | cons x xs => simp [eqvD, D.py, pyAll, PyData.eqv, PyData.eqvAll]
@[simp] theorem eqvD_int (i j : Int) : eqvD (.int i) (.int j) = (i == j) := by simp [eqvD, D.py, PyData.eqv]
end No
end

section
set_option Elab.async false
set_option linter.all false
set_option maxRecDepth 100000
set_option maxHeartbeats 4000000
/-! No14: sorted(d), d a dict whose keys are pairs of ints: rules of the hand layer's kind -/
namespace No
open PySem PySem.Spec PyProof.Rows L2

/-- an int key -/
def keyI : Key → Int
  | .inl i => i
  | .inr _ => 0
def pairK (k : List Key) : Int × Int := (keyI (k.getD 0 (.inl 0)), keyI (k.getD 1 (.inl 0)))
/-- what a sorted list of the keys of a dict is -/
def rSortedDT : List V → Hp → VK → Prop := fun vs H Q => ∃ (a : Addr) (kvs : List (List Key × V)), vs = [V.ref a] ∧ Rd H a (.dT kvs) ∧ (∀ kv ∈ kvs, ∃ i j : Int, kv.1 = [.inl i, .inl j]) ∧
  ∀ (ks : List (List Key)) (bs : List Addr) (p : Addr), ks.Perm (kvs.map (·.1)) → (ks.map pairK).Pairwise (fun x y => SrtO.lexB y x = false) → Paired (fun k b => H b = some (.tup (k.map kV))) ks bs → H p = none → Q (.ref p) (upd H p (.lst (bs.map V.ref)))

theorem isKeys_perm {H : Hp} : ∀ {ks : List (List Key × V)} {bs : List Addr}, IsKeys H ks bs → Paired (fun (k : List Key) b => H b = some (.tup (k.map kV))) (ks.map (·.1)) bs
  | _, _, .nil => .nil
  | _, _, .cons h t => .cons h (isKeys_perm t)
/-- a rearrangement of the second list comes with one of the first -/
theorem paired_perm {α β : Type} {F : α → β → Prop} {b b' : List β} (h : b'.Perm b) : ∀ {a : List α}, Paired F a b → ∃ a', a'.Perm a ∧ Paired F a' b' := by
  induction h with
  | nil => exact fun {a} p => ⟨a, List.Perm.refl _, p⟩
  | cons x _ ih =>
    intro a p
    cases p with
    | cons h t =>
      obtain ⟨a', p1, p2⟩ := ih t
      exact ⟨_ :: a', p1.cons _, .cons h p2⟩
  | swap x y l =>
    intro a p
    cases p with
    | cons h t =>
      cases t with
      | cons h' t' => exact ⟨_, List.Perm.swap _ _ _, .cons h' (.cons h t')⟩
  | trans _ _ ih1 ih2 =>
    intro a p
    obtain ⟨a2, p1, p2⟩ := ih2 p
    obtain ⟨a1, q1, q2⟩ := ih1 p2
    exact ⟨a1, q1.trans p1, q2⟩
theorem paired_map2 {α β γ : Type} {F : α → γ → Prop} (f : β → γ) : ∀ {a : List α} {b : List β}, Paired F a (b.map f) → Paired (fun x y => F x (f y)) a b
  | [], [], _ => .nil
  | _ :: _, _ :: _, .cons h t => .cons h (paired_map2 f t)
theorem paired_mapR {α β γ : Type} {F : α → γ → Prop} (f : β → γ) : ∀ {a : List α} {b : List β}, Paired (fun x y => F x (f y)) a b → Paired F a (b.map f)
  | _, _, .nil => .nil
  | _, _, .cons h t => .cons h (paired_mapR f t)

section
variable {X : Cx}
theorem cr_sortedDT (hc : X.calm = true) : CallR X (.builtin "sorted") rSortedDT := by
  intro pins s σ H xs us Q I r h
  obtain ⟨a, kvs, rfl, hd, hk, q⟩ := h
  obtain ⟨u, rfl, rx⟩ := r.one
  cases rx
  obtain ⟨z, hs, ks, pr, o, es, ep, ho, hx, hdt, he, hn⟩ := (show ObjOk X.prog X.w H s.heap a (.dT kvs) from hd.ok I.hok)
  have l1 : es.size = ks.length := size_of_entries he
  have l2 : kvs.length = ks.length := Paired.length pr
  refine Calls.call_function_entry kind_sorted plain_sorted entry_sorted (args_sorted1 _) ?_
  unfold Builtin.«sorted»
  refine wpAny_bind (m := checkCount "sorted" 1 1 _) (wpAny_pure ?_)
  refine wpAny_bind (PySem.W.kdu_collect (A := X.A.in1) (kdl_raw hs hx hdt) (I.ok.hd hc) ho (by omega) fun h' tk acc kp it => ?_)
  have ea : acc.toList = (ks.map fun x => x.2.1).map Value.ref := by
    have hl : acc.toList.length = ((ks.map fun x => x.2.1).map Value.ref).length := by
      rw [Array.length_toList, it.1, List.length_map, List.length_map]
      exact l1
    apply List.ext_getElem hl
    intro j h1 h2
    obtain ⟨en, hen, hv⟩ := it.2 j acc.toList[j] (by rw [← Array.getElem?_toList, List.getElem?_eq_getElem h1])
    have qe := entry_at he j
    rw [hen] at qe
    have hjk : j < ks.length := by simpa using h2
    rw [List.getElem?_eq_getElem hjk] at qe
    have e2 : en = entryOfKey (tupleKind (mixKind X.prog X.w)) ks[j] := Option.some.inj qe
    rw [hv, e2, List.getElem_map, List.getElem_map]
    rfl
  generalize hacc : acc.toList = vs at ea
  have hvl : vs.length = ks.length := by rw [ea, List.length_map, List.length_map]
  have hz : vs.length ≤ sizeLine := by omega
  have I1 : Inv X pins σ H { s with heap := h', toks := tk } := I.kept kp
  refine wpAny_bind (wpAny_newList ?_ hz)
  have hoL : (h'.push (seqObj "list" vs.toArray 0)).get? h'.objs.size = some (seqObj "list" vs.toArray 0) := Heap.get?_push_size _ rfl
  show wpAny _ _ _ _ _ { s with heap := h'.push (seqObj "list" vs.toArray 0), toks := tk }
  -- the keys, by their place in the list
  have hpr : Paired (fun (k : List Key) b => H b = some (.tup (k.map kV))) (kvs.map (·.1)) (ks.map fun x => x.2.1) := isKeys_perm (isKeys_of pr)
  -- a key's two ints, by its address
  have at2 : ∀ b ∈ ks.map (fun x => x.2.1), ∃ i j : Int, H b = some (.tup [.int i, .int j]) := by
    intro b hb
    obtain ⟨n, hn', e⟩ := List.getElem_of_mem hb
    have hn2 : n < (kvs.map (·.1)).length := by rw [List.length_map, l2]; simpa using hn'
    obtain ⟨b', e1, e2⟩ := paired_get hpr (List.getElem?_eq_getElem hn2)
    rw [List.getElem?_eq_getElem hn', e] at e1
    cases e1
    have hm : kvs[n]'(by simpa using hn2) ∈ kvs := List.getElem_mem _
    obtain ⟨i, j, ek⟩ := hk _ hm
    rw [List.getElem_map, ek] at e2
    exact ⟨i, j, e2⟩
  let kk : Value → Int × Int := fun v => match v with
    | .ref b => match H b with
      | some (.tup [.int i, .int j]) => (i, j)
      | _ => (0, 0)
    | _ => (0, 0)
  have hpair : ∀ v ∈ vs, Srt.IsPair (h'.push (seqObj "list" vs.toArray 0)) v (kk v).1 (kk v).2 := by
    intro v hv
    rw [ea] at hv
    obtain ⟨b, hb, rfl⟩ := List.mem_map.mp hv
    obtain ⟨i, j, hij⟩ := at2 b hb
    obtain ⟨_, its2, r2, ob, hob, hcl, n, hdd⟩ := I1.hok _ _ hij
    obtain ⟨u1, u2, rfl, ri, rj⟩ := r2.two
    obtain ⟨t1, rfl⟩ := ri
    obtain ⟨t2, rfl⟩ := rj
    have ekk : kk (.ref b) = (i, j) := by
      show (match H b with
        | some (.tup [.int i, .int j]) => (i, j)
        | _ => (0, 0)) = (i, j)
      rw [hij]
    rw [ekk]
    exact ⟨b, ob, t1, t2, n, rfl, Heap.get?_push_of_some _ hob, hcl, hdd⟩
  refine wpAny_bind (wpAny_holding (wpAny_call_entry slot_list_sort ⟨_, hoL, rfl⟩ entry_list_sort
    (SrtO.list_sort_ord (s := { s with heap := h'.push (seqObj "list" vs.toArray 0), toks := tk }) (SrtO.swo_lex kk) hoL hz (fun h2 => SrtO.pairs_sortableO (by omega) hpair fun o2 e2 => ?_) fun out hs2 hb2 => ⟨_, rfl, ?_⟩) (args_list_sort _)))
  · have e2 : some (seqObj "list" vs.toArray 0) = some o2 := hoL.symm.trans e2
    cases e2
    exact fun z => absurd (Value.type.inj z) (by decide)
  obtain ⟨e', he'⟩ := PyProof.Rows.sortedHeap_at (vs := vs) (out := out.toArray) hoL
  have hperm : out.Perm ((ks.map fun x => x.2.1).map Value.ref) := by
    rw [← ea]
    exact hb2.perm
  obtain ⟨bs, pb, eb⟩ := perm_lift Value.ref hperm (ks.map fun x => x.2.1) rfl
  subst eb
  obtain ⟨ks', pk, pp⟩ := paired_perm pb hpr
  have hsort : (ks'.map pairK).Pairwise (fun x y => SrtO.lexB y x = false) := by
    have e1 : ks'.map pairK = bs.map fun b => kk (.ref b) := by
      have : ∀ {k0 : List (List Key)} {b0 : List Addr}, (∀ k ∈ k0, ∃ i j : Int, k = [.inl i, .inl j]) → Paired (fun (k : List Key) b => H b = some (.tup (k.map kV))) k0 b0 → k0.map pairK = b0.map fun b => kk (.ref b) := by
        intro k0 b0 hk0 p
        induction p with
        | nil => rfl
        | @cons k b k1 b1 h t ih =>
          rw [List.map_cons, List.map_cons, ih fun x hx => hk0 x (List.mem_cons_of_mem _ hx)]
          obtain ⟨i, j, ek⟩ := hk0 k List.mem_cons_self
          congr 1
          show pairK k = (match H b with
            | some (.tup [.int i, .int j]) => (i, j)
            | _ => (0, 0))
          rw [h, ek]
          rfl
      refine this (fun k hk' => ?_) pp
      obtain ⟨kv, hkv, rfl⟩ := List.mem_map.mp (pk.mem_iff.mp hk')
      exact hk kv hkv
    rw [e1]
    have hs3 : (bs.map Value.ref).Pairwise fun x y => SrtO.lexB (kk y) (kk x) = false := hs2
    rw [List.pairwise_map] at hs3 ⊢
    exact hs3
  have hlen : (bs.map V.ref).length ≤ sizeLine := by
    rw [List.length_map, pb.length_eq, List.length_map]
    omega
  refine wpAny_pure ⟨_, rfl, .ref h'.objs.size, upd H h'.objs.size (.lst (bs.map V.ref)), I1.laid (t' := tk) (fun b u e => ?_) (Nat.le_refl _)
    (show ObjOk X.prog X.w _ _ _ (.lst (bs.map V.ref)) from ⟨hlen, bs.map Value.ref, e', vals_refs bs, he'⟩), rfl, q ks' bs _ pk hsort pp (I1.hok.fresh (Nat.le_refl _))⟩
  have hb : b < h'.objs.size := Heap.lt_size e
  rw [PyProof.Rows.sortedHeap_old (Nat.ne_of_lt hb) (by rw [size_push']; exact Nat.lt_succ_of_lt hb)]
  exact Heap.get?_push_of_some _ e
end
end No
end

section
set_option Elab.async false
set_option linter.all false
set_option maxRecDepth 100000
set_option maxHeartbeats 4000000
/-! No15: rules of the hand layer's kind: dicts with tuple keys displayed and comprehended, xs[i] op= e, len(set(xs)) -/
namespace No
open PySem PySem.Spec PyProof.Rows L2

/-- d[k] = v without the subscript's own steps, k a tuple -/
theorem dictSetT {X : Cx} {pins : List (Addr × Obj)} {σ : L2.St} {H : Hp} {s : Shared} {E : Value → Shared → Prop} {Dd b : Addr} {kvs : List (List Key × V)} {k : List Key} {v : V} {r : Value} {Q : Unit → Shared → Prop} (hu : X.A.units + 1 < cLine) (I : Inv X pins σ H s)
    (hD : H Dd = some (.dT kvs)) (hz : kvs.length < sizeLine) (hb : H b = some (.tup (k.map kV))) (rv : RelV v r) (h : ∀ s', Inv X pins σ (upd H Dd (.dT (putK kvs k v))) s' → Q () s') : wpAny (model X.prog X.w) X.A (dictSet Dd (.ref b) r) Q E s := by
  obtain ⟨z, hd, xs, rel, dd⟩ := dt_of I.hok hD
  have hzx : xs.length ≤ sizeLine := by rw [← Paired.length rel]; exact z
  have hlen : (putK kvs k v).length ≤ sizeLine := by have := length_putK kvs k v; omega
  refine wpAny_dictSet_heap (hsz := hzx) (knd := tupleKind (mixKind X.prog X.w)) (Nat.lt_of_succ_lt hu) (key_of I.hok hb) dd fun g' dd' hs => h _ ?_
  obtain ⟨q, es, ep, hq, a2, a3, a4, _, a5⟩ := dd'
  exact d_write I (by rw [hD]; exact True.intro) hs ⟨q, hq⟩ ⟨hlen, hd, _, (rel.put k hb rv).keeps fun c ys ec => by
    rw [upd_ne (ne_of ec hD (fun z => nomatch z))]
    exact ec, q, es, ep, hq, a2, a3, a4, a5⟩

section
variable {X : Cx}
/-! ### {k: v}, one pair, k a tuple -/
def tDisp1 (tk tv : TE) : TE := fun σ H Q => ∀ p, H p = none → tk σ (upd H p (.dT [])) fun x H1 => tv σ H1 fun y H2 => ∃ (b : Addr) (ks : List Key), x = .ref b ∧ H2 b = some (.tup (ks.map kV)) ∧ H2 p = some (.dT []) ∧ Q (.ref p) (upd H2 p (.dT [(ks, y)]))
theorem pe_disp1 {pos : Pos} {kx vx : Expr} {tk tv : TE} (hu : X.A.units + 1 < cLine) (hk : PE X kx tk) (hv : PE X vx tv) : PE X (.Dict [some kx] [vx] pos) (tDisp1 tk tv) := by
  refine ⟨fun pins s σ H Q I q => ?_⟩
  have hn := I.hok.fresh (Nat.le_refl s.heap.objs.size)
  have I1 := I.laid (t' := s.toks) (a := s.heap.objs.size) (o := .dT []) (h' := s.heap.push { cls := .type "dict", data := .dict #[] }) (fun _ _ q => Heap.get?_push_of_some _ q) (Nat.le_refl _) (dt_empty s.heap I.big)
  have sh := zip_pairTrees [some kx] [vx] X.env pos rfl rfl
  rw [arm_eval_Dict, sh, dictDisplay_pairs _ (by simp [pairTrees]) (by simp [pairTrees])]
  refine wpAny_bind (wpAny_standAt (wpAny_bind ?_))
  unfold subDict
  refine wpAny_bind (wpAny_alloc ?_)
  refine wpAny_bind (wpAny_holding ?_)
  rw [if_pos (show (pairTrees [some kx] [vx] X.env pos).length ≤ 15 by simp [pairTrees])]
  refine wpAny_bind (pairTrees_cons_walk (thn (hk.run pins _ σ _ _ I1 (q _ hn)) fun u s1 ⟨x, H1, J1, rx, q1⟩ => thn (hv.run pins s1 σ H1 _ J1 q1) fun u2 s2 ⟨y, H2, J2, ry, b, ks, ex, hb, hp, q2⟩ => pairTrees_nil_walk ?_))
  subst ex
  cases rx
  refine wpAny_holding ?_
  rw [List.forIn_cons]
  refine wpAny_bind (wpAny_bind (wpAny_bind (dictSetT hu J2 hp (by rw [List.length_nil, sizeLine_eq]; omega) hb ry fun s3 J3 => wpAny_pure ?_)))
  dsimp only
  rw [List.forIn_nil]
  refine wpAny_pure (wpAny_pure (wpAny_pure (wpAny_pure ?_)))
  refine ⟨.ref s.heap.objs.size, _, ?_, rfl, q2⟩
  have e : putK ([] : List (List Key × V)) ks y = [(ks, y)] := rfl
  rw [e] at J3
  exact J3

/-! ### xs[i] op= e, i not below 0 -/
def rGetP (K : PySem.W.Frag) : V → V → Hp → VK → Prop := fun o i H Q => ∃ p xs k v, o = .ref p ∧ i = .int k ∧ SqL K H p xs ∧ 0 ≤ k ∧ xs[k.toNat]? = some v ∧ Q v H
theorem pg_getP : PGet X (rGetP X.K) := by
  intro pins s σ H o i ov iv Q I ro ri h
  obtain ⟨p, xs, k, v, rfl, rfl, hq, h0, he, q⟩ := h
  cases ro
  obtain ⟨t, rfl⟩ := ri
  obtain ⟨its, r, pl, hz⟩ := I.list hq
  obtain ⟨w, ew, rw'⟩ := r.get he
  have hk : k.toNat < xs.length := (List.getElem?_eq_some_iff.mp he).1
  have hn := line63
  exact wpAny_getItem_list pl.isList h0 (by omega) (by simpa using ew) ⟨v, H, I, rw', q⟩

/-! ### len(set(xs)) -/
def metLen (ns : List Int) : Nat := (PyProof.Rows.firstMet (fun i => ns.getD i 0) ns.length).length
theorem firstMet_le (f : Nat → Int) : ∀ n, (PyProof.Rows.firstMet f n).length ≤ n
  | 0 => by simp [PyProof.Rows.firstMet]
  | n + 1 => by
    have ih := firstMet_le f n
    rw [PyProof.Rows.firstMet_succ]
    unfold PyProof.Rows.step_dedup
    split
    · omega
    · rw [List.length_append, List.length_singleton]
      omega
def tLenSet (K : PySem.W.Frag) (ta : TE) : TE := fun σ H Q => ta σ H fun x H1 => ∃ (l : Addr) (ns : List Int), x = .ref l ∧ SqL K H1 l (ns.map V.int) ∧ ns.length ≤ 4000 ∧ Q (.int (metLen ns : Nat)) H1
theorem pe_lenSet {a : Expr} {ta : TE} {p p2 q pos : Pos} (hg : Gl X "len") (hm : X.mg "len" = none) (hg2 : Gl X "set") (hm2 : X.mg "set" = none) (ha : PE X a ta) (hc : X.calm = true := by rfl)
    (na : starEach [a] X.env = (false, eval a X.env) :: starEach [] X.env := by rfl) : PE X (.Call (.Name "len" p) [.Call (.Name "set" p2) [a] [] q] [] pos) (tLenSet X.K ta) := by
  refine ⟨fun pins s σ H Q I h => ?_⟩
  refine Call_ (ld_blt I hg hm boot_len ?_)
  refine PyProof.Rows.callWith_builtin1 (PyProof.Rows.args_cons ?_ rfl) rfl rfl
  refine Call_ (ld_blt I hg2 hm2 boot_set ?_)
  refine PyProof.Rows.callWith_type1 (PyProof.Rows.args_cons (thn (ha.run pins s σ H _ I h) fun u s1 ⟨x, H1, J1, r1, q1⟩ => PyProof.Rows.args_nil ?_) na) na rfl
  obtain ⟨l, ns, rfl, hq, hl, q1⟩ := q1
  cases r1
  obtain ⟨its, r, pl, hz⟩ := J1.list hq
  have hlen : its.toArray.size = ns.length := by rw [List.size_toArray, ← r.length, List.length_map]
  refine call_set_list (J1.ok.hd hc) pl.isList (by simpa using RZ.intsAre_vals r) (by rw [hlen]; unfold scanBound; omega) fun g' tk hS hk => ?_
  refine PyProof.Rows.args_nil ?_
  rw [hlen] at hS
  obtain ⟨o, es, ep, t, ho, hex, hd, _, _, _, hf, hn⟩ := hS
  have J2 : Inv X pins σ H1 { s1 with heap := g', toks := tk } := J1.kept fun b o e => hk b o (Heap.lt_size e) e
  have hle := firstMet_le (fun i => ns.getD i 0) ns.length
  exact call_len_set ho hex hd hf (by rw [hn]; omega) ⟨.int (metLen ns : Nat), H1, J2.tok _, ⟨_, by rw [hn]; rfl⟩, q1⟩

/-! ### {k: v for x in it}, k a tuple -/
def tDcT (wi : TI) (g : TG) (tt : TT) (tk tv : TE) (vs : List Nat) : TE := fun σ H Q => wi σ H fun J H1 => ∀ Dd, H1 Dd = none → ∃ W : Nat → Nat → Hp → Prop, (∃ m, W 0 m (upd H1 Dd (.dT []))) ∧ ∀ i m H, W i m H →
  (J.stop i H ∧ Q (.ref Dd) H) ∨ (J.go i H ∧ ∃ Nx : Hp → Prop, (∀ H', Nx H' → ∃ m', m' < m ∧ W (i + 1) m' H') ∧ ∀ x H', J.yld i H x H' → g x (wipe σ vs) H' fun σ2 H2 => wipe σ2 vs = wipe σ vs ∧ tt σ2 H2 fun b H3 =>
    if b = true then tk σ2 H3 fun y H4 => tv σ2 H4 fun z H5 => ∃ (kvs : List (List Key × V)) (k : List Key) (b : Addr), y = .ref b ∧ H5 b = some (.tup (k.map kV)) ∧ H5 Dd = some (.dT kvs) ∧ kvs.length < sizeLine ∧ Nx (upd H5 Dd (.dT (putK kvs k z))) else Nx H3)
theorem pe_dcT {kx vx tg iter : Expr} {ifs : List Expr} {scope : Scope} {own : List (Str × Nat)} {pos : Pos} {wi : TI} {g : TG} {tt : TT} {tk tv : TE} (hc : X.calm = true) (hu : X.A.units + 1 < cLine) (hN : X.N.Nodup) (hi : PI X tg iter wi) (ok : BlkOk X.N X.env.scope scope own)
    (hg : ∀ (s : Shared) (H : Hp) (C : Addr) (cl : List (Str × Addr)) (fp : List Addr), PG (X.blk s H scope (compEnvC scope cl C X.env) fp) tg g) (ht : ∀ (s : Shared) (H : Hp) (C : Addr) (cl : List (Str × Addr)) (fp : List Addr), PTs (X.blk s H scope (compEnvC scope cl C X.env) fp) ifs tt)
    (hk : ∀ (s : Shared) (H : Hp) (C : Addr) (cl : List (Str × Addr)) (fp : List Addr), PE (X.blk s H scope (compEnvC scope cl C X.env) fp) kx tk)
    (he : ∀ (s : Shared) (H : Hp) (C : Addr) (cl : List (Str × Addr)) (fp : List Addr), PE (X.blk s H scope (compEnvC scope cl C X.env) fp) vx tv) (hs : ∀ x, foldedSetIterable iter X.env x = pure x := by intro _; rfl) :
    PE X (.DictComp kx vx [⟨tg, iter, ifs, 0⟩] scope pos) (tDcT wi g tt tk tv (own.map (·.2))) := by
  refine ⟨fun pins s σ H Q I h => ?_⟩
  rw [arm_eval_DictComp]
  have free : ∀ y ∈ scope.names, y.2 = .free → ∃ c, X.env.cells.lookup y.1 = some c := fun y hy e => (ok.free y hy e).elim (fun k => I.ok.has _ (.inl k)) fun k => I.ok.has _ (.inr k)
  refine wpAny_comprehension_free (use := none) rfl hs (closure_ok free) ok.kind (fun y hy e => by rw [ok.uniq y hy, e])
    (thn (hi.run pins s σ H _ I h) fun xv s1 hx => thn hx fun itv s2 h2 => ?_)
  obtain ⟨it, fp, tn, J, H2, rfl, I2, T, st2, f2, q⟩ := h2
  refine wpAny_newObj_type (newEnv_comp ?_)
  generalize hDd : s2.heap.objs.size = Dd
  have nD : H2 Dd = none := I2.hok.fresh (Nat.le_of_eq hDd)
  obtain ⟨W, ⟨m0, w0⟩, turn⟩ := q Dd nD
  generalize es3 : ({ s2 with heap := s2.heap.push { cls := .type "dict", data := .dict #[] } } : Shared) = s3
  have J3 : Inv X pins σ (upd H2 Dd (.dT [])) s3 := by
    subst es3
    refine I2.laid (t' := s2.toks) (fun b o e => Heap.get?_push_of_some _ e) (Nat.le_of_eq hDd) ?_
    subst hDd
    exact dt_empty s2.heap I2.big
  have hp3 : s3.heap = s2.heap.push { cls := .type "dict", data := .dict #[] } := by rw [← es3]
  have lts : ∀ b ∈ fp, b < s2.heap.objs.size := fun b hb => (T.obj _ _ st2 b hb).elim fun o e => Heap.lt_size e.1
  have F3 : ∀ b ∈ fp, FpOk X pins (upd H2 Dd (.dT [])) b ∧ b < s3.heap.objs.size := fun b hb => by
    have hlt := lts b hb
    refine ⟨⟨?_, (f2 b hb).2⟩, by rw [hp3, Heap.size_push]; exact Nat.lt_succ_of_lt hlt⟩
    rw [upd_ne (show b ≠ Dd by rw [← hDd]; exact Nat.ne_of_lt hlt)]
    exact (f2 b hb).1
  have tn3 : tn 0 s3.heap := T.keep _ _ _ st2 fun b _ o e => by rw [hp3]; exact Heap.get?_push_of_some _ e
  have J4 := block_start J3 ok hN F3
  generalize hcl : cellsFrom (s3.heap.objs.size + 1) scope.names (cloFrom X.env.cells scope.names []) = cl at J4
  have pg := hg s3 (upd H2 Dd (.dT [])) s3.heap.objs.size cl fp
  have pt := ht s3 (upd H2 Dd (.dT [])) s3.heap.objs.size cl fp
  have pk := hk s3 (upd H2 Dd (.dT [])) s3.heap.objs.size cl fp
  have pv := he s3 (upd H2 Dd (.dT [])) s3.heap.objs.size cl fp
  show codeAny _ _ (.compStart (.DictComp kx vx [⟨tg, iter, ifs, 0⟩] scope pos) 0 (.ref it) (.ref Dd) (compEnvC scope cl s3.heap.objs.size X.env)) (compPost (model X.prog X.w) X.A X.xe none _ (.ref Dd) s3.heap.objs.size) { s3 with heap := pushCells (s3.heap.push { cls := .type "dict", data := .dict #[] }) scope.names }
  have free3 : ∀ b ∈ fp, (upd H2 Dd (.dT [])) b = none := fun b hb => (F3 b hb).1.1
  generalize hce : compEnvC scope cl s3.heap.objs.size X.env = ce at J4 pg pt pk pv ⊢
  have cL : ce.locals = s3.heap.objs.size := by rw [← hce]; rfl
  generalize hH3 : upd H2 Dd (.dT []) = H3 at J3 J4 pg pt pk pv w0 free3 F3
  generalize es4 : ({ s3 with heap := pushCells (s3.heap.push { cls := .type "dict", data := .dict #[] }) scope.names } : Shared) = s4 at J4 ⊢
  have tn4 : tn 0 s4.heap := T.keep _ _ _ tn3 fun b _ o e => by rw [← es4]; exact pushCells_keeps _ _ _ _ (Heap.get?_push_of_some _ e)
  have foot : ∀ {τ : L2.St} {H' : Hp} {s' : Shared}, Inv (X.blk s3 H3 scope ce fp) [] τ H' s' → (∀ b ∈ fp, H' b = none) → ∀ b ∈ fp, FpOk (X.blk s3 H3 scope ce fp) [] H' b := fun {τ H' s'} K hn b hb =>
    ⟨hn b hb, (K.ok.exf b hb).1, K.ok.exfs b hb, .inl hb, fun x c e => (K.ok.exf b hb).2 x c e, fun p hp => absurd (show p ∈ ([] : List (Addr × Obj)) ++ [] from hp) (by simp)⟩
  refine codeAny_compStart_dict ?_ (T.self X.A 0 _ _ _ tn4 ?_)
  all_goals
    refine compLoop_anyD (fun n s' => ∃ i H', Inv (X.blk s3 H3 scope ce fp) [] (wipe σ (own.map (·.2))) H' s' ∧ tn i s'.heap ∧ (∀ b ∈ fp, H' b = none) ∧ W i n H') ?_ m0 ⟨0, H3, J4, tn4, free3, w0⟩
    rintro n s5 ⟨i, H5, J5, st5, n5, w5⟩
    rcases turn i n H5 w5 with ⟨stop, qq⟩ | ⟨go, Nx, hNx, step⟩
    · have td := T.done (X.blk s3 H3 scope ce fp) rfl rfl rfl hc i [] s5 _ H5 (fun _ _ => False) J5 (foot J5 n5) st5 stop
      refine thnF td fun r s6 ⟨hr, J6⟩ => ?_
      subst hr
      have J7 : Inv X pins σ H5 s6 := J3.call' (ch := fp) J6.os J6.base J6.hok J6.bare fun b hb => ⟨(F3 b hb).1.2.2.2.1, (F3 b hb).1.2.1, (F3 b hb).1.2.2.2.2.1, (F3 b hb).1.2.2.2.2.2⟩
      have nC : H5 s3.heap.objs.size = none := by
        have z : H5 ce.locals = none := J6.free
        rwa [cL] at z
      obtain ⟨m, hn, _⟩ := J6.loc
      have hn : s6.heap.Ns ce.locals m := hn
      rw [cL] at hn
      obtain ⟨e0, e1, e2, e3, e4, e5⟩ : FpOk X pins H5 s3.heap.objs.size := J3.fpOk (Nat.le_refl _) nC
      exact ⟨m, hn, fun h'' sb => ⟨.ref Dd, H5, J7.turned (t' := s6.toks) (fun b o hb e => (sb.2 b hb).trans e) e0 e1 e3 e4 e5, rfl, qq⟩⟩
    · have ti := T.item (X.blk s3 H3 scope ce fp) rfl rfl rfl hc i [] s5 _ H5 (fun _ _ => False) J5 (foot J5 n5) st5 go
      refine thnF ti fun r s6 ⟨u, hr, h6⟩ => ?_
      subst hr
      refine thnF h6 fun _ s7 ⟨x, H7, J7, r7, y7, st7, n7⟩ => ?_
      have J7p := J7.pinned (foot J7 n7) (T.obj _ _ st7)
      refine thnF (pg.run _ s7 _ H7 x u _ J7p r7 (step x H7 y7)) fun _ s8 ⟨σ8, H8, J8, hw8, q8⟩ => ?_
      refine thnF (pt.run _ s8 σ8 H8 _ J8 q8) fun b s9 ⟨H9, J9, q9⟩ => ?_
      have close : ∀ {s' : Shared} {H' : Hp}, Inv (X.blk s3 H3 scope ce fp) ([] ++ pinsAt fp s7.heap) σ8 H' s' → Nx H' → ∃ m, m < n ∧ ∃ i H', Inv (X.blk s3 H3 scope ce fp) [] (wipe σ (own.map (·.2))) H' s' ∧ tn i s'.heap ∧ (∀ b ∈ fp, H' b = none) ∧ W i m H' := fun {s' H'} K nx => by
        obtain ⟨m', hm, w'⟩ := hNx H' nx
        have still : ∀ b ∈ fp, ∀ o, s7.heap.get? b = some o → s'.heap.get? b = some o ∧ H' b = none := fun b hb o e =>
          (K.pin (b, o) (List.mem_append_right _ (List.mem_append_right _ (mem_pinsAt hb e)))).elim fun z1 z2 => ⟨z1, z2.1⟩
        have hl : (wipe σ (own.map (·.2))).length = σ8.length := by rw [← hw8, wipe_length]
        refine ⟨m', hm, i + 1, H', (K.unpinned (pins := [])).weak hl (fun j v e => ?_), T.keep _ _ _ st7 fun b hb o e => (still b hb o e).1, fun b hb => ?_, w'⟩
        · rw [← hw8] at e
          exact (wipe_some e).1
        · obtain ⟨o, e, _⟩ := T.obj _ _ st7 b hb
          exact (still b hb o e).2
      cases b with
      | false =>
        simp only [Bool.false_eq_true, if_false] at q9 ⊢
        exact close J9 q9
      | true =>
        simp only [if_true] at q9 ⊢
        refine thnF (pk.run _ s9 σ8 H9 _ J9 q9) fun z s10 ⟨yk, H10, J10, r10, q10⟩ => ?_
        refine thnF (pv.run _ s10 σ8 H10 _ J10 q10) fun z2 s11 ⟨yv, H11, J11, r11, kvs, k, b, ek, hbk, hD11, hz11, nx⟩ => ?_
        subst ek
        cases r10
        exact dictSetT (X := X.blk s3 H3 scope ce fp) hu J11 hD11 hz11 hbk r11 fun s12 J12 => close J12 nx
end
end No
end

section
set_option Elab.async false
set_option linter.all false
set_option maxRecDepth 100000
set_option maxHeartbeats 1000000
namespace No
open PySem PySem.Spec PyProof.Rows L2

/-! ### keys, tables -/
@[simp] def toKey : D → Option Key
  | .int i => some (.inl i)
  | .str s => some (.inr s)
  | _ => none
@[simp] def keyD : Key → D
  | .inl i => .int i
  | .inr s => .str s
def toKeys : List D → Option (List Key)
  | [] => some []
  | d :: ds => (toKey d).bind fun k => (toKeys ds).map (k :: ·)
theorem toKeys_rps {K : PySem.W.Frag} {G : Hp} : ∀ {vs : List V} {ds : List D} {ks : List Key}, Rps K G vs ds → toKeys ds = some ks → vs = ks.map kV
  | _, _, ks, .nil, h => by
    cases h
    rfl
  | _, _, ks, .cons (d := d) (ds := ds) r t, h => by
    simp only [toKeys] at h
    cases q : toKey d with
    | none =>
      rw [q] at h
      cases h
    | some k =>
      rw [q] at h
      cases q2 : toKeys ds with
      | none =>
        rw [q2] at h
        cases h
      | some ks2 =>
        rw [q2] at h
        cases h
        rw [List.map_cons, toKeys_rps t q2]
        congr 1
        cases r with
        | int i =>
          cases q
          rfl
        | str s =>
          cases q
          rfl
        | _ => cases q
theorem rps_keys {K : PySem.W.Frag} {G : Hp} : ∀ ks : List Key, Rps K G (ks.map kV) (ks.map keyD)
  | [] => .nil
  | .inl i :: ks => .cons (.int i) (rps_keys ks)
  | .inr s :: ks => .cons (.str s) (rps_keys ks)
section
variable {κ : Type} [DecidableEq κ]
def valD (kvs : List (κ × D)) (k : κ) : Option D := (kvs.find? fun kv => decide (kv.1 = k)).map (·.2)
def putD (kvs : List (κ × D)) (k : κ) (v : D) : List (κ × D) :=
  if (kvs.any fun kv => decide (kv.1 = k)) = true then kvs.map (fun kv => if kv.1 = k then (kv.1, v) else kv) else kvs ++ [(k, v)]
/-- a table of values for one of data -/
def RpT (K : PySem.W.Frag) (G : Hp) (kvs : List (κ × V)) (ds : List (κ × D)) : Prop := kvs.map (·.1) = ds.map (·.1) ∧ Rps K G (kvs.map (·.2)) (ds.map (·.2))
theorem RpT.nil {K : PySem.W.Frag} {G : Hp} : RpT K G ([] : List (κ × V)) [] := ⟨rfl, .nil⟩
theorem RpT.cases {K : PySem.W.Frag} {G : Hp} {kvs : List (κ × V)} {k : κ} {d : D} {ds : List (κ × D)} (h : RpT K G kvs ((k, d) :: ds)) : ∃ v r, kvs = (k, v) :: r ∧ Rp K G v d ∧ RpT K G r ds := by
  obtain ⟨h1, h2⟩ := h
  cases kvs with
  | nil => cases h1
  | cons p r =>
    obtain ⟨k', v⟩ := p
    simp only [List.map_cons, List.cons.injEq] at h1
    obtain ⟨rfl, h1⟩ := h1
    cases h2 with
    | cons r1 r2 => exact ⟨v, r, rfl, r1, h1, r2⟩
theorem RpT.empty {K : PySem.W.Frag} {G : Hp} {kvs : List (κ × V)} (h : RpT K G kvs []) : kvs = [] := by
  obtain ⟨h1, _⟩ := h
  cases kvs with
  | nil => rfl
  | cons p r => cases h1
theorem RpT.val {K : PySem.W.Frag} {G : Hp} (k : κ) : ∀ {ds : List (κ × D)} {kvs : List (κ × V)}, RpT K G kvs ds → match valD ds k with
    | some d => ∃ v, valV kvs k = some v ∧ Rp K G v d
    | none => valV kvs k = none
  | [], kvs, h => by
    rw [h.empty]
    rfl
  | (k', d) :: ds, kvs, h => by
    obtain ⟨v, r, rfl, rv, hr⟩ := h.cases
    by_cases e : k' = k
    · have e1 : valD ((k', d) :: ds) k = some d := by simp [valD, List.find?_cons, e]
      rw [e1]
      exact ⟨v, valV_pos e, rv⟩
    · have e1 : valD ((k', d) :: ds) k = valD ds k := by simp [valD, List.find?_cons, e]
      rw [e1, valV_neg e]
      exact RpT.val k hr
theorem RpT.any {K : PySem.W.Frag} {G : Hp} (k : κ) {ds : List (κ × D)} {kvs : List (κ × V)} (h : RpT K G kvs ds) : (kvs.any fun kv => decide (kv.1 = k)) = ds.any fun kv => decide (kv.1 = k) := by
  have e : ∀ {α : Type} (l : List (κ × α)), (l.any fun kv => decide (kv.1 = k)) = (l.map (·.1)).any fun x => decide (x = k) := fun l => by rw [List.any_map]; rfl
  rw [e, e, h.1]
theorem RpT.app {K : PySem.W.Frag} {G : Hp} {ds es : List (κ × D)} {kvs ws : List (κ × V)} (h : RpT K G kvs ds) (h2 : RpT K G ws es) : RpT K G (kvs ++ ws) (ds ++ es) := by
  refine ⟨by rw [List.map_append, List.map_append, h.1, h2.1], ?_⟩
  rw [List.map_append, List.map_append]
  exact h.2.append h2.2
theorem RpT.repl {K : PySem.W.Frag} {G : Hp} (k : κ) {v : V} {d : D} (r : Rp K G v d) : ∀ {ds : List (κ × D)} {kvs : List (κ × V)}, RpT K G kvs ds → RpT K G (kvs.map fun kv => if kv.1 = k then (kv.1, v) else kv) (ds.map fun kv => if kv.1 = k then (kv.1, d) else kv)
  | [], kvs, h => by
    rw [h.empty]
    exact .nil
  | (k', d') :: ds, kvs, h => by
    obtain ⟨v', w, rfl, rv, hr⟩ := h.cases
    have ih := RpT.repl k r hr
    rw [List.map_cons, List.map_cons]
    by_cases e : k' = k
    · simp only [e, if_true]
      exact RpT.app (kvs := [(k, v)]) (ds := [(k, d)]) ⟨rfl, Rps.one r⟩ ih
    · simp only [e, if_false]
      exact RpT.app (kvs := [(k', v')]) (ds := [(k', d')]) ⟨rfl, Rps.one rv⟩ ih
theorem RpT.put {K : PySem.W.Frag} {G : Hp} (k : κ) {v : V} {d : D} (r : Rp K G v d) {ds : List (κ × D)} {kvs : List (κ × V)} (h : RpT K G kvs ds) : RpT K G (putK kvs k v) (putD ds k d) := by
  unfold putK putD
  rw [h.any k]
  split
  · exact h.repl k r
  · exact h.app ⟨rfl, Rps.one r⟩
theorem RpT.mono {K : PySem.W.Frag} {G G' : Hp} (e : Same G G') {ds : List (κ × D)} {kvs : List (κ × V)} (h : RpT K G kvs ds) : RpT K G' kvs ds := ⟨h.1, h.2.mono e⟩
theorem RpT.length {K : PySem.W.Frag} {G : Hp} {ds : List (κ × D)} {kvs : List (κ × V)} (h : RpT K G kvs ds) : kvs.length = ds.length := by
  have := congrArg List.length h.1
  simpa using this
end

/-! ### reading a dict -/
/-- d[k]: none if there is no such key -/
def gDGet : D → D → Option D := fun x y => match x with
  | .dT kvs => match y with
    | .tup ks => (toKeys ks).bind fun k => valD kvs k
    | _ => none
  | .dK kvs => (toKey y).bind fun k => valD kvs k
  | _ => none
/-- what d holds at y: none if y is no key of its kind -/
def atD : D → D → Option (Option D) := fun x y => match x with
  | .dT kvs => match y with
    | .tup ks => (toKeys ks).map fun k => valD kvs k
    | _ => none
  | .dK kvs => (toKey y).map fun k => valD kvs k
  | _ => none
def Got (K : PySem.W.Frag) (G : Hp) (w : Option V) : Option D → Prop
  | some d => ∃ v, w = some v ∧ Rp K G v d
  | none => w = none
theorem RpT.got {κ : Type} [DecidableEq κ] {K : PySem.W.Frag} {G : Hp} {ds : List (κ × D)} {kvs : List (κ × V)} (h : RpT K G kvs ds) (k : κ) : Got K G (valV kvs k) (valD ds k) := by
  have t := h.val k
  cases z : valD ds k with
  | none =>
    rw [z] at t
    exact t
  | some d =>
    rw [z] at t
    exact t
theorem atD_get {K : PySem.W.Frag} {G H : Hp} {x y : V} {dx dy : D} {o : Option D} (e : Same G H) (rx : Rp K G x dx) (ry : Rp K G y dy) (h : atD dx dy = some o) : ∃ a w, x = .ref a ∧ IsD H a ∧ DGet H a y w ∧ Got K G w o := by
  unfold atD at h
  cases rx with
  | @dT a kvs ds hr m r =>
    cases ry with
    | @tup b xs ks hb rb =>
      dsimp only at h
      cases q : toKeys ks with
      | none =>
        rw [q] at h
        cases h
      | some k =>
        rw [q] at h
        cases h
        have ek := toKeys_rps rb q
        subst ek
        have t : RpT K G kvs ds := ⟨m, r⟩
        exact ⟨a, valV kvs k, rfl, .inr ⟨kvs, same_rd e hr⟩, .inr ⟨kvs, k, b, same_rd e hr, rfl, e _ _ hb, rfl⟩, t.got k⟩
    | _ => cases h
  | @dK a kvs ds hr m r =>
    dsimp only at h
    cases q : toKey dy with
    | none =>
      rw [q] at h
      cases h
    | some k =>
      rw [q] at h
      cases h
      have t : RpT K G kvs ds := ⟨m, r⟩
      have ek : y = kV k := by
        cases ry with
        | int i =>
          cases q
          rfl
        | str s =>
          cases q
          rfl
        | _ => cases q
      exact ⟨a, valV kvs k, rfl, .inl ⟨kvs, same_rd e hr⟩, .inl ⟨kvs, k, same_rd e hr, ek, rfl⟩, t.got k⟩
  | _ => cases h
theorem gDGet_at {x y : D} : gDGet x y = (atD x y).bind id := by
  unfold gDGet atD
  cases x with
  | dT kvs =>
    cases y with
    | tup ks =>
      dsimp only
      cases toKeys ks <;> rfl
    | _ => rfl
  | dK kvs =>
    dsimp only
    cases toKey y <;> rfl
  | _ => rfl
section
variable {X : Cx} {W : WX} {a b c : Expr} {ma mb mc : ME} {pos : Pos}
theorem de_dget (hu : X.A.units + 1 < cLine) (ha : DE X W a ma) (hb : DE X W b mb) (hs : NoSl b := by intro _ _; rfl) : DE X W (.Subscript a b pos) (mBin gDGet ma mb) := by
  obtain ⟨ta, pa, ka⟩ := ha.run
  obtain ⟨tb, pb, kb⟩ := hb.run
  refine ⟨_, pe_dget hu pa pb hs, fun Z G H σ env Q R p => ?_⟩
  refine bin_core (r := fun x y H => ∃ a v, x = .ref a ∧ DGet H a y (some v) ∧ Q v H) ka kb R p fun x y dx dy d env2 G2 H2 R2 rx ry e k => ?_
  rw [gDGet_at] at e
  cases q : atD dx dy with
  | none =>
    rw [q] at e
    cases e
  | some o =>
    rw [q] at e
    have e : o = some d := e
    subst e
    obtain ⟨ad, w, rfl, _, g, v, rfl, rv⟩ := atD_get R2.gh rx ry q
    exact ⟨ad, v, rfl, g, k G2 H2 R2 (Same.refl _) v rv⟩
/-- d.get(k, x) -/
@[simp] def mDGet2 (ma mb mc : ME) : ME := fun env => (ma env).bind fun x e1 => (mb e1).bind fun y e2 => (mc e2).bind fun z e3 => ofO ((atD x y).map fun o => o.getD z) e3
def isDict : D → Bool
  | .dT _ => true
  | .dK _ => true
  | _ => false
theorem de_dget2 {apos cpos : Pos} (hu : X.A.units + 1 < cLine) (ha : DE X W a ma) (hb : DE X W b mb) (hc : DE X W c mc)
    (hbase : attributeBase a "get" X.env (eval a X.env) = eval a X.env := by rfl)
    (hfew : ((backTo cpos (starEach [b, c] X.env)).all (fun x => !x.1) && (backToKw cpos (keywordEach [] X.env)).all (fun x => x.1.isSome) && decide (([b, c] : List Expr).length + ([] : List Keyword).length + (if ([] : List Keyword).isEmpty then 0 else 1) < 30)) = true := by rfl)
    (hline : (apos.endLine == cpos.line) = true := by rfl) (htr : backTo cpos (starEach [b, c] X.env) = [(false, eval b X.env), (false, eval c X.env)] := by rfl) : DE X W (.Call (.Attribute a "get" apos) [b, c] [] cpos) (fun env => (ma env).bind fun x e1 => if isDict x = true then (mb e1).bind fun y e2 => (mc e2).bind fun z e3 => ofO ((atD x y).map fun o => o.getD z) e3 else .bad) := by
  obtain ⟨ta, pa, ka⟩ := ha.run
  obtain ⟨tb, pb, kb⟩ := hb.run
  obtain ⟨tc, pc, kc⟩ := hc.run
  refine ⟨_, pe_dget2 hu pa pb pc ⟨hbase, hfew, hline, htr⟩, fun Z G H σ env Q R p => ?_⟩
  refine ka Z G H σ env _ R ((PostE.bind p).imp fun dx env1 G1 H1 R1 s1 p1 x rx => ?_)
  split at p1
  case isFalse => exact p1.elim
  rename_i hd
  have isd : ∃ ad, x = .ref ad ∧ IsD H1 ad := by
    cases rx with
    | dT hr _ _ => exact ⟨_, rfl, .inr ⟨_, same_rd R1.gh hr⟩⟩
    | dK hr _ _ => exact ⟨_, rfl, .inl ⟨_, same_rd R1.gh hr⟩⟩
    | _ => cases hd
  obtain ⟨ad, rfl, hisd⟩ := isd
  refine ⟨ad, rfl, hisd, ?_⟩
  refine kb Z G1 H1 σ env1 _ R1 ((PostE.bind p1).imp fun dy env2 G2 H2 R2 s2 p2 y ry => ?_)
  refine kc Z G2 H2 σ env2 _ R2 ((PostE.bind p2).imp fun dz env3 G3 H3 R3 s3 p3 z rz => ?_)
  obtain ⟨d, e, k⟩ := p3.ofO
  cases q : atD dx dy with
  | none =>
    rw [q] at e
    cases e
  | some o =>
    rw [q] at e
    cases e
    obtain ⟨ad', w, ea, _, g, ho⟩ := atD_get R3.gh ((rx.mono s2).mono s3) (ry.mono s3) q
    cases ea
    refine ⟨w, g, ?_⟩
    cases o with
    | none =>
      have ho : w = none := ho
      subst ho
      exact k G3 H3 R3 (Same.refl _) z rz
    | some d =>
      obtain ⟨v, rfl, rv⟩ := ho
      exact k G3 H3 R3 (Same.refl _) v rv

/-! ### dicts of one's own -/
@[simp] def mNewT : MM := fun env => .ok (.ft []) env
@[simp] def mNewK : MM := fun env => .ok (.fk []) env
theorem do_newT : DO X W (.Dict [] [] pos) mNewT := ⟨_, pe_dnewT, fun Z G H σ env Q R p q hq => by
  obtain ⟨R1, O⟩ := R.own (m := .ft []) (ho := .dT []) hq ⟨[], rfl, rfl, .nil⟩
  exact p G _ R1 (Same.refl _) q _ O⟩
theorem do_newK : DO X W (.Dict [] [] pos) mNewK := ⟨_, pe_dnewK, fun Z G H σ env Q R p q hq => by
  obtain ⟨R1, O⟩ := R.own (m := .fk []) (ho := .dK []) hq ⟨[], rfl, rfl, .nil⟩
  exact p G _ R1 (Same.refl _) q _ O⟩
/-- {k: v}, k a tuple -/
@[simp] def mDisp1 (ma mb : ME) : MM := fun env => match ma env with
  | .ok (.tup ks) e1 => match mb e1 with
    | .ok y e2 => ofO ((toKeys ks).map fun k => .ft [(k, y)]) e2
    | _ => .bad
  | _ => .bad
theorem do_disp1 (hu : X.A.units + 1 < cLine) (ha : DE X wF a ma) (hb : DE X wF b mb) : DO X W (.Dict [some a] [b] pos) (mDisp1 ma mb) := by
  obtain ⟨ta, pa, ka⟩ := ha.run
  obtain ⟨tb, pb, kb⟩ := hb.run
  refine ⟨_, pe_disp1 hu pa pb, fun Z G H σ env Q R p q hq => ?_⟩
  have g0 : Z.G0 q = none := R.gr.gg.free (R.gh.free hq)
  have h0 : Z.H0 q = none := R.gr.hh.free hq
  unfold mDisp1 at p
  refine ka (Z.fr q (.dT [])) G _ σ env _ (R.frame hq) ?_
  generalize ma env = r at p
  cases r with
  | exc x e => exact p.elim
  | bad => exact p.elim
  | ok x e1 =>
  intro G1 H1 R1 s1 v rv
  cases x with
  | tup ks =>
    dsimp only at p
    refine kb (Z.fr q (.dT [])) G1 H1 σ e1 _ R1 ?_
    generalize mb e1 = r at p
    cases r with
    | exc x e => exact p.elim
    | bad => exact p.elim
    | ok y e2 =>
    intro G2 H2 R2 s2 w rw'
    dsimp only at p
    obtain ⟨m, e, k⟩ := p.ofO
    cases hk : toKeys ks with
    | none =>
      rw [hk] at e
      cases e
    | some k0 =>
      rw [hk] at e
      cases e
      cases rv with
      | @tup b xs _ hb rb =>
        have ex := toKeys_rps rb hk
        subst ex
        refine ⟨b, k0, rfl, R2.gh _ _ (s2 _ _ hb), (R2.framed g0).1, ?_⟩
        have R3 := R2.reframe (o' := .dT [(k0, w)]) g0 h0
        obtain ⟨hl, gl, ne⟩ := R3.framed g0
        have R4 := R3.unframe g0 h0
        exact k G2 _ R4 (s1.trans s2) q _ ⟨hl, gl, h0, ne, ⟨[(k0, w)], rfl, rfl, Rps.one rw'⟩⟩
  | _ => exact p.elim
/-- found[k] = v, found a dict of the slot's own -/
@[simp] def sDPutD (i : Nat) (mv mk : ME) : MS := fun env => (mv env).so fun d e1 => match e1[i]? with
  | some (.ow _ (.ft _)) => (mk e1).so fun k e2 => match k, e2[i]? with
    | .tup ks, some (.ow b (.ft kvs)) => match toKeys ks with
      | some k0 => if kvs.length < sizeLine then .nx (e2.set i (.ow b (.ft (putD kvs k0 d)))) else .bad
      | none => .bad
    | _, _ => .bad
  | some (.ow _ (.fk _)) => (mk e1).so fun k e2 => match e2[i]? with
    | some (.ow b (.fk kvs)) => match toKey k with
      | some k0 => if kvs.length < sizeLine then .nx (e2.set i (.ow b (.fk (putD kvs k0 d)))) else .bad
      | none => .bad
    | _ => .bad
  | _ => .bad
theorem ds_dput {i : Nat} {o : Expr} {p2 : Pos} (hu : X.A.units + 1 < cLine) (ho : PE X o (tVar i)) (hv : DE X W a ma) (hk : DE X W b mb) (hs : swapsWith a (some (.Subscript o b p2)) pos.line X.env = pure false := by rfl) : DS X W (.Assign [.Subscript o b p2] a pos) (sDPutD i ma mb) := by
  obtain ⟨tv, pv, kv⟩ := hv.run
  obtain ⟨tk, pk, kk⟩ := hk.run
  refine ⟨_, ps_dput hu ho pk pv hs, fun Z G H σ env Dn R q => ?_⟩
  refine kv Z G H σ env _ R ((PostS.so q).imp fun d e1 G1 H1 R1 s1 q1 v rv => ?_)
  split at q1
  · rename_i b0 k0 em
    obtain ⟨l0, ho0, el0, _⟩ := R1.ow em
    refine ⟨_, el0, ?_⟩
    refine kk Z G1 H1 σ e1 _ R1 ((PostS.so q1).imp fun k e2 G2 H2 R2 s2 q2 w rw' => ?_)
    split at q2
    · rename_i ks b1 kvs em2
      obtain ⟨l, ho, el, hl, gl, h0, r, _⟩ := R2.ow em2
      obtain ⟨ws, rfl, m, rs⟩ := r
      rw [el0] at el
      cases el
      split at q2
      · rename_i ky hky
        split at q2
        · rename_i hz
          cases rw' with
          | @tup bb xs _ hb rb =>
            have ek := toKeys_rps rb hky
            subst ek
            have t : RpT X.K G2 ws kvs := ⟨m, rs⟩
            refine ⟨l0, _, rfl, .inr ⟨ws, ky, bb, hl, rfl, R2.gh _ _ hb, by rw [t.length]; exact hz, rfl⟩, ?_⟩
            have t2 := t.put ky (rv.mono s2)
            exact q2 σ G2 _ (R2.mut em2 el0 (m' := .ft (putD kvs ky d)) ⟨_, rfl, t2.1, t2.2⟩) (Same.refl _)
        · exact q2.elim
      · exact q2.elim
    · exact q2.elim
  · rename_i b0 k0 em
    obtain ⟨l0, ho0, el0, _⟩ := R1.ow em
    refine ⟨_, el0, ?_⟩
    refine kk Z G1 H1 σ e1 _ R1 ((PostS.so q1).imp fun k e2 G2 H2 R2 s2 q2 w rw' => ?_)
    split at q2
    · rename_i b1 kvs em2
      obtain ⟨l, ho, el, hl, gl, h0, r, _⟩ := R2.ow em2
      obtain ⟨ws, rfl, m, rs⟩ := r
      rw [el0] at el
      cases el
      split at q2
      · rename_i ky hky
        split at q2
        · rename_i hz
          have ek : w = kV ky := by
            cases rw' with
            | int i =>
              cases hky
              rfl
            | str s =>
              cases hky
              rfl
            | _ => cases hky
          have t : RpT X.K G2 ws kvs := ⟨m, rs⟩
          refine ⟨l0, _, rfl, .inl ⟨ws, ky, hl, ek, by rw [t.length]; exact hz, rfl⟩, ?_⟩
          have t2 := t.put ky (rv.mono s2)
          exact q2 σ G2 _ (R2.mut em2 el0 (m' := .fk (putD kvs ky d)) ⟨_, rfl, t2.1, t2.2⟩) (Same.refl _)
        · exact q2.elim
      · exact q2.elim
    · exact q2.elim
  · exact q1.elim

/-! ### sorted(d), the keys pairs of ints -/
def isPK (k : List Key) : Bool := match k with
  | [.inl _, .inl _] => true
  | _ => false
/-- before (as a sort of merges asks it): not above -/
def lePK (x y : List Key) : Bool := !SrtO.lexB (pairK y) (pairK x)
def tupD (k : List Key) : D := .tup (k.map keyD)
@[simp] def gSortT : List D → Option (List D) := fun ds => match ds with
  | [.dT kvs] => if (kvs.all fun kv => isPK kv.1) = true then some (((kvs.map (·.1)).mergeSort lePK).map tupD) else none
  | _ => none
theorem isPK_is {k : List Key} (h : isPK k = true) : ∃ i j : Int, k = [.inl i, .inl j] := by
  unfold isPK at h
  split at h
  · rename_i i j
    exact ⟨i, j, rfl⟩
  · cases h
theorem lePK_tr (x y z : List Key) (h1 : lePK x y = true) (h2 : lePK y z = true) : lePK x z = true := by
  unfold lePK at h1 h2 ⊢
  rw [Bool.not_eq_true'] at h1 h2 ⊢
  rw [SrtO.lexB_no] at h1 h2 ⊢
  omega
theorem lePK_tot (x y : List Key) : (lePK x y || lePK y x) = true := by
  unfold lePK
  rw [Bool.or_eq_true, Bool.not_eq_true', Bool.not_eq_true', SrtO.lexB_no, SrtO.lexB_no]
  omega
theorem lePK_anti {x y : List Key} (hx : isPK x = true) (hy : isPK y = true) (h1 : lePK x y = true) (h2 : lePK y x = true) : x = y := by
  obtain ⟨i, j, rfl⟩ := isPK_is hx
  obtain ⟨i', j', rfl⟩ := isPK_is hy
  unfold lePK at h1 h2
  rw [Bool.not_eq_true', SrtO.lexB_no] at h1 h2
  have h1 : ¬ (i' < i ∨ (i' = i ∧ j' < j)) := h1
  have h2 : ¬ (i < i' ∨ (i = i' ∧ j < j')) := h2
  have e1 : i = i' := by omega
  have e2 : j = j' := by omega
  rw [e1, e2]
/-- one sorted list only -/
theorem sort_one {ks l : List (List Key)} (hp : ks.Perm l) (hk : ∀ k ∈ l, isPK k = true) (hs : (ks.map pairK).Pairwise fun x y => SrtO.lexB y x = false) : ks = l.mergeSort lePK := by
  have h1 : ks.Pairwise fun x y => lePK x y = true := by
    rw [List.pairwise_map] at hs
    exact hs.imp fun h => by
      unfold lePK
      rw [h]
      rfl
  have h2 : (l.mergeSort lePK).Pairwise fun x y => lePK x y = true := List.pairwise_mergeSort (fun a b c => lePK_tr a b c) (fun a b => lePK_tot a b) l
  refine List.Perm.eq_of_pairwise (fun a b ha hb x y => ?_) h1 h2 (hp.trans (List.mergeSort_perm l lePK).symm)
  exact lePK_anti (hk a (hp.mem_iff.mp ha)) (hk b ((List.mergeSort_perm l lePK).mem_iff.mp hb)) x y
theorem do_sortT (hc : X.calm = true) {p q : Pos} (hg : Gl X "sorted") (hm : X.mg "sorted" = none) (h : DE X W a ma) (he : starEach [a] X.env = (false, eval a X.env) :: starEach [] X.env := by rfl) : DO X W (.Call (.Name "sorted" p) [a] [] pos) (mFl (mCB gSortT (mCons ma mNil))) := by
  obtain ⟨t, pt, k⟩ := h.run
  refine ⟨_, pe_callB (cr_sortedDT hc) hg hm (by decide +kernel) (pa_cons pt pa_nil he) (by decide) (by decide) he (by rfl), fun Z G H σ env Q R p => ?_⟩
  unfold mFl mCB mCons at p
  refine k Z G H σ env _ R ((PostE.bind (PostE.bind (PostE.bind p))).imp fun d e1 G1 H1 R1 s1 p1 v rv => ?_)
  obtain ⟨l, e, q⟩ := PostE.ofO (show PostE X W Z σ G1 (ofO (gSortT [d]) e1) _ from p1 G1 H1 R1 (Same.refl _))
  cases rv with
  | @dT ad kvs ds hr m r =>
    unfold gSortT at e
    dsimp only at e
    split at e
    case isFalse => cases e
    rename_i hall
    cases e
    have hks : ∀ kv ∈ kvs, ∃ i j : Int, kv.1 = [.inl i, .inl j] := fun kv hkv => by
      have : kv.1 ∈ ds.map (·.1) := by
        rw [← m]
        exact List.mem_map.mpr ⟨kv, hkv, rfl⟩
      obtain ⟨kd, h1, h2⟩ := List.mem_map.mp this
      rw [← h2]
      exact isPK_is (List.all_eq_true.mp hall kd h1)
    refine ⟨ad, kvs, rfl, same_rd R1.gh hr, hks, fun ks bs pp hp hs hpb hpp => ?_⟩
    rw [m] at hp
    have e1 : ks = (ds.map (·.1)).mergeSort lePK := sort_one hp (fun k hk => by
      obtain ⟨kd, h1, h2⟩ := List.mem_map.mp hk
      rw [← h2]
      exact List.all_eq_true.mp hall kd h1) hs
    subst e1
    -- the keys' tuples join the shared part
    classical
    let G2 : Hp := fun b => if b ∈ bs then H1 b else G1 b
    have tup : ∀ b ∈ bs, ∃ xs, H1 b = some (.tup xs) := by
      have : ∀ {k0 : List (List Key)} {b0 : List Addr}, Paired (fun (k : List Key) b => H1 b = some (.tup (k.map kV))) k0 b0 → ∀ b ∈ b0, ∃ xs, H1 b = some (.tup xs) := by
        intro k0 b0 pr
        induction pr with
        | nil => exact fun b hb => by simp at hb
        | cons h t ih =>
          intro b hb
          rcases List.mem_cons.mp hb with rfl | hb
          · exact ⟨_, h⟩
          · exact ih b hb
      exact this hpb
    have sg : Same G1 G2 := fun b u hb => by
      show (if b ∈ bs then H1 b else G1 b) = some u
      split
      · exact R1.gh b u hb
      · exact hb
    have gr : Gr G1 H1 G2 H1 := ⟨sg, Same.refl _, fun b u hb => by
      have hb : (if b ∈ bs then H1 b else G1 b) = some u := hb
      split at hb
      · exact hb
      · exact R1.gh b u hb, fun b u hb => by
      have hb : (if b ∈ bs then H1 b else G1 b) = some u := hb
      split at hb
      · rename_i hm
        obtain ⟨xs, hx⟩ := tup b hm
        rw [hx] at hb
        cases hb
        exact .inr (.inr ⟨xs, rfl⟩)
      · exact .inl hb⟩
    have R2 := R1.grow gr
    have rl : Rps X.K G2 (bs.map V.ref) ((((ds.map (·.1)).mergeSort lePK)).map tupD) := by
      have : ∀ {k0 : List (List Key)} {b0 : List Addr}, (∀ b ∈ b0, b ∈ bs) → Paired (fun (k : List Key) b => H1 b = some (.tup (k.map kV))) k0 b0 → Rps X.K G2 (b0.map V.ref) (k0.map tupD) := by
        intro k0 b0 hs pr
        induction pr with
        | nil => exact .nil
        | @cons k b k1 b1 h t ih =>
          refine .cons (.tup ?_ (rps_keys k)) (ih fun x hx => hs x (List.mem_cons_of_mem _ hx))
          show (if b ∈ bs then H1 b else G1 b) = _
          rw [if_pos (hs b List.mem_cons_self)]
          exact h
      exact this (fun _ h => h) hpb
    obtain ⟨R3, O⟩ := R2.own hpp (HM.fl rl)
    exact q G2 H1 R2 sg _ _ R3 (Same.refl _) pp _ O
  | _ => cases e
end
end No
end

section
set_option Elab.async false
set_option linter.all false
set_option maxRecDepth 100000
set_option maxHeartbeats 1000000
namespace No
open PySem PySem.Spec PyProof.Rows L2

section
variable {X : Cx} {W : WX} {a b c e : Expr} {ma mb mc : ME} {pos p p2 pos2 q : Pos} {i j : Nat}
/-! ### len(set(xs)) -/
@[simp] def gLenSet : D → Option D := fun d => match d with
  | .lst ds => (toIs ds).bind fun ns => if ns.length ≤ 4000 then some (.int (metLen ns : Nat)) else none
  | _ => none
theorem de_lenSet (hg : Gl X "len") (hm : X.mg "len" = none) (hg2 : Gl X "set") (hm2 : X.mg "set" = none) (h : DE X W a ma) (hc : X.calm = true := by rfl) (na : starEach [a] X.env = (false, eval a X.env) :: starEach [] X.env := by rfl) :
    DE X W (.Call (.Name "len" p) [.Call (.Name "set" p2) [a] [] q] [] pos) (mUn gLenSet ma) := by
  obtain ⟨t, pt, k⟩ := h.run
  refine ⟨_, pe_lenSet hg hm hg2 hm2 pt hc na, fun Z G H σ env Q R pp => ?_⟩
  refine k Z G H σ env _ R ((PostE.bind pp).imp fun d e1 G1 H1 R1 s1 p1 v rv => ?_)
  obtain ⟨r, e, kk⟩ := p1.ofO
  cases rv with
  | @lst l xs ds hx rs =>
    unfold gLenSet at e
    dsimp only at e
    cases z : toIs ds with
    | none =>
      rw [z] at e
      cases e
    | some ns =>
      rw [z] at e
      have e : (if ns.length ≤ 4000 then some (D.int (metLen ns : Nat)) else none) = some r := e
      split at e
      · rename_i hl
        cases e
        have e2 := toIs_ints z
        subst e2
        have e3 := rs.ints
        subst e3
        exact ⟨l, ns, rfl, .inl (.inl (R1.gh _ _ hx)), hl, kk G1 H1 R1 (Same.refl _) _ (.int _)⟩
      · cases e
  | _ => cases e

/-! ### xs[i] op= e -/
@[simp] def sAugP (i : Nat) (f : Int → Int → Int) (mi mv : ME) : MS := fun env => match env[i]? with
  | some (.ow _ (.fl _)) => (mi env).so fun k e1 => match k, e1[i]? with
    | .int z, some (.ow _ (.fl ds)) => if 0 ≤ z then match ds[z.toNat]? with
      | some (.int x) => (mv e1).so fun d e2 => match d, e2[i]? with
        | .int y, some (.ow b2 (.fl ds2)) => match ixN ds2.length z with
          | some n => .nx (e2.set i (.ow b2 (.fl (ds2.set n (.int (f x y))))))
          | none => .bad
        | _, _ => .bad
      | _ => .bad
      else .bad
    | _, _ => .bad
  | _ => .bad
theorem ds_augP {op : Operator} {f : Int → Int → Int} {tpos : Pos} (ho : PE X a (tVar i)) (hi : DE X W b mb) (hv : DE X W c mc) (hp : PIp X op (ipI f)) (ha : ∀ ov iv new, augStore b ov iv new = (do holding [new, ov, iv] (setItem ov iv new); release [new, ov, iv] []; pure .next) := by intros; rfl) :
    DS X W (.AugAssign (.Subscript a b tpos) op c pos) (sAugP i f mb mc) := by
  obtain ⟨tb, pb, kb⟩ := hi.run
  obtain ⟨tc, pc, kc⟩ := hv.run
  refine ⟨_, ps_augS ho pb pg_getP pc hp set_list ha, fun Z G H σ env Dn R q => ?_⟩
  unfold sAugP at q
  split at q
  case h_2 => exact q.elim
  rename_i b0 ds0 em0
  obtain ⟨l, ho0, el, _⟩ := R.ow em0
  refine ⟨_, el, ?_⟩
  refine kb Z G H σ env _ R ((PostS.so q).imp fun k e1 G1 H1 R1 s1 q1 w rw' => ?_)
  split at q1
  case h_2 => exact q1.elim
  rename_i z b1 ds em1
  obtain ⟨l1, ho1, el1, hl1, gl1, h01, r1, _⟩ := R1.ow em1
  obtain ⟨xs, rfl, r1⟩ := r1
  rw [el] at el1
  cases el1
  split at q1
  case isFalse => exact q1.elim
  rename_i hz
  split at q1
  case h_2 => exact q1.elim
  rename_i x hx
  obtain ⟨v0, hv0, rv0⟩ := r1.get hx
  cases rv0
  cases rw'
  refine ⟨l, xs, z, _, rfl, rfl, .inl (.inl hl1), hz, hv0, ?_⟩
  refine kc Z G1 H1 σ e1 _ R1 ((PostS.so q1).imp fun d e2 G2 H2 R2 s2 q2 u ru => ?_)
  split at q2
  case h_2 => exact q2.elim
  rename_i y b2 ds2 em2
  obtain ⟨l2, ho2, el2, hl2, gl2, h02, r2, _⟩ := R2.ow em2
  obtain ⟨ys, rfl, r2⟩ := r2
  rw [el] at el2
  cases el2
  split at q2
  case h_2 => exact q2.elim
  rename_i n hn
  cases ru
  exact ⟨x, y, rfl, rfl, l, ys, z, n, rfl, rfl, hl2, by rw [r2.length]; exact hn, q2 σ G2 _ (R2.mut em2 el (HM.fl (r2.set (.int _) n))) (Same.refl _)⟩

/-! ### xs.pop() whose value is dropped -/
@[simp] def sPopX (i : Nat) : MS := fun env => match env[i]? with
  | some (.ow b (.fl ds)) => if ds.isEmpty = true then .bad else .nx (env.set i (.ow b (.fl ds.dropLast)))
  | _ => .bad
theorem ds_popX {apos cpos : Pos} (ho : PE X a (tVar i)) (hbase : attributeBase a "pop" X.env (eval a X.env) = eval a X.env := by rfl) (hline : (apos.endLine == cpos.line) = true := by rfl) (hsw : swapsWith (.Call (.Attribute a "pop" apos) [] [] cpos) none pos.line X.env = pure false := by rfl) :
    DS X W (.Expr (.Call (.Attribute a "pop" apos) [] [] cpos) pos) (sPopX i) := by
  refine ⟨_, ps_expr (pe_bm0 PySem.F.plainAttrs_list PySem.F.slot_list_pop PySem.F.type_list_pop mt_pop ho hbase hline) hsw, fun Z G H σ env Dn R q => ?_⟩
  unfold sPopX at q
  split at q
  case h_2 => exact q.elim
  rename_i b ds em
  obtain ⟨l, ho0, el, hl, gl, h0, r, _⟩ := R.ow em
  obtain ⟨xs, rfl, r⟩ := r
  split at q
  case isTrue => exact q.elim
  rename_i hne
  cases ds with
  | nil => exact absurd rfl hne
  | cons d0 dr =>
    have hlen : xs.length = (d0 :: dr).length := r.length
    have hx : xs.length - 1 < xs.length := by
      rw [hlen, List.length_cons]
      omega
    exact ⟨.ref l, el, .inl ⟨rfl, xs, .inl (.inl hl)⟩, l, xs, _, rfl, rfl, hl, List.getElem?_eq_getElem hx, q σ G _ (R.mut em el (HM.fl r.dropLast)) (Same.refl _)⟩

/-! ### list(range(..)) -/
@[simp] def mLr1 (m : ME) : MA := fun env => (m env).bind fun d e => match d with
  | .int j => if inR j = true ∧ j.toNat ≤ sizeLine then .ok (upto 0 j.toNat) e else .bad
  | _ => .bad
@[simp] def mLr2 (ma mb : ME) : MA := fun env => (ma env).bind fun d e => (mb e).bind fun d2 e2 => match d, d2 with
  | .int i, .int j => if inR i = true ∧ inR j = true ∧ (j - i).toNat ≤ sizeLine then .ok (upto i (j - i).toNat) e2 else .bad
  | _, _ => .bad
theorem rgV_rps {K : PySem.W.Frag} {G : Hp} (i j : Int) : Rps K G (rgV i j) (upto i (j - i).toNat) := by
  unfold rgV upto
  have : ∀ l : List Nat, Rps K G (l.map fun n => V.int (i + (n : Nat))) (l.map fun n => D.int (i + (n : Nat))) := by
    intro l
    induction l with
    | nil => exact .nil
    | cons n l ih => exact .cons (.int _) ih
  exact this _
theorem do_lr1 (hc : X.calm = true) (hg : Gl X "list") (hm : X.mg "list" = none) (hg2 : Gl X "range") (hm2 : X.mg "range" = none) (h : DE X W a ma) (na : starEach [a] X.env = (false, eval a X.env) :: starEach [] X.env := by rfl)
    (nb : starEach [.Call (.Name "range" p2) [a] [] pos2] X.env = (false, eval (.Call (.Name "range" p2) [a] [] pos2) X.env) :: starEach [] X.env := by rfl) : DO X W (.Call (.Name "list" p) [.Call (.Name "range" p2) [a] [] pos2] [] pos) (mFl (mLr1 ma)) := by
  obtain ⟨t, pt, k⟩ := h.run
  refine ⟨_, pe_listRg hc hg hm (prg_1 hg2 hm2 pt na) nb, fun Z G H σ env Q R q => ?_⟩
  refine k Z G H σ env _ R ((PostE.bind (PostE.bind q)).imp fun d e1 G1 H1 R1 s1 q1 v rv => ?_)
  split at q1
  case h_2 => exact q1.elim
  rename_i j
  split at q1
  case isFalse => exact q1.elim
  rename_i hj
  have hj' := inR_ok hj.1
  cases rv
  refine ⟨j, rfl, ⟨by omega, by omega, hj'.1, hj'.2, by have := hj.2; rw [sizeLine_eq] at this; omega⟩, fun l hl => ?_⟩
  obtain ⟨R3, O⟩ := R1.own hl (HM.fl (rgV_rps (K := X.K) (G := G1) 0 j))
  have ej : (j - 0).toNat = j.toNat := by omega
  rw [ej] at O
  exact q1 G1 H1 R1 (Same.refl _) _ _ R3 (Same.refl _) l _ O
theorem do_lr2 (hc : X.calm = true) (hg : Gl X "list") (hm : X.mg "list" = none) (hg2 : Gl X "range") (hm2 : X.mg "range" = none) (ha : DE X W a ma) (hb : DE X W b mb) (na : starEach [a, b] X.env = (false, eval a X.env) :: starEach [b] X.env := by rfl) (nb : starEach [b] X.env = (false, eval b X.env) :: starEach [] X.env := by rfl)
    (nc : starEach [.Call (.Name "range" p2) [a, b] [] pos2] X.env = (false, eval (.Call (.Name "range" p2) [a, b] [] pos2) X.env) :: starEach [] X.env := by rfl) (nd : (backTo pos2 (starEach [b] X.env)).any (·.1) = false := by rfl) : DO X W (.Call (.Name "list" p) [.Call (.Name "range" p2) [a, b] [] pos2] [] pos) (mFl (mLr2 ma mb)) := by
  obtain ⟨t, pt, k⟩ := ha.run
  obtain ⟨u, pu, ku⟩ := hb.run
  refine ⟨_, pe_listRg hc hg hm (prg_2 hg2 hm2 pt pu na nb nd) nc, fun Z G H σ env Q R q => ?_⟩
  refine k Z G H σ env _ R ((PostE.bind (PostE.bind q)).imp fun d e1 G1 H1 R1 s1 q1 v rv => ?_)
  refine ku Z G1 H1 σ e1 _ R1 ((PostE.bind q1).imp fun d2 e2 G2 H2 R2 s2 q2 w rw' => ?_)
  split at q2
  case h_2 => exact q2.elim
  rename_i i j
  split at q2
  case isFalse => exact q2.elim
  rename_i hj
  have h1 := inR_ok hj.1
  have h2 := inR_ok hj.2.1
  cases rv
  cases rw'
  refine ⟨i, j, rfl, rfl, ⟨h1.1, h1.2, h2.1, h2.2, by have := hj.2.2; rw [sizeLine_eq] at this; omega⟩, fun l hl => ?_⟩
  obtain ⟨R3, O⟩ := R2.own hl (HM.fl (rgV_rps (K := X.K) (G := G2) i j))
  exact q2 G2 H2 R2 (Same.refl _) _ _ R3 (Same.refl _) l _ O

/-! ### reversed(xs) -/
theorem itd_revL {K : PySem.W.Frag} {G : Hp} {l : Addr} {xs : List V} {ds : List D} (h : SqL K G l xs) (r : Rps K G xs ds) : ItD K G (Itv K l xs.length) ds.reverse := fun G1 H1 s1 s2 i => by
  have h1 : SqL K H1 l xs := same_l s2 (same_l s1 h)
  refine ⟨fun d e => ?_, fun hi => by rw [List.length_reverse, ← r.length] at hi; exact hi⟩
  have hi : i < ds.length := by
    have := (List.getElem?_eq_some_iff.mp e).1
    rwa [List.length_reverse] at this
  rw [List.getElem?_reverse hi] at e
  obtain ⟨v, hv, rv⟩ := r.get e
  have el : xs.length = ds.length := r.length
  have e1 : xs.length - 1 - i = ds.length - 1 - i := by rw [el]
  exact ⟨⟨by omega, xs, v, h1, by rw [e1]; exact hv⟩, fun x H2 y => by
    obtain ⟨rfl, y⟩ := y
    have e2 := y xs h1
    rw [e1, hv] at e2
    cases e2
    exact ⟨G1, Gr.refl s2, rv.mono s1⟩⟩
@[simp] def mRevL (m : ME) : MA := fun env => (m env).bind fun d e => match d with
  | .lst ds => .ok ds.reverse e
  | _ => .bad
theorem di_revL {tg : Expr} (hg : Gl X "reversed") (hm : X.mg "reversed" = none) (h : DE X W a ma) (na : starEach [a] X.env = (false, eval a X.env) :: starEach [] X.env := by rfl) (hs : starEach [a] X.env = [(false, eval a X.env)] := by rfl) : DI X W tg (.Call (.Name "reversed" p) [a] [] pos) (mRevL ma) := by
  obtain ⟨t, pt, k⟩ := h.run
  refine ⟨_, pi_reversed hg hm (pa_cons pt pa_nil na) hs, fun Z G H σ env Rw R q => ?_⟩
  refine k Z G H σ env _ R ((PostE.bind q).imp fun d e1 G1 H1 R1 s1 q1 v rv => ?_)
  cases rv with
  | @lst l xs ds hx rs => exact ⟨l, xs, rfl, .inl (.inl (R1.gh _ _ hx)), q1 G1 H1 R1 (Same.refl _) _ (itd_revL (.inl (.inl hx)) rs)⟩
  | _ => exact q1.elim
end

/-! ### x not in xs, shifts, bits -/
@[simp] def gNotIn : D → D → Option D := fun x y => match x, y with
  | .int i, .lst ds => (toIs ds).map fun ns => .bl (!ns.contains i)
  | _, _ => none
theorem opd_notin {K : PySem.W.Frag} : OpD K (rIn K true) gNotIn := by
  intro G H x y dx dy d Q e rx ry h k
  unfold gNotIn at h
  split at h
  case h_2 => cases h
  rename_i i ds
  cases ht : toIs ds with
  | none =>
    rw [ht] at h
    cases h
  | some ns =>
    rw [ht] at h
    cases h
    have e2 := toIs_ints ht
    subst e2
    cases rx
    cases ry with
    | @lst a xs _ hx rs =>
    have e3 := Rps.ints rs
    subst e3
    refine ⟨a, _, rfl, .inl (.inl (.inl (e a _ hx))), rfl, ?_, ?_⟩
    · rw [List.all_eq_true]
      intro z hz
      obtain ⟨n, _, rfl⟩ := List.mem_map.mp hz
      rfl
    · rw [if_pos rfl, inV_ints]
      exact k _ G H (Gr.refl e) (.bl _)
def gShl := gI cPow fun i j => i * 2 ^ j.toNat
def gAnd := gI cYes fun i j => Builtin.bitAnd i j
theorem od_shl {K : PySem.W.Frag} : OpD K (rI CPow fun i j => .int (i * 2 ^ j.toNat)) gShl := opd_I fun _ _ h => cPow_ok h
theorem od_and {K : PySem.W.Frag} : OpD K (rI0 fun i j => .int (Builtin.bitAnd i j)) gAnd := opd_I0

/-! ### a copy of a dict by a comprehension -/
def copyD {κ : Type} [DecidableEq κ] (ds : List (κ × D)) : List (κ × D) := ds.foldl (fun acc kv => putD acc kv.1 ((valD ds kv.1).getD .non)) []
def copyV {κ : Type} [DecidableEq κ] (all ds : List (κ × V)) : List (κ × V) := ds.foldl (fun acc kv => putK acc kv.1 ((valV all kv.1).getD .non)) []
theorem copy_rpT {κ : Type} [DecidableEq κ] {K : PySem.W.Frag} {G : Hp} {all : List (κ × V)} {dall : List (κ × D)} (h : RpT K G all dall) : ∀ {ds : List (κ × D)} {kvs : List (κ × V)} {acc : List (κ × V)} {dacc : List (κ × D)}, RpT K G kvs ds → RpT K G acc dacc →
    RpT K G (kvs.foldl (fun acc kv => putK acc kv.1 ((valV all kv.1).getD .non)) acc) (ds.foldl (fun acc kv => putD acc kv.1 ((valD dall kv.1).getD .non)) dacc)
  | [], kvs, acc, dacc, h1, h2 => by
    rw [h1.empty]
    exact h2
  | (k, d) :: ds, kvs, acc, dacc, h1, h2 => by
    obtain ⟨v, r, rfl, rv, hr⟩ := h1.cases
    rw [List.foldl_cons, List.foldl_cons]
    refine copy_rpT h hr (h2.put k ?_)
    have g := h.got k
    cases z : valD dall k with
    | none =>
      rw [z] at g
      have g : valV all k = none := g
      rw [g]
      exact .non
    | some d2 =>
      rw [z] at g
      obtain ⟨v2, e, r2⟩ := g
      rw [e]
      exact r2
theorem copyV_le {κ : Type} [DecidableEq κ] (all : List (κ × V)) : ∀ (ds acc : List (κ × V)), (ds.foldl (fun acc kv => putK acc kv.1 ((valV all kv.1).getD .non)) acc).length ≤ acc.length + ds.length
  | [], acc => by simp
  | p :: ds, acc => by
    rw [List.foldl_cons]
    have := copyV_le all ds (putK acc p.1 ((valV all p.1).getD .non))
    have h2 := length_putK acc p.1 ((valV all p.1).getD .non)
    rw [List.length_cons]
    omega
section
variable {X : Cx} {W : WX} {i j : Nat} {pos : Pos}
theorem pe_orT {e : Expr} {t u : TE} (h1 : PE X e t) (h2 : PE X e u) : PE X e (fun σ H Q => t σ H Q ∨ u σ H Q) := ⟨fun pins s σ H Q I h => h.elim (h1.run pins s σ H Q I) (h2.run pins s σ H Q I)⟩
@[simp] def mDCopy (i j : Nat) : MM := fun env => match env[j]? with
  | some (.sh (.dT ds)) => if i < env.length ∧ i ≠ j ∧ ds.length ≤ sizeLine then .ok (.ft (copyD ds)) env else .bad
  | _ => .bad
theorem dcopy_read {σ : L2.St} {H : Hp} {Q : VK} {d : Addr} {o : Obj} {kvs : List (List Key × V)} (hd : H d = some (.frz o (.dT kvs))) (hj : σ[j]? = some (some (.ref d))) (hi : i < σ.length) (hij : i ≠ j) (hz : kvs.length ≤ sizeLine)
    (q : ∀ p, H p = none → Q (.ref p) (upd H p (.dT (copyV kvs kvs)))) : tDcT (iKeys (tVar j)) (L2.gName i) tYes (tVar i) (tDGet (tVar j) (tVar i)) [i] σ H Q := by
  refine ⟨_, hj, d, o, rfl, .inr ⟨kvs, hd, fun Dd hD => ?_⟩⟩
  have nd : d ≠ Dd := ne_of_none hd hD
  refine ⟨fun n m H' => m = kvs.length - n ∧ n ≤ kvs.length ∧ H' = upd H Dd (.dT (copyV kvs (kvs.take n))), ⟨_, rfl, Nat.zero_le _, rfl⟩, ?_⟩
  rintro n m H' ⟨rfl, hn, rfl⟩
  have hd' : upd H Dd (.dT (copyV kvs (kvs.take n))) d = some (.frz o (.dT kvs)) := by
    rw [upd_ne nd]
    exact hd
  by_cases hlt : n < kvs.length
  · refine .inr ⟨⟨hd', hlt⟩, fun H' => H' = upd H Dd (.dT (copyV kvs (kvs.take (n + 1)))), fun H' e => ⟨_, by omega, rfl, hlt, e⟩, fun x H' y => ?_⟩
    obtain ⟨rfl, k, v, qa, hk, rfl, hq⟩ := y
    have hlen : (wipe σ [i]).length = σ.length := wipe_length σ [i]
    refine ⟨?_, ?_⟩
    · exact ((wipe_set i (some (V.ref qa)) [i] (wipe σ [i])).1 (by simp)).trans (wipe_idem σ [i])
    unfold L2.tYes
    dsimp only
    rw [if_pos rfl]
    have hgi : ((wipe σ [i]).set i (some (V.ref qa)))[i]? = some (some (.ref qa)) := by rw [List.getElem?_set_self (by rw [hlen]; exact hi)]
    have hgj : ((wipe σ [i]).set i (some (V.ref qa)))[j]? = some (some (.ref d)) := by
      rw [List.getElem?_set_ne hij]
      show (σ.set i none)[j]? = _
      rw [List.getElem?_set_ne hij]
      exact hj
    refine ⟨_, hgi, _, hgj, _, hgi, d, (valV kvs k).getD .non, rfl, .inr ⟨kvs, k, qa, .inr ⟨o, hd'⟩, rfl, hq, ?_⟩, ?_⟩
    · have hs : (valV kvs k).isSome = true := by
        rw [← valV_any]
        refine List.any_eq_true.mpr ⟨(k, v), List.mem_of_getElem? hk, ?_⟩
        exact decide_eq_true rfl
      cases z : valV kvs k with
      | none =>
        rw [z] at hs
        cases hs
      | some w => rfl
    · refine ⟨copyV kvs (kvs.take n), k, qa, rfl, hq, upd_same, ?_, ?_⟩
      · have h1 := copyV_le kvs (kvs.take n) []
        have h2 : (kvs.take n).length = n := by rw [List.length_take]; omega
        unfold copyV
        rw [List.length_nil, h2] at h1
        omega
      · rw [upd_upd]
        congr 2
        rw [List.take_add_one, hk]
        unfold copyV
        rw [Option.toList_some, List.foldl_append]
        rfl
  · have en : n = kvs.length := by omega
    subst en
    refine .inl ⟨⟨hd', Nat.le_refl _⟩, ?_⟩
    rw [List.take_length]
    exact q Dd hD
theorem do_dcopy {kx vx o1 o2 e1 : Expr} {scope : Scope} {own : List (Str × Nat)} {tg : Expr} {tpos : Pos} (hc : X.calm = true) (hu : X.A.units + 1 < cLine) (hN : X.N.Nodup) (ok : BlkOk X.N X.env.scope scope own) (hown : own.map (·.2) = [i]) (hi : PE X o1 (tVar j))
    (hg : ∀ (s : Shared) (H : Hp) (C : Addr) (cl : List (Str × Addr)) (fp : List Addr), PG (X.blk s H scope (compEnvC scope cl C X.env) fp) tg (L2.gName i))
    (hk : ∀ (s : Shared) (H : Hp) (C : Addr) (cl : List (Str × Addr)) (fp : List Addr), PE (X.blk s H scope (compEnvC scope cl C X.env) fp) kx (tVar i))
    (ho : ∀ (s : Shared) (H : Hp) (C : Addr) (cl : List (Str × Addr)) (fp : List Addr), PE (X.blk s H scope (compEnvC scope cl C X.env) fp) o2 (tVar j))
    (hv : ∀ (s : Shared) (H : Hp) (C : Addr) (cl : List (Str × Addr)) (fp : List Addr), PE (X.blk s H scope (compEnvC scope cl C X.env) fp) e1 (tVar i)) (hs : ∀ x, foldedSetIterable o1 X.env x = pure x := by intro _; rfl) (hn : NoSl e1 := by intro _ _; rfl) :
    DO X W (.DictComp kx (.Subscript o2 e1 tpos) [⟨tg, o1, [], 0⟩] scope pos) (mDCopy i j) := by
  have base := pe_dcT (kx := kx) (vx := .Subscript o2 e1 tpos) (ifs := []) (pos := pos) hc hu hN (pi_keys (tg := tg) hi) ok hg (fun _ _ _ _ _ => pts_nil) hk (fun s H C cl fp => pe_dget (X := X.blk s H scope (compEnvC scope cl C X.env) fp) hu (ho s H C cl fp) (hv s H C cl fp) hn) hs
  rw [hown] at base
  refine ⟨_, pe_orT (pe_lock base) base, fun Z G H σ env Q R q => ?_⟩
  unfold mDCopy at q
  split at q
  case h_2 => exact q.elim
  rename_i ds em
  split at q
  case isFalse => exact q.elim
  rename_i hcnd
  obtain ⟨h1, h2, h3⟩ := hcnd
  have hiσ : i < σ.length := by
    rw [← R.len]
    exact h1
  obtain ⟨v, ev, rv⟩ := R.sh em
  cases rv with
  | @dT d kvs _ hr m rs =>
    have t : RpT X.K G kvs ds := ⟨m, rs⟩
    have tc : RpT X.K G (copyV kvs kvs) (copyD ds) := copy_rpT t t .nil
    have fin : ∀ p, H p = none → Q (.ref p) (upd H p (.dT (copyV kvs kvs))) := fun p hp => by
      obtain ⟨R3, O⟩ := R.own (m := .ft (copyD ds)) hp ⟨_, rfl, tc.1, tc.2⟩
      exact q G _ R3 (Same.refl _) p _ O
    rcases hr with hr | ⟨o, hr⟩
    · have hH := R.gh _ _ hr
      refine .inl ⟨d, _, hH, trivial, fun od => ?_⟩
      refine dcopy_read (o := od) upd_same ev hiσ h2 (by rw [t.length]; exact h3) fun p hp => ?_
      have np : d ≠ p := fun z => by
        rw [← z, upd_same] at hp
        cases hp
      have hp' : H p = none := by
        rw [upd_ne (Ne.symm np)] at hp
        exact hp
      refine ⟨by rw [upd_ne np, upd_same], ?_⟩
      have e : upd (upd (upd H d (.frz od (.dT kvs))) p (.dT (copyV kvs kvs))) d (.dT kvs) = upd H p (.dT (copyV kvs kvs)) := by
        funext b
        by_cases hb : b = d
        · subst hb
          rw [upd_same, upd_ne np, hH]
        · rw [upd_ne hb]
          by_cases hb2 : b = p
          · subst hb2
            rw [upd_same, upd_same]
          · rw [upd_ne hb2, upd_ne hb, upd_ne hb2]
      rw [e]
      exact fin p hp'
    · exact .inr (dcopy_read (R.gh _ _ hr) ev hiσ h2 (by rw [t.length]; exact h3) fin)
end
end No
end

section
set_option Elab.async false
set_option linter.all false
set_option maxRecDepth 100000
set_option maxHeartbeats 1000000
namespace No
open PySem PySem.Spec PyProof.Rows L2

section
variable {X : Cx}
theorem dcT_core {pins : List (Addr × Obj)} {s : Shared} {σ : L2.St} {H : Hp} {Q : VK} {kx vx tg iter : Expr} {ifs : List Expr} {scope : Scope} {own : List (Str × Nat)} {pos pos' : Pos} {wi : TI} {g : TG} {tt : TT} {tk tv : TE} {use : Option (Value → Sem Unit)} {Qf : Value → Shared → Prop}
    (I : Inv X pins σ H s) (hc : X.calm = true) (hu : X.A.units + 1 < cLine) (hN : X.N.Nodup) (hi : PI X tg iter wi) (ok : BlkOk X.N X.env.scope scope own)
    (hg : ∀ (s : Shared) (H : Hp) (C : Addr) (cl : List (Str × Addr)) (fp : List Addr), PG (X.blk s H scope (compEnvC scope cl C X.env) fp) tg g) (ht : ∀ (s : Shared) (H : Hp) (C : Addr) (cl : List (Str × Addr)) (fp : List Addr), PTs (X.blk s H scope (compEnvC scope cl C X.env) fp) ifs tt)
    (hk : ∀ (s : Shared) (H : Hp) (C : Addr) (cl : List (Str × Addr)) (fp : List Addr), PE (X.blk s H scope (compEnvC scope cl C X.env) fp) kx tk)
    (he : ∀ (s : Shared) (H : Hp) (C : Addr) (cl : List (Str × Addr)) (fp : List Addr), PE (X.blk s H scope (compEnvC scope cl C X.env) fp) vx tv) (hs : ∀ x, foldedSetIterable iter X.env x = pure x := by intro _; rfl)
    (h : tDcT wi g tt tk tv (own.map (·.2)) σ H Q)
    (hRR : ∀ D C s' m H', Inv X pins σ H' s' → Q (.ref D) H' → s'.heap.Ns C m → FpOk X pins H' C → compPost (model X.prog X.w) X.A X.xe use Qf (.ref D) C (.ok .next) s') :
    wpAny (model X.prog X.w) X.A (comprehension (.DictComp kx vx [⟨tg, iter, ifs, 0⟩] scope pos) scope X.env pos' newDict false (eval iter X.env) use) Qf X.xe s := by
  have free : ∀ y ∈ scope.names, y.2 = .free → ∃ c, X.env.cells.lookup y.1 = some c := fun y hy e => (ok.free y hy e).elim (fun k => I.ok.has _ (.inl k)) fun k => I.ok.has _ (.inr k)
  refine wpAny_comprehension_free (use := use) rfl hs (closure_ok free) ok.kind (fun y hy e => by rw [ok.uniq y hy, e])
    (thn (hi.run pins s σ H _ I h) fun xv s1 hx => thn hx fun itv s2 h2 => ?_)
  obtain ⟨it, fp, tn, J, H2, rfl, I2, T, st2, f2, q⟩ := h2
  refine wpAny_newObj_type (newEnv_comp ?_)
  generalize hDd : s2.heap.objs.size = Dd
  have nD : H2 Dd = none := I2.hok.fresh (Nat.le_of_eq hDd)
  obtain ⟨W, ⟨m0, w0⟩, turn⟩ := q Dd nD
  generalize es3 : ({ s2 with heap := s2.heap.push { cls := .type "dict", data := .dict #[] } } : Shared) = s3
  have J3 : Inv X pins σ (upd H2 Dd (.dT [])) s3 := by
    subst es3
    refine I2.laid (t' := s2.toks) (fun b o e => Heap.get?_push_of_some _ e) (Nat.le_of_eq hDd) ?_
    subst hDd
    exact dt_empty s2.heap I2.big
  have hp3 : s3.heap = s2.heap.push { cls := .type "dict", data := .dict #[] } := by rw [← es3]
  have lts : ∀ b ∈ fp, b < s2.heap.objs.size := fun b hb => (T.obj _ _ st2 b hb).elim fun o e => Heap.lt_size e.1
  have F3 : ∀ b ∈ fp, FpOk X pins (upd H2 Dd (.dT [])) b ∧ b < s3.heap.objs.size := fun b hb => by
    have hlt := lts b hb
    refine ⟨⟨?_, (f2 b hb).2⟩, by rw [hp3, Heap.size_push]; exact Nat.lt_succ_of_lt hlt⟩
    rw [upd_ne (show b ≠ Dd by rw [← hDd]; exact Nat.ne_of_lt hlt)]
    exact (f2 b hb).1
  have tn3 : tn 0 s3.heap := T.keep _ _ _ st2 fun b _ o e => by rw [hp3]; exact Heap.get?_push_of_some _ e
  have J4 := block_start J3 ok hN F3
  generalize hcl : cellsFrom (s3.heap.objs.size + 1) scope.names (cloFrom X.env.cells scope.names []) = cl at J4
  have pg := hg s3 (upd H2 Dd (.dT [])) s3.heap.objs.size cl fp
  have pt := ht s3 (upd H2 Dd (.dT [])) s3.heap.objs.size cl fp
  have pk := hk s3 (upd H2 Dd (.dT [])) s3.heap.objs.size cl fp
  have pv := he s3 (upd H2 Dd (.dT [])) s3.heap.objs.size cl fp
  show codeAny _ _ (.compStart (.DictComp kx vx [⟨tg, iter, ifs, 0⟩] scope pos) 0 (.ref it) (.ref Dd) (compEnvC scope cl s3.heap.objs.size X.env)) (compPost (model X.prog X.w) X.A X.xe use Qf (.ref Dd) s3.heap.objs.size) { s3 with heap := pushCells (s3.heap.push { cls := .type "dict", data := .dict #[] }) scope.names }
  have free3 : ∀ b ∈ fp, (upd H2 Dd (.dT [])) b = none := fun b hb => (F3 b hb).1.1
  generalize hce : compEnvC scope cl s3.heap.objs.size X.env = ce at J4 pg pt pk pv ⊢
  have cL : ce.locals = s3.heap.objs.size := by rw [← hce]; rfl
  generalize hH3 : upd H2 Dd (.dT []) = H3 at J3 J4 pg pt pk pv w0 free3 F3
  generalize es4 : ({ s3 with heap := pushCells (s3.heap.push { cls := .type "dict", data := .dict #[] }) scope.names } : Shared) = s4 at J4 ⊢
  have tn4 : tn 0 s4.heap := T.keep _ _ _ tn3 fun b _ o e => by rw [← es4]; exact pushCells_keeps _ _ _ _ (Heap.get?_push_of_some _ e)
  have foot : ∀ {τ : L2.St} {H' : Hp} {s' : Shared}, Inv (X.blk s3 H3 scope ce fp) [] τ H' s' → (∀ b ∈ fp, H' b = none) → ∀ b ∈ fp, FpOk (X.blk s3 H3 scope ce fp) [] H' b := fun {τ H' s'} K hn b hb =>
    ⟨hn b hb, (K.ok.exf b hb).1, K.ok.exfs b hb, .inl hb, fun x c e => (K.ok.exf b hb).2 x c e, fun p hp => absurd (show p ∈ ([] : List (Addr × Obj)) ++ [] from hp) (by simp)⟩
  refine codeAny_compStart_dict ?_ (T.self X.A 0 _ _ _ tn4 ?_)
  all_goals
    refine compLoop_anyD (fun n s' => ∃ i H', Inv (X.blk s3 H3 scope ce fp) [] (wipe σ (own.map (·.2))) H' s' ∧ tn i s'.heap ∧ (∀ b ∈ fp, H' b = none) ∧ W i n H') ?_ m0 ⟨0, H3, J4, tn4, free3, w0⟩
    rintro n s5 ⟨i, H5, J5, st5, n5, w5⟩
    rcases turn i n H5 w5 with ⟨stop, qq⟩ | ⟨go, Nx, hNx, step⟩
    · have td := T.done (X.blk s3 H3 scope ce fp) rfl rfl rfl hc i [] s5 _ H5 (fun _ _ => False) J5 (foot J5 n5) st5 stop
      refine thnF td fun r s6 ⟨hr, J6⟩ => ?_
      subst hr
      have J7 : Inv X pins σ H5 s6 := J3.call' (ch := fp) J6.os J6.base J6.hok J6.bare fun b hb => ⟨(F3 b hb).1.2.2.2.1, (F3 b hb).1.2.1, (F3 b hb).1.2.2.2.2.1, (F3 b hb).1.2.2.2.2.2⟩
      have nC : H5 s3.heap.objs.size = none := by
        have z : H5 ce.locals = none := J6.free
        rwa [cL] at z
      obtain ⟨m, hn, _⟩ := J6.loc
      have hn : s6.heap.Ns ce.locals m := hn
      rw [cL] at hn
      exact hRR Dd s3.heap.objs.size s6 m H5 J7 qq hn (J3.fpOk (Nat.le_refl _) nC)
    · have ti := T.item (X.blk s3 H3 scope ce fp) rfl rfl rfl hc i [] s5 _ H5 (fun _ _ => False) J5 (foot J5 n5) st5 go
      refine thnF ti fun r s6 ⟨u, hr, h6⟩ => ?_
      subst hr
      refine thnF h6 fun _ s7 ⟨x, H7, J7, r7, y7, st7, n7⟩ => ?_
      have J7p := J7.pinned (foot J7 n7) (T.obj _ _ st7)
      refine thnF (pg.run _ s7 _ H7 x u _ J7p r7 (step x H7 y7)) fun _ s8 ⟨σ8, H8, J8, hw8, q8⟩ => ?_
      refine thnF (pt.run _ s8 σ8 H8 _ J8 q8) fun b s9 ⟨H9, J9, q9⟩ => ?_
      have close : ∀ {s' : Shared} {H' : Hp}, Inv (X.blk s3 H3 scope ce fp) ([] ++ pinsAt fp s7.heap) σ8 H' s' → Nx H' → ∃ m, m < n ∧ ∃ i H', Inv (X.blk s3 H3 scope ce fp) [] (wipe σ (own.map (·.2))) H' s' ∧ tn i s'.heap ∧ (∀ b ∈ fp, H' b = none) ∧ W i m H' := fun {s' H'} K nx => by
        obtain ⟨m', hm, w'⟩ := hNx H' nx
        have still : ∀ b ∈ fp, ∀ o, s7.heap.get? b = some o → s'.heap.get? b = some o ∧ H' b = none := fun b hb o e =>
          (K.pin (b, o) (List.mem_append_right _ (List.mem_append_right _ (mem_pinsAt hb e)))).elim fun z1 z2 => ⟨z1, z2.1⟩
        have hl : (wipe σ (own.map (·.2))).length = σ8.length := by rw [← hw8, wipe_length]
        refine ⟨m', hm, i + 1, H', (K.unpinned (pins := [])).weak hl (fun j v e => ?_), T.keep _ _ _ st7 fun b hb o e => (still b hb o e).1, fun b hb => ?_, w'⟩
        · rw [← hw8] at e
          exact (wipe_some e).1
        · obtain ⟨o, e, _⟩ := T.obj _ _ st7 b hb
          exact (still b hb o e).2
      cases b with
      | false =>
        simp only [Bool.false_eq_true, if_false] at q9 ⊢
        exact close J9 q9
      | true =>
        simp only [if_true] at q9 ⊢
        refine thnF (pk.run _ s9 σ8 H9 _ J9 q9) fun z s10 ⟨yk, H10, J10, r10, q10⟩ => ?_
        refine thnF (pv.run _ s10 σ8 H10 _ J10 q10) fun z2 s11 ⟨yv, H11, J11, r11, kvs, k, b, ek, hbk, hD11, hz11, nx⟩ => ?_
        subst ek
        cases r10
        exact dictSetT (X := X.blk s3 H3 scope ce fp) hu J11 hD11 hz11 hbk r11 fun s12 J12 => close J12 nx

theorem swD_true {kx vx : Expr} {gs : List Comprehension} {scope : Scope} {pos py : Pos} {y : Str} {l : Nat} {env : Env} (hk : env.scope.kind = .function) (hy : env.scope.names.lookup y = some .local) (hl : (py.line == pos.line) = true)
    (ha : (scope.names.any fun (n, k) => n == y && (k == .local || k == .cell)) = false) : swapsWith (.DictComp kx vx gs scope pos) (some (.Name y py)) l env = pure true := by
  have ky : env.kindOf y = some .local := hy
  have hb : env.blockKind = .function := by unfold Env.blockKind; rw [hk]; rfl
  unfold swapsWith
  simp only [hb, ky, ha, Expr.pos, hl]
  rfl
theorem ps_setDcT {i : Nat} {y : Str} {py : Pos} {kx vx tg iter : Expr} {ifs : List Expr} {scope : Scope} {own : List (Str × Nat)} {pos spos : Pos} {wi : TI} {g : TG} {tt : TT} {tk tv : TE} (hy : X.N[i]? = some y) (hyl : X.env.scope.names.lookup y = some .local)
    (hsw : swapsWith (.DictComp kx vx [⟨tg, iter, ifs, 0⟩] scope pos) (some (.Name y py)) spos.line X.env = pure true) (hc : X.calm = true) (hu : X.A.units + 1 < cLine) (hN : X.N.Nodup) (hi : PI X tg iter wi) (ok : BlkOk X.N X.env.scope scope own)
    (hg : ∀ (s : Shared) (H : Hp) (C : Addr) (cl : List (Str × Addr)) (fp : List Addr), PG (X.blk s H scope (compEnvC scope cl C X.env) fp) tg g) (ht : ∀ (s : Shared) (H : Hp) (C : Addr) (cl : List (Str × Addr)) (fp : List Addr), PTs (X.blk s H scope (compEnvC scope cl C X.env) fp) ifs tt)
    (hk : ∀ (s : Shared) (H : Hp) (C : Addr) (cl : List (Str × Addr)) (fp : List Addr), PE (X.blk s H scope (compEnvC scope cl C X.env) fp) kx tk)
    (he : ∀ (s : Shared) (H : Hp) (C : Addr) (cl : List (Str × Addr)) (fp : List Addr), PE (X.blk s H scope (compEnvC scope cl C X.env) fp) vx tv) (hs : ∀ x, foldedSetIterable iter X.env x = pure x := by intro _; rfl) :
    PS X (.Assign [.Name y py] (.DictComp kx vx [⟨tg, iter, ifs, 0⟩] scope pos) spos) (tAsg (tDcT wi g tt tk tv (own.map (·.2))) (L2.gName i)) := by
  refine ⟨fun pins s σ H D I h => ?_⟩
  rw [exec_Assign_Name_used _ _ _ _ hsw]
  refine wpAny_bind (wpAny_standAt (wpAny_bind ?_))
  show wpAny _ X.A (do let _ ← comprehension (.DictComp kx vx [⟨tg, iter, ifs, 0⟩] scope pos) scope X.env (firstIterPos [⟨tg, iter, ifs, 0⟩] pos) newDict false (eval iter X.env) (some (assign (.Name y py) X.env))) _ _ s
  have h : tDcT wi g tt tk tv (own.map (·.2)) σ H (fun x H1 => L2.gName i x σ H1 D.nx) := h
  refine wpAny_bind (thn (dcT_core (Qf := fun _ s' => SP X pins D .next s') I hc hu hN hi ok hg ht hk he hs h fun L C s' m H' I' q hn f => ?_) fun _ s' hq => wpAny_pure (wpAny_pure hq))
  show wpAny _ _ (assign (.Name y py) X.env (.ref L)) _ _ _
  refine wpAny_assign_Name (store_ok2 (v := V.ref L) I' hN hy (.inl hyl) rfl (fun s2 I2 ⟨a, sb, ha⟩ => ?_) (.inr hyl))
  obtain ⟨f0, f1, f2, f3, f4, f5⟩ := f
  have haC : C ≠ a := by
    rcases ha with z | z
    · rw [z]; exact f1
    · exact fun e => f4 y a z e.symm
  refine ⟨m, hn.sameBut sb haC, fun h3 sb3 => ?_⟩
  exact ⟨_, H', I2.turned (t' := s2.toks) (fun b o hb e => (sb3.2 b hb).trans e) f0 f1 f3 f4 f5, q⟩
theorem ps_orT {st : Stmt} {t u : TS} (h1 : PS X st t) (h2 : PS X st u) : PS X st (fun D σ H => t D σ H ∨ u D σ H) := ⟨fun pins s σ H D I h => h.elim (h1.run pins s σ H D I) (h2.run pins s σ H D I)⟩
end
section
variable {X : Cx} {W : WX} {i j z : Nat}
/-- name = {x: d[x] for x in d} -/
theorem ds_dcopy {kx o1 o2 e1 : Expr} {scope : Scope} {own : List (Str × Nat)} {tg : Expr} {tpos pos py spos : Pos} {y : Str} (hc : X.calm = true) (hu : X.A.units + 1 < cLine) (hN : X.N.Nodup) (hy : X.N[z]? = some y) (hyl : X.env.scope.names.lookup y = some .local) (hkd : X.env.scope.kind = .function) (hl : (py.line == pos.line) = true)
    (hsn : (scope.names.any fun (n, k) => n == y && (k == .local || k == .cell)) = false) (ok : BlkOk X.N X.env.scope scope own) (hown : own.map (·.2) = [i]) (hi : PE X o1 (tVar j))
    (hg : ∀ (s : Shared) (H : Hp) (C : Addr) (cl : List (Str × Addr)) (fp : List Addr), PG (X.blk s H scope (compEnvC scope cl C X.env) fp) tg (L2.gName i))
    (hk : ∀ (s : Shared) (H : Hp) (C : Addr) (cl : List (Str × Addr)) (fp : List Addr), PE (X.blk s H scope (compEnvC scope cl C X.env) fp) kx (tVar i))
    (ho : ∀ (s : Shared) (H : Hp) (C : Addr) (cl : List (Str × Addr)) (fp : List Addr), PE (X.blk s H scope (compEnvC scope cl C X.env) fp) o2 (tVar j))
    (hv : ∀ (s : Shared) (H : Hp) (C : Addr) (cl : List (Str × Addr)) (fp : List Addr), PE (X.blk s H scope (compEnvC scope cl C X.env) fp) e1 (tVar i)) (hs : ∀ x, foldedSetIterable o1 X.env x = pure x := by intro _; rfl) (hn : NoSl e1 := by intro _ _; rfl) :
    DS X W (.Assign [.Name y py] (.DictComp kx (.Subscript o2 e1 tpos) [⟨tg, o1, [], 0⟩] scope pos) spos) (sSetO z (mDCopy i j)) := by
  have base := ps_setDcT (i := z) (y := y) (py := py) (spos := spos) (kx := kx) (vx := .Subscript o2 e1 tpos) (ifs := []) (pos := pos) hy hyl (swD_true hkd hyl hl hsn) hc hu hN (pi_keys (tg := tg) hi) ok hg (fun _ _ _ _ _ => pts_nil) hk (fun s H C cl fp => pe_dget (X := X.blk s H scope (compEnvC scope cl C X.env) fp) hu (ho s H C cl fp) (hv s H C cl fp) hn) hs
  rw [hown] at base
  refine ⟨_, ps_orT (ps_lock base) base, fun Z G H σ env Dn R q => ?_⟩
  unfold sSetO mDCopy at q
  split at q
  case h_2 => exact q.elim
  rename_i ds em
  split at q
  case isFalse => exact q.elim
  rename_i hcnd
  obtain ⟨h1, h2, h3⟩ := hcnd
  have hiσ : i < σ.length := by
    rw [← R.len]
    exact h1
  obtain ⟨v, ev, rv⟩ := R.sh em
  cases rv with
  | @dT d kvs _ hr m rs =>
    have t : RpT X.K G kvs ds := ⟨m, rs⟩
    have tc : RpT X.K G (copyV kvs kvs) (copyD ds) := copy_rpT t t .nil
    have fin : ∀ p, H p = none → Dn.nx (σ.set z (some (.ref p))) (upd H p (.dT (copyV kvs kvs))) := fun p hp => by
      obtain ⟨R3, O⟩ := R.own (m := .ft (copyD ds)) hp ⟨_, rfl, tc.1, tc.2⟩
      exact q _ G _ (R3.setOw O.at_ O.gl O.h0 O.rps fun j b n _ => O.ne j b n) (Same.refl _)
    rcases hr with hr | ⟨o, hr⟩
    · have hH := R.gh _ _ hr
      refine .inl ⟨d, _, hH, trivial, fun od => ?_⟩
      refine dcopy_read (o := od) upd_same ev hiσ h2 (by rw [t.length]; exact h3) fun p hp => ?_
      have np : d ≠ p := fun z => by
        rw [← z, upd_same] at hp
        cases hp
      have hp' : H p = none := by
        rw [upd_ne (Ne.symm np)] at hp
        exact hp
      refine ⟨by rw [upd_ne np, upd_same], ?_⟩
      have e : upd (upd (upd H d (.frz od (.dT kvs))) p (.dT (copyV kvs kvs))) d (.dT kvs) = upd H p (.dT (copyV kvs kvs)) := by
        funext b
        by_cases hb : b = d
        · subst hb
          rw [upd_same, upd_ne np, hH]
        · rw [upd_ne hb]
          by_cases hb2 : b = p
          · subst hb2
            rw [upd_same, upd_same]
          · rw [upd_ne hb2, upd_ne hb, upd_ne hb2]
      rw [e]
      exact fin p hp'
    · exact .inr (dcopy_read (R.gh _ _ hr) ev hiσ h2 (by rw [t.length]; exact h3) fin)
end
end No
end

section
set_option Elab.async false
set_option linter.all false
set_option maxRecDepth 100000
set_option maxHeartbeats 1000000
namespace No
open PySem PySem.Spec PyProof.Rows L2

/-! ### typed results -/
inductive Tr (α : Type) where
  | ok (a : α) | exc (x : Exc) | bad
inductive Ot (S L τ : Type) where
  | nx (s : S) | bk (l : L) | ct (l : L) | rt (t : τ) | exc (x : Exc) | bad
section
variable {α β γ S S' L L' τ : Type}
def Tr.bind (q : Tr α) (f : α → Tr β) : Tr β := match q with
  | .ok a => f a
  | .exc x => .exc x
  | .bad => .bad
def Tr.ofO (o : Option α) : Tr α := match o with
  | some a => .ok a
  | none => .bad
def Tr.so (q : Tr α) (f : α → Ot S L τ) : Ot S L τ := match q with
  | .ok a => f a
  | .exc x => .exc x
  | .bad => .bad
/-- a statement, then what follows it; pk: the cells between -/
def Ot.bind (_pk : S → En) (q : Ot S L τ) (f : S → Ot S' L τ) : Ot S' L τ := match q with
  | .nx s => f s
  | .bk l => .bk l
  | .ct l => .ct l
  | .rt t => .rt t
  | .exc x => .exc x
  | .bad => .bad
@[simp] theorem Tr.bind_ok (a : α) (f : α → Tr β) : (Tr.ok a).bind f = f a := rfl
@[simp] theorem Tr.bind_exc (x : Exc) (f : α → Tr β) : (Tr.exc x).bind f = .exc x := rfl
@[simp] theorem Tr.bind_bad (f : α → Tr β) : (Tr.bad : Tr α).bind f = .bad := rfl
@[simp] theorem Tr.ofO_some (a : α) : Tr.ofO (some a) = .ok a := rfl
@[simp] theorem Tr.ofO_none : Tr.ofO (none : Option α) = .bad := rfl
@[simp] theorem Tr.so_ok (a : α) (f : α → Ot S L τ) : (Tr.ok a).so f = f a := rfl
@[simp] theorem Tr.so_exc (x : Exc) (f : α → Ot S L τ) : (Tr.exc x).so f = .exc x := rfl
@[simp] theorem Tr.so_bad (f : α → Ot S L τ) : (Tr.bad : Tr α).so f = .bad := rfl
@[simp] theorem Ot.bind_nx (pk : S → En) (s : S) (f : S → Ot S' L τ) : Ot.bind pk (.nx s) f = f s := rfl
@[simp] theorem Ot.bind_bk (pk : S → En) (s : L) (f : S → Ot S' L τ) : Ot.bind pk (.bk s) f = .bk s := rfl
@[simp] theorem Ot.bind_ct (pk : S → En) (s : L) (f : S → Ot S' L τ) : Ot.bind pk (.ct s) f = .ct s := rfl
@[simp] theorem Ot.bind_rt (pk : S → En) (t : τ) (f : S → Ot S' L τ) : Ot.bind pk (.rt t) f = .rt t := rfl
@[simp] theorem Ot.bind_exc (pk : S → En) (x : Exc) (f : S → Ot S' L τ) : Ot.bind pk (.exc x) f = .exc x := rfl
@[simp] theorem Ot.bind_bad (pk : S → En) (f : S → Ot S' L τ) : Ot.bind pk .bad f = .bad := rfl
/-- for x in xs -/
def forO (pk : S → En) (f : α → S → Ot S S τ) : List α → S → Ot S L τ
  | [], s => .nx s
  | x :: xs, s => match f x s with
    | .nx s => forO pk f xs s
    | .ct s => forO pk f xs s
    | .bk s => .nx s
    | .rt t => .rt t
    | .exc x => .exc x
    | .bad => .bad
/-- while c -/
def whileO (pk : S → En) (c : S → Tr Bool) (f : S → Ot S S τ) : Nat → S → Ot S L τ
  | 0, _ => .bad
  | n + 1, s => (c s).so fun b => if b = true then match f s with
      | .nx s => whileO pk c f n s
      | .ct s => whileO pk c f n s
      | .bk s => .nx s
      | .rt t => .rt t
      | .exc x => .exc x
      | .bad => .bad
    else .nx s
/-- [f x for x in xs]: nothing raised within -/
def lcT (f : α → Tr (Option β)) : List α → Tr (List β)
  | [] => .ok []
  | x :: xs => match f x with
    | .ok o => match lcT f xs with
      | .ok ys => .ok (match o with
        | some y => y :: ys
        | none => ys)
      | _ => .bad
    | _ => .bad
def lcQ (f : α → Tr (Option β)) (xs : List α) : Tr (List β) := if xs.length ≤ sizeLine then lcT f xs else .bad
/-- a def's end -/
def Ot.fn (q : Ot Unit Unit τ) : Tr τ := match q with
  | .rt t => .ok t
  | .exc x => .exc x
  | _ => .bad
def Ot.fnU (q : Ot Unit Unit Unit) : Tr Unit := match q with
  | .rt t => .ok t
  | .nx _ => .ok ()
  | .exc x => .exc x
  | _ => .bad
@[simp] theorem Ot.fn_rt (t : τ) : (Ot.rt t : Ot Unit Unit τ).fn = .ok t := rfl
@[simp] theorem Ot.fn_exc (x : Exc) : (Ot.exc x : Ot Unit Unit τ).fn = .exc x := rfl
@[simp] theorem Ot.fnU_nx (u : Unit) : (Ot.nx u : Ot Unit Unit Unit).fnU = .ok () := rfl
@[simp] theorem Ot.fnU_rt (u : Unit) : (Ot.rt u : Ot Unit Unit Unit).fnU = .ok u := rfl
@[simp] theorem Ot.fnU_exc (x : Exc) : (Ot.exc x : Ot Unit Unit Unit).fnU = .exc x := rfl
end

/-! ### types as data -/
class Emb (α : Type) where
  e : α → D
class EmbM (α : Type) [Emb α] where
  m : α → M
  d : ∀ a, (m a).d = Emb.e a
class EmbL (β : Type) where
  l : β → List D
class EmbK (κ : Type) where
  k : κ → List Key
  inj : ∀ a b, k a = k b → a = b
structure T3 (α β γ : Type) where
  a : α
  b : β
  c : γ
structure Dic (κ α : Type) where
  l : List (κ × α)
/-- the script -/
structure Scr where
  l : List Int
instance : Emb Int := ⟨.int⟩
instance : Emb Bool := ⟨.bl⟩
instance : Emb Str := ⟨.str⟩
instance : Emb D := ⟨id⟩
instance : Emb Unit := ⟨fun _ => .non⟩
instance : Emb Scr := ⟨fun s => .fz (s.l.map D.int)⟩
instance {α : Type} [Emb α] : Emb (List α) := ⟨fun l => .lst (l.map Emb.e)⟩
instance {α β : Type} [Emb α] [Emb β] : Emb (α × β) := ⟨fun p => .tup [Emb.e p.1, Emb.e p.2]⟩
instance {α β γ : Type} [Emb α] [Emb β] [Emb γ] : Emb (T3 α β γ) := ⟨fun p => .tup [Emb.e p.a, Emb.e p.b, Emb.e p.c]⟩
instance : EmbK (Int × Int) := ⟨fun p => [.inl p.1, .inl p.2], fun a b h => by
  simp only [List.cons.injEq, Sum.inl.injEq, and_true] at h
  exact Prod.ext h.1 h.2⟩
def kvD {κ α : Type} [EmbK κ] [Emb α] (p : κ × α) : List Key × D := (EmbK.k p.1, Emb.e p.2)
instance {κ α : Type} [EmbK κ] [Emb α] : Emb (Dic κ α) := ⟨fun d => .dT (d.l.map kvD)⟩
instance {α : Type} [Emb α] : EmbM (List α) := ⟨fun l => .fl (l.map Emb.e), fun _ => rfl⟩
instance {κ α : Type} [EmbK κ] [Emb α] : EmbM (Dic κ α) := ⟨fun d => .ft (d.l.map kvD), fun _ => rfl⟩
instance : EmbL Unit := ⟨fun _ => []⟩
instance {α β : Type} [Emb α] [EmbL β] : EmbL (α × β) := ⟨fun p => Emb.e p.1 :: EmbL.l p.2⟩

/-! ### what a mirror does, typed -/
section
variable {α β γ δ S S' L L' τ : Type}
def SX {A : Type} (r : Res A) (q : Tr α) (f : α → A) (env : En) : Prop := match q with
  | .ok a => r = .ok (f a) env
  | .exc x => ∃ e : En, e.length = env.length ∧ r = .exc x e
  | .bad => True
abbrev SP [Emb α] (r : Res D) (q : Tr α) (env : En) : Prop := SX r q Emb.e env
abbrev ST (r : Res Bool) (q : Tr Bool) (env : En) : Prop := SX r q id env
abbrev SM [Emb α] [EmbM α] (r : Res M) (q : Tr α) (env : En) : Prop := SX r q EmbM.m env
abbrev SA [Emb α] (r : Res (List D)) (q : Tr (List α)) (env : En) : Prop := SX r q (List.map Emb.e) env
abbrev SH [EmbL β] (r : Res (List D)) (q : Tr β) (env : En) : Prop := SX r q EmbL.l env
abbrev SOp (r : Res (Option Int)) (q : Tr (Option Int)) (env : En) : Prop := SX r q id env
theorem SX.bind {A B : Type} {r : Res A} {q : Tr α} {f : α → A} {env : En} {k : A → En → Res B} {g : β → B} {h : α → Tr β} (H : SX r q f env) (K : ∀ a, SX (k (f a) env) (h a) g env) : SX (r.bind k) (q.bind h) g env := by
  cases q with
  | ok a =>
    have H : r = .ok (f a) env := H
    rw [H]
    exact K a
  | exc x =>
    obtain ⟨e, he, H⟩ := H
    rw [H]
    exact ⟨e, he, rfl⟩
  | bad => trivial
theorem SX.ok {A : Type} {a : α} {f : α → A} {env : En} {b : A} (h : b = f a := by rfl) : SX (.ok b env) (Tr.ok a) f env := by
  rw [h]
  exact rfl
theorem SX.ofO {A : Type} {o : Option A} {f : α → A} {env : En} {t : Option α} (h : ∀ a, t = some a → o = some (f a)) : SX (No.ofO o env) (Tr.ofO t) f env := by
  cases t with
  | none => trivial
  | some a =>
    show No.ofO o env = _
    rw [h a rfl]
    rfl

/-! operations by their data -/
class Op1 [Emb α] [Emb γ] (g : D → Option D) (f : α → Option γ) : Prop where
  h : ∀ x z, f x = some z → g (Emb.e x) = some (Emb.e z)
class Op2 [Emb α] [Emb β] [Emb γ] (g : D → D → Option D) (f : α → β → Option γ) : Prop where
  h : ∀ x y z, f x y = some z → g (Emb.e x) (Emb.e y) = some (Emb.e z)
class Op2L [Emb α] [Emb β] [Emb γ] (g : D → D → Option (List D)) (f : α → β → Option (List γ)) : Prop where
  h : ∀ x y z, f x y = some z → g (Emb.e x) (Emb.e y) = some (z.map Emb.e)
class OpC [EmbL β] [Emb γ] (g : List D → Option D) (f : β → Option γ) : Prop where
  h : ∀ x z, f x = some z → g (EmbL.l x) = some (Emb.e z)
class OpCL [EmbL β] [Emb γ] (g : List D → Option (List D)) (f : β → Option (List γ)) : Prop where
  h : ∀ x z, f x = some z → g (EmbL.l x) = some (z.map Emb.e)

/-! expressions -/
section
variable {env : En}
theorem sp_var [Emb α] {i : Nat} {a : α} (h : env[i]? = some (.sh (Emb.e a))) : SP (mVar i env) (.ok a) env := by
  show mVar i env = _
  unfold mVar
  rw [h]
theorem sp_c [Emb α] {d : D} {a : α} (h : d = Emb.e a := by rfl) : SP (mC d env) (.ok a) env := SX.ok h
def tb1 (f : α → Option γ) (qa : Tr α) : Tr γ := qa.bind fun x => .ofO (f x)
def tb2 (f : α → β → Option γ) (qa : Tr α) (qb : Tr β) : Tr γ := qa.bind fun x => qb.bind fun y => .ofO (f x y)
theorem sp_bin [Emb α] [Emb β] [Emb γ] {g : D → D → Option D} {f : α → β → Option γ} [O : Op2 g f] {ma mb : ME} {qa : Tr α} {qb : Tr β} (ha : SP (ma env) qa env) (hb : SP (mb env) qb env) : SP (mBin g ma mb env) (tb2 f qa qb) env :=
  SX.bind ha fun x => SX.bind hb fun y => SX.ofO fun z h => O.h x y z h
theorem sm_bin [Emb α] [Emb β] [Emb γ] {g : D → D → Option (List D)} {f : α → β → Option (List γ)} [O : Op2L g f] {ma mb : ME} {qa : Tr α} {qb : Tr β} (ha : SP (ma env) qa env) (hb : SP (mb env) qb env) : SM (mFl (mBin g ma mb) env) (tb2 f qa qb) env := by
  have h : SA (mBin g ma mb env) (tb2 f qa qb) env := SX.bind ha fun x => SX.bind hb fun y => SX.ofO fun z h => O.h x y z h
  unfold mFl
  have e : tb2 f qa qb = (tb2 f qa qb).bind fun z => .ok z := by cases tb2 f qa qb <;> rfl
  rw [e]
  exact SX.bind h fun a => SX.ok
theorem sp_un [Emb α] [Emb γ] {g : D → Option D} {f : α → Option γ} [O : Op1 g f] {ma : ME} {qa : Tr α} (ha : SP (ma env) qa env) : SP (mUn g ma env) (tb1 f qa) env := SX.bind ha fun x => SX.ofO fun z h => O.h x z h
theorem sp_L [Emb α] [I : EmbM α] {m : MM} {q : Tr α} (h : SM (m env) q env) : SP (mL m env) q env := by
  have e : q = q.bind fun z => .ok z := by cases q <;> rfl
  unfold mL
  rw [e]
  exact SX.bind h fun a => SX.ok (I.d a)
theorem sm_fl [Emb α] {m : MA} {q : Tr (List α)} (h : SA (m env) q env) : SM (mFl m env) q env := by
  have e : q = q.bind fun z => .ok z := by cases q <;> rfl
  unfold mFl
  rw [e]
  exact SX.bind h fun a => SX.ok
/-! argument lists -/
def tPair (qa : Tr α) (qb : Tr β) : Tr (α × β) := qa.bind fun x => qb.bind fun y => .ok (x, y)
theorem sh_nil : SH (mNil env) (.ok ()) env := SX.ok
theorem sh_cons [Emb α] [EmbL β] {ma : ME} {mr : MA} {qa : Tr α} {qb : Tr β} (ha : SP (ma env) qa env) (hb : SH (mr env) qb env) : SH (mCons ma mr env) (tPair qa qb) env := SX.bind ha fun x => SX.bind hb fun y => SX.ok
def tCons' (qa : Tr α) (qb : Tr (List α)) : Tr (List α) := qa.bind fun x => qb.bind fun y => .ok (x :: y)
theorem sa_nil [Emb α] : SA (mNil env) (.ok ([] : List α)) env := SX.ok
theorem sa_cons [Emb α] {ma : ME} {mr : MA} {qa : Tr α} {qb : Tr (List α)} (ha : SP (ma env) qa env) (hb : SA (mr env) qb env) : SA (mCons ma mr env) (tCons' qa qb) env := SX.bind ha fun x => SX.bind hb fun y => SX.ok
/-- a written list -/
def tLst (q : Tr (List α)) : Tr (List α) := q.bind fun l => .ofO (if l.length ≤ sizeLine then some l else none)
theorem sm_lst [Emb α] {m : MA} {q : Tr (List α)} (h : SA (m env) q env) : SM (mFl (mCB gLst m) env) (tLst q) env := sm_fl (SX.bind h fun l => SX.ofO fun z hz => by
  split at hz
  · rename_i hl
    cases hz
    unfold gLst
    rw [if_pos (by rw [List.length_map]; exact hl)]
  · cases hz)
theorem sp_cb [EmbL β] [Emb γ] {g : List D → Option D} {f : β → Option γ} [O : OpC g f] {m : MA} {q : Tr β} (h : SH (m env) q env) : SP (mCB g m env) (tb1 f q) env := SX.bind h fun x => SX.ofO fun z hz => O.h x z hz
theorem sm_cb [EmbL β] [Emb γ] {g : List D → Option (List D)} {f : β → Option (List γ)} [O : OpCL g f] {m : MA} {q : Tr β} (h : SH (m env) q env) : SM (mFl (mCB g m) env) (tb1 f q) env := sm_fl (SX.bind h fun x => SX.ofO fun z hz => O.h x z hz)
/-! tests -/
def tBool (q : Tr Bool) : Tr Bool := q
theorem st_b {m : ME} {q : Tr Bool} (h : SP (m env) q env) : ST (mB m env) q env := by
  have e : q = q.bind fun z => .ok z := by cases q <;> rfl
  unfold mB
  rw [e]
  exact SX.bind h fun a => SX.ok
def tAndT (qa qb : Tr Bool) : Tr Bool := qa.bind fun x => if x = true then qb else .ok false
def tOrT (qa qb : Tr Bool) : Tr Bool := qa.bind fun x => if x = true then .ok true else qb
def tNotT' (qa : Tr Bool) : Tr Bool := qa.bind fun x => .ok (!x)
theorem st_and {ta tb : MT} {qa qb : Tr Bool} (ha : ST (ta env) qa env) (hb : ST (tb env) qb env) : ST (mAnd ta tb env) (tAndT qa qb) env := SX.bind ha fun x => by
  cases x with
  | true => exact hb
  | false => exact SX.ok
theorem st_or {ta tb : MT} {qa qb : Tr Bool} (ha : ST (ta env) qa env) (hb : ST (tb env) qb env) : ST (mOr ta tb env) (tOrT qa qb) env := SX.bind ha fun x => by
  cases x with
  | true => exact SX.ok
  | false => exact hb
theorem st_not {ta : MT} {qa : Tr Bool} (ha : ST (ta env) qa env) : ST (mNot ta env) (tNotT' qa) env := SX.bind ha fun x => SX.ok
theorem sp_notV {ma : ME} {qa : Tr Bool} (ha : SP (ma env) qa env) : SP (mNotV ma env) (tNotT' qa) env := by
  have h := st_b ha
  exact SX.bind h fun x => SX.ok
theorem sp_andV {ma mb : ME} {qa qb : Tr Bool} (ha : SP (ma env) qa env) (hb : SP (mb env) qb env) : SP (mAndV ma mb env) (tAndT qa qb) env := SX.bind (st_b ha) fun x => by
  cases x with
  | true => exact hb
  | false => exact SX.ok
theorem sp_orV {ma mb : ME} {qa qb : Tr Bool} (ha : SP (ma env) qa env) (hb : SP (mb env) qb env) : SP (mOrV ma mb env) (tOrT qa qb) env := SX.bind (st_b ha) fun x => by
  cases x with
  | true => exact SX.ok
  | false => exact hb
def tIfE (qc : Tr Bool) (qa qb : Tr α) : Tr α := qc.bind fun x => if x = true then qa else qb
theorem sp_if [Emb α] {tc : MT} {ma mb : ME} {qc : Tr Bool} {qa qb : Tr α} (hc : ST (tc env) qc env) (ha : SP (ma env) qa env) (hb : SP (mb env) qb env) : SP (mIf tc ma mb env) (tIfE qc qa qb) env := SX.bind hc fun x => by
  cases x with
  | true => exact ha
  | false => exact hb
def tChn (f : α → β → Option Bool) (f' : β → γ → Option Bool) (qa : Tr α) (qb : Tr β) (qc : Tr γ) : Tr Bool := qa.bind fun x => qb.bind fun y => (Tr.ofO (f x y)).bind fun z => if z = true then qc.bind fun w => .ofO (f' y w) else .ok false
theorem sp_chain [Emb α] [Emb β] [Emb γ] {g g' : D → D → Option D} {f : α → β → Option Bool} {f' : β → γ → Option Bool} [O : Op2 g f] [O' : Op2 g' f'] {ma mb mc : ME} {qa : Tr α} {qb : Tr β} {qc : Tr γ} (ha : SP (ma env) qa env) (hb : SP (mb env) qb env) (hc : SP (mc env) qc env) :
    SP (mChain g g' ma mb mc env) (tChn f f' qa qb qc) env := SX.bind ha fun x => SX.bind hb fun y => SX.bind (f := Emb.e) (SX.ofO fun z h => O.h x y z h) fun z => by
  cases z with
  | true => exact SX.bind hc fun w => SX.ofO fun z h => O'.h y w z h
  | false => exact SX.ok
/-! things of its own, looked at as shared -/
def tBor (q : Tr α) : Tr α := match q with
  | .ok a => .ok a
  | _ => .bad
@[simp] theorem tBor_ok (a : α) : tBor (.ok a) = .ok a := rfl
theorem sp_bor [Emb α] {m : ME} {q : Tr α} (h : SP (m (env.map frzC)) q (env.map frzC)) (hs : ∀ a : α, scalD (Emb.e a) = true := by intro _; rfl) : SP (mBor m env) (tBor q) env := by
  cases q with
  | ok a =>
    have h : m (env.map frzC) = .ok (Emb.e a) (env.map frzC) := h
    show mBor m env = _
    unfold mBor
    rw [h]
    dsimp only
    rw [if_pos (hs a)]
  | exc x => trivial
  | bad => trivial
theorem st_bor {m : MT} {q : Tr Bool} (h : ST (m (env.map frzC)) q (env.map frzC)) : ST (mBorT m env) (tBor q) env := by
  cases q with
  | ok a =>
    have h : m (env.map frzC) = .ok a (env.map frzC) := h
    show mBorT m env = _
    unfold mBorT
    rw [h]
    rfl
  | exc x => trivial
  | bad => trivial
/-! what is walked -/
def toOpt (c : Bool) (a : α) : Option α := if c = true then some a else none
def uptoI (lo : Int) (n : Nat) : List Int := (List.range n).map fun i => lo + (i : Nat)
theorem upto_map (lo : Int) (n : Nat) : upto lo n = (uptoI lo n).map Emb.e := by
  unfold upto uptoI
  rw [List.map_map]
  rfl
def tRng1 (q : Tr Int) : Tr (List Int) := q.bind fun j => if inR j = true then .ok (uptoI 0 j.toNat) else .bad
def tRng2 (qa qb : Tr Int) : Tr (List Int) := qa.bind fun i => qb.bind fun j => if inR i = true ∧ inR j = true then .ok (uptoI i (j - i).toNat) else .bad
theorem sa_rng1 {m : ME} {q : Tr Int} (h : SP (m env) q env) : SA (mRng1 (mCons m mNil) env) (tRng1 q) env := by
  have h2 : SA (mCons m mNil env) (q.bind fun j => .ok [j]) env := SX.bind h fun j => SX.bind (h := fun _ => .ok [j]) (q := .ok ()) (f := fun _ => []) (SX.ok) fun _ => SX.ok
  have e : tRng1 q = (q.bind fun j => Tr.ok [j]).bind fun l => match l with
    | [j] => if inR j = true then .ok (uptoI 0 j.toNat) else .bad
    | _ => .bad := by cases q <;> rfl
  rw [e]
  refine SX.bind h2 fun l => ?_
  cases l with
  | nil => trivial
  | cons j l =>
    cases l with
    | nil =>
      show SX (if inR j = true then Res.ok (upto 0 j.toNat) env else .bad) (if inR j = true then Tr.ok (uptoI 0 j.toNat) else .bad) _ _
      split
      · exact SX.ok (upto_map _ _)
      · trivial
    | cons _ _ => trivial
theorem sa_rng2 {ma mb : ME} {qa qb : Tr Int} (ha : SP (ma env) qa env) (hb : SP (mb env) qb env) : SA (mRng2 (mCons ma (mCons mb mNil)) env) (tRng2 qa qb) env := by
  have h2 : SH (mCons ma (mCons mb mNil) env) (tPair qa (tPair qb (.ok ()))) env := sh_cons ha (sh_cons hb sh_nil)
  have e : tRng2 qa qb = (tPair qa (tPair qb (.ok ()))).bind fun p => if inR p.1 = true ∧ inR p.2.1 = true then .ok (uptoI p.1 (p.2.1 - p.1).toNat) else .bad := by
    cases qa with
    | ok a => cases qb <;> rfl
    | _ => rfl
  rw [e]
  refine SX.bind h2 fun p => ?_
  show SX (if inR p.1 = true ∧ inR p.2.1 = true then Res.ok (upto p.1 (p.2.1 - p.1).toNat) env else .bad) _ _ _
  split
  · exact SX.ok (upto_map _ _)
  · trivial
theorem sa_items [Emb α] {m : ME} {q : Tr (List α)} (h : SP (m env) q env) : SA (mItems m env) q env := by
  have e : q = q.bind fun z => .ok z := by cases q <;> rfl
  rw [e]
  exact SX.bind h fun a => SX.ok
theorem sa_revL [Emb α] {m : ME} {q : Tr (List α)} (h : SP (m env) q env) : SA (mRevL m env) (q.bind fun l => .ok l.reverse) env := SX.bind h fun a => SX.ok (by rw [List.map_reverse])
theorem sa_script {m : ME} {q : Tr Scr} (h : SP (m env) q env) : SA (mItems m env) (q.bind fun s => .ok s.l) env := SX.bind h fun a => SX.ok
def enumI (l : List α) : List (Int × α) := (List.range l.length).zip l |>.map fun p => ((p.1 : Nat), p.2)
theorem enum_map [Emb α] (l : List α) : pairs (l.map Emb.e) = (enumI l).map Emb.e := by
  unfold pairs enumI
  refine List.ext_getElem (by simp) fun i h1 h2 => ?_
  have hi : i < l.length := by simpa using h1
  simp [hi, Emb.e]
theorem sa_enum [Emb α] {m : ME} {q : Tr (List α)} (h : SP (m env) q env) : SA (mEnum (mCons m mNil) env) (q.bind fun l => .ok (enumI l)) env := by
  have h2 : SH (mCons m mNil env) (tPair q (.ok ())) env := sh_cons h sh_nil
  have e : (q.bind fun l => .ok (enumI l)) = (tPair q (.ok ())).bind fun p => .ok (enumI p.1) := by cases q <;> rfl
  rw [e]
  exact SX.bind h2 fun p => SX.ok (enum_map p.1)
/-! list(range(..)) -/
def tLr1 (q : Tr Int) : Tr (List Int) := q.bind fun j => if inR j = true ∧ j.toNat ≤ sizeLine then .ok (uptoI 0 j.toNat) else .bad
def tLr2 (qa qb : Tr Int) : Tr (List Int) := qa.bind fun i => qb.bind fun j => if inR i = true ∧ inR j = true ∧ (j - i).toNat ≤ sizeLine then .ok (uptoI i (j - i).toNat) else .bad
theorem sm_lr1 {m : ME} {q : Tr Int} (h : SP (m env) q env) : SM (mFl (mLr1 m) env) (tLr1 q) env := sm_fl (SX.bind h fun j => by
  show SX (if inR j = true ∧ j.toNat ≤ sizeLine then Res.ok (upto 0 j.toNat) env else .bad) _ _ _
  split
  · exact SX.ok (upto_map _ _)
  · trivial)
theorem sm_lr2 {ma mb : ME} {qa qb : Tr Int} (ha : SP (ma env) qa env) (hb : SP (mb env) qb env) : SM (mFl (mLr2 ma mb) env) (tLr2 qa qb) env := sm_fl (SX.bind ha fun i => SX.bind hb fun j => by
  show SX (if inR i = true ∧ inR j = true ∧ (j - i).toNat ≤ sizeLine then Res.ok (upto i (j - i).toNat) env else .bad) _ _ _
  split
  · exact SX.ok (upto_map _ _)
  · trivial)
/-! slices -/
def tPart (q : Tr Int) : Tr (Option Int) := q.bind fun i => .ok (some i)
theorem so_noP : SOp (mNoP env) (.ok none) env := SX.ok
theorem so_part {m : ME} {q : Tr Int} (h : SP (m env) q env) : SOp (mPart m env) (tPart q) env := SX.bind h fun i => SX.ok
def cutT (xs : List α) (lo hi : Option Int) : List α := (xs.drop (HT.sIx xs.length 0 lo)).take (HT.sIx xs.length xs.length hi - HT.sIx xs.length 0 lo)
def tSl (q : Tr (List α)) (ql qh : Tr (Option Int)) : Tr (List α) := q.bind fun l => ql.bind fun a => qh.bind fun b => .ok (cutT l a b)
theorem sm_sl [Emb α] {m : ME} {ml mh : MO} {q : Tr (List α)} {ql qh : Tr (Option Int)} (h : SP (m env) q env) (hl : SOp (ml env) ql env) (hh : SOp (mh env) qh env) : SM (mFl (mSl m ml mh) env) (tSl q ql qh) env := sm_fl (SX.bind h fun l => SX.bind hl fun a => SX.bind hh fun b => SX.ok (by
  show cutD (l.map Emb.e) a b = _
  unfold cutD cutT
  rw [List.length_map, List.map_take, List.map_drop]))
/-! comprehensions -/
theorem sm_lc [Emb α] [Emb β] {g : D → En → Option En} {mi : MA} {t : MT} {el : ME} {vs : List Nat} {qi : Tr (List α)} {f : α → Tr (Option β)} (hi : SA (mi env) qi env) (hn : noOw env vs = true) (hr : restE env (wipeE env vs) vs = env)
    (hb : ∀ x, ∃ e1, g (Emb.e x) (wipeE env vs) = some e1 ∧ match f x with
      | .ok (some y) => ∃ e2 e3, t e1 = .ok true e2 ∧ el e2 = .ok (Emb.e y) e3 ∧ wipeE e3 vs = wipeE env vs
      | .ok none => ∃ e2, t e1 = .ok false e2 ∧ wipeE e2 vs = wipeE env vs
      | _ => True) : SM (mFl (mLc g mi t el vs) env) (qi.bind (lcQ f)) env := sm_fl (SX.bind hi fun xs => by
  unfold lcQ
  by_cases hz : xs.length ≤ sizeLine
  case neg =>
    rw [if_neg hz]
    trivial
  rw [if_pos hz, if_pos ⟨by rw [List.length_map]; exact hz, hn⟩]
  have key : ∀ (xs : List α) (ys : List β), lcT f xs = .ok ys → runLc g t el vs (xs.map Emb.e) (wipeE env vs) = .ok (ys.map Emb.e) (wipeE env vs) := by
    intro xs
    induction xs with
    | nil =>
      intro ys h
      cases h
      rfl
    | cons x xs ih =>
      intro ys h
      unfold lcT at h
      obtain ⟨e1, hg, hf⟩ := hb x
      rw [List.map_cons]
      unfold runLc
      rw [hg]
      dsimp only
      cases hq : f x with
      | exc _ =>
        rw [hq] at h
        cases h
      | bad =>
        rw [hq] at h
        cases h
      | ok o =>
        rw [hq] at h hf
        dsimp only at h
        cases hq2 : lcT f xs with
        | exc _ =>
          rw [hq2] at h
          cases h
        | bad =>
          rw [hq2] at h
          cases h
        | ok zs =>
          rw [hq2] at h
          dsimp only at h
          cases o with
          | none =>
            obtain ⟨e2, h1, h2⟩ := hf
            cases h
            rw [h1]
            dsimp only
            rw [if_neg Bool.false_ne_true, h2]
            exact ih _ hq2
          | some y =>
            obtain ⟨e2, e3, h1, h2, h3⟩ := hf
            cases h
            rw [h1]
            dsimp only
            rw [if_pos rfl, h2]
            dsimp only
            rw [h3, ih _ hq2]
            rfl
  cases hq : lcT f xs with
  | exc x => 
    exfalso
    have : ∀ (xs : List α) x, lcT f xs ≠ .exc x := by
      intro xs
      induction xs with
      | nil => intro x h; cases h
      | cons y ys ih =>
        intro x h
        unfold lcT at h
        generalize f y = fy at h
        cases fy with
        | ok o =>
          dsimp only at h
          generalize lcT f ys = l at h ih
          cases l with
          | ok zs => cases h
          | exc z => cases h
          | bad => cases h
        | exc _ => cases h
        | bad => cases h
    exact this xs x hq
  | bad => trivial
  | ok ys =>
    rw [key xs ys hq]
    show Res.ok _ _ = _
    rw [hr])
/-- an element, no test -/
theorem lc_elt [Emb β] {e1 env0 : En} {vs : List Nat} {el : ME} {q : Tr β} (h : SP (el e1) q e1) (hw : wipeE e1 vs = env0) : match (q.bind fun y => Tr.ok (some y)) with
      | .ok (some y) => ∃ e2 e3, mYes e1 = .ok true e2 ∧ el e2 = .ok (Emb.e y) e3 ∧ wipeE e3 vs = env0
      | .ok none => ∃ e2, mYes e1 = .ok false e2 ∧ wipeE e2 vs = env0
      | _ => True := by
  cases q with
  | ok y => exact ⟨e1, e1, rfl, h, hw⟩
  | exc x => trivial
  | bad => trivial
def tFil (qt : Tr Bool) (q : Tr β) : Tr (Option β) := qt.bind fun b => if b = true then q.bind fun y => .ok (some y) else .ok none
theorem lc_tst [Emb β] {e1 env0 : En} {vs : List Nat} {el : ME} {t : MT} {qt : Tr Bool} {q : Tr β} (ht : ST (t e1) qt e1) (h : SP (el e1) q e1) (hw : wipeE e1 vs = env0) : match tFil qt q with
      | .ok (some y) => ∃ e2 e3, t e1 = .ok true e2 ∧ el e2 = .ok (Emb.e y) e3 ∧ wipeE e3 vs = env0
      | .ok none => ∃ e2, t e1 = .ok false e2 ∧ wipeE e2 vs = env0
      | _ => True := by
  cases qt with
  | ok b =>
    cases b with
    | true =>
      cases q with
      | ok y => exact ⟨e1, e1, ht, h, hw⟩
      | exc x => trivial
      | bad => trivial
    | false => exact ⟨e1, ht, hw⟩
  | exc x => trivial
  | bad => trivial
/-! calls -/
/-- what a def hands back, typed -/
def SF [Emb α] (r : FR) (q : Tr α) : Prop := match q with
  | .ok a => r = .sh (Emb.e a) ∨ ∃ m, r = .ow m ∧ m.d = Emb.e a
  | .exc x => r = .exc x
  | .bad => True
def SFO [Emb α] [EmbM α] (r : FR) (q : Tr α) : Prop := match q with
  | .ok a => r = .ow (EmbM.m a)
  | .exc x => r = .exc x
  | .bad => True
theorem SFO.sf [Emb α] [I : EmbM α] {r : FR} {q : Tr α} (h : SFO r q) : SF r q := by
  cases q with
  | ok a => exact .inr ⟨_, h, I.d a⟩
  | exc x => exact h
  | bad => trivial
theorem sp_call [EmbL β] [Emb α] {n : Nat} {f : List D → FR} {m : MA} {q : Tr β} {qf : β → Tr α} (h : SH (m env) q env) (hf : ∀ p, SF (f (EmbL.l p)) (qf p)) (hn : ∀ p : β, (EmbL.l p).length = n := by intro _; rfl) : SP (mCall n f m env) (q.bind qf) env := SX.bind h fun p => by
  have hp := hf p
  rw [if_pos (hn p)]
  cases hq : qf p with
  | ok a =>
    rw [hq] at hp
    rcases hp with hp | ⟨w, hp, hd⟩
    · rw [hp]
      exact SX.ok
    · rw [hp]
      exact SX.ok hd
  | exc x =>
    rw [hq] at hp
    have hp : f (EmbL.l p) = .exc x := hp
    rw [hp]
    exact ⟨env, rfl, rfl⟩
  | bad => trivial
theorem sm_call [EmbL β] [Emb α] [EmbM α] {n : Nat} {f : List D → FR} {m : MA} {q : Tr β} {qf : β → Tr α} (h : SH (m env) q env) (hf : ∀ p, SFO (f (EmbL.l p)) (qf p)) (hn : ∀ p : β, (EmbL.l p).length = n := by intro _; rfl) : SM (mCallO n f m env) (q.bind qf) env := SX.bind h fun p => by
  have hp := hf p
  rw [if_pos (hn p)]
  cases hq : qf p with
  | ok a =>
    rw [hq] at hp
    have hp : f (EmbL.l p) = .ow (EmbM.m a) := hp
    rw [hp]
    exact SX.ok
  | exc x =>
    rw [hq] at hp
    have hp : f (EmbL.l p) = .exc x := hp
    rw [hp]
    exact ⟨env, rfl, rfl⟩
  | bad => trivial
end
end
end No
end

section
set_option Elab.async false
set_option linter.all false
set_option maxRecDepth 100000
set_option maxHeartbeats 1000000
namespace No
open PySem PySem.Spec PyProof.Rows L2

section
variable {α β γ δ S S' L L' τ : Type}
/-! ### statements -/
def SO (o : Out) (q : Ot S L τ) (pS : S → En) (pL : L → En) (rp : τ → Rt → En → Prop) (N : Nat) : Prop := match q with
  | .nx s => o = .nx (pS s)
  | .bk l => o = .bk (pL l)
  | .ct l => o = .ct (pL l)
  | .rt t => ∃ r e, o = .rt r e ∧ rp t r e
  | .exc x => ∃ e : En, e.length = N ∧ o = .exc x e
  | .bad => True
/-- shared or its own -/
def rpA [Emb τ] (t : τ) (r : Rt) (_ : En) : Prop := r = .sh (Emb.e t) ∨ ∃ m, r = .ow m ∧ m.d = Emb.e t
def rpO [Emb τ] [EmbM τ] (t : τ) (r : Rt) (_ : En) : Prop := r = .ow (EmbM.m t)
/-- with the list that is lent in slot j -/
def rpAL [Emb τ] (N : Nat) (t : τ × List Int) (r : Rt) (e : En) : Prop := rpA t.1 r e ∧ e[0]? = some (.ow true (.fl (t.2.map D.int))) ∧ e.length = N
def rpOL [Emb τ] [EmbM τ] (N : Nat) (t : τ × List Int) (r : Rt) (e : En) : Prop := rpO t.1 r e ∧ e[0]? = some (.ow true (.fl (t.2.map D.int))) ∧ e.length = N
section
variable {env : En} {pS : S → En} {pS' : S' → En} {pL : L → En} {rp : τ → Rt → En → Prop} {N : Nat} {m m1 m2 m3 : MS} {pk : S → En}
theorem SO.of {A : Type} {r : Res A} {q : Tr α} {f : α → A} {k : A → En → Out} {h : α → Ot S L τ} (H : SX r q f env) (hN : env.length = N) (K : ∀ a, SO (k (f a) env) (h a) pS pL rp N) : SO (r.so k) (q.so h) pS pL rp N := by
  cases q with
  | ok a =>
    have H : r = .ok (f a) env := H
    rw [H]
    exact K a
  | exc x =>
    obtain ⟨e, he, H⟩ := H
    rw [H]
    exact ⟨e, he.trans hN, rfl⟩
  | bad => trivial
def sqO (m2 : MS) : Out → Out := fun o => match o with
  | .nx e => m2 e
  | o => o
theorem SO.seq {o : Out} {q : Ot S L τ} {k : S → Ot S' L τ} (h : SO o q pk pL rp N) (K : ∀ s, SO (m2 (pk s)) (k s) pS' pL rp N) : SO (sqO m2 o) (Ot.bind pk q k) pS' pL rp N := by
  cases q with
  | nx s =>
    have h : o = .nx (pk s) := h
    rw [h]
    exact K s
  | bk l =>
    have h : o = .bk (pL l) := h
    rw [h]
    exact rfl
  | ct l =>
    have h : o = .ct (pL l) := h
    rw [h]
    exact rfl
  | rt t =>
    obtain ⟨r, e, h, h2⟩ := h
    rw [h]
    exact ⟨r, e, rfl, h2⟩
  | exc x =>
    obtain ⟨e, h2, h⟩ := h
    rw [h]
    exact ⟨e, h2, rfl⟩
  | bad => trivial
theorem so_seq {q : Ot S L τ} {k : S → Ot S' L τ} (h : SO (m1 env) q pk pL rp N) (K : ∀ s, SO (m2 (pk s)) (k s) pS' pL rp N) : SO (sSeq m1 m2 env) (Ot.bind pk q k) pS' pL rp N := by
  have e : sSeq m1 m2 env = sqO m2 (m1 env) := by
    unfold sSeq sqO
    cases m1 env <;> rfl
  rw [e]
  exact h.seq K
theorem so_nx {s : S} (h : env = pS s := by rfl) : SO (sNx env) (.nx s : Ot S L τ) pS pL rp N := by
  rw [h]
  exact rfl
/-! forgetting -/
def fgE (fs vs : List Nat) (env : En) : En := vs.foldl (fun e i => e.set i .no) (fs.foldl (fun e i => frz i e) env)
def sFg (fs vs : List Nat) : MS := fun env => .nx (fgE fs vs env)
def sCtF (fs vs : List Nat) : MS := fun env => .ct (fgE fs vs env)
def sBkF (fs vs : List Nat) : MS := fun env => .bk (fgE fs vs env)
def sPre (fs vs : List Nat) (m : MS) : MS := fun env => m (fgE fs vs env)
theorem so_fg {fs vs : List Nat} {s : S} (h : fgE fs vs env = pS s := by rfl) : SO (sFg fs vs env) (.nx s : Ot S L τ) pS pL rp N := by
  show Out.nx _ = _
  rw [h]
theorem so_ctF {fs vs : List Nat} {l : L} (h : fgE fs vs env = pL l := by rfl) : SO (sSeq (sCtF fs vs) m2 env) (.ct l : Ot S L τ) pS pL rp N := by
  show Out.ct _ = _
  rw [h]
theorem so_bkF {fs vs : List Nat} {l : L} (h : fgE fs vs env = pL l := by rfl) : SO (sSeq (sBkF fs vs) m2 env) (.bk l : Ot S L τ) pS pL rp N := by
  show Out.bk _ = _
  rw [h]
theorem so_pre {fs vs : List Nat} {q : Ot S L τ} (h : SO (sSeq m1 m2 (fgE fs vs env)) q pS pL rp N) : SO (sSeq (sPre fs vs m1) m2 env) q pS pL rp N := h
theorem so_frz {i : Nat} {q : Ot S L τ} (h : SO (sSeq m1 m2 (frz i env)) q pS pL rp N) : SO (sSeq (sFrz i m1) m2 env) q pS pL rp N := h
/-! assignments -/
theorem so_set [Emb α] {i : Nat} {e : ME} {q : Tr α} {k : α → Ot S L τ} (h : SP (e env) q env) (K : ∀ a, SO (m2 (env.set i (.sh (Emb.e a)))) (k a) pS pL rp N) (hN : env.length = N := by rfl) : SO (sSeq (sSet i e) m2 env) (q.so k) pS pL rp N := by
  unfold sSeq sSet
  cases q with
  | ok a =>
    have h : e env = .ok (Emb.e a) env := h
    rw [h]
    exact K a
  | exc x =>
    obtain ⟨e1, h2, h⟩ := h
    rw [h]
    exact ⟨e1, h2.trans hN, rfl⟩
  | bad => trivial
theorem so_setO [Emb α] [EmbM α] {i : Nat} {e : MM} {q : Tr α} {k : α → Ot S L τ} (h : SM (e env) q env) (K : ∀ a, SO (m2 (env.set i (.ow false (EmbM.m a)))) (k a) pS pL rp N) (hN : env.length = N := by rfl) : SO (sSeq (sSetO i e) m2 env) (q.so k) pS pL rp N := by
  unfold sSeq sSetO
  cases q with
  | ok a =>
    have h : e env = .ok (EmbM.m a) env := h
    rw [h]
    exact K a
  | exc x =>
    obtain ⟨e1, h2, h⟩ := h
    rw [h]
    exact ⟨e1, h2.trans hN, rfl⟩
  | bad => trivial
theorem so_asg [Emb α] {g : D → En → Option En} {e : ME} {q : Tr α} {k : α → Ot S L τ} (h : SP (e env) q env) (K : ∀ a, ∃ e1, g (Emb.e a) env = some e1 ∧ SO (m2 e1) (k a) pS pL rp N) (hN : env.length = N := by rfl) : SO (sSeq (sAsg g e) m2 env) (q.so k) pS pL rp N := by
  unfold sSeq sAsg
  cases q with
  | ok a =>
    have h : e env = .ok (Emb.e a) env := h
    obtain ⟨e1, hg, K⟩ := K a
    rw [h]
    dsimp only [Res.so]
    rw [hg]
    exact K
  | exc x =>
    obtain ⟨e1, h2, h⟩ := h
    rw [h]
    exact ⟨e1, h2.trans hN, rfl⟩
  | bad => trivial
theorem so_drop [Emb α] {e : ME} {q : Tr α} {k : α → Ot S L τ} (h : SP (e env) q env) (K : ∀ a, SO (m2 env) (k a) pS pL rp N) (hN : env.length = N := by rfl) : SO (sSeq (sDrop e) m2 env) (q.so k) pS pL rp N := by
  unfold sSeq sDrop
  cases q with
  | ok a =>
    have h : e env = .ok (Emb.e a) env := h
    rw [h]
    exact K a
  | exc x =>
    obtain ⟨e1, h2, h⟩ := h
    rw [h]
    exact ⟨e1, h2.trans hN, rfl⟩
  | bad => trivial
/-! return -/
theorem so_ret [Emb α] {e : ME} {q : Tr α} {f : α → τ} (h : SP (e env) q env) (K : ∀ a, rp (f a) (.sh (Emb.e a)) env) (hN : env.length = N := by rfl) : SO (sSeq (sRet e) m2 env) (q.so fun a => .rt (f a) : Ot S L τ) pS pL rp N := by
  unfold sSeq sRet
  cases q with
  | ok a =>
    have h : e env = .ok (Emb.e a) env := h
    rw [h]
    exact ⟨_, _, rfl, K a⟩
  | exc x =>
    obtain ⟨e1, h2, h⟩ := h
    rw [h]
    exact ⟨e1, h2.trans hN, rfl⟩
  | bad => trivial
theorem so_retO [Emb α] [EmbM α] {e : MM} {q : Tr α} {f : α → τ} (h : SM (e env) q env) (K : ∀ a, rp (f a) (.ow (EmbM.m a)) env) (hN : env.length = N := by rfl) : SO (sSeq (sRetO e) m2 env) (q.so fun a => .rt (f a) : Ot S L τ) pS pL rp N := by
  unfold sSeq sRetO
  cases q with
  | ok a =>
    have h : e env = .ok (EmbM.m a) env := h
    rw [h]
    exact ⟨_, _, rfl, K a⟩
  | exc x =>
    obtain ⟨e1, h2, h⟩ := h
    rw [h]
    exact ⟨e1, h2.trans hN, rfl⟩
  | bad => trivial
theorem so_retV [Emb α] [EmbM α] {i : Nat} {a : α} {t : τ} (h : env[i]? = some (.ow false (EmbM.m a))) (K : rp t (.ow (EmbM.m a)) (env.set i .no)) : SO (sSeq (sRetV i) m2 env) (.rt t : Ot S L τ) pS pL rp N := by
  unfold sSeq sRetV
  rw [h]
  exact ⟨_, _, rfl, K⟩
theorem so_retN {t : τ} (K : rp t (.sh .non) env) : SO (sSeq (fun env => .rt (.sh .non) env) m2 env) (.rt t : Ot S L τ) pS pL rp N := ⟨_, _, rfl, K⟩
/-! if -/
theorem so_if0 {t : MT} {qc : Tr Bool} {qa qb : Ot S L τ} (hc : ST (t env) qc env) (ha : SO (m1 env) qa pS pL rp N) (hb : SO (m2 env) qb pS pL rp N) (hN : env.length = N := by rfl) : SO (sIf t m1 m2 env) (qc.so fun c => if c = true then qa else qb) pS pL rp N := by
  unfold sIf
  cases qc with
  | ok c =>
    have hc : t env = .ok c env := hc
    rw [hc]
    cases c with
    | true => exact ha
    | false => exact hb
  | exc x =>
    obtain ⟨e1, h2, h⟩ := hc
    rw [h]
    exact ⟨e1, h2.trans hN, rfl⟩
  | bad => trivial
theorem so_if {t : MT} {qc : Tr Bool} {qa qb : Ot S L τ} {k : S → Ot S' L τ} (hc : ST (t env) qc env) (ha : SO (m1 env) qa pk pL rp N) (hb : SO (m2 env) qb pk pL rp N) (K : ∀ s, SO (m3 (pk s)) (k s) pS' pL rp N) (hN : env.length = N := by rfl) :
    SO (sSeq (sIf t m1 m2) m3 env) (Ot.bind pk (qc.so fun c => if c = true then qa else qb) k) pS' pL rp N := so_seq (so_if0 hc ha hb hN) K
/-! loops -/
theorem runFor_so [Emb α] {g : D → En → Option En} {b : MS} {f : α → S → Ot S S τ} (hb : ∀ x s, ∃ e1, g (Emb.e x) (pk s) = some e1 ∧ SO (b e1) (f x s) pk pk rp N) : ∀ (xs : List α) (s : S), SO (runFor g b (xs.map Emb.e) (pk s)) (forO pk f xs s : Ot S L τ) pk pL rp N
  | [], s => rfl
  | x :: xs, s => by
    obtain ⟨e1, hg, h⟩ := hb x s
    rw [List.map_cons]
    unfold runFor forO
    rw [hg]
    dsimp only
    cases q : f x s with
    | nx s' =>
      rw [q] at h
      have h : b e1 = .nx (pk s') := h
      rw [h]
      exact runFor_so hb xs s'
    | ct s' =>
      rw [q] at h
      have h : b e1 = .ct (pk s') := h
      rw [h]
      exact runFor_so hb xs s'
    | bk s' =>
      rw [q] at h
      have h : b e1 = .bk (pk s') := h
      rw [h]
      exact rfl
    | rt t =>
      rw [q] at h
      obtain ⟨r, e, h, h2⟩ := h
      rw [h]
      exact ⟨r, e, rfl, h2⟩
    | exc x =>
      rw [q] at h
      obtain ⟨e, h2, h⟩ := h
      rw [h]
      exact ⟨e, h2, rfl⟩
    | bad => trivial
theorem so_for [Emb α] {g : D → En → Option En} {mi : MA} {b : MS} {qi : Tr (List α)} {f : α → S → Ot S S τ} {s0 : S} {k : S → Ot S' L τ} (hi : SA (mi env) qi env) (h0 : env = pk s0) (hb : ∀ x s, ∃ e1, g (Emb.e x) (pk s) = some e1 ∧ SO (b e1) (f x s) pk pk rp N)
    (K : ∀ s, SO (m2 (pk s)) (k s) pS' pL rp N) (hN : env.length = N := by rfl) : SO (sSeq (sFor g mi b) m2 env) (qi.so fun xs => Ot.bind pk (forO pk f xs s0) k) pS' pL rp N := by
  have e : sSeq (sFor g mi b) m2 env = sqO m2 (sFor g mi b env) := by
    unfold sSeq sqO
    cases sFor g mi b env <;> rfl
  rw [e]
  unfold sFor
  cases qi with
  | ok xs =>
    have hi : mi env = .ok (xs.map Emb.e) env := hi
    rw [hi]
    have h1 := runFor_so (pL := pL) (L := L) hb xs s0
    rw [← h0] at h1
    exact h1.seq K
  | exc x =>
    obtain ⟨e1, h2, h⟩ := hi
    rw [h]
    exact ⟨e1, h2.trans hN, rfl⟩
  | bad => trivial
theorem runWhile_so {t : MT} {b : MS} {c : S → Tr Bool} {f : S → Ot S S τ} (hN : ∀ s, (pk s).length = N) (ht : ∀ s, ST (t (pk s)) (c s) (pk s)) (hb : ∀ s, SO (b (pk s)) (f s) pk pk rp N) : ∀ (n : Nat) (s : S), SO (runWhile t b n (pk s)) (whileO pk c f n s : Ot S L τ) pk pL rp N
  | 0, s => trivial
  | n + 1, s => by
    unfold runWhile whileO
    refine SO.of (ht s) (hN s) fun x => ?_
    cases x with
    | false => exact rfl
    | true =>
      rw [if_pos rfl, if_pos (show id true = true from rfl)]
      have h := hb s
      cases q : f s with
      | nx s' =>
        rw [q] at h
        have h : b (pk s) = .nx (pk s') := h
        rw [h]
        exact runWhile_so hN ht hb n s'
      | ct s' =>
        rw [q] at h
        have h : b (pk s) = .ct (pk s') := h
        rw [h]
        exact runWhile_so hN ht hb n s'
      | bk s' =>
        rw [q] at h
        have h : b (pk s) = .bk (pk s') := h
        rw [h]
        exact rfl
      | rt t =>
        rw [q] at h
        obtain ⟨r, e, h, h2⟩ := h
        rw [h]
        exact ⟨r, e, rfl, h2⟩
      | exc x =>
        rw [q] at h
        obtain ⟨e, h2, h⟩ := h
        rw [h]
        exact ⟨e, h2, rfl⟩
      | bad => trivial
theorem so_while {t : MT} {b : MS} {c : S → Tr Bool} {f : S → Ot S S τ} {s0 : S} {k : S → Ot S' L τ} (h0 : env = pk s0) (ht : ∀ s, ST (t (pk s)) (c s) (pk s)) (hb : ∀ s, SO (b (pk s)) (f s) pk pk rp N) (K : ∀ s, SO (m2 (pk s)) (k s) pS' pL rp N) (hN : ∀ s, (pk s).length = N := by intro _; rfl) :
    SO (sSeq (sWhile t b) m2 env) (Ot.bind pk (whileO pk c f fuel s0) k) pS' pL rp N := by
  refine so_seq ?_ K
  unfold sWhile
  rw [h0]
  exact runWhile_so hN ht hb fuel s0
/-! lists and dicts of one's own, changed -/
def tApp (l : List α) (a : α) : Tr (List α) := if l.length < sizeLine then .ok (l ++ [a]) else .bad
theorem so_app [Emb α] {i : Nat} {b : Bool} {l : List α} {e : ME} {q : Tr α} {k : List α → Ot S L τ} (h : SP (e env) q env) (hi : env[i]? = some (.ow b (.fl (l.map Emb.e)))) (K : ∀ l' : List α, SO (m2 (env.set i (.ow b (.fl (l'.map Emb.e))))) (k l') pS pL rp N) (hN : env.length = N := by rfl) :
    SO (sSeq (sAppend i e) m2 env) (q.so fun a => (tApp l a).so k) pS pL rp N := by
  unfold sSeq sAppend
  rw [hi]
  dsimp only
  unfold sApp
  cases q with
  | ok a =>
    have h : e env = .ok (Emb.e a) env := h
    rw [h]
    dsimp only [Res.so]
    rw [hi]
    dsimp only
    show SO _ ((tApp l a).so k) _ _ _ _
    unfold tApp
    rw [List.length_map]
    by_cases hz : l.length < sizeLine
    · rw [if_pos hz, if_pos hz]
      have K1 := K (l ++ [a])
      rw [List.map_append] at K1
      exact K1
    · rw [if_neg hz, if_neg hz]
      trivial
  | exc x =>
    obtain ⟨e1, h2, h⟩ := h
    rw [h]
    exact ⟨e1, h2.trans hN, rfl⟩
  | bad => trivial
def tPut (l : List α) (z : Int) (a : α) : Tr (List α) := match ixN l.length z with
  | some j => .ok (l.set j a)
  | none => .bad
theorem so_put [Emb α] {i : Nat} {b : Bool} {l : List α} {mv mi : ME} {qv : Tr α} {qi : Tr Int} {k : List α → Ot S L τ} (hv : SP (mv env) qv env) (hz : SP (mi env) qi env) (hi : env[i]? = some (.ow b (.fl (l.map Emb.e)))) (K : ∀ l' : List α, SO (m2 (env.set i (.ow b (.fl (l'.map Emb.e))))) (k l') pS pL rp N) (hN : env.length = N := by rfl) :
    SO (sSeq (sPut i mv mi) m2 env) (qv.so fun a => qi.so fun z => (tPut l z a).so k) pS pL rp N := by
  unfold sSeq sPut
  rw [hi]
  dsimp only
  cases qv with
  | ok a =>
    have hv : mv env = .ok (Emb.e a) env := hv
    rw [hv]
    dsimp only [Res.so]
    cases qi with
    | ok z =>
      have hz : mi env = .ok (.int z) env := hz
      rw [hz]
      dsimp only [Res.so]
      rw [hi]
      dsimp only
      show SO _ ((tPut l z a).so k) _ _ _ _
      unfold tPut
      rw [List.length_map]
      cases hx : ixN l.length z with
      | none => trivial
      | some j =>
        have K1 := K (l.set j a)
        rw [List.map_set] at K1
        exact K1
    | exc x =>
      obtain ⟨e1, h2, h⟩ := hz
      rw [h]
      exact ⟨e1, h2.trans hN, rfl⟩
    | bad => trivial
  | exc x =>
    obtain ⟨e1, h2, h⟩ := hv
    rw [h]
    exact ⟨e1, h2.trans hN, rfl⟩
  | bad => trivial
def tRdP (l : List Int) (z : Int) : Tr Int := if 0 ≤ z then Tr.ofO l[z.toNat]? else .bad
theorem ixN_nn {n : Nat} {z : Int} (h0 : 0 ≤ z) (h : z.toNat < n) : ixN n z = some z.toNat := by
  have e := L2.atI_nat (show (List.range n)[z.toNat]? = some z.toNat by rw [List.getElem?_range h])
  unfold L2.atI at e
  rw [List.length_range] at e
  have ez : ((z.toNat : Nat) : Int) = z := Int.toNat_of_nonneg h0
  rw [ez] at e
  cases q : ixN n z with
  | none =>
    rw [q] at e
    cases e
  | some j =>
    rw [q] at e
    have e : (List.range n)[j]? = some z.toNat := e
    have hj := (List.getElem?_eq_some_iff.mp e).1
    rw [List.getElem?_range (by simpa using hj)] at e
    exact e
theorem so_augP {i : Nat} {b : Bool} {l : List Int} {f : Int → Int → Int} {mi mv : ME} {qi qv : Tr Int} {k : List Int → Ot S L τ} (hz : SP (mi env) qi env) (hv : SP (mv env) qv env) (hi : env[i]? = some (.ow b (.fl (l.map D.int)))) (K : ∀ l' : List Int, SO (m2 (env.set i (.ow b (.fl (l'.map D.int))))) (k l') pS pL rp N) (hN : env.length = N := by rfl) :
    SO (sSeq (sAugP i f mi mv) m2 env) (qi.so fun z => (tRdP l z).so fun x => qv.so fun y => k (l.set z.toNat (f x y))) pS pL rp N := by
  unfold sSeq sAugP
  rw [hi]
  dsimp only
  cases qi with
  | ok z =>
    have hz : mi env = .ok (.int z) env := hz
    rw [hz]
    dsimp only [Res.so]
    rw [hi]
    dsimp only
    show SO _ ((tRdP l z).so fun x => qv.so fun y => k (l.set z.toNat (f x y))) _ _ _ _
    unfold tRdP
    by_cases h0 : 0 ≤ z
    case neg =>
      rw [if_neg h0, if_neg h0]
      trivial
    rw [if_pos h0, if_pos h0, List.getElem?_map]
    cases hx : l[z.toNat]? with
    | none => trivial
    | some x =>
      dsimp only [Option.map_some]
      show SO _ (qv.so fun y => k (l.set z.toNat (f x y))) _ _ _ _
      cases qv with
      | ok y =>
        have hv : mv env = .ok (.int y) env := hv
        rw [hv]
        dsimp only [Res.so]
        rw [hi]
        dsimp only
        rw [List.length_map, ixN_nn h0 (List.getElem?_eq_some_iff.mp hx).1]
        have K1 := K (l.set z.toNat (f x y))
        rw [List.map_set] at K1
        exact K1
      | exc x =>
        obtain ⟨e1, h2, h⟩ := hv
        rw [h]
        exact ⟨e1, h2.trans hN, rfl⟩
      | bad => trivial
  | exc x =>
    obtain ⟨e1, h2, h⟩ := hz
    rw [h]
    exact ⟨e1, h2.trans hN, rfl⟩
  | bad => trivial
theorem so_popX [Emb α] {i : Nat} {b : Bool} {l : List α} {k : List α → Ot S L τ} (hi : env[i]? = some (.ow b (.fl (l.map Emb.e)))) (K : ∀ l' : List α, SO (m2 (env.set i (.ow b (.fl (l'.map Emb.e))))) (k l') pS pL rp N) :
    SO (sSeq (sPopX i) m2 env) ((if l.isEmpty = true then Tr.bad else .ok l.dropLast).so k) pS pL rp N := by
  unfold sSeq sPopX
  rw [hi]
  dsimp only
  cases l with
  | nil => trivial
  | cons x l =>
    have K1 := K (x :: l).dropLast
    rw [List.map_dropLast] at K1
    exact K1
/-! dicts -/
section
variable {κ : Type} [EmbK κ] [Emb α] [DecidableEq κ]
def valT (l : List (κ × α)) (k : κ) : Option α := (l.find? fun kv => decide (kv.1 = k)).map (·.2)
def putT (l : List (κ × α)) (k : κ) (v : α) : List (κ × α) := if (l.any fun kv => decide (kv.1 = k)) = true then l.map (fun kv => if kv.1 = k then (kv.1, v) else kv) else l ++ [(k, v)]
theorem key_iff (a b : κ) : decide (EmbK.k a = EmbK.k b) = decide (a = b) := by
  by_cases h : a = b
  · subst h
    simp
  · rw [decide_eq_false h, decide_eq_false fun z => h (EmbK.inj _ _ z)]
theorem valD_map (l : List (κ × α)) (k : κ) : valD (l.map kvD) (EmbK.k k) = (valT l k).map Emb.e := by
  unfold valD valT
  induction l with
  | nil => rfl
  | cons p l ih =>
    rw [List.map_cons, List.find?_cons, List.find?_cons]
    have e : decide ((kvD p).1 = EmbK.k k) = decide (p.1 = k) := key_iff p.1 k
    rw [e]
    cases h : decide (p.1 = k) with
    | true => rfl
    | false => exact ih
theorem putD_map (l : List (κ × α)) (k : κ) (v : α) : putD (l.map kvD) (EmbK.k k) (Emb.e v) = (putT l k v).map kvD := by
  unfold putD putT
  have e1 : ((l.map kvD).any fun kv => decide (kv.1 = EmbK.k k)) = l.any fun kv => decide (kv.1 = k) := by
    rw [List.any_map]
    congr 1
    funext p
    exact key_iff p.1 k
  rw [e1]
  split
  · rw [List.map_map, List.map_map]
    refine List.map_congr_left fun p _ => ?_
    show (if (kvD p).1 = EmbK.k k then ((kvD p).1, Emb.e v) else kvD p) = kvD (if p.1 = k then (p.1, v) else p)
    by_cases h : p.1 = k
    · rw [if_pos h, if_pos (show (kvD p).1 = EmbK.k k by rw [← h]; rfl)]
      rfl
    · rw [if_neg h, if_neg (show ¬ (kvD p).1 = EmbK.k k from fun z => h (EmbK.inj _ _ z))]
  · rw [List.map_append]
    rfl
/-- keys that are tuples -/
class TupK (κ : Type) [EmbK κ] [Emb κ] : Prop where
  h : ∀ k : κ, ∃ ds, Emb.e k = D.tup ds ∧ toKeys ds = some (EmbK.k k)
instance : TupK (Int × Int) := ⟨fun k => ⟨_, rfl, rfl⟩⟩
variable [Emb κ] [TupK κ]
theorem atD_map (d : Dic κ α) (k : κ) : atD (Emb.e d) (Emb.e k) = some ((valT d.l k).map Emb.e) := by
  obtain ⟨ds, h1, h2⟩ := TupK.h k
  rw [h1]
  show (toKeys ds).map (fun k => valD (d.l.map kvD) k) = _
  rw [h2, Option.map_some, valD_map]
def tDGet (d : Dic κ α) (k : κ) : Option α := valT d.l k
instance : Op2 (α := Dic κ α) (β := κ) gDGet tDGet := ⟨fun d k z h => by
  rw [gDGet_at, atD_map]
  show Option.map Emb.e (valT d.l k) = _
  rw [show valT d.l k = some z from h]
  rfl⟩
def tDGet2 (qd : Tr (Dic κ α)) (qk : Tr κ) (qx : Tr α) : Tr α := qd.bind fun d => qk.bind fun k => qx.bind fun x => .ok ((valT d.l k).getD x)
theorem sp_dget2 {ma mb mc : ME} {qd : Tr (Dic κ α)} {qk : Tr κ} {qx : Tr α} (ha : SP (ma env) qd env) (hb : SP (mb env) qk env) (hc : SP (mc env) qx env) : SP ((ma env).bind fun x e1 => if isDict x = true then (mb e1).bind fun y e2 => (mc e2).bind fun z e3 => No.ofO ((atD x y).map fun o => o.getD z) e3 else .bad) (tDGet2 qd qk qx) env := by
  refine SX.bind ha fun d => ?_
  rw [if_pos (show isDict (Emb.e d) = true from rfl)]
  refine SX.bind hb fun k => SX.bind hc fun x => ?_
  rw [atD_map]
  show Res.ok _ _ = Res.ok _ _
  cases valT d.l k <;> rfl
theorem sm_newT : SM (mNewT env) (.ok (⟨[]⟩ : Dic κ α)) env := rfl
def tDisp (qk : Tr κ) (qv : Tr α) : Tr (Dic κ α) := match qk with
  | .ok k => match qv with
    | .ok v => .ok ⟨[(k, v)]⟩
    | _ => .bad
  | _ => .bad
theorem sm_disp1 {ma mb : ME} {qk : Tr κ} {qv : Tr α} (ha : SP (ma env) qk env) (hb : SP (mb env) qv env) : SM (mDisp1 ma mb env) (tDisp qk qv) env := by
  cases qk with
  | ok k =>
    cases qv with
    | ok v =>
      have ha : ma env = .ok (Emb.e k) env := ha
      have hb : mb env = .ok (Emb.e v) env := hb
      obtain ⟨ds, h1, h2⟩ := TupK.h k
      show mDisp1 ma mb env = _
      unfold mDisp1
      rw [ha, h1]
      dsimp only
      rw [hb]
      dsimp only
      rw [h2]
      rfl
    | exc x => trivial
    | bad => trivial
  | exc x => trivial
  | bad => trivial
def copyT (l : List (κ × α)) (z : α) : List (κ × α) := l.foldl (fun acc kv => putT acc kv.1 ((valT l kv.1).getD z)) []
theorem sm_dcopy {i j : Nat} {d : Dic κ α} {z : α} (h : env[j]? = some (.sh (Emb.e d))) (hi : i < env.length) (hij : i ≠ j) : SM (mDCopy i j env) (if d.l.length ≤ sizeLine then .ok (⟨copyT d.l z⟩ : Dic κ α) else .bad) env := by
  by_cases hz : d.l.length ≤ sizeLine
  case neg =>
    rw [if_neg hz]
    trivial
  rw [if_pos hz]
  show mDCopy i j env = _
  unfold mDCopy
  rw [h]
  dsimp only [Emb.e]
  rw [if_pos ⟨hi, hij, by rw [List.length_map]; exact hz⟩]
  have key : ∀ (l : List (κ × α)) (acc : List (κ × α)), (∀ p ∈ l, p ∈ d.l) → (l.map kvD).foldl (fun acc kv => putD acc kv.1 ((valD (d.l.map kvD) kv.1).getD .non)) (acc.map kvD) = (l.foldl (fun acc kv => putT acc kv.1 ((valT d.l kv.1).getD z)) acc).map kvD := by
    intro l
    induction l with
    | nil => intro acc _; rfl
    | cons p l ih =>
      intro acc hp
      rw [List.map_cons, List.foldl_cons, List.foldl_cons]
      have hm : p ∈ d.l := hp p List.mem_cons_self
      have e1 : (valD (d.l.map kvD) (kvD p).1) = (valT d.l p.1).map Emb.e := valD_map d.l p.1
      have hs : (valT d.l p.1).isSome = true := by
        unfold valT
        rw [Option.isSome_map, List.find?_isSome]
        exact ⟨p, hm, decide_eq_true rfl⟩
      obtain ⟨v, hv⟩ := Option.isSome_iff_exists.mp hs
      have e2 : putD (acc.map kvD) (kvD p).1 ((valD (d.l.map kvD) (kvD p).1).getD .non) = (putT acc p.1 ((valT d.l p.1).getD z)).map kvD := by
        rw [e1, hv]
        exact putD_map acc p.1 v
      rw [e2]
      exact ih _ fun q hq => hp q (List.mem_cons_of_mem _ hq)
  show Res.ok (M.ft (copyD (d.l.map kvD))) env = Res.ok (M.ft ((copyT d.l z).map kvD)) env
  unfold copyD copyT
  rw [← key d.l [] fun p h => h]
  rfl
def tDPut (d : Dic κ α) (k : κ) (v : α) : Tr (Dic κ α) := if d.l.length < sizeLine then .ok ⟨putT d.l k v⟩ else .bad
theorem so_dput {i : Nat} {b : Bool} {d : Dic κ α} {mv mk : ME} {qv : Tr α} {qk : Tr κ} {k : Dic κ α → Ot S L τ} (hv : SP (mv env) qv env) (hk : SP (mk env) qk env) (hi : env[i]? = some (.ow b (EmbM.m d))) (K : ∀ d' : Dic κ α, SO (m2 (env.set i (.ow b (EmbM.m d')))) (k d') pS pL rp N) (hN : env.length = N := by rfl) :
    SO (sSeq (sDPutD i mv mk) m2 env) (qv.so fun a => qk.so fun z => (tDPut d z a).so k) pS pL rp N := by
  have hi : env[i]? = some (.ow b (.ft (d.l.map kvD))) := hi
  unfold sSeq sDPutD
  cases qv with
  | ok a =>
    have hv : mv env = .ok (Emb.e a) env := hv
    rw [hv]
    dsimp only [Res.so]
    rw [hi]
    dsimp only
    cases qk with
    | ok z =>
      have hk : mk env = .ok (Emb.e z) env := hk
      obtain ⟨ds, h1, h2⟩ := TupK.h z
      rw [hk, h1]
      dsimp only [Res.so]
      rw [hi]
      dsimp only
      rw [h2]
      dsimp only
      show SO _ ((tDPut d z a).so k) _ _ _ _
      unfold tDPut
      rw [List.length_map, putD_map]
      by_cases hz : d.l.length < sizeLine
      · rw [if_pos hz, if_pos hz]
        exact K ⟨putT d.l z a⟩
      · rw [if_neg hz, if_neg hz]
        trivial
    | exc x =>
      obtain ⟨e1, h2, h⟩ := hk
      rw [h]
      exact ⟨e1, h2.trans hN, rfl⟩
    | bad => trivial
  | exc x =>
    obtain ⟨e1, h2, h⟩ := hv
    rw [h]
    exact ⟨e1, h2.trans hN, rfl⟩
  | bad => trivial
end
/-! exceptions -/
theorem so_raiseP {c a : Str} {q : Ot S L τ} (hq : q = .exc ⟨c, [("part", .str a)]⟩) (hN : env.length = N := by rfl) : SO (sSeq (sRaiseP c a) m2 env) q pS pL rp N := by
  rw [hq]
  exact ⟨env, hN, rfl⟩
/-- try: .. except .. as e: every way returns -/
def tTry (tk : List (Str × Bool)) (h : Exc → Option τ) (q : Ot S L τ) : Ot S L τ := match q with
  | .exc x => match tk.lookup x.cls with
    | some true => match h x with
      | some t => .rt t
      | none => .bad
    | some false => .exc x
    | none => .bad
  | q => q
theorem so_try {i : Nat} {tk : List (Str × Bool)} {mb : MS} {mh : Exc → Option (Option D)} {h : Exc → Option τ} {q : Ot S L τ} {k : S → Ot S' L τ} (hb : SO (mb env) q pk pL rp N) (hh : ∀ x t, h x = some t → ∃ d, mh x = some (some d) ∧ ∀ e, rp t (.sh d) e) (hi : i < N) (K : ∀ s, SO (m2 (pk s)) (k s) pS' pL rp N) :
    SO (sSeq (sTry i tk mb mh) m2 env) (Ot.bind pk (tTry tk h q) k) pS' pL rp N := by
  refine so_seq ?_ K
  unfold sTry
  cases q with
  | nx s =>
    have hb : mb env = .nx (pk s) := hb
    rw [hb]
    exact rfl
  | bk l =>
    have hb : mb env = .bk (pL l) := hb
    rw [hb]
    exact rfl
  | ct l =>
    have hb : mb env = .ct (pL l) := hb
    rw [hb]
    exact rfl
  | rt t =>
    obtain ⟨r, e, hb, h2⟩ := hb
    rw [hb]
    exact ⟨r, e, rfl, h2⟩
  | bad => trivial
  | exc x =>
    obtain ⟨e, he, hb⟩ := hb
    rw [hb]
    dsimp only [tTry]
    cases hl : tk.lookup x.cls with
    | none => trivial
    | some b =>
      cases b with
      | false => exact ⟨e, he, rfl⟩
      | true =>
        dsimp only
        cases hx : h x with
        | none => trivial
        | some t =>
          obtain ⟨d, h1, h2⟩ := hh x t hx
          rw [if_pos (by rw [he]; exact hi), h1]
          exact ⟨_, _, rfl, h2 _⟩
end
/-! ### defs -/
theorem sf_run [Emb α] {N : Nat} {m : MS} {ds : List D} {q : Ot Unit Unit α} {pS pL : Unit → En} (h : SO (m (env0 N ds)) q pS pL rpA N) : SF (frun N m ds) q.fn := by
  unfold frun
  cases q with
  | rt t =>
    obtain ⟨r, e, h, h2⟩ := h
    rw [h]
    rcases h2 with h2 | ⟨w, h2, h3⟩
    · rw [h2]
      exact .inl rfl
    · rw [h2]
      exact .inr ⟨w, rfl, h3⟩
  | exc x =>
    obtain ⟨e, _, h⟩ := h
    rw [h]
    exact rfl
  | _ => trivial
theorem sf_runO [Emb α] [EmbM α] {N : Nat} {m : MS} {ds : List D} {q : Ot Unit Unit α} {pS pL : Unit → En} (h : SO (m (env0 N ds)) q pS pL rpO N) : SFO (frun N m ds) q.fn := by
  unfold frun
  cases q with
  | rt t =>
    obtain ⟨r, e, h, h2⟩ := h
    rw [h]
    have h2 : r = .ow (EmbM.m t) := h2
    rw [h2]
    exact rfl
  | exc x =>
    obtain ⟨e, _, h⟩ := h
    rw [h]
    exact rfl
  | _ => trivial
theorem sf_runU {N : Nat} {m : MS} {ds : List D} {q : Ot Unit Unit Unit} {pS pL : Unit → En} (h : SO (m (env0 N ds)) q pS pL rpA N) : SF (frun N m ds) q.fnU := by
  unfold frun
  cases q with
  | nx u =>
    have h : m (env0 N ds) = .nx (pS u) := h
    rw [h]
    exact .inl rfl
  | rt t =>
    obtain ⟨r, e, h, h2⟩ := h
    rw [h]
    rcases h2 with h2 | ⟨w, h2, h3⟩
    · rw [h2]
      exact .inl rfl
    · rw [h2]
      exact .inr ⟨w, rfl, h3⟩
  | exc x =>
    obtain ⟨e, _, h⟩ := h
    rw [h]
    exact rfl
  | _ => trivial
end
end No
end

section
set_option Elab.async false
set_option linter.all false
set_option maxRecDepth 100000
set_option maxHeartbeats 1000000
namespace No
open PySem PySem.Spec PyProof.Rows L2

/-! ### forgetting, as statements -/
section
variable {X : Cx} {W : WX} {st : Stmt} {m : MS} {pos : Pos}
theorem RepS.hide {K : PySem.W.Frag} {Z : Zb} {G H : Hp} {σ : List (Option V)} {env : En} (R : RepS K Z G H σ env) (i : Nat) : RepS K Z G H σ (env.set i .no) := by
  by_cases hi : i < σ.length
  · have R1 := R.setNo (i := i) (o := σ[i])
    have es : σ.set i σ[i] = σ := by simp
    rw [es] at R1
    exact R1
  · have : env.set i .no = env := List.set_eq_of_length_le (by rw [R.len]; omega)
    rw [this]
    exact R
theorem RepS.fg {K : PySem.W.Frag} {Z : Zb} {H : Hp} {σ : List (Option V)} : ∀ (fs vs : List Nat) {G : Hp} {env : En}, RepS K Z G H σ env → ∃ G', Same G G' ∧ RepS K Z G' H σ (fgE fs vs env) := by
  have hv : ∀ (vs : List Nat) {G : Hp} {env : En}, RepS K Z G H σ env → RepS K Z G H σ (vs.foldl (fun e i => e.set i .no) env) := by
    intro vs
    induction vs with
    | nil => exact fun R => R
    | cons v vs ih => exact fun R => ih (R.hide v)
  intro fs
  induction fs with
  | nil => exact fun vs {G env} R => ⟨G, Same.refl _, hv vs R⟩
  | cons f fs ih =>
    intro vs G env R
    obtain ⟨G1, s1, R1⟩ := R.frz f
    obtain ⟨G2, s2, R2⟩ := ih vs R1
    exact ⟨G2, s1.trans s2, R2⟩
theorem db_fg (fs vs : List Nat) : DB X W [] (sFg fs vs) := ⟨_, pss_nil, fun Z G H σ env Dn R p => by
  obtain ⟨G', sg, R'⟩ := R.fg fs vs
  exact p σ G' H R' sg⟩
theorem ds_ctF (fs vs : List Nat) : DS X W (.Continue pos) (sCtF fs vs) := ⟨_, ps_continue, fun Z G H σ env Dn R p => by
  obtain ⟨G', sg, R'⟩ := R.fg fs vs
  exact p σ G' H R' sg⟩
theorem ds_bkF (fs vs : List Nat) : DS X W (.Break pos) (sBkF fs vs) := ⟨_, ps_break, fun Z G H σ env Dn R p => by
  obtain ⟨G', sg, R'⟩ := R.fg fs vs
  exact p σ G' H R' sg⟩
theorem ds_pre (fs vs : List Nat) (h : DS X W st m) : DS X W st (sPre fs vs m) := by
  obtain ⟨t, p, k⟩ := h.run
  refine ⟨t, p, fun Z G H σ env Dn R q => ?_⟩
  obtain ⟨G', sg, R'⟩ := R.fg fs vs
  exact k Z G' H σ _ Dn R' (PostS.mono q sg)
end

/-! ### typed operations -/
def tAdd (x y : Int) : Option Int := some (x + y)
def tSub (x y : Int) : Option Int := some (x - y)
def tMul (x y : Int) : Option Int := if cMul x y = true then some (x * y) else none
def tDiv (x y : Int) : Option Int := if cDiv x y = true then some (x / y) else none
def tMod (x y : Int) : Option Int := if cMod x y = true then some (x % y) else none
def tPow (x y : Int) : Option Int := if cPow x y = true then some (x ^ y.toNat) else none
def tShr (x y : Int) : Option Int := if cShr x y = true then some (x / 2 ^ y.toNat) else none
def tShl (x y : Int) : Option Int := if cPow x y = true then some (x * 2 ^ y.toNat) else none
def tBAnd (x y : Int) : Option Int := some (Builtin.bitAnd x y)
def tLt (x y : Int) : Option Bool := some (decide (x < y))
def tLe (x y : Int) : Option Bool := some (decide (x ≤ y))
def tGt (x y : Int) : Option Bool := some (decide (y < x))
def tGe (x y : Int) : Option Bool := some (decide (y ≤ x))
def tNeg (x : Int) : Option Int := some (-x)
instance : Op2 gAdd tAdd := ⟨fun x y z h => by cases h; rfl⟩
instance : Op2 gSub tSub := ⟨fun x y z h => by cases h; rfl⟩
theorem gI_op {C : Int → Int → Bool} {f : Int → Int → Int} : Op2 (gI C f) fun x y => if C x y = true then some (f x y) else none := ⟨fun x y z h => by
  show (if C x y = true then some (D.int (f x y)) else none) = _
  split at h
  · rename_i hc
    cases h
    rw [if_pos hc]
    rfl
  · cases h⟩
instance : Op2 gMul tMul := gI_op
instance : Op2 gDiv tDiv := gI_op
instance : Op2 gMod tMod := gI_op
instance : Op2 gPow tPow := gI_op
instance : Op2 gShr tShr := gI_op
instance : Op2 gShl tShl := gI_op
instance : Op2 gAnd tBAnd := ⟨fun x y z h => by cases h; rfl⟩
instance : Op2 gLt tLt := ⟨fun x y z h => by cases h; rfl⟩
instance : Op2 gLe tLe := ⟨fun x y z h => by cases h; rfl⟩
instance : Op2 gGt tGt := ⟨fun x y z h => by cases h; rfl⟩
instance : Op2 gGe tGe := ⟨fun x y z h => by cases h; rfl⟩
instance : Op1 gNeg tNeg := ⟨fun x z h => by cases h; rfl⟩
/-! == -/
/-- types whose values may be compared: n tells how deep they are -/
class OkE (α : Type) [Emb α] where
  n : Nat
  ok : ∀ x : α, okN n (Emb.e x)
  eqv : ∀ x y : α, eqvD (Emb.e x) (Emb.e y) = true ↔ x = y
instance : OkE Int := ⟨0, okN_int, fun x y => by
  show eqvD (.int x) (.int y) = true ↔ _
  rw [eqvD_int]
  exact beq_iff_eq⟩
theorem eqv_int (x y : Int) : PyData.eqv (D.py (.int x)) (D.py (.int y)) = (x == y) := by simp [D.py, PyData.eqv]
instance {α : Type} [Emb α] [O : OkE α] : OkE (List α) := ⟨O.n + 1, fun l => okN_lst fun d hd => by
  obtain ⟨x, _, rfl⟩ := List.mem_map.mp hd
  exact O.ok x, fun l l' => by
  show PyData.eqv (D.py (.lst (l.map Emb.e))) (D.py (.lst (l'.map Emb.e))) = true ↔ _
  simp only [D.py, PyData.eqv]
  induction l generalizing l' with
  | nil => cases l' <;> simp [pyAll, PyData.eqvAll]
  | cons x l ih =>
    cases l' with
    | nil => simp [pyAll, PyData.eqvAll]
    | cons y l' =>
      simp only [List.map_cons, pyAll, PyData.eqvAll, Bool.and_eq_true, List.cons.injEq]
      rw [ih l']
      have h := O.eqv x y
      unfold eqvD at h
      rw [h]⟩
instance {α β : Type} [Emb α] [Emb β] [O : OkE α] [O' : OkE β] : OkE (α × β) := ⟨max O.n O'.n + 1, fun p => okN_tup fun d hd => by
  simp only [List.mem_cons, List.not_mem_nil, or_false] at hd
  rcases hd with rfl | rfl
  · exact (O.ok p.1).mono (Nat.le_max_left _ _)
  · exact (O'.ok p.2).mono (Nat.le_max_right _ _), fun p q => by
  show PyData.eqv (D.py (.tup [_, _])) (D.py (.tup [_, _])) = true ↔ _
  simp only [D.py, PyData.eqv, pyAll, PyData.eqvAll, Bool.and_eq_true, and_true]
  have h1 := O.eqv p.1 q.1
  have h2 := O'.eqv p.2 q.2
  unfold eqvD at h1 h2
  rw [h1, h2]
  exact ⟨fun h => Prod.ext h.1 h.2, fun h => ⟨congrArg _ h, congrArg _ h⟩⟩⟩
section
variable {α β γ : Type}
def tEq [Emb α] [O : OkE α] [DecidableEq α] (x y : α) : Option Bool := if O.n ≤ 64 then some (decide (x = y)) else none
def tNe [Emb α] [O : OkE α] [DecidableEq α] (x y : α) : Option Bool := if O.n ≤ 64 then some (!decide (x = y)) else none
theorem eqvD_dec [Emb α] [O : OkE α] [DecidableEq α] (x y : α) : eqvD (Emb.e x) (Emb.e y) = decide (x = y) := by
  have h := O.eqv x y
  cases e : eqvD (Emb.e x) (Emb.e y) with
  | true => exact (decide_eq_true (h.mp e)).symm
  | false => exact (decide_eq_false fun z => by rw [h.mpr z] at e; cases e).symm
instance [Emb α] [O : OkE α] [DecidableEq α] : Op2 (α := α) (β := α) gEq tEq := ⟨fun x y z h => by
  unfold tEq at h
  split at h
  · rename_i hn
    cases h
    unfold gEq
    rw [if_pos ⟨(O.ok x).eq hn, (O.ok y).eq hn⟩, eqvD_dec]
    rfl
  · cases h⟩
instance [Emb α] [O : OkE α] [DecidableEq α] : Op2 (α := α) (β := α) gNe tNe := ⟨fun x y z h => by
  unfold tNe at h
  split at h
  · rename_i hn
    cases h
    unfold gNe
    rw [if_pos ⟨(O.ok x).eq hn, (O.ok y).eq hn⟩, eqvD_dec]
    rfl
  · cases h⟩
@[simp] theorem tEq_int (x y : Int) : tEq x y = some (decide (x = y)) := rfl
@[simp] theorem tNe_int (x y : Int) : tNe x y = some (!decide (x = y)) := rfl
/-- data of any form -/
def tEqD (x y : D) : Option Bool := if okEq x = true ∧ okEq y = true then some (eqvD x y) else none
def tNeD (x y : D) : Option Bool := if okEq x = true ∧ okEq y = true then some (!eqvD x y) else none
instance : Op2 gEq tEqD := ⟨fun x y z h => by
  show gEq x y = _
  unfold gEq
  unfold tEqD at h
  split at h
  · rename_i hc
    cases h
    rw [if_pos hc]
    rfl
  · cases h⟩
instance : Op2 gNe tNeD := ⟨fun x y z h => by
  show gNe x y = _
  unfold gNe
  unfold tNeD at h
  split at h
  · rename_i hc
    cases h
    rw [if_pos hc]
    rfl
  · cases h⟩
/-! is None -/
def tIsN [Emb α] (x : α) (_ : Unit) : Option Bool := some (isN (Emb.e x))
def tNotN [Emb α] (x : α) (_ : Unit) : Option Bool := some (!isN (Emb.e x))
instance [Emb α] : Op2 (α := α) (β := Unit) gIsN tIsN := ⟨fun x y z h => by cases h; rfl⟩
instance [Emb α] : Op2 (α := α) (β := Unit) gNotN tNotN := ⟨fun x y z h => by cases h; rfl⟩
/-! subscripts -/
theorem atI_map {A B : Type} (f : A → B) (l : List A) (i : Int) : atI (l.map f) i = (atI l i).map f := by
  unfold L2.atI
  rw [List.length_map]
  cases ixN l.length i with
  | none => rfl
  | some j => exact List.getElem?_map
def tIx (l : List α) (i : Int) : Option α := atI l i
def tIxS (s : Scr) (i : Int) : Option Int := atI s.l i
def tIxD (x : D) (i : Int) : Option D := gIx x (.int i)
def tIx0 (p : α × β) (i : Int) : Option α := if i = 0 then some p.1 else none
def tIx1 (p : α × β) (i : Int) : Option β := if i = 1 then some p.2 else none
instance [Emb α] : Op2 (α := List α) (β := Int) gIx tIx := ⟨fun l i z h => by
  show atI (l.map Emb.e) i = _
  rw [atI_map, show atI l i = some z from h]
  rfl⟩
instance : Op2 gIx tIxS := ⟨fun l i z h => by
  show atI (l.l.map D.int) i = _
  rw [atI_map, show atI l.l i = some z from h]
  rfl⟩
instance : Op2 gIx tIxD := ⟨fun x i z h => h⟩
instance [Emb α] [Emb β] : Op2 (α := α × β) (β := Int) gIx tIx0 := ⟨fun p i z h => by
  unfold tIx0 at h
  split at h
  · rename_i hi
    subst hi
    cases h
    rfl
  · cases h⟩
instance [Emb α] [Emb β] : Op2 (α := α × β) (β := Int) gIx tIx1 := ⟨fun p i z h => by
  unfold tIx1 at h
  split at h
  · rename_i hi
    subst hi
    cases h
    rfl
  · cases h⟩
/-! lists -/
def tCat (a b : List α) : Option (List α) := if a.length + b.length ≤ sizeLine then some (a ++ b) else none
def tRep (a : List α) (k : Int) : Option (List α) := if inR k = true ∧ a.length * k.toNat ≤ sizeLine then some (List.replicate k.toNat a).flatten else none
instance [Emb α] : Op2L (α := List α) (β := List α) (γ := α) gCat tCat := ⟨fun a b z h => by
  show (if (a.map Emb.e).length + (b.map Emb.e).length ≤ sizeLine then some (a.map Emb.e ++ b.map Emb.e) else none) = _
  unfold tCat at h
  rw [List.length_map, List.length_map]
  split at h
  · rename_i hc
    cases h
    rw [if_pos hc, List.map_append]
  · cases h⟩
instance [Emb α] : Op2L (α := List α) (β := Int) (γ := α) gRep tRep := ⟨fun a k z h => by
  show (if inR k = true ∧ (a.map Emb.e).length * k.toNat ≤ sizeLine then some (List.replicate k.toNat (a.map Emb.e)).flatten else none) = _
  unfold tRep at h
  rw [List.length_map]
  split at h
  · rename_i hc
    cases h
    rw [if_pos hc, List.map_flatten, List.map_replicate]
  · cases h⟩
/-! built-ins -/
def tLen (p : List α × Unit) : Option Int := some p.1.length
def tLenS (p : Scr × Unit) : Option Int := some p.1.l.length
def tLen2 (_ : (α × β) × Unit) : Option Int := some 2
def tLenD (p : D × Unit) : Option Int := match gLen [p.1] with
  | some (.int n) => some n
  | _ => none
instance [Emb α] : OpC (β := List α × Unit) gLen tLen := ⟨fun p z h => by
  cases h
  show some (D.int (p.1.map Emb.e).length) = _
  rw [List.length_map]
  rfl⟩
instance : OpC gLen tLenS := ⟨fun p z h => by
  cases h
  show some (D.int (p.1.l.map D.int).length) = _
  rw [List.length_map]
  rfl⟩
instance [Emb α] [Emb β] : OpC (β := (α × β) × Unit) gLen tLen2 := ⟨fun p z h => by cases h; rfl⟩
instance : OpC gLen tLenD := ⟨fun p z h => by
  show gLen [p.1] = _
  unfold tLenD at h
  split at h
  · rename_i n hn
    cases h
    exact hn
  · cases h⟩
def tInt (p : Int × Unit) : Option Int := some p.1
def tIntB (p : Bool × Unit) : Option Int := some (if p.1 = true then 1 else 0)
instance : OpC gInt tInt := ⟨fun p z h => by cases h; rfl⟩
instance : OpC gInt tIntB := ⟨fun p z h => by cases h; rfl⟩
theorem toIs_e (ns : List Int) : toIs (ns.map Emb.e) = some ns := toIs_map ns
def tSum (p : List Int × Unit) : Option Int := some p.1.sum
def tMinL (p : List Int × Unit) : Option Int := lmin p.1
def tMaxL (p : List Int × Unit) : Option Int := lmax p.1
def tMax2 (p : Int × Int × Unit) : Option Int := some (if p.2.1 > p.1 then p.2.1 else p.1)
def tMin2 (p : Int × Int × Unit) : Option Int := some (if p.2.1 < p.1 then p.2.1 else p.1)
instance : OpC gSum tSum := ⟨fun p z h => by
  cases h
  show (toIs (p.1.map Emb.e)).bind _ = _
  rw [toIs_e]
  rfl⟩
instance : OpC gMinL tMinL := ⟨fun p z h => by
  show (toIs (p.1.map Emb.e)).bind _ = _
  rw [toIs_e]
  show (lmin p.1).map D.int = _
  rw [show lmin p.1 = some z from h]
  rfl⟩
instance : OpC gMaxL tMaxL := ⟨fun p z h => by
  show (toIs (p.1.map Emb.e)).bind _ = _
  rw [toIs_e]
  show (lmax p.1).map D.int = _
  rw [show lmax p.1 = some z from h]
  rfl⟩
instance : OpC gMax2 tMax2 := ⟨fun p z h => by cases h; rfl⟩
instance : OpC gMin2 tMin2 := ⟨fun p z h => by cases h; rfl⟩
def tList (p : List α × Unit) : Option (List α) := some p.1
instance [Emb α] : OpCL (β := List α × Unit) gList tList := ⟨fun p z h => by cases h; rfl⟩
def tLenS2 (l : List Int) : Option Int := if l.length ≤ 4000 then some (metLen l) else none
instance : Op1 gLenSet tLenS2 := ⟨fun l z h => by
  show (toIs (l.map Emb.e)).bind _ = _
  rw [toIs_e]
  unfold tLenS2 at h
  split at h
  · rename_i hl
    cases h
    show (if l.length ≤ 4000 then some (D.int (metLen l : Nat)) else none) = _
    rw [if_pos hl]
    rfl
  · cases h⟩
def tInL (x : Int) (l : List Int) : Option Bool := some (l.contains x)
def tNotInL (x : Int) (l : List Int) : Option Bool := some (!l.contains x)
instance : Op2 gIn tInL := ⟨fun x l z h => by
  cases h
  show (toIs (l.map Emb.e)).map _ = _
  rw [toIs_e]
  rfl⟩
instance : Op2 gNotIn tNotInL := ⟨fun x l z h => by
  cases h
  show (toIs (l.map Emb.e)).map _ = _
  rw [toIs_e]
  rfl⟩
/-! sorted(d) -/
def leP (x y : Int × Int) : Bool := !SrtO.lexB y x
def tSortT (p : Dic (Int × Int) α × Unit) : Option (List (Int × Int)) := some ((p.1.l.map (·.1)).mergeSort leP)
instance [Emb α] : OpCL (β := Dic (Int × Int) α × Unit) gSortT tSortT := ⟨fun p z h => by
  cases h
  show (if ((p.1.l.map kvD).all fun kv => isPK kv.1) = true then some ((((p.1.l.map kvD).map (·.1)).mergeSort lePK).map tupD) else none) = _
  rw [if_pos (by
    rw [List.all_eq_true]
    intro kv hkv
    obtain ⟨q, _, rfl⟩ := List.mem_map.mp hkv
    rfl)]
  have e1 : (p.1.l.map kvD).map (·.1) = (p.1.l.map (·.1)).map EmbK.k := by
    rw [List.map_map, List.map_map]
    rfl
  rw [e1, ← List.map_mergeSort (r := leP) (f := EmbK.k) (fun a _ b _ => rfl), List.map_map]
  rfl⟩
/-! isinstance -/
def tIsi [Emb α] (b : String → Bool) (q : Tr α) : Tr Bool := q.bind fun x => if tyOk (Emb.e x) = true then .ok (b (tyN (Emb.e x))) else .bad
theorem sp_isi [Emb α] {env : En} {b : String → Bool} {m : ME} {q : Tr α} (h : SP (m env) q env) : SP (mIsi b m env) (tIsi b q) env := SX.bind h fun x => by
  split
  · exact SX.ok
  · trivial
end
end No
end

section
set_option Elab.async false
set_option linter.all false
set_option maxRecDepth 100000
set_option maxHeartbeats 1000000
namespace No
open PySem PySem.Spec PyProof.Rows L2

section
variable {α β γ δ S S' L L' τ : Type}
/-! ### expressions that change a list that is lent on: q tells the list behind it, pk the cells by it -/
def SSX {A : Type} (r : Res A) (q : Tr (α × List Int)) (f : α → A) (pk : List Int → En) (N : Nat) : Prop := match q with
  | .ok a => r = .ok (f a.1) (pk a.2)
  | .exc x => ∃ e : En, e.length = N ∧ r = .exc x e
  | .bad => True
/-- nothing changed -/
def pur (st : List Int) (q : Tr α) : Tr (α × List Int) := q.bind fun a => .ok (a, st)
@[simp] theorem pur_ok (st : List Int) (a : α) : pur st (.ok a) = .ok (a, st) := rfl
@[simp] theorem pur_exc (st : List Int) (x : Exc) : pur st (.exc x : Tr α) = .exc x := rfl
theorem ss_pur {A : Type} {r : Res A} {q : Tr α} {f : α → A} {pk : List Int → En} {N : Nat} {st : List Int} (h : SX r q f (pk st)) (hN : ∀ st, (pk st).length = N) : SSX r (pur st q) f pk N := by
  cases q with
  | ok a => exact h
  | exc x =>
    obtain ⟨e, h1, h2⟩ := h
    exact ⟨e, h1.trans (hN _), h2⟩
  | bad => trivial
theorem SSX.bind {A B : Type} {r : Res A} {q : Tr (α × List Int)} {f : α → A} {pk : List Int → En} {N : Nat} {k : A → En → Res B} {g : β → B} {h : α × List Int → Tr (β × List Int)} (H : SSX r q f pk N) (K : ∀ a st, SSX (k (f a) (pk st)) (h (a, st)) g pk N) : SSX (r.bind k) (q.bind h) g pk N := by
  cases q with
  | ok a =>
    have H : r = .ok (f a.1) (pk a.2) := H
    rw [H]
    exact K a.1 a.2
  | exc x =>
    obtain ⟨e, he, H⟩ := H
    rw [H]
    exact ⟨e, he, rfl⟩
  | bad => trivial
theorem SSX.ok {A : Type} {a : α} {st : List Int} {f : α → A} {pk : List Int → En} {N : Nat} {b : A} (h : b = f a := by rfl) : SSX (.ok b (pk st)) (Tr.ok (a, st)) f pk N := by
  rw [h]
  exact rfl
theorem SSX.ofO {A : Type} {o : Option A} {st : List Int} {f : α → A} {pk : List Int → En} {N : Nat} {t : Option α} (h : ∀ a, t = some a → o = some (f a)) : SSX (No.ofO o (pk st)) (pur st (Tr.ofO t)) f pk N := by
  cases t with
  | none => trivial
  | some a =>
    show No.ofO o (pk st) = _
    rw [h a rfl]
    rfl
section
variable {env : En} {pk : List Int → En} {N : Nat}
abbrev SS [Emb α] (r : Res D) (q : Tr (α × List Int)) (pk : List Int → En) (N : Nat) : Prop := SSX r q Emb.e pk N
abbrev SST (r : Res Bool) (q : Tr (Bool × List Int)) (pk : List Int → En) (N : Nat) : Prop := SSX r q id pk N
abbrev SSH [EmbL β] (r : Res (List D)) (q : Tr (β × List Int)) (pk : List Int → En) (N : Nat) : Prop := SSX r q EmbL.l pk N
abbrev SSA [Emb α] (r : Res (List D)) (q : Tr (List α × List Int)) (pk : List Int → En) (N : Nat) : Prop := SSX r q (List.map Emb.e) pk N
abbrev SSM [Emb α] [EmbM α] (r : Res M) (q : Tr (α × List Int)) (pk : List Int → En) (N : Nat) : Prop := SSX r q EmbM.m pk N
def sb2 (f : α → β → Option γ) (qa : Tr (α × List Int)) (qb : List Int → Tr (β × List Int)) : Tr (γ × List Int) := qa.bind fun x => (qb x.2).bind fun y => pur y.2 (.ofO (f x.1 y.1))
theorem ss_bin [Emb α] [Emb β] [Emb γ] {g : D → D → Option D} {f : α → β → Option γ} [O : Op2 g f] {ma mb : ME} {qa : Tr (α × List Int)} {qb : List Int → Tr (β × List Int)} (ha : SS (ma env) qa pk N) (hb : ∀ st, SS (mb (pk st)) (qb st) pk N) : SS (mBin g ma mb env) (sb2 f qa qb) pk N :=
  SSX.bind ha fun x st => SSX.bind (hb st) fun y st2 => SSX.ofO fun z h => O.h x y z h
theorem ssm_bin [Emb α] [Emb β] [Emb γ] {g : D → D → Option (List D)} {f : α → β → Option (List γ)} [O : Op2L g f] {ma mb : ME} {qa : Tr (α × List Int)} {qb : List Int → Tr (β × List Int)} (ha : SS (ma env) qa pk N) (hb : ∀ st, SS (mb (pk st)) (qb st) pk N) : SSM (mFl (mBin g ma mb) env) (sb2 f qa qb) pk N := by
  have h : SSA (mBin g ma mb env) (sb2 f qa qb) pk N := SSX.bind ha fun x st => SSX.bind (hb st) fun y st2 => SSX.ofO fun z h => O.h x y z h
  unfold mFl
  have e : sb2 f qa qb = (sb2 f qa qb).bind fun z => .ok z := by cases sb2 f qa qb <;> rfl
  rw [e]
  exact SSX.bind h fun a st => SSX.ok
theorem ss_L [Emb α] [I : EmbM α] {m : MM} {q : Tr (α × List Int)} (h : SSM (m env) q pk N) : SS (mL m env) q pk N := by
  have e : q = q.bind fun z => .ok z := by cases q <;> rfl
  unfold mL
  rw [e]
  exact SSX.bind h fun a st => SSX.ok (I.d a)
def sCb (f : α → Option γ) (qa : Tr (α × List Int)) : Tr (γ × List Int) := qa.bind fun x => pur x.2 (.ofO (f x.1))
theorem ss_cb [EmbL β] [Emb γ] {g : List D → Option D} {f : β → Option γ} [O : OpC g f] {m : MA} {q : Tr (β × List Int)} (h : SSH (m env) q pk N) : SS (mCB g m env) (sCb f q) pk N := SSX.bind h fun x st => SSX.ofO fun z hz => O.h x z hz
theorem ss_un [Emb α] [Emb γ] {g : D → Option D} {f : α → Option γ} [O : Op1 g f] {ma : ME} {qa : Tr (α × List Int)} (ha : SS (ma env) qa pk N) : SS (mUn g ma env) (sCb f qa) pk N := SSX.bind ha fun x st => SSX.ofO fun z h => O.h x z h
theorem ss_b {m : ME} {q : Tr (Bool × List Int)} (h : SS (m env) q pk N) : SST (mB m env) q pk N := by
  have e : q = q.bind fun z => .ok z := by cases q <;> rfl
  unfold mB
  rw [e]
  exact SSX.bind h fun a st => rfl
def sAndT (qa : Tr (Bool × List Int)) (qb : List Int → Tr (Bool × List Int)) : Tr (Bool × List Int) := qa.bind fun x => if x.1 = true then qb x.2 else .ok (false, x.2)
def sOrT (qa : Tr (Bool × List Int)) (qb : List Int → Tr (Bool × List Int)) : Tr (Bool × List Int) := qa.bind fun x => if x.1 = true then .ok (true, x.2) else qb x.2
def sNotT (qa : Tr (Bool × List Int)) : Tr (Bool × List Int) := qa.bind fun x => .ok (!x.1, x.2)
theorem ss_and {ta tb : MT} {qa : Tr (Bool × List Int)} {qb : List Int → Tr (Bool × List Int)} (ha : SST (ta env) qa pk N) (hb : ∀ st, SST (tb (pk st)) (qb st) pk N) : SST (mAnd ta tb env) (sAndT qa qb) pk N := SSX.bind ha fun x st => by
  cases x with
  | true => exact hb st
  | false => exact SSX.ok
theorem ss_or {ta tb : MT} {qa : Tr (Bool × List Int)} {qb : List Int → Tr (Bool × List Int)} (ha : SST (ta env) qa pk N) (hb : ∀ st, SST (tb (pk st)) (qb st) pk N) : SST (mOr ta tb env) (sOrT qa qb) pk N := SSX.bind ha fun x st => by
  cases x with
  | true => exact SSX.ok
  | false => exact hb st
theorem ss_not {ta : MT} {qa : Tr (Bool × List Int)} (ha : SST (ta env) qa pk N) : SST (mNot ta env) (sNotT qa) pk N := SSX.bind ha fun x st => SSX.ok
theorem ss_notV {ma : ME} {qa : Tr (Bool × List Int)} (ha : SS (ma env) qa pk N) : SS (mNotV ma env) (sNotT qa) pk N := SSX.bind (ss_b ha) fun x st => SSX.ok
theorem ss_andV {ma mb : ME} {qa : Tr (Bool × List Int)} {qb : List Int → Tr (Bool × List Int)} (ha : SS (ma env) qa pk N) (hb : ∀ st, SS (mb (pk st)) (qb st) pk N) : SS (mAndV ma mb env) (sAndT qa qb) pk N := SSX.bind (ss_b ha) fun x st => by
  cases x with
  | true => exact hb st
  | false => exact SSX.ok
def sPair (qa : Tr (α × List Int)) (qb : List Int → Tr (β × List Int)) : Tr ((α × β) × List Int) := qa.bind fun x => (qb x.2).bind fun y => .ok ((x.1, y.1), y.2)
theorem ss_cons [Emb α] [EmbL β] {ma : ME} {mr : MA} {qa : Tr (α × List Int)} {qb : List Int → Tr (β × List Int)} (ha : SS (ma env) qa pk N) (hb : ∀ st, SSH (mr (pk st)) (qb st) pk N) : SSH (mCons ma mr env) (sPair qa qb) pk N := SSX.bind ha fun x st => SSX.bind (hb st) fun y st2 => SSX.ok
def sRng1 (q : Tr (Int × List Int)) : Tr (List Int × List Int) := q.bind fun j => if inR j.1 = true then .ok (uptoI 0 j.1.toNat, j.2) else .bad
theorem ss_rng1 {m : ME} {q : Tr (Int × List Int)} (h : SS (m env) q pk N) : SSA (mRng1 (mCons m mNil) env) (sRng1 q) pk N := by
  have h2 : SSX (mCons m mNil env) (q.bind fun j => .ok ([j.1], j.2)) (List.map Emb.e) pk N := SSX.bind h fun j st => by
    show SSX (Res.ok _ _) _ _ _ _
    exact SSX.ok
  have e : sRng1 q = (q.bind fun j => Tr.ok ([j.1], j.2)).bind fun l => match l with
    | ([j], st) => if inR j = true then .ok (uptoI 0 j.toNat, st) else .bad
    | _ => .bad := by cases q <;> rfl
  rw [e]
  refine SSX.bind h2 fun l st => ?_
  cases l with
  | nil => trivial
  | cons j l =>
    cases l with
    | nil =>
      show SSX (if inR j = true then Res.ok (upto 0 j.toNat) (pk st) else .bad) (if inR j = true then Tr.ok (uptoI 0 j.toNat, st) else .bad) _ _ _
      split
      · exact SSX.ok (upto_map _ _)
      · trivial
    | cons _ _ => trivial
/-! ### calls of defs that change it -/
/-- what such a def hands back -/
def SFM [Emb α] (r : FM) (q : Tr (α × List Int)) (ds : List D) : Prop := match q with
  | .ok a => r = .sh (Emb.e a.1) (.ow true (.fl (a.2.map D.int)) :: ds.map Cell.sh) ∨ ∃ m, r = .ow m (.ow true (.fl (a.2.map D.int)) :: ds.map Cell.sh) ∧ m.d = Emb.e a.1
  | .exc x => r = .exc x
  | .bad => True
/-- the arguments behind the lent one -/
def SG [EmbL β] (r : Res (List Arg)) (q : Tr β) (env : En) : Prop := SX r q (fun p => (EmbL.l p).map Arg.sh) env
theorem sg_nil : SG (aNil env) (.ok ()) env := SX.ok
theorem sg_cons [Emb α] [EmbL β] {ma : ME} {mr : MG} {qa : Tr α} {qb : Tr β} (ha : SP (ma env) qa env) (hb : SG (mr env) qb env) : SG (aSh ma mr env) (tPair qa qb) env := SX.bind ha fun x => SX.bind (f := fun p => (EmbL.l p).map Arg.sh) hb fun y => SX.ok
theorem lents_sh (ds : List D) : lents (ds.map Arg.sh) = [] := by
  induction ds with
  | nil => rfl
  | cons d ds ih => exact ih
theorem okA_sh (e : En) (ds : List D) : (ds.map Arg.sh).all (okA e) = true := by
  induction ds with
  | nil => rfl
  | cons d ds ih => exact ih
theorem argC_sh (e : En) (ds : List D) : (ds.map Arg.sh).map (argC e) = ds.map Cell.sh := by
  rw [List.map_map]
  rfl
theorem backE_sh (ds : List D) : ∀ (cs : List Cell) (e : En), backE (ds.map Arg.sh) cs e = e := by
  induction ds with
  | nil => intro cs e; rfl
  | cons d ds ih =>
    intro cs e
    cases cs with
    | nil => rfl
    | cons c cs => exact ih cs e
def sCall (qf : List Int × β → Tr (α × List Int)) (st : List Int) (q : Tr β) : Tr (α × List Int) := q.bind fun p => qf (st, p)
theorem ss_call [EmbL β] [Emb α] {n i : Nat} {b : Bool} {st : List Int} {f : List Cell → FM} {mr : MG} {q : Tr β} {qf : List Int × β → Tr (α × List Int)} (hi : env[i]? = some (.ow b (.fl (st.map D.int)))) (h : SG (mr env) q env)
    (hf : ∀ st p, SFM (f (.ow true (.fl (st.map D.int)) :: (EmbL.l p).map Cell.sh)) (qf (st, p)) (EmbL.l p)) (hp : ∀ st' : List Int, env.set i (.ow b (.fl (st'.map D.int))) = pk st') (hN : ∀ st, (pk st).length = N) (hn : ∀ p : β, (EmbL.l p).length + 1 = n := by intro _; rfl) :
    SS (mCallM n f (aLn i mr) env) (sCall qf st q) pk N := by
  have hl : env.length = N := by rw [← hN st, ← hp st, List.length_set]
  show SSX ((aLn i mr env).bind _) _ _ _ _
  unfold aLn
  rw [hi]
  dsimp only
  unfold sCall
  cases q with
  | bad => trivial
  | exc x =>
    obtain ⟨e, he, h⟩ := h
    rw [h]
    exact ⟨e, he.trans hl, rfl⟩
  | ok p =>
    have h : mr env = .ok ((EmbL.l p).map Arg.sh) env := h
    rw [h]
    dsimp only [Res.bind, Tr.bind]
    have hok : okL env (Arg.ln i :: (EmbL.l p).map Arg.sh) = true := by
      unfold okL
      rw [List.all_cons, okA_sh]
      simp only [okA, hi, lents, lents_sh, Bool.and_true, Bool.true_and, decide_eq_true_eq]
      simp
    rw [if_pos ⟨by rw [List.length_cons, List.length_map]; exact hn p, hok⟩, List.map_cons, argC_sh]
    have ea : argC env (.ln i) = .ow true (.fl (st.map D.int)) := by
      simp only [argC, hi]
    rw [ea]
    have hq := hf st p
    have hilt : i < env.length := (List.getElem?_eq_some_iff.mp hi).1
    have hb : ∀ (st' : List Int), backE (Arg.ln i :: (EmbL.l p).map Arg.sh) (.ow true (.fl (st'.map D.int)) :: (EmbL.l p).map Cell.sh) env = pk st' := fun st' => by
      unfold backE
      rw [backE_sh, ← hp st', List.getD_eq_getElem?_getD, hi]
      rfl
    cases z : qf (st, p) with
    | bad => trivial
    | exc x =>
      rw [z] at hq
      have hq : f _ = .exc x := hq
      rw [hq]
      exact ⟨_, by rw [backE_len]; exact hl, rfl⟩
    | ok a =>
      rw [z] at hq
      rcases hq with hq | ⟨m, hq, hm⟩
      · rw [hq]
        dsimp only
        rw [hb]
        exact rfl
      · rw [hq]
        dsimp only
        rw [hb, hm]
        exact rfl
end
/-! ### statements -/
def Tr.soS (_pk : List Int → En) (q : Tr (α × List Int)) (f : α × List Int → Ot S L τ) : Ot S L τ := q.so f
section
variable {env : En} {pS : S → En} {pS' : S' → En} {pL : L → En} {rp : τ → Rt → En → Prop} {N : Nat} {m m1 m2 m3 : MS} {pk : S → En} {pq : List Int → En}
theorem SO.ofS {A : Type} {r : Res A} {q : Tr (α × List Int)} {f : α → A} {k : A → En → Out} {h : α × List Int → Ot S L τ} (H : SSX r q f pq N) (K : ∀ a st, SO (k (f a) (pq st)) (h (a, st)) pS pL rp N) : SO (r.so k) (Tr.soS pq q h) pS pL rp N := by
  unfold Tr.soS
  cases q with
  | ok a =>
    have H : r = .ok (f a.1) (pq a.2) := H
    rw [H]
    exact K a.1 a.2
  | exc x =>
    obtain ⟨e, he, H⟩ := H
    rw [H]
    exact ⟨e, he, rfl⟩
  | bad => trivial
theorem so_setS [Emb α] {i : Nat} {e : ME} {q : Tr (α × List Int)} {k : α × List Int → Ot S L τ} (h : SS (e env) q pq N) (K : ∀ a st, SO (m2 ((pq st).set i (.sh (Emb.e a)))) (k (a, st)) pS pL rp N) : SO (sSeq (sSet i e) m2 env) (Tr.soS pq q k) pS pL rp N := by
  have e1 : sSeq (sSet i e) m2 env = (e env).so fun d e1 => m2 (e1.set i (.sh d)) := by
    unfold sSeq sSet
    cases e env <;> rfl
  rw [e1]
  exact SO.ofS h K
theorem so_asgS [Emb α] {g : D → En → Option En} {e : ME} {q : Tr (α × List Int)} {k : α × List Int → Ot S L τ} (h : SS (e env) q pq N) (K : ∀ a st, ∃ e1, g (Emb.e a) (pq st) = some e1 ∧ SO (m2 e1) (k (a, st)) pS pL rp N) : SO (sSeq (sAsg g e) m2 env) (Tr.soS pq q k) pS pL rp N := by
  have e1 : sSeq (sAsg g e) m2 env = (e env).so fun d e1 => match g d e1 with
    | some e2 => m2 e2
    | none => .bad := by
    unfold sSeq sAsg
    cases e env with
    | ok d e1 =>
      dsimp only [Res.so]
      cases g d e1 <;> rfl
    | _ => rfl
  rw [e1]
  refine SO.ofS h fun a st => ?_
  obtain ⟨e2, h1, h2⟩ := K a st
  rw [h1]
  exact h2
theorem so_retS [Emb α] {e : ME} {q : Tr (α × List Int)} {f : α × List Int → τ} (h : SS (e env) q pq N) (K : ∀ a st, rp (f (a, st)) (.sh (Emb.e a)) (pq st)) : SO (sSeq (sRet e) m2 env) (Tr.soS pq q fun a => .rt (f a) : Ot S L τ) pS pL rp N := by
  have e1 : sSeq (sRet e) m2 env = (e env).so fun d e1 => .rt (.sh d) e1 := by
    unfold sSeq sRet
    cases e env <;> rfl
  rw [e1]
  exact SO.ofS h fun a st => ⟨_, _, rfl, K a st⟩
theorem so_ifS {t : MT} {qc : Tr (Bool × List Int)} {qa qb : List Int → Ot S L τ} {k : S → Ot S' L τ} (hc : SST (t env) qc pq N) (ha : ∀ st, SO (m1 (pq st)) (qa st) pk pL rp N) (hb : ∀ st, SO (m2 (pq st)) (qb st) pk pL rp N) (K : ∀ s, SO (m3 (pk s)) (k s) pS' pL rp N) :
    SO (sSeq (sIf t m1 m2) m3 env) (Ot.bind pk (Tr.soS pq qc fun c => if c.1 = true then qa c.2 else qb c.2) k) pS' pL rp N := by
  refine so_seq ?_ K
  have e1 : sIf t m1 m2 env = (t env).so fun c e => if c = true then m1 e else m2 e := by
    unfold sIf
    cases t env <;> rfl
  rw [e1]
  refine SO.ofS hc fun c st => ?_
  cases c with
  | true => exact ha st
  | false => exact hb st
theorem so_forS [Emb α] {g : D → En → Option En} {mi : MA} {b : MS} {qi : Tr (List α × List Int)} {f : α → S → Ot S S τ} {s0 : List Int → S} {k : S → Ot S' L τ} (hi : SSA (mi env) qi pq N) (h0 : ∀ st, pq st = pk (s0 st)) (hb : ∀ x s, ∃ e1, g (Emb.e x) (pk s) = some e1 ∧ SO (b e1) (f x s) pk pk rp N)
    (K : ∀ s, SO (m2 (pk s)) (k s) pS' pL rp N) : SO (sSeq (sFor g mi b) m2 env) (Tr.soS pq qi fun xs => Ot.bind pk (forO pk f xs.1 (s0 xs.2)) k) pS' pL rp N := by
  have e1 : sSeq (sFor g mi b) m2 env = (mi env).so fun xs e => sqO m2 (runFor g b xs e) := by
    unfold sSeq sFor sqO
    cases mi env with
    | ok xs e =>
      dsimp only [Res.so]
      all_goals (cases runFor g b xs e <;> rfl)
    | _ => rfl
  rw [e1]
  refine SO.ofS hi fun xs st => ?_
  rw [h0 st]
  exact (runFor_so (pL := pL) (L := L) hb xs (s0 st)).seq K
end
/-! ### defs -/
theorem sfm_end {N : Nat} {st st' : List Int} {ds : List D} {e : En} (h0 : e[0]? = some (.ow true (.fl (st'.map D.int)))) (hN : e.length = N) (hn : ds.length + 1 ≤ N) : endCs (.ow true (.fl (st.map D.int)) :: ds.map Cell.sh) e = .ow true (.fl (st'.map D.int)) :: ds.map Cell.sh := by
  have key : ∀ (ds : List D) (e : En), ds.length ≤ e.length → endCs (ds.map Cell.sh) e = ds.map Cell.sh := by
    intro ds
    induction ds with
    | nil => intro e _; rfl
    | cons d ds ih =>
      intro e h
      cases e with
      | nil => simp at h
      | cons c e =>
        show endC (.sh d) c :: endCs (ds.map Cell.sh) e = _
        rw [ih e (by simpa using h)]
        rfl
  cases e with
  | nil => simp at h0
  | cons c e =>
    simp only [List.getElem?_cons_zero, Option.some.injEq] at h0
    subst h0
    show endC _ _ :: endCs (ds.map Cell.sh) e = _
    rw [key ds e (by simp only [List.length_cons] at hN; omega)]
    rfl
theorem sfm_run [Emb α] {N : Nat} {m : MS} {st : List Int} {ds : List D} {q : Ot Unit Unit (α × List Int)} {pS pL : Unit → En} (h : SO (m (env0M N (.ow true (.fl (st.map D.int)) :: ds.map Cell.sh))) q pS pL (rpAL N) N) (hn : ds.length + 1 ≤ N) : SFM (mrun N m (.ow true (.fl (st.map D.int)) :: ds.map Cell.sh)) q.fn ds := by
  unfold mrun
  cases q with
  | rt t =>
    obtain ⟨r, e, h, h2, h3, h4⟩ := h
    rw [h]
    rcases h2 with h2 | ⟨w, h2, h5⟩
    · rw [h2]
      refine .inl ?_
      show FM.sh _ (endCs _ e) = _
      rw [sfm_end h3 h4 hn]
    · rw [h2]
      refine .inr ⟨w, ?_, h5⟩
      show FM.ow _ (endCs _ e) = _
      rw [sfm_end h3 h4 hn]
  | exc x =>
    obtain ⟨e, _, h⟩ := h
    rw [h]
    exact rfl
  | _ => trivial
/-! ### built tuples -/
def tTup2 (p : α × β × Unit) : Option (α × β) := some (p.1, p.2.1)
def tTup3 (p : α × β × γ × Unit) : Option (T3 α β γ) := some ⟨p.1, p.2.1, p.2.2.1⟩
instance [Emb α] [Emb β] : OpC (β := α × β × Unit) gTup tTup2 := ⟨fun p z h => by cases h; rfl⟩
instance [Emb α] [Emb β] [Emb γ] : OpC (β := α × β × γ × Unit) gTup tTup3 := ⟨fun p z h => by cases h; rfl⟩
end
end No
end

section
set_option Elab.async false
set_option linter.all false
set_option maxRecDepth 100000
set_option maxHeartbeats 1000000
namespace No
open PySem PySem.Spec PyProof.Rows L2

section
variable {α β γ δ S S' L L' τ : Type}
/-! ### forms that are printed -/
def tFor (pk : S → En) (qi : Tr (List α)) (f : α → S → Ot S S τ) (s0 : S) (k : S → Ot S' L τ) : Ot S' L τ := qi.so fun xs => Ot.bind pk (forO pk f xs s0) k
def tWhile (pk : S → En) (c : S → Tr Bool) (f : S → Ot S S τ) (s0 : S) (k : S → Ot S' L τ) : Ot S' L τ := Ot.bind pk (whileO pk c f fuel s0) k
def tIfS (pk : S → En) (pq : List Int → En) (qc : Tr (Bool × List Int)) (qa qb : List Int → Ot S L τ) (k : S → Ot S' L τ) : Ot S' L τ := Ot.bind pk (Tr.soS pq qc fun c => if c.1 = true then qa c.2 else qb c.2) k
def tForS (pk : S → En) (pq : List Int → En) (qi : Tr (List α × List Int)) (f : α → S → Ot S S τ) (s0 : List Int → S) (k : S → Ot S' L τ) : Ot S' L τ := Tr.soS pq qi fun xs => Ot.bind pk (forO pk f xs.1 (s0 xs.2)) k
def tAug (l : List Int) (f : Int → Int → Int) (qi qv : Tr Int) (k : List Int → Ot S L τ) : Ot S L τ := qi.so fun z => (tRdP l z).so fun x => qv.so fun y => k (l.set z.toNat (f x y))
section
variable {env : En} {pS : S → En} {pS' : S' → En} {pL : L → En} {rp : τ → Rt → En → Prop} {N : Nat} {m m1 m2 m3 : MS} {pk : S → En} {pq : List Int → En}
theorem so_fr [Emb α] {g : D → En → Option En} {mi : MA} {b : MS} {qi : Tr (List α)} {f : α → S → Ot S S τ} {s0 : S} {k : S → Ot S' L τ} (hi : SA (mi env) qi env) (h0 : env = pk s0) (hb : ∀ x s, ∃ e1, g (Emb.e x) (pk s) = some e1 ∧ SO (b e1) (f x s) pk pk rp N)
    (K : ∀ s, SO (m2 (pk s)) (k s) pS' pL rp N) (hN : env.length = N := by rfl) : SO (sSeq (sFor g mi b) m2 env) (tFor pk qi f s0 k) pS' pL rp N := so_for hi h0 hb K hN
theorem so_whl {t : MT} {b : MS} {c : S → Tr Bool} {f : S → Ot S S τ} {s0 : S} {k : S → Ot S' L τ} (h0 : env = pk s0) (ht : ∀ s, ST (t (pk s)) (c s) (pk s)) (hb : ∀ s, SO (b (pk s)) (f s) pk pk rp N) (K : ∀ s, SO (m2 (pk s)) (k s) pS' pL rp N) (hN : ∀ s, (pk s).length = N := by intro _; rfl) :
    SO (sSeq (sWhile t b) m2 env) (tWhile pk c f s0 k) pS' pL rp N := so_while h0 ht hb K hN
theorem so_ifs {t : MT} {qc : Tr (Bool × List Int)} {qa qb : List Int → Ot S L τ} {k : S → Ot S' L τ} (hc : SST (t env) qc pq N) (ha : ∀ st, SO (m1 (pq st)) (qa st) pk pL rp N) (hb : ∀ st, SO (m2 (pq st)) (qb st) pk pL rp N) (K : ∀ s, SO (m3 (pk s)) (k s) pS' pL rp N) :
    SO (sSeq (sIf t m1 m2) m3 env) (tIfS pk pq qc qa qb k) pS' pL rp N := so_ifS hc ha hb K
theorem so_fors [Emb α] {g : D → En → Option En} {mi : MA} {b : MS} {qi : Tr (List α × List Int)} {f : α → S → Ot S S τ} {s0 : List Int → S} {k : S → Ot S' L τ} (hi : SSA (mi env) qi pq N) (h0 : ∀ st, pq st = pk (s0 st)) (hb : ∀ x s, ∃ e1, g (Emb.e x) (pk s) = some e1 ∧ SO (b e1) (f x s) pk pk rp N)
    (K : ∀ s, SO (m2 (pk s)) (k s) pS' pL rp N) : SO (sSeq (sFor g mi b) m2 env) (tForS pk pq qi f s0 k) pS' pL rp N := so_forS hi h0 hb K
theorem so_aug {i : Nat} {b : Bool} {l : List Int} {f : Int → Int → Int} {mi mv : ME} {qi qv : Tr Int} {k : List Int → Ot S L τ} (hz : SP (mi env) qi env) (hv : SP (mv env) qv env) (hi : env[i]? = some (.ow b (.fl (l.map D.int)))) (K : ∀ l' : List Int, SO (m2 (env.set i (.ow b (.fl (l'.map D.int))))) (k l') pS pL rp N) (hN : env.length = N := by rfl) :
    SO (sSeq (sAugP i f mi mv) m2 env) (tAug l f qi qv k) pS pL rp N := so_augP hz hv hi K hN
end
/-! handlers that hand back a text -/
def hS (mh : Exc → Option (Option D)) (x : Exc) : Option Str := match mh x with
  | some (some (.str s)) => some s
  | _ => none
theorem hS_ok {mh : Exc → Option (Option D)} {rp : Str → Rt → En → Prop} (h : ∀ (t : Str) (e : En), rp t (.sh (Emb.e t)) e) : ∀ x t, hS mh x = some t → ∃ d, mh x = some (some d) ∧ ∀ e, rp t (.sh d) e := by
  intro x t q
  unfold hS at q
  split at q
  · rename_i s hs
    cases q
    exact ⟨_, hs, fun e => h _ e⟩
  · cases q
/-- a turn of a comprehension -/
def LcE [Emb β] (t : MT) (el : ME) (vs : List Nat) (e1 env0 : En) (q : Tr (Option β)) : Prop := match q with
      | .ok (some y) => ∃ e2 e3, t e1 = .ok true e2 ∧ el e2 = .ok (Emb.e y) e3 ∧ wipeE e3 vs = env0
      | .ok none => ∃ e2, t e1 = .ok false e2 ∧ wipeE e2 vs = env0
      | _ => True
theorem sm_lcx [Emb α] [Emb β] {env : En} {g : D → En → Option En} {mi : MA} {t : MT} {el : ME} {vs : List Nat} {qi : Tr (List α)} {f : α → Tr (Option β)} (hi : SA (mi env) qi env) (hn : noOw env vs = true) (hr : restE env (wipeE env vs) vs = env)
    (hb : ∀ x, ∃ e1, g (Emb.e x) (wipeE env vs) = some e1 ∧ LcE t el vs e1 (wipeE env vs) (f x)) : SM (mFl (mLc g mi t el vs) env) (qi.bind (lcQ f)) env := sm_lc hi hn hr hb
theorem lc_el [Emb β] {e1 env0 : En} {vs : List Nat} {el : ME} {q : Tr β} (h : SP (el e1) q e1) (hw : wipeE e1 vs = env0) : LcE mYes el vs e1 env0 (q.bind fun y => Tr.ok (some y)) := lc_elt h hw
theorem lc_ts [Emb β] {e1 env0 : En} {vs : List Nat} {el : ME} {t : MT} {qt : Tr Bool} {q : Tr β} (ht : ST (t e1) qt e1) (h : SP (el e1) q e1) (hw : wipeE e1 vs = env0) : LcE t el vs e1 env0 (tFil qt q) := lc_tst ht h hw
/-- both of a pair -/
theorem sa_pair [Emb α] {env : En} {m : ME} {q : Tr (α × α)} (h : SP (m env) q env) : SA (mItemsT m env) (q.bind fun e => .ok [e.1, e.2]) env := SX.bind h fun a => SX.ok
/-! more types -/
instance {α β γ : Type} [DecidableEq α] [DecidableEq β] [DecidableEq γ] : DecidableEq (T3 α β γ) := fun x y =>
  decidable_of_iff (x.a = y.a ∧ x.b = y.b ∧ x.c = y.c) ⟨fun h => by
    cases x
    cases y
    simp only [T3.mk.injEq]
    exact h, fun h => by
    subst h
    exact ⟨rfl, rfl, rfl⟩⟩
/-- texts that are right -/
def tEqS (x y : Str) : Option Bool := if okEq (.str x) = true ∧ okEq (.str y) = true then some (decide (x = y)) else none
def tNeS (x y : Str) : Option Bool := if okEq (.str x) = true ∧ okEq (.str y) = true then some (!decide (x = y)) else none
theorem eqv_str (x y : Str) : eqvD (.str x) (.str y) = decide (x = y) := by
  unfold eqvD
  simp only [D.py, PyData.eqv]
  by_cases h : x = y
  · subst h
    simp
  · simp [h]
instance : Op2 gEq tEqS := ⟨fun x y z h => by
  show gEq (.str x) (.str y) = _
  unfold gEq
  unfold tEqS at h
  split at h
  · rename_i hc
    cases h
    rw [if_pos hc, eqv_str]
    rfl
  · cases h⟩
instance : Op2 gNe tNeS := ⟨fun x y z h => by
  show gNe (.str x) (.str y) = _
  unfold gNe
  unfold tNeS at h
  split at h
  · rename_i hc
    cases h
    rw [if_pos hc, eqv_str]
    rfl
  · cases h⟩
instance {α β γ : Type} [Emb α] [Emb β] [Emb γ] [O : OkE α] [O' : OkE β] [O2 : OkE γ] : OkE (T3 α β γ) := ⟨max O.n (max O'.n O2.n) + 1, fun p => okN_tup fun d hd => by
  simp only [List.mem_cons, List.not_mem_nil, or_false] at hd
  rcases hd with rfl | rfl | rfl
  · exact (O.ok p.a).mono (Nat.le_max_left _ _)
  · exact (O'.ok p.b).mono (Nat.le_trans (Nat.le_max_left _ _) (Nat.le_max_right _ _))
  · exact (O2.ok p.c).mono (Nat.le_trans (Nat.le_max_right _ _) (Nat.le_max_right _ _)), fun p q => by
  show PyData.eqv (D.py (.tup [_, _, _])) (D.py (.tup [_, _, _])) = true ↔ _
  simp only [D.py, PyData.eqv, pyAll, PyData.eqvAll, Bool.and_eq_true, and_true]
  have h1 := O.eqv p.a q.a
  have h2 := O'.eqv p.b q.b
  have h3 := O2.eqv p.c q.c
  unfold eqvD at h1 h2 h3
  rw [h1, h2, h3]
  cases p
  cases q
  simp⟩
/-- data that _law_same walks through -/
def pdB : Nat → D → Bool
  | 0, .lst _ => false
  | 0, .tup _ => false
  | n + 1, .lst l => decide (l.length ≤ sizeLine) && l.all (pdB n)
  | n + 1, .tup l => decide (l.length ≤ sizeLine) && l.all (pdB n)
  | _, .non => true
  | _, .bl _ => true
  | _, .int _ => true
  | _, .str s => okEq (.str s)
  | _, _ => false
/-- a thing is the same as itself -/
def tSame [Emb α] [DecidableEq α] (p : α × α × Unit) : Tr Bool := if p.1 = p.2.1 ∧ pdB 4 (Emb.e p.1) = true then .ok true else .bad
end
end No
end

section
set_option Elab.async false
set_option linter.all false
set_option maxRecDepth 100000
set_option maxHeartbeats 1000000
namespace No
open PySem
section
variable {α β γ S S' L τ : Type}
/-! ### evaluation of typed forms -/
@[simp] theorem tb1_ok (f : α → Option γ) (a : α) : tb1 f (.ok a) = .ofO (f a) := rfl
@[simp] theorem tb1_bad (f : α → Option γ) : tb1 f (.bad : Tr α) = .bad := rfl
@[simp] theorem tb2_ok (f : α → β → Option γ) (a : α) (b : β) : tb2 f (.ok a) (.ok b) = .ofO (f a b) := rfl
@[simp] theorem tPair_ok (a : α) (b : β) : tPair (.ok a) (.ok b) = .ok (a, b) := rfl
@[simp] theorem tCons'_ok (a : α) (b : List α) : tCons' (.ok a) (.ok b) = .ok (a :: b) := rfl
theorem tLst_ok {l : List α} (h : l.length ≤ sizeLine) : tLst (.ok l) = .ok l := by
  show Tr.ofO _ = _
  rw [if_pos h]
  rfl
@[simp] theorem tLst_nil : tLst (.ok ([] : List α)) = .ok [] := rfl
@[simp] theorem tLst_one (a : α) : tLst (.ok [a]) = .ok [a] := rfl
@[simp] theorem tLst_two (a b : α) : tLst (.ok [a, b]) = .ok [a, b] := rfl
@[simp] theorem tAndT_t (q : Tr Bool) : tAndT (.ok true) q = q := rfl
@[simp] theorem tAndT_f (q : Tr Bool) : tAndT (.ok false) q = .ok false := rfl
@[simp] theorem tOrT_t (q : Tr Bool) : tOrT (.ok true) q = .ok true := rfl
@[simp] theorem tOrT_f (q : Tr Bool) : tOrT (.ok false) q = q := rfl
@[simp] theorem tNotT_ok (b : Bool) : tNotT' (.ok b) = .ok (!b) := rfl
theorem tAndT_ok (a b : Bool) : tAndT (.ok a) (.ok b) = .ok (a && b) := by cases a <;> rfl
theorem tOrT_ok (a b : Bool) : tOrT (.ok a) (.ok b) = .ok (a || b) := by cases a <;> rfl
theorem tIfE_ok (c : Bool) (a b : α) : tIfE (.ok c) (.ok a) (.ok b) = .ok (if c = true then a else b) := by cases c <;> rfl
theorem tFil_ok (c : Bool) (a : α) : tFil (.ok c) (.ok a) = .ok (if c = true then some a else none) := by cases c <;> rfl
theorem tFil_f (q : Tr α) : tFil (.ok false) q = .ok none := rfl
theorem tFil_t (a : α) : tFil (.ok true) (.ok a) = .ok (some a) := rfl
theorem tChn_ok (f : α → β → Option Bool) (f' : β → γ → Option Bool) (a : α) (b : β) (c : γ) {x y : Bool} (h : f a b = some x) (h' : f' b c = some y) : tChn f f' (.ok a) (.ok b) (.ok c) = .ok (x && y) := by
  show (Tr.ofO (f a b)).bind _ = _
  rw [h]
  cases x with
  | false => rfl
  | true =>
    show Tr.ofO (f' b c) = _
    rw [h']
    rfl
@[simp] theorem tAdd_e (x y : Int) : tAdd x y = some (x + y) := rfl
@[simp] theorem tSub_e (x y : Int) : tSub x y = some (x - y) := rfl
@[simp] theorem tNeg_e (x : Int) : tNeg x = some (-x) := rfl
@[simp] theorem tLt_e (x y : Int) : tLt x y = some (decide (x < y)) := rfl
@[simp] theorem tLe_e (x y : Int) : tLe x y = some (decide (x ≤ y)) := rfl
@[simp] theorem tGt_e (x y : Int) : tGt x y = some (decide (y < x)) := rfl
@[simp] theorem tGe_e (x y : Int) : tGe x y = some (decide (y ≤ x)) := rfl
@[simp] theorem tTup2_e (x : α) (y : β) : tTup2 (x, y, ()) = some (x, y) := rfl
@[simp] theorem tTup3_e (x : α) (y : β) (z : γ) : tTup3 (x, y, z, ()) = some ⟨x, y, z⟩ := rfl
@[simp] theorem tIx0_e (p : α × β) : tIx0 p 0 = some p.1 := rfl
@[simp] theorem tIx1_e (p : α × β) : tIx1 p 1 = some p.2 := rfl
@[simp] theorem tLen_e (l : List α) : tLen (l, ()) = some (l.length : Int) := rfl
@[simp] theorem tLen2_e (p : α × β) : tLen2 (p, ()) = some 2 := rfl
@[simp] theorem tInt_e (x : Int) : tInt (x, ()) = some x := rfl
@[simp] theorem tSum_e (l : List Int) : tSum (l, ()) = some l.sum := rfl
@[simp] theorem tList_e (l : List α) : tList (l, ()) = some l := rfl
@[simp] theorem tMin2_e (x y : Int) : tMin2 (x, y, ()) = some (if y < x then y else x) := rfl
@[simp] theorem tMax2_e (x y : Int) : tMax2 (x, y, ()) = some (if y > x then y else x) := rfl
@[simp] theorem tInL_e (x : Int) (l : List Int) : tInL x l = some (l.contains x) := rfl
@[simp] theorem tNotInL_e (x : Int) (l : List Int) : tNotInL x l = some (!l.contains x) := rfl
theorem smB_lt {x : Int} (h1 : -(2 ^ 63) < x) (h2 : x < 2 ^ 63) : smB x = true := smB_of (by omega)
theorem tMul_l {x y : Int} (h : smB x = true) : tMul x y = some (x * y) := by
  unfold tMul cMul
  rw [h]
  rfl
theorem tMul_r {x y : Int} (h : smB y = true) : tMul x y = some (x * y) := by
  unfold tMul cMul
  rw [h, Bool.or_true]
  rfl
theorem tDiv_e {x y : Int} (h0 : 0 < y) (h : y < 1000000000) : tDiv x y = some (x / y) := by
  unfold tDiv cDiv
  rw [Nat.ble_eq_true_of_le (by omega), Nat.ble_eq_true_of_le (by omega)]
  rfl
theorem tMod_e {x y : Int} (h0 : 0 < y) : tMod x y = some (x % y) := by
  unfold tMod cMod
  rw [Nat.ble_eq_true_of_le (by omega)]
  rfl
theorem tIx_e {l : List α} {i : Nat} {a : α} (h : l[i]? = some a) : tIx l (i : Int) = some a := L2.atI_nat h
theorem tIx_i {l : List α} {i : Int} {a : α} (h0 : 0 ≤ i) (h : l[i.toNat]? = some a) : tIx l i = some a := by
  have := tIx_e h
  rwa [Int.toNat_of_nonneg h0] at this
theorem tIx_last (l : List α) (a : α) : tIx (l ++ [a]) (-1) = some a := L2.atI_last l a
theorem tEq_e [Emb α] [O : OkE α] [DecidableEq α] (x y : α) (h : O.n ≤ 64) : tEq x y = some (decide (x = y)) := if_pos h
theorem tNe_e [Emb α] [O : OkE α] [DecidableEq α] (x y : α) (h : O.n ≤ 64) : tNe x y = some (!decide (x = y)) := if_pos h
@[simp] theorem tEq_li (x y : List Int) : tEq x y = some (decide (x = y)) := rfl
@[simp] theorem tNe_li (x y : List Int) : tNe x y = some (!decide (x = y)) := rfl
@[simp] theorem tEq_lp (x y : List (Int × Int)) : tEq x y = some (decide (x = y)) := rfl
@[simp] theorem tNe_lp (x y : List (Int × Int)) : tNe x y = some (!decide (x = y)) := rfl
theorem inR_lt {x : Int} (h1 : -(2 ^ 61) < x) (h2 : x < 2 ^ 61) : inR x = true := inR_of (by omega)
theorem tRng1_ok {n : Nat} (h : n < 2 ^ 61) : tRng1 (.ok (n : Int)) = .ok (uptoI 0 n) := by
  show (if inR (n : Int) = true then Tr.ok (uptoI 0 (n : Int).toNat) else .bad) = _
  rw [if_pos (inR_lt (by omega) (by omega)), Int.toNat_natCast]
theorem tRng2_ok {i : Int} {n : Nat} (h : n < 2 ^ 50) (h1 : -(2 ^ 50) < i) (h2 : i < 2 ^ 50) : tRng2 (.ok i) (.ok (i + n)) = .ok (uptoI i n) := by
  show (if inR i = true ∧ inR (i + n) = true then Tr.ok (uptoI i (i + n - i).toNat) else .bad) = _
  rw [if_pos ⟨inR_lt (by omega) (by omega), inR_lt (by omega) (by omega)⟩, show (i + (n : Int) - i).toNat = n by omega]
theorem tLr1_ok {n : Nat} (h : n ≤ 1000) : tLr1 (.ok (n : Int)) = .ok (uptoI 0 n) := by
  show (if inR (n : Int) = true ∧ (n : Int).toNat ≤ sizeLine then Tr.ok (uptoI 0 (n : Int).toNat) else .bad) = _
  rw [if_pos ⟨inR_lt (by omega) (by omega), by show _ ≤ 16777216; omega⟩, Int.toNat_natCast]
theorem tLr2_ok {i : Int} {n : Nat} (h : n ≤ 1000) (h1 : -(2 ^ 50) < i) (h2 : i < 2 ^ 50) : tLr2 (.ok i) (.ok (i + n)) = .ok (uptoI i n) := by
  show (if inR i = true ∧ inR (i + n) = true ∧ (i + n - i).toNat ≤ sizeLine then Tr.ok (uptoI i (i + n - i).toNat) else .bad) = _
  rw [if_pos ⟨inR_lt (by omega) (by omega), inR_lt (by omega) (by omega), by show _ ≤ 16777216; omega⟩, show (i + (n : Int) - i).toNat = n by omega]
theorem tCat_e {a b : List α} (h : a.length + b.length ≤ 16777216) : tCat a b = some (a ++ b) := if_pos h
theorem tRep_e {a : α} {k : Nat} (h : k ≤ 1000) : tRep [a] (k : Int) = some (List.replicate k a) := by
  unfold tRep
  rw [if_pos ⟨inR_lt (by omega) (by omega), by show 1 * (k : Int).toNat ≤ 16777216; omega⟩, Int.toNat_natCast]
  congr 1
  induction k with
  | zero => rfl
  | succ k ih => rw [List.replicate_succ, List.flatten_cons, ih (by omega)]; rfl
/-! comprehensions -/
theorem lcT_some {f : α → Tr (Option β)} {g : α → β} : ∀ {xs : List α}, (∀ x ∈ xs, f x = .ok (some (g x))) → lcT f xs = .ok (xs.map g)
  | [], _ => rfl
  | x :: xs, h => by
    unfold lcT
    rw [h x List.mem_cons_self]
    dsimp only
    rw [lcT_some fun y hy => h y (List.mem_cons_of_mem _ hy)]
    rfl
theorem lcQ_map {f : α → Tr (Option β)} {g : α → β} {xs : List α} (hz : xs.length ≤ 16777216) (h : ∀ x ∈ xs, f x = .ok (some (g x))) : lcQ f xs = .ok (xs.map g) := by
  unfold lcQ
  rw [if_pos (show xs.length ≤ sizeLine from hz)]
  exact lcT_some h
theorem lcT_fil {f : α → Tr (Option β)} {p : α → Bool} {g : α → β} : ∀ {xs : List α}, (∀ x ∈ xs, f x = .ok (if p x = true then some (g x) else none)) → lcT f xs = .ok ((xs.filter p).map g)
  | [], _ => rfl
  | x :: xs, h => by
    unfold lcT
    rw [h x List.mem_cons_self]
    dsimp only
    rw [lcT_fil fun y hy => h y (List.mem_cons_of_mem _ hy)]
    by_cases hp : p x = true
    · rw [if_pos hp, List.filter_cons, if_pos hp]
      rfl
    · rw [if_neg hp, List.filter_cons, if_neg hp]
theorem lcQ_fil {f : α → Tr (Option β)} (p : α → Bool) (g : α → β) {xs : List α} (hz : xs.length ≤ 16777216) (h : ∀ x ∈ xs, f x = .ok (if p x = true then some (g x) else none)) : lcQ f xs = .ok ((xs.filter p).map g) := by
  unfold lcQ
  rw [if_pos (show xs.length ≤ sizeLine from hz)]
  exact lcT_fil h
/-! loops -/
theorem forO_inv {pk : S → En} {f : α → S → Ot S S τ} {g : S → α → S} (I : S → Prop) : ∀ (xs : List α) (s : S), I s → (∀ x ∈ xs, ∀ s, I s → f x s = .nx (g s x) ∧ I (g s x)) → (forO pk f xs s : Ot S L τ) = .nx (xs.foldl g s) ∧ I (xs.foldl g s)
  | [], s, h, _ => ⟨rfl, h⟩
  | x :: xs, s, h, hf => by
    obtain ⟨h1, h2⟩ := hf x List.mem_cons_self s h
    unfold forO
    rw [h1]
    exact forO_inv I xs (g s x) h2 fun y hy => hf y (List.mem_cons_of_mem _ hy)
theorem forO_map {pk : S → En} {f : α → S → Ot S S τ} {g : S → α → S} {xs : List α} {s : S} (hf : ∀ x ∈ xs, ∀ s, f x s = .nx (g s x)) : (forO pk f xs s : Ot S L τ) = .nx (xs.foldl g s) :=
  (forO_inv (I := fun _ => True) xs s trivial fun x hx s _ => ⟨hf x hx s, trivial⟩).1
/-- with the invariant by what was walked -/
theorem forO_pre {pk : S → En} {f : α → S → Ot S S τ} {xs : List α} {s : S} (I : List α → S → Prop) (h0 : I [] s) (hf : ∀ p x q s, xs = p ++ x :: q → I p s → ∃ s', f x s = .nx s' ∧ I (p ++ [x]) s') : ∃ s', (forO pk f xs s : Ot S L τ) = .nx s' ∧ I xs s' := by
  have key : ∀ (q p : List α) (s : S), xs = p ++ q → I p s → ∃ s', (forO pk f q s : Ot S L τ) = .nx s' ∧ I xs s' := by
    intro q
    induction q with
    | nil =>
      intro p s e h
      rw [List.append_nil] at e
      exact ⟨s, rfl, e ▸ h⟩
    | cons x q ih =>
      intro p s e h
      obtain ⟨s', h1, h2⟩ := hf p x q s e h
      obtain ⟨s2, h3, h4⟩ := ih (p ++ [x]) s' (by rw [e]; simp) h2
      refine ⟨s2, ?_, h4⟩
      unfold forO
      rw [h1]
      exact h3
  exact key xs [] s rfl h0
theorem tFor_ok {pk : S → En} {xs : List α} {f : α → S → Ot S S τ} {s0 s1 : S} {k : S → Ot S' L τ} (h : (forO pk f xs s0 : Ot S L τ) = .nx s1) : tFor pk (.ok xs) f s0 k = k s1 := by
  show Ot.bind pk (forO pk f xs s0) k = _
  rw [h]
  rfl
end
end No
end

section
set_option Elab.async false
set_option linter.all false
set_option maxRecDepth 100000
set_option maxHeartbeats 1000000
namespace No
open PySem PySem.Spec PyProof.Rows L2

section
variable {α : Type}
theorem cut_to (l : List α) (k : Nat) (h : k ≤ l.length) : cutT l none (some (k : Int)) = l.take k := by
  unfold cutT HT.sIx
  simp only [List.drop_zero, Nat.sub_zero]
  rw [if_neg (by omega), Int.toNat_natCast, Nat.min_eq_left h]
theorem cut_from (l : List α) (k : Nat) (h : k ≤ l.length) : cutT l (some (k : Int)) none = l.drop k := by
  unfold cutT HT.sIx
  dsimp only
  rw [if_neg (by omega), Int.toNat_natCast, Nat.min_eq_left h]
  exact List.take_of_length_le (by simp)
theorem cut_init (l : List α) (a : α) : cutT (l ++ [a]) none (some (-1)) = l := by
  unfold cutT HT.sIx
  simp only [List.drop_zero, Nat.sub_zero, List.length_append, List.length_cons, List.length_nil]
  rw [if_pos (by decide), show ((-1 : Int) + ((l.length + (0 + 1) : Nat) : Int)).toNat = l.length by omega]
  simp
theorem cut_last (l : List α) (a : α) : cutT (l ++ [a]) (some (-1)) none = [a] := by
  unfold cutT HT.sIx
  dsimp only
  simp only [List.length_append, List.length_cons, List.length_nil]
  rw [if_pos (by decide), show ((-1 : Int) + ((l.length + (0 + 1) : Nat) : Int)).toNat = l.length by omega]
  simp
theorem cut_lastN : cutT ([] : List α) (some (-1)) none = [] := rfl
end
end No
end

section
set_option Elab.async false
set_option linter.all false
set_option maxRecDepth 100000
set_option maxHeartbeats 1000000
namespace Gp
open PySem

/-! ### how many there are -/
def dd : List Int → List Int
  | [] => []
  | x :: l => if x ∈ dd l then dd l else x :: dd l
theorem mem_dd {x : Int} : ∀ {l : List Int}, x ∈ dd l ↔ x ∈ l
  | [] => by simp [dd]
  | y :: l => by
    have ih := mem_dd (x := x) (l := l)
    unfold dd
    split
    · rename_i h
      rw [ih, List.mem_cons]
      constructor
      · exact .inr
      · rintro (rfl | h2)
        · exact mem_dd.mp h
        · exact h2
    · rw [List.mem_cons, List.mem_cons, ih]
theorem nodup_dd : ∀ (l : List Int), (dd l).Nodup
  | [] => List.nodup_nil
  | y :: l => by
    unfold dd
    split
    · exact nodup_dd l
    · rename_i h
      exact List.nodup_cons.mpr ⟨h, nodup_dd l⟩
def dc (l : List Int) : Nat := (dd l).length
theorem dc_of_nodup {l m : List Int} (hm : m.Nodup) (h : ∀ x, x ∈ l ↔ x ∈ m) : dc l = m.length :=
  ((List.perm_ext_iff_of_nodup (nodup_dd l) hm).mpr fun x => by rw [mem_dd]; exact h x).length_eq
theorem dc_mem {l m : List Int} (h : ∀ x, x ∈ l ↔ x ∈ m) : dc l = dc m := dc_of_nodup (nodup_dd m) fun x => by rw [mem_dd]; exact h x
theorem dc_pat {α : Type} (f g : α → Int) : ∀ (L : List α), (∀ i ∈ L, ∀ j ∈ L, f i = f j ↔ g i = g j) → dc (L.map f) = dc (L.map g)
  | [], _ => rfl
  | x :: L, h => by
    have ih := dc_pat f g L fun i hi j hj => h i (List.mem_cons_of_mem _ hi) j (List.mem_cons_of_mem _ hj)
    have e : f x ∈ dd (L.map f) ↔ g x ∈ dd (L.map g) := by
      rw [mem_dd, mem_dd, List.mem_map, List.mem_map]
      constructor
      · rintro ⟨y, hy, e⟩
        exact ⟨y, hy, (h y (List.mem_cons_of_mem _ hy) x List.mem_cons_self).mp e⟩
      · rintro ⟨y, hy, e⟩
        exact ⟨y, hy, (h y (List.mem_cons_of_mem _ hy) x List.mem_cons_self).mpr e⟩
    unfold dc at ih ⊢
    rw [List.map_cons, List.map_cons]
    unfold dd
    by_cases hx : f x ∈ dd (L.map f)
    · rw [if_pos hx, if_pos (e.mp hx), ih]
    · rw [if_neg hx, if_neg fun z => hx (e.mpr z), List.length_cons, List.length_cons, ih]
theorem dc_cons {l m : List Int} {z : Int} (hz : z ∉ m) (h : ∀ x, x ∈ l ↔ x = z ∨ x ∈ m) : dc l = dc m + 1 := by
  have := dc_of_nodup (l := l) (m := z :: dd m) (List.nodup_cons.mpr ⟨by rw [mem_dd]; exact hz, nodup_dd m⟩) fun x => by rw [h x, List.mem_cons, mem_dd]
  rw [this, List.length_cons]
  rfl
theorem foldl_dedup (ns : List Int) : ∀ σ : List Int, σ.Nodup → (ns.foldl PyProof.Rows.step_dedup σ).Nodup ∧ ∀ x, x ∈ ns.foldl PyProof.Rows.step_dedup σ ↔ x ∈ σ ∨ x ∈ ns := by
  induction ns with
  | nil => intro σ h; exact ⟨h, fun x => by simp⟩
  | cons y ns ih =>
    intro σ h
    rw [List.foldl_cons]
    have e : PyProof.Rows.step_dedup σ y = if y ∈ σ then σ else σ ++ [y] := by
      unfold PyProof.Rows.step_dedup
      by_cases hy : y ∈ σ
      · have c : (σ.any fun x => x == y) = true := List.any_eq_true.mpr ⟨y, hy, beq_self_eq_true y⟩
        rw [if_pos hy, if_pos c]
      · have c : ¬ (σ.any fun x => x == y) = true := fun z => hy (by
          obtain ⟨w, hw, e⟩ := List.any_eq_true.mp z
          rw [← eq_of_beq e]
          exact hw)
        rw [if_neg hy, if_neg c]
    rw [e]
    by_cases hy : y ∈ σ
    · rw [if_pos hy]
      obtain ⟨h1, h2⟩ := ih σ h
      refine ⟨h1, fun x => ?_⟩
      rw [h2 x, List.mem_cons]
      constructor
      · rintro (a | a)
        · exact .inl a
        · exact .inr (.inr a)
      · rintro (a | rfl | a)
        · exact .inl a
        · exact .inl hy
        · exact .inr a
    · rw [if_neg hy]
      have hn : (σ ++ [y]).Nodup := List.nodup_append.mpr ⟨h, by simp, fun a ha b hb => by
        rw [List.mem_singleton.mp hb]
        exact fun z => hy (z ▸ ha)⟩
      obtain ⟨h1, h2⟩ := ih (σ ++ [y]) hn
      refine ⟨h1, fun x => ?_⟩
      rw [h2 x, List.mem_cons, List.mem_append, List.mem_singleton, or_assoc]
theorem metLen_dc (ns : List Int) : No.metLen ns = dc ns := by
  unfold No.metLen PyProof.Rows.firstMet
  have e : (List.range ns.length).map (fun i => ns.getD i 0) = ns := by
    refine List.ext_getElem (by simp) fun i h1 h2 => ?_
    rw [List.getElem_map, List.getElem_range, List.getD_eq_getElem?_getD, List.getElem?_eq_getElem h2]
    rfl
  rw [e]
  obtain ⟨h1, h2⟩ := foldl_dedup ns [] List.nodup_nil
  exact (dc_of_nodup h1 fun x => by rw [h2 x]; simp).symm

/-! ### labels -/
abbrev E := Int × Int
def mg (f : Int → Int) (e : E) : Int → Int := fun i => if f i = (if f e.2 > f e.1 then f e.2 else f e.1) then (if f e.2 < f e.1 then f e.2 else f e.1) else f i
theorem mg_iff (f : Int → Int) (e : E) (i j : Int) : mg f e i = mg f e j ↔ f i = f j ∨ ((f i = f e.1 ∨ f i = f e.2) ∧ (f j = f e.1 ∨ f j = f e.2)) := by
  unfold mg
  (repeat' split) <;> omega
def labR : List E → Int → Int
  | [] => id
  | e :: r => mg (labR r) e
theorem lab_inv : ∀ {r : List E} {e : E}, e ∈ r → labR r e.1 = labR r e.2
  | e' :: r, e, h => by
    show mg (labR r) e' e.1 = mg (labR r) e' e.2
    rw [mg_iff]
    rcases List.mem_cons.mp h with rfl | h
    · exact .inr ⟨.inl rfl, .inr rfl⟩
    · exact .inl (lab_inv h)
theorem lab_univ {β : Type} {h : Int → β} : ∀ {r : List E}, (∀ e ∈ r, h e.1 = h e.2) → ∀ {i j : Int}, labR r i = labR r j → h i = h j
  | [], _, i, j, q => by
    have q : i = j := q
    rw [q]
  | e :: r, hr, i, j, q => by
    have ih := fun {i j : Int} => lab_univ (h := h) (r := r) (fun a ha => hr a (List.mem_cons_of_mem _ ha)) (i := i) (j := j)
    have q : mg (labR r) e i = mg (labR r) e j := q
    rw [mg_iff] at q
    have he := hr e List.mem_cons_self
    rcases q with q | ⟨q1, q2⟩
    · exact ih q
    · rcases q1 with q1 | q1 <;> rcases q2 with q2 | q2
      · rw [ih q1, ih q2]
      · rw [ih q1, ih q2, he]
      · rw [ih q1, ih q2, he]
      · rw [ih q1, ih q2]
theorem lab_mono {A r : List E} (h : ∀ e ∈ A, e ∈ r) {i j : Int} (q : labR A i = labR A j) : labR r i = labR r j :=
  lab_univ (h := labR r) (fun e he => lab_inv (h e he)) q
def up (n : Nat) : List Int := No.uptoI 0 n
theorem mem_up {n : Nat} {x : Int} : x ∈ up n ↔ 0 ≤ x ∧ x < n := by
  unfold up No.uptoI
  rw [List.mem_map]
  constructor
  · rintro ⟨i, hi, rfl⟩
    have := List.mem_range.mp hi
    omega
  · rintro ⟨h1, h2⟩
    exact ⟨x.toNat, List.mem_range.mpr (by omega), by omega⟩
theorem nodup_up (n : Nat) : (up n).Nodup := by
  unfold up No.uptoI
  rw [List.nodup_iff_pairwise_ne]
  refine List.pairwise_map.mpr ?_
  exact (List.nodup_iff_pairwise_ne.mp (List.nodup_range (n := n))).imp fun h => by omega
theorem len_up (n : Nat) : (up n).length = n := by simp [up, No.uptoI]
/-- the number of parts -/
def cN (n : Nat) (r : List E) : Nat := dc ((up n).map (labR r))
def InR (n : Nat) (r : List E) : Prop := ∀ e ∈ r, (0 ≤ e.1 ∧ e.1 < n) ∧ (0 ≤ e.2 ∧ e.2 < n)
theorem cN_nil (n : Nat) : cN n [] = n := by
  unfold cN
  rw [show (up n).map (labR []) = up n from List.map_id _]
  rw [dc_of_nodup (nodup_up n) fun x => Iff.rfl, len_up]
theorem cN_loop (n : Nat) (u : Int) (r : List E) : cN n ((u, u) :: r) = cN n r := by
  unfold cN
  have : labR ((u, u) :: r) = labR r := by
    funext i
    show mg (labR r) (u, u) i = labR r i
    unfold mg
    dsimp only
    (repeat' split) <;> omega
  rw [this]
theorem cN_same {n : Nat} {e : E} {r : List E} (h : labR r e.1 = labR r e.2) : cN n (e :: r) = cN n r := by
  unfold cN
  refine dc_pat _ _ _ fun i _ j _ => ?_
  show mg (labR r) e i = mg (labR r) e j ↔ _
  rw [mg_iff, ← h]
  omega
theorem cN_less {n : Nat} {e : E} {r : List E} (he : (0 ≤ e.1 ∧ e.1 < n) ∧ (0 ≤ e.2 ∧ e.2 < n)) (h : labR r e.1 ≠ labR r e.2) : cN n r = cN n (e :: r) + 1 := by
  unfold cN
  refine dc_cons (z := if labR r e.2 > labR r e.1 then labR r e.2 else labR r e.1) (fun z => ?_) fun x => ?_
  · obtain ⟨i, _, q⟩ := List.mem_map.mp z
    have q : mg (labR r) e i = _ := q
    unfold mg at q
    (repeat' split at q) <;> (try split) <;> (try (split at q)) <;> omega
  · rw [List.mem_map, List.mem_map]
    constructor
    · rintro ⟨i, hi, rfl⟩
      by_cases q : labR r i = if labR r e.2 > labR r e.1 then labR r e.2 else labR r e.1
      · exact .inl q
      · refine .inr ⟨i, hi, ?_⟩
        show mg (labR r) e i = _
        unfold mg
        rw [if_neg q]
    · rintro (q | ⟨i, hi, q⟩)
      · split at q
        · exact ⟨e.2, mem_up.mpr he.2, q.symm⟩
        · exact ⟨e.1, mem_up.mpr he.1, q.symm⟩
      · have q : mg (labR r) e i = x := q
        have t : mg (labR r) e i = labR r e.2 ∨ mg (labR r) e i = labR r e.1 ∨ mg (labR r) e i = labR r i := by
          unfold mg
          (repeat' split) <;> omega
        rcases t with t | t | t
        · exact ⟨e.2, mem_up.mpr he.2, t.symm.trans q⟩
        · exact ⟨e.1, mem_up.mpr he.1, t.symm.trans q⟩
        · exact ⟨i, hi, t.symm.trans q⟩
theorem cN_le {n : Nat} {e : E} {r : List E} (he : (0 ≤ e.1 ∧ e.1 < n) ∧ (0 ≤ e.2 ∧ e.2 < n)) : cN n (e :: r) ≤ cN n r ∧ cN n r ≤ cN n (e :: r) + 1 := by
  by_cases h : labR r e.1 = labR r e.2
  · rw [cN_same h]
    omega
  · rw [cN_less he h]
    omega
theorem cN_ge {n : Nat} : ∀ {r : List E}, InR n r → n ≤ cN n r + r.length
  | [], _ => by rw [cN_nil]; simp
  | e :: r, h => by
    have ih := cN_ge (r := r) fun a ha => h a (List.mem_cons_of_mem _ ha)
    have := (cN_le (r := r) (h e List.mem_cons_self)).2
    rw [List.length_cons]
    omega
theorem cN_top {n : Nat} : ∀ {r : List E}, InR n r → cN n r ≤ n
  | [], _ => by rw [cN_nil]; omega
  | e :: r, h => by
    have ih := cN_top (r := r) fun a ha => h a (List.mem_cons_of_mem _ ha)
    have := (cN_le (r := r) (h e List.mem_cons_self)).1
    omega
/-! ### two nodes made one -/
def piM (hi lo : Int) (i : Int) : Int := if i < hi then i else if i = hi then lo else i - 1
def mapE (g : Int → Int) (r : List E) : List E := r.map fun e => (g e.1, g e.2)
theorem contract {m : Nat} {lo hi : Int} {A : List E} (h0 : 0 ≤ lo) (h1 : lo < hi) (h2 : hi < (m + 1 : Nat)) {e : E} (he : e = (lo, hi) ∨ e = (hi, lo)) (i j : Int) :
    labR (e :: A) i = labR (e :: A) j ↔ labR (mapE (piM hi lo) A) (piM hi lo i) = labR (mapE (piM hi lo) A) (piM hi lo j) := by
  constructor
  · intro q
    refine lab_univ (h := fun x => labR (mapE (piM hi lo) A) (piM hi lo x)) (fun a ha => ?_) q
    rcases List.mem_cons.mp ha with rfl | ha
    · have e1 : piM hi lo lo = lo := if_pos h1
      have e2 : piM hi lo hi = lo := by
        unfold piM
        rw [if_neg (by omega), if_pos rfl]
      rcases he with rfl | rfl
      · rw [e1, e2]
      · rw [e1, e2]
    · exact lab_inv (r := mapE (piM hi lo) A) (e := (piM hi lo a.1, piM hi lo a.2)) (List.mem_map.mpr ⟨a, ha, rfl⟩)
  · intro q
    have hlh : labR (e :: A) lo = labR (e :: A) hi := by
      have := lab_inv (r := e :: A) (e := e) List.mem_cons_self
      rcases he with rfl | rfl
      · exact this
      · exact this.symm
    have sec : ∀ x, labR (e :: A) (if piM hi lo x < hi then piM hi lo x else piM hi lo x + 1) = labR (e :: A) x := fun x => by
      unfold piM
      by_cases c1 : x < hi
      · rw [if_pos c1, if_pos c1]
      · rw [if_neg c1]
        by_cases c2 : x = hi
        · rw [if_pos c2, if_pos h1, c2, hlh]
        · rw [if_neg c2, if_neg (by omega)]
          congr 1
          omega
    have key := lab_univ (h := fun x => labR (e :: A) (if x < hi then x else x + 1)) (r := mapE (piM hi lo) A) (fun a ha => ?_) q
    · rw [sec, sec] at key
      exact key
    · obtain ⟨b, hb, rfl⟩ := List.mem_map.mp ha
      rw [sec, sec]
      exact lab_inv (List.mem_cons_of_mem _ hb)
theorem cN_contract {m : Nat} {lo hi : Int} {A : List E} (h0 : 0 ≤ lo) (h1 : lo < hi) (h2 : hi < (m + 1 : Nat)) {e : E} (he : e = (lo, hi) ∨ e = (hi, lo)) : cN (m + 1) (e :: A) = cN m (mapE (piM hi lo) A) := by
  unfold cN
  rw [dc_pat (labR (e :: A)) (fun i => labR (mapE (piM hi lo) A) (piM hi lo i)) _ fun i _ j _ => contract h0 h1 h2 he i j]
  refine dc_mem fun x => ?_
  rw [List.mem_map, List.mem_map]
  constructor
  · rintro ⟨i, hi', rfl⟩
    rw [mem_up] at hi'
    refine ⟨piM hi lo i, mem_up.mpr ?_, rfl⟩
    unfold piM
    split
    · omega
    · split <;> omega
  · rintro ⟨i, hi', rfl⟩
    rw [mem_up] at hi'
    refine ⟨if i < hi then i else i + 1, mem_up.mpr ?_, ?_⟩
    · split <;> omega
    · congr 1
      unfold piM
      (repeat' split) <;> omega
theorem inR_map {m : Nat} {lo hi : Int} {r : List E} (h0 : 0 ≤ lo) (h1 : lo < hi) (h2 : hi < (m + 1 : Nat)) (h : InR (m + 1) r) : InR m (mapE (piM hi lo) r) := by
  intro a ha
  obtain ⟨b, hb, rfl⟩ := List.mem_map.mp ha
  have := h b hb
  have key : ∀ i : Int, 0 ≤ i ∧ i < (m + 1 : Nat) → 0 ≤ piM hi lo i ∧ piM hi lo i < (m : Nat) := fun i hi' => by
    unfold piM
    split
    · omega
    · split <;> omega
  exact ⟨key _ this.1, key _ this.2⟩
end Gp
end

section
set_option Elab.async false
set_option linter.all false
set_option maxRecDepth 100000
set_option maxHeartbeats 1000000
namespace Gp
open PySem
/-! ### sums over subsets of edges (lists of edges are held last first) -/
def subs : List E → List (List E)
  | [] => [[]]
  | e :: r => subs r ++ (subs r).map (e :: ·)
def sm {α : Type} (f : α → Int) (l : List α) : Int := (l.map f).sum
@[simp] theorem sm_nil {α : Type} (f : α → Int) : sm f [] = 0 := rfl
@[simp] theorem sm_cons {α : Type} (f : α → Int) (a : α) (l : List α) : sm f (a :: l) = f a + sm f l := by simp [sm]
theorem sm_append {α : Type} (f : α → Int) (a b : List α) : sm f (a ++ b) = sm f a + sm f b := by simp [sm, List.map_append, List.sum_append]
theorem sm_map {α β : Type} (f : β → Int) (g : α → β) (l : List α) : sm f (l.map g) = sm (fun x => f (g x)) l := by
  unfold sm
  rw [List.map_map]
  rfl
theorem sm_congr {α : Type} {f g : α → Int} {l : List α} (h : ∀ x ∈ l, f x = g x) : sm f l = sm g l := by
  unfold sm
  rw [List.map_congr_left h]
theorem sm_add {α : Type} (f g : α → Int) (l : List α) : sm (fun x => f x + g x) l = sm f l + sm g l := by
  induction l with
  | nil => rfl
  | cons a l ih => rw [sm_cons, sm_cons, sm_cons, ih]; omega
theorem sm_mul {α : Type} (c : Int) (f : α → Int) (l : List α) : sm (fun x => c * f x) l = c * sm f l := by
  induction l with
  | nil => simp
  | cons a l ih => rw [sm_cons, sm_cons, ih, Int.mul_add]
theorem sm_zero {α : Type} {f : α → Int} {l : List α} (h : ∀ x ∈ l, f x = 0) : sm f l = 0 := by
  induction l with
  | nil => rfl
  | cons a l ih => rw [sm_cons, h a List.mem_cons_self, ih fun x hx => h x (List.mem_cons_of_mem _ hx)]; rfl
theorem sub_of : ∀ {r A : List E}, A ∈ subs r → (∀ e ∈ A, e ∈ r) ∧ A.length ≤ r.length
  | [], A, h => by
    have := List.mem_singleton.mp h
    subst this
    exact ⟨fun e he => (by simp at he), by simp⟩
  | e :: r, A, h => by
    rcases List.mem_append.mp h with h | h
    · obtain ⟨h1, h2⟩ := sub_of h
      exact ⟨fun a ha => List.mem_cons_of_mem _ (h1 a ha), by rw [List.length_cons]; omega⟩
    · obtain ⟨B, hB, rfl⟩ := List.mem_map.mp h
      obtain ⟨h1, h2⟩ := sub_of hB
      refine ⟨fun a ha => ?_, by simp; exact h2⟩
      rcases List.mem_cons.mp ha with rfl | ha
      · exact List.mem_cons_self
      · exact List.mem_cons_of_mem _ (h1 a ha)
theorem subs_map (g : Int → Int) : ∀ r : List E, subs (mapE g r) = (subs r).map (mapE g)
  | [] => rfl
  | e :: r => by
    show subs (mapE g r) ++ (subs (mapE g r)).map _ = (subs r ++ (subs r).map (e :: ·)).map (mapE g)
    rw [subs_map g r, List.map_append, List.map_map, List.map_map]
    rfl
theorem cN_sub {n : Nat} : ∀ {r A : List E}, InR n r → A ∈ subs r → cN n r ≤ cN n A
  | [], A, _, h => by
    rw [List.mem_singleton.mp h]
    exact Nat.le_refl _
  | e :: r, A, hr, h => by
    have hr' : InR n r := fun a ha => hr a (List.mem_cons_of_mem _ ha)
    have he := hr e List.mem_cons_self
    rcases List.mem_append.mp h with h | h
    · exact Nat.le_trans (cN_le he).1 (cN_sub hr' h)
    · obtain ⟨B, hB, rfl⟩ := List.mem_map.mp h
      have ih := cN_sub hr' hB
      by_cases q : labR r e.1 = labR r e.2
      · rw [cN_same q]
        have := (cN_le (r := B) he).2
        by_cases q2 : labR B e.1 = labR B e.2
        · rw [cN_same q2]
          exact ih
        · -- in r they are one, in B not: the parts of B with e are no fewer
          have h3 := cN_less he q2
          -- labR r is an invariant of e :: B
          unfold cN
          have : ∀ (L : List Int), dc (L.map (labR r)) ≤ dc (L.map (labR (e :: B))) := fun L => by
            unfold dc
            -- each value of labR r is told by one of labR (e :: B)
            have key : ∀ x ∈ dd (L.map (labR r)), ∃ i ∈ L, labR r i = x := fun x hx => by
              obtain ⟨i, hi, q⟩ := List.mem_map.mp (mem_dd.mp hx)
              exact ⟨i, hi, q⟩
            have inv : ∀ a ∈ e :: B, labR r a.1 = labR r a.2 := fun a ha => by
              rcases List.mem_cons.mp ha with rfl | ha
              · exact q
              · exact lab_inv ((sub_of hB).1 a ha)
            -- representatives
            let f : Int → Int := fun y => match L.find? (fun i => decide (labR (e :: B) i = y)) with
              | some i => labR r i
              | none => 0
            have hf : ∀ i ∈ L, f (labR (e :: B) i) = labR r i := fun i hi => by
              show (match L.find? (fun j => decide (labR (e :: B) j = labR (e :: B) i)) with
                | some i => labR r i
                | none => 0) = _
              cases hfi : L.find? (fun j => decide (labR (e :: B) j = labR (e :: B) i)) with
              | none => exact absurd (List.find?_eq_none.mp hfi i hi) (by simp)
              | some j =>
                have := List.find?_some hfi
                exact lab_univ inv (of_decide_eq_true this)
            have hsub : dd (L.map (labR r)) ⊆ (dd (L.map (labR (e :: B)))).map f := fun x hx => by
              obtain ⟨i, hi, rfl⟩ := key x hx
              exact List.mem_map.mpr ⟨labR (e :: B) i, mem_dd.mpr (List.mem_map.mpr ⟨i, hi, rfl⟩), hf i hi⟩
            have := (nodup_dd (L.map (labR r))).length_le_of_subset hsub
            rwa [List.length_map] at this
          exact this (up n)
      · have q2 : labR B e.1 ≠ labR B e.2 := fun z => q (lab_mono (sub_of hB).1 z)
        have h1 := cN_less he q
        have h2 := cN_less he q2
        omega
/-- the sum over subsets, by weights of what is left over and of what closes -/
def GS (n : Nat) (r : List E) (a b : Nat → Int) : Int := sm (fun A => a (cN n A - cN n r) * b (cN n A + A.length - n)) (subs r)
theorem GS_nil (n : Nat) (a b : Nat → Int) : GS n [] a b = a 0 * b 0 := by
  unfold GS subs
  rw [sm_cons, sm_nil, cN_nil]
  simp
theorem inR_sub {n : Nat} {r A : List E} (h : InR n r) (hA : A ∈ subs r) : InR n A := fun e he => h e ((sub_of hA).1 e he)
theorem GS_loop {n : Nat} {u : Int} {r : List E} (h : InR n r) (a b : Nat → Int) : GS n ((u, u) :: r) a b = GS n r a fun k => b k + b (k + 1) := by
  unfold GS
  rw [show subs ((u, u) :: r) = subs r ++ (subs r).map ((u, u) :: ·) from rfl, sm_append, sm_map, ← sm_add]
  refine sm_congr fun A hA => ?_
  have := cN_ge (inR_sub h hA)
  rw [cN_loop, cN_loop, List.length_cons, ← Int.mul_add, show cN n A + (A.length + 1) - n = cN n A + A.length - n + 1 by omega]
section
variable {m : Nat} {lo hi : Int} {r : List E} {e : E} (h0 : 0 ≤ lo) (h1 : lo < hi) (h2 : hi < (m + 1 : Nat)) (he : e = (lo, hi) ∨ e = (hi, lo)) (h : InR (m + 1) r)
include h0 h1 h2 he h
theorem GS_with (a b : Nat → Int) : sm (fun A => a (cN (m + 1) (e :: A) - cN (m + 1) (e :: r)) * b (cN (m + 1) (e :: A) + (e :: A).length - (m + 1))) (subs r) = GS m (mapE (piM hi lo) r) a b := by
  unfold GS
  rw [subs_map, sm_map]
  refine sm_congr fun A hA => ?_
  rw [cN_contract h0 h1 h2 he, cN_contract h0 h1 h2 he, List.length_cons, show (mapE (piM hi lo) A).length = A.length from List.length_map ..]
  rw [show cN m (mapE (piM hi lo) A) + (A.length + 1) - (m + 1) = cN m (mapE (piM hi lo) A) + A.length - m by omega]
theorem inE : (0 ≤ e.1 ∧ e.1 < (m + 1 : Nat)) ∧ (0 ≤ e.2 ∧ e.2 < (m + 1 : Nat)) := by
  rcases he with rfl | rfl
  · exact ⟨⟨h0, by omega⟩, ⟨by omega, h2⟩⟩
  · exact ⟨⟨by omega, h2⟩, ⟨h0, by omega⟩⟩
theorem GS_bridge (hb : labR r e.1 ≠ labR r e.2) (a b : Nat → Int) : GS (m + 1) (e :: r) a b = GS m (mapE (piM hi lo) r) (fun k => a k + a (k + 1)) b := by
  have hin := inE h0 h1 h2 he h
  have h3 : GS m (mapE (piM hi lo) r) (fun k => a k + a (k + 1)) b = GS m (mapE (piM hi lo) r) a b + GS m (mapE (piM hi lo) r) (fun k => a (k + 1)) b := by
    unfold GS
    rw [← sm_add]
    exact sm_congr fun A hA => Int.add_mul _ _ _
  rw [h3, ← GS_with h0 h1 h2 he h a b, ← GS_with h0 h1 h2 he h (fun k => a (k + 1)) b]
  conv => lhs; unfold GS
  rw [show subs (e :: r) = subs r ++ (subs r).map (e :: ·) from rfl, sm_append, sm_map, Int.add_comm]
  congr 1
  refine sm_congr fun A hA => ?_
  have q : labR A e.1 ≠ labR A e.2 := fun z => hb (lab_mono (sub_of hA).1 z)
  have c1 := cN_less hin q
  have c2 := cN_less hin hb
  have c3 := cN_sub h hA
  rw [List.length_cons, c1]
  rw [show cN (m + 1) (e :: A) + 1 - cN (m + 1) (e :: r) = cN (m + 1) (e :: A) - cN (m + 1) (e :: r) + 1 by omega, show cN (m + 1) (e :: A) + 1 + A.length - (m + 1) = cN (m + 1) (e :: A) + (A.length + 1) - (m + 1) by omega]
theorem GS_both (hb : labR r e.1 = labR r e.2) (a b : Nat → Int) : GS (m + 1) (e :: r) a b = GS (m + 1) r a b + GS m (mapE (piM hi lo) r) a b := by
  rw [← GS_with h0 h1 h2 he h a b]
  conv => lhs; unfold GS
  rw [show subs (e :: r) = subs r ++ (subs r).map (e :: ·) from rfl, sm_append, sm_map]
  congr 1
  unfold GS
  rw [cN_same hb]
theorem GS_all (a b : Nat → Int) : sm (fun A => a (cN (m + 1) A) * b A.length) (subs (e :: r)) = sm (fun A => a (cN (m + 1) A) * b A.length) (subs r) + sm (fun A => a (cN m A) * b (A.length + 1)) (subs (mapE (piM hi lo) r)) := by
  rw [show subs (e :: r) = subs r ++ (subs r).map (e :: ·) from rfl, sm_append, sm_map, subs_map, sm_map]
  congr 1
  refine sm_congr fun A hA => ?_
  rw [cN_contract h0 h1 h2 he, List.length_cons, show (mapE (piM hi lo) A).length = A.length from List.length_map ..]
end
end Gp
end

section
set_option Elab.async false
set_option linter.all false
set_option maxRecDepth 100000
set_option maxHeartbeats 1000000
namespace Gp
open PySem
/-- the coefficients of (x - 1) ** a -/
def pw : Nat → Int → Int
  | 0, i => if i = 0 then 1 else 0
  | a + 1, i => pw a (i - 1) - pw a i
theorem pw_add (a : Nat) (i : Int) : pw a i + pw (a + 1) i = pw a (i - 1) := by
  show pw a i + (pw a (i - 1) - pw a i) = _
  omega
theorem pw_neg : ∀ (a : Nat) {i : Int}, i < 0 → pw a i = 0
  | 0, i, h => if_neg (by omega)
  | a + 1, i, h => by
    show pw a (i - 1) - pw a i = 0
    rw [pw_neg a (by omega), pw_neg a h]
    rfl
theorem pw_big : ∀ (a : Nat) {i : Int}, (a : Int) < i → pw a i = 0
  | 0, i, h => if_neg (by omega)
  | a + 1, i, h => by
    show pw a (i - 1) - pw a i = 0
    rw [pw_big a (by omega), pw_big a (by omega)]
    rfl
theorem sm_swap {α β : Type} (f : α → β → Int) (a : List α) (b : List β) : sm (fun x => sm (fun y => f x y) b) a = sm (fun y => sm (fun x => f x y) a) b := by
  induction a with
  | nil => rw [sm_nil]; exact (sm_zero fun _ _ => rfl).symm
  | cons x a ih => rw [sm_cons, ih, ← sm_add]; rfl
theorem sm_mulr {α : Type} (c : Int) (f : α → Int) (l : List α) : sm (fun x => f x * c) l = sm f l * c := by
  rw [Int.mul_comm, ← sm_mul]
  exact sm_congr fun x _ => Int.mul_comm _ _
theorem sm_sub {α : Type} (f g : α → Int) (l : List α) : sm (fun x => f x - g x) l = sm f l - sm g l := by
  induction l with
  | nil => rfl
  | cons a l ih => rw [sm_cons, sm_cons, sm_cons, ih]; omega
theorem up_succ (n : Nat) : up (n + 1) = up n ++ [(n : Int)] := by
  unfold up No.uptoI
  rw [List.range_succ, List.map_append]
  simp
theorem up_cons (n : Nat) : up (n + 1) = 0 :: (up n).map (· + 1) := by
  unfold up No.uptoI
  rw [List.range_succ_eq_map, List.map_cons, List.map_map, List.map_map]
  congr 1
  all_goals
    refine List.map_congr_left fun i _ => ?_
    simp only [Function.comp]
    omega
/-- (x - 1) ** a by its coefficients -/
theorem pw_val (x : Int) : ∀ (a N : Nat), a ≤ N → sm (fun i => pw a i * x ^ i.toNat) (up (N + 1)) = (x - 1) ^ a
  | 0, N, _ => by
    rw [up_cons, sm_cons, sm_map, sm_zero fun i hi => ?_]
    · show 1 * x ^ 0 + 0 = (x - 1) ^ 0
      simp
    · have := mem_up.mp hi
      show (if i + 1 = 0 then (1 : Int) else 0) * _ = 0
      rw [if_neg (by omega), Int.zero_mul]
  | a + 1, N, h => by
    obtain ⟨M, rfl⟩ : ∃ M, N = M + 1 := ⟨N - 1, by omega⟩
    have ih := pw_val x a M (by omega)
    have ih2 := pw_val x a (M + 1) (by omega)
    have e1 : sm (fun i => pw (a + 1) i * x ^ i.toNat) (up (M + 1 + 1)) = sm (fun i => pw a (i - 1) * x ^ i.toNat) (up (M + 1 + 1)) - sm (fun i => pw a i * x ^ i.toNat) (up (M + 1 + 1)) := by
      rw [← sm_sub]
      exact sm_congr fun i _ => Int.sub_mul _ _ _
    rw [e1, ih2, up_cons (M + 1), sm_cons, sm_map, pw_neg a (show (0 : Int) - 1 < 0 by omega), Int.zero_mul, Int.zero_add]
    rw [sm_congr (g := fun i => pw a i * x ^ i.toNat * x) fun i hi => ?_, sm_mulr, ih, Int.pow_succ]
    · rw [Int.mul_sub, Int.mul_one]
    · have := mem_up.mp hi
      rw [show i + 1 - 1 = i by omega, show (i + 1).toNat = i.toNat + 1 by omega, Int.pow_succ, Int.mul_assoc]
end Gp
end

section
set_option Elab.async false
set_option linter.all false
set_option maxRecDepth 100000
set_option maxHeartbeats 1000000
namespace Gp
open PySem
def sgn (k : Nat) : Int := 1 - 2 * ((k : Int) % 2)
theorem sgn_succ (k : Nat) : sgn (k + 1) = - sgn k := by
  unfold sgn
  omega
theorem neg_one_succ (k : Nat) : ((-1 : Int)) ^ k + (-1) ^ (k + 1) = 0 := by
  rw [Int.pow_succ, Int.mul_neg, Int.mul_one]
  omega
theorem neg_succ (q : Int) (k : Nat) : (-q) ^ k + (-q) ^ (k + 1) = (1 - q) * (-q) ^ k := by
  rw [Int.pow_succ, Int.sub_mul, Int.one_mul, Int.mul_neg, Int.mul_comm q]
  omega
theorem GS_mul_a (n : Nat) (r : List E) (c : Int) (a b : Nat → Int) : GS n r (fun k => c * a k) b = c * GS n r a b := by
  unfold GS
  rw [← sm_mul]
  exact sm_congr fun A _ => Int.mul_assoc _ _ _
theorem GS_mul_b (n : Nat) (r : List E) (c : Int) (a b : Nat → Int) : GS n r a (fun k => c * b k) = c * GS n r a b := by
  unfold GS
  rw [← sm_mul]
  exact sm_congr fun A _ => Int.mul_left_comm _ _ _
theorem GS_zero_a (n : Nat) (r : List E) (b : Nat → Int) : GS n r (fun _ => 0) b = 0 := sm_zero fun A _ => Int.zero_mul _
theorem GS_zero_b (n : Nat) (r : List E) (a : Nat → Int) : GS n r a (fun _ => 0) = 0 := sm_zero fun A _ => Int.mul_zero _
/-- what the colour row tells -/
def CV (q : Int) (n : Nat) (r : List E) : Int := sgn (n - cN n r) * (q ^ cN n r * GS n r (fun k => (-q) ^ k) (fun k => (-1) ^ k))
/-- what the flow row tells -/
def FV (q : Int) (n : Nat) (r : List E) : Int := sgn (r.length + cN n r - n) * GS n r (fun k => (-1) ^ k) (fun k => (-q) ^ k)
theorem CV_nil (q : Int) (n : Nat) : CV q n [] = q ^ n := by
  unfold CV
  rw [cN_nil, GS_nil, Nat.sub_self]
  simp [sgn]
theorem FV_nil (q : Int) (n : Nat) : FV q n [] = 1 := by
  unfold FV
  rw [cN_nil, GS_nil]
  simp [sgn]
theorem CV_loop {q : Int} {n : Nat} {u : Int} {r : List E} (h : InR n r) : CV q n ((u, u) :: r) = 0 := by
  unfold CV
  rw [GS_loop h]
  simp only [neg_one_succ]
  rw [GS_zero_b]
  simp
theorem FV_loop {q : Int} {n : Nat} {u : Int} {r : List E} (h : InR n r) : FV q n ((u, u) :: r) = (q - 1) * FV q n r := by
  unfold FV
  rw [GS_loop h, cN_loop, List.length_cons]
  simp only [neg_succ]
  have := cN_ge h
  rw [GS_mul_b n r (1 - q) _ (fun k => (-q) ^ k), show r.length + 1 + cN n r - n = r.length + cN n r - n + 1 by omega, sgn_succ, Int.sub_mul, Int.sub_mul, Int.one_mul, Int.one_mul, Int.mul_sub, Int.neg_mul, Int.neg_mul, Int.mul_left_comm]
  omega
section
variable {m : Nat} {lo hi : Int} {r : List E} {e : E} (h0 : 0 ≤ lo) (h1 : lo < hi) (h2 : hi < (m + 1 : Nat)) (he : e = (lo, hi) ∨ e = (hi, lo)) (h : InR (m + 1) r)
include h0 h1 h2 he h
theorem GS_br2 (hb : labR r e.1 ≠ labR r e.2) (a b : Nat → Int) : GS (m + 1) r a b = GS m (mapE (piM hi lo) r) a b := by
  have hin := inE h0 h1 h2 he h
  rw [← GS_with h0 h1 h2 he h a b]
  unfold GS
  refine sm_congr fun A hA => ?_
  have q : labR A e.1 ≠ labR A e.2 := fun z => hb (lab_mono (sub_of hA).1 z)
  have c1 := cN_less hin q
  have c2 := cN_less hin hb
  rw [List.length_cons, show cN (m + 1) A - cN (m + 1) r = cN (m + 1) (e :: A) - cN (m + 1) (e :: r) by omega, show cN (m + 1) A + A.length - (m + 1) = cN (m + 1) (e :: A) + (A.length + 1) - (m + 1) by omega]
theorem CV_cons (q : Int) : CV q (m + 1) (e :: r) = CV q (m + 1) r - CV q m (mapE (piM hi lo) r) := by
  have hin := inE h0 h1 h2 he h
  have hr' := inR_map h0 h1 h2 h
  have ct := cN_top hr'
  unfold CV
  have cc := cN_contract (A := r) h0 h1 h2 he
  rw [cc]
  by_cases hb : labR r e.1 = labR r e.2
  · have c1 : cN (m + 1) r = cN m (mapE (piM hi lo) r) := by rw [← cc, cN_same hb]
    rw [GS_both h0 h1 h2 he h hb, c1, show m + 1 - cN m (mapE (piM hi lo) r) = m - cN m (mapE (piM hi lo) r) + 1 by omega, sgn_succ, Int.mul_add, Int.mul_add, Int.neg_mul, Int.neg_mul]
    omega
  · have c1 : cN (m + 1) r = cN m (mapE (piM hi lo) r) + 1 := by rw [← cc]; exact cN_less hin hb
    rw [GS_bridge h0 h1 h2 he h hb, GS_br2 h0 h1 h2 he h hb, c1]
    simp only [neg_succ]
    rw [GS_mul_a, show m + 1 - cN m (mapE (piM hi lo) r) = m - cN m (mapE (piM hi lo) r) + 1 by omega, sgn_succ, show m + 1 - (cN m (mapE (piM hi lo) r) + 1) = m - cN m (mapE (piM hi lo) r) by omega]
    generalize GS m (mapE (piM hi lo) r) (fun k => (-q) ^ k) (fun k => (-1) ^ k) = G
    generalize sgn (m - cN m (mapE (piM hi lo) r)) = S
    generalize cN m (mapE (piM hi lo) r) = c
    rw [Int.pow_succ, Int.sub_mul, Int.one_mul, Int.mul_sub, Int.mul_sub, Int.neg_mul, Int.neg_mul, show q ^ c * (q * G) = q ^ c * q * G by ac_rfl]
    omega
theorem FV_cons (q : Int) : FV q (m + 1) (e :: r) = FV q m (mapE (piM hi lo) r) - FV q (m + 1) r := by
  have hin := inE h0 h1 h2 he h
  have hr' := inR_map h0 h1 h2 h
  have cg := cN_ge hr'
  have el : (mapE (piM hi lo) r).length = r.length := List.length_map ..
  rw [el] at cg
  unfold FV
  have cc := cN_contract (A := r) h0 h1 h2 he
  rw [cc, el, List.length_cons]
  by_cases hb : labR r e.1 = labR r e.2
  · have c1 : cN (m + 1) r = cN m (mapE (piM hi lo) r) := by rw [← cc, cN_same hb]
    have cg2 := cN_ge h
    rw [GS_both h0 h1 h2 he h hb, c1, show r.length + 1 + cN m (mapE (piM hi lo) r) - (m + 1) = r.length + cN m (mapE (piM hi lo) r) - m by omega]
    rw [c1] at cg2
    rw [show r.length + cN m (mapE (piM hi lo) r) - m = r.length + cN m (mapE (piM hi lo) r) - (m + 1) + 1 by omega, sgn_succ, Int.mul_add, Int.neg_mul, Int.neg_mul]
    omega
  · have c1 : cN (m + 1) r = cN m (mapE (piM hi lo) r) + 1 := by rw [← cc]; exact cN_less hin hb
    rw [GS_bridge h0 h1 h2 he h hb, GS_br2 h0 h1 h2 he h hb, c1]
    simp only [neg_one_succ]
    rw [GS_zero_a, show r.length + (cN m (mapE (piM hi lo) r) + 1) - (m + 1) = r.length + cN m (mapE (piM hi lo) r) - m by omega]
    omega
end
end Gp
end

section
set_option Elab.async false
set_option linter.all false
set_option maxRecDepth 100000
set_option maxHeartbeats 1000000
namespace Gp
open PySem
/-! ### rows of numbers below p -/
def pts (p : Nat) : Nat → List (List Int)
  | 0 => [[]]
  | c + 1 => (pts p c).flatMap fun row => (up p).map fun x => row ++ [x]
theorem mem_pts {p : Nat} : ∀ {c : Nat} {row : List Int}, row ∈ pts p c ↔ row.length = c ∧ ∀ x ∈ row, 0 ≤ x ∧ x < p
  | 0, row => by
    show row ∈ [[]] ↔ _
    rw [List.mem_singleton]
    constructor
    · rintro rfl
      exact ⟨rfl, fun x hx => by simp at hx⟩
    · exact fun h => List.eq_nil_of_length_eq_zero h.1
  | c + 1, row => by
    show row ∈ (pts p c).flatMap _ ↔ _
    rw [List.mem_flatMap]
    constructor
    · rintro ⟨r, hr, h⟩
      obtain ⟨x, hx, rfl⟩ := List.mem_map.mp h
      have := mem_pts.mp hr
      refine ⟨by simp [this.1], fun y hy => ?_⟩
      rcases List.mem_append.mp hy with hy | hy
      · exact this.2 y hy
      · rw [List.mem_singleton.mp hy]
        exact mem_up.mp hx
    · rintro ⟨h1, h2⟩
      rcases List.eq_nil_or_concat row with rfl | ⟨r, x, rfl⟩
      · simp at h1
      · rw [List.concat_eq_append] at h1 h2 ⊢
        refine ⟨r, mem_pts.mpr ⟨by simpa using h1, fun y hy => h2 y (List.mem_append_left _ hy)⟩, List.mem_map.mpr ⟨x, mem_up.mpr (h2 x (by simp)), rfl⟩⟩
theorem nodup_pts (p : Nat) : ∀ c, (pts p c).Nodup
  | 0 => by simp [pts]
  | c + 1 => by
    show ((pts p c).flatMap _).Nodup
    rw [List.nodup_iff_pairwise_ne, List.pairwise_flatMap]
    refine ⟨fun row _ => ?_, ?_⟩
    · refine List.pairwise_map.mpr ((List.nodup_iff_pairwise_ne.mp (nodup_up p)).imp fun h z => h ?_)
      simpa using List.append_cancel_left z
    · refine (List.nodup_iff_pairwise_ne.mp (nodup_pts p c)).imp fun h x hx y hy z => ?_
      obtain ⟨j, _, rfl⟩ := List.mem_map.mp hx
      obtain ⟨k, _, rfl⟩ := List.mem_map.mp hy
      exact h (List.append_inj' z rfl).1
theorem len_pts (p : Nat) : ∀ c, (pts p c).length = p ^ c
  | 0 => rfl
  | c + 1 => by
    show ((pts p c).flatMap _).length = _
    rw [List.length_flatMap]
    have : (pts p c).map (fun row => ((up p).map fun x => row ++ [x]).length) = List.replicate (p ^ c) p := by
      refine List.eq_replicate_iff.mpr ⟨by rw [List.length_map, len_pts p c], fun x hx => ?_⟩
      obtain ⟨i, _, rfl⟩ := List.mem_map.mp hx
      simp [len_up]
    rw [this, List.sum_replicate_nat, Nat.pow_succ]
def at0 (l : List Int) (k : Int) : Int := l.getD k.toNat 0
/-! ### colourings -/
def okC (r : List E) (row : List Int) : Bool := r.all fun e => !decide (at0 row e.1 = at0 row e.2)
def nC (k n : Nat) (r : List E) : Nat := ((pts k n).filter (okC r)).length
/-- a row with an entry more: at hi the entry of lo -/
def ins (hi lo : Int) (row : List Int) : List Int := row.take hi.toNat ++ at0 row lo :: row.drop hi.toNat
section
variable {m : Nat} {lo hi : Int} (h0 : 0 ≤ lo) (h1 : lo < hi) (h2 : hi < (m + 1 : Nat))
include h0 h1 h2
theorem at0_ins {row : List Int} (hl : row.length = m) {i : Int} (hi0 : 0 ≤ i) (hi1 : i < (m + 1 : Nat)) : at0 (ins hi lo row) i = at0 row (piM hi lo i) := by
  unfold ins piM
  by_cases c1 : i < hi
  · rw [if_pos c1]
    unfold at0
    rw [List.getD_eq_getElem?_getD, List.getD_eq_getElem?_getD, List.getElem?_append_left (by simp; omega), List.getElem?_take, if_pos (by omega)]
    rfl
  · rw [if_neg c1]
    have ht : (row.take hi.toNat).length = hi.toNat := by simp; omega
    by_cases c2 : i = hi
    · rw [if_pos c2]
      conv => lhs; unfold at0
      rw [List.getD_eq_getElem?_getD, List.getElem?_append_right (by omega), ht, c2, Nat.sub_self]
      rfl
    · rw [if_neg c2]
      unfold at0
      rw [List.getD_eq_getElem?_getD, List.getD_eq_getElem?_getD, List.getElem?_append_right (by omega), ht, show i.toNat - hi.toNat = (i.toNat - hi.toNat - 1) + 1 by omega, List.getElem?_cons_succ, List.getElem?_drop, show hi.toNat + (i.toNat - hi.toNat - 1) = (i - 1).toNat by omega]
      rfl
theorem ins_mem {k : Nat} {row : List Int} (h : row ∈ pts k m) : ins hi lo row ∈ pts k (m + 1) := by
  obtain ⟨hl, hx⟩ := mem_pts.mp h
  refine mem_pts.mpr ⟨by unfold ins; simp; omega, fun x hx' => ?_⟩
  unfold ins at hx'
  rcases List.mem_append.mp hx' with q | q
  · exact hx x (List.mem_of_mem_take q)
  · rcases List.mem_cons.mp q with rfl | q
    · unfold at0
      rw [List.getD_eq_getElem?_getD, List.getElem?_eq_getElem (show lo.toNat < row.length by omega)]
      exact hx _ (List.getElem_mem _)
    · exact hx x (List.mem_of_mem_drop q)
theorem ins_inj {a b : List Int} (ha : a.length = m) (hb : b.length = m) (e : ins hi lo a = ins hi lo b) : a = b := by
  unfold ins at e
  have ht : (a.take hi.toNat).length = (b.take hi.toNat).length := by simp; omega
  obtain ⟨e1, e2⟩ := List.append_inj e ht
  rw [← List.take_append_drop hi.toNat a, ← List.take_append_drop hi.toNat b, e1, (List.cons.inj e2).2]
theorem ins_of {k : Nat} {row : List Int} (h : row ∈ pts k (m + 1)) (he : at0 row lo = at0 row hi) : ∃ a ∈ pts k m, ins hi lo a = row := by
  obtain ⟨hl, hx⟩ := mem_pts.mp h
  have hlt : hi.toNat < row.length := by omega
  refine ⟨row.take hi.toNat ++ row.drop (hi.toNat + 1), mem_pts.mpr ⟨by simp; omega, fun x hx' => ?_⟩, ?_⟩
  · rcases List.mem_append.mp hx' with q | q
    · exact hx x (List.mem_of_mem_take q)
    · exact hx x (List.mem_of_mem_drop q)
  · have ht : (row.take hi.toNat).length = hi.toNat := by simp; omega
    have d1 : (row.take hi.toNat ++ row.drop (hi.toNat + 1)).drop hi.toNat = row.drop (hi.toNat + 1) := by
      rw [List.drop_append_of_le_length (by omega), List.drop_eq_nil_of_le (show (row.take hi.toNat).length ≤ hi.toNat by omega), List.nil_append]
    have t1 : (row.take hi.toNat ++ row.drop (hi.toNat + 1)).take hi.toNat = row.take hi.toNat := by
      rw [List.take_append_of_le_length (by omega), List.take_of_length_le (by omega)]
    unfold ins
    rw [d1, t1]
    have e1 : at0 (row.take hi.toNat ++ row.drop (hi.toNat + 1)) lo = row[hi.toNat] := by
      have : at0 (row.take hi.toNat ++ row.drop (hi.toNat + 1)) lo = at0 row lo := by
        unfold at0
        rw [List.getD_eq_getElem?_getD, List.getD_eq_getElem?_getD, List.getElem?_append_left (by omega), List.getElem?_take, if_pos (by omega)]
      rw [this, he]
      unfold at0
      rw [List.getD_eq_getElem?_getD, List.getElem?_eq_getElem hlt]
      rfl
    rw [e1, ← List.drop_eq_getElem_cons hlt, List.take_append_drop]
theorem nC_cons {k : Nat} {r : List E} {e : E} (he : e = (lo, hi) ∨ e = (hi, lo)) (h : InR (m + 1) r) : nC k (m + 1) (e :: r) + nC k m (mapE (piM hi lo) r) = nC k (m + 1) r := by
  unfold nC
  have hs : ∀ row : List Int, okC (e :: r) row = (okC r row && !decide (at0 row lo = at0 row hi)) := fun row => by
    unfold okC
    rw [List.all_cons, Bool.and_comm]
    congr 2
    rcases he with rfl | rfl
    · rfl
    · rw [decide_eq_decide]
      exact eq_comm
  have e1 : ((pts k (m + 1)).filter (okC (e :: r))) = ((pts k (m + 1)).filter (okC r)).filter fun row => !decide (at0 row lo = at0 row hi) := by
    rw [List.filter_filter]
    exact List.filter_congr fun row _ => by rw [hs, Bool.and_comm]
  have e2 : ((pts k m).filter (okC (mapE (piM hi lo) r))).length = (((pts k (m + 1)).filter (okC r)).filter fun row => decide (at0 row lo = at0 row hi)).length := by
    rw [← List.length_map (as := (pts k m).filter (okC (mapE (piM hi lo) r))) (f := ins hi lo)]
    have okm : ∀ a, a ∈ pts k m → okC r (ins hi lo a) = okC (mapE (piM hi lo) r) a := fun a ha => by
      have hb : ∀ b ∈ r, (!decide (at0 (ins hi lo a) b.1 = at0 (ins hi lo a) b.2)) = !decide (at0 a (piM hi lo b.1) = at0 a (piM hi lo b.2)) := fun b hb => by
        have := h b hb
        rw [at0_ins h0 h1 h2 (mem_pts.mp ha).1 this.1.1 this.1.2, at0_ins h0 h1 h2 (mem_pts.mp ha).1 this.2.1 this.2.2]
      unfold okC mapE
      rw [List.all_map, Bool.eq_iff_iff, List.all_eq_true, List.all_eq_true]
      constructor
      · intro z b hbr
        exact (hb b hbr).symm.trans (z b hbr)
      · intro z b hbr
        exact (hb b hbr).trans (z b hbr)
    refine ((List.perm_ext_iff_of_nodup ?_ (((nodup_pts k (m + 1)).sublist List.filter_sublist).sublist List.filter_sublist)).mpr fun row => ?_).length_eq
    · rw [List.nodup_iff_pairwise_ne, List.pairwise_map]
      refine ((List.nodup_iff_pairwise_ne.mp ((nodup_pts k m).sublist List.filter_sublist)).imp_of_mem fun {a b} ha hb hab z => hab ?_)
      exact ins_inj h0 h1 h2 (mem_pts.mp (List.mem_filter.mp ha).1).1 (mem_pts.mp (List.mem_filter.mp hb).1).1 z
    · rw [List.mem_map, List.mem_filter, List.mem_filter]
      constructor
      · rintro ⟨a, ha, rfl⟩
        obtain ⟨ha, hok⟩ := List.mem_filter.mp ha
        refine ⟨⟨ins_mem h0 h1 h2 ha, by rw [okm a ha]; exact hok⟩, decide_eq_true ?_⟩
        rw [at0_ins h0 h1 h2 (mem_pts.mp ha).1 h0 (by omega), at0_ins h0 h1 h2 (mem_pts.mp ha).1 (by omega) h2]
        unfold piM
        rw [if_pos h1, if_neg (by omega), if_pos rfl]
      · rintro ⟨⟨q1, q2⟩, q3⟩
        obtain ⟨a, ha, rfl⟩ := ins_of h0 h1 h2 q1 (of_decide_eq_true q3)
        exact ⟨a, List.mem_filter.mpr ⟨ha, by rw [← okm a ha]; exact q2⟩, rfl⟩
  rw [e1, e2]
  generalize (pts k (m + 1)).filter (okC r) = L
  induction L with
  | nil => rfl
  | cons x L ih =>
    rw [List.filter_cons, List.filter_cons]
    by_cases c : at0 x lo = at0 x hi
    · rw [decide_eq_true c]
      simp only [Bool.not_true, Bool.false_eq_true, if_false, if_true, List.length_cons]
      omega
    · rw [decide_eq_false c]
      simp only [Bool.not_false, Bool.false_eq_true, if_false, if_true, List.length_cons]
      omega
end
theorem ne_cases {n : Nat} {e : E} (he : (0 ≤ e.1 ∧ e.1 < n) ∧ (0 ≤ e.2 ∧ e.2 < n)) (h : e.1 ≠ e.2) : ∃ (m : Nat) (lo hi : Int), n = m + 1 ∧ 0 ≤ lo ∧ lo < hi ∧ hi < (m + 1 : Nat) ∧ (e = (lo, hi) ∨ e = (hi, lo)) := by
  obtain ⟨a, b⟩ := e
  dsimp only at he h
  by_cases c : a < b
  · exact ⟨n - 1, a, b, by omega, he.1.1, c, by omega, .inl rfl⟩
  · exact ⟨n - 1, b, a, by omega, he.2.1, by omega, by omega, .inr rfl⟩
theorem nC_CV (k : Nat) : ∀ (N : Nat) (r : List E) (n : Nat), r.length = N → InR n r → (nC k n r : Int) = CV k n r
  | 0, r, n, hN, _ => by
    have : r = [] := List.eq_nil_of_length_eq_zero hN
    subst this
    rw [CV_nil]
    unfold nC
    rw [show (pts k n).filter (okC []) = pts k n from List.filter_eq_self.mpr fun _ _ => rfl, len_pts]
    simp
  | N + 1, [], n, hN, _ => by simp at hN
  | N + 1, e :: r, n, hN, h => by
    have h' : InR n r := fun a ha => h a (List.mem_cons_of_mem _ ha)
    have he := h e List.mem_cons_self
    rw [List.length_cons] at hN
    by_cases hlp : e.1 = e.2
    · obtain ⟨u, w⟩ := e
      have hlp : u = w := hlp
      subst hlp
      rw [CV_loop h']
      unfold nC
      rw [List.filter_eq_nil_iff.mpr fun row _ => by unfold okC; simp]
      rfl
    · obtain ⟨m, lo, hi, rfl, g0, g1, g2, g3⟩ := ne_cases he hlp
      have q1 := nC_CV k N r (m + 1) (by omega) h'
      have q2 := nC_CV k N (mapE (piM hi lo) r) m (by rw [show (mapE (piM hi lo) r).length = r.length from List.length_map ..]; omega) (inR_map g0 g1 g2 h')
      have q3 := nC_cons g0 g1 g2 (k := k) g3 h'
      rw [CV_cons g0 g1 g2 g3 h', ← q1, ← q2]
      omega
end Gp
end

section
set_option Elab.async false
set_option linter.all false
set_option maxRecDepth 100000
set_option maxHeartbeats 1000000
namespace Gp
open PySem
/-! ### flows: rows are held last first, as the edges -/
/-- what flows into a node -/
def inflow : List E → List Int → Int → Int
  | e :: r, x :: xs, v => inflow r xs v + ((if v = e.2 then x else 0) - (if v = e.1 then x else 0))
  | _, _, _ => 0
def okF (p n : Nat) (r : List E) (xs : List Int) : Bool := (xs.all fun x => !decide (x = 0)) && (up n).all fun v => decide (inflow r xs v % p = 0)
def rowsR (p c : Nat) : List (List Int) := (pts p c).map List.reverse
def nF (p n : Nat) (r : List E) : Nat := ((pts p r.length).filter fun row => okF p n r row.reverse).length
theorem flow_map (g : Int → Int) : ∀ (r : List E) (xs : List Int) (L : List Int), L.Nodup → (∀ e ∈ r, e.1 ∈ L ∧ e.2 ∈ L) → ∀ w, inflow (mapE g r) xs w = sm (fun v => if g v = w then inflow r xs v else 0) L
  | [], xs, L, _, _, w => by
    rw [sm_zero fun v _ => by cases xs <;> simp [inflow]]
    cases xs <;> rfl
  | e :: r, [], L, _, _, w => by
    rw [sm_zero fun v _ => by simp [inflow]]
    rfl
  | e :: r, x :: xs, L, hn, hL, w => by
    have ih := flow_map g r xs L hn (fun a ha => hL a (List.mem_cons_of_mem _ ha)) w
    show inflow (mapE g r) xs w + ((if w = g e.2 then x else 0) - (if w = g e.1 then x else 0)) = _
    have one : ∀ u ∈ L, sm (fun v => if g v = w then (if v = u then x else 0) else 0) L = if w = g u then x else 0 := fun u hu => by
      clear ih hL
      induction L with
      | nil => simp at hu
      | cons a L ihL =>
        rw [List.nodup_cons] at hn
        rw [sm_cons]
        by_cases c : a = u
        · subst c
          have : sm (fun v => if g v = w then (if v = a then x else 0) else 0) L = 0 := sm_zero fun v hv => by
            have nv : v ≠ a := fun z => hn.1 (by rw [← z]; exact hv)
            simp only [if_neg nv]
            split <;> rfl
          rw [this, if_pos rfl, Int.add_zero]
          by_cases c2 : g a = w
          · rw [if_pos c2, if_pos c2.symm]
          · rw [if_neg c2, if_neg (Ne.symm c2)]
        · rw [if_neg c, ihL hn.2 ((List.mem_cons.mp hu).resolve_left (Ne.symm c))]
          split <;> simp
    have he := hL e List.mem_cons_self
    rw [ih, ← one e.2 he.2, ← one e.1 he.1, ← sm_sub, ← sm_add]
    refine sm_congr fun v _ => ?_
    show _ = if g v = w then inflow r xs v + ((if v = e.2 then x else 0) - (if v = e.1 then x else 0)) else 0
    by_cases c : g v = w
    · rw [if_pos c, if_pos c, if_pos c, if_pos c]
    · rw [if_neg c, if_neg c, if_neg c, if_neg c]
      rfl
section
variable {m : Nat} {lo hi : Int} (h0 : 0 ≤ lo) (h1 : lo < hi) (h2 : hi < (m + 1 : Nat)) {r : List E} (h : InR (m + 1) r)
include h0 h1 h2 h
theorem flow_pi (xs : List Int) (w : Int) (hw : 0 ≤ w ∧ w < m) : inflow (mapE (piM hi lo) r) xs w = if w = lo then inflow r xs lo + inflow r xs hi else inflow r xs (if w < hi then w else w + 1) := by
  rw [flow_map (piM hi lo) r xs (up (m + 1)) (nodup_up _) (fun e he => ⟨mem_up.mpr (h e he).1, mem_up.mpr (h e he).2⟩) w]
  have key : ∀ (T : List Int), T.Nodup → (∀ v ∈ T, v ∈ up (m + 1)) → (∀ v ∈ up (m + 1), piM hi lo v = w → v ∈ T) → (∀ v ∈ T, piM hi lo v = w) → sm (fun v => if piM hi lo v = w then inflow r xs v else 0) (up (m + 1)) = sm (inflow r xs) T := fun T hT t1 t2 t3 => by
    have p : (up (m + 1)).Perm (T ++ (up (m + 1)).filter fun v => !decide (piM hi lo v = w)) := by
      rw [List.perm_ext_iff_of_nodup (nodup_up _) (List.nodup_append.mpr ⟨hT, (nodup_up _).sublist List.filter_sublist, fun a ha b hb => by
        have := (List.mem_filter.mp hb).2
        exact fun z => by
          subst z
          rw [decide_eq_true (t3 a ha)] at this
          cases this⟩)]
      intro v
      rw [List.mem_append, List.mem_filter]
      constructor
      · intro hv
        by_cases c : piM hi lo v = w
        · exact .inl (t2 v hv c)
        · exact .inr ⟨hv, by rw [decide_eq_false c]; rfl⟩
      · rintro (c | c)
        · exact t1 v c
        · exact c.1
    have sp : ∀ {a b : List Int}, a.Perm b → sm (fun v => if piM hi lo v = w then inflow r xs v else 0) a = sm (fun v => if piM hi lo v = w then inflow r xs v else 0) b := fun {a b} hp => by
      induction hp with
      | nil => rfl
      | cons x _ ih => rw [sm_cons, sm_cons, ih]
      | swap x y l => rw [sm_cons, sm_cons, sm_cons, sm_cons]; omega
      | trans _ _ h1 h2 => exact h1.trans h2
    rw [sp p, sm_append, sm_zero (l := List.filter _ _) fun v hv => by
      have := (List.mem_filter.mp hv).2
      rw [if_neg (by simpa using this)], Int.add_zero]
    exact sm_congr fun v hv => if_pos (t3 v hv)
  by_cases c : w = lo
  · rw [if_pos c, key [lo, hi] (by simp; omega) (fun v hv => mem_up.mpr (by simp at hv; omega)) (fun v hv q => by
      have := mem_up.mp hv
      unfold piM at q
      simp
      split at q
      · omega
      · split at q <;> omega) (fun v hv => by
      unfold piM
      simp at hv
      rcases hv with rfl | rfl
      · rw [if_pos h1, c]
      · rw [if_neg (by omega), if_pos rfl, c])]
    simp
  · rw [if_neg c, key [if w < hi then w else w + 1] (by simp) (fun v hv => mem_up.mpr (by simp at hv; subst hv; split <;> omega)) (fun v hv q => by
      have := mem_up.mp hv
      unfold piM at q
      simp
      split at q
      · split <;> omega
      · split at q
        · omega
        · split <;> omega) (fun v hv => by
      unfold piM
      simp at hv
      subst hv
      (repeat' split) <;> omega)]
    simp
/-- the nodes but the two of an edge -/
def rest (p n : Nat) (e : E) (r : List E) (xs : List Int) : Prop := ∀ v : Int, 0 ≤ v → v < n → v ≠ e.1 → v ≠ e.2 → inflow r xs v % p = 0
omit h0 h1 h2 h in
theorem okF_iff {p n : Nat} {r : List E} {xs : List Int} : okF p n r xs = true ↔ (∀ x ∈ xs, x ≠ 0) ∧ ∀ v : Int, 0 ≤ v → v < n → inflow r xs v % p = 0 := by
  unfold okF
  rw [Bool.and_eq_true, List.all_eq_true, List.all_eq_true]
  constructor
  · rintro ⟨a, b⟩
    exact ⟨fun x hx => by simpa using a x hx, fun v h0 h1 => by simpa using b v (mem_up.mpr ⟨h0, h1⟩)⟩
  · rintro ⟨a, b⟩
    refine ⟨fun x hx => by simpa using a x hx, fun v hv => ?_⟩
    have := mem_up.mp hv
    simpa using b v this.1 this.2
theorem okF_cons (p : Nat) {e : E} (he : e = (lo, hi) ∨ e = (hi, lo)) (xs : List Int) (x : Int) : okF p (m + 1) (e :: r) (x :: xs) = true ↔ (x ≠ 0 ∧ ∀ y ∈ xs, y ≠ 0) ∧ rest p (m + 1) e r xs ∧ (inflow r xs e.2 + x) % p = 0 ∧ (inflow r xs e.1 - x) % p = 0 := by
  have hn : e.1 ≠ e.2 := by
    rcases he with rfl | rfl
    · exact fun z => by dsimp only at z; omega
    · exact fun z => by dsimp only at z; omega
  have b1 : 0 ≤ e.1 ∧ e.1 < (m + 1 : Nat) := (inE h0 h1 h2 he h).1
  have b2 : 0 ≤ e.2 ∧ e.2 < (m + 1 : Nat) := (inE h0 h1 h2 he h).2
  rw [okF_iff]
  constructor
  · rintro ⟨a, b⟩
    refine ⟨⟨a x List.mem_cons_self, fun y hy => a y (List.mem_cons_of_mem _ hy)⟩, fun v v0 v1 n1 n2 => ?_, ?_, ?_⟩
    · have := b v v0 v1
      unfold inflow at this
      rw [if_neg n2, if_neg n1] at this
      simpa using this
    · have := b e.2 b2.1 b2.2
      unfold inflow at this
      rw [if_pos rfl, if_neg (Ne.symm hn)] at this
      simpa using this
    · have := b e.1 b1.1 b1.2
      unfold inflow at this
      rw [if_pos rfl, if_neg hn] at this
      rw [show inflow r xs e.1 - x = inflow r xs e.1 + (0 - x) by omega]
      exact this
  · rintro ⟨⟨a1, a2⟩, b, c1, c2⟩
    refine ⟨fun y hy => ?_, fun v v0 v1 => ?_⟩
    · rcases List.mem_cons.mp hy with rfl | hy
      · exact a1
      · exact a2 y hy
    · unfold inflow
      by_cases n1 : v = e.1
      · subst n1
        rw [if_pos rfl, if_neg hn, show inflow r xs e.1 + (0 - x) = inflow r xs e.1 - x by omega]
        exact c2
      · by_cases n2 : v = e.2
        · subst n2
          rw [if_pos rfl, if_neg (Ne.symm hn), show inflow r xs e.2 + (x - 0) = inflow r xs e.2 + x by omega]
          exact c1
        · rw [if_neg n2, if_neg n1]
          simpa using b v v0 v1 n1 n2
theorem okF_all (p : Nat) {e : E} (he : e = (lo, hi) ∨ e = (hi, lo)) (xs : List Int) : okF p (m + 1) r xs = true ↔ (∀ y ∈ xs, y ≠ 0) ∧ rest p (m + 1) e r xs ∧ inflow r xs e.2 % p = 0 ∧ inflow r xs e.1 % p = 0 := by
  have b1 : 0 ≤ e.1 ∧ e.1 < (m + 1 : Nat) := (inE h0 h1 h2 he h).1
  have b2 : 0 ≤ e.2 ∧ e.2 < (m + 1 : Nat) := (inE h0 h1 h2 he h).2
  rw [okF_iff]
  constructor
  · rintro ⟨a, b⟩
    exact ⟨a, fun v v0 v1 _ _ => b v v0 v1, b _ b2.1 b2.2, b _ b1.1 b1.2⟩
  · rintro ⟨a, b, c1, c2⟩
    refine ⟨a, fun v v0 v1 => ?_⟩
    by_cases n1 : v = e.1
    · rw [n1]; exact c2
    · by_cases n2 : v = e.2
      · rw [n2]; exact c1
      · exact b v v0 v1 n1 n2
theorem okF_con (p : Nat) {e : E} (he : e = (lo, hi) ∨ e = (hi, lo)) (xs : List Int) : okF p m (mapE (piM hi lo) r) xs = true ↔ (∀ y ∈ xs, y ≠ 0) ∧ rest p (m + 1) e r xs ∧ (inflow r xs e.1 + inflow r xs e.2) % p = 0 := by
  have es : inflow r xs e.1 + inflow r xs e.2 = inflow r xs lo + inflow r xs hi := by
    rcases he with rfl | rfl
    · rfl
    · exact Int.add_comm _ _
  have er : ∀ v : Int, (v ≠ e.1 ∧ v ≠ e.2) ↔ (v ≠ lo ∧ v ≠ hi) := fun v => by
    rcases he with rfl | rfl
    · exact Iff.rfl
    · exact and_comm
  rw [okF_iff, es]
  constructor
  · rintro ⟨a, b⟩
    refine ⟨a, fun v v0 v1 n1 n2 => ?_, ?_⟩
    · obtain ⟨n1, n2⟩ := (er v).mp ⟨n1, n2⟩
      have := b (piM hi lo v) (by unfold piM; (repeat' split) <;> omega) (by unfold piM; (repeat' split) <;> omega)
      rw [flow_pi h0 h1 h2 h _ _ (by unfold piM; (repeat' split) <;> omega), if_neg (by unfold piM; (repeat' split) <;> omega)] at this
      have e2 : (if piM hi lo v < hi then piM hi lo v else piM hi lo v + 1) = v := by unfold piM; (repeat' split) <;> omega
      rwa [e2] at this
    · have := b lo h0 (by omega)
      rwa [flow_pi h0 h1 h2 h _ _ ⟨h0, by omega⟩, if_pos rfl] at this
  · rintro ⟨a, b, c⟩
    refine ⟨a, fun w w0 w1 => ?_⟩
    rw [flow_pi h0 h1 h2 h _ _ ⟨w0, w1⟩]
    by_cases q : w = lo
    · rw [if_pos q]; exact c
    · rw [if_neg q]
      have nn := (er (if w < hi then w else w + 1)).mpr ⟨by split <;> omega, by split <;> omega⟩
      exact b _ (by split <;> omega) (by split <;> omega) nn.1 nn.2
end
def b2n (b : Bool) : Nat := if b = true then 1 else 0
theorem up_two : up 2 = [0, 1] := rfl
theorem up_three : up 3 = [0, 1, 2] := rfl
section
variable {m : Nat} {lo hi : Int} (h0 : 0 ≤ lo) (h1 : lo < hi) (h2 : hi < (m + 1 : Nat)) {r : List E} (h : InR (m + 1) r)
include h0 h1 h2 h
theorem cnt_cons {p : Nat} (hp : p = 2 ∨ p = 3) {e : E} (he : e = (lo, hi) ∨ e = (hi, lo)) (xs : List Int) :
    ((up p).filter fun x => okF p (m + 1) (e :: r) (x :: xs)).length + b2n (okF p (m + 1) r xs) = b2n (okF p m (mapE (piM hi lo) r) xs) := by
  have i1 := okF_cons h0 h1 h2 h p he xs
  have i2 := okF_all h0 h1 h2 h p he xs
  have i3 := okF_con h0 h1 h2 h p he xs
  generalize inflow r xs e.1 = s1 at *
  generalize inflow r xs e.2 = s2 at *
  by_cases hC : (∀ y ∈ xs, y ≠ 0) ∧ rest p (m + 1) e r xs
  · have j1 : ∀ x, okF p (m + 1) (e :: r) (x :: xs) = decide (x ≠ 0 ∧ (s2 + x) % p = 0 ∧ (s1 - x) % p = 0) := fun x => by
      rw [Bool.eq_iff_iff, i1, decide_eq_true_iff]
      exact ⟨fun z => ⟨z.1.1, z.2.2⟩, fun z => ⟨⟨z.1, hC.1⟩, hC.2, z.2⟩⟩
    have j2 : okF p (m + 1) r xs = decide (s2 % p = 0 ∧ s1 % p = 0) := by
      rw [Bool.eq_iff_iff, i2, decide_eq_true_iff]
      exact ⟨fun z => z.2.2, fun z => ⟨hC.1, hC.2, z⟩⟩
    have j3 : okF p m (mapE (piM hi lo) r) xs = decide ((s1 + s2) % p = 0) := by
      rw [Bool.eq_iff_iff, i3, decide_eq_true_iff]
      exact ⟨fun z => z.2.2, fun z => ⟨hC.1, hC.2, z⟩⟩
    rw [j2, j3]
    simp only [j1]
    unfold b2n
    rcases hp with rfl | rfl
    · rw [up_two]
      simp only [List.filter_cons, List.filter_nil, decide_eq_true_eq]
      (repeat' split) <;> (try simp only [List.length_cons, List.length_nil]) <;> omega
    · rw [up_three]
      simp only [List.filter_cons, List.filter_nil, decide_eq_true_eq]
      (repeat' split) <;> (try simp only [List.length_cons, List.length_nil]) <;> omega
  · have j1 : ∀ x, okF p (m + 1) (e :: r) (x :: xs) = false := fun x => by
      rw [Bool.eq_false_iff]
      exact fun z => hC ⟨(i1 x).mp z |>.1.2, ((i1 x).mp z).2.1⟩
    have j2 : okF p (m + 1) r xs = false := by
      rw [Bool.eq_false_iff]
      exact fun z => hC ⟨(i2.mp z).1, (i2.mp z).2.1⟩
    have j3 : okF p m (mapE (piM hi lo) r) xs = false := by
      rw [Bool.eq_false_iff]
      exact fun z => hC ⟨(i3.mp z).1, (i3.mp z).2.1⟩
    rw [j2, j3]
    simp only [j1]
    rw [List.filter_eq_nil_iff.mpr fun _ _ => by decide]
    rfl
end
theorem flow_loop (u : Int) (r : List E) (x : Int) (xs : List Int) (v : Int) : inflow ((u, u) :: r) (x :: xs) v = inflow r xs v := by
  show inflow r xs v + ((if v = u then x else 0) - (if v = u then x else 0)) = _
  omega
theorem cnt_loop {p n : Nat} (hp : p = 2 ∨ p = 3) (u : Int) (r : List E) (xs : List Int) : ((up p).filter fun x => okF p n ((u, u) :: r) (x :: xs)).length = (p - 1) * b2n (okF p n r xs) := by
  have j : ∀ x, okF p n ((u, u) :: r) (x :: xs) = (!decide (x = 0) && okF p n r xs) := fun x => by
    unfold okF
    rw [List.all_cons, Bool.and_assoc]
    simp only [flow_loop]
  simp only [j]
  cases okF p n r xs with
  | true =>
    rcases hp with rfl | rfl
    · rfl
    · rfl
  | false =>
    rw [List.filter_eq_nil_iff.mpr fun _ _ => by simp]
    rfl
theorem len_filter {α : Type} (q : α → Bool) (l : List α) : (l.filter q).length = (l.map fun x => b2n (q x)).sum := by
  induction l with
  | nil => rfl
  | cons a l ih =>
    rw [List.filter_cons, List.map_cons, List.sum_cons, ← ih]
    unfold b2n
    split
    · rw [List.length_cons]; omega
    · omega
theorem nF_sum (p n : Nat) (e : E) (r : List E) : nF p n (e :: r) = ((pts p r.length).map fun row => ((up p).filter fun x => okF p n (e :: r) (x :: row.reverse)).length).sum := by
  unfold nF
  rw [List.length_cons, show pts p (r.length + 1) = (pts p r.length).flatMap fun row => (up p).map fun x => row ++ [x] from rfl]
  generalize pts p r.length = L
  induction L with
  | nil => rfl
  | cons row L ih =>
    rw [List.flatMap_cons, List.filter_append, List.length_append, ih, List.map_cons, List.sum_cons, List.filter_map, List.length_map]
    congr 3
    funext x
    simp
theorem nF_FV {p : Nat} (hp : p = 2 ∨ p = 3) : ∀ (N : Nat) (r : List E) (n : Nat), r.length = N → InR n r → (nF p n r : Int) = FV p n r
  | 0, r, n, hN, _ => by
    have : r = [] := List.eq_nil_of_length_eq_zero hN
    subst this
    rw [FV_nil]
    have : okF p n [] [] = true := okF_iff.mpr ⟨fun x hx => by simp at hx, fun v _ _ => by simp [inflow]⟩
    show (((([[]] : List (List Int)).filter fun row => okF p n [] row.reverse).length : Nat) : Int) = 1
    rw [List.filter_cons, List.reverse_nil, if_pos this]
    rfl
  | N + 1, [], n, hN, _ => by simp at hN
  | N + 1, e :: r, n, hN, h => by
    have h' : InR n r := fun a ha => h a (List.mem_cons_of_mem _ ha)
    have he := h e List.mem_cons_self
    rw [List.length_cons] at hN
    by_cases hlp : e.1 = e.2
    · obtain ⟨u, w⟩ := e
      have hlp : u = w := hlp
      subst hlp
      have ih := nF_FV hp N r n (by omega) h'
      rw [FV_loop h', ← ih, nF_sum]
      have e1 : (pts p r.length).map (fun row => ((up p).filter fun x => okF p n ((u, u) :: r) (x :: row.reverse)).length) = (pts p r.length).map fun row => (p - 1) * b2n (okF p n r row.reverse) := List.map_congr_left fun row _ => cnt_loop hp u r row.reverse
      have e2 : nF p n r = ((pts p r.length).map fun row => b2n (okF p n r row.reverse)).sum := len_filter _ _
      rw [e1, e2]
      generalize pts p r.length = L
      induction L with
      | nil => simp
      | cons row L ihL =>
        rw [List.map_cons, List.sum_cons, List.map_cons, List.sum_cons]
        push_cast at ihL ⊢
        rw [ihL, Int.mul_add]
        congr 1
        rcases hp with rfl | rfl <;> rfl
    · obtain ⟨m, lo, hi, rfl, g0, g1, g2, g3⟩ := ne_cases he hlp
      have el : (mapE (piM hi lo) r).length = r.length := List.length_map ..
      have q1 := nF_FV hp N r (m + 1) (by omega) h'
      have q2 := nF_FV hp N (mapE (piM hi lo) r) m (by rw [el]; omega) (inR_map g0 g1 g2 h')
      rw [FV_cons g0 g1 g2 g3 h', ← q1, ← q2]
      have key : nF p (m + 1) (e :: r) + nF p (m + 1) r = nF p m (mapE (piM hi lo) r) := by
        have e1 : nF p (m + 1) r = ((pts p r.length).map fun row => b2n (okF p (m + 1) r row.reverse)).sum := len_filter _ _
        have e2 : nF p m (mapE (piM hi lo) r) = ((pts p r.length).map fun row => b2n (okF p m (mapE (piM hi lo) r) row.reverse)).sum := by
          unfold nF
          rw [el]
          exact len_filter _ _
        rw [nF_sum, e1, e2]
        generalize pts p r.length = L
        induction L with
        | nil => rfl
        | cons row L ihL =>
          have := cnt_cons g0 g1 g2 h' hp g3 row.reverse
          rw [List.map_cons, List.sum_cons, List.map_cons, List.sum_cons, List.map_cons, List.sum_cons]
          omega
      omega
end Gp
end

section
set_option Elab.async false
set_option linter.all false
set_option maxRecDepth 100000
set_option maxHeartbeats 1000000
namespace Gp
open PySem
section
open Classical
/-! ### arrows without a circle: there is a rank -/
def Acy (o : List E) : Prop := ∃ f : Int → Nat, ∀ e ∈ o, f e.1 < f e.2
noncomputable def ac (o : List E) : Int := if Acy o then 1 else 0
theorem Acy.sub {o o' : List E} (h : Acy o) (s : ∀ e ∈ o', e ∈ o) : Acy o' := h.imp fun f hf e he => hf e (s e he)
theorem ac_congr {o o' : List E} (h : ∀ e, e ∈ o ↔ e ∈ o') : ac o = ac o' := by
  unfold ac
  rw [show Acy o = Acy o' from propext ⟨fun q => q.sub fun e he => (h e).mpr he, fun q => q.sub fun e he => (h e).mp he⟩]
theorem Acy.nil : Acy [] := ⟨fun _ => 0, fun e he => by simp at he⟩
/-- one arrow more, this way or that way -/
theorem ac_both {p : Int → Int} {u v : Int} {o : List E} (hp : ∀ x y, p x = p y ↔ x = y ∨ (x = u ∧ y = v) ∨ (x = v ∧ y = u)) (hne : u ≠ v) : ac ((u, v) :: o) + ac ((v, u) :: o) = ac o + ac (mapE p o) := by
  have up : ∀ a b, Acy ((a, b) :: o) → Acy o := fun a b q => q.sub fun e he => List.mem_cons_of_mem _ he
  have key : ∀ f : Int → Nat, (∀ e ∈ o, f e.1 < f e.2) → f u = f v → Acy (mapE p o) := fun f hf huv => by
    have hw : ∀ x y, p x = p y → f x = f y := fun x y q => by
      rcases (hp x y).mp q with rfl | ⟨rfl, rfl⟩ | ⟨rfl, rfl⟩
      · rfl
      · exact huv
      · exact huv.symm
    refine ⟨fun z => if h : ∃ x, p x = z then f (choose h) else 0, fun e he => ?_⟩
    obtain ⟨a, ha, rfl⟩ := List.mem_map.mp he
    have e1 : ∀ x, (if h : ∃ y, p y = p x then f (choose h) else 0) = f x := fun x => by
      have hx : ∃ y, p y = p x := ⟨x, rfl⟩
      rw [dif_pos hx]
      exact hw _ _ (choose_spec hx)
    show (if h : ∃ y, p y = p a.1 then f (choose h) else 0) < (if h : ∃ y, p y = p a.2 then f (choose h) else 0)
    rw [e1, e1]
    exact hf a ha
  by_cases c : Acy (mapE p o)
  · obtain ⟨f, hf⟩ := c
    have hf' : ∀ e ∈ o, f (p e.1) < f (p e.2) := fun e he => hf _ (List.mem_map.mpr ⟨e, he, rfl⟩)
    have puv : p u = p v := (hp u v).mpr (.inr (.inl ⟨rfl, rfl⟩))
    have a1 : Acy ((u, v) :: o) := ⟨fun x => 2 * f (p x) + if x = v then 1 else 0, fun e he => by
      rcases List.mem_cons.mp he with rfl | he
      · show 2 * f (p u) + (if u = v then 1 else 0) < 2 * f (p v) + (if v = v then 1 else 0)
        rw [if_neg hne, if_pos rfl, puv]
        omega
      · have := hf' e he
        show 2 * f (p e.1) + (if e.1 = v then 1 else 0) < 2 * f (p e.2) + (if e.2 = v then 1 else 0)
        split <;> split <;> omega⟩
    have a2 : Acy ((v, u) :: o) := ⟨fun x => 2 * f (p x) + if x = u then 1 else 0, fun e he => by
      rcases List.mem_cons.mp he with rfl | he
      · show 2 * f (p v) + (if v = u then 1 else 0) < 2 * f (p u) + (if u = u then 1 else 0)
        rw [if_neg (Ne.symm hne), if_pos rfl, puv]
        omega
      · have := hf' e he
        show 2 * f (p e.1) + (if e.1 = u then 1 else 0) < 2 * f (p e.2) + (if e.2 = u then 1 else 0)
        split <;> split <;> omega⟩
    unfold ac
    rw [if_pos a1, if_pos a2, if_pos (up _ _ a1), if_pos ⟨f, hf⟩]
  · have n1 : ¬ (Acy ((u, v) :: o) ∧ Acy ((v, u) :: o)) := by
      rintro ⟨⟨f, hf⟩, ⟨g, hg⟩⟩
      have f0 : f u < f v := hf (u, v) List.mem_cons_self
      have g0 : g v < g u := hg (v, u) List.mem_cons_self
      refine c (key (fun x => (g u - g v) * f x + (f v - f u) * g x) (fun e he => ?_) ?_)
      · have q1 := hf e (List.mem_cons_of_mem _ he)
        have q2 := hg e (List.mem_cons_of_mem _ he)
        have r1 : (g u - g v) * f e.1 < (g u - g v) * f e.2 := Nat.mul_lt_mul_of_pos_left q1 (by omega)
        have r2 : (f v - f u) * g e.1 < (f v - f u) * g e.2 := Nat.mul_lt_mul_of_pos_left q2 (by omega)
        show (g u - g v) * f e.1 + (f v - f u) * g e.1 < (g u - g v) * f e.2 + (f v - f u) * g e.2
        omega
      · obtain ⟨s, hs⟩ : ∃ s, f v = f u + s := ⟨f v - f u, by omega⟩
        obtain ⟨t, ht⟩ : ∃ t, g u = g v + t := ⟨g u - g v, by omega⟩
        show (g u - g v) * f u + (f v - f u) * g u = (g u - g v) * f v + (f v - f u) * g v
        rw [hs, ht, Nat.add_sub_cancel_left, Nat.add_sub_cancel_left, Nat.mul_add, Nat.mul_add, Nat.mul_comm s t]
        omega
    by_cases c2 : Acy o
    · obtain ⟨f, hf⟩ := c2
      have n2 : Acy ((u, v) :: o) ∨ Acy ((v, u) :: o) := by
        rcases Nat.lt_trichotomy (f u) (f v) with h | h | h
        · exact .inl ⟨f, fun e he => by
            rcases List.mem_cons.mp he with rfl | he
            · exact h
            · exact hf e he⟩
        · exact absurd (key f hf h) c
        · exact .inr ⟨f, fun e he => by
            rcases List.mem_cons.mp he with rfl | he
            · exact h
            · exact hf e he⟩
      unfold ac
      rw [if_neg c, if_pos (show Acy o from ⟨f, hf⟩)]
      rcases n2 with h | h
      · rw [if_pos h, if_neg fun q => n1 ⟨h, q⟩]
      · rw [if_pos h, if_neg fun q => n1 ⟨q, h⟩]
        rfl
    · unfold ac
      rw [if_neg fun q => c2 (up _ _ q), if_neg fun q => c2 (up _ _ q), if_neg c2, if_neg c]
end
/-! ### all ways to give the edges directions -/
def sw (e : E) : E := (e.2, e.1)
def ors : List E → List (List E)
  | [] => [[]]
  | e :: r => (ors r).map (e :: ·) ++ (ors r).map (sw e :: ·)
theorem ors_map (g : Int → Int) : ∀ r : List E, ors (mapE g r) = (ors r).map (mapE g)
  | [] => rfl
  | e :: r => by
    show (ors (mapE g r)).map ((g e.1, g e.2) :: ·) ++ (ors (mapE g r)).map ((g e.2, g e.1) :: ·) = ((ors r).map (e :: ·) ++ (ors r).map (sw e :: ·)).map (mapE g)
    rw [ors_map g r, List.map_append, List.map_map, List.map_map, List.map_map, List.map_map]
    rfl
noncomputable def AO (r : List E) : Int := sm ac (ors r)
theorem AO_cons {p : Int → Int} {u v : Int} {r : List E} (hp : ∀ x y, p x = p y ↔ x = y ∨ (x = u ∧ y = v) ∨ (x = v ∧ y = u)) (hne : u ≠ v) : AO ((u, v) :: r) = AO r + AO (mapE p r) := by
  unfold AO
  show sm ac ((ors r).map ((u, v) :: ·) ++ (ors r).map ((v, u) :: ·)) = _
  rw [sm_append, sm_map, sm_map, ors_map, sm_map, ← sm_add, ← sm_add]
  exact sm_congr fun o _ => ac_both hp hne
theorem AO_loop (u : Int) (r : List E) : AO ((u, u) :: r) = 0 := by
  have hz : ∀ o : List E, ac ((u, u) :: o) = 0 := fun o => by
    unfold ac
    rw [if_neg]
    rintro ⟨f, hf⟩
    exact Nat.lt_irrefl _ (hf (u, u) List.mem_cons_self)
  unfold AO
  show sm ac ((ors r).map ((u, u) :: ·) ++ (ors r).map ((u, u) :: ·)) = _
  rw [sm_append, sm_map, sm_zero fun o _ => hz o]
  rfl
theorem piM_eq {m : Nat} {lo hi : Int} (h1 : lo < hi) (x y : Int) : piM hi lo x = piM hi lo y ↔ x = y ∨ (x = lo ∧ y = hi) ∨ (x = hi ∧ y = lo) := by
  unfold piM
  (repeat' split) <;> omega
theorem AO_CV : ∀ (N : Nat) (r : List E) (n : Nat), r.length = N → InR n r → AO r = sgn n * CV (-1) n r
  | 0, r, n, hN, _ => by
    have : r = [] := List.eq_nil_of_length_eq_zero hN
    subst this
    rw [CV_nil]
    have e1 : AO [] = 1 := by
      unfold AO
      show ac [] + 0 = 1
      unfold ac
      rw [if_pos Acy.nil]
      rfl
    rw [e1]
    have : ∀ k : Nat, sgn k * (-1) ^ k = 1 := fun k => by
      induction k with
      | zero => rfl
      | succ k ih =>
        rw [sgn_succ, Int.pow_succ, Int.mul_neg, Int.mul_one, Int.neg_mul_neg]
        exact ih
    exact (this n).symm
  | N + 1, [], n, hN, _ => by simp at hN
  | N + 1, e :: r, n, hN, h => by
    have h' : InR n r := fun a ha => h a (List.mem_cons_of_mem _ ha)
    have he := h e List.mem_cons_self
    rw [List.length_cons] at hN
    by_cases hlp : e.1 = e.2
    · obtain ⟨u, w⟩ := e
      have hlp : u = w := hlp
      subst hlp
      rw [CV_loop h', AO_loop, Int.mul_zero]
    · obtain ⟨m, lo, hi, rfl, g0, g1, g2, g3⟩ := ne_cases he hlp
      have q1 := AO_CV N r (m + 1) (by omega) h'
      have q2 := AO_CV N (mapE (piM hi lo) r) m (by rw [show (mapE (piM hi lo) r).length = r.length from List.length_map ..]; omega) (inR_map g0 g1 g2 h')
      have q3 : AO (e :: r) = AO r + AO (mapE (piM hi lo) r) := by
        rcases g3 with rfl | rfl
        · exact AO_cons (piM_eq (m := m) g1) (by omega)
        · exact AO_cons (fun x y => by rw [piM_eq (m := m) g1]; omega) (by omega)
      rw [CV_cons g0 g1 g2 g3 h', q3, q1, q2, sgn_succ, Int.mul_sub, Int.neg_mul, Int.neg_mul]
      omega
/-! ### taking off sources, turn by turn -/
def srcs (left : List Int) (arr : List E) : List Int := left.filter fun v => decide (arr.filter (fun e => decide (e.2 = v)) = [])
def peel : Nat → List Int → List E → List Int
  | 0, left, _ => left
  | k + 1, left, arr => if srcs left arr = [] then left else peel k (left.filter fun v => !decide (v ∈ srcs left arr)) (arr.filter fun e => !decide (e.1 ∈ srcs left arr))
theorem mem_srcs {left : List Int} {arr : List E} {v : Int} : v ∈ srcs left arr ↔ v ∈ left ∧ ∀ e ∈ arr, e.2 ≠ v := by
  unfold srcs
  rw [List.mem_filter, decide_eq_true_eq, List.filter_eq_nil_iff]
  simp
theorem least (f : Int → Nat) : ∀ l : List Int, l ≠ [] → ∃ v ∈ l, ∀ w ∈ l, f v ≤ f w
  | [], h => absurd rfl h
  | [a], _ => ⟨a, List.mem_cons_self, fun w hw => by rw [List.mem_singleton.mp hw]; exact Nat.le_refl _⟩
  | a :: b :: l, _ => by
    obtain ⟨v, hv, h⟩ := least f (b :: l) (by simp)
    by_cases c : f a ≤ f v
    · exact ⟨a, List.mem_cons_self, fun w hw => by
        rcases List.mem_cons.mp hw with rfl | hw
        · exact Nat.le_refl _
        · exact Nat.le_trans c (h w hw)⟩
    · exact ⟨v, List.mem_cons_of_mem _ hv, fun w hw => by
        rcases List.mem_cons.mp hw with rfl | hw
        · omega
        · exact h w hw⟩
theorem peel_iff : ∀ (k : Nat) (left : List Int) (arr : List E), left.length ≤ k → (∀ e ∈ arr, e.1 ∈ left ∧ e.2 ∈ left) → (peel k left arr = [] ↔ Acy arr)
  | 0, left, arr, hl, ha => by
    have : left = [] := List.eq_nil_of_length_eq_zero (Nat.le_zero.mp hl)
    subst this
    have : arr = [] := List.eq_nil_iff_forall_not_mem.mpr fun e he => by simpa using ha e he
    subst this
    exact ⟨fun _ => Acy.nil, fun _ => rfl⟩
  | k + 1, left, arr, hl, ha => by
    show (if srcs left arr = [] then left else _) = [] ↔ _
    by_cases c : srcs left arr = []
    · rw [if_pos c]
      constructor
      · rintro rfl
        have : arr = [] := List.eq_nil_iff_forall_not_mem.mpr fun e he => by simpa using ha e he
        subst this
        exact Acy.nil
      · rintro ⟨f, hf⟩
        by_cases c2 : left = []
        · exact c2
        · obtain ⟨v, hv, hm⟩ := least f left c2
          have : v ∈ srcs left arr := mem_srcs.mpr ⟨hv, fun e he q => by
            have := hf e he
            have := hm e.1 (ha e he).1
            rw [q] at *
            omega⟩
          rw [c] at this
          simp at this
    · rw [if_neg c]
      obtain ⟨s, hs⟩ := List.exists_mem_of_ne_nil _ c
      have hlt : (left.filter fun v => !decide (v ∈ srcs left arr)).length < left.length := by
        refine List.length_filter_lt_length_iff_exists.mpr ⟨s, (mem_srcs.mp hs).1, by simp [hs]⟩
      rw [peel_iff k _ _ (by omega) fun e he => by
        rw [List.mem_filter] at he
        refine ⟨List.mem_filter.mpr ⟨(ha e he.1).1, he.2⟩, List.mem_filter.mpr ⟨(ha e he.1).2, ?_⟩⟩
        have : e.2 ∉ srcs left arr := fun q => (mem_srcs.mp q).2 e he.1 rfl
        simp [this]]
      constructor
      · rintro ⟨f, hf⟩
        refine ⟨fun v => if v ∈ srcs left arr then 0 else f v + 1, fun e he => ?_⟩
        have n2 : e.2 ∉ srcs left arr := fun q => (mem_srcs.mp q).2 e he rfl
        show (if e.1 ∈ srcs left arr then 0 else f e.1 + 1) < (if e.2 ∈ srcs left arr then 0 else f e.2 + 1)
        rw [if_neg n2]
        by_cases c3 : e.1 ∈ srcs left arr
        · rw [if_pos c3]
          omega
        · rw [if_neg c3]
          have := hf e (List.mem_filter.mpr ⟨he, by simp [c3]⟩)
          omega
      · exact fun q => q.sub fun e he => (List.mem_filter.mp he).1
end Gp
end

section
set_option Elab.async false
set_option linter.all false
set_option maxRecDepth 100000
set_option maxHeartbeats 4000000
namespace K95
open PySem PySem.Spec PyProof.Rows L2 No

theorem un1 {n c : Nat} (h : n + 64 < c) : n + 1 < c := by omega
structure Ad where
  CN : Addr
  CT : Addr
  fI : Addr
  fd : FuncData
structure Tx (a : Ad) (P : Program) (w : World) (K : PySem.W.Frag) (mg : Str → Option Value) (base : Heap) : Prop where
  b_bool : mg "bool" = none
  b_enumerate : mg "enumerate" = none
  b_int : mg "int" = none
  b_isinstance : mg "isinstance" = none
  b_len : mg "len" = none
  b_list : mg "list" = none
  b_max : mg "max" = none
  b_min : mg "min" = none
  b_range : mg "range" = none
  b_reversed : mg "reversed" = none
  b_set : mg "set" = none
  b_sorted : mg "sorted" = none
  b_str : mg "str" = none
  b_sum : mg "sum" = none
  b_tuple : mg "tuple" = none
  b_ValueError : mg "ValueError" = none
  g_MOST_NODES : ∃ t, mg "MOST_NODES" = some (.int 10 t)
  g_MOST_EDGES : ∃ t, mg "MOST_EDGES" = some (.int 12 t)
  x_NoughtError : mg "NoughtError" = some (.ref a.CN)
  x_InvalidTable : XP P w K mg base "InvalidTable" a.CT a.fI a.fd
abbrev s_check_graph : Stmt := PySem.Challenge.pw_noughtmeet_k95_whole_orientations_and_fo.main.body.getD 6 (.Pass ⟨0, 0, 0, 0⟩)
noncomputable def m_check_graph : MS :=
  (sSeq (sIf (mNot (mB (mChain gLe gLe (mC (.int 1)) (mVar 0) (mC (.int 10))))) (sSeq (sRaiseP "InvalidTable" "nodes")
  sNx) (sFg [] []))
  (sSeq (sIf (mB (mBin gGt (mCB gLen (mCons (mVar 1) mNil)) (mC (.int 12)))) (sSeq (sRaiseP "InvalidTable" "edges")
  sNx) (sFg [] []))
  (sSeq (sFor (gNm 2) (mItems (mVar 1)) (sSeq (sIf (mOr (mB (mBin gNe (mCB gLen (mCons (mVar 2) mNil)) (mC (.int 2)))) (mB (mBin gNe (mL (mFl (mLc (gNm 3) (mItemsT (mVar 2)) (mNot (mB (mChain gLe gLt (mC (.int 0)) (mVar 3) (mVar 0)))) (mVar 3) [3]))) (mL (mFl (mCB gLst mNil)))))) (sSeq (sRaiseP "InvalidTable" "edges")
  sNx) (sFg [] []))
  (sFg [] [2])))
  sNx)))
theorem sc_check_graph : FnScope ["nodes", "edges", "edge", "node"] ["nodes", "edges"] (defScope s_check_graph) := ⟨rfl, rfl, rfl, by decide +kernel, rfl, by decide +kernel, by decide +kernel⟩
theorem ok_check_graph {a : Ad} {P : Program} {w : World} {K : PySem.W.Frag} {mg : Str → Option Value} {base : Heap} (T : Tx a P w K mg base) {f : Addr} {fd : FuncData} (F : Fun K "check_graph" "check_graph" s_check_graph f fd) :
    FnOk P w K mg base (L2.CX P w) (3) f fd ["nodes", "edges"] (spF K mg 2 (frun 4 (m_check_graph))) := by
  have nd := (sc_check_graph).nd
  exact fn_ok (k := 2) F sc_check_graph (fun cdv A outer s H E hr =>
    (db_cons (ds_if (dt_not (dt_chain op_le op_le od_le od_le de_int (de_var 0 (pv 0)) (de_gi rfl T.g_MOST_NODES))) (db_cons (ds_raiseP rfl (takes_of rfl rfl rfl rfl) T.x_InvalidTable.ox T.x_InvalidTable.iC T.x_InvalidTable.tI (T.x_InvalidTable.fn) (hr.mono (by decide)) T.x_InvalidTable.bd rfl T.x_InvalidTable.gC (by decide))
    db_nil) (db_fg [] []))
    (db_cons (ds_if (dt_cmp op_gt od_gt (de_bi call_len cd_len rfl T.b_len PyProof.Rows.Boot.«len» (da_cons (de_var 1 (pv 1)) da_nil)) (de_gi rfl T.g_MOST_EDGES) (nomark _)) (db_cons (ds_raiseP rfl (takes_of rfl rfl rfl rfl) T.x_InvalidTable.ox T.x_InvalidTable.iC T.x_InvalidTable.tI (T.x_InvalidTable.fn) (hr.mono (by decide)) T.x_InvalidTable.bd rfl T.x_InvalidTable.gC (by decide))
    db_nil) (db_fg [] []))
    (db_cons (ds_for (ix := [2]) (di_list (de_var 1 (pv 1))) (dg_name (pg_name (i := 2) nd rfl (by first | exact Or.inl rfl | exact Or.inr rfl))) (db_cons (ds_if (DW.dt (dw_or (dt_cmp (op_neD hr.units) opd_ne (de_bi call_len cd_len rfl T.b_len PyProof.Rows.Boot.«len» (da_cons (de_var 2 (pv 2)) da_nil)) de_int (nomark _)) (dw_or1 (dt_cmp (op_neD hr.units) opd_ne (de_do (do_lcx (own := [("node", 3)]) (ix := [3]) rfl nd (blkOk_by (own := [("node", 3)]) (by kernel_rfl)) (di_tup (de_var 2 (pv 2))) (fun _ _ _ _ _ => (dg_name (pg_name (i := 3) nd rfl (by first | exact Or.inl rfl | exact Or.inr rfl)))) (fun _ _ _ _ _ => (dts_one (dt_not (dt_chain op_le op_lt od_le od_lt de_int (de_var 3 (pv 3)) (de_var 0 (pv 0)))))) (fun _ _ _ _ _ => (de_var 3 (pv 3))) (by decide))) (de_do (do_lst da_nil)) (nomark _))))) (db_cons (ds_raiseP rfl (takes_of rfl rfl rfl rfl) T.x_InvalidTable.ox T.x_InvalidTable.iC T.x_InvalidTable.tI (T.x_InvalidTable.fn) (hr.mono (by decide)) T.x_InvalidTable.bd rfl T.x_InvalidTable.gC (by decide))
    db_nil) (db_fg [] []))
    (db_fg [] [2])) (fun wi u t h1 h2 h3 => ps_for (passes_of rfl) rfl h1 h2 h3))
    db_nil))))
abbrev s_part_numbers : Stmt := PySem.Challenge.pw_noughtmeet_k95_whole_orientations_and_fo.main.body.getD 7 (.Pass ⟨0, 0, 0, 0⟩)
noncomputable def m_part_numbers : MS :=
  (sSeq (sSet 2 (mL (mFl (mLr1 (mVar 0)))))
  (sSeq (sFor (gTp 2 (gCons (gNm 3) (gCons (gNm 4) gNil))) (mItems (mVar 1)) (sSeq (sSet 5 (mCB gMin2 (mCons (mBin gIx (mVar 2) (mVar 3)) (mCons (mBin gIx (mVar 2) (mVar 4)) mNil))))
  (sSeq (sSet 6 (mCB gMax2 (mCons (mBin gIx (mVar 2) (mVar 3)) (mCons (mBin gIx (mVar 2) (mVar 4)) mNil))))
  (sSeq (sSetO 2 (mFl (mLc (gNm 7) (mItems (mVar 2)) mYes (mIf (mB (mBin gEq (mVar 7) (mVar 6))) (mVar 5) (mVar 7)) [7])))
  (sFg [2] [3, 4, 5, 6])))))
  (sSeq (sRet (mVar 2))
  sNx)))
theorem sc_part_numbers : FnScope ["nodes", "edges", "found", "one", "two", "low", "high", "number"] ["nodes", "edges"] (defScope s_part_numbers) := ⟨rfl, rfl, rfl, by decide +kernel, rfl, by decide +kernel, by decide +kernel⟩
theorem ok_part_numbers {a : Ad} {P : Program} {w : World} {K : PySem.W.Frag} {mg : Str → Option Value} {base : Heap} (T : Tx a P w K mg base) {f : Addr} {fd : FuncData} (F : Fun K "part_numbers" "part_numbers" s_part_numbers f fd) :
    FnOk P w K mg base (L2.CX P w) (1) f fd ["nodes", "edges"] (spF K mg 2 (frun 8 (m_part_numbers))) := by
  have nd := (sc_part_numbers).nd
  exact fn_ok (k := 0) F sc_part_numbers (fun cdv A outer s H E hr =>
    (db_cons (ds_set (i := 2) (de_do (do_lr1 rfl rfl T.b_list rfl T.b_range (de_var 0 (pv 0)))) (fun t ht => ps_set (i := 2) nd rfl (by first | exact Or.inl rfl | exact Or.inr rfl) ht))
    (db_cons (ds_for (ix := [3, 4]) (di_list (de_var 1 (pv 1))) (dg_tup (dgs_cons (dg_name (pg_name (i := 3) nd rfl (by first | exact Or.inl rfl | exact Or.inr rfl))) (dgs_cons (dg_name (pg_name (i := 4) nd rfl (by first | exact Or.inl rfl | exact Or.inr rfl))) dgs_nil (fun h1 h2 => pgs_cons h1 h2)) (fun h1 h2 => pgs_cons h1 h2)) (fun t ht => pg_tup rfl ht)) (db_cons (ds_set (i := 5) (de_bi (call_min2 rfl) cd_min2 rfl T.b_min PyProof.Rows.Boot.«min» (da_cons (de_ix ix_seq opd_ix (de_var 2 (pv 2)) (de_var 3 (pv 3)) (fun _ _ => rfl)) (da_cons (de_ix ix_seq opd_ix (de_var 2 (pv 2)) (de_var 4 (pv 4)) (fun _ _ => rfl)) da_nil))) (fun t ht => ps_set (i := 5) nd rfl (by first | exact Or.inl rfl | exact Or.inr rfl) ht))
    (db_cons (ds_set (i := 6) (de_bi (call_max2 rfl) cd_max2 rfl T.b_max PyProof.Rows.Boot.«max» (da_cons (de_ix ix_seq opd_ix (de_var 2 (pv 2)) (de_var 3 (pv 3)) (fun _ _ => rfl)) (da_cons (de_ix ix_seq opd_ix (de_var 2 (pv 2)) (de_var 4 (pv 4)) (fun _ _ => rfl)) da_nil))) (fun t ht => ps_set (i := 6) nd rfl (by first | exact Or.inl rfl | exact Or.inr rfl) ht))
    (db_cons (ds_lcx (i := 2) (own := [("number", 7)]) (ix := [7]) rfl nd rfl rfl rfl rfl (by decide +kernel) (blkOk_by (own := [("number", 7)]) (by kernel_rfl)) (di_list (de_var 2 (pv 2))) (fun _ _ _ _ _ => (dg_name (pg_name (i := 7) nd rfl (by first | exact Or.inl rfl | exact Or.inr rfl)))) (fun _ _ _ _ _ => dts_nil) (fun _ _ _ _ _ => (de_if (dt_cmp (op_eqD hr.units) opd_eq (de_var 7 (pv 7)) (de_var 6 (pv 6)) (nomark _)) (de_var 5 (pv 5)) (de_var 7 (pv 7)))) (by decide))
    (db_fg [2] [3, 4, 5, 6])))) (fun wi u t h1 h2 h3 => ps_for (passes_of rfl) rfl h1 h2 h3))
    (db_cons (ds_ret (de_var 2 (pv 2)))
    db_nil))))
abbrev s_count_parts : Stmt := PySem.Challenge.pw_noughtmeet_k95_whole_orientations_and_fo.main.body.getD 8 (.Pass ⟨0, 0, 0, 0⟩)
noncomputable def m_count_parts (f_part_numbers : List D → FR) : MS :=
  (sSeq (sRet (mUn gLenSet (mCall 2 f_part_numbers (mCons (mVar 0) (mCons (mVar 1) mNil)))))
  sNx)
theorem sc_count_parts : FnScope ["nodes", "edges"] ["nodes", "edges"] (defScope s_count_parts) := ⟨rfl, rfl, rfl, by decide +kernel, rfl, by decide +kernel, by decide +kernel⟩
theorem ok_count_parts {a : Ad} {P : Program} {w : World} {K : PySem.W.Frag} {mg : Str → Option Value} {base : Heap} (T : Tx a P w K mg base) {f_part_numbers : List D → FR} (c_part_numbers : CalN P w K mg base 1 "part_numbers" 2 f_part_numbers) {f : Addr} {fd : FuncData} (F : Fun K "count_parts" "count_parts" s_count_parts f fd) :
    FnOk P w K mg base (L2.CX P w) (2) f fd ["nodes", "edges"] (spF K mg 2 (frun 2 (m_count_parts f_part_numbers))) := by
  have nd := (sc_count_parts).nd
  exact fn_ok (k := 1) F sc_count_parts (fun cdv A outer s H E hr =>
    (db_cons (ds_ret (de_lenSet rfl T.b_len rfl T.b_set (de_cl c_part_numbers hr (by decide) rfl (takes_of rfl rfl rfl rfl) (da_cons (de_var 0 (pv 0)) (da_cons (de_var 1 (pv 1)) da_nil)))))
    db_nil))
abbrev s_merged : Stmt := PySem.Challenge.pw_noughtmeet_k95_whole_orientations_and_fo.main.body.getD 9 (.Pass ⟨0, 0, 0, 0⟩)
noncomputable def m_merged : MS :=
  (sSeq (sSet 3 (mCB gMin2 (mCons (mBin gIx (mVar 2) (mC (.int 0))) (mCons (mBin gIx (mVar 2) (mC (.int 1))) mNil))))
  (sSeq (sSet 4 (mCB gMax2 (mCons (mBin gIx (mVar 2) (mC (.int 0))) (mCons (mBin gIx (mVar 2) (mC (.int 1))) mNil))))
  (sSeq (sSet 5 (mL (mFl (mBin gCat (mL (mFl (mBin gCat (mL (mFl (mLr1 (mVar 4)))) (mL (mFl (mCB gLst (mCons (mVar 3) mNil))))))) (mL (mFl (mLr2 (mVar 4) (mBin gSub (mVar 0) (mC (.int 1))))))))))
  (sSeq (sRet (mCB gTup (mCons (mBin gSub (mVar 0) (mC (.int 1))) (mCons (mL (mFl (mLc (gTp 2 (gCons (gNm 6) (gCons (gNm 7) gNil))) (mItems (mVar 1)) mYes (mCB gTup (mCons (mBin gIx (mVar 5) (mVar 6)) (mCons (mBin gIx (mVar 5) (mVar 7)) mNil))) [6, 7]))) mNil))))
  sNx))))
theorem sc_merged : FnScope ["nodes", "edges", "edge", "low", "high", "names", "one", "two"] ["nodes", "edges", "edge"] (defScope s_merged) := ⟨rfl, rfl, rfl, by decide +kernel, rfl, by decide +kernel, by decide +kernel⟩
theorem ok_merged {a : Ad} {P : Program} {w : World} {K : PySem.W.Frag} {mg : Str → Option Value} {base : Heap} (T : Tx a P w K mg base) {f : Addr} {fd : FuncData} (F : Fun K "merged" "merged" s_merged f fd) :
    FnOk P w K mg base (L2.CX P w) (1) f fd ["nodes", "edges", "edge"] (spF K mg 3 (frun 8 (m_merged))) := by
  have nd := (sc_merged).nd
  exact fn_ok (k := 0) F sc_merged (fun cdv A outer s H E hr =>
    (db_cons (ds_set (i := 3) (de_bi (call_min2 rfl) cd_min2 rfl T.b_min PyProof.Rows.Boot.«min» (da_cons (de_ix ix_seq opd_ix (de_var 2 (pv 2)) de_int (fun _ _ => rfl)) (da_cons (de_ix ix_seq opd_ix (de_var 2 (pv 2)) de_int (fun _ _ => rfl)) da_nil))) (fun t ht => ps_set (i := 3) nd rfl (by first | exact Or.inl rfl | exact Or.inr rfl) ht))
    (db_cons (ds_set (i := 4) (de_bi (call_max2 rfl) cd_max2 rfl T.b_max PyProof.Rows.Boot.«max» (da_cons (de_ix ix_seq opd_ix (de_var 2 (pv 2)) de_int (fun _ _ => rfl)) (da_cons (de_ix ix_seq opd_ix (de_var 2 (pv 2)) de_int (fun _ _ => rfl)) da_nil))) (fun t ht => ps_set (i := 4) nd rfl (by first | exact Or.inl rfl | exact Or.inr rfl) ht))
    (db_cons (ds_set (i := 5) (de_do (do_op op_cat opl_cat (de_do (do_op op_cat opl_cat (de_do (do_lr1 rfl rfl T.b_list rfl T.b_range (de_var 4 (pv 4)))) (de_do (do_lst (da_cons (de_var 3 (pv 3)) da_nil))))) (de_do (do_lr2 rfl rfl T.b_list rfl T.b_range (de_var 4 (pv 4)) (de_op op_sub od_sub (de_var 0 (pv 0)) de_int))))) (fun t ht => ps_set (i := 5) nd rfl (by first | exact Or.inl rfl | exact Or.inr rfl) ht))
    (db_cons (ds_ret (de_tup (da_cons (de_op op_sub od_sub (de_var 0 (pv 0)) de_int) (da_cons (de_do (do_lcx (own := [("one", 6), ("two", 7)]) (ix := [6, 7]) rfl nd (blkOk_by (own := [("one", 6), ("two", 7)]) (by kernel_rfl)) (di_list (de_var 1 (pv 1))) (fun _ _ _ _ _ => (dg_tup (dgs_cons (dg_name (pg_name (i := 6) nd rfl (by first | exact Or.inl rfl | exact Or.inr rfl))) (dgs_cons (dg_name (pg_name (i := 7) nd rfl (by first | exact Or.inl rfl | exact Or.inr rfl))) dgs_nil (fun h1 h2 => pgs_cons h1 h2)) (fun h1 h2 => pgs_cons h1 h2)) (fun t ht => pg_tup rfl ht))) (fun _ _ _ _ _ => dts_nil) (fun _ _ _ _ _ => (de_tup (da_cons (de_ix ix_seq opd_ix (de_var 5 (pv 5)) (de_var 6 (pv 6)) (fun _ _ => rfl)) (da_cons (de_ix ix_seq opd_ix (de_var 5 (pv 5)) (de_var 7 (pv 7)) (fun _ _ => rfl)) da_nil)))) (by decide))) da_nil))))
    db_nil)))))
abbrev s_is_bridge : Stmt := PySem.Challenge.pw_noughtmeet_k95_whole_orientations_and_fo.main.body.getD 10 (.Pass ⟨0, 0, 0, 0⟩)
noncomputable def m_is_bridge (f_count_parts : List D → FR) : MS :=
  (sSeq (sRet (mBin gGt (mCall 2 f_count_parts (mCons (mVar 0) (mCons (mL (mFl (mBin gCat (mL (mFl (mSl (mVar 1) mNoP (mPart (mVar 2))))) (mL (mFl (mSl (mVar 1) (mPart (mBin gAdd (mVar 2) (mC (.int 1)))) mNoP)))))) mNil))) (mCall 2 f_count_parts (mCons (mVar 0) (mCons (mVar 1) mNil)))))
  sNx)
theorem sc_is_bridge : FnScope ["nodes", "edges", "place"] ["nodes", "edges", "place"] (defScope s_is_bridge) := ⟨rfl, rfl, rfl, by decide +kernel, rfl, by decide +kernel, by decide +kernel⟩
theorem ok_is_bridge {a : Ad} {P : Program} {w : World} {K : PySem.W.Frag} {mg : Str → Option Value} {base : Heap} (T : Tx a P w K mg base) {f_count_parts : List D → FR} (c_count_parts : CalN P w K mg base 2 "count_parts" 2 f_count_parts) {f : Addr} {fd : FuncData} (F : Fun K "is_bridge" "is_bridge" s_is_bridge f fd) :
    FnOk P w K mg base (L2.CX P w) (3) f fd ["nodes", "edges", "place"] (spF K mg 3 (frun 3 (m_is_bridge f_count_parts))) := by
  have nd := (sc_is_bridge).nd
  exact fn_ok (k := 2) F sc_is_bridge (fun cdv A outer s H E hr =>
    (db_cons (ds_ret (de_cmp op_gt od_gt (de_cl c_count_parts hr (by decide) rfl (takes_of rfl rfl rfl rfl) (da_cons (de_var 0 (pv 0)) (da_cons (de_do (do_op op_cat opl_cat (de_do (do_sl (de_var 1 (pv 1)) dp_none (dp_some (de_var 2 (pv 2))))) (de_do (do_sl (de_var 1 (pv 1)) (dp_some (de_op op_add od_add (de_var 2 (pv 2)) de_int)) dp_none)))) da_nil))) (de_cl c_count_parts hr (by decide) rfl (takes_of rfl rfl rfl rfl) (da_cons (de_var 0 (pv 0)) (da_cons (de_var 1 (pv 1)) da_nil))) (nomark _)))
    db_nil))
abbrev s_shifted_terms : Stmt := PySem.Challenge.pw_noughtmeet_k95_whole_orientations_and_fo.main.body.getD 12 (.Pass ⟨0, 0, 0, 0⟩)
noncomputable def m_shifted_terms : MS :=
  (sSeq (sSetO 3 mNewT)
  (sSeq (sFor (gTp 2 (gCons (gNm 4) (gCons (gNm 5) gNil))) (mItems (mL (mFl (mCB gSortT (mCons (mVar 0) mNil))))) (sSeq (sDPutD 3 (mBin gDGet (mVar 0) (mCB gTup (mCons (mVar 4) (mCons (mVar 5) mNil)))) (mCB gTup (mCons (mBin gAdd (mVar 4) (mVar 1)) (mCons (mBin gAdd (mVar 5) (mVar 2)) mNil))))
  (sFg [] [4, 5])))
  (sSeq (sRetV 3)
  sNx)))
theorem sc_shifted_terms : FnScope ["terms", "right", "up", "found", "one", "two"] ["terms", "right", "up"] (defScope s_shifted_terms) := ⟨rfl, rfl, rfl, by decide +kernel, rfl, by decide +kernel, by decide +kernel⟩
theorem ok_shifted_terms {a : Ad} {P : Program} {w : World} {K : PySem.W.Frag} {mg : Str → Option Value} {base : Heap} (T : Tx a P w K mg base) {f : Addr} {fd : FuncData} (F : Fun K "shifted_terms" "shifted_terms" s_shifted_terms f fd) :
    FnOk P w K mg base (L2.CX P w) (1) f fd ["terms", "right", "up"] (spF K mg 3 (frun 6 (m_shifted_terms))) := by
  have nd := (sc_shifted_terms).nd
  exact fn_ok (k := 0) F sc_shifted_terms (fun cdv A outer s H E hr =>
    (db_cons (ds_setO (i := 3) do_newT (fun t ht => ps_set (i := 3) nd rfl (by first | exact Or.inl rfl | exact Or.inr rfl) ht))
    (db_cons (ds_for (ix := [4, 5]) (di_list (de_do (do_sortT (q := ⟨0, 0, 0, 0⟩) rfl rfl T.b_sorted (de_var 0 (pv 0))))) (dg_tup (dgs_cons (dg_name (pg_name (i := 4) nd rfl (by first | exact Or.inl rfl | exact Or.inr rfl))) (dgs_cons (dg_name (pg_name (i := 5) nd rfl (by first | exact Or.inl rfl | exact Or.inr rfl))) dgs_nil (fun h1 h2 => pgs_cons h1 h2)) (fun h1 h2 => pgs_cons h1 h2)) (fun t ht => pg_tup rfl ht)) (db_cons (ds_dput (i := 3) (un1 hr.units) (pv 3) (de_dget (un1 hr.units) (de_var 0 (pv 0)) (de_tup (da_cons (de_var 4 (pv 4)) (da_cons (de_var 5 (pv 5)) da_nil)))) (de_tup (da_cons (de_op op_add od_add (de_var 4 (pv 4)) (de_var 1 (pv 1))) (da_cons (de_op op_add od_add (de_var 5 (pv 5)) (de_var 2 (pv 2))) da_nil))))
    (db_fg [] [4, 5])) (fun wi u t h1 h2 h3 => ps_for (passes_of rfl) rfl h1 h2 h3))
    (db_cons (ds_retV (pv 3))
    db_nil))))
abbrev s_joined_terms : Stmt := PySem.Challenge.pw_noughtmeet_k95_whole_orientations_and_fo.main.body.getD 13 (.Pass ⟨0, 0, 0, 0⟩)
noncomputable def m_joined_terms : MS :=
  (sSeq (sSetO 2 (mDCopy 3 0))
  (sSeq (sFor (gNm 3) (mItems (mL (mFl (mCB gSortT (mCons (mVar 1) mNil))))) (sSeq (sDPutD 2 (mBor (mBin gAdd (fun env => ((mVar 2) env).bind fun x e1 => if isDict x = true then ((mVar 3) e1).bind fun y e2 => ((mC (.int 0)) e2).bind fun z e3 => ofO ((atD x y).map fun o => o.getD z) e3 else .bad) (mBin gDGet (mVar 1) (mVar 3)))) (mVar 3))
  (sFg [] [3])))
  (sSeq (sRetV 2)
  sNx)))
theorem sc_joined_terms : FnScope ["one", "two", "found", "key"] ["one", "two"] (defScope s_joined_terms) := ⟨rfl, rfl, rfl, by decide +kernel, rfl, by decide +kernel, by decide +kernel⟩
theorem ok_joined_terms {a : Ad} {P : Program} {w : World} {K : PySem.W.Frag} {mg : Str → Option Value} {base : Heap} (T : Tx a P w K mg base) {f : Addr} {fd : FuncData} (F : Fun K "joined_terms" "joined_terms" s_joined_terms f fd) :
    FnOk P w K mg base (L2.CX P w) (1) f fd ["one", "two"] (spF K mg 2 (frun 4 (m_joined_terms))) := by
  have nd := (sc_joined_terms).nd
  exact fn_ok (k := 0) F sc_joined_terms (fun cdv A outer s H E hr =>
    (db_cons (ds_dcopy (z := 2) (own := [("key", 3)]) rfl (un1 hr.units) nd rfl rfl rfl rfl (by decide +kernel) (blkOk_by (own := [("key", 3)]) (by kernel_rfl)) rfl (pv 0) (fun _ _ _ _ _ => (pg_name (i := 3) nd rfl (by first | exact Or.inl rfl | exact Or.inr rfl))) (fun _ _ _ _ _ => (pv 3)) (fun _ _ _ _ _ => (pv 0)) (fun _ _ _ _ _ => (pv 3)))
    (db_cons (ds_for (ix := [3]) (di_list (de_do (do_sortT (q := ⟨0, 0, 0, 0⟩) rfl rfl T.b_sorted (de_var 1 (pv 1))))) (dg_name (pg_name (i := 3) nd rfl (by first | exact Or.inl rfl | exact Or.inr rfl))) (db_cons (ds_dput (i := 2) (un1 hr.units) (pv 2) (de_bor (de_op op_add od_add (de_dget2 (un1 hr.units) (de_var 2 (pv 2)) (de_var 3 (pv 3)) de_int) (de_dget (un1 hr.units) (de_var 1 (pv 1)) (de_var 3 (pv 3))))) (de_var 3 (pv 3)))
    (db_fg [] [3])) (fun wi u t h1 h2 h3 => ps_for (passes_of rfl) rfl h1 h2 h3))
    (db_cons (ds_retV (pv 2))
    db_nil))))
abbrev s_terms_of : Stmt := PySem.Challenge.pw_noughtmeet_k95_whole_orientations_and_fo.main.body.getD 14 (.Pass ⟨0, 0, 0, 0⟩)
noncomputable def m_terms_of (f_terms_of : List D → FR) (f_shifted_terms : List D → FR) (f_merged : List D → FR) (f_is_bridge : List D → FR) (f_joined_terms : List D → FR) : MS :=
  (sSeq (sIf (mB (mBin gEq (mVar 1) (mL (mFl (mCB gLst mNil))))) (sSeq (sRetO (mDisp1 (mCB gTup (mCons (mC (.int 0)) (mCons (mC (.int 0)) mNil))) (mC (.int 1))))
  sNx) (sFg [] []))
  (sSeq (sSet 2 (mBin gIx (mVar 1) (mUn gNeg (mC (.int 1)))))
  (sSeq (sSet 3 (mL (mFl (mSl (mVar 1) mNoP (mPart (mUn gNeg (mC (.int 1))))))))
  (sSeq (sIf (mB (mBin gEq (mBin gIx (mVar 2) (mC (.int 0))) (mBin gIx (mVar 2) (mC (.int 1))))) (sSeq (sRet (mCall 3 f_shifted_terms (mCons (mCall 2 f_terms_of (mCons (mVar 0) (mCons (mVar 3) mNil))) (mCons (mC (.int 0)) (mCons (mC (.int 1)) mNil)))))
  sNx) (sFg [] []))
  (sSeq (sAsg (gTp 2 (gCons (gNm 4) (gCons (gNm 5) gNil))) (mCall 3 f_merged (mCons (mVar 0) (mCons (mVar 3) (mCons (mVar 2) mNil)))))
  (sSeq (sIf (mB (mCall 3 f_is_bridge (mCons (mVar 0) (mCons (mVar 1) (mCons (mBin gSub (mCB gLen (mCons (mVar 1) mNil)) (mC (.int 1))) mNil))))) (sSeq (sRet (mCall 3 f_shifted_terms (mCons (mCall 2 f_terms_of (mCons (mVar 4) (mCons (mVar 5) mNil))) (mCons (mC (.int 1)) (mCons (mC (.int 0)) mNil)))))
  sNx) (sFg [] []))
  (sSeq (sRet (mCall 2 f_joined_terms (mCons (mCall 2 f_terms_of (mCons (mVar 0) (mCons (mVar 3) mNil))) (mCons (mCall 2 f_terms_of (mCons (mVar 4) (mCons (mVar 5) mNil))) mNil))))
  sNx)))))))
theorem sc_terms_of : FnScope ["nodes", "edges", "edge", "rest", "fewer", "others"] ["nodes", "edges"] (defScope s_terms_of) := ⟨rfl, rfl, rfl, by decide +kernel, rfl, by decide +kernel, by decide +kernel⟩
theorem ok_terms_of {a : Ad} {P : Program} {w : World} {K : PySem.W.Frag} {mg : Str → Option Value} {base : Heap} (T : Tx a P w K mg base) {f_terms_of : List D → FR} {f_shifted_terms : List D → FR} {f_merged : List D → FR} {f_is_bridge : List D → FR} {f_joined_terms : List D → FR} {k : Nat} (c_terms_of : CalN P w K mg base k "terms_of" 2 f_terms_of) (c_shifted_terms : CalN P w K mg base k "shifted_terms" 3 f_shifted_terms) (c_merged : CalN P w K mg base k "merged" 3 f_merged) (c_is_bridge : CalN P w K mg base k "is_bridge" 3 f_is_bridge) (c_joined_terms : CalN P w K mg base k "joined_terms" 2 f_joined_terms) {f : Addr} {fd : FuncData} (F : Fun K "terms_of" "terms_of" s_terms_of f fd) :
    FnOk P w K mg base (L2.CX P w) (k + 1) f fd ["nodes", "edges"] (spF K mg 2 (frun 6 (m_terms_of f_terms_of f_shifted_terms f_merged f_is_bridge f_joined_terms))) := by
  have nd := (sc_terms_of).nd
  exact fn_ok (k := k) F sc_terms_of (fun cdv A outer s H E hr =>
    (db_cons (ds_if (dt_cmp (op_eqD hr.units) opd_eq (de_var 1 (pv 1)) (de_do (do_lst da_nil)) (nomark _)) (db_cons (ds_retO (do_disp1 (un1 hr.units) (de_tup (da_cons de_int (da_cons de_int da_nil))) de_int))
    db_nil) (db_fg [] []))
    (db_cons (ds_set (i := 2) (de_ix ix_seq opd_ix (de_var 1 (pv 1)) (de_un un_neg und_neg de_int) (fun _ _ => rfl)) (fun t ht => ps_set (i := 2) nd rfl (by first | exact Or.inl rfl | exact Or.inr rfl) ht))
    (db_cons (ds_set (i := 3) (de_do (do_sl (de_var 1 (pv 1)) dp_none (dp_some (de_un un_neg und_neg de_int)))) (fun t ht => ps_set (i := 3) nd rfl (by first | exact Or.inl rfl | exact Or.inr rfl) ht))
    (db_cons (ds_if (dt_cmp (op_eqD hr.units) opd_eq (de_ix ix_seq opd_ix (de_var 2 (pv 2)) de_int (fun _ _ => rfl)) (de_ix ix_seq opd_ix (de_var 2 (pv 2)) de_int (fun _ _ => rfl)) (nomark _)) (db_cons (ds_ret (de_cl c_shifted_terms hr (Nat.le_refl _) rfl (takes_of rfl rfl rfl rfl) (da_cons (de_cl c_terms_of hr (Nat.le_refl _) rfl (takes_of rfl rfl rfl rfl) (da_cons (de_var 0 (pv 0)) (da_cons (de_var 3 (pv 3)) da_nil))) (da_cons de_int (da_cons de_int da_nil)))))
    db_nil) (db_fg [] []))
    (db_cons (ds_asg (ix := [4, 5]) (dg_tup (dgs_cons (dg_name (pg_name (i := 4) nd rfl (by first | exact Or.inl rfl | exact Or.inr rfl))) (dgs_cons (dg_name (pg_name (i := 5) nd rfl (by first | exact Or.inl rfl | exact Or.inr rfl))) dgs_nil (fun h1 h2 => pgs_cons h1 h2)) (fun h1 h2 => pgs_cons h1 h2)) (fun t ht => pg_tup rfl ht)) (de_cl c_merged hr (Nat.le_refl _) rfl (takes_of rfl rfl rfl rfl) (da_cons (de_var 0 (pv 0)) (da_cons (de_var 3 (pv 3)) (da_cons (de_var 2 (pv 2)) da_nil)))) (fun t u ht hu => ps_asg ht hu))
    (db_cons (ds_if (dt_val (de_cl c_is_bridge hr (Nat.le_refl _) rfl (takes_of rfl rfl rfl rfl) (da_cons (de_var 0 (pv 0)) (da_cons (de_var 1 (pv 1)) (da_cons (de_op op_sub od_sub (de_bi call_len cd_len rfl T.b_len PyProof.Rows.Boot.«len» (da_cons (de_var 1 (pv 1)) da_nil)) de_int) da_nil))))) (db_cons (ds_ret (de_cl c_shifted_terms hr (Nat.le_refl _) rfl (takes_of rfl rfl rfl rfl) (da_cons (de_cl c_terms_of hr (Nat.le_refl _) rfl (takes_of rfl rfl rfl rfl) (da_cons (de_var 4 (pv 4)) (da_cons (de_var 5 (pv 5)) da_nil))) (da_cons de_int (da_cons de_int da_nil)))))
    db_nil) (db_fg [] []))
    (db_cons (ds_ret (de_cl c_joined_terms hr (Nat.le_refl _) rfl (takes_of rfl rfl rfl rfl) (da_cons (de_cl c_terms_of hr (Nat.le_refl _) rfl (takes_of rfl rfl rfl rfl) (da_cons (de_var 0 (pv 0)) (da_cons (de_var 3 (pv 3)) da_nil))) (da_cons (de_cl c_terms_of hr (Nat.le_refl _) rfl (takes_of rfl rfl rfl rfl) (da_cons (de_var 4 (pv 4)) (da_cons (de_var 5 (pv 5)) da_nil))) da_nil))))
    db_nil))))))))
abbrev s_tutte : Stmt := PySem.Challenge.pw_noughtmeet_k95_whole_orientations_and_fo.main.body.getD 15 (.Pass ⟨0, 0, 0, 0⟩)
noncomputable def m_tutte (f_check_graph : List D → FR) (f_terms_of : List D → FR) : MS :=
  (sSeq (sDrop (mCall 2 f_check_graph (mCons (mVar 0) (mCons (mVar 1) mNil))))
  (sSeq (sSet 2 (mCall 2 f_terms_of (mCons (mVar 0) (mCons (mL (mFl (mLc (gTp 2 (gCons (gNm 3) (gCons (gNm 4) gNil))) (mItems (mVar 1)) mYes (mCB gTup (mCons (mVar 3) (mCons (mVar 4) mNil))) [3, 4]))) mNil))))
  (sSeq (sRetO (mFl (mLc (gTp 2 (gCons (gNm 3) (gCons (gNm 4) gNil))) (mItems (mL (mFl (mCB gSortT (mCons (mVar 2) mNil))))) mYes (mCB gTup (mCons (mVar 3) (mCons (mVar 4) (mCons (mBin gDGet (mVar 2) (mCB gTup (mCons (mVar 3) (mCons (mVar 4) mNil)))) mNil)))) [3, 4])))
  sNx)))
theorem sc_tutte : FnScope ["nodes", "edges", "terms", "one", "two"] ["nodes", "edges"] (defScope s_tutte) := ⟨rfl, rfl, rfl, by decide +kernel, rfl, by decide +kernel, by decide +kernel⟩
theorem ok_tutte {a : Ad} {P : Program} {w : World} {K : PySem.W.Frag} {mg : Str → Option Value} {base : Heap} (T : Tx a P w K mg base) {f_check_graph : List D → FR} {f_terms_of : List D → FR} (c_check_graph : CalN P w K mg base 3 "check_graph" 2 f_check_graph) (c_terms_of : CalN P w K mg base 40 "terms_of" 2 f_terms_of) {f : Addr} {fd : FuncData} (F : Fun K "tutte" "tutte" s_tutte f fd) :
    FnOk P w K mg base (L2.CX P w) (41) f fd ["nodes", "edges"] (spF K mg 2 (frun 5 (m_tutte f_check_graph f_terms_of))) := by
  have nd := (sc_tutte).nd
  exact fn_ok (k := 40) F sc_tutte (fun cdv A outer s H E hr =>
    (db_cons (ds_expr (de_cl c_check_graph hr (by decide) rfl (takes_of rfl rfl rfl rfl) (da_cons (de_var 0 (pv 0)) (da_cons (de_var 1 (pv 1)) da_nil))))
    (db_cons (ds_set (i := 2) (de_cl c_terms_of hr (by decide) rfl (takes_of rfl rfl rfl rfl) (da_cons (de_var 0 (pv 0)) (da_cons (de_do (do_lcx (own := [("one", 3), ("two", 4)]) (ix := [3, 4]) rfl nd (blkOk_by (own := [("one", 3), ("two", 4)]) (by kernel_rfl)) (di_list (de_var 1 (pv 1))) (fun _ _ _ _ _ => (dg_tup (dgs_cons (dg_name (pg_name (i := 3) nd rfl (by first | exact Or.inl rfl | exact Or.inr rfl))) (dgs_cons (dg_name (pg_name (i := 4) nd rfl (by first | exact Or.inl rfl | exact Or.inr rfl))) dgs_nil (fun h1 h2 => pgs_cons h1 h2)) (fun h1 h2 => pgs_cons h1 h2)) (fun t ht => pg_tup rfl ht))) (fun _ _ _ _ _ => dts_nil) (fun _ _ _ _ _ => (de_tup (da_cons (de_var 3 (pv 3)) (da_cons (de_var 4 (pv 4)) da_nil)))) (by decide))) da_nil))) (fun t ht => ps_set (i := 2) nd rfl (by first | exact Or.inl rfl | exact Or.inr rfl) ht))
    (db_cons (ds_retO (do_lcx (own := [("one", 3), ("two", 4)]) (ix := [3, 4]) rfl nd (blkOk_by (own := [("one", 3), ("two", 4)]) (by kernel_rfl)) (di_list (de_do (do_sortT (q := ⟨0, 0, 0, 0⟩) rfl rfl T.b_sorted (de_var 2 (pv 2))))) (fun _ _ _ _ _ => (dg_tup (dgs_cons (dg_name (pg_name (i := 3) nd rfl (by first | exact Or.inl rfl | exact Or.inr rfl))) (dgs_cons (dg_name (pg_name (i := 4) nd rfl (by first | exact Or.inl rfl | exact Or.inr rfl))) dgs_nil (fun h1 h2 => pgs_cons h1 h2)) (fun h1 h2 => pgs_cons h1 h2)) (fun t ht => pg_tup rfl ht))) (fun _ _ _ _ _ => dts_nil) (fun _ _ _ _ _ => (de_tup (da_cons (de_var 3 (pv 3)) (da_cons (de_var 4 (pv 4)) (da_cons (de_dget (un1 hr.units) (de_var 2 (pv 2)) (de_tup (da_cons (de_var 3 (pv 3)) (da_cons (de_var 4 (pv 4)) da_nil)))) da_nil))))) (by decide)))
    db_nil))))
abbrev s_integer_power : Stmt := PySem.Challenge.pw_noughtmeet_k95_whole_orientations_and_fo.main.body.getD 16 (.Pass ⟨0, 0, 0, 0⟩)
noncomputable def m_integer_power : MS :=
  (sSeq (sSet 2 (mC (.int 1)))
  (sSeq (sFor (gNm 3) (mRng1 (mCons (mVar 1) mNil)) (sSeq (sSet 2 (mBin gMul (mVar 2) (mVar 0)))
  (sFg [] [3])))
  (sSeq (sRet (mVar 2))
  sNx)))
theorem sc_integer_power : FnScope ["number", "count", "found", "_"] ["number", "count"] (defScope s_integer_power) := ⟨rfl, rfl, rfl, by decide +kernel, rfl, by decide +kernel, by decide +kernel⟩
theorem ok_integer_power {a : Ad} {P : Program} {w : World} {K : PySem.W.Frag} {mg : Str → Option Value} {base : Heap} (T : Tx a P w K mg base) {f : Addr} {fd : FuncData} (F : Fun K "integer_power" "integer_power" s_integer_power f fd) :
    FnOk P w K mg base (L2.CX P w) (1) f fd ["number", "count"] (spF K mg 2 (frun 4 (m_integer_power))) := by
  have nd := (sc_integer_power).nd
  exact fn_ok (k := 0) F sc_integer_power (fun cdv A outer s H E hr =>
    (db_cons (ds_set (i := 2) de_int (fun t ht => ps_set (i := 2) nd rfl (by first | exact Or.inl rfl | exact Or.inr rfl) ht))
    (db_cons (ds_for (ix := [3]) (di_r1 rfl T.b_range (da_cons (de_var 1 (pv 1)) da_nil)) (dg_name (pg_name (i := 3) nd rfl (by first | exact Or.inl rfl | exact Or.inr rfl))) (db_cons (ds_set (i := 2) (de_op op_mul od_mul (de_var 2 (pv 2)) (de_var 0 (pv 0))) (fun t ht => ps_set (i := 2) nd rfl (by first | exact Or.inl rfl | exact Or.inr rfl) ht))
    (db_fg [] [3])) (fun wi u t h1 h2 h3 => ps_for (passes_of rfl) rfl h1 h2 h3))
    (db_cons (ds_ret (de_var 2 (pv 2)))
    db_nil))))
abbrev s_tutte_value : Stmt := PySem.Challenge.pw_noughtmeet_k95_whole_orientations_and_fo.main.body.getD 17 (.Pass ⟨0, 0, 0, 0⟩)
noncomputable def m_tutte_value (f_integer_power : List D → FR) : MS :=
  (sSeq (sRet (mCB gSum (mCons (mL (mFl (mLc (gTp 3 (gCons (gNm 3) (gCons (gNm 4) (gCons (gNm 5) gNil)))) (mItems (mVar 0)) mYes (mBin gMul (mBin gMul (mVar 5) (mCall 2 f_integer_power (mCons (mVar 1) (mCons (mVar 3) mNil)))) (mCall 2 f_integer_power (mCons (mVar 2) (mCons (mVar 4) mNil)))) [3, 4, 5]))) mNil)))
  sNx)
theorem sc_tutte_value : FnScope ["terms", "one", "two", "left", "right", "number"] ["terms", "one", "two"] (defScope s_tutte_value) := ⟨rfl, rfl, rfl, by decide +kernel, rfl, by decide +kernel, by decide +kernel⟩
theorem ok_tutte_value {a : Ad} {P : Program} {w : World} {K : PySem.W.Frag} {mg : Str → Option Value} {base : Heap} (T : Tx a P w K mg base) {f_integer_power : List D → FR} (c_integer_power : CalN P w K mg base 1 "integer_power" 2 f_integer_power) {f : Addr} {fd : FuncData} (F : Fun K "tutte_value" "tutte_value" s_tutte_value f fd) :
    FnOk P w K mg base (L2.CX P w) (2) f fd ["terms", "one", "two"] (spF K mg 3 (frun 6 (m_tutte_value f_integer_power))) := by
  have nd := (sc_tutte_value).nd
  exact fn_ok (k := 1) F sc_tutte_value (fun cdv A outer s H E hr =>
    (db_cons (ds_ret (de_bi (cr_sum rfl) cd_sum rfl T.b_sum PyProof.Rows.Boot.«sum» (da_cons (de_do (do_lcx (own := [("left", 3), ("right", 4), ("number", 5)]) (ix := [3, 4, 5]) rfl nd (blkOk_by (own := [("left", 3), ("right", 4), ("number", 5)]) (by kernel_rfl)) (di_list (de_var 0 (pv 0))) (fun _ _ _ _ _ => (dg_tup (dgs_cons (dg_name (pg_name (i := 3) nd rfl (by first | exact Or.inl rfl | exact Or.inr rfl))) (dgs_cons (dg_name (pg_name (i := 4) nd rfl (by first | exact Or.inl rfl | exact Or.inr rfl))) (dgs_cons (dg_name (pg_name (i := 5) nd rfl (by first | exact Or.inl rfl | exact Or.inr rfl))) dgs_nil (fun h1 h2 => pgs_cons h1 h2)) (fun h1 h2 => pgs_cons h1 h2)) (fun h1 h2 => pgs_cons h1 h2)) (fun t ht => pg_tup rfl ht))) (fun _ _ _ _ _ => dts_nil) (fun _ _ _ _ _ => (de_op op_mul od_mul (de_op op_mul od_mul (de_var 5 (pv 5)) (de_cl c_integer_power hr (by decide) rfl takes0 (da_cons (de_var 1 (pv 1)) (da_cons (de_var 3 (pv 3)) da_nil)))) (de_cl c_integer_power hr (by decide) rfl takes0 (da_cons (de_var 2 (pv 2)) (da_cons (de_var 4 (pv 4)) da_nil))))) (by decide))) da_nil)))
    db_nil))
abbrev s_integer_times : Stmt := PySem.Challenge.pw_noughtmeet_k95_whole_orientations_and_fo.main.body.getD 18 (.Pass ⟨0, 0, 0, 0⟩)
noncomputable def m_integer_times : MS :=
  (sSeq (sSetO 2 (mFl (mBin gRep (mL (mFl (mCB gLst (mCons (mC (.int 0)) mNil)))) (mCB gMax2 (mCons (mC (.int 0)) (mCons (mBin gSub (mBin gAdd (mCB gLen (mCons (mVar 0) mNil)) (mCB gLen (mCons (mVar 1) mNil))) (mC (.int 1))) mNil))))))
  (sSeq (sFor (gTp 2 (gCons (gNm 3) (gCons (gNm 4) gNil))) (mEnum (mCons (mVar 0) mNil)) (sSeq (sFor (gTp 2 (gCons (gNm 5) (gCons (gNm 6) gNil))) (mEnum (mCons (mVar 1) mNil)) (sSeq (sAugP 2 (fun a b : Int => a + b) (mBin gAdd (mVar 3) (mVar 5)) (mBin gMul (mVar 4) (mVar 6)))
  (sFg [] [5, 6])))
  (sFg [] [3, 4])))
  (sSeq (sRetV 2)
  sNx)))
theorem sc_integer_times : FnScope ["one", "two", "found", "place", "left", "offset", "right"] ["one", "two"] (defScope s_integer_times) := ⟨rfl, rfl, rfl, by decide +kernel, rfl, by decide +kernel, by decide +kernel⟩
theorem ok_integer_times {a : Ad} {P : Program} {w : World} {K : PySem.W.Frag} {mg : Str → Option Value} {base : Heap} (T : Tx a P w K mg base) {f : Addr} {fd : FuncData} (F : Fun K "integer_times" "integer_times" s_integer_times f fd) :
    FnOk P w K mg base (L2.CX P w) (1) f fd ["one", "two"] (spF K mg 2 (frun 7 (m_integer_times))) := by
  have nd := (sc_integer_times).nd
  exact fn_ok (k := 0) F sc_integer_times (fun cdv A outer s H E hr =>
    (db_cons (ds_setO (i := 2) (do_op op_rep opl_rep (de_do (do_lst (da_cons de_int da_nil))) (de_bi (call_max2 rfl) cd_max2 rfl T.b_max PyProof.Rows.Boot.«max» (da_cons de_int (da_cons (de_op op_sub od_sub (de_op op_add od_add (de_bi call_len cd_len rfl T.b_len PyProof.Rows.Boot.«len» (da_cons (de_var 0 (pv 0)) da_nil)) (de_bi call_len cd_len rfl T.b_len PyProof.Rows.Boot.«len» (da_cons (de_var 1 (pv 1)) da_nil))) de_int) da_nil)))) (fun t ht => ps_set (i := 2) nd rfl (by first | exact Or.inl rfl | exact Or.inr rfl) ht))
    (db_cons (ds_for (ix := [3, 4]) (di_en rfl T.b_enumerate (da_cons (de_var 0 (pv 0)) da_nil)) (dg_tup (dgs_cons (dg_name (pg_name (i := 3) nd rfl (by first | exact Or.inl rfl | exact Or.inr rfl))) (dgs_cons (dg_name (pg_name (i := 4) nd rfl (by first | exact Or.inl rfl | exact Or.inr rfl))) dgs_nil (fun h1 h2 => pgs_cons h1 h2)) (fun h1 h2 => pgs_cons h1 h2)) (fun t ht => pg_tup rfl ht)) (db_cons (ds_for (ix := [5, 6]) (di_en rfl T.b_enumerate (da_cons (de_var 1 (pv 1)) da_nil)) (dg_tup (dgs_cons (dg_name (pg_name (i := 5) nd rfl (by first | exact Or.inl rfl | exact Or.inr rfl))) (dgs_cons (dg_name (pg_name (i := 6) nd rfl (by first | exact Or.inl rfl | exact Or.inr rfl))) dgs_nil (fun h1 h2 => pgs_cons h1 h2)) (fun h1 h2 => pgs_cons h1 h2)) (fun t ht => pg_tup rfl ht)) (db_cons (ds_augP (i := 2) (f := (fun a b : Int => a + b)) (pv 2) (de_op op_add od_add (de_var 3 (pv 3)) (de_var 5 (pv 5))) (de_op op_mul od_mul (de_var 4 (pv 4)) (de_var 6 (pv 6))) ip_add)
    (db_fg [] [5, 6])) (fun wi u t h1 h2 h3 => ps_for (passes_of rfl) rfl h1 h2 h3))
    (db_fg [] [3, 4])) (fun wi u t h1 h2 h3 => ps_for (passes_of rfl) rfl h1 h2 h3))
    (db_cons (ds_retV (pv 2))
    db_nil))))
abbrev s_without_zeros : Stmt := PySem.Challenge.pw_noughtmeet_k95_whole_orientations_and_fo.main.body.getD 19 (.Pass ⟨0, 0, 0, 0⟩)
noncomputable def m_without_zeros : MS :=
  (sSeq (sSetO 1 (mFl (mCB gList (mCons (mVar 0) mNil))))
  (sSeq (sWhile (mBorT (mAnd (mB (mBin gNe (mVar 1) (mL (mFl (mCB gLst mNil))))) (mB (mBin gEq (mBin gIx (mVar 1) (mUn gNeg (mC (.int 1)))) (mC (.int 0)))))) (sSeq (sPopX 1)
  (sFg [] [])))
  (sSeq (sRetV 1)
  sNx)))
theorem sc_without_zeros : FnScope ["row", "found"] ["row"] (defScope s_without_zeros) := ⟨rfl, rfl, rfl, by decide +kernel, rfl, by decide +kernel, by decide +kernel⟩
theorem ok_without_zeros {a : Ad} {P : Program} {w : World} {K : PySem.W.Frag} {mg : Str → Option Value} {base : Heap} (T : Tx a P w K mg base) {f : Addr} {fd : FuncData} (F : Fun K "without_zeros" "without_zeros" s_without_zeros f fd) :
    FnOk P w K mg base (L2.CX P w) (1) f fd ["row"] (spF K mg 1 (frun 2 (m_without_zeros))) := by
  have nd := (sc_without_zeros).nd
  exact fn_ok (k := 0) F sc_without_zeros (fun cdv A outer s H E hr =>
    (db_cons (ds_setO (i := 1) (do_ty call_list_of cl_list rfl T.b_list PyProof.Rows.Boot.«list» (da_cons (de_var 0 (pv 0)) da_nil)) (fun t ht => ps_set (i := 1) nd rfl (by first | exact Or.inl rfl | exact Or.inr rfl) ht))
    (db_cons (ds_while (dt_bor (DW.dt (dw_and (dt_cmp (op_neD hr.units) opd_ne (de_var 1 (pv 1)) (de_do (do_lst da_nil)) (nomark _)) (dw_and1 (dt_cmp (op_eqD hr.units) opd_eq (de_ix ix_seq opd_ix (de_var 1 (pv 1)) (de_un un_neg und_neg de_int) (fun _ _ => rfl)) de_int (nomark _)))))) (db_cons (ds_popX (pv 1))
    (db_fg [] [])) (fun u v hu hv => ps_while (passes_of rfl) hu hv))
    (db_cons (ds_retV (pv 1))
    db_nil))))
abbrev s_value_row : Stmt := PySem.Challenge.pw_noughtmeet_k95_whole_orientations_and_fo.main.body.getD 20 (.Pass ⟨0, 0, 0, 0⟩)
noncomputable def m_value_row (f_integer_times : List D → FR) : MS :=
  (sSeq (sSet 1 (mL (mFl (mCB gLst mNil))))
  (sSeq (sFor (gTp 2 (gCons (gNm 2) (gCons (gNm 3) gNil))) (mItems (mVar 0)) (sSeq (sSet 4 (mL (mFl (mCB gLst (mCons (mVar 3) mNil)))))
  (sSeq (sFor (gNm 5) (mRng1 (mCons (mVar 2) mNil)) (sSeq (sSet 4 (mCall 2 f_integer_times (mCons (mVar 4) (mCons (mL (mFl (mCB gLst (mCons (mC (.int 1)) (mCons (mUn gNeg (mC (.int 1))) mNil))))) mNil))))
  (sFg [] [5])))
  (sSeq (sSet 6 (mCB gMax2 (mCons (mCB gLen (mCons (mVar 1) mNil)) (mCons (mCB gLen (mCons (mVar 4) mNil)) mNil))))
  (sSeq (sSet 7 (mL (mFl (mBin gCat (mVar 1) (mL (mFl (mBin gRep (mL (mFl (mCB gLst (mCons (mC (.int 0)) mNil)))) (mBin gSub (mVar 6) (mCB gLen (mCons (mVar 1) mNil))))))))))
  (sSeq (sSet 8 (mL (mFl (mBin gCat (mVar 4) (mL (mFl (mBin gRep (mL (mFl (mCB gLst (mCons (mC (.int 0)) mNil)))) (mBin gSub (mVar 6) (mCB gLen (mCons (mVar 4) mNil))))))))))
  (sSeq (sSetO 1 (mFl (mLc (gTp 2 (gCons (gNm 9) (gCons (gNm 10) gNil))) (mEnum (mCons (mVar 7) mNil)) mYes (mBin gAdd (mVar 10) (mBin gIx (mVar 8) (mVar 9))) [9, 10])))
  (sFg [1] [2, 3, 4, 6, 7, 8]))))))))
  (sSeq (sRet (mVar 1))
  sNx)))
theorem sc_value_row : FnScope ["pairs", "found", "exponent", "number", "row", "_", "longer", "left", "right", "place", "entry"] ["pairs"] (defScope s_value_row) := ⟨rfl, rfl, rfl, by decide +kernel, rfl, by decide +kernel, by decide +kernel⟩
theorem ok_value_row {a : Ad} {P : Program} {w : World} {K : PySem.W.Frag} {mg : Str → Option Value} {base : Heap} (T : Tx a P w K mg base) {f_integer_times : List D → FR} (c_integer_times : CalN P w K mg base 1 "integer_times" 2 f_integer_times) {f : Addr} {fd : FuncData} (F : Fun K "value_row" "value_row" s_value_row f fd) :
    FnOk P w K mg base (L2.CX P w) (2) f fd ["pairs"] (spF K mg 1 (frun 11 (m_value_row f_integer_times))) := by
  have nd := (sc_value_row).nd
  exact fn_ok (k := 1) F sc_value_row (fun cdv A outer s H E hr =>
    (db_cons (ds_set (i := 1) (de_do (do_lst da_nil)) (fun t ht => ps_set (i := 1) nd rfl (by first | exact Or.inl rfl | exact Or.inr rfl) ht))
    (db_cons (ds_for (ix := [2, 3]) (di_list (de_var 0 (pv 0))) (dg_tup (dgs_cons (dg_name (pg_name (i := 2) nd rfl (by first | exact Or.inl rfl | exact Or.inr rfl))) (dgs_cons (dg_name (pg_name (i := 3) nd rfl (by first | exact Or.inl rfl | exact Or.inr rfl))) dgs_nil (fun h1 h2 => pgs_cons h1 h2)) (fun h1 h2 => pgs_cons h1 h2)) (fun t ht => pg_tup rfl ht)) (db_cons (ds_set (i := 4) (de_do (do_lst (da_cons (de_var 3 (pv 3)) da_nil))) (fun t ht => ps_set (i := 4) nd rfl (by first | exact Or.inl rfl | exact Or.inr rfl) ht))
    (db_cons (ds_for (ix := [5]) (di_r1 rfl T.b_range (da_cons (de_var 2 (pv 2)) da_nil)) (dg_name (pg_name (i := 5) nd rfl (by first | exact Or.inl rfl | exact Or.inr rfl))) (db_cons (ds_set (i := 4) (de_cl c_integer_times hr (by decide) rfl (takes_of rfl rfl rfl rfl) (da_cons (de_var 4 (pv 4)) (da_cons (de_do (do_lst (da_cons de_int (da_cons (de_un un_neg und_neg de_int) da_nil)))) da_nil))) (fun t ht => ps_set (i := 4) nd rfl (by first | exact Or.inl rfl | exact Or.inr rfl) ht))
    (db_fg [] [5])) (fun wi u t h1 h2 h3 => ps_for (passes_of rfl) rfl h1 h2 h3))
    (db_cons (ds_set (i := 6) (de_bi (call_max2 rfl) cd_max2 rfl T.b_max PyProof.Rows.Boot.«max» (da_cons (de_bi call_len cd_len rfl T.b_len PyProof.Rows.Boot.«len» (da_cons (de_var 1 (pv 1)) da_nil)) (da_cons (de_bi call_len cd_len rfl T.b_len PyProof.Rows.Boot.«len» (da_cons (de_var 4 (pv 4)) da_nil)) da_nil))) (fun t ht => ps_set (i := 6) nd rfl (by first | exact Or.inl rfl | exact Or.inr rfl) ht))
    (db_cons (ds_set (i := 7) (de_do (do_op op_cat opl_cat (de_var 1 (pv 1)) (de_do (do_op op_rep opl_rep (de_do (do_lst (da_cons de_int da_nil))) (de_op op_sub od_sub (de_var 6 (pv 6)) (de_bi call_len cd_len rfl T.b_len PyProof.Rows.Boot.«len» (da_cons (de_var 1 (pv 1)) da_nil))))))) (fun t ht => ps_set (i := 7) nd rfl (by first | exact Or.inl rfl | exact Or.inr rfl) ht))
    (db_cons (ds_set (i := 8) (de_do (do_op op_cat opl_cat (de_var 4 (pv 4)) (de_do (do_op op_rep opl_rep (de_do (do_lst (da_cons de_int da_nil))) (de_op op_sub od_sub (de_var 6 (pv 6)) (de_bi call_len cd_len rfl T.b_len PyProof.Rows.Boot.«len» (da_cons (de_var 4 (pv 4)) da_nil))))))) (fun t ht => ps_set (i := 8) nd rfl (by first | exact Or.inl rfl | exact Or.inr rfl) ht))
    (db_cons (ds_lcx (i := 1) (own := [("place", 9), ("entry", 10)]) (ix := [9, 10]) rfl nd rfl rfl rfl rfl (by decide +kernel) (blkOk_by (own := [("place", 9), ("entry", 10)]) (by kernel_rfl)) (di_en rfl T.b_enumerate (da_cons (de_var 7 (pv 7)) da_nil)) (fun _ _ _ _ _ => (dg_tup (dgs_cons (dg_name (pg_name (i := 9) nd rfl (by first | exact Or.inl rfl | exact Or.inr rfl))) (dgs_cons (dg_name (pg_name (i := 10) nd rfl (by first | exact Or.inl rfl | exact Or.inr rfl))) dgs_nil (fun h1 h2 => pgs_cons h1 h2)) (fun h1 h2 => pgs_cons h1 h2)) (fun t ht => pg_tup rfl ht))) (fun _ _ _ _ _ => dts_nil) (fun _ _ _ _ _ => (de_op op_add od_add (de_var 10 (pv 10)) (de_ix ix_seq opd_ix (de_var 8 (pv 8)) (de_var 9 (pv 9)) (fun _ _ => rfl)))) (by decide))
    (db_fg [1] [2, 3, 4, 6, 7, 8]))))))) (fun wi u t h1 h2 h3 => ps_for (passes_of rfl) rfl h1 h2 h3))
    (db_cons (ds_ret (de_var 1 (pv 1)))
    db_nil))))
abbrev s_colour_row : Stmt := PySem.Challenge.pw_noughtmeet_k95_whole_orientations_and_fo.main.body.getD 21 (.Pass ⟨0, 0, 0, 0⟩)
noncomputable def m_colour_row (f_tutte : List D → FR) (f_count_parts : List D → FR) (f_value_row : List D → FR) (f_without_zeros : List D → FR) : MS :=
  (sSeq (sSet 2 (mCall 2 f_tutte (mCons (mVar 0) (mCons (mVar 1) mNil))))
  (sSeq (sSet 3 (mCall 2 f_count_parts (mCons (mVar 0) (mCons (mVar 1) mNil))))
  (sSeq (sSet 4 (mCall 1 f_value_row (mCons (mL (mFl (mLc (gTp 3 (gCons (gNm 5) (gCons (gNm 6) (gCons (gNm 7) gNil)))) (mItems (mVar 2)) (mB (mBin gEq (mVar 6) (mC (.int 0)))) (mCB gTup (mCons (mVar 5) (mCons (mVar 7) mNil))) [5, 6, 7]))) mNil)))
  (sSeq (sSet 8 (mBin gSub (mC (.int 1)) (mBin gMul (mC (.int 2)) (mBin gAnd (mBin gSub (mVar 0) (mVar 3)) (mC (.int 1))))))
  (sSeq (sRet (mCall 1 f_without_zeros (mCons (mL (mFl (mBin gCat (mL (mFl (mBin gRep (mL (mFl (mCB gLst (mCons (mC (.int 0)) mNil)))) (mVar 3)))) (mL (mFl (mLc (gNm 9) (mItems (mVar 4)) mYes (mBin gMul (mVar 8) (mVar 9)) [9])))))) mNil)))
  sNx)))))
theorem sc_colour_row : FnScope ["nodes", "edges", "terms", "parts", "row", "left", "right", "number", "sign", "entry"] ["nodes", "edges"] (defScope s_colour_row) := ⟨rfl, rfl, rfl, by decide +kernel, rfl, by decide +kernel, by decide +kernel⟩
theorem ok_colour_row {a : Ad} {P : Program} {w : World} {K : PySem.W.Frag} {mg : Str → Option Value} {base : Heap} (T : Tx a P w K mg base) {f_tutte : List D → FR} {f_count_parts : List D → FR} {f_value_row : List D → FR} {f_without_zeros : List D → FR} (c_tutte : CalN P w K mg base 41 "tutte" 2 f_tutte) (c_count_parts : CalN P w K mg base 2 "count_parts" 2 f_count_parts) (c_value_row : CalN P w K mg base 2 "value_row" 1 f_value_row) (c_without_zeros : CalN P w K mg base 1 "without_zeros" 1 f_without_zeros) {f : Addr} {fd : FuncData} (F : Fun K "colour_row" "colour_row" s_colour_row f fd) :
    FnOk P w K mg base (L2.CX P w) (42) f fd ["nodes", "edges"] (spF K mg 2 (frun 10 (m_colour_row f_tutte f_count_parts f_value_row f_without_zeros))) := by
  have nd := (sc_colour_row).nd
  exact fn_ok (k := 41) F sc_colour_row (fun cdv A outer s H E hr =>
    (db_cons (ds_set (i := 2) (de_cl c_tutte hr (by decide) rfl (takes_of rfl rfl rfl rfl) (da_cons (de_var 0 (pv 0)) (da_cons (de_var 1 (pv 1)) da_nil))) (fun t ht => ps_set (i := 2) nd rfl (by first | exact Or.inl rfl | exact Or.inr rfl) ht))
    (db_cons (ds_set (i := 3) (de_cl c_count_parts hr (by decide) rfl (takes_of rfl rfl rfl rfl) (da_cons (de_var 0 (pv 0)) (da_cons (de_var 1 (pv 1)) da_nil))) (fun t ht => ps_set (i := 3) nd rfl (by first | exact Or.inl rfl | exact Or.inr rfl) ht))
    (db_cons (ds_set (i := 4) (de_cl c_value_row hr (by decide) rfl (takes_of rfl rfl rfl rfl) (da_cons (de_do (do_lcx (own := [("left", 5), ("right", 6), ("number", 7)]) (ix := [5, 6, 7]) rfl nd (blkOk_by (own := [("left", 5), ("right", 6), ("number", 7)]) (by kernel_rfl)) (di_list (de_var 2 (pv 2))) (fun _ _ _ _ _ => (dg_tup (dgs_cons (dg_name (pg_name (i := 5) nd rfl (by first | exact Or.inl rfl | exact Or.inr rfl))) (dgs_cons (dg_name (pg_name (i := 6) nd rfl (by first | exact Or.inl rfl | exact Or.inr rfl))) (dgs_cons (dg_name (pg_name (i := 7) nd rfl (by first | exact Or.inl rfl | exact Or.inr rfl))) dgs_nil (fun h1 h2 => pgs_cons h1 h2)) (fun h1 h2 => pgs_cons h1 h2)) (fun h1 h2 => pgs_cons h1 h2)) (fun t ht => pg_tup rfl ht))) (fun _ _ _ _ _ => (dts_one (dt_cmp (op_eqD hr.units) opd_eq (de_var 6 (pv 6)) de_int (nomark _)))) (fun _ _ _ _ _ => (de_tup (da_cons (de_var 5 (pv 5)) (da_cons (de_var 7 (pv 7)) da_nil)))) (by decide))) da_nil)) (fun t ht => ps_set (i := 4) nd rfl (by first | exact Or.inl rfl | exact Or.inr rfl) ht))
    (db_cons (ds_set (i := 8) (de_op op_sub od_sub de_int (de_op op_mul od_mul de_int (de_op op_and od_and (de_op op_sub od_sub (de_var 0 (pv 0)) (de_var 3 (pv 3))) de_int))) (fun t ht => ps_set (i := 8) nd rfl (by first | exact Or.inl rfl | exact Or.inr rfl) ht))
    (db_cons (ds_ret (de_cl c_without_zeros hr (by decide) rfl (takes_of rfl rfl rfl rfl) (da_cons (de_do (do_op op_cat opl_cat (de_do (do_op op_rep opl_rep (de_do (do_lst (da_cons de_int da_nil))) (de_var 3 (pv 3)))) (de_do (do_lcx (own := [("entry", 9)]) (ix := [9]) rfl nd (blkOk_by (own := [("entry", 9)]) (by kernel_rfl)) (di_list (de_var 4 (pv 4))) (fun _ _ _ _ _ => (dg_name (pg_name (i := 9) nd rfl (by first | exact Or.inl rfl | exact Or.inr rfl)))) (fun _ _ _ _ _ => dts_nil) (fun _ _ _ _ _ => (de_op op_mul od_mul (de_var 8 (pv 8)) (de_var 9 (pv 9)))) (by decide))))) da_nil)))
    db_nil))))))
abbrev s_row_value : Stmt := PySem.Challenge.pw_noughtmeet_k95_whole_orientations_and_fo.main.body.getD 22 (.Pass ⟨0, 0, 0, 0⟩)
noncomputable def m_row_value : MS :=
  (sSeq (sSet 2 (mC (.int 0)))
  (sSeq (sFor (gNm 3) (mRevL (mVar 0)) (sSeq (sSet 2 (mBin gAdd (mBin gMul (mVar 2) (mVar 1)) (mVar 3)))
  (sFg [] [3])))
  (sSeq (sRet (mVar 2))
  sNx)))
theorem sc_row_value : FnScope ["row", "number", "found", "entry"] ["row", "number"] (defScope s_row_value) := ⟨rfl, rfl, rfl, by decide +kernel, rfl, by decide +kernel, by decide +kernel⟩
theorem ok_row_value {a : Ad} {P : Program} {w : World} {K : PySem.W.Frag} {mg : Str → Option Value} {base : Heap} (T : Tx a P w K mg base) {f : Addr} {fd : FuncData} (F : Fun K "row_value" "row_value" s_row_value f fd) :
    FnOk P w K mg base (L2.CX P w) (1) f fd ["row", "number"] (spF K mg 2 (frun 4 (m_row_value))) := by
  have nd := (sc_row_value).nd
  exact fn_ok (k := 0) F sc_row_value (fun cdv A outer s H E hr =>
    (db_cons (ds_set (i := 2) de_int (fun t ht => ps_set (i := 2) nd rfl (by first | exact Or.inl rfl | exact Or.inr rfl) ht))
    (db_cons (ds_for (ix := [3]) (di_revL rfl T.b_reversed (de_var 0 (pv 0))) (dg_name (pg_name (i := 3) nd rfl (by first | exact Or.inl rfl | exact Or.inr rfl))) (db_cons (ds_set (i := 2) (de_op op_add od_add (de_op op_mul od_mul (de_var 2 (pv 2)) (de_var 1 (pv 1))) (de_var 3 (pv 3))) (fun t ht => ps_set (i := 2) nd rfl (by first | exact Or.inl rfl | exact Or.inr rfl) ht))
    (db_fg [] [3])) (fun wi u t h1 h2 h3 => ps_for (passes_of rfl) rfl h1 h2 h3))
    (db_cons (ds_ret (de_var 2 (pv 2)))
    db_nil))))
abbrev s_law_cell : Stmt := PySem.Challenge.pw_noughtmeet_k95_whole_orientations_and_fo.main.body.getD 24 (.Pass ⟨0, 0, 0, 0⟩)
noncomputable def m_law_cell : MS :=
  (sSeq (sIf (mAnd (mB (mBin gLt (mVar 1) (mCB gLen (mCons (mVar 0) mNil)))) (mB (mBin gGe (mBin gIx (mVar 0) (mVar 1)) (mBin gPow (mC (.int 10)) (mC (.int 9)))))) (sSeq (sRet (mBin gIx (mVar 0) (mVar 1)))
  sNx) (sFg [] []))
  (sSeq (sSet 2 (mBin gAdd (mBin gMul (mC (.int 7)) (mVar 1)) (mC (.int 1))))
  (sSeq (sIf (mB (mBin gGt (mCB gLen (mCons (mVar 0) mNil)) (mC (.int 0)))) (sSeq (sSet 2 (mBin gAdd (mVar 2) (mBin gMul (mC (.int 31)) (mBin gIx (mVar 0) (mBin gMod (mCB gInt (mCons (mVar 1) mNil)) (mCB gLen (mCons (mVar 0) mNil)))))))
  (sFg [] [])) (sFg [] []))
  (sSeq (sSet 2 (mBin gMod (mCB gInt (mCons (mBin gAdd (mBin gMul (mVar 2) (mC (.int 48271))) (mBin gMul (mC (.int 69621)) (mVar 1))) mNil)) (mC (.int 2147483647))))
  (sSeq (sRet (mBin gMod (mCB gInt (mCons (mBin gAdd (mBin gMul (mVar 2) (mC (.int 69621))) (mBin gMul (mC (.int 48271)) (mBin gDiv (mVar 2) (mC (.int 1000))))) mNil)) (mC (.int 2147483629))))
  sNx)))))
theorem sc_law_cell : FnScope ["script", "k", "cell"] ["script", "k"] (defScope s_law_cell) := ⟨rfl, rfl, rfl, by decide +kernel, rfl, by decide +kernel, by decide +kernel⟩
theorem ok_law_cell {a : Ad} {P : Program} {w : World} {K : PySem.W.Frag} {mg : Str → Option Value} {base : Heap} (T : Tx a P w K mg base) {f : Addr} {fd : FuncData} (F : Fun K "_law_cell" "_law_cell" s_law_cell f fd) :
    FnOk P w K mg base (L2.CX P w) (1) f fd ["script", "k"] (spF K mg 2 (frun 3 (m_law_cell))) := by
  have nd := (sc_law_cell).nd
  exact fn_ok (k := 0) F sc_law_cell (fun cdv A outer s H E hr =>
    (db_cons (ds_if (DW.dt (dw_and (dt_cmp op_lt od_lt (de_var 1 (pv 1)) (de_bi call_len cd_len rfl T.b_len PyProof.Rows.Boot.«len» (da_cons (de_var 0 (pv 0)) da_nil)) (nomark _)) (dw_and1 (dt_cmp op_ge od_ge (de_ix ix_seq opd_ix (de_var 0 (pv 0)) (de_var 1 (pv 1)) (fun _ _ => rfl)) (de_op op_pow od_pow de_int de_int) (nomark _))))) (db_cons (ds_ret (de_ix ix_seq opd_ix (de_var 0 (pv 0)) (de_var 1 (pv 1)) (fun _ _ => rfl)))
    db_nil) (db_fg [] []))
    (db_cons (ds_set (i := 2) (de_op op_add od_add (de_op op_mul od_mul de_int (de_var 1 (pv 1))) de_int) (fun t ht => ps_set (i := 2) nd rfl (by first | exact Or.inl rfl | exact Or.inr rfl) ht))
    (db_cons (ds_if (dt_cmp op_gt od_gt (de_bi call_len cd_len rfl T.b_len PyProof.Rows.Boot.«len» (da_cons (de_var 0 (pv 0)) da_nil)) de_int (nomark _)) (db_cons (ds_set (i := 2) (de_op op_add od_add (de_var 2 (pv 2)) (de_op op_mul od_mul de_int (de_ix ix_seq opd_ix (de_var 0 (pv 0)) (de_op op_mod od_mod (de_ty call_int1 cd_int rfl T.b_int PyProof.Rows.Boot.«int» (da_cons (de_var 1 (pv 1)) da_nil)) (de_bi call_len cd_len rfl T.b_len PyProof.Rows.Boot.«len» (da_cons (de_var 0 (pv 0)) da_nil))) (fun _ _ => rfl)))) (fun t ht => ps_set (i := 2) nd rfl (by first | exact Or.inl rfl | exact Or.inr rfl) ht))
    (db_fg [] [])) (db_fg [] []))
    (db_cons (ds_set (i := 2) (de_op op_mod od_mod (de_ty call_int1 cd_int rfl T.b_int PyProof.Rows.Boot.«int» (da_cons (de_op op_add od_add (de_op op_mul od_mul (de_var 2 (pv 2)) de_int) (de_op op_mul od_mul de_int (de_var 1 (pv 1)))) da_nil)) de_int) (fun t ht => ps_set (i := 2) nd rfl (by first | exact Or.inl rfl | exact Or.inr rfl) ht))
    (db_cons (ds_ret (de_op op_mod od_mod (de_ty call_int1 cd_int rfl T.b_int PyProof.Rows.Boot.«int» (da_cons (de_op op_add od_add (de_op op_mul od_mul (de_var 2 (pv 2)) de_int) (de_op op_mul od_mul de_int (de_op op_fdiv od_div (de_var 2 (pv 2)) de_int))) da_nil)) de_int))
    db_nil))))))
abbrev s_law_same : Stmt := PySem.Challenge.pw_noughtmeet_k95_whole_orientations_and_fo.main.body.getD 25 (.Pass ⟨0, 0, 0, 0⟩)
noncomputable def m_law_same (f_law_same : List D → FR) : MS :=
  (sSeq (sIf (mOr (mB (mIsi isList (mVar 1))) (mB (mIsi isTuple (mVar 1)))) (sSeq (sIf (mOr (mAnd (mB (mIsi isList (mVar 1))) (mNot (mB (mIsi isList (mVar 0))))) (mAnd (mB (mIsi isTuple (mVar 1))) (mNot (mB (mIsi isTuple (mVar 0)))))) (sSeq (sRet (mC (.bl false)))
  sNx) (sFg [] []))
  (sSeq (sIf (mB (mBin gNe (mCB gLen (mCons (mVar 0) mNil)) (mCB gLen (mCons (mVar 1) mNil)))) (sSeq (sRet (mC (.bl false)))
  sNx) (sFg [] []))
  (sSeq (sRet (mBin gEq (mL (mFl (mLc (gNm 2) (mRng1 (mCons (mCB gLen (mCons (mVar 1) mNil)) mNil)) (mNot (mB (mCall 2 f_law_same (mCons (mBin gIx (mVar 0) (mVar 2)) (mCons (mBin gIx (mVar 1) (mVar 2)) mNil))))) (mVar 2) [2]))) (mL (mFl (mCB gLst mNil)))))
  sNx))) (sFg [] []))
  (sSeq (sIf (mB (mBin gIsN (mVar 1) (mC .non))) (sSeq (sRet (mBin gIsN (mVar 0) (mC .non)))
  sNx) (sFg [] []))
  (sSeq (sIf (mB (mIsi isBool (mVar 1))) (sSeq (sRet (mAndV (mIsi isBool (mVar 0)) (mBin gEq (mVar 0) (mVar 1))))
  sNx) (sFg [] []))
  (sSeq (sIf (mB (mIsi isStr (mVar 1))) (sSeq (sRet (mAndV (mIsi isStr (mVar 0)) (mBin gEq (mVar 0) (mVar 1))))
  sNx) (sFg [] []))
  (sSeq (sRet (mAndV (mIsi isInt (mVar 0)) (mAndV (mNotV (mIsi isBool (mVar 0))) (mBin gEq (mVar 0) (mVar 1)))))
  sNx)))))
theorem sc_law_same : FnScope ["told", "due", "k"] ["told", "due"] (defScope s_law_same) := ⟨rfl, rfl, rfl, by decide +kernel, rfl, by decide +kernel, by decide +kernel⟩
theorem ok_law_same {a : Ad} {P : Program} {w : World} {K : PySem.W.Frag} {mg : Str → Option Value} {base : Heap} (T : Tx a P w K mg base) {f_law_same : List D → FR} {k : Nat} (c_law_same : CalN P w K mg base k "_law_same" 2 f_law_same) {f : Addr} {fd : FuncData} (F : Fun K "_law_same" "_law_same" s_law_same f fd) :
    FnOk P w K mg base (L2.CX P w) (k + 1) f fd ["told", "due"] (spF K mg 2 (frun 3 (m_law_same f_law_same))) := by
  have nd := (sc_law_same).nd
  exact fn_ok (k := k) F sc_law_same (fun cdv A outer s H E hr =>
    (db_cons (ds_if (DW.dt (dw_or (dt_val (de_is kit_list rfl T.b_isinstance rfl T.b_list PyProof.Rows.Boot.«list» (de_var 1 (pv 1)))) (dw_or1 (dt_val (de_is kit_tuple rfl T.b_isinstance rfl T.b_tuple PyProof.Rows.Boot.«tuple» (de_var 1 (pv 1))))))) (db_cons (ds_if (DW.dt (dw_or (DW.dt (dw_and (dt_val (de_is kit_list rfl T.b_isinstance rfl T.b_list PyProof.Rows.Boot.«list» (de_var 1 (pv 1)))) (dw_and1 (dt_not (dt_val (de_is kit_list rfl T.b_isinstance rfl T.b_list PyProof.Rows.Boot.«list» (de_var 0 (pv 0)))))))) (dw_or1 (DW.dt (dw_and (dt_val (de_is kit_tuple rfl T.b_isinstance rfl T.b_tuple PyProof.Rows.Boot.«tuple» (de_var 1 (pv 1)))) (dw_and1 (dt_not (dt_val (de_is kit_tuple rfl T.b_isinstance rfl T.b_tuple PyProof.Rows.Boot.«tuple» (de_var 0 (pv 0))))))))))) (db_cons (ds_ret de_bl)
    db_nil) (db_fg [] []))
    (db_cons (ds_if (dt_cmp (op_neD hr.units) opd_ne (de_bi call_len cd_len rfl T.b_len PyProof.Rows.Boot.«len» (da_cons (de_var 0 (pv 0)) da_nil)) (de_bi call_len cd_len rfl T.b_len PyProof.Rows.Boot.«len» (da_cons (de_var 1 (pv 1)) da_nil)) (nomark _)) (db_cons (ds_ret de_bl)
    db_nil) (db_fg [] []))
    (db_cons (ds_ret (de_cmp (op_eqD hr.units) opd_eq (de_do (do_lcx (own := [("k", 2)]) (ix := [2]) rfl nd (blkOk_by (own := [("k", 2)]) (by kernel_rfl)) (di_r1 rfl T.b_range (da_cons (de_bi call_len cd_len rfl T.b_len PyProof.Rows.Boot.«len» (da_cons (de_var 1 (pv 1)) da_nil)) da_nil)) (fun _ _ _ _ _ => (dg_name (pg_name (i := 2) nd rfl (by first | exact Or.inl rfl | exact Or.inr rfl)))) (fun _ _ _ _ _ => (dts_one (dt_not (dt_val (de_cl c_law_same hr (Nat.le_refl _) rfl takes0 (da_cons (de_ix ix_seq opd_ix (de_var 0 (pv 0)) (de_var 2 (pv 2)) (fun _ _ => rfl)) (da_cons (de_ix ix_seq opd_ix (de_var 1 (pv 1)) (de_var 2 (pv 2)) (fun _ _ => rfl)) da_nil))))))) (fun _ _ _ _ _ => (de_var 2 (pv 2))) (by decide))) (de_do (do_lst da_nil)) (nomark _)))
    db_nil))) (db_fg [] []))
    (db_cons (ds_if (dt_cmp op_isN opd_isN (de_var 1 (pv 1)) de_non (nomark _)) (db_cons (ds_ret (de_cmp op_isN opd_isN (de_var 0 (pv 0)) de_non (nomark _)))
    db_nil) (db_fg [] []))
    (db_cons (ds_if (dt_val (de_is kit_bool rfl T.b_isinstance rfl T.b_bool PyProof.Rows.Boot.«bool» (de_var 1 (pv 1)))) (db_cons (ds_ret (de_and (de_is kit_bool rfl T.b_isinstance rfl T.b_bool PyProof.Rows.Boot.«bool» (de_var 0 (pv 0))) (de_one (de_cmp (op_eqD hr.units) opd_eq (de_var 0 (pv 0)) (de_var 1 (pv 1)) (nomark _)))))
    db_nil) (db_fg [] []))
    (db_cons (ds_if (dt_val (de_is kit_str rfl T.b_isinstance rfl T.b_str PyProof.Rows.Boot.«str» (de_var 1 (pv 1)))) (db_cons (ds_ret (de_and (de_is kit_str rfl T.b_isinstance rfl T.b_str PyProof.Rows.Boot.«str» (de_var 0 (pv 0))) (de_one (de_cmp (op_eqD hr.units) opd_eq (de_var 0 (pv 0)) (de_var 1 (pv 1)) (nomark _)))))
    db_nil) (db_fg [] []))
    (db_cons (ds_ret (de_and (de_is kit_int rfl T.b_isinstance rfl T.b_int PyProof.Rows.Boot.«int» (de_var 0 (pv 0))) (de_and (de_not (de_is kit_bool rfl T.b_isinstance rfl T.b_bool PyProof.Rows.Boot.«bool» (de_var 0 (pv 0)))) (de_one (de_cmp (op_eqD hr.units) opd_eq (de_var 0 (pv 0)) (de_var 1 (pv 1)) (nomark _))))))
    db_nil))))))
abbrev s_law_big : Stmt := PySem.Challenge.pw_noughtmeet_k95_whole_orientations_and_fo.main.body.getD 26 (.Pass ⟨0, 0, 0, 0⟩)
noncomputable def m_law_big (f_law_cell : List D → FR) : MS :=
  (sSeq (sSet 3 (mC (.int 0)))
  (sSeq (sFor (gNm 4) (mRng1 (mCons (mVar 2) mNil)) (sSeq (sSet 3 (mBin gAdd (mBin gMul (mVar 3) (mC (.int 2147483648))) (mCall 2 f_law_cell (mCons (mVar 0) (mCons (mBin gAdd (mVar 1) (mVar 4)) mNil)))))
  (sFg [] [4])))
  (sSeq (sRetO (mFl (mCB gLst (mCons (mVar 3) mNil))))
  sNx)))
theorem sc_law_big : FnScope ["script", "at", "count", "found", "k"] ["script", "at", "count"] (defScope s_law_big) := ⟨rfl, rfl, rfl, by decide +kernel, rfl, by decide +kernel, by decide +kernel⟩
theorem ok_law_big {a : Ad} {P : Program} {w : World} {K : PySem.W.Frag} {mg : Str → Option Value} {base : Heap} (T : Tx a P w K mg base) {f_law_cell : List D → FR} (c_law_cell : CalN P w K mg base 1 "_law_cell" 2 f_law_cell) {f : Addr} {fd : FuncData} (F : Fun K "_law_big" "_law_big" s_law_big f fd) :
    FnOk P w K mg base (L2.CX P w) (2) f fd ["script", "at", "count"] (spF K mg 3 (frun 5 (m_law_big f_law_cell))) := by
  have nd := (sc_law_big).nd
  exact fn_ok (k := 1) F sc_law_big (fun cdv A outer s H E hr =>
    (db_cons (ds_set (i := 3) de_int (fun t ht => ps_set (i := 3) nd rfl (by first | exact Or.inl rfl | exact Or.inr rfl) ht))
    (db_cons (ds_for (ix := [4]) (di_r1 rfl T.b_range (da_cons (de_var 2 (pv 2)) da_nil)) (dg_name (pg_name (i := 4) nd rfl (by first | exact Or.inl rfl | exact Or.inr rfl))) (db_cons (ds_set (i := 3) (de_op op_add od_add (de_op op_mul od_mul (de_var 3 (pv 3)) de_int) (de_cl c_law_cell hr (by decide) rfl (takes_of rfl rfl rfl rfl) (da_cons (de_var 0 (pv 0)) (da_cons (de_op op_add od_add (de_var 1 (pv 1)) (de_var 4 (pv 4))) da_nil)))) (fun t ht => ps_set (i := 3) nd rfl (by first | exact Or.inl rfl | exact Or.inr rfl) ht))
    (db_fg [] [4])) (fun wi u t h1 h2 h3 => ps_for (passes_of rfl) rfl h1 h2 h3))
    (db_cons (ds_retO (do_lst (da_cons (de_var 3 (pv 3)) da_nil)))
    db_nil))))
abbrev s_law_take : Stmt := PySem.Challenge.pw_noughtmeet_k95_whole_orientations_and_fo.main.body.getD 27 (.Pass ⟨0, 0, 0, 0⟩)
noncomputable def m_law_take : MS :=
  (sSeq (sSet 2 (mBor (mBin gMod (mCB gInt (mCons (mBin gIx (mVar 0) (mC (.int 0))) mNil)) (mVar 1))))
  (sSeq (sPut 0 (mBor (mCB gInt (mCons (mBin gDiv (mBin gIx (mVar 0) (mC (.int 0))) (mVar 1)) mNil))) (mC (.int 0)))
  (sSeq (sRet (mVar 2))
  sNx)))
theorem sc_law_take : FnScope ["state", "m", "x"] ["state", "m"] (defScope s_law_take) := ⟨rfl, rfl, rfl, by decide +kernel, rfl, by decide +kernel, by decide +kernel⟩
theorem ok_law_take {a : Ad} {P : Program} {w : World} {K : PySem.W.Frag} {mg : Str → Option Value} {base : Heap} (T : Tx a P w K mg base) {f : Addr} {fd : FuncData} (F : Fun K "_law_take" "_law_take" s_law_take f fd) :
    FnOk P w K mg base (L2.CX P w) (1) f fd ["state", "m"] (spM K mg 2 (mrun 3 (m_law_take))) := by
  have nd := (sc_law_take).nd
  exact fn_okM (k := 0) F sc_law_take (fun cdv A outer s H E hr =>
    (db_cons (ds_set (i := 2) (de_bor (de_op op_mod od_mod (de_ty call_int1 cd_int rfl T.b_int PyProof.Rows.Boot.«int» (da_cons (de_ix ix_seq opd_ix (de_var 0 (pv 0)) de_int (fun _ _ => rfl)) da_nil)) (de_var 1 (pv 1)))) (fun t ht => ps_set (i := 2) nd rfl (by first | exact Or.inl rfl | exact Or.inr rfl) ht))
    (db_cons (ds_putx (i := 0) (pv 0) (de_bor (de_ty call_int1 cd_int rfl T.b_int PyProof.Rows.Boot.«int» (da_cons (de_op op_fdiv od_div (de_ix ix_seq opd_ix (de_var 0 (pv 0)) de_int (fun _ _ => rfl)) (de_var 1 (pv 1))) da_nil))) de_int (fun t u ht hu => ps_asg ht (pg_sub (pv 0) hu set_list)))
    (db_cons (ds_ret (de_var 2 (pv 2)))
    db_nil))))
abbrev s_law_graph : Stmt := PySem.Challenge.pw_noughtmeet_k95_whole_orientations_and_fo.main.body.getD 28 (.Pass ⟨0, 0, 0, 0⟩)
noncomputable def m_law_graph (f_law_take : List Cell → FM) : MS :=
  (sSeq (sSetO 3 (mFl (mCB gLst mNil)))
  (sSeq (sFor (gNm 4) (mRng1 (mCons (mCallM 2 f_law_take (aLn 0 (aSh (mBin gAdd (mVar 2) (mC (.int 1))) aNil))) mNil)) (sSeq (sSet 5 (mCallM 2 f_law_take (aLn 0 (aSh (mVar 1) aNil))))
  (sSeq (sSet 6 (mCallM 2 f_law_take (aLn 0 (aSh (mVar 1) aNil))))
  (sSeq (sIf (mAnd (mB (mBin gEq (mVar 5) (mVar 6))) (mB (mBin gGt (mCallM 2 f_law_take (aLn 0 (aSh (mC (.int 4)) aNil))) (mC (.int 0))))) (sSeq (sSet 6 (mBin gMod (mCB gInt (mCons (mBin gAdd (mVar 5) (mC (.int 1))) mNil)) (mVar 1)))
  (sFg [] [])) (sFg [] []))
  (sSeq (sAppend 3 (mCB gTup (mCons (mVar 5) (mCons (mVar 6) mNil))))
  (sFg [] [4, 5, 6]))))))
  (sSeq (sRetV 3)
  sNx)))
theorem sc_law_graph : FnScope ["state", "nodes", "most", "edges", "k", "one", "two"] ["state", "nodes", "most"] (defScope s_law_graph) := ⟨rfl, rfl, rfl, by decide +kernel, rfl, by decide +kernel, by decide +kernel⟩
theorem ok_law_graph {a : Ad} {P : Program} {w : World} {K : PySem.W.Frag} {mg : Str → Option Value} {base : Heap} (T : Tx a P w K mg base) {f_law_take : List Cell → FM} (c_law_take : CalM P w K mg base 1 "_law_take" 2 f_law_take) {f : Addr} {fd : FuncData} (F : Fun K "_law_graph" "_law_graph" s_law_graph f fd) :
    FnOk P w K mg base (L2.CX P w) (2) f fd ["state", "nodes", "most"] (spM K mg 3 (mrun 7 (m_law_graph f_law_take))) := by
  have nd := (sc_law_graph).nd
  exact fn_okM (k := 1) F sc_law_graph (fun cdv A outer s H E hr =>
    (db_cons (ds_setO (i := 3) (do_lst da_nil) (fun t ht => ps_set (i := 3) nd rfl (by first | exact Or.inl rfl | exact Or.inr rfl) ht))
    (db_cons (ds_for (ix := [4]) (di_r1 rfl T.b_range (da_cons (de_clM c_law_take hr (by decide) rfl (takes_of rfl rfl rfl rfl) (dl_ln 0 (pv 0) (dl_sh (de_op op_add od_add (de_var 2 (pv 2)) de_int) dl_nil))) da_nil)) (dg_name (pg_name (i := 4) nd rfl (by first | exact Or.inl rfl | exact Or.inr rfl))) (db_cons (ds_set (i := 5) (de_clM c_law_take hr (by decide) rfl (takes_of rfl rfl rfl rfl) (dl_ln 0 (pv 0) (dl_sh (de_var 1 (pv 1)) dl_nil))) (fun t ht => ps_set (i := 5) nd rfl (by first | exact Or.inl rfl | exact Or.inr rfl) ht))
    (db_cons (ds_set (i := 6) (de_clM c_law_take hr (by decide) rfl (takes_of rfl rfl rfl rfl) (dl_ln 0 (pv 0) (dl_sh (de_var 1 (pv 1)) dl_nil))) (fun t ht => ps_set (i := 6) nd rfl (by first | exact Or.inl rfl | exact Or.inr rfl) ht))
    (db_cons (ds_if (DW.dt (dw_and (dt_cmp (op_eqD hr.units) opd_eq (de_var 5 (pv 5)) (de_var 6 (pv 6)) (nomark _)) (dw_and1 (dt_cmp op_gt od_gt (de_clM c_law_take hr (by decide) rfl (takes_of rfl rfl rfl rfl) (dl_ln 0 (pv 0) (dl_sh de_int dl_nil))) de_int (nomark _))))) (db_cons (ds_set (i := 6) (de_op op_mod od_mod (de_ty call_int1 cd_int rfl T.b_int PyProof.Rows.Boot.«int» (da_cons (de_op op_add od_add (de_var 5 (pv 5)) de_int) da_nil)) (de_var 1 (pv 1))) (fun t ht => ps_set (i := 6) nd rfl (by first | exact Or.inl rfl | exact Or.inr rfl) ht))
    (db_fg [] [])) (db_fg [] []))
    (db_cons (ds_append (i := 3) (pv 3) (de_tup (da_cons (de_var 5 (pv 5)) (da_cons (de_var 6 (pv 6)) da_nil))))
    (db_fg [] [4, 5, 6]))))) (fun wi u t h1 h2 h3 => ps_for (passes_of rfl) rfl h1 h2 h3))
    (db_cons (ds_retV (pv 3))
    db_nil))))
abbrev s_law_parts : Stmt := PySem.Challenge.pw_noughtmeet_k95_whole_orientations_and_fo.main.body.getD 29 (.Pass ⟨0, 0, 0, 0⟩)
noncomputable def m_law_parts : MS :=
  (sSeq (sSet 2 (mL (mFl (mLr1 (mVar 0)))))
  (sSeq (sFor (gTp 2 (gCons (gNm 3) (gCons (gNm 4) gNil))) (mItems (mVar 1)) (sSeq (sSet 5 (mCB gMin2 (mCons (mBin gIx (mVar 2) (mVar 3)) (mCons (mBin gIx (mVar 2) (mVar 4)) mNil))))
  (sSeq (sSet 6 (mCB gMax2 (mCons (mBin gIx (mVar 2) (mVar 3)) (mCons (mBin gIx (mVar 2) (mVar 4)) mNil))))
  (sSeq (sSetO 2 (mFl (mLc (gNm 7) (mItems (mVar 2)) mYes (mIf (mB (mBin gEq (mVar 7) (mVar 6))) (mVar 5) (mVar 7)) [7])))
  (sFg [2] [3, 4, 5, 6])))))
  (sSeq (sRet (mUn gLenSet (mVar 2)))
  sNx)))
theorem sc_law_parts : FnScope ["nodes", "edges", "names", "one", "two", "low", "high", "name"] ["nodes", "edges"] (defScope s_law_parts) := ⟨rfl, rfl, rfl, by decide +kernel, rfl, by decide +kernel, by decide +kernel⟩
theorem ok_law_parts {a : Ad} {P : Program} {w : World} {K : PySem.W.Frag} {mg : Str → Option Value} {base : Heap} (T : Tx a P w K mg base) {f : Addr} {fd : FuncData} (F : Fun K "_law_parts" "_law_parts" s_law_parts f fd) :
    FnOk P w K mg base (L2.CX P w) (1) f fd ["nodes", "edges"] (spF K mg 2 (frun 8 (m_law_parts))) := by
  have nd := (sc_law_parts).nd
  exact fn_ok (k := 0) F sc_law_parts (fun cdv A outer s H E hr =>
    (db_cons (ds_set (i := 2) (de_do (do_lr1 rfl rfl T.b_list rfl T.b_range (de_var 0 (pv 0)))) (fun t ht => ps_set (i := 2) nd rfl (by first | exact Or.inl rfl | exact Or.inr rfl) ht))
    (db_cons (ds_for (ix := [3, 4]) (di_list (de_var 1 (pv 1))) (dg_tup (dgs_cons (dg_name (pg_name (i := 3) nd rfl (by first | exact Or.inl rfl | exact Or.inr rfl))) (dgs_cons (dg_name (pg_name (i := 4) nd rfl (by first | exact Or.inl rfl | exact Or.inr rfl))) dgs_nil (fun h1 h2 => pgs_cons h1 h2)) (fun h1 h2 => pgs_cons h1 h2)) (fun t ht => pg_tup rfl ht)) (db_cons (ds_set (i := 5) (de_bi (call_min2 rfl) cd_min2 rfl T.b_min PyProof.Rows.Boot.«min» (da_cons (de_ix ix_seq opd_ix (de_var 2 (pv 2)) (de_var 3 (pv 3)) (fun _ _ => rfl)) (da_cons (de_ix ix_seq opd_ix (de_var 2 (pv 2)) (de_var 4 (pv 4)) (fun _ _ => rfl)) da_nil))) (fun t ht => ps_set (i := 5) nd rfl (by first | exact Or.inl rfl | exact Or.inr rfl) ht))
    (db_cons (ds_set (i := 6) (de_bi (call_max2 rfl) cd_max2 rfl T.b_max PyProof.Rows.Boot.«max» (da_cons (de_ix ix_seq opd_ix (de_var 2 (pv 2)) (de_var 3 (pv 3)) (fun _ _ => rfl)) (da_cons (de_ix ix_seq opd_ix (de_var 2 (pv 2)) (de_var 4 (pv 4)) (fun _ _ => rfl)) da_nil))) (fun t ht => ps_set (i := 6) nd rfl (by first | exact Or.inl rfl | exact Or.inr rfl) ht))
    (db_cons (ds_lcx (i := 2) (own := [("name", 7)]) (ix := [7]) rfl nd rfl rfl rfl rfl (by decide +kernel) (blkOk_by (own := [("name", 7)]) (by kernel_rfl)) (di_list (de_var 2 (pv 2))) (fun _ _ _ _ _ => (dg_name (pg_name (i := 7) nd rfl (by first | exact Or.inl rfl | exact Or.inr rfl)))) (fun _ _ _ _ _ => dts_nil) (fun _ _ _ _ _ => (de_if (dt_cmp (op_eqD hr.units) opd_eq (de_var 7 (pv 7)) (de_var 6 (pv 6)) (nomark _)) (de_var 5 (pv 5)) (de_var 7 (pv 7)))) (by decide))
    (db_fg [2] [3, 4, 5, 6])))) (fun wi u t h1 h2 h3 => ps_for (passes_of rfl) rfl h1 h2 h3))
    (db_cons (ds_ret (de_lenSet rfl T.b_len rfl T.b_set (de_var 2 (pv 2))))
    db_nil))))
abbrev s_law_chosen : Stmt := PySem.Challenge.pw_noughtmeet_k95_whole_orientations_and_fo.main.body.getD 30 (.Pass ⟨0, 0, 0, 0⟩)
noncomputable def m_law_chosen : MS :=
  (sSeq (sRetO (mFl (mLc (gNm 2) (mRng1 (mCons (mCB gLen (mCons (mVar 0) mNil)) mNil)) (mB (mBin gEq (mBin gMod (mCB gInt (mCons (mBin gShr (mVar 1) (mVar 2)) mNil)) (mC (.int 2))) (mC (.int 1)))) (mBin gIx (mVar 0) (mVar 2)) [2])))
  sNx)
theorem sc_law_chosen : FnScope ["edges", "number", "k"] ["edges", "number"] (defScope s_law_chosen) := ⟨rfl, rfl, rfl, by decide +kernel, rfl, by decide +kernel, by decide +kernel⟩
theorem ok_law_chosen {a : Ad} {P : Program} {w : World} {K : PySem.W.Frag} {mg : Str → Option Value} {base : Heap} (T : Tx a P w K mg base) {f : Addr} {fd : FuncData} (F : Fun K "_law_chosen" "_law_chosen" s_law_chosen f fd) :
    FnOk P w K mg base (L2.CX P w) (1) f fd ["edges", "number"] (spF K mg 2 (frun 3 (m_law_chosen))) := by
  have nd := (sc_law_chosen).nd
  exact fn_ok (k := 0) F sc_law_chosen (fun cdv A outer s H E hr =>
    (db_cons (ds_retO (do_lcx (own := [("k", 2)]) (ix := [2]) rfl nd (blkOk_by (own := [("k", 2)]) (by kernel_rfl)) (di_r1 rfl T.b_range (da_cons (de_bi call_len cd_len rfl T.b_len PyProof.Rows.Boot.«len» (da_cons (de_var 0 (pv 0)) da_nil)) da_nil)) (fun _ _ _ _ _ => (dg_name (pg_name (i := 2) nd rfl (by first | exact Or.inl rfl | exact Or.inr rfl)))) (fun _ _ _ _ _ => (dts_one (dt_cmp (op_eqD hr.units) opd_eq (de_op op_mod od_mod (de_ty call_int1 cd_int rfl T.b_int PyProof.Rows.Boot.«int» (da_cons (de_op op_shr od_shr (de_var 1 (pv 1)) (de_var 2 (pv 2))) da_nil)) de_int) de_int (nomark _)))) (fun _ _ _ _ _ => (de_ix ix_seq opd_ix (de_var 0 (pv 0)) (de_var 2 (pv 2)) (fun _ _ => rfl))) (by decide)))
    db_nil))
abbrev s_law_has_circle : Stmt := PySem.Challenge.pw_noughtmeet_k95_whole_orientations_and_fo.main.body.getD 31 (.Pass ⟨0, 0, 0, 0⟩)
noncomputable def m_law_has_circle : MS :=
  (sSeq (sSet 2 (mL (mFl (mLr1 (mVar 0)))))
  (sSeq (sSet 3 (mL (mFl (mCB gList (mCons (mVar 1) mNil)))))
  (sSeq (sFor (gNm 4) (mRng1 (mCons (mVar 0) mNil)) (sSeq (sSetO 5 (mFl (mLc (gNm 6) (mItems (mVar 2)) (mB (mBin gEq (mL (mFl (mLc (gNm 7) (mItems (mVar 3)) (mB (mBin gEq (mBin gIx (mVar 7) (mC (.int 1))) (mVar 6))) (mVar 7) [7]))) (mL (mFl (mCB gLst mNil))))) (mVar 6) [6])))
  (sSeq (sIf (mBorT (mB (mBin gEq (mVar 5) (mL (mFl (mCB gLst mNil)))))) (sSeq (sBkF [] [4, 5])
  sNx) (sFg [] []))
  (sSeq (sFrz 5 (sSetO 2 (mFl (mLc (gNm 6) (mItems (mVar 2)) (mB (mBin gNotIn (mVar 6) (mVar 5))) (mVar 6) [6]))))
  (sSeq (sSetO 3 (mFl (mLc (gNm 7) (mItems (mVar 3)) (mB (mBin gNotIn (mBin gIx (mVar 7) (mC (.int 0))) (mVar 5))) (mVar 7) [7])))
  (sFg [2, 3] [4, 5]))))))
  (sSeq (sRet (mBin gNe (mVar 2) (mL (mFl (mCB gLst mNil)))))
  sNx))))
theorem sc_law_has_circle : FnScope ["nodes", "pairs", "left", "arrows", "turn", "free", "node", "pair"] ["nodes", "pairs"] (defScope s_law_has_circle) := ⟨rfl, rfl, rfl, by decide +kernel, rfl, by decide +kernel, by decide +kernel⟩
theorem ok_law_has_circle {a : Ad} {P : Program} {w : World} {K : PySem.W.Frag} {mg : Str → Option Value} {base : Heap} (T : Tx a P w K mg base) {f : Addr} {fd : FuncData} (F : Fun K "_law_has_circle" "_law_has_circle" s_law_has_circle f fd) :
    FnOk P w K mg base (L2.CX P w) (1) f fd ["nodes", "pairs"] (spF K mg 2 (frun 8 (m_law_has_circle))) := by
  have nd := (sc_law_has_circle).nd
  exact fn_ok (k := 0) F sc_law_has_circle (fun cdv A outer s H E hr =>
    (db_cons (ds_set (i := 2) (de_do (do_lr1 rfl rfl T.b_list rfl T.b_range (de_var 0 (pv 0)))) (fun t ht => ps_set (i := 2) nd rfl (by first | exact Or.inl rfl | exact Or.inr rfl) ht))
    (db_cons (ds_set (i := 3) (de_do (do_ty call_list_of cl_list rfl T.b_list PyProof.Rows.Boot.«list» (da_cons (de_var 1 (pv 1)) da_nil))) (fun t ht => ps_set (i := 3) nd rfl (by first | exact Or.inl rfl | exact Or.inr rfl) ht))
    (db_cons (ds_for (ix := [4]) (di_r1 rfl T.b_range (da_cons (de_var 0 (pv 0)) da_nil)) (dg_name (pg_name (i := 4) nd rfl (by first | exact Or.inl rfl | exact Or.inr rfl))) (db_cons (ds_setO (i := 5) (do_lcx (own := [("node", 6)]) (ix := [6]) rfl nd (blkOk_by (own := [("node", 6)]) (by kernel_rfl)) (di_list (de_var 2 (pv 2))) (fun _ _ _ _ _ => (dg_name (pg_name (i := 6) nd rfl (by first | exact Or.inl rfl | exact Or.inr rfl)))) (fun _ _ _ _ _ => (dts_one (dt_cmp (op_eqD hr.units) opd_eq (de_do (do_lcx (own := [("pair", 7)]) (ix := [7]) rfl nd (blkOk_by (own := [("pair", 7)]) (by kernel_rfl)) (di_list (de_var 3 (pv 3))) (fun _ _ _ _ _ => (dg_name (pg_name (i := 7) nd rfl (by first | exact Or.inl rfl | exact Or.inr rfl)))) (fun _ _ _ _ _ => (dts_one (dt_cmp (op_eqD hr.units) opd_eq (de_ix ix_seq opd_ix (de_var 7 (pv 7)) de_int (fun _ _ => rfl)) (de_var 6 (pv 6)) (nomark _)))) (fun _ _ _ _ _ => (de_var 7 (pv 7))) (by decide))) (de_do (do_lst da_nil)) (nomark _)))) (fun _ _ _ _ _ => (de_var 6 (pv 6))) (by decide)) (fun t ht => ps_set (i := 5) nd rfl (by first | exact Or.inl rfl | exact Or.inr rfl) ht))
    (db_cons (ds_if (dt_bor (dt_cmp (op_eqD hr.units) opd_eq (de_var 5 (pv 5)) (de_do (do_lst da_nil)) (nomark _))) (db_cons (ds_bkF [] [4, 5])
    db_nil) (db_fg [] []))
    (db_cons (ds_frz' 5 (ds_lcx (i := 2) (own := [("node", 6)]) (ix := [6]) rfl nd rfl rfl rfl rfl (by decide +kernel) (blkOk_by (own := [("node", 6)]) (by kernel_rfl)) (di_list (de_var 2 (pv 2))) (fun _ _ _ _ _ => (dg_name (pg_name (i := 6) nd rfl (by first | exact Or.inl rfl | exact Or.inr rfl)))) (fun _ _ _ _ _ => (dts_one (dt_cmp op_notIn_seq opd_notin (de_var 6 (pv 6)) (de_var 5 (pv 5)) (by with_unfolding_all rfl)))) (fun _ _ _ _ _ => (de_var 6 (pv 6))) (by decide)))
    (db_cons (ds_setO (i := 3) (do_lcx (own := [("pair", 7)]) (ix := [7]) rfl nd (blkOk_by (own := [("pair", 7)]) (by kernel_rfl)) (di_list (de_var 3 (pv 3))) (fun _ _ _ _ _ => (dg_name (pg_name (i := 7) nd rfl (by first | exact Or.inl rfl | exact Or.inr rfl)))) (fun _ _ _ _ _ => (dts_one (dt_cmp op_notIn_seq opd_notin (de_ix ix_seq opd_ix (de_var 7 (pv 7)) de_int (fun _ _ => rfl)) (de_var 5 (pv 5)) (by with_unfolding_all rfl)))) (fun _ _ _ _ _ => (de_var 7 (pv 7))) (by decide)) (fun t ht => ps_set (i := 3) nd rfl (by first | exact Or.inl rfl | exact Or.inr rfl) ht))
    (db_fg [2, 3] [4, 5]))))) (fun wi u t h1 h2 h3 => ps_for (passes_of rfl) rfl h1 h2 h3))
    (db_cons (ds_ret (de_cmp (op_neD hr.units) opd_ne (de_var 2 (pv 2)) (de_do (do_lst da_nil)) (nomark _)))
    db_nil)))))
abbrev s_law : Stmt := PySem.Challenge.pw_noughtmeet_k95_whole_orientations_and_fo.main.body.getD 32 (.Pass ⟨0, 0, 0, 0⟩)
noncomputable def m_law (f_law_big : List D → FR) (f_law_take : List Cell → FM) (f_law_graph : List Cell → FM) (f_law_parts : List D → FR) (f_law_has_circle : List D → FR) (f_law_chosen : List D → FR) (f_tutte : List D → FR) (f_tutte_value : List D → FR) (f_law_same : List D → FR) (f_colour_row : List D → FR) (f_row_value : List D → FR) : MS :=
  (sSeq (sSetO 1 (mCallO 3 f_law_big (mCons (mVar 0) (mCons (mC (.int 0)) (mCons (mC (.int 8)) mNil)))))
  (sSeq (sSet 2 (mBin gAdd (mC (.int 1)) (mCallM 2 f_law_take (aLn 1 (aSh (mC (.int 6)) aNil)))))
  (sSeq (sSet 3 (mCallM 3 f_law_graph (aLn 1 (aSh (mVar 2) (aSh (mC (.int 7)) aNil)))))
  (sSeq (sSet 4 (mCall 2 f_law_parts (mCons (mVar 2) (mCons (mVar 3) mNil))))
  (sSeq (sSetO 5 (mFl (mCB gLst (mCons (mC (.int 0)) (mCons (mC (.int 0)) (mCons (mC (.int 0)) (mCons (mC (.int 0)) mNil)))))))
  (sSeq (sFor (gNm 6) (mRng1 (mCons (mBin gShl (mC (.int 1)) (mCB gLen (mCons (mVar 3) mNil))) mNil)) (sSeq (sSetO 7 (mFl (mLc (gNm 11) (mRng1 (mCons (mCB gLen (mCons (mVar 3) mNil)) mNil)) mYes (mIf (mB (mBin gEq (mBin gMod (mCB gInt (mCons (mBin gShr (mVar 6) (mVar 11)) mNil)) (mC (.int 2))) (mC (.int 0)))) (mBin gIx (mVar 3) (mVar 11)) (mCB gTup (mCons (mBin gIx (mBin gIx (mVar 3) (mVar 11)) (mC (.int 1))) (mCons (mBin gIx (mBin gIx (mVar 3) (mVar 11)) (mC (.int 0))) mNil)))) [11])))
  (sSeq (sPut 5 (mBor (mBin gAdd (mBin gIx (mVar 5) (mC (.int 0))) (mCB gInt (mCons (mNotV (mCall 2 f_law_has_circle (mCons (mVar 2) (mCons (mVar 7) mNil)))) mNil)))) (mC (.int 0)))
  (sSeq (sSet 8 (mCall 2 f_law_chosen (mCons (mVar 3) (mCons (mVar 6) mNil))))
  (sSeq (sSet 9 (mCall 2 f_law_parts (mCons (mVar 2) (mCons (mVar 8) mNil))))
  (sSeq (sSet 10 (mBin gEq (mBin gAdd (mVar 9) (mCB gLen (mCons (mVar 8) mNil))) (mVar 2)))
  (sSeq (sPut 5 (mBor (mBin gAdd (mBin gIx (mVar 5) (mC (.int 1))) (mCB gInt (mCons (mVar 10) mNil)))) (mC (.int 1)))
  (sSeq (sPut 5 (mBor (mBin gAdd (mBin gIx (mVar 5) (mC (.int 2))) (mCB gInt (mCons (mAndV (mVar 10) (mBin gEq (mVar 9) (mVar 4))) mNil)))) (mC (.int 2)))
  (sSeq (sPut 5 (mBor (mBin gAdd (mBin gIx (mVar 5) (mC (.int 3))) (mCB gInt (mCons (mBin gEq (mVar 9) (mVar 4)) mNil)))) (mC (.int 3)))
  (sFg [] [6, 7, 8, 9, 10]))))))))))
  (sSeq (sSet 12 (mCall 2 f_tutte (mCons (mVar 2) (mCons (mL (mFl (mCB gList (mCons (mVar 3) mNil)))) mNil))))
  (sSeq (sSet 13 (mL (mFl (mCB gLst (mCons (mCall 3 f_tutte_value (mCons (mVar 12) (mCons (mC (.int 2)) (mCons (mC (.int 0)) mNil)))) (mCons (mCall 3 f_tutte_value (mCons (mVar 12) (mCons (mC (.int 2)) (mCons (mC (.int 1)) mNil)))) (mCons (mCall 3 f_tutte_value (mCons (mVar 12) (mCons (mC (.int 1)) (mCons (mC (.int 1)) mNil)))) (mCons (mCall 3 f_tutte_value (mCons (mVar 12) (mCons (mC (.int 1)) (mCons (mC (.int 2)) mNil)))) mNil))))))))
  (sSeq (sIf (mBorT (mNot (mB (mCall 2 f_law_same (mCons (mVar 13) (mCons (mVar 5) mNil)))))) (sSeq (sRet (mC (.bl false)))
  sNx) (sFg [] []))
  (sSeq (sRet (mBor (mCall 2 f_law_same (mCons (mCall 2 f_row_value (mCons (mCall 2 f_colour_row (mCons (mVar 2) (mCons (mL (mFl (mCB gList (mCons (mVar 3) mNil)))) mNil))) (mCons (mUn gNeg (mC (.int 1))) mNil))) (mCons (mBin gMul (mBin gSub (mC (.int 1)) (mBin gMul (mC (.int 2)) (mCB gInt (mCons (mBin gMod (mCB gInt (mCons (mVar 2) mNil)) (mC (.int 2))) mNil)))) (mBin gIx (mVar 5) (mC (.int 0)))) mNil)))))
  sNx))))))))))
theorem sc_law : FnScope ["script", "state", "nodes", "edges", "parts", "counts", "number", "pairs", "chosen", "apart", "free", "k", "terms", "told"] ["script"] (defScope s_law) := ⟨rfl, rfl, rfl, by decide +kernel, rfl, by decide +kernel, by decide +kernel⟩
theorem ok_law {a : Ad} {P : Program} {w : World} {K : PySem.W.Frag} {mg : Str → Option Value} {base : Heap} (T : Tx a P w K mg base) {f_law_big : List D → FR} {f_law_take : List Cell → FM} {f_law_graph : List Cell → FM} {f_law_parts : List D → FR} {f_law_has_circle : List D → FR} {f_law_chosen : List D → FR} {f_tutte : List D → FR} {f_tutte_value : List D → FR} {f_law_same : List D → FR} {f_colour_row : List D → FR} {f_row_value : List D → FR} (c_law_big : CalN P w K mg base 2 "_law_big" 3 f_law_big) (c_law_take : CalM P w K mg base 1 "_law_take" 2 f_law_take) (c_law_graph : CalM P w K mg base 2 "_law_graph" 3 f_law_graph) (c_law_parts : CalN P w K mg base 1 "_law_parts" 2 f_law_parts) (c_law_has_circle : CalN P w K mg base 1 "_law_has_circle" 2 f_law_has_circle) (c_law_chosen : CalN P w K mg base 1 "_law_chosen" 2 f_law_chosen) (c_tutte : CalN P w K mg base 41 "tutte" 2 f_tutte) (c_tutte_value : CalN P w K mg base 2 "tutte_value" 3 f_tutte_value) (c_law_same : CalN P w K mg base 30 "_law_same" 2 f_law_same) (c_colour_row : CalN P w K mg base 42 "colour_row" 2 f_colour_row) (c_row_value : CalN P w K mg base 1 "row_value" 2 f_row_value) {f : Addr} {fd : FuncData} (F : Fun K "law" "law" s_law f fd) :
    FnOk P w K mg base (L2.CX P w) (43) f fd ["script"] (spF K mg 1 (frun 14 (m_law f_law_big f_law_take f_law_graph f_law_parts f_law_has_circle f_law_chosen f_tutte f_tutte_value f_law_same f_colour_row f_row_value))) := by
  have nd := (sc_law).nd
  exact fn_ok (k := 42) F sc_law (fun cdv A outer s H E hr =>
    (db_cons (ds_setO (i := 1) (do_cl c_law_big hr (by decide) rfl (takes_of rfl rfl rfl rfl) (da_cons (de_var 0 (pv 0)) (da_cons de_int (da_cons de_int da_nil)))) (fun t ht => ps_set (i := 1) nd rfl (by first | exact Or.inl rfl | exact Or.inr rfl) ht))
    (db_cons (ds_set (i := 2) (de_op op_add od_add de_int (de_clM c_law_take hr (by decide) rfl (takes_of rfl rfl rfl rfl) (dl_ln 1 (pv 1) (dl_sh de_int dl_nil)))) (fun t ht => ps_set (i := 2) nd rfl (by first | exact Or.inl rfl | exact Or.inr rfl) ht))
    (db_cons (ds_set (i := 3) (de_clM c_law_graph hr (by decide) rfl (takes_of rfl rfl rfl rfl) (dl_ln 1 (pv 1) (dl_sh (de_var 2 (pv 2)) (dl_sh de_int dl_nil)))) (fun t ht => ps_set (i := 3) nd rfl (by first | exact Or.inl rfl | exact Or.inr rfl) ht))
    (db_cons (ds_set (i := 4) (de_cl c_law_parts hr (by decide) rfl (takes_of rfl rfl rfl rfl) (da_cons (de_var 2 (pv 2)) (da_cons (de_var 3 (pv 3)) da_nil))) (fun t ht => ps_set (i := 4) nd rfl (by first | exact Or.inl rfl | exact Or.inr rfl) ht))
    (db_cons (ds_setO (i := 5) (do_lst (da_cons de_int (da_cons de_int (da_cons de_int (da_cons de_int da_nil))))) (fun t ht => ps_set (i := 5) nd rfl (by first | exact Or.inl rfl | exact Or.inr rfl) ht))
    (db_cons (ds_for (ix := [6]) (di_r1 rfl T.b_range (da_cons (de_op op_shl od_shl de_int (de_bi call_len cd_len rfl T.b_len PyProof.Rows.Boot.«len» (da_cons (de_var 3 (pv 3)) da_nil))) da_nil)) (dg_name (pg_name (i := 6) nd rfl (by first | exact Or.inl rfl | exact Or.inr rfl))) (db_cons (ds_lcx (i := 7) (own := [("k", 11)]) (ix := [11]) rfl nd rfl rfl rfl rfl (by decide +kernel) (blkOk_by (own := [("k", 11)]) (by kernel_rfl)) (di_r1 rfl T.b_range (da_cons (de_bi call_len cd_len rfl T.b_len PyProof.Rows.Boot.«len» (da_cons (de_var 3 (pv 3)) da_nil)) da_nil)) (fun _ _ _ _ _ => (dg_name (pg_name (i := 11) nd rfl (by first | exact Or.inl rfl | exact Or.inr rfl)))) (fun _ _ _ _ _ => dts_nil) (fun _ _ _ _ _ => (de_if (dt_cmp (op_eqD hr.units) opd_eq (de_op op_mod od_mod (de_ty call_int1 cd_int rfl T.b_int PyProof.Rows.Boot.«int» (da_cons (de_op op_shr od_shr (de_var 6 (pv 6)) (de_var 11 (pv 11))) da_nil)) de_int) de_int (nomark _)) (de_ix ix_seq opd_ix (de_var 3 (pv 3)) (de_var 11 (pv 11)) (fun _ _ => rfl)) (de_tup (da_cons (de_ix ix_seq opd_ix (de_ix ix_seq opd_ix (de_var 3 (pv 3)) (de_var 11 (pv 11)) (fun _ _ => rfl)) de_int (fun _ _ => rfl)) (da_cons (de_ix ix_seq opd_ix (de_ix ix_seq opd_ix (de_var 3 (pv 3)) (de_var 11 (pv 11)) (fun _ _ => rfl)) de_int (fun _ _ => rfl)) da_nil))))) (by decide))
    (db_cons (ds_putx (i := 5) (pv 5) (de_bor (de_op op_add od_add (de_ix ix_seq opd_ix (de_var 5 (pv 5)) de_int (fun _ _ => rfl)) (de_ty call_int1 cd_int rfl T.b_int PyProof.Rows.Boot.«int» (da_cons (de_not (de_cl c_law_has_circle hr (by decide) rfl (takes_of rfl rfl rfl rfl) (da_cons (de_var 2 (pv 2)) (da_cons (de_var 7 (pv 7)) da_nil)))) da_nil)))) de_int (fun t u ht hu => ps_asg ht (pg_sub (pv 5) hu set_list)))
    (db_cons (ds_set (i := 8) (de_cl c_law_chosen hr (by decide) rfl (takes_of rfl rfl rfl rfl) (da_cons (de_var 3 (pv 3)) (da_cons (de_var 6 (pv 6)) da_nil))) (fun t ht => ps_set (i := 8) nd rfl (by first | exact Or.inl rfl | exact Or.inr rfl) ht))
    (db_cons (ds_set (i := 9) (de_cl c_law_parts hr (by decide) rfl (takes_of rfl rfl rfl rfl) (da_cons (de_var 2 (pv 2)) (da_cons (de_var 8 (pv 8)) da_nil))) (fun t ht => ps_set (i := 9) nd rfl (by first | exact Or.inl rfl | exact Or.inr rfl) ht))
    (db_cons (ds_set (i := 10) (de_cmp (op_eqD hr.units) opd_eq (de_op op_add od_add (de_var 9 (pv 9)) (de_bi call_len cd_len rfl T.b_len PyProof.Rows.Boot.«len» (da_cons (de_var 8 (pv 8)) da_nil))) (de_var 2 (pv 2)) (nomark _)) (fun t ht => ps_set (i := 10) nd rfl (by first | exact Or.inl rfl | exact Or.inr rfl) ht))
    (db_cons (ds_putx (i := 5) (pv 5) (de_bor (de_op op_add od_add (de_ix ix_seq opd_ix (de_var 5 (pv 5)) de_int (fun _ _ => rfl)) (de_ty call_int1 cd_int rfl T.b_int PyProof.Rows.Boot.«int» (da_cons (de_var 10 (pv 10)) da_nil)))) de_int (fun t u ht hu => ps_asg ht (pg_sub (pv 5) hu set_list)))
    (db_cons (ds_putx (i := 5) (pv 5) (de_bor (de_op op_add od_add (de_ix ix_seq opd_ix (de_var 5 (pv 5)) de_int (fun _ _ => rfl)) (de_ty call_int1 cd_int rfl T.b_int PyProof.Rows.Boot.«int» (da_cons (de_and (de_var 10 (pv 10)) (de_one (de_cmp (op_eqD hr.units) opd_eq (de_var 9 (pv 9)) (de_var 4 (pv 4)) (nomark _)))) da_nil)))) de_int (fun t u ht hu => ps_asg ht (pg_sub (pv 5) hu set_list)))
    (db_cons (ds_putx (i := 5) (pv 5) (de_bor (de_op op_add od_add (de_ix ix_seq opd_ix (de_var 5 (pv 5)) de_int (fun _ _ => rfl)) (de_ty call_int1 cd_int rfl T.b_int PyProof.Rows.Boot.«int» (da_cons (de_cmp (op_eqD hr.units) opd_eq (de_var 9 (pv 9)) (de_var 4 (pv 4)) (nomark _)) da_nil)))) de_int (fun t u ht hu => ps_asg ht (pg_sub (pv 5) hu set_list)))
    (db_fg [] [6, 7, 8, 9, 10]))))))))) (fun wi u t h1 h2 h3 => ps_for (passes_of rfl) rfl h1 h2 h3))
    (db_cons (ds_set (i := 12) (de_cl c_tutte hr (by decide) rfl (takes_of rfl rfl rfl rfl) (da_cons (de_var 2 (pv 2)) (da_cons (de_do (do_ty call_list_of cl_list rfl T.b_list PyProof.Rows.Boot.«list» (da_cons (de_var 3 (pv 3)) da_nil))) da_nil))) (fun t ht => ps_set (i := 12) nd rfl (by first | exact Or.inl rfl | exact Or.inr rfl) ht))
    (db_cons (ds_set (i := 13) (de_do (do_lst (da_cons (de_cl c_tutte_value hr (by decide) rfl (takes_of rfl rfl rfl rfl) (da_cons (de_var 12 (pv 12)) (da_cons de_int (da_cons de_int da_nil)))) (da_cons (de_cl c_tutte_value hr (by decide) rfl (takes_of rfl rfl rfl rfl) (da_cons (de_var 12 (pv 12)) (da_cons de_int (da_cons de_int da_nil)))) (da_cons (de_cl c_tutte_value hr (by decide) rfl (takes_of rfl rfl rfl rfl) (da_cons (de_var 12 (pv 12)) (da_cons de_int (da_cons de_int da_nil)))) (da_cons (de_cl c_tutte_value hr (by decide) rfl (takes_of rfl rfl rfl rfl) (da_cons (de_var 12 (pv 12)) (da_cons de_int (da_cons de_int da_nil)))) da_nil)))))) (fun t ht => ps_set (i := 13) nd rfl (by first | exact Or.inl rfl | exact Or.inr rfl) ht))
    (db_cons (ds_if (dt_bor (dt_not (dt_val (de_cl c_law_same hr (by decide) rfl (takes_of rfl rfl rfl rfl) (da_cons (de_var 13 (pv 13)) (da_cons (de_var 5 (pv 5)) da_nil)))))) (db_cons (ds_ret de_bl)
    db_nil) (db_fg [] []))
    (db_cons (ds_ret (de_bor (de_cl c_law_same hr (by decide) rfl (takes_of rfl rfl rfl rfl) (da_cons (de_cl c_row_value hr (by decide) rfl (takes_of rfl rfl rfl rfl) (da_cons (de_cl c_colour_row hr (by decide) rfl (takes_of rfl rfl rfl rfl) (da_cons (de_var 2 (pv 2)) (da_cons (de_do (do_ty call_list_of cl_list rfl T.b_list PyProof.Rows.Boot.«list» (da_cons (de_var 3 (pv 3)) da_nil))) da_nil))) (da_cons (de_un un_neg und_neg de_int) da_nil))) (da_cons (de_op op_mul od_mul (de_op op_sub od_sub de_int (de_op op_mul od_mul de_int (de_ty call_int1 cd_int rfl T.b_int PyProof.Rows.Boot.«int» (da_cons (de_op op_mod od_mod (de_ty call_int1 cd_int rfl T.b_int PyProof.Rows.Boot.«int» (da_cons (de_var 2 (pv 2)) da_nil)) de_int) da_nil)))) (de_ix ix_seq opd_ix (de_var 5 (pv 5)) de_int (fun _ _ => rfl))) da_nil)))))
    db_nil)))))))))))
end K95
end

section
set_option Elab.async false
set_option linter.all false
set_option maxRecDepth 100000
set_option maxHeartbeats 4000000
namespace K95
open PySem No
noncomputable def q_check_graph : Int × (List (Int × Int)) × Unit → Tr Unit := fun p => match p with | (nodes, edges, _) => Ot.fnU ((Ot.bind (fun (s : Unit) => [.sh (Emb.e nodes), .sh (Emb.e edges), .no, .no]) ((tNotT' (tChn tLe tLe (Tr.ok (1 : Int)) (Tr.ok nodes) (Tr.ok (10 : Int)))).so fun c => if c = true then (.exc ⟨"InvalidTable", [("part", .str "nodes")]⟩) else .nx ()) (fun (sξ : Unit) => match sξ with | _ => (Ot.bind (fun (s : Unit) => [.sh (Emb.e nodes), .sh (Emb.e edges), .no, .no]) ((tb2 tGt (tb1 tLen (tPair (Tr.ok edges) (Tr.ok ()))) (Tr.ok (12 : Int))).so fun c => if c = true then (.exc ⟨"InvalidTable", [("part", .str "edges")]⟩) else .nx ()) (fun (sξ : Unit) => match sξ with | _ => (tFor (fun (s : Unit) => [.sh (Emb.e nodes), .sh (Emb.e edges), .no, .no]) (Tr.ok edges) (fun (xξ : Int × Int) (sξ : Unit) => match xξ, sξ with | edge, _ => (Ot.bind (fun (s : Unit) => [.sh (Emb.e nodes), .sh (Emb.e edges), .sh (Emb.e edge), .no]) ((tOrT (tb2 tNe (tb1 tLen2 (tPair (Tr.ok edge) (Tr.ok ()))) (Tr.ok (2 : Int))) (tb2 tNe (((Tr.ok edge).bind fun e => Tr.ok [e.1, e.2]).bind (lcQ fun (node : Int) => (tFil (tNotT' (tChn tLe tLt (Tr.ok (0 : Int)) (Tr.ok node) (Tr.ok nodes))) (Tr.ok node)))) (tLst (Tr.ok ([] : List Int))))).so fun c => if c = true then (.exc ⟨"InvalidTable", [("part", .str "edges")]⟩) else .nx ()) (fun (sξ : Unit) => match sξ with | _ => .nx ()))) () (fun (sξ : Unit) => match sξ with | _ => .nx ())))))))
noncomputable def q_part_numbers : Int × (List (Int × Int)) × Unit → Tr (List Int) := fun p => match p with | (nodes, edges, _) => Ot.fn (((tLr1 (Tr.ok nodes)).so fun found => (tFor (fun (s : (List Int)) => [.sh (Emb.e nodes), .sh (Emb.e edges), .sh (Emb.e s), .no, .no, .no, .no, .no]) (Tr.ok edges) (fun (xξ : Int × Int) (sξ : (List Int)) => match xξ, sξ with | ⟨one, two⟩, found => ((tb1 tMin2 (tPair (tb2 tIx (Tr.ok found) (Tr.ok one)) (tPair (tb2 tIx (Tr.ok found) (Tr.ok two)) (Tr.ok ())))).so fun low => ((tb1 tMax2 (tPair (tb2 tIx (Tr.ok found) (Tr.ok one)) (tPair (tb2 tIx (Tr.ok found) (Tr.ok two)) (Tr.ok ())))).so fun high => (((Tr.ok found).bind (lcQ fun (number : Int) => ((tIfE (tb2 tEq (Tr.ok number) (Tr.ok high)) (Tr.ok low) (Tr.ok number)).bind fun y => Tr.ok (some y)))).so fun found => .nx found)))) found (fun (sξ : (List Int)) => match sξ with | found => ((Tr.ok found).so fun a => .rt a)))))
noncomputable def q_count_parts : Int × (List (Int × Int)) × Unit → Tr Int := fun p => match p with | (nodes, edges, _) => Ot.fn (((tb1 tLenS2 ((tPair (Tr.ok nodes) (tPair (Tr.ok edges) (Tr.ok ()))).bind q_part_numbers)).so fun a => .rt a))
noncomputable def q_merged : Int × (List (Int × Int)) × (Int × Int) × Unit → Tr (Int × (List (Int × Int))) := fun p => match p with | (nodes, edges, edge, _) => Ot.fn (((tb1 tMin2 (tPair (tb2 tIx0 (Tr.ok edge) (Tr.ok (0 : Int))) (tPair (tb2 tIx1 (Tr.ok edge) (Tr.ok (1 : Int))) (Tr.ok ())))).so fun low => ((tb1 tMax2 (tPair (tb2 tIx0 (Tr.ok edge) (Tr.ok (0 : Int))) (tPair (tb2 tIx1 (Tr.ok edge) (Tr.ok (1 : Int))) (Tr.ok ())))).so fun high => ((tb2 tCat (tb2 tCat (tLr1 (Tr.ok high)) (tLst (tCons' (Tr.ok low) (Tr.ok ([] : List Int))))) (tLr2 (Tr.ok high) (tb2 tSub (Tr.ok nodes) (Tr.ok (1 : Int))))).so fun names => ((tb1 tTup2 (tPair (tb2 tSub (Tr.ok nodes) (Tr.ok (1 : Int))) (tPair ((Tr.ok edges).bind (lcQ fun (xξ : Int × Int) => match xξ with | ⟨one, two⟩ => ((tb1 tTup2 (tPair (tb2 tIx (Tr.ok names) (Tr.ok one)) (tPair (tb2 tIx (Tr.ok names) (Tr.ok two)) (Tr.ok ())))).bind fun y => Tr.ok (some y)))) (Tr.ok ())))).so fun a => .rt a)))))
noncomputable def q_is_bridge : Int × (List (Int × Int)) × Int × Unit → Tr Bool := fun p => match p with | (nodes, edges, place, _) => Ot.fn (((tb2 tGt ((tPair (Tr.ok nodes) (tPair (tb2 tCat (tSl (Tr.ok edges) (Tr.ok none) (tPart (Tr.ok place))) (tSl (Tr.ok edges) (tPart (tb2 tAdd (Tr.ok place) (Tr.ok (1 : Int)))) (Tr.ok none))) (Tr.ok ()))).bind q_count_parts) ((tPair (Tr.ok nodes) (tPair (Tr.ok edges) (Tr.ok ()))).bind q_count_parts)).so fun a => .rt a))
noncomputable def q_shifted_terms : (Dic (Int × Int) Int) × Int × Int × Unit → Tr (Dic (Int × Int) Int) := fun p => match p with | (terms, right, up, _) => Ot.fn (((Tr.ok (⟨[]⟩ : Dic (Int × Int) Int)).so fun found => (tFor (fun (s : (Dic (Int × Int) Int)) => [.sh (Emb.e terms), .sh (Emb.e right), .sh (Emb.e up), .ow false (EmbM.m s), .no, .no]) (tb1 tSortT (tPair (Tr.ok terms) (Tr.ok ()))) (fun (xξ : Int × Int) (sξ : (Dic (Int × Int) Int)) => match xξ, sξ with | ⟨one, two⟩, found => ((tb2 tDGet (Tr.ok terms) (tb1 tTup2 (tPair (Tr.ok one) (tPair (Tr.ok two) (Tr.ok ()))))).so fun aξ => (tb1 tTup2 (tPair (tb2 tAdd (Tr.ok one) (Tr.ok right)) (tPair (tb2 tAdd (Tr.ok two) (Tr.ok up)) (Tr.ok ())))).so fun zξ => (tDPut found zξ aξ).so fun found => .nx found)) found (fun (sξ : (Dic (Int × Int) Int)) => match sξ with | found => .rt found))))
noncomputable def q_joined_terms : (Dic (Int × Int) Int) × (Dic (Int × Int) Int) × Unit → Tr (Dic (Int × Int) Int) := fun p => match p with | (one, two, _) => Ot.fn (((if one.l.length ≤ sizeLine then Tr.ok (⟨copyT one.l 0⟩ : Dic (Int × Int) Int) else Tr.bad).so fun found => (tFor (fun (s : (Dic (Int × Int) Int)) => [.sh (Emb.e one), .sh (Emb.e two), .ow false (EmbM.m s), .no]) (tb1 tSortT (tPair (Tr.ok two) (Tr.ok ()))) (fun (xξ : Int × Int) (sξ : (Dic (Int × Int) Int)) => match xξ, sξ with | key, found => ((tBor (tb2 tAdd (tDGet2 (Tr.ok found) (Tr.ok key) (Tr.ok (0 : Int))) (tb2 tDGet (Tr.ok two) (Tr.ok key)))).so fun aξ => (Tr.ok key).so fun zξ => (tDPut found zξ aξ).so fun found => .nx found)) found (fun (sξ : (Dic (Int × Int) Int)) => match sξ with | found => .rt found))))
noncomputable def q_terms_of (g_terms_of : Int × (List (Int × Int)) × Unit → Tr (Dic (Int × Int) Int)) : Int × (List (Int × Int)) × Unit → Tr (Dic (Int × Int) Int) := fun p => match p with | (nodes, edges, _) => Ot.fn ((Ot.bind (fun (s : Unit) => [.sh (Emb.e nodes), .sh (Emb.e edges), .no, .no, .no, .no]) ((tb2 tEq (Tr.ok edges) (tLst (Tr.ok ([] : List (Int × Int))))).so fun c => if c = true then ((tDisp (tb1 tTup2 (tPair (Tr.ok (0 : Int)) (tPair (Tr.ok (0 : Int)) (Tr.ok ())))) (Tr.ok (1 : Int))).so fun a => .rt a) else .nx ()) (fun (sξ : Unit) => match sξ with | _ => ((tb2 tIx (Tr.ok edges) (tb1 tNeg (Tr.ok (1 : Int)))).so fun edge => ((tSl (Tr.ok edges) (Tr.ok none) (tPart (tb1 tNeg (Tr.ok (1 : Int))))).so fun rest => (Ot.bind (fun (s : Unit) => [.sh (Emb.e nodes), .sh (Emb.e edges), .sh (Emb.e edge), .sh (Emb.e rest), .no, .no]) ((tb2 tEq (tb2 tIx0 (Tr.ok edge) (Tr.ok (0 : Int))) (tb2 tIx1 (Tr.ok edge) (Tr.ok (1 : Int)))).so fun c => if c = true then (((tPair ((tPair (Tr.ok nodes) (tPair (Tr.ok rest) (Tr.ok ()))).bind g_terms_of) (tPair (Tr.ok (0 : Int)) (tPair (Tr.ok (1 : Int)) (Tr.ok ())))).bind q_shifted_terms).so fun a => .rt a) else .nx ()) (fun (sξ : Unit) => match sξ with | _ => (((tPair (Tr.ok nodes) (tPair (Tr.ok rest) (tPair (Tr.ok edge) (Tr.ok ())))).bind q_merged).so fun xξ => match xξ with | ⟨fewer, others⟩ => (Ot.bind (fun (s : Unit) => [.sh (Emb.e nodes), .sh (Emb.e edges), .sh (Emb.e edge), .sh (Emb.e rest), .sh (Emb.e fewer), .sh (Emb.e others)]) (((tPair (Tr.ok nodes) (tPair (Tr.ok edges) (tPair (tb2 tSub (tb1 tLen (tPair (Tr.ok edges) (Tr.ok ()))) (Tr.ok (1 : Int))) (Tr.ok ())))).bind q_is_bridge).so fun c => if c = true then (((tPair ((tPair (Tr.ok fewer) (tPair (Tr.ok others) (Tr.ok ()))).bind g_terms_of) (tPair (Tr.ok (1 : Int)) (tPair (Tr.ok (0 : Int)) (Tr.ok ())))).bind q_shifted_terms).so fun a => .rt a) else .nx ()) (fun (sξ : Unit) => match sξ with | _ => (((tPair ((tPair (Tr.ok nodes) (tPair (Tr.ok rest) (Tr.ok ()))).bind g_terms_of) (tPair ((tPair (Tr.ok fewer) (tPair (Tr.ok others) (Tr.ok ()))).bind g_terms_of) (Tr.ok ()))).bind q_joined_terms).so fun a => .rt a)))))))))))
noncomputable def fq_terms_of : Nat → Int × (List (Int × Int)) × Unit → Tr (Dic (Int × Int) Int)
  | 0 => fun _ => Tr.bad
  | n + 1 => q_terms_of (fq_terms_of n)
noncomputable def q_tutte : Int × (List (Int × Int)) × Unit → Tr (List (T3 Int Int Int)) := fun p => match p with | (nodes, edges, _) => Ot.fn ((((tPair (Tr.ok nodes) (tPair (Tr.ok edges) (Tr.ok ()))).bind q_check_graph).so fun _ => (((tPair (Tr.ok nodes) (tPair ((Tr.ok edges).bind (lcQ fun (xξ : Int × Int) => match xξ with | ⟨one, two⟩ => ((tb1 tTup2 (tPair (Tr.ok one) (tPair (Tr.ok two) (Tr.ok ())))).bind fun y => Tr.ok (some y)))) (Tr.ok ()))).bind (fq_terms_of 14)).so fun terms => (((tb1 tSortT (tPair (Tr.ok terms) (Tr.ok ()))).bind (lcQ fun (xξ : Int × Int) => match xξ with | ⟨one, two⟩ => ((tb1 tTup3 (tPair (Tr.ok one) (tPair (Tr.ok two) (tPair (tb2 tDGet (Tr.ok terms) (tb1 tTup2 (tPair (Tr.ok one) (tPair (Tr.ok two) (Tr.ok ()))))) (Tr.ok ()))))).bind fun y => Tr.ok (some y)))).so fun a => .rt a))))
noncomputable def q_integer_power : Int × Int × Unit → Tr Int := fun p => match p with | (number, count, _) => Ot.fn (((Tr.ok (1 : Int)).so fun found => (tFor (fun (s : Int) => [.sh (Emb.e number), .sh (Emb.e count), .sh (Emb.e s), .no]) (tRng1 (Tr.ok count)) (fun (xξ : Int) (sξ : Int) => match xξ, sξ with | u_, found => ((tb2 tMul (Tr.ok found) (Tr.ok number)).so fun found => .nx found)) found (fun (sξ : Int) => match sξ with | found => ((Tr.ok found).so fun a => .rt a)))))
noncomputable def q_tutte_value : (List (T3 Int Int Int)) × Int × Int × Unit → Tr Int := fun p => match p with | (terms, one, two, _) => Ot.fn (((tb1 tSum (tPair ((Tr.ok terms).bind (lcQ fun (xξ : T3 Int Int Int) => match xξ with | ⟨left, right, number⟩ => ((tb2 tMul (tb2 tMul (Tr.ok number) ((tPair (Tr.ok one) (tPair (Tr.ok left) (Tr.ok ()))).bind q_integer_power)) ((tPair (Tr.ok two) (tPair (Tr.ok right) (Tr.ok ()))).bind q_integer_power)).bind fun y => Tr.ok (some y)))) (Tr.ok ()))).so fun a => .rt a))
noncomputable def q_integer_times : (List Int) × (List Int) × Unit → Tr (List Int) := fun p => match p with | (one, two, _) => Ot.fn (((tb2 tRep (tLst (tCons' (Tr.ok (0 : Int)) (Tr.ok ([] : List Int)))) (tb1 tMax2 (tPair (Tr.ok (0 : Int)) (tPair (tb2 tSub (tb2 tAdd (tb1 tLen (tPair (Tr.ok one) (Tr.ok ()))) (tb1 tLen (tPair (Tr.ok two) (Tr.ok ())))) (Tr.ok (1 : Int))) (Tr.ok ()))))).so fun found => (tFor (fun (s : (List Int)) => [.sh (Emb.e one), .sh (Emb.e two), .ow false (EmbM.m s), .no, .no, .no, .no]) ((Tr.ok one).bind fun l => Tr.ok (enumI l)) (fun (xξ : Int × Int) (sξ : (List Int)) => match xξ, sξ with | ⟨place, left⟩, found => (tFor (fun (s : (List Int)) => [.sh (Emb.e one), .sh (Emb.e two), .ow false (EmbM.m s), .sh (Emb.e place), .sh (Emb.e left), .no, .no]) ((Tr.ok two).bind fun l => Tr.ok (enumI l)) (fun (xξ : Int × Int) (sξ : (List Int)) => match xξ, sξ with | ⟨offset, right⟩, found => (tAug found (fun a b : Int => a + b) (tb2 tAdd (Tr.ok place) (Tr.ok offset)) (tb2 tMul (Tr.ok left) (Tr.ok right)) fun found => .nx found)) found (fun (sξ : (List Int)) => match sξ with | found => .nx found))) found (fun (sξ : (List Int)) => match sξ with | found => .rt found))))
noncomputable def q_without_zeros : (List Int) × Unit → Tr (List Int) := fun p => match p with | (row, _) => Ot.fn (((tb1 tList (tPair (Tr.ok row) (Tr.ok ()))).so fun found => (tWhile (fun (s : (List Int)) => [.sh (Emb.e row), .ow false (EmbM.m s)]) (fun (sξ : (List Int)) => match sξ with | found => (tBor (tAndT (tb2 tNe (Tr.ok found) (tLst (Tr.ok ([] : List Int)))) (tb2 tEq (tb2 tIx (Tr.ok found) (tb1 tNeg (Tr.ok (1 : Int)))) (Tr.ok (0 : Int)))))) (fun (sξ : (List Int)) => match sξ with | found => ((if found.isEmpty = true then Tr.bad else Tr.ok found.dropLast).so fun found => .nx found)) found (fun (sξ : (List Int)) => match sξ with | found => .rt found))))
noncomputable def q_value_row : (List (Int × Int)) × Unit → Tr (List Int) := fun p => match p with | (pairs, _) => Ot.fn (((tLst (Tr.ok ([] : List Int))).so fun found => (tFor (fun (s : (List Int)) => [.sh (Emb.e pairs), .sh (Emb.e s), .no, .no, .no, .no, .no, .no, .no, .no, .no]) (Tr.ok pairs) (fun (xξ : Int × Int) (sξ : (List Int)) => match xξ, sξ with | ⟨exponent, number⟩, found => ((tLst (tCons' (Tr.ok number) (Tr.ok ([] : List Int)))).so fun row => (tFor (fun (s : (List Int)) => [.sh (Emb.e pairs), .sh (Emb.e found), .sh (Emb.e exponent), .sh (Emb.e number), .sh (Emb.e s), .no, .no, .no, .no, .no, .no]) (tRng1 (Tr.ok exponent)) (fun (xξ : Int) (sξ : (List Int)) => match xξ, sξ with | u_, row => (((tPair (Tr.ok row) (tPair (tLst (tCons' (Tr.ok (1 : Int)) (tCons' (tb1 tNeg (Tr.ok (1 : Int))) (Tr.ok ([] : List Int))))) (Tr.ok ()))).bind q_integer_times).so fun row => .nx row)) row (fun (sξ : (List Int)) => match sξ with | row => ((tb1 tMax2 (tPair (tb1 tLen (tPair (Tr.ok found) (Tr.ok ()))) (tPair (tb1 tLen (tPair (Tr.ok row) (Tr.ok ()))) (Tr.ok ())))).so fun longer => ((tb2 tCat (Tr.ok found) (tb2 tRep (tLst (tCons' (Tr.ok (0 : Int)) (Tr.ok ([] : List Int)))) (tb2 tSub (Tr.ok longer) (tb1 tLen (tPair (Tr.ok found) (Tr.ok ())))))).so fun left => ((tb2 tCat (Tr.ok row) (tb2 tRep (tLst (tCons' (Tr.ok (0 : Int)) (Tr.ok ([] : List Int)))) (tb2 tSub (Tr.ok longer) (tb1 tLen (tPair (Tr.ok row) (Tr.ok ())))))).so fun right => ((((Tr.ok left).bind fun l => Tr.ok (enumI l)).bind (lcQ fun (xξ : Int × Int) => match xξ with | ⟨place, entry⟩ => ((tb2 tAdd (Tr.ok entry) (tb2 tIx (Tr.ok right) (Tr.ok place))).bind fun y => Tr.ok (some y)))).so fun found => .nx found)))))))) found (fun (sξ : (List Int)) => match sξ with | found => ((Tr.ok found).so fun a => .rt a)))))
noncomputable def q_colour_row : Int × (List (Int × Int)) × Unit → Tr (List Int) := fun p => match p with | (nodes, edges, _) => Ot.fn ((((tPair (Tr.ok nodes) (tPair (Tr.ok edges) (Tr.ok ()))).bind q_tutte).so fun terms => (((tPair (Tr.ok nodes) (tPair (Tr.ok edges) (Tr.ok ()))).bind q_count_parts).so fun parts => (((tPair ((Tr.ok terms).bind (lcQ fun (xξ : T3 Int Int Int) => match xξ with | ⟨left, right, number⟩ => (tFil (tb2 tEq (Tr.ok right) (Tr.ok (0 : Int))) (tb1 tTup2 (tPair (Tr.ok left) (tPair (Tr.ok number) (Tr.ok ()))))))) (Tr.ok ())).bind q_value_row).so fun row => ((tb2 tSub (Tr.ok (1 : Int)) (tb2 tMul (Tr.ok (2 : Int)) (tb2 tBAnd (tb2 tSub (Tr.ok nodes) (Tr.ok parts)) (Tr.ok (1 : Int))))).so fun sign => (((tPair (tb2 tCat (tb2 tRep (tLst (tCons' (Tr.ok (0 : Int)) (Tr.ok ([] : List Int)))) (Tr.ok parts)) ((Tr.ok row).bind (lcQ fun (entry : Int) => ((tb2 tMul (Tr.ok sign) (Tr.ok entry)).bind fun y => Tr.ok (some y))))) (Tr.ok ())).bind q_without_zeros).so fun a => .rt a))))))
noncomputable def q_row_value : (List Int) × Int × Unit → Tr Int := fun p => match p with | (row, number, _) => Ot.fn (((Tr.ok (0 : Int)).so fun found => (tFor (fun (s : Int) => [.sh (Emb.e row), .sh (Emb.e number), .sh (Emb.e s), .no]) ((Tr.ok row).bind fun l => Tr.ok l.reverse) (fun (xξ : Int) (sξ : Int) => match xξ, sξ with | entry, found => ((tb2 tAdd (tb2 tMul (Tr.ok found) (Tr.ok number)) (Tr.ok entry)).so fun found => .nx found)) found (fun (sξ : Int) => match sξ with | found => ((Tr.ok found).so fun a => .rt a)))))
noncomputable def q_law_cell : Scr × Int × Unit → Tr Int := fun p => match p with | (script, k, _) => Ot.fn ((Ot.bind (fun (s : Unit) => [.sh (Emb.e script), .sh (Emb.e k), .no]) ((tAndT (tb2 tLt (Tr.ok k) (tb1 tLenS (tPair (Tr.ok script) (Tr.ok ())))) (tb2 tGe (tb2 tIxS (Tr.ok script) (Tr.ok k)) (tb2 tPow (Tr.ok (10 : Int)) (Tr.ok (9 : Int))))).so fun c => if c = true then ((tb2 tIxS (Tr.ok script) (Tr.ok k)).so fun a => .rt a) else .nx ()) (fun (sξ : Unit) => match sξ with | _ => ((tb2 tAdd (tb2 tMul (Tr.ok (7 : Int)) (Tr.ok k)) (Tr.ok (1 : Int))).so fun cell => (Ot.bind (fun (s : Int) => [.sh (Emb.e script), .sh (Emb.e k), .sh (Emb.e s)]) ((tb2 tGt (tb1 tLenS (tPair (Tr.ok script) (Tr.ok ()))) (Tr.ok (0 : Int))).so fun c => if c = true then ((tb2 tAdd (Tr.ok cell) (tb2 tMul (Tr.ok (31 : Int)) (tb2 tIxS (Tr.ok script) (tb2 tMod (tb1 tInt (tPair (Tr.ok k) (Tr.ok ()))) (tb1 tLenS (tPair (Tr.ok script) (Tr.ok ()))))))).so fun cell => .nx cell) else .nx cell) (fun (sξ : Int) => match sξ with | cell => ((tb2 tMod (tb1 tInt (tPair (tb2 tAdd (tb2 tMul (Tr.ok cell) (Tr.ok (48271 : Int))) (tb2 tMul (Tr.ok (69621 : Int)) (Tr.ok k))) (Tr.ok ()))) (Tr.ok (2147483647 : Int))).so fun cell => ((tb2 tMod (tb1 tInt (tPair (tb2 tAdd (tb2 tMul (Tr.ok cell) (Tr.ok (69621 : Int))) (tb2 tMul (Tr.ok (48271 : Int)) (tb2 tDiv (Tr.ok cell) (Tr.ok (1000 : Int))))) (Tr.ok ()))) (Tr.ok (2147483629 : Int))).so fun a => .rt a))))))))
noncomputable def q_law_same (g_law_same : D × D × Unit → Tr Bool) : D × D × Unit → Tr Bool := fun p => match p with | (told, due, _) => Ot.fn ((Ot.bind (fun (s : Unit) => [.sh (Emb.e told), .sh (Emb.e due), .no]) ((tOrT (tIsi isList (Tr.ok due)) (tIsi isTuple (Tr.ok due))).so fun c => if c = true then (Ot.bind (fun (s : Unit) => [.sh (Emb.e told), .sh (Emb.e due), .no]) ((tOrT (tAndT (tIsi isList (Tr.ok due)) (tNotT' (tIsi isList (Tr.ok told)))) (tAndT (tIsi isTuple (Tr.ok due)) (tNotT' (tIsi isTuple (Tr.ok told))))).so fun c => if c = true then ((Tr.ok false).so fun a => .rt a) else .nx ()) (fun (sξ : Unit) => match sξ with | _ => (Ot.bind (fun (s : Unit) => [.sh (Emb.e told), .sh (Emb.e due), .no]) ((tb2 tNe (tb1 tLenD (tPair (Tr.ok told) (Tr.ok ()))) (tb1 tLenD (tPair (Tr.ok due) (Tr.ok ())))).so fun c => if c = true then ((Tr.ok false).so fun a => .rt a) else .nx ()) (fun (sξ : Unit) => match sξ with | _ => ((tb2 tEq ((tRng1 (tb1 tLenD (tPair (Tr.ok due) (Tr.ok ())))).bind (lcQ fun (k : Int) => (tFil (tNotT' ((tPair (tb2 tIxD (Tr.ok told) (Tr.ok k)) (tPair (tb2 tIxD (Tr.ok due) (Tr.ok k)) (Tr.ok ()))).bind g_law_same)) (Tr.ok k)))) (tLst (Tr.ok ([] : List Int)))).so fun a => .rt a))))) else .nx ()) (fun (sξ : Unit) => match sξ with | _ => (Ot.bind (fun (s : Unit) => [.sh (Emb.e told), .sh (Emb.e due), .no]) ((tb2 tIsN (Tr.ok due) (Tr.ok ())).so fun c => if c = true then ((tb2 tIsN (Tr.ok told) (Tr.ok ())).so fun a => .rt a) else .nx ()) (fun (sξ : Unit) => match sξ with | _ => (Ot.bind (fun (s : Unit) => [.sh (Emb.e told), .sh (Emb.e due), .no]) ((tIsi isBool (Tr.ok due)).so fun c => if c = true then ((tAndT (tIsi isBool (Tr.ok told)) (tb2 tEqD (Tr.ok told) (Tr.ok due))).so fun a => .rt a) else .nx ()) (fun (sξ : Unit) => match sξ with | _ => (Ot.bind (fun (s : Unit) => [.sh (Emb.e told), .sh (Emb.e due), .no]) ((tIsi isStr (Tr.ok due)).so fun c => if c = true then ((tAndT (tIsi isStr (Tr.ok told)) (tb2 tEqD (Tr.ok told) (Tr.ok due))).so fun a => .rt a) else .nx ()) (fun (sξ : Unit) => match sξ with | _ => ((tAndT (tIsi isInt (Tr.ok told)) (tAndT (tNotT' (tIsi isBool (Tr.ok told))) (tb2 tEqD (Tr.ok told) (Tr.ok due)))).so fun a => .rt a))))))))))
noncomputable def fq_law_same : Nat → D × D × Unit → Tr Bool
  | 0 => fun _ => Tr.bad
  | n + 1 => q_law_same (fq_law_same n)
noncomputable def q_law_big : Scr × Int × Int × Unit → Tr (List Int) := fun p => match p with | (script, at_, count, _) => Ot.fn (((Tr.ok (0 : Int)).so fun found => (tFor (fun (s : Int) => [.sh (Emb.e script), .sh (Emb.e at_), .sh (Emb.e count), .sh (Emb.e s), .no]) (tRng1 (Tr.ok count)) (fun (xξ : Int) (sξ : Int) => match xξ, sξ with | k, found => ((tb2 tAdd (tb2 tMul (Tr.ok found) (Tr.ok (2147483648 : Int))) ((tPair (Tr.ok script) (tPair (tb2 tAdd (Tr.ok at_) (Tr.ok k)) (Tr.ok ()))).bind q_law_cell)).so fun found => .nx found)) found (fun (sξ : Int) => match sξ with | found => ((tLst (tCons' (Tr.ok found) (Tr.ok ([] : List Int)))).so fun a => .rt a)))))
noncomputable def q_law_take : List Int × Int × Unit → Tr (Int × List Int) := fun p => match p with | (state, m, _) => Ot.fn (((tBor (tb2 tMod (tb1 tInt (tPair (tb2 tIx (Tr.ok state) (Tr.ok (0 : Int))) (Tr.ok ()))) (Tr.ok m))).so fun x => ((tBor (tb1 tInt (tPair (tb2 tDiv (tb2 tIx (Tr.ok state) (Tr.ok (0 : Int))) (Tr.ok m)) (Tr.ok ())))).so fun aξ => (Tr.ok (0 : Int)).so fun zξ => (tPut state zξ aξ).so fun state => ((Tr.ok x).so fun a => .rt (a, state)))))
noncomputable def q_law_graph : List Int × Int × Int × Unit → Tr ((List (Int × Int)) × List Int) := fun p => match p with | (state, nodes, most, _) => Ot.fn (((tLst (Tr.ok ([] : List (Int × Int)))).so fun edges => (tForS (fun (s : (List Int) × (List (Int × Int))) => [.ow true (.fl (List.map D.int (s.1))), .sh (Emb.e nodes), .sh (Emb.e most), .ow false (EmbM.m (s.2)), .no, .no, .no]) (fun (state : List Int) => [.ow true (.fl (List.map D.int state)), .sh (Emb.e nodes), .sh (Emb.e most), .ow false (EmbM.m edges), .no, .no, .no]) (sRng1 (sCall q_law_take state (tPair (tb2 tAdd (Tr.ok most) (Tr.ok (1 : Int))) (Tr.ok ())))) (fun (xξ : Int) (sξ : (List Int) × (List (Int × Int))) => match xξ, sξ with | k, (state, edges) => (Tr.soS (fun (state : List Int) => [.ow true (.fl (List.map D.int state)), .sh (Emb.e nodes), .sh (Emb.e most), .ow false (EmbM.m edges), .sh (Emb.e k), .no, .no]) (sCall q_law_take state (tPair (Tr.ok nodes) (Tr.ok ()))) fun xξ => match xξ with | (one, state) => (Tr.soS (fun (state : List Int) => [.ow true (.fl (List.map D.int state)), .sh (Emb.e nodes), .sh (Emb.e most), .ow false (EmbM.m edges), .sh (Emb.e k), .sh (Emb.e one), .no]) (sCall q_law_take state (tPair (Tr.ok nodes) (Tr.ok ()))) fun xξ => match xξ with | (two, state) => (tIfS (fun (s : (List Int) × Int) => [.ow true (.fl (List.map D.int (s.1))), .sh (Emb.e nodes), .sh (Emb.e most), .ow false (EmbM.m edges), .sh (Emb.e k), .sh (Emb.e one), .sh (Emb.e (s.2))]) (fun (state : List Int) => [.ow true (.fl (List.map D.int state)), .sh (Emb.e nodes), .sh (Emb.e most), .ow false (EmbM.m edges), .sh (Emb.e k), .sh (Emb.e one), .sh (Emb.e two)]) (sAndT (pur state (tb2 tEq (Tr.ok one) (Tr.ok two))) (fun state => (sb2 tGt (sCall q_law_take state (tPair (Tr.ok (4 : Int)) (Tr.ok ()))) (fun state => (pur state (Tr.ok (0 : Int))))))) (fun state => ((tb2 tMod (tb1 tInt (tPair (tb2 tAdd (Tr.ok one) (Tr.ok (1 : Int))) (Tr.ok ()))) (Tr.ok nodes)).so fun two => .nx (state, two))) (fun state => .nx (state, two)) (fun (sξ : (List Int) × Int) => match sξ with | (state, two) => ((tb1 tTup2 (tPair (Tr.ok one) (tPair (Tr.ok two) (Tr.ok ())))).so fun aξ => (tApp edges aξ).so fun edges => .nx (state, edges))))))) (fun state => (state, edges)) (fun (sξ : (List Int) × (List (Int × Int))) => match sξ with | (state, edges) => .rt (edges, state)))))
noncomputable def q_law_parts : Int × (List (Int × Int)) × Unit → Tr Int := fun p => match p with | (nodes, edges, _) => Ot.fn (((tLr1 (Tr.ok nodes)).so fun names => (tFor (fun (s : (List Int)) => [.sh (Emb.e nodes), .sh (Emb.e edges), .sh (Emb.e s), .no, .no, .no, .no, .no]) (Tr.ok edges) (fun (xξ : Int × Int) (sξ : (List Int)) => match xξ, sξ with | ⟨one, two⟩, names => ((tb1 tMin2 (tPair (tb2 tIx (Tr.ok names) (Tr.ok one)) (tPair (tb2 tIx (Tr.ok names) (Tr.ok two)) (Tr.ok ())))).so fun low => ((tb1 tMax2 (tPair (tb2 tIx (Tr.ok names) (Tr.ok one)) (tPair (tb2 tIx (Tr.ok names) (Tr.ok two)) (Tr.ok ())))).so fun high => (((Tr.ok names).bind (lcQ fun (name : Int) => ((tIfE (tb2 tEq (Tr.ok name) (Tr.ok high)) (Tr.ok low) (Tr.ok name)).bind fun y => Tr.ok (some y)))).so fun names => .nx names)))) names (fun (sξ : (List Int)) => match sξ with | names => ((tb1 tLenS2 (Tr.ok names)).so fun a => .rt a)))))
noncomputable def q_law_chosen : (List (Int × Int)) × Int × Unit → Tr (List (Int × Int)) := fun p => match p with | (edges, number, _) => Ot.fn ((((tRng1 (tb1 tLen (tPair (Tr.ok edges) (Tr.ok ())))).bind (lcQ fun (k : Int) => (tFil (tb2 tEq (tb2 tMod (tb1 tInt (tPair (tb2 tShr (Tr.ok number) (Tr.ok k)) (Tr.ok ()))) (Tr.ok (2 : Int))) (Tr.ok (1 : Int))) (tb2 tIx (Tr.ok edges) (Tr.ok k))))).so fun a => .rt a))
noncomputable def q_law_has_circle : Int × (List (Int × Int)) × Unit → Tr Bool := fun p => match p with | (nodes, pairs, _) => Ot.fn (((tLr1 (Tr.ok nodes)).so fun left => ((tb1 tList (tPair (Tr.ok pairs) (Tr.ok ()))).so fun arrows => (tFor (fun (s : (List Int) × (List (Int × Int))) => [.sh (Emb.e nodes), .sh (Emb.e pairs), .sh (Emb.e (s.1)), .sh (Emb.e (s.2)), .no, .no, .no, .no]) (tRng1 (Tr.ok nodes)) (fun (xξ : Int) (sξ : (List Int) × (List (Int × Int))) => match xξ, sξ with | turn, (left, arrows) => (((Tr.ok left).bind (lcQ fun (node : Int) => (tFil (tb2 tEq ((Tr.ok arrows).bind (lcQ fun (pair : Int × Int) => (tFil (tb2 tEq (tb2 tIx1 (Tr.ok pair) (Tr.ok (1 : Int))) (Tr.ok node)) (Tr.ok pair)))) (tLst (Tr.ok ([] : List (Int × Int))))) (Tr.ok node)))).so fun free => (Ot.bind (fun (s : Unit) => [.sh (Emb.e nodes), .sh (Emb.e pairs), .sh (Emb.e left), .sh (Emb.e arrows), .sh (Emb.e turn), .ow false (EmbM.m free), .no, .no]) ((tBor (tb2 tEq (Tr.ok free) (tLst (Tr.ok ([] : List Int))))).so fun c => if c = true then .bk (left, arrows) else .nx ()) (fun (sξ : Unit) => match sξ with | _ => (((Tr.ok left).bind (lcQ fun (node : Int) => (tFil (tb2 tNotInL (Tr.ok node) (Tr.ok free)) (Tr.ok node)))).so fun left => (((Tr.ok arrows).bind (lcQ fun (pair : Int × Int) => (tFil (tb2 tNotInL (tb2 tIx0 (Tr.ok pair) (Tr.ok (0 : Int))) (Tr.ok free)) (Tr.ok pair)))).so fun arrows => .nx (left, arrows))))))) (left, arrows) (fun (sξ : (List Int) × (List (Int × Int))) => match sξ with | (left, arrows) => ((tb2 tNe (Tr.ok left) (tLst (Tr.ok ([] : List Int)))).so fun a => .rt a))))))
noncomputable def q_law : Scr × Unit → Tr Bool := fun p => match p with | (script, _) => Ot.fn ((((tPair (Tr.ok script) (tPair (Tr.ok (0 : Int)) (tPair (Tr.ok (8 : Int)) (Tr.ok ())))).bind q_law_big).so fun state => (Tr.soS (fun (state : List Int) => [.sh (Emb.e script), .ow false (.fl (List.map D.int state)), .no, .no, .no, .no, .no, .no, .no, .no, .no, .no, .no, .no]) (sb2 tAdd (pur state (Tr.ok (1 : Int))) (fun state => (sCall q_law_take state (tPair (Tr.ok (6 : Int)) (Tr.ok ()))))) fun xξ => match xξ with | (nodes, state) => (Tr.soS (fun (state : List Int) => [.sh (Emb.e script), .ow false (.fl (List.map D.int state)), .sh (Emb.e nodes), .no, .no, .no, .no, .no, .no, .no, .no, .no, .no, .no]) (sCall q_law_graph state (tPair (Tr.ok nodes) (tPair (Tr.ok (7 : Int)) (Tr.ok ())))) fun xξ => match xξ with | (edges, state) => (((tPair (Tr.ok nodes) (tPair (Tr.ok edges) (Tr.ok ()))).bind q_law_parts).so fun parts => ((tLst (tCons' (Tr.ok (0 : Int)) (tCons' (Tr.ok (0 : Int)) (tCons' (Tr.ok (0 : Int)) (tCons' (Tr.ok (0 : Int)) (Tr.ok ([] : List Int))))))).so fun counts => (tFor (fun (s : (List Int)) => [.sh (Emb.e script), .ow false (.fl (List.map D.int state)), .sh (Emb.e nodes), .sh (Emb.e edges), .sh (Emb.e parts), .ow false (EmbM.m s), .no, .no, .no, .no, .no, .no, .no, .no]) (tRng1 (tb2 tShl (Tr.ok (1 : Int)) (tb1 tLen (tPair (Tr.ok edges) (Tr.ok ()))))) (fun (xξ : Int) (sξ : (List Int)) => match xξ, sξ with | number, counts => (((tRng1 (tb1 tLen (tPair (Tr.ok edges) (Tr.ok ())))).bind (lcQ fun (k : Int) => ((tIfE (tb2 tEq (tb2 tMod (tb1 tInt (tPair (tb2 tShr (Tr.ok number) (Tr.ok k)) (Tr.ok ()))) (Tr.ok (2 : Int))) (Tr.ok (0 : Int))) (tb2 tIx (Tr.ok edges) (Tr.ok k)) (tb1 tTup2 (tPair (tb2 tIx1 (tb2 tIx (Tr.ok edges) (Tr.ok k)) (Tr.ok (1 : Int))) (tPair (tb2 tIx0 (tb2 tIx (Tr.ok edges) (Tr.ok k)) (Tr.ok (0 : Int))) (Tr.ok ()))))).bind fun y => Tr.ok (some y)))).so fun pairs => ((tBor (tb2 tAdd (tb2 tIx (Tr.ok counts) (Tr.ok (0 : Int))) (tb1 tIntB (tPair (tNotT' ((tPair (Tr.ok nodes) (tPair (Tr.ok pairs) (Tr.ok ()))).bind q_law_has_circle)) (Tr.ok ()))))).so fun aξ => (Tr.ok (0 : Int)).so fun zξ => (tPut counts zξ aξ).so fun counts => (((tPair (Tr.ok edges) (tPair (Tr.ok number) (Tr.ok ()))).bind q_law_chosen).so fun chosen => (((tPair (Tr.ok nodes) (tPair (Tr.ok chosen) (Tr.ok ()))).bind q_law_parts).so fun apart => ((tb2 tEq (tb2 tAdd (Tr.ok apart) (tb1 tLen (tPair (Tr.ok chosen) (Tr.ok ())))) (Tr.ok nodes)).so fun free => ((tBor (tb2 tAdd (tb2 tIx (Tr.ok counts) (Tr.ok (1 : Int))) (tb1 tIntB (tPair (Tr.ok free) (Tr.ok ()))))).so fun aξ => (Tr.ok (1 : Int)).so fun zξ => (tPut counts zξ aξ).so fun counts => ((tBor (tb2 tAdd (tb2 tIx (Tr.ok counts) (Tr.ok (2 : Int))) (tb1 tIntB (tPair (tAndT (Tr.ok free) (tb2 tEq (Tr.ok apart) (Tr.ok parts))) (Tr.ok ()))))).so fun aξ => (Tr.ok (2 : Int)).so fun zξ => (tPut counts zξ aξ).so fun counts => ((tBor (tb2 tAdd (tb2 tIx (Tr.ok counts) (Tr.ok (3 : Int))) (tb1 tIntB (tPair (tb2 tEq (Tr.ok apart) (Tr.ok parts)) (Tr.ok ()))))).so fun aξ => (Tr.ok (3 : Int)).so fun zξ => (tPut counts zξ aξ).so fun counts => .nx counts))))))))) counts (fun (sξ : (List Int)) => match sξ with | counts => (((tPair (Tr.ok nodes) (tPair (tb1 tList (tPair (Tr.ok edges) (Tr.ok ()))) (Tr.ok ()))).bind q_tutte).so fun terms => ((tLst (tCons' ((tPair (Tr.ok terms) (tPair (Tr.ok (2 : Int)) (tPair (Tr.ok (0 : Int)) (Tr.ok ())))).bind q_tutte_value) (tCons' ((tPair (Tr.ok terms) (tPair (Tr.ok (2 : Int)) (tPair (Tr.ok (1 : Int)) (Tr.ok ())))).bind q_tutte_value) (tCons' ((tPair (Tr.ok terms) (tPair (Tr.ok (1 : Int)) (tPair (Tr.ok (1 : Int)) (Tr.ok ())))).bind q_tutte_value) (tCons' ((tPair (Tr.ok terms) (tPair (Tr.ok (1 : Int)) (tPair (Tr.ok (2 : Int)) (Tr.ok ())))).bind q_tutte_value) (Tr.ok ([] : List Int))))))).so fun told => (Ot.bind (fun (s : Unit) => [.sh (Emb.e script), .ow false (.fl (List.map D.int state)), .sh (Emb.e nodes), .sh (Emb.e edges), .sh (Emb.e parts), .ow false (EmbM.m counts), .no, .no, .no, .no, .no, .no, .sh (Emb.e terms), .sh (Emb.e told)]) ((tBor (tNotT' ((tPair (Tr.ok told) (tPair (Tr.ok counts) (Tr.ok ()))).bind tSame))).so fun c => if c = true then ((Tr.ok false).so fun a => .rt a) else .nx ()) (fun (sξ : Unit) => match sξ with | _ => ((tBor ((tPair ((tPair ((tPair (Tr.ok nodes) (tPair (tb1 tList (tPair (Tr.ok edges) (Tr.ok ()))) (Tr.ok ()))).bind q_colour_row) (tPair (tb1 tNeg (Tr.ok (1 : Int))) (Tr.ok ()))).bind q_row_value) (tPair (tb2 tMul (tb2 tSub (Tr.ok (1 : Int)) (tb2 tMul (Tr.ok (2 : Int)) (tb1 tInt (tPair (tb2 tMod (tb1 tInt (tPair (Tr.ok nodes) (Tr.ok ()))) (Tr.ok (2 : Int))) (Tr.ok ()))))) (tb2 tIx (Tr.ok counts) (Tr.ok (0 : Int)))) (Tr.ok ()))).bind tSame)).so fun a => .rt a)))))))))))))
end K95
end

section
set_option Elab.async false
set_option linter.all false
set_option maxRecDepth 100000
set_option maxHeartbeats 4000000
namespace K95
open PySem No
theorem h_check_graph : ∀ p, SF (frun 4 (m_check_graph) (EmbL.l p)) (q_check_graph p) := fun (nodes, edges, _) =>
  sf_runU (pS := fun _ => [.sh (Emb.e nodes), .sh (Emb.e edges), .no, .no]) (pL := fun _ => [])
  (so_if (st_not (st_b (sp_chain sp_c (sp_var rfl) sp_c))) (so_raiseP rfl) (so_fg rfl) (fun _ =>
  (so_if (st_b (sp_bin (sp_cb (sh_cons (sp_var rfl) sh_nil)) sp_c)) (so_raiseP rfl) (so_fg rfl) (fun _ =>
  (so_fr (sa_items (sp_var rfl)) rfl (fun edge _ => ⟨_, rfl, (so_if (st_or (st_b (sp_bin (sp_cb (sh_cons (sp_var rfl) sh_nil)) sp_c)) (st_b (sp_bin (sp_L (sm_lcx (sa_pair (sp_var rfl)) rfl rfl (fun node => ⟨_, rfl, (lc_ts (st_not (st_b (sp_chain sp_c (sp_var rfl) (sp_var rfl)))) (sp_var rfl) rfl)⟩))) (sp_L (sm_lst sa_nil))))) (so_raiseP rfl) (so_fg rfl) (fun _ =>
  (so_fg rfl)))⟩) (fun _ =>
  so_nx))))))
theorem h_part_numbers : ∀ p, SF (frun 8 (m_part_numbers) (EmbL.l p)) (q_part_numbers p) := fun (nodes, edges, _) =>
  sf_run (pS := fun _ => []) (pL := fun _ => [])
  (so_set (sp_L (sm_lr1 (sp_var rfl))) fun found =>
  (so_fr (sa_items (sp_var rfl)) rfl (fun ⟨one, two⟩ found => ⟨_, rfl, (so_set (sp_cb (sh_cons (sp_bin (sp_var rfl) (sp_var rfl)) (sh_cons (sp_bin (sp_var rfl) (sp_var rfl)) sh_nil))) fun low =>
  (so_set (sp_cb (sh_cons (sp_bin (sp_var rfl) (sp_var rfl)) (sh_cons (sp_bin (sp_var rfl) (sp_var rfl)) sh_nil))) fun high =>
  (so_setO (sm_lcx (sa_items (sp_var rfl)) rfl rfl (fun number => ⟨_, rfl, (lc_el (sp_if (st_b (sp_bin (sp_var rfl) (sp_var rfl))) (sp_var rfl) (sp_var rfl)) rfl)⟩)) fun found =>
  (so_fg rfl))))⟩) (fun found =>
  (so_ret (sp_var rfl) fun a => .inl rfl))))
theorem h_count_parts {f_part_numbers : List D → FR} (h_part_numbers : ∀ p, SF (f_part_numbers (EmbL.l p)) (q_part_numbers p)) : ∀ p, SF (frun 2 (m_count_parts f_part_numbers) (EmbL.l p)) (q_count_parts p) := fun (nodes, edges, _) =>
  sf_run (pS := fun _ => []) (pL := fun _ => [])
  (so_ret (sp_un (sp_call (sh_cons (sp_var rfl) (sh_cons (sp_var rfl) sh_nil)) h_part_numbers)) fun a => .inl rfl)
theorem h_merged : ∀ p, SF (frun 8 (m_merged) (EmbL.l p)) (q_merged p) := fun (nodes, edges, edge, _) =>
  sf_run (pS := fun _ => []) (pL := fun _ => [])
  (so_set (sp_cb (sh_cons (sp_bin (sp_var rfl) sp_c) (sh_cons (sp_bin (sp_var rfl) sp_c) sh_nil))) fun low =>
  (so_set (sp_cb (sh_cons (sp_bin (sp_var rfl) sp_c) (sh_cons (sp_bin (sp_var rfl) sp_c) sh_nil))) fun high =>
  (so_set (sp_L (sm_bin (sp_L (sm_bin (sp_L (sm_lr1 (sp_var rfl))) (sp_L (sm_lst (sa_cons (sp_var rfl) sa_nil))))) (sp_L (sm_lr2 (sp_var rfl) (sp_bin (sp_var rfl) sp_c))))) fun names =>
  (so_ret (sp_cb (sh_cons (sp_bin (sp_var rfl) sp_c) (sh_cons (sp_L (sm_lcx (sa_items (sp_var rfl)) rfl rfl (fun ⟨one, two⟩ => ⟨_, rfl, (lc_el (sp_cb (sh_cons (sp_bin (sp_var rfl) (sp_var rfl)) (sh_cons (sp_bin (sp_var rfl) (sp_var rfl)) sh_nil))) rfl)⟩))) sh_nil))) fun a => .inl rfl))))
theorem h_is_bridge {f_count_parts : List D → FR} (h_count_parts : ∀ p, SF (f_count_parts (EmbL.l p)) (q_count_parts p)) : ∀ p, SF (frun 3 (m_is_bridge f_count_parts) (EmbL.l p)) (q_is_bridge p) := fun (nodes, edges, place, _) =>
  sf_run (pS := fun _ => []) (pL := fun _ => [])
  (so_ret (sp_bin (sp_call (sh_cons (sp_var rfl) (sh_cons (sp_L (sm_bin (sp_L (sm_sl (sp_var rfl) so_noP (so_part (sp_var rfl)))) (sp_L (sm_sl (sp_var rfl) (so_part (sp_bin (sp_var rfl) sp_c)) so_noP)))) sh_nil)) h_count_parts) (sp_call (sh_cons (sp_var rfl) (sh_cons (sp_var rfl) sh_nil)) h_count_parts)) fun a => .inl rfl)
theorem h_shifted_terms : ∀ p, SF (frun 6 (m_shifted_terms) (EmbL.l p)) (q_shifted_terms p) := fun (terms, right, up, _) =>
  sf_run (pS := fun _ => []) (pL := fun _ => [])
  (so_setO sm_newT fun found =>
  (so_fr (sa_items (sp_L (sm_cb (sh_cons (sp_var rfl) sh_nil)))) rfl (fun ⟨one, two⟩ found => ⟨_, rfl, (so_dput (sp_bin (sp_var rfl) (sp_cb (sh_cons (sp_var rfl) (sh_cons (sp_var rfl) sh_nil)))) (sp_cb (sh_cons (sp_bin (sp_var rfl) (sp_var rfl)) (sh_cons (sp_bin (sp_var rfl) (sp_var rfl)) sh_nil))) rfl fun found =>
  (so_fg rfl))⟩) (fun found =>
  (so_retV (a := found) rfl (.inr ⟨_, rfl, EmbM.d _⟩)))))
theorem h_joined_terms : ∀ p, SF (frun 4 (m_joined_terms) (EmbL.l p)) (q_joined_terms p) := fun (one, two, _) =>
  sf_run (pS := fun _ => []) (pL := fun _ => [])
  (so_setO (sm_dcopy rfl (Nat.le_of_ble_eq_true rfl) (by decide)) fun found =>
  (so_fr (sa_items (sp_L (sm_cb (sh_cons (sp_var rfl) sh_nil)))) rfl (fun key found => ⟨_, rfl, (so_dput (sp_bor (sp_bin (sp_dget2 (sp_var rfl) (sp_var rfl) sp_c) (sp_bin (sp_var rfl) (sp_var rfl)))) (sp_var rfl) rfl fun found =>
  (so_fg rfl))⟩) (fun found =>
  (so_retV (a := found) rfl (.inr ⟨_, rfl, EmbM.d _⟩)))))
theorem h_terms_of {f_terms_of : List D → FR} {f_shifted_terms : List D → FR} {f_merged : List D → FR} {f_is_bridge : List D → FR} {f_joined_terms : List D → FR} {g_terms_of : Int × (List (Int × Int)) × Unit → Tr (Dic (Int × Int) Int)} (h_terms_of : ∀ p, SF (f_terms_of (EmbL.l p)) (g_terms_of p)) (h_shifted_terms : ∀ p, SF (f_shifted_terms (EmbL.l p)) (q_shifted_terms p)) (h_merged : ∀ p, SF (f_merged (EmbL.l p)) (q_merged p)) (h_is_bridge : ∀ p, SF (f_is_bridge (EmbL.l p)) (q_is_bridge p)) (h_joined_terms : ∀ p, SF (f_joined_terms (EmbL.l p)) (q_joined_terms p)) : ∀ p, SF (frun 6 (m_terms_of f_terms_of f_shifted_terms f_merged f_is_bridge f_joined_terms) (EmbL.l p)) (q_terms_of g_terms_of p) := fun (nodes, edges, _) =>
  sf_run (pS := fun _ => []) (pL := fun _ => [])
  (so_if (st_b (sp_bin (sp_var rfl) (sp_L (sm_lst sa_nil)))) (so_retO (sm_disp1 (sp_cb (sh_cons sp_c (sh_cons sp_c sh_nil))) sp_c) fun a => (.inr ⟨_, rfl, EmbM.d _⟩)) (so_fg rfl) (fun _ =>
  (so_set (sp_bin (sp_var rfl) (sp_un sp_c)) fun edge =>
  (so_set (sp_L (sm_sl (sp_var rfl) so_noP (so_part (sp_un sp_c)))) fun rest =>
  (so_if (st_b (sp_bin (sp_bin (sp_var rfl) sp_c) (sp_bin (sp_var rfl) sp_c))) (so_ret (sp_call (sh_cons (sp_call (sh_cons (sp_var rfl) (sh_cons (sp_var rfl) sh_nil)) h_terms_of) (sh_cons sp_c (sh_cons sp_c sh_nil))) h_shifted_terms) fun a => .inl rfl) (so_fg rfl) (fun _ =>
  (so_asg (sp_call (sh_cons (sp_var rfl) (sh_cons (sp_var rfl) (sh_cons (sp_var rfl) sh_nil))) h_merged) fun ⟨fewer, others⟩ => ⟨_, rfl,
  (so_if (st_b (sp_call (sh_cons (sp_var rfl) (sh_cons (sp_var rfl) (sh_cons (sp_bin (sp_cb (sh_cons (sp_var rfl) sh_nil)) sp_c) sh_nil))) h_is_bridge)) (so_ret (sp_call (sh_cons (sp_call (sh_cons (sp_var rfl) (sh_cons (sp_var rfl) sh_nil)) h_terms_of) (sh_cons sp_c (sh_cons sp_c sh_nil))) h_shifted_terms) fun a => .inl rfl) (so_fg rfl) (fun _ =>
  (so_ret (sp_call (sh_cons (sp_call (sh_cons (sp_var rfl) (sh_cons (sp_var rfl) sh_nil)) h_terms_of) (sh_cons (sp_call (sh_cons (sp_var rfl) (sh_cons (sp_var rfl) sh_nil)) h_terms_of) sh_nil)) h_joined_terms) fun a => .inl rfl)))⟩)))))))
theorem h_tutte {f_check_graph : List D → FR} {f_terms_of : List D → FR} (h_check_graph : ∀ p, SF (f_check_graph (EmbL.l p)) (q_check_graph p)) (h_terms_of : ∀ p, SF (f_terms_of (EmbL.l p)) ((fq_terms_of 14) p)) : ∀ p, SF (frun 5 (m_tutte f_check_graph f_terms_of) (EmbL.l p)) (q_tutte p) := fun (nodes, edges, _) =>
  sf_run (pS := fun _ => []) (pL := fun _ => [])
  (so_drop (sp_call (sh_cons (sp_var rfl) (sh_cons (sp_var rfl) sh_nil)) h_check_graph) fun _ =>
  (so_set (sp_call (sh_cons (sp_var rfl) (sh_cons (sp_L (sm_lcx (sa_items (sp_var rfl)) rfl rfl (fun ⟨one, two⟩ => ⟨_, rfl, (lc_el (sp_cb (sh_cons (sp_var rfl) (sh_cons (sp_var rfl) sh_nil))) rfl)⟩))) sh_nil)) h_terms_of) fun terms =>
  (so_retO (sm_lcx (sa_items (sp_L (sm_cb (sh_cons (sp_var rfl) sh_nil)))) rfl rfl (fun ⟨one, two⟩ => ⟨_, rfl, (lc_el (sp_cb (sh_cons (sp_var rfl) (sh_cons (sp_var rfl) (sh_cons (sp_bin (sp_var rfl) (sp_cb (sh_cons (sp_var rfl) (sh_cons (sp_var rfl) sh_nil)))) sh_nil)))) rfl)⟩)) fun a => (.inr ⟨_, rfl, EmbM.d _⟩))))
theorem h_integer_power : ∀ p, SF (frun 4 (m_integer_power) (EmbL.l p)) (q_integer_power p) := fun (number, count, _) =>
  sf_run (pS := fun _ => []) (pL := fun _ => [])
  (so_set sp_c fun found =>
  (so_fr (sa_rng1 (sp_var rfl)) rfl (fun u_ found => ⟨_, rfl, (so_set (sp_bin (sp_var rfl) (sp_var rfl)) fun found =>
  (so_fg rfl))⟩) (fun found =>
  (so_ret (sp_var rfl) fun a => .inl rfl))))
theorem h_tutte_value {f_integer_power : List D → FR} (h_integer_power : ∀ p, SF (f_integer_power (EmbL.l p)) (q_integer_power p)) : ∀ p, SF (frun 6 (m_tutte_value f_integer_power) (EmbL.l p)) (q_tutte_value p) := fun (terms, one, two, _) =>
  sf_run (pS := fun _ => []) (pL := fun _ => [])
  (so_ret (sp_cb (sh_cons (sp_L (sm_lcx (sa_items (sp_var rfl)) rfl rfl (fun ⟨left, right, number⟩ => ⟨_, rfl, (lc_el (sp_bin (sp_bin (sp_var rfl) (sp_call (sh_cons (sp_var rfl) (sh_cons (sp_var rfl) sh_nil)) h_integer_power)) (sp_call (sh_cons (sp_var rfl) (sh_cons (sp_var rfl) sh_nil)) h_integer_power)) rfl)⟩))) sh_nil)) fun a => .inl rfl)
theorem h_integer_times : ∀ p, SF (frun 7 (m_integer_times) (EmbL.l p)) (q_integer_times p) := fun (one, two, _) =>
  sf_run (pS := fun _ => []) (pL := fun _ => [])
  (so_setO (sm_bin (sp_L (sm_lst (sa_cons sp_c sa_nil))) (sp_cb (sh_cons sp_c (sh_cons (sp_bin (sp_bin (sp_cb (sh_cons (sp_var rfl) sh_nil)) (sp_cb (sh_cons (sp_var rfl) sh_nil))) sp_c) sh_nil)))) fun found =>
  (so_fr (sa_enum (sp_var rfl)) rfl (fun ⟨place, left⟩ found => ⟨_, rfl, (so_fr (sa_enum (sp_var rfl)) rfl (fun ⟨offset, right⟩ found => ⟨_, rfl, (so_aug (sp_bin (sp_var rfl) (sp_var rfl)) (sp_bin (sp_var rfl) (sp_var rfl)) rfl fun found =>
  (so_fg rfl))⟩) (fun found =>
  (so_fg rfl)))⟩) (fun found =>
  (so_retV (a := found) rfl (.inr ⟨_, rfl, EmbM.d _⟩)))))
theorem h_without_zeros : ∀ p, SF (frun 2 (m_without_zeros) (EmbL.l p)) (q_without_zeros p) := fun (row, _) =>
  sf_run (pS := fun _ => []) (pL := fun _ => [])
  (so_setO (sm_cb (sh_cons (sp_var rfl) sh_nil)) fun found =>
  (so_whl rfl (fun found => (st_bor (st_and (st_b (sp_bin (sp_var rfl) (sp_L (sm_lst sa_nil)))) (st_b (sp_bin (sp_bin (sp_var rfl) (sp_un sp_c)) sp_c))))) (fun found => (so_popX rfl fun found =>
  (so_fg rfl))) (fun found =>
  (so_retV (a := found) rfl (.inr ⟨_, rfl, EmbM.d _⟩)))))
theorem h_value_row {f_integer_times : List D → FR} (h_integer_times : ∀ p, SF (f_integer_times (EmbL.l p)) (q_integer_times p)) : ∀ p, SF (frun 11 (m_value_row f_integer_times) (EmbL.l p)) (q_value_row p) := fun (pairs, _) =>
  sf_run (pS := fun _ => []) (pL := fun _ => [])
  (so_set (sp_L (sm_lst sa_nil)) fun found =>
  (so_fr (sa_items (sp_var rfl)) rfl (fun ⟨exponent, number⟩ found => ⟨_, rfl, (so_set (sp_L (sm_lst (sa_cons (sp_var rfl) sa_nil))) fun row =>
  (so_fr (sa_rng1 (sp_var rfl)) rfl (fun u_ row => ⟨_, rfl, (so_set (sp_call (sh_cons (sp_var rfl) (sh_cons (sp_L (sm_lst (sa_cons sp_c (sa_cons (sp_un sp_c) sa_nil)))) sh_nil)) h_integer_times) fun row =>
  (so_fg rfl))⟩) (fun row =>
  (so_set (sp_cb (sh_cons (sp_cb (sh_cons (sp_var rfl) sh_nil)) (sh_cons (sp_cb (sh_cons (sp_var rfl) sh_nil)) sh_nil))) fun longer =>
  (so_set (sp_L (sm_bin (sp_var rfl) (sp_L (sm_bin (sp_L (sm_lst (sa_cons sp_c sa_nil))) (sp_bin (sp_var rfl) (sp_cb (sh_cons (sp_var rfl) sh_nil))))))) fun left =>
  (so_set (sp_L (sm_bin (sp_var rfl) (sp_L (sm_bin (sp_L (sm_lst (sa_cons sp_c sa_nil))) (sp_bin (sp_var rfl) (sp_cb (sh_cons (sp_var rfl) sh_nil))))))) fun right =>
  (so_setO (sm_lcx (sa_enum (sp_var rfl)) rfl rfl (fun ⟨place, entry⟩ => ⟨_, rfl, (lc_el (sp_bin (sp_var rfl) (sp_bin (sp_var rfl) (sp_var rfl))) rfl)⟩)) fun found =>
  (so_fg rfl))))))))⟩) (fun found =>
  (so_ret (sp_var rfl) fun a => .inl rfl))))
theorem h_colour_row {f_tutte : List D → FR} {f_count_parts : List D → FR} {f_value_row : List D → FR} {f_without_zeros : List D → FR} (h_tutte : ∀ p, SF (f_tutte (EmbL.l p)) (q_tutte p)) (h_count_parts : ∀ p, SF (f_count_parts (EmbL.l p)) (q_count_parts p)) (h_value_row : ∀ p, SF (f_value_row (EmbL.l p)) (q_value_row p)) (h_without_zeros : ∀ p, SF (f_without_zeros (EmbL.l p)) (q_without_zeros p)) : ∀ p, SF (frun 10 (m_colour_row f_tutte f_count_parts f_value_row f_without_zeros) (EmbL.l p)) (q_colour_row p) := fun (nodes, edges, _) =>
  sf_run (pS := fun _ => []) (pL := fun _ => [])
  (so_set (sp_call (sh_cons (sp_var rfl) (sh_cons (sp_var rfl) sh_nil)) h_tutte) fun terms =>
  (so_set (sp_call (sh_cons (sp_var rfl) (sh_cons (sp_var rfl) sh_nil)) h_count_parts) fun parts =>
  (so_set (sp_call (sh_cons (sp_L (sm_lcx (sa_items (sp_var rfl)) rfl rfl (fun ⟨left, right, number⟩ => ⟨_, rfl, (lc_ts (st_b (sp_bin (sp_var rfl) sp_c)) (sp_cb (sh_cons (sp_var rfl) (sh_cons (sp_var rfl) sh_nil))) rfl)⟩))) sh_nil) h_value_row) fun row =>
  (so_set (sp_bin sp_c (sp_bin sp_c (sp_bin (sp_bin (sp_var rfl) (sp_var rfl)) sp_c))) fun sign =>
  (so_ret (sp_call (sh_cons (sp_L (sm_bin (sp_L (sm_bin (sp_L (sm_lst (sa_cons sp_c sa_nil))) (sp_var rfl))) (sp_L (sm_lcx (sa_items (sp_var rfl)) rfl rfl (fun entry => ⟨_, rfl, (lc_el (sp_bin (sp_var rfl) (sp_var rfl)) rfl)⟩))))) sh_nil) h_without_zeros) fun a => .inl rfl)))))
theorem h_row_value : ∀ p, SF (frun 4 (m_row_value) (EmbL.l p)) (q_row_value p) := fun (row, number, _) =>
  sf_run (pS := fun _ => []) (pL := fun _ => [])
  (so_set sp_c fun found =>
  (so_fr (sa_revL (sp_var rfl)) rfl (fun entry found => ⟨_, rfl, (so_set (sp_bin (sp_bin (sp_var rfl) (sp_var rfl)) (sp_var rfl)) fun found =>
  (so_fg rfl))⟩) (fun found =>
  (so_ret (sp_var rfl) fun a => .inl rfl))))
theorem h_law_cell : ∀ p, SF (frun 3 (m_law_cell) (EmbL.l p)) (q_law_cell p) := fun (script, k, _) =>
  sf_run (pS := fun _ => []) (pL := fun _ => [])
  (so_if (st_and (st_b (sp_bin (sp_var rfl) (sp_cb (sh_cons (sp_var rfl) sh_nil)))) (st_b (sp_bin (sp_bin (sp_var rfl) (sp_var rfl)) (sp_bin sp_c sp_c)))) (so_ret (sp_bin (sp_var rfl) (sp_var rfl)) fun a => .inl rfl) (so_fg rfl) (fun _ =>
  (so_set (sp_bin (sp_bin sp_c (sp_var rfl)) sp_c) fun cell =>
  (so_if (st_b (sp_bin (sp_cb (sh_cons (sp_var rfl) sh_nil)) sp_c)) (so_set (sp_bin (sp_var rfl) (sp_bin sp_c (sp_bin (sp_var rfl) (sp_bin (sp_cb (sh_cons (sp_var rfl) sh_nil)) (sp_cb (sh_cons (sp_var rfl) sh_nil)))))) fun cell =>
  (so_fg rfl)) (so_fg rfl) (fun cell =>
  (so_set (sp_bin (sp_cb (sh_cons (sp_bin (sp_bin (sp_var rfl) sp_c) (sp_bin sp_c (sp_var rfl))) sh_nil)) sp_c) fun cell =>
  (so_ret (sp_bin (sp_cb (sh_cons (sp_bin (sp_bin (sp_var rfl) sp_c) (sp_bin sp_c (sp_bin (sp_var rfl) sp_c))) sh_nil)) sp_c) fun a => .inl rfl)))))))
theorem h_law_same {f_law_same : List D → FR} {g_law_same : D × D × Unit → Tr Bool} (h_law_same : ∀ p, SF (f_law_same (EmbL.l p)) (g_law_same p)) : ∀ p, SF (frun 3 (m_law_same f_law_same) (EmbL.l p)) (q_law_same g_law_same p) := fun (told, due, _) =>
  sf_run (pS := fun _ => []) (pL := fun _ => [])
  (so_if (st_or (st_b (sp_isi (sp_var rfl))) (st_b (sp_isi (sp_var rfl)))) (so_if (st_or (st_and (st_b (sp_isi (sp_var rfl))) (st_not (st_b (sp_isi (sp_var rfl))))) (st_and (st_b (sp_isi (sp_var rfl))) (st_not (st_b (sp_isi (sp_var rfl)))))) (so_ret sp_c fun a => .inl rfl) (so_fg rfl) (fun _ =>
  (so_if (st_b (sp_bin (sp_cb (sh_cons (sp_var rfl) sh_nil)) (sp_cb (sh_cons (sp_var rfl) sh_nil)))) (so_ret sp_c fun a => .inl rfl) (so_fg rfl) (fun _ =>
  (so_ret (sp_bin (sp_L (sm_lcx (sa_rng1 (sp_cb (sh_cons (sp_var rfl) sh_nil))) rfl rfl (fun k => ⟨_, rfl, (lc_ts (st_not (st_b (sp_call (sh_cons (sp_bin (sp_var rfl) (sp_var rfl)) (sh_cons (sp_bin (sp_var rfl) (sp_var rfl)) sh_nil)) h_law_same))) (sp_var rfl) rfl)⟩))) (sp_L (sm_lst sa_nil))) fun a => .inl rfl))))) (so_fg rfl) (fun _ =>
  (so_if (st_b (sp_bin (sp_var rfl) sp_c)) (so_ret (sp_bin (sp_var rfl) sp_c) fun a => .inl rfl) (so_fg rfl) (fun _ =>
  (so_if (st_b (sp_isi (sp_var rfl))) (so_ret (sp_andV (sp_isi (sp_var rfl)) (sp_bin (sp_var rfl) (sp_var rfl))) fun a => .inl rfl) (so_fg rfl) (fun _ =>
  (so_if (st_b (sp_isi (sp_var rfl))) (so_ret (sp_andV (sp_isi (sp_var rfl)) (sp_bin (sp_var rfl) (sp_var rfl))) fun a => .inl rfl) (so_fg rfl) (fun _ =>
  (so_ret (sp_andV (sp_isi (sp_var rfl)) (sp_andV (sp_notV (sp_isi (sp_var rfl))) (sp_bin (sp_var rfl) (sp_var rfl)))) fun a => .inl rfl)))))))))
theorem h_law_big {f_law_cell : List D → FR} (h_law_cell : ∀ p, SF (f_law_cell (EmbL.l p)) (q_law_cell p)) : ∀ p, SFO (frun 5 (m_law_big f_law_cell) (EmbL.l p)) (q_law_big p) := fun (script, at_, count, _) =>
  sf_runO (pS := fun _ => []) (pL := fun _ => [])
  (so_set sp_c fun found =>
  (so_fr (sa_rng1 (sp_var rfl)) rfl (fun k found => ⟨_, rfl, (so_set (sp_bin (sp_bin (sp_var rfl) sp_c) (sp_call (sh_cons (sp_var rfl) (sh_cons (sp_bin (sp_var rfl) (sp_var rfl)) sh_nil)) h_law_cell)) fun found =>
  (so_fg rfl))⟩) (fun found =>
  (so_retO (sm_lst (sa_cons (sp_var rfl) sa_nil)) fun a => rfl))))
theorem h_law_take : ∀ st p, SFM (mrun 3 (m_law_take) (.ow true (.fl (st.map D.int)) :: (EmbL.l p).map Cell.sh)) (q_law_take (st, p)) (EmbL.l p) := fun state (m, _) =>
  sfm_run (pS := fun _ => []) (pL := fun _ => [])
  (so_set (sp_bor (sp_bin (sp_cb (sh_cons (sp_bin (sp_var rfl) sp_c) sh_nil)) (sp_var rfl))) fun x =>
  (so_put (sp_bor (sp_cb (sh_cons (sp_bin (sp_bin (sp_var rfl) sp_c) (sp_var rfl)) sh_nil))) sp_c rfl fun state =>
  (so_ret (sp_var rfl) fun a => ⟨.inl rfl, rfl, rfl⟩))) (Nat.le_of_ble_eq_true rfl)
theorem h_law_graph {f_law_take : List Cell → FM} (h_law_take : ∀ st p, SFM (f_law_take (.ow true (.fl (st.map D.int)) :: (EmbL.l p).map Cell.sh)) (q_law_take (st, p)) (EmbL.l p)) : ∀ st p, SFM (mrun 7 (m_law_graph f_law_take) (.ow true (.fl (st.map D.int)) :: (EmbL.l p).map Cell.sh)) (q_law_graph (st, p)) (EmbL.l p) := fun state (nodes, most, _) =>
  sfm_run (pS := fun _ => []) (pL := fun _ => [])
  (so_setO (sm_lst sa_nil) fun edges =>
  (so_fors (ss_rng1 (ss_call rfl (sg_cons (sp_bin (sp_var rfl) sp_c) sg_nil) h_law_take (fun _ => rfl) (fun _ => rfl))) (fun _ => rfl) (fun k (state, edges) => ⟨_, rfl, (so_setS (ss_call rfl (sg_cons (sp_var rfl) sg_nil) h_law_take (fun _ => rfl) (fun _ => rfl)) fun one state =>
  (so_setS (ss_call rfl (sg_cons (sp_var rfl) sg_nil) h_law_take (fun _ => rfl) (fun _ => rfl)) fun two state =>
  (so_ifs (ss_and (ss_pur (st_b (sp_bin (sp_var rfl) (sp_var rfl))) (fun _ => rfl)) (fun state => (ss_b (ss_bin (ss_call rfl (sg_cons sp_c sg_nil) h_law_take (fun _ => rfl) (fun _ => rfl)) (fun state => (ss_pur sp_c (fun _ => rfl))))))) (fun state => (so_set (sp_bin (sp_cb (sh_cons (sp_bin (sp_var rfl) sp_c) sh_nil)) (sp_var rfl)) fun two =>
  (so_fg rfl))) (fun state => (so_fg rfl)) (fun (state, two) =>
  (so_app (sp_cb (sh_cons (sp_var rfl) (sh_cons (sp_var rfl) sh_nil))) rfl fun edges =>
  (so_fg rfl))))))⟩) (fun (state, edges) =>
  (so_retV (a := edges) rfl ⟨(.inr ⟨_, rfl, EmbM.d _⟩), rfl, rfl⟩)))) (Nat.le_of_ble_eq_true rfl)
theorem h_law_parts : ∀ p, SF (frun 8 (m_law_parts) (EmbL.l p)) (q_law_parts p) := fun (nodes, edges, _) =>
  sf_run (pS := fun _ => []) (pL := fun _ => [])
  (so_set (sp_L (sm_lr1 (sp_var rfl))) fun names =>
  (so_fr (sa_items (sp_var rfl)) rfl (fun ⟨one, two⟩ names => ⟨_, rfl, (so_set (sp_cb (sh_cons (sp_bin (sp_var rfl) (sp_var rfl)) (sh_cons (sp_bin (sp_var rfl) (sp_var rfl)) sh_nil))) fun low =>
  (so_set (sp_cb (sh_cons (sp_bin (sp_var rfl) (sp_var rfl)) (sh_cons (sp_bin (sp_var rfl) (sp_var rfl)) sh_nil))) fun high =>
  (so_setO (sm_lcx (sa_items (sp_var rfl)) rfl rfl (fun name => ⟨_, rfl, (lc_el (sp_if (st_b (sp_bin (sp_var rfl) (sp_var rfl))) (sp_var rfl) (sp_var rfl)) rfl)⟩)) fun names =>
  (so_fg rfl))))⟩) (fun names =>
  (so_ret (sp_un (sp_var rfl)) fun a => .inl rfl))))
theorem h_law_chosen : ∀ p, SF (frun 3 (m_law_chosen) (EmbL.l p)) (q_law_chosen p) := fun (edges, number, _) =>
  sf_run (pS := fun _ => []) (pL := fun _ => [])
  (so_retO (sm_lcx (sa_rng1 (sp_cb (sh_cons (sp_var rfl) sh_nil))) rfl rfl (fun k => ⟨_, rfl, (lc_ts (st_b (sp_bin (sp_bin (sp_cb (sh_cons (sp_bin (sp_var rfl) (sp_var rfl)) sh_nil)) sp_c) sp_c)) (sp_bin (sp_var rfl) (sp_var rfl)) rfl)⟩)) fun a => (.inr ⟨_, rfl, EmbM.d _⟩))
theorem h_law_has_circle : ∀ p, SF (frun 8 (m_law_has_circle) (EmbL.l p)) (q_law_has_circle p) := fun (nodes, pairs, _) =>
  sf_run (pS := fun _ => []) (pL := fun _ => [])
  (so_set (sp_L (sm_lr1 (sp_var rfl))) fun left =>
  (so_set (sp_L (sm_cb (sh_cons (sp_var rfl) sh_nil))) fun arrows =>
  (so_fr (sa_rng1 (sp_var rfl)) rfl (fun turn (left, arrows) => ⟨_, rfl, (so_setO (sm_lcx (sa_items (sp_var rfl)) rfl rfl (fun node => ⟨_, rfl, (lc_ts (st_b (sp_bin (sp_L (sm_lcx (sa_items (sp_var rfl)) rfl rfl (fun pair => ⟨_, rfl, (lc_ts (st_b (sp_bin (sp_bin (sp_var rfl) sp_c) (sp_var rfl))) (sp_var rfl) rfl)⟩))) (sp_L (sm_lst sa_nil)))) (sp_var rfl) rfl)⟩)) fun free =>
  (so_if (st_bor (st_b (sp_bin (sp_var rfl) (sp_L (sm_lst sa_nil))))) (so_bkF rfl) (so_fg rfl) (fun _ =>
  (so_frz (so_setO (sm_lcx (sa_items (sp_var rfl)) rfl rfl (fun node => ⟨_, rfl, (lc_ts (st_b (sp_bin (sp_var rfl) (sp_var rfl))) (sp_var rfl) rfl)⟩)) fun left =>
  (so_setO (sm_lcx (sa_items (sp_var rfl)) rfl rfl (fun pair => ⟨_, rfl, (lc_ts (st_b (sp_bin (sp_bin (sp_var rfl) sp_c) (sp_var rfl))) (sp_var rfl) rfl)⟩)) fun arrows =>
  (so_fg rfl)))))))⟩) (fun (left, arrows) =>
  (so_ret (sp_bin (sp_var rfl) (sp_L (sm_lst sa_nil))) fun a => .inl rfl)))))
theorem h_law {f_law_big : List D → FR} {f_law_take : List Cell → FM} {f_law_graph : List Cell → FM} {f_law_parts : List D → FR} {f_law_has_circle : List D → FR} {f_law_chosen : List D → FR} {f_tutte : List D → FR} {f_tutte_value : List D → FR} {f_law_same : List D → FR} {f_colour_row : List D → FR} {f_row_value : List D → FR} (h_law_big : ∀ p, SFO (f_law_big (EmbL.l p)) (q_law_big p)) (h_law_take : ∀ st p, SFM (f_law_take (.ow true (.fl (st.map D.int)) :: (EmbL.l p).map Cell.sh)) (q_law_take (st, p)) (EmbL.l p)) (h_law_graph : ∀ st p, SFM (f_law_graph (.ow true (.fl (st.map D.int)) :: (EmbL.l p).map Cell.sh)) (q_law_graph (st, p)) (EmbL.l p)) (h_law_parts : ∀ p, SF (f_law_parts (EmbL.l p)) (q_law_parts p)) (h_law_has_circle : ∀ p, SF (f_law_has_circle (EmbL.l p)) (q_law_has_circle p)) (h_law_chosen : ∀ p, SF (f_law_chosen (EmbL.l p)) (q_law_chosen p)) (h_tutte : ∀ p, SF (f_tutte (EmbL.l p)) (q_tutte p)) (h_tutte_value : ∀ p, SF (f_tutte_value (EmbL.l p)) (q_tutte_value p)) (h_law_same : ∀ {α : Type} [Emb α] [DecidableEq α] (p : α × α × Unit), SF (f_law_same (EmbL.l p)) (tSame p)) (h_colour_row : ∀ p, SF (f_colour_row (EmbL.l p)) (q_colour_row p)) (h_row_value : ∀ p, SF (f_row_value (EmbL.l p)) (q_row_value p)) : ∀ p, SF (frun 14 (m_law f_law_big f_law_take f_law_graph f_law_parts f_law_has_circle f_law_chosen f_tutte f_tutte_value f_law_same f_colour_row f_row_value) (EmbL.l p)) (q_law p) := fun (script, _) =>
  sf_run (pS := fun _ => []) (pL := fun _ => [])
  (so_setO (sm_call (sh_cons (sp_var rfl) (sh_cons sp_c (sh_cons sp_c sh_nil))) h_law_big) fun state =>
  (so_setS (ss_bin (ss_pur sp_c (fun _ => rfl)) (fun state => (ss_call rfl (sg_cons sp_c sg_nil) h_law_take (fun _ => rfl) (fun _ => rfl)))) fun nodes state =>
  (so_setS (ss_call rfl (sg_cons (sp_var rfl) (sg_cons sp_c sg_nil)) h_law_graph (fun _ => rfl) (fun _ => rfl)) fun edges state =>
  (so_set (sp_call (sh_cons (sp_var rfl) (sh_cons (sp_var rfl) sh_nil)) h_law_parts) fun parts =>
  (so_setO (sm_lst (sa_cons sp_c (sa_cons sp_c (sa_cons sp_c (sa_cons sp_c sa_nil))))) fun counts =>
  (so_fr (sa_rng1 (sp_bin sp_c (sp_cb (sh_cons (sp_var rfl) sh_nil)))) rfl (fun number counts => ⟨_, rfl, (so_setO (sm_lcx (sa_rng1 (sp_cb (sh_cons (sp_var rfl) sh_nil))) rfl rfl (fun k => ⟨_, rfl, (lc_el (sp_if (st_b (sp_bin (sp_bin (sp_cb (sh_cons (sp_bin (sp_var rfl) (sp_var rfl)) sh_nil)) sp_c) sp_c)) (sp_bin (sp_var rfl) (sp_var rfl)) (sp_cb (sh_cons (sp_bin (sp_bin (sp_var rfl) (sp_var rfl)) sp_c) (sh_cons (sp_bin (sp_bin (sp_var rfl) (sp_var rfl)) sp_c) sh_nil)))) rfl)⟩)) fun pairs =>
  (so_put (sp_bor (sp_bin (sp_bin (sp_var rfl) sp_c) (sp_cb (sh_cons (sp_notV (sp_call (sh_cons (sp_var rfl) (sh_cons (sp_var rfl) sh_nil)) h_law_has_circle)) sh_nil)))) sp_c rfl fun counts =>
  (so_set (sp_call (sh_cons (sp_var rfl) (sh_cons (sp_var rfl) sh_nil)) h_law_chosen) fun chosen =>
  (so_set (sp_call (sh_cons (sp_var rfl) (sh_cons (sp_var rfl) sh_nil)) h_law_parts) fun apart =>
  (so_set (sp_bin (sp_bin (sp_var rfl) (sp_cb (sh_cons (sp_var rfl) sh_nil))) (sp_var rfl)) fun free =>
  (so_put (sp_bor (sp_bin (sp_bin (sp_var rfl) sp_c) (sp_cb (sh_cons (sp_var rfl) sh_nil)))) sp_c rfl fun counts =>
  (so_put (sp_bor (sp_bin (sp_bin (sp_var rfl) sp_c) (sp_cb (sh_cons (sp_andV (sp_var rfl) (sp_bin (sp_var rfl) (sp_var rfl))) sh_nil)))) sp_c rfl fun counts =>
  (so_put (sp_bor (sp_bin (sp_bin (sp_var rfl) sp_c) (sp_cb (sh_cons (sp_bin (sp_var rfl) (sp_var rfl)) sh_nil)))) sp_c rfl fun counts =>
  (so_fg rfl)))))))))⟩) (fun counts =>
  (so_set (sp_call (sh_cons (sp_var rfl) (sh_cons (sp_L (sm_cb (sh_cons (sp_var rfl) sh_nil))) sh_nil)) h_tutte) fun terms =>
  (so_set (sp_L (sm_lst (sa_cons (sp_call (sh_cons (sp_var rfl) (sh_cons sp_c (sh_cons sp_c sh_nil))) h_tutte_value) (sa_cons (sp_call (sh_cons (sp_var rfl) (sh_cons sp_c (sh_cons sp_c sh_nil))) h_tutte_value) (sa_cons (sp_call (sh_cons (sp_var rfl) (sh_cons sp_c (sh_cons sp_c sh_nil))) h_tutte_value) (sa_cons (sp_call (sh_cons (sp_var rfl) (sh_cons sp_c (sh_cons sp_c sh_nil))) h_tutte_value) sa_nil)))))) fun told =>
  (so_if (st_bor (st_not (st_b (sp_call (sh_cons (sp_var rfl) (sh_cons (sp_var rfl) sh_nil)) h_law_same)))) (so_ret sp_c fun a => .inl rfl) (so_fg rfl) (fun _ =>
  (so_ret (sp_bor (sp_call (sh_cons (sp_call (sh_cons (sp_call (sh_cons (sp_var rfl) (sh_cons (sp_L (sm_cb (sh_cons (sp_var rfl) sh_nil))) sh_nil)) h_colour_row) (sh_cons (sp_un sp_c) sh_nil)) h_row_value) (sh_cons (sp_bin (sp_bin sp_c (sp_bin sp_c (sp_cb (sh_cons (sp_bin (sp_cb (sh_cons (sp_var rfl) sh_nil)) sp_c) sh_nil)))) (sp_bin (sp_var rfl) sp_c)) sh_nil)) h_law_same)) fun a => .inl rfl))))))))))))end K95
end

section
set_option Elab.async false
set_option linter.all false
set_option maxRecDepth 100000
set_option maxHeartbeats 2000000
namespace K95
open PySem No
theorem no_o {S S' L τ : Type} {pk : S → En} {a b : Ot S L τ} {s : S} {K : S → Ot S' L τ} (hb : b = .nx s := by rfl) : Ot.bind pk ((Tr.ok false).so fun c => if c = true then a else b) K = K s := by
  rw [hb]
  rfl
theorem isi_ok [Emb α] (b : String → Bool) (x : α) (h : tyOk (Emb.e x) = true) : tIsi b (Tr.ok x) = .ok (b (tyN (Emb.e x))) := by
  show (if tyOk (Emb.e x) = true then _ else _) = _
  rw [if_pos h]
theorem same_seq (g : D × D × Unit → Tr Bool) (d : D) (l : List D) (hd : d = .lst l ∨ d = .tup l) (hz : l.length ≤ sizeLine) (h : ∀ x ∈ l, g (x, x, ()) = .ok true) : q_law_same g (d, d, ()) = .ok true := by
  have hz : l.length ≤ 16777216 := hz
  unfold q_law_same
  dsimp only
  have e1 : tOrT (tIsi isList (Tr.ok d)) (tIsi isTuple (Tr.ok d)) = .ok true := by rcases hd with rfl | rfl <;> rfl
  have e2 : tOrT (tAndT (tIsi isList (Tr.ok d)) (tNotT' (tIsi isList (Tr.ok d)))) (tAndT (tIsi isTuple (Tr.ok d)) (tNotT' (tIsi isTuple (Tr.ok d)))) = .ok false := by rcases hd with rfl | rfl <;> rfl
  have e3 : tb1 tLenD (tPair (Tr.ok d) (Tr.ok ())) = .ok (l.length : Int) := by rcases hd with rfl | rfl <;> rfl
  have e4 : lcQ (fun (k : Int) => (tFil (tNotT' ((tPair (tb2 tIxD (Tr.ok d) (Tr.ok k)) (tPair (tb2 tIxD (Tr.ok d) (Tr.ok k)) (Tr.ok ()))).bind g)) (Tr.ok k))) (uptoI 0 l.length) = .ok [] := by
    have := lcQ_fil (f := fun (k : Int) => (tFil (tNotT' ((tPair (tb2 tIxD (Tr.ok d) (Tr.ok k)) (tPair (tb2 tIxD (Tr.ok d) (Tr.ok k)) (Tr.ok ()))).bind g)) (Tr.ok k))) (fun _ => false) id (xs := uptoI 0 l.length) (by simp [uptoI]; omega) fun k hk => by
      unfold uptoI at hk
      obtain ⟨i, hi, rfl⟩ := List.mem_map.mp hk
      have hi := List.mem_range.mp hi
      have hx : tIxD d (0 + (i : Int)) = some l[i] := by
        rw [Int.zero_add]
        have := tIx_e (List.getElem?_eq_getElem hi)
        rcases hd with rfl | rfl <;> exact this
      rw [tb2_ok, hx, Tr.ofO_some, tPair_ok, tPair_ok, Tr.bind_ok, h _ (List.getElem_mem hi)]
      rfl
    rw [this]
    simp
  rw [e1, Tr.so_ok, if_pos rfl, e2, Tr.so_ok, if_neg (by decide), Ot.bind_nx, e3, tb2_ok, tNe_int, Tr.ofO_some, decide_eq_true rfl, Bool.not_true, Tr.so_ok, if_neg (by decide), Ot.bind_nx, tRng1_ok (by omega), Tr.bind_ok, e4]
  rfl
theorem same_flat (g : D × D × Unit → Tr Bool) : ∀ d : D, (match d with
    | .non => True
    | .bl _ => True
    | .int _ => True
    | .str s => okEq (.str s) = true
    | _ => False) → q_law_same g (d, d, ()) = .ok true
  | .non, _ => rfl
  | .bl b, _ => by cases b <;> rfl
  | .int i, _ => by
    have e : tEqD (.int i) (.int i) = some true := by
      unfold tEqD
      rw [if_pos ⟨(okN_int i).eq, (okN_int i).eq⟩, eqvD_int]
      simp
    unfold q_law_same
    dsimp only
    rw [show tOrT (tIsi isList (Tr.ok (D.int i))) (tIsi isTuple (Tr.ok (D.int i))) = .ok false from rfl, no_o, show tb2 tIsN (Tr.ok (D.int i)) (Tr.ok ()) = .ok false from rfl, no_o, show tIsi isBool (Tr.ok (D.int i)) = .ok false from rfl, no_o, show tIsi isStr (Tr.ok (D.int i)) = .ok false from rfl, no_o, tb2_ok, e]
    rfl
  | .str s, h => by
    have e : tEqD (.str s) (.str s) = some true := by
      unfold tEqD
      rw [if_pos ⟨h, h⟩, eqv_str]
      simp
    unfold q_law_same
    dsimp only
    rw [show tOrT (tIsi isList (Tr.ok (D.str s))) (tIsi isTuple (Tr.ok (D.str s))) = .ok false from rfl, no_o, show tb2 tIsN (Tr.ok (D.str s)) (Tr.ok ()) = .ok false from rfl, no_o, show tIsi isBool (Tr.ok (D.str s)) = .ok false from rfl, no_o, show tIsi isStr (Tr.ok (D.str s)) = .ok true from rfl, tb2_ok, e]
    rfl
  | .lst _, h => h.elim
  | .tup _, h => h.elim
  | .fz _, h => h.elim
  | .kt _, h => h.elim
  | .dT _, h => h.elim
  | .dK _, h => h.elim
  | .ob .., h => h.elim
theorem same_typed : ∀ (n : Nat) (d : D), pdB n d = true → fq_law_same (n + 1) (d, d, ()) = .ok true
  | n, .non, _ => same_flat _ _ trivial
  | n, .bl _, _ => same_flat _ _ trivial
  | n, .int _, _ => same_flat _ _ trivial
  | n, .str s, h => same_flat _ (.str s) (by cases n <;> exact h)
  | 0, .lst l, h => by cases h
  | 0, .tup l, h => by cases h
  | n + 1, .lst l, h => by
    have h : (decide (l.length ≤ sizeLine) && l.all (pdB n)) = true := h
    rw [Bool.and_eq_true, decide_eq_true_iff, List.all_eq_true] at h
    exact same_seq _ _ l (.inl rfl) h.1 fun x hx => same_typed n x (h.2 x hx)
  | n + 1, .tup l, h => by
    have h : (decide (l.length ≤ sizeLine) && l.all (pdB n)) = true := h
    rw [Bool.and_eq_true, decide_eq_true_iff, List.all_eq_true] at h
    exact same_seq _ _ l (.inr rfl) h.1 fun x hx => same_typed n x (h.2 x hx)
  | n, .fz _, h => by cases n <;> cases h
  | n, .kt _, h => by cases n <;> cases h
  | n, .dT _, h => by cases n <;> cases h
  | n, .dK _, h => by cases n <;> cases h
  | n, .ob .., h => by cases n <;> cases h
/-- what it hands back at anything and itself -/
theorem same_any {f : List D → FR} (h : ∀ p : D × D × Unit, SF (f (EmbL.l p)) (fq_law_same 5 p)) {α : Type} [Emb α] [DecidableEq α] (p : α × α × Unit) : SF (f (EmbL.l p)) (tSame p) := by
  obtain ⟨a, b, _⟩ := p
  unfold tSame
  by_cases c : a = b ∧ pdB 4 (Emb.e a) = true
  · rw [if_pos c]
    obtain ⟨rfl, c⟩ := c
    have := h (Emb.e a, Emb.e a, ())
    rw [same_typed 4 _ c] at this
    exact this
  · rw [if_neg c]
    trivial
end K95
end

section
set_option Elab.async false
set_option linter.all false
set_option maxRecDepth 100000
set_option maxHeartbeats 1000000
namespace K95
open PySem No Gp
/-! ### check_graph -/
def ckG (n : Nat) (es : List E) : Prop := 1 ≤ n ∧ n ≤ 10 ∧ es.length ≤ 12 ∧ InR n es
theorem ck_ok {n : Nat} {es : List E} (h : ckG n es) : q_check_graph (n, es, ()) = .ok () := by
  obtain ⟨h1, h2, h3, h4⟩ := h
  unfold q_check_graph
  dsimp only
  rw [tChn_ok tLe tLe 1 (n : Int) 10 (tLe_e _ _) (tLe_e _ _)]
  simp only [tNotT_ok, tb1_ok, tb2_ok, tPair_ok, tLen_e, Tr.ofO_some, tGt_e]
  rw [show (decide ((1 : Int) ≤ n) && decide ((n : Int) ≤ 10)) = true by simp; omega, show decide ((12 : Int) < (es.length : Int)) = false by simp; omega]
  simp only [Bool.not_true, Tr.so_ok, Bool.false_eq_true, if_false, Ot.bind_nx]
  rw [tFor_ok (s1 := ())]
  · rfl
  · refine (forO_map (g := fun _ _ => ()) fun e he s => ?_).trans ?_
    · have := h4 e he
      simp only [tLen2_e, Tr.bind_ok, Tr.ofO_some, tb2_ok, tNe_int, decide_true, Bool.not_true, tOrT_f, tLst_nil]
      rw [lcQ_fil (fun x : Int => !(decide (0 ≤ x) && decide (x < (n : Int)))) id (by simp) fun x _ => by
        rw [tChn_ok tLe tLt 0 x (n : Int) (tLe_e _ _) (tLt_e _ _)]
        simp only [tNotT_ok, tFil_ok, id]]
      rw [show List.map id (([e.1, e.2] : List Int).filter fun x : Int => !(decide (0 ≤ x) && decide (x < (n : Int)))) = [] by simp [List.filter_cons, this.1.1, this.1.2, this.2.1, this.2.2]]
      rfl
    · rfl
/-! ### parts -/
theorem foldl_lab (es : List E) : ∀ (f : Int → Int) (r : List E), f = labR r → es.foldl mg f = labR (es.reverse ++ r) := by
  induction es with
  | nil => intro f r h; exact h
  | cons e es ih =>
    intro f r h
    rw [List.foldl_cons, List.reverse_cons, List.append_assoc]
    exact ih _ (e :: r) (by rw [h]; rfl)
theorem lab_fold (es : List E) : es.foldl mg id = labR es.reverse := by
  have := foldl_lab es id [] rfl
  rwa [List.append_nil] at this
theorem up_get {n : Nat} {i : Int} (h0 : 0 ≤ i) (h : i < n) (f : Int → Int) : tIx ((up n).map f) i = some (f i) := by
  refine tIx_i h0 ?_
  rw [List.getElem?_map]
  unfold up uptoI
  rw [List.getElem?_map, List.getElem?_range (by omega)]
  simp only [Option.map_some, Option.some.injEq]
  congr 1
  omega
/-- both loops over edges, alike -/
theorem parts_loop {τ L : Type} {pk : List Int → En} {n : Nat} {es : List E} (h : InR n es) (hn : n ≤ 1000) {f : E → List Int → Ot (List Int) (List Int) τ}
    (hf : ∀ e ∈ es, ∀ g : Int → Int, f e ((up n).map g) = .nx ((up n).map (mg g e))) : (forO pk f es (up n) : Ot (List Int) L τ) = .nx ((up n).map (labR es.reverse)) := by
  have key : ∀ (es : List E), (∀ e ∈ es, ∀ g : Int → Int, f e ((up n).map g) = .nx ((up n).map (mg g e))) → ∀ g : Int → Int, (forO pk f es ((up n).map g) : Ot (List Int) L τ) = .nx ((up n).map (es.foldl mg g)) := by
    intro es
    induction es with
    | nil => intro _ g; rfl
    | cons e es ih =>
      intro hf g
      unfold forO
      rw [hf e List.mem_cons_self g]
      exact ih (fun a ha => hf a (List.mem_cons_of_mem _ ha)) (mg g e)
  have := key es hf id
  rw [lab_fold, List.map_id] at this
  exact this
theorem part_step {n : Nat} {e : E} (he : (0 ≤ e.1 ∧ e.1 < n) ∧ (0 ≤ e.2 ∧ e.2 < n)) (hn : n ≤ 1000) (g : Int → Int) :
    ((Tr.ok ((up n).map g)).bind (lcQ fun (number : Int) => ((tIfE (tb2 tEq (Tr.ok number) (Tr.ok (if g e.2 > g e.1 then g e.2 else g e.1))) (Tr.ok (if g e.2 < g e.1 then g e.2 else g e.1)) (Tr.ok number)).bind fun y => Tr.ok (some y)))) = .ok ((up n).map (mg g e)) := by
  rw [Tr.bind_ok, lcQ_map (g := fun z => if z = (if g e.2 > g e.1 then g e.2 else g e.1) then (if g e.2 < g e.1 then g e.2 else g e.1) else z) (by simp [len_up]; omega) fun x _ => by
    simp only [tb2_ok, tEq_int, Tr.ofO_some, tIfE_ok, Tr.bind_ok, decide_eq_true_eq], List.map_map]
  rfl
theorem tLr1_up {n : Nat} (h : n ≤ 1000) : tLr1 (.ok (n : Int)) = .ok (up n) := tLr1_ok h
theorem pn_ok {n : Nat} {es : List E} (h : InR n es) (hn : n ≤ 1000) : q_part_numbers (n, es, ()) = .ok ((up n).map (labR es.reverse)) := by
  unfold q_part_numbers
  dsimp only
  rw [tLr1_up hn, Tr.so_ok, tFor_ok (parts_loop h hn fun e he g => ?_)]
  · rfl
  · have := h e he
    simp only [tb2_ok, up_get this.1.1 this.1.2, up_get this.2.1 this.2.2, Tr.ofO_some, tPair_ok, tb1_ok, tMin2_e, tMax2_e, Tr.so_ok]
    exact congrArg (fun q : Tr (List Int) => q.so fun found => Ot.nx found) (part_step this hn g)
theorem lenS2_ok {n : Nat} (f : Int → Int) (hn : n ≤ 1000) : tLenS2 ((up n).map f) = some (dc ((up n).map f) : Int) := by
  unfold tLenS2
  rw [if_pos (by simp [len_up]; omega), metLen_dc]
theorem cp_ok {n : Nat} {es : List E} (h : InR n es) (hn : n ≤ 1000) : q_count_parts (n, es, ()) = .ok (cN n es.reverse : Int) := by
  unfold q_count_parts
  dsimp only
  rw [show (tPair (Tr.ok (n : Int)) (tPair (Tr.ok es) (Tr.ok ()))).bind q_part_numbers = q_part_numbers (n, es, ()) from rfl, pn_ok h hn, tb1_ok, lenS2_ok _ hn]
  rfl
theorem lp_ok {n : Nat} {es : List E} (h : InR n es) (hn : n ≤ 1000) : q_law_parts (n, es, ()) = .ok (cN n es.reverse : Int) := by
  unfold q_law_parts
  dsimp only
  rw [tLr1_up hn, Tr.so_ok, tFor_ok (parts_loop h hn fun e he g => ?_)]
  · rw [tb1_ok, lenS2_ok _ hn]
    rfl
  · have := h e he
    simp only [tb2_ok, up_get this.1.1 this.1.2, up_get this.2.1 this.2.2, Tr.ofO_some, tPair_ok, tb1_ok, tMin2_e, tMax2_e, Tr.so_ok]
    exact congrArg (fun q : Tr (List Int) => q.so fun found => Ot.nx found) (part_step this hn g)
end K95
end

section
set_option Elab.async false
set_option linter.all false
set_option maxRecDepth 100000
set_option maxHeartbeats 1000000
namespace K95
open PySem No Gp
/-! ### merged, is_bridge -/
def loE (e : E) : Int := if e.2 < e.1 then e.2 else e.1
def hiE (e : E) : Int := if e.2 > e.1 then e.2 else e.1
theorem loE_hiE {e : E} (h : e.1 ≠ e.2) : loE e < hiE e ∧ (e = (loE e, hiE e) ∨ e = (hiE e, loE e)) := by
  unfold loE hiE
  obtain ⟨a, b⟩ := e
  have h : a ≠ b := h
  by_cases c : b < a
  · have c2 : ¬ b > a := by omega
    simp only [if_pos c, if_neg c2]
    exact ⟨c, .inr trivial⟩
  · have c2 : b > a := by omega
    simp only [if_neg c, if_pos c2]
    exact ⟨c2, .inl trivial⟩
def mge (e : E) (es : List E) : List E := mapE (piM (hiE e) (loE e)) es
theorem uptoI_get (lo : Int) {n i : Nat} (h : i < n) : (uptoI lo n)[i]? = some (lo + i) := by
  unfold uptoI
  rw [List.getElem?_map, List.getElem?_range h]
  rfl
theorem uptoI_len (lo : Int) (n : Nat) : (uptoI lo n).length = n := by simp [uptoI]
theorem names_get {hi lo : Int} {h k : Nat} (hh : hi = h) {i : Int} (h0 : 0 ≤ i) (hi' : i < (h + 1 + k : Nat)) : tIx (uptoI 0 h ++ [lo] ++ uptoI hi k) i = some (piM hi lo i) := by
  refine tIx_i h0 ?_
  unfold piM
  by_cases c1 : i < hi
  · rw [if_pos c1, List.append_assoc, List.getElem?_append_left (by rw [uptoI_len]; omega), uptoI_get 0 (by omega)]
    congr 1
    omega
  · rw [if_neg c1]
    by_cases c2 : i = hi
    · rw [if_pos c2, List.append_assoc, List.getElem?_append_right (by rw [uptoI_len]; omega), uptoI_len, show i.toNat - h = 0 by omega]
      rfl
    · rw [if_neg c2, List.getElem?_append_right (by simp [uptoI_len]; omega)]
      have : (uptoI 0 h ++ [lo]).length = h + 1 := by simp [uptoI_len]
      rw [this, uptoI_get hi (by omega)]
      congr 1
      omega
theorem mg_ok {m : Nat} {es : List E} {e : E} (h : InR (m + 1) es) (he : (0 ≤ e.1 ∧ e.1 < (m + 1 : Nat)) ∧ (0 ≤ e.2 ∧ e.2 < (m + 1 : Nat))) (hm : m ≤ 100) (hl : es.length ≤ 100) :
    q_merged ((m + 1 : Nat), es, e, ()) = .ok ((m : Int), mge e es) := by
  unfold q_merged
  simp only [tb2_ok, tIx0_e, tIx1_e, Tr.ofO_some, tPair_ok, tb1_ok, tMin2_e, tMax2_e, Tr.so_ok, tCons'_ok, tLst_one, tSub_e]
  show ((tb2 tCat (tb2 tCat (tLr1 (.ok (hiE e))) (.ok [loE e])) (tLr2 (.ok (hiE e)) (.ok (((m + 1 : Nat) : Int) - 1)))).so _).fn = _
  have hb : 0 ≤ hiE e ∧ hiE e < (m + 1 : Nat) := by
    unfold hiE
    split
    · exact he.2
    · exact he.1
  obtain ⟨k, hk⟩ : ∃ k : Nat, hiE e = k := ⟨(hiE e).toNat, by omega⟩
  have e1 : tLr1 (.ok (hiE e)) = .ok (uptoI 0 k) := by
    rw [hk]
    exact tLr1_ok (by omega)
  have e2 : tLr2 (.ok (hiE e)) (.ok (((m + 1 : Nat) : Int) - 1)) = .ok (uptoI (hiE e) (m - k)) := by
    rw [show ((m + 1 : Nat) : Int) - 1 = hiE e + ((m - k : Nat) : Int) by omega]
    exact tLr2_ok (by omega) (by omega) (by omega)
  rw [e1, e2, tb2_ok, tCat_e (by simp [uptoI_len]; omega), Tr.ofO_some, tb2_ok, tCat_e (by simp [uptoI_len]; omega), Tr.ofO_some, Tr.so_ok]
  have e3 : (Tr.ok es).bind (lcQ fun (xξ : Int × Int) => match xξ with | ⟨one, two⟩ => ((tb1 tTup2 (tPair (tb2 tIx (Tr.ok (uptoI 0 k ++ [loE e] ++ uptoI (hiE e) (m - k))) (Tr.ok one)) (tPair (tb2 tIx (Tr.ok (uptoI 0 k ++ [loE e] ++ uptoI (hiE e) (m - k))) (Tr.ok two)) (Tr.ok ())))).bind fun y => Tr.ok (some y))) = .ok (mge e es) := by
    rw [Tr.bind_ok, lcQ_map (g := fun a => (piM (hiE e) (loE e) a.1, piM (hiE e) (loE e) a.2)) (by omega) fun a ha => ?_]
    · rfl
    · have := h a ha
      simp only [tb2_ok]
      rw [names_get hk this.1.1 (by omega), names_get hk this.2.1 (by omega)]
      rfl
  refine (congrArg (fun q => ((tb1 tTup2 (tPair (Tr.ok (((m + 1 : Nat) : Int) - 1)) (tPair q (Tr.ok ())))).so fun a => Ot.rt a).fn) e3).trans ?_
  show Tr.ok _ = _
  rw [show ((m + 1 : Nat) : Int) - 1 = m by omega]
theorem br_ok {n : Nat} {r : List E} {e : E} (h : InR n (r ++ [e])) (hn : n ≤ 1000) (hl : r.length ≤ 100) : q_is_bridge (n, r ++ [e], (r.length : Int), ()) = .ok (decide (cN n (e :: r.reverse) < cN n r.reverse)) := by
  unfold q_is_bridge
  simp only [tb2_ok, tAdd_e, Tr.ofO_some]
  have e1 : tSl (Tr.ok (r ++ [e])) (Tr.ok none) (tPart (Tr.ok (r.length : Int))) = .ok r := by
    show Tr.ok (cutT _ _ _) = _
    rw [cut_to _ _ (by simp), List.take_left']
    rfl
  have e2 : tSl (Tr.ok (r ++ [e])) (tPart (Tr.ok ((r.length : Int) + 1))) (Tr.ok none) = .ok [] := by
    show Tr.ok (cutT _ (some ((r.length + 1 : Nat) : Int)) _) = _
    rw [cut_from _ _ (by simp), List.drop_eq_nil_of_le (by simp)]
  rw [e1, e2, tb2_ok, tCat_e (by simp; omega), Tr.ofO_some, List.append_nil]
  simp only [tPair_ok, Tr.bind_ok]
  rw [cp_ok (fun a ha => h a (List.mem_append_left _ ha)) hn, cp_ok h hn, tb2_ok, tGt_e, List.reverse_append]
  simp only [List.reverse_cons, List.reverse_nil, List.nil_append, List.singleton_append, Tr.ofO_some, Tr.so_ok, Ot.fn_rt]
  congr 1
  rw [decide_eq_decide]
  omega
end K95
end

section
set_option Elab.async false
set_option linter.all false
set_option maxRecDepth 100000
set_option maxHeartbeats 1000000
namespace K95
open PySem No Gp
/-! ### dicts, plainly -/
section
variable {κ α : Type} [EmbK κ] [Emb α] [DecidableEq κ]
abbrev ks (l : List (κ × α)) : List κ := l.map (·.1)
theorem valT_none {l : List (κ × α)} {k : κ} : valT l k = none ↔ k ∉ ks l := by
  unfold valT
  rw [Option.map_eq_none_iff, List.find?_eq_none]
  constructor
  · rintro h hk
    obtain ⟨p, hp, rfl⟩ := List.mem_map.mp hk
    exact h p hp (by simp)
  · rintro h p hp e
    exact h (List.mem_map.mpr ⟨p, hp, of_decide_eq_true e⟩)
theorem valT_cons (p : κ × α) (l : List (κ × α)) (k : κ) : valT (p :: l) k = if p.1 = k then some p.2 else valT l k := by
  unfold valT
  rw [List.find?_cons]
  by_cases h : p.1 = k
  · rw [if_pos h, decide_eq_true h]
    rfl
  · rw [if_neg h, decide_eq_false h]
theorem valT_append (a b : List (κ × α)) (k : κ) : valT (a ++ b) k = match valT a k with
    | some v => some v
    | none => valT b k := by
  induction a with
  | nil => rfl
  | cons p a ih =>
    rw [List.cons_append, valT_cons, valT_cons, ih]
    by_cases h : p.1 = k
    · rw [if_pos h, if_pos h]
    · rw [if_neg h, if_neg h]
theorem any_ks {l : List (κ × α)} {k : κ} : (l.any fun kv => decide (kv.1 = k)) = true ↔ k ∈ ks l := by
  rw [List.any_eq_true]
  constructor
  · rintro ⟨p, hp, h⟩
    exact List.mem_map.mpr ⟨p, hp, of_decide_eq_true h⟩
  · intro h
    obtain ⟨p, hp, e⟩ := List.mem_map.mp h
    exact ⟨p, hp, decide_eq_true e⟩
theorem valT_upd (l : List (κ × α)) (k : κ) (v : α) (k' : κ) : valT (l.map fun kv => if kv.1 = k then (kv.1, v) else kv) k' = if k' = k ∧ k ∈ ks l then some v else valT l k' := by
  induction l with
  | nil => simp [valT]
  | cons p l ih =>
    rw [List.map_cons, valT_cons, valT_cons, ih]
    by_cases h1 : p.1 = k
    · rw [if_pos h1]
      dsimp only
      by_cases h2 : p.1 = k'
      · rw [if_pos h2, if_pos ⟨h2.symm.trans h1, List.mem_map.mpr ⟨p, List.mem_cons_self, h1⟩⟩]
      · rw [if_neg h2, if_neg (fun z => h2 (h1.trans z.1.symm)), if_neg (fun z => h2 (h1.trans z.1.symm)), if_neg h2]
    · rw [if_neg h1]
      by_cases h2 : p.1 = k'
      · rw [if_pos h2, if_neg (fun z => h1 (h2.trans z.1)), if_pos h2]
      · rw [if_neg h2, if_neg h2]
        have e : k ∈ ks (p :: l) ↔ k ∈ ks l := by
          show k ∈ p.1 :: ks l ↔ _
          rw [List.mem_cons]
          exact ⟨fun z => z.elim (fun z => absurd z.symm h1) id, .inr⟩
        by_cases h3 : k' = k ∧ k ∈ ks l
        · rw [if_pos h3, if_pos ⟨h3.1, e.mpr h3.2⟩]
        · rw [if_neg h3, if_neg fun z => h3 ⟨z.1, e.mp z.2⟩]
theorem valT_put (l : List (κ × α)) (k : κ) (v : α) (k' : κ) : valT (putT l k v) k' = if k' = k then some v else valT l k' := by
  unfold putT
  by_cases h : (l.any fun kv => decide (kv.1 = k)) = true
  · rw [if_pos h, valT_upd]
    by_cases e : k' = k
    · rw [if_pos e, if_pos ⟨e, any_ks.mp h⟩]
    · rw [if_neg e, if_neg fun z => e z.1]
  · rw [if_neg h, valT_append, valT_cons]
    by_cases e : k' = k
    · rw [if_pos e, if_pos e.symm, e, valT_none.mpr fun z => h (any_ks.mpr z)]
    · rw [if_neg e, if_neg (Ne.symm e)]
      cases valT l k' <;> rfl
theorem ks_put (l : List (κ × α)) (k : κ) (v : α) (h : (ks l).Nodup) : (ks (putT l k v)).Nodup ∧ (putT l k v).length ≤ l.length + 1 := by
  unfold putT
  by_cases c : (l.any fun kv => decide (kv.1 = k)) = true
  · rw [if_pos c]
    refine ⟨?_, by simp⟩
    have : ks (l.map fun kv => if kv.1 = k then (kv.1, v) else kv) = ks l := by
      unfold ks
      rw [List.map_map]
      refine List.map_congr_left fun p _ => ?_
      show (if p.1 = k then (p.1, v) else p).1 = p.1
      split <;> rfl
    rw [this]
    exact h
  · rw [if_neg c]
    refine ⟨?_, by simp⟩
    show (List.map _ _).Nodup
    rw [List.map_append, List.map_cons, List.map_nil]
    exact List.nodup_append.mpr ⟨h, by simp, fun a ha b hb => by
      rw [List.mem_singleton.mp hb]
      intro z
      have z : a = k := z
      exact c (any_ks.mpr (z ▸ ha))⟩
theorem valT_mem {l : List (κ × α)} (h : (ks l).Nodup) {p : κ × α} (hp : p ∈ l) : valT l p.1 = some p.2 := by
  induction l with
  | nil => simp at hp
  | cons q l ih =>
    rw [valT_cons]
    have h' : (q.1 :: ks l).Nodup := h
    rw [List.nodup_cons] at h'
    rcases List.mem_cons.mp hp with rfl | hp
    · rw [if_pos rfl]
    · rw [if_neg fun z => h'.1 (by
        rw [z]
        exact List.mem_map.mpr ⟨p, hp, rfl⟩)]
      exact ih h'.2 hp
theorem copy_self (l : List (κ × α)) (z : α) (h : (ks l).Nodup) : copyT l z = l := by
  unfold copyT
  have key : ∀ (q p : List (κ × α)), l = p ++ q → q.foldl (fun acc kv => putT acc kv.1 ((valT l kv.1).getD z)) p = l := by
    intro q
    induction q with
    | nil => intro p e; rw [e]; simp
    | cons x q ih =>
      intro p e
      rw [List.foldl_cons]
      have hx : valT l x.1 = some x.2 := valT_mem h (by rw [e]; simp)
      have hn : ¬ (p.any fun kv => decide (kv.1 = x.1)) = true := fun c => by
        have c := any_ks.mp c
        rw [e] at h
        unfold ks at h
        rw [List.map_append, List.map_cons, List.nodup_append] at h
        exact h.2.2 x.1 c x.1 List.mem_cons_self rfl
      rw [hx]
      unfold putT
      rw [if_neg hn]
      exact ih (p ++ [x]) (by rw [e]; simp)
  exact key l [] rfl
end
abbrev DT := Dic (Int × Int) Int
/-- the keys, ascending -/
def srtK (d : DT) : List (Int × Int) := (ks d.l).mergeSort leP
theorem mem_srtK {d : DT} {k : Int × Int} : k ∈ srtK d ↔ k ∈ ks d.l := (List.mergeSort_perm _ _).mem_iff
theorem nodup_srtK {d : DT} (h : (ks d.l).Nodup) : (srtK d).Nodup := (List.mergeSort_perm _ _).nodup_iff.mpr h
theorem len_srtK (d : DT) : (srtK d).length = d.l.length := by
  exact (List.mergeSort_perm (ks d.l) leP).length_eq.trans (List.length_map _)
theorem sort_ok (d : DT) : tb1 tSortT (tPair (Tr.ok d) (Tr.ok ())) = .ok (srtK d) := rfl
theorem put_ok {d : DT} {k : Int × Int} {v : Int} (h : d.l.length ≤ 10000000) : tDPut d k v = .ok ⟨putT d.l k v⟩ := if_pos (show _ < 16777216 by omega)
/-- what a dict says -/
def cf (d : DT) (k : Int × Int) : Int := (valT d.l k).getD 0
theorem some_of_ks {d : DT} {k : Int × Int} (h : k ∈ ks d.l) : ∃ v, valT d.l k = some v := by
  cases e : valT d.l k with
  | none => exact absurd h (valT_none.mp e)
  | some v => exact ⟨v, rfl⟩
theorem sh_ok {t : DT} {r u : Int} (hn : (ks t.l).Nodup) (hz : t.l.length ≤ 1000000) : ∃ d : DT, q_shifted_terms (t, r, u, ()) = .ok d ∧ d.l.length ≤ t.l.length ∧ (ks d.l).Nodup ∧ ∀ i j, valT d.l (i + r, j + u) = valT t.l (i, j) := by
  unfold q_shifted_terms
  dsimp only
  rw [sort_ok, Tr.so_ok]
  have key := forO_pre (L := Unit) (τ := DT) (S := DT)
    (pk := fun (s : (Dic (Int × Int) Int)) => [.sh (Emb.e t), .sh (Emb.e r), .sh (Emb.e u), .ow false (EmbM.m s), .no, .no])
    (f := fun (xξ : Int × Int) (sξ : (Dic (Int × Int) Int)) => match xξ, sξ with | ⟨one, two⟩, found => ((tb2 tDGet (Tr.ok t) (tb1 tTup2 (tPair (Tr.ok one) (tPair (Tr.ok two) (Tr.ok ()))))).so fun aξ => (tb1 tTup2 (tPair (tb2 tAdd (Tr.ok one) (Tr.ok r)) (tPair (tb2 tAdd (Tr.ok two) (Tr.ok u)) (Tr.ok ())))).so fun zξ => (tDPut found zξ aξ).so fun found => .nx found))
    (xs := srtK t) (s := ⟨[]⟩) (fun p d => d.l.length ≤ p.length ∧ (ks d.l).Nodup ∧ ∀ i j, valT d.l (i + r, j + u) = if (i, j) ∈ p then valT t.l (i, j) else none)
    ⟨by simp, List.nodup_nil, fun i j => by simp [valT]⟩ fun p x q d e ⟨a1, a2, a3⟩ => ?_
  · obtain ⟨d, h1, h2, h3, h4⟩ := key
    refine ⟨d, ?_, by rw [len_srtK] at h2; exact h2, h3, fun i j => ?_⟩
    · rw [tFor_ok h1]
      rfl
    · rw [h4 i j]
      split
      · rfl
      · rename_i h
        rw [mem_srtK] at h
        exact (valT_none.mpr h).symm
  · obtain ⟨v, hv⟩ := some_of_ks (mem_srtK.mp (show x ∈ srtK t by rw [e]; simp))
    have hl : p.length + (q.length + 1) = t.l.length := by
      rw [← len_srtK, e, List.length_append, List.length_cons]
    refine ⟨⟨putT d.l (x.1 + r, x.2 + u) v⟩, ?_, ?_, (ks_put _ _ _ a2).1, fun i j => ?_⟩
    · obtain ⟨x1, x2⟩ := x
      simp only [tPair_ok, tb1_ok, tTup2_e, Tr.ofO_some, tb2_ok, tAdd_e]
      rw [show tDGet t (x1, x2) = some v from hv, Tr.ofO_some, Tr.so_ok, Tr.so_ok, put_ok (by omega)]
      rfl
    · have := (ks_put d.l (x.1 + r, x.2 + u) v a2).2
      rw [List.length_append]
      simp only [List.length_cons, List.length_nil]
      show (putT d.l _ _).length ≤ _
      omega
    · show valT (putT d.l _ _) _ = _
      rw [valT_put, a3 i j]
      by_cases c : (i, j) = x
      · subst c
        rw [if_pos rfl, if_pos (by simp), hv]
      · rw [if_neg fun z => c (by
          obtain ⟨x1, x2⟩ := x
          simp only [Prod.mk.injEq] at z ⊢
          omega)]
        by_cases c2 : (i, j) ∈ p
        · rw [if_pos c2, if_pos (List.mem_append_left _ c2)]
        · rw [if_neg c2, if_neg (by simp [c2, c])]
theorem jn_ok {a b : DT} (ha : (ks a.l).Nodup) (hb : (ks b.l).Nodup) (hza : a.l.length ≤ 1000000) (hzb : b.l.length ≤ 1000000) : ∃ d : DT, q_joined_terms (a, b, ()) = .ok d ∧ d.l.length ≤ a.l.length + b.l.length ∧ (ks d.l).Nodup ∧
    ∀ k, valT d.l k = match valT b.l k with
      | some v => some ((valT a.l k).getD 0 + v)
      | none => valT a.l k := by
  unfold q_joined_terms
  dsimp only
  rw [if_pos (show a.l.length ≤ sizeLine by show _ ≤ 16777216; omega), copy_self _ _ ha, sort_ok, Tr.so_ok]
  have key := forO_pre (L := Unit) (τ := DT) (S := DT)
    (pk := fun (s : (Dic (Int × Int) Int)) => [.sh (Emb.e a), .sh (Emb.e b), .ow false (EmbM.m s), .no])
    (f := fun (xξ : Int × Int) (sξ : (Dic (Int × Int) Int)) => match xξ, sξ with | key, found => ((tBor (tb2 tAdd (tDGet2 (Tr.ok found) (Tr.ok key) (Tr.ok (0 : Int))) (tb2 tDGet (Tr.ok b) (Tr.ok key)))).so fun aξ => (Tr.ok key).so fun zξ => (tDPut found zξ aξ).so fun found => .nx found))
    (xs := srtK b) (s := ⟨a.l⟩) (fun p d => d.l.length ≤ a.l.length + p.length ∧ (ks d.l).Nodup ∧ ∀ k, valT d.l k = if k ∈ p then (match valT b.l k with
      | some v => some ((valT a.l k).getD 0 + v)
      | none => valT a.l k) else valT a.l k)
    ⟨by simp, ha, fun k => by simp⟩ fun p x q d e ⟨a1, a2, a3⟩ => ?_
  · obtain ⟨d, h1, h2, h3, h4⟩ := key
    refine ⟨d, ?_, by rw [len_srtK] at h2; exact h2, h3, fun k => ?_⟩
    · rw [tFor_ok h1]
      rfl
    · rw [h4 k]
      split
      · rfl
      · rename_i h
        rw [mem_srtK] at h
        rw [valT_none.mpr h]
  · obtain ⟨v, hv⟩ := some_of_ks (mem_srtK.mp (show x ∈ srtK b by rw [e]; simp))
    have hl : p.length + (q.length + 1) = b.l.length := by
      rw [← len_srtK, e, List.length_append, List.length_cons]
    have hxp : x ∉ p := by
      have := nodup_srtK hb
      rw [e, List.nodup_append] at this
      exact fun z => this.2.2 x z x List.mem_cons_self rfl
    have hx : valT d.l x = valT a.l x := by rw [a3 x, if_neg hxp]
    refine ⟨⟨putT d.l x ((valT a.l x).getD 0 + v)⟩, ?_, ?_, (ks_put _ _ _ a2).1, fun k => ?_⟩
    · have e1 : tBor (tb2 tAdd (tDGet2 (Tr.ok d) (Tr.ok x) (Tr.ok (0 : Int))) (tb2 tDGet (Tr.ok b) (Tr.ok x))) = .ok ((valT a.l x).getD 0 + v) := by
        rw [tb2_ok, show tDGet b x = some v from hv, show tDGet2 (Tr.ok d) (Tr.ok x) (Tr.ok (0 : Int)) = .ok ((valT d.l x).getD 0) from rfl, hx]
        rfl
      dsimp only
      rw [e1, Tr.so_ok, Tr.so_ok, put_ok (by omega)]
      rfl
    · have := (ks_put d.l x ((valT a.l x).getD 0 + v) a2).2
      rw [List.length_append]
      simp only [List.length_cons, List.length_nil]
      show (putT d.l _ _).length ≤ _
      omega
    · show valT (putT d.l _ _) _ = _
      rw [valT_put]
      by_cases c : k = x
      · subst c
        rw [if_pos rfl, if_pos (by simp), hv]
      · rw [if_neg c, a3 k]
        by_cases c2 : k ∈ p
        · rw [if_pos c2, if_pos (List.mem_append_left _ c2)]
        · rw [if_neg c2, if_neg (by simp [c2, c])]
end K95
end

section
set_option Elab.async false
set_option linter.all false
set_option maxRecDepth 100000
set_option maxHeartbeats 1000000
namespace K95
open PySem No Gp
structure TD (n : Nat) (r : List E) (d : DT) : Prop where
  nd : (ks d.l).Nodup
  sz : d.l.length ≤ 2 ^ r.length
  ps : ∀ i j v, valT d.l (i, j) = some v → 0 < v ∧ 0 ≤ i ∧ i + cN n r ≤ n ∧ 0 ≤ j ∧ j + n ≤ r.length + cN n r
  co : ∀ i j, cf d (i, j) = GS n r (fun a => pw a i) (fun k => pw k j)
theorem TD.nil {n : Nat} : TD n [] ⟨[((0, 0), 1)]⟩ := by
  have e : ∀ i j : Int, valT [(((0, 0) : Int × Int), (1 : Int))] (i, j) = if i = 0 ∧ j = 0 then some 1 else none := fun i j => by
    rw [valT_cons]
    by_cases h : i = 0 ∧ j = 0
    · rw [if_pos h, if_pos (by rw [h.1, h.2])]
    · rw [if_neg h, if_neg fun z => h (by
        simp only [Prod.mk.injEq] at z
        omega)]
      rfl
  refine ⟨by simp, by simp, fun i j v h => ?_, fun i j => ?_⟩
  · rw [e] at h
    split at h
    · cases h
      rw [cN_nil]
      simp
      omega
    · cases h
  · unfold cf
    rw [e, GS_nil]
    show _ = (if i = 0 then (1 : Int) else 0) * (if j = 0 then (1 : Int) else 0)
    by_cases h1 : i = 0
    · by_cases h2 : j = 0
      · rw [if_pos ⟨h1, h2⟩, if_pos h1, if_pos h2]; rfl
      · rw [if_neg fun z => h2 z.2, if_neg h2]; simp
    · rw [if_neg fun z => h1 z.1, if_neg h1]; simp
theorem TD.loop {n : Nat} {u : Int} {r : List E} {d d' : DT} (hr : InR n r) (h : TD n r d') (h1 : d.l.length ≤ d'.l.length) (h2 : (ks d.l).Nodup) (h3 : ∀ i j, valT d.l (i + 0, j + 1) = valT d'.l (i, j)) : TD n ((u, u) :: r) d := by
  have e : ∀ i j, valT d.l (i, j) = valT d'.l (i, j - 1) := fun i j => by
    have := h3 i (j - 1)
    rwa [Int.add_zero, show j - 1 + 1 = j by omega] at this
  refine ⟨h2, ?_, fun i j v q => ?_, fun i j => ?_⟩
  · have := h.sz
    rw [List.length_cons, Nat.pow_succ]
    omega
  · rw [e] at q
    have := h.ps _ _ _ q
    rw [cN_loop, List.length_cons]
    omega
  · unfold cf
    rw [e]
    have := h.co i (j - 1)
    unfold cf at this
    rw [this, GS_loop hr]
    congr 1
    funext k
    exact (pw_add k j).symm
section
variable {m : Nat} {lo hi : Int} {r : List E} {e : E} (h0 : 0 ≤ lo) (h1 : lo < hi) (h2 : hi < (m + 1 : Nat)) (he : e = (lo, hi) ∨ e = (hi, lo)) (h : InR (m + 1) r)
include h0 h1 h2 he h
theorem TD.bridge (hb : labR r e.1 ≠ labR r e.2) {d d' : DT} (t : TD m (mapE (piM hi lo) r) d') (q1 : d.l.length ≤ d'.l.length) (q2 : (ks d.l).Nodup) (q3 : ∀ i j, valT d.l (i + 1, j + 0) = valT d'.l (i, j)) : TD (m + 1) (e :: r) d := by
  have ev : ∀ i j, valT d.l (i, j) = valT d'.l (i - 1, j) := fun i j => by
    have := q3 (i - 1) j
    rwa [Int.add_zero, show i - 1 + 1 = i by omega] at this
  have el : (mapE (piM hi lo) r).length = r.length := List.length_map ..
  refine ⟨q2, ?_, fun i j v q => ?_, fun i j => ?_⟩
  · have := t.sz
    rw [el] at this
    rw [List.length_cons, Nat.pow_succ]
    omega
  · rw [ev] at q
    have := t.ps _ _ _ q
    rw [el] at this
    rw [cN_contract h0 h1 h2 he, List.length_cons]
    omega
  · unfold cf
    rw [ev]
    have := t.co (i - 1) j
    unfold cf at this
    rw [this, GS_bridge h0 h1 h2 he h hb]
    congr 1
    funext k
    exact (pw_add k i).symm
theorem TD.both (hb : labR r e.1 = labR r e.2) {d a b : DT} (ta : TD (m + 1) r a) (tb : TD m (mapE (piM hi lo) r) b) (q1 : d.l.length ≤ a.l.length + b.l.length) (q2 : (ks d.l).Nodup) (q3 : ∀ k, valT d.l k = match valT b.l k with
      | some v => some ((valT a.l k).getD 0 + v)
      | none => valT a.l k) : TD (m + 1) (e :: r) d := by
  have el : (mapE (piM hi lo) r).length = r.length := List.length_map ..
  have c1 : cN (m + 1) (e :: r) = cN (m + 1) r := cN_same hb
  have c2 : cN (m + 1) (e :: r) = cN m (mapE (piM hi lo) r) := cN_contract h0 h1 h2 he
  refine ⟨q2, ?_, fun i j v q => ?_, fun i j => ?_⟩
  · have s1 := ta.sz
    have s2 := tb.sz
    rw [el] at s2
    rw [List.length_cons, Nat.pow_succ]
    omega
  · rw [q3] at q
    rw [List.length_cons]
    cases eb : valT b.l (i, j) with
    | none =>
      rw [eb] at q
      have := ta.ps _ _ _ q
      omega
    | some w =>
      rw [eb] at q
      have b1 := tb.ps _ _ _ eb
      rw [el] at b1
      cases ea : valT a.l (i, j) with
      | none =>
        rw [ea] at q
        cases q
        simp only [Option.getD_none]
        omega
      | some z =>
        rw [ea] at q
        cases q
        have a1 := ta.ps _ _ _ ea
        simp only [Option.getD_some]
        omega
  · have s1 := ta.co i j
    have s2 := tb.co i j
    rw [GS_both h0 h1 h2 he h hb, ← s1, ← s2]
    unfold cf
    rw [q3]
    cases eb : valT b.l (i, j) with
    | none => simp
    | some w => simp
end
theorem tEq_nil (l : List E) : tEq l [] = some (decide (l = [])) := rfl
theorem mge_rev (e : E) (r : List E) : mge e r.reverse = (mapE (piM (hiE e) (loE e)) r).reverse := by
  unfold mge mapE
  rw [List.map_reverse]
theorem tm_ok : ∀ (N : Nat) (r : List E) (n fuel : Nat), r.length = N → r.length < fuel → n ≤ 100 → r.length ≤ 12 → InR n r → ∃ d, fq_terms_of fuel (n, r.reverse, ()) = .ok d ∧ TD n r d
  | 0, r, n, fuel + 1, hN, hf, hn, hl, hr => by
    have : r = [] := List.eq_nil_of_length_eq_zero hN
    subst this
    exact ⟨_, rfl, TD.nil⟩
  | N + 1, [], n, fuel + 1, hN, _, _, _, _ => by simp at hN
  | N + 1, e :: r, n, fuel + 1, hN, hf, hn, hl, hr => by
    have hr' : InR n r := fun a ha => hr a (List.mem_cons_of_mem _ ha)
    have he := hr e List.mem_cons_self
    rw [List.length_cons] at hN hf hl
    have p12 : 2 ^ r.length ≤ 4096 := Nat.pow_le_pow_right (n := 2) (by omega) (show r.length ≤ 12 by omega)
    obtain ⟨d0, g0, t0⟩ := tm_ok N r n fuel (by omega) (by omega) hn (by omega) hr'
    show ∃ d, q_terms_of (fq_terms_of fuel) (n, (e :: r).reverse, ()) = .ok d ∧ _
    rw [List.reverse_cons]
    unfold q_terms_of
    simp only [tLst_nil, tb2_ok, tEq_nil, tb1_ok, tNeg_e, Tr.ofO_some, tIx_last, Tr.so_ok, tIx0_e, tIx1_e, tEq_int]
    rw [show decide (r.reverse ++ [e] = []) = false by simp]
    simp only [Bool.false_eq_true, if_false, Ot.bind_nx]
    rw [show tSl (Tr.ok (r.reverse ++ [e])) (Tr.ok none) (tPart (Tr.ok (-1))) = .ok (cutT (r.reverse ++ [e]) none (some (-1))) from rfl, cut_init, Tr.so_ok]
    simp only [tPair_ok, Tr.bind_ok, tLen_e, tb1_ok, Tr.ofO_some, tSub_e, tb2_ok, decide_eq_true_eq]
    by_cases hlp : e.1 = e.2
    · rw [if_pos hlp, g0]
      obtain ⟨d, s1, s2, s3, s4⟩ := sh_ok (t := d0) (r := 0) (u := 1) t0.nd (by have := t0.sz; omega)
      obtain ⟨u, w⟩ := e
      have hlp : u = w := hlp
      subst hlp
      refine ⟨d, ?_, TD.loop hr' t0 s2 s3 s4⟩
      simp only [tPair_ok, Tr.bind_ok]
      rw [s1]
      rfl
    · rw [if_neg hlp]
      simp only [Ot.bind_nx]
      obtain ⟨m, rfl⟩ : ∃ m, n = m + 1 := ⟨n - 1, by omega⟩
      obtain ⟨k1, k2⟩ := loE_hiE hlp
      have k0 : 0 ≤ loE e := by unfold loE; split <;> omega
      have k3 : hiE e < (m + 1 : Nat) := by unfold hiE; split <;> omega
      obtain ⟨d1, g1, t1⟩ := tm_ok N (mapE (piM (hiE e) (loE e)) r) m fuel (by rw [show (mapE (piM (hiE e) (loE e)) r).length = r.length from List.length_map ..]; omega) (by rw [show (mapE (piM (hiE e) (loE e)) r).length = r.length from List.length_map ..]; omega) (by omega) (by rw [show (mapE (piM (hiE e) (loE e)) r).length = r.length from List.length_map ..]; omega) (inR_map k0 k1 k3 hr')
      have z1 := t1.sz
      rw [show (mapE (piM (hiE e) (loE e)) r).length = r.length from List.length_map ..] at z1
      have hrr : InR (m + 1) r.reverse := fun a ha => hr' a (List.mem_reverse.mp ha)
      rw [mg_ok hrr he (by omega) (by simp; omega), Tr.so_ok, mge_rev]
      dsimp only
      have hre : InR (m + 1) (r.reverse ++ [e]) := fun a ha => by
        rcases List.mem_append.mp ha with ha | ha
        · exact hrr a ha
        · rw [List.mem_singleton.mp ha]
          exact he
      have eb := br_ok (n := m + 1) (r := r.reverse) (e := e) hre (by omega) (by simp; omega)
      rw [List.reverse_reverse] at eb
      rw [show ((r.reverse ++ [e]).length : Int) - 1 = (r.reverse.length : Int) by rw [List.length_append, List.length_singleton]; omega, eb, Tr.so_ok]
      by_cases hb : labR r e.1 = labR r e.2
      · rw [show decide (cN (m + 1) (e :: r) < cN (m + 1) r) = false by rw [cN_same hb]; simp]
        simp only [Bool.false_eq_true, if_false, Ot.bind_nx]
        rw [g0, g1]
        obtain ⟨d, s1, s2, s3, s4⟩ := jn_ok (a := d0) (b := d1) t0.nd t1.nd (by have := t0.sz; omega) (by omega)
        refine ⟨d, ?_, TD.both k0 k1 k3 k2 hr' hb t0 t1 s2 s3 s4⟩
        simp only [tPair_ok, Tr.bind_ok]
        rw [s1]
        rfl
      · rw [show decide (cN (m + 1) (e :: r) < cN (m + 1) r) = true by rw [cN_less he hb]; simp]
        simp only [if_true]
        rw [g1]
        obtain ⟨d, s1, s2, s3, s4⟩ := sh_ok (t := d1) (r := 1) (u := 0) t1.nd (by omega)
        refine ⟨d, ?_, TD.bridge k0 k1 k3 k2 hr' hb t1 s2 s3 s4⟩
        simp only [tPair_ok, Tr.bind_ok]
        rw [s1]
        rfl
end K95
end

section
set_option Elab.async false
set_option linter.all false
set_option maxRecDepth 100000
set_option maxHeartbeats 1000000
namespace K95
open PySem No Gp
/-! ### _law_chosen -/
def bitI (num : Int) (k : Int) : Bool := decide (num / 2 ^ k.toNat % 2 = 1)
def ch (es : List E) (num : Int) : List E := ((up es.length).filter (bitI num)).map fun k => es.getD k.toNat (0, 0)
theorem tShr_e {x : Int} {k : Nat} : tShr x (k : Int) = some (x / 2 ^ k) := by
  unfold tShr cShr
  rw [if_pos (Nat.ble_eq_true_of_le (by omega)), Int.toNat_natCast]
theorem lch_ok {es : List E} (h : es.length ≤ 1000) (num : Int) : q_law_chosen (es, num, ()) = .ok (ch es num) := by
  unfold q_law_chosen
  simp only [tPair_ok, tb1_ok, tLen_e, Tr.ofO_some]
  rw [tRng1_ok (by omega), Tr.bind_ok, lcQ_fil (bitI num) (fun k => es.getD k.toNat (0, 0)) (by rw [uptoI_len]; omega) fun x hx => ?_]
  · rfl
  · have hx := mem_up.mp hx
    obtain ⟨k, rfl⟩ : ∃ k : Nat, x = k := ⟨x.toNat, by omega⟩
    have hk : k < es.length := by omega
    simp only [tb2_ok]
    rw [tShr_e, Tr.ofO_some, tPair_ok, tb1_ok, tInt_e, Tr.ofO_some, tb2_ok, tMod_e (by decide), Tr.ofO_some, tb2_ok, tEq_int, Tr.ofO_some, tIx_e (List.getElem?_eq_getElem hk), Tr.ofO_some, tFil_ok]
    unfold bitI
    rw [Int.toNat_natCast, List.getD_eq_getElem?_getD, List.getElem?_eq_getElem hk]
    rfl
theorem bit_lo {num : Int} {m : Nat} {k : Int} (h : 0 ≤ k ∧ k < m) : bitI (num + 2 ^ m) k = bitI num k := by
  unfold bitI
  obtain ⟨j, rfl⟩ : ∃ j : Nat, k = j := ⟨k.toNat, by omega⟩
  rw [Int.toNat_natCast]
  obtain ⟨c, rfl⟩ : ∃ c, m = j + (c + 1) := ⟨m - j - 1, by omega⟩
  have e : num + 2 ^ (j + (c + 1)) = num + 2 ^ j * (2 * 2 ^ c) := by
    rw [Int.pow_add, Int.pow_succ, Int.mul_comm (2 ^ c) 2]
  have hp : (2 : Int) ^ j ≠ 0 := Int.ne_of_gt (Int.pow_pos (by decide))
  rw [e, Int.add_mul_ediv_left _ _ hp]
  congr 1
  rw [eq_iff_iff]
  omega
theorem bit_hi {num : Int} {m : Nat} (h : 0 ≤ num ∧ num < 2 ^ m) : bitI num m = false ∧ bitI (num + 2 ^ m) m = true := by
  unfold bitI
  rw [Int.toNat_natCast]
  have hp : (2 : Int) ^ m ≠ 0 := Int.ne_of_gt (Int.pow_pos (by decide))
  have e : num / 2 ^ m = 0 := Int.ediv_eq_zero_of_lt h.1 h.2
  have e2 : (num + 2 ^ m) / 2 ^ m = 1 := by
    rw [show num + 2 ^ m = num + 2 ^ m * 1 by rw [Int.mul_one], Int.add_mul_ediv_left _ _ hp, e]
    rfl
  rw [e, e2]
  decide
theorem ch_snoc {r : List E} {e : E} {num : Int} (h : 0 ≤ num ∧ num < 2 ^ r.length) : ch (r ++ [e]) num = ch r num ∧ ch (r ++ [e]) (num + 2 ^ r.length) = ch r num ++ [e] := by
  have hg : ∀ k ∈ up r.length, (r ++ [e]).getD k.toNat (0, 0) = r.getD k.toNat (0, 0) := fun k hk => by
    have := mem_up.mp hk
    rw [List.getD_eq_getElem?_getD, List.getD_eq_getElem?_getD, List.getElem?_append_left (by omega)]
  have b := bit_hi h
  have hl : (r ++ [e]).length = r.length + 1 := by simp
  have he : (r ++ [e]).getD ((r.length : Nat) : Int).toNat (0, 0) = e := by
    rw [Int.toNat_natCast, List.getD_eq_getElem?_getD, List.getElem?_append_right (Nat.le_refl _)]
    simp
  unfold ch
  rw [hl, up_succ, List.filter_append, List.filter_append, List.map_append, List.map_append]
  have s1 : ∀ q : Int → Bool, (∀ k ∈ up r.length, q k = bitI num k) → ((up r.length).filter q).map (fun k => (r ++ [e]).getD k.toNat (0, 0)) = ((up r.length).filter (bitI num)).map fun k => r.getD k.toNat (0, 0) := fun q hq => by
    rw [List.filter_congr hq]
    exact List.map_congr_left fun k hk => hg k (List.mem_filter.mp hk).1
  rw [s1 _ fun k _ => rfl, s1 _ fun k hk => bit_lo (mem_up.mp hk)]
  constructor
  · rw [List.filter_cons, if_neg (by rw [b.1]; decide)]
    simp
  · rw [List.filter_cons, if_pos b.2]
    congr 1
    show [(r ++ [e]).getD ((r.length : Nat) : Int).toNat (0, 0)] = [e]
    rw [he]
theorem up_add (a b : Nat) : up (a + b) = up a ++ (up b).map (· + (a : Int)) := by
  induction b with
  | zero => simp [up, uptoI]
  | succ b ih =>
    rw [← Nat.add_assoc, up_succ, up_succ, ih, List.map_append, List.append_assoc]
    congr 2
    simp
    omega
theorem ch_subs : ∀ r : List E, (up (2 ^ r.length)).map (ch r.reverse) = (subs r).map List.reverse
  | [] => by
    show (up 1).map (ch []) = [[]]
    rfl
  | e :: r => by
    have ih := ch_subs r
    rw [List.length_cons, Nat.pow_succ, Nat.mul_two, up_add, List.map_append, List.map_map]
    rw [show subs (e :: r) = subs r ++ (subs r).map (e :: ·) from rfl, List.map_append, List.map_map, List.reverse_cons]
    have hc : ((2 ^ r.length : Nat) : Int) = 2 ^ r.reverse.length := by simp
    congr 1
    · rw [← ih]
      exact List.map_congr_left fun k hk => (ch_snoc (by rw [← hc]; exact mem_up.mp hk)).1
    · have : (List.reverse ∘ fun x => e :: x) = fun A : List E => A.reverse ++ [e] := by
        funext A
        simp
      rw [this, show (fun A : List E => A.reverse ++ [e]) = (fun B => B ++ [e]) ∘ List.reverse from rfl, ← List.map_map (g := fun B : List E => B ++ [e]) (f := List.reverse), ← ih, List.map_map]
      exact List.map_congr_left fun k hk => by
        show ch (r.reverse ++ [e]) (k + ((2 ^ r.length : Nat) : Int)) = ch r.reverse k ++ [e]
        rw [hc]
        exact (ch_snoc (by rw [← hc]; exact mem_up.mp hk)).2
/-! ### rows of numbers -/
def at0 (l : List Int) (k : Int) : Int := l.getD k.toNat 0
theorem at0_pad {l : List Int} {c : Nat} {k : Int} (h0 : 0 ≤ k) (h : k < (l.length + c : Nat)) : tIx (l ++ List.replicate c (0 : Int)) k = some (at0 l k) := by
  refine tIx_i h0 ?_
  unfold at0
  rw [List.getD_eq_getElem?_getD]
  by_cases hk : k.toNat < l.length
  · rw [List.getElem?_append_left hk, List.getElem?_eq_getElem hk]
    rfl
  · rw [List.getElem?_append_right (by omega), List.getElem?_replicate, if_pos (by omega), List.getElem?_eq_none (by omega)]
    rfl
theorem at0_map {n : Nat} {f : Int → Int} {k : Int} (h0 : 0 ≤ k) (h : k < n) : at0 ((up n).map f) k = f k := by
  have := up_get h0 h f
  unfold at0
  rw [List.getD_eq_getElem?_getD]
  unfold up uptoI
  rw [List.getElem?_map, List.getElem?_map, List.getElem?_range (by omega)]
  simp only [Option.map_some, Option.getD_some]
  congr 1
  omega
theorem at0_big {l : List Int} {k : Int} (h : (l.length : Int) ≤ k) : at0 l k = 0 := by
  unfold at0
  rw [List.getD_eq_getElem?_getD, List.getElem?_eq_none (by omega)]
  rfl
theorem max_len (a b : List Int) : tb1 tMax2 (tPair (tb1 tLen (tPair (Tr.ok a) (Tr.ok ()))) (tPair (tb1 tLen (tPair (Tr.ok b) (Tr.ok ()))) (Tr.ok ()))) = .ok ((max a.length b.length : Nat) : Int) := by
  simp only [tPair_ok, tb1_ok, tLen_e, Tr.ofO_some, tMax2_e]
  congr 1
  split <;> omega
theorem pad_ok {a : List Int} {L : Nat} (h : a.length ≤ L) (hL : L ≤ 1000) : tb2 tCat (Tr.ok a) (tb2 tRep (tLst (tCons' (Tr.ok (0 : Int)) (Tr.ok ([] : List Int)))) (tb2 tSub (Tr.ok (L : Int)) (tb1 tLen (tPair (Tr.ok a) (Tr.ok ()))))) = .ok (a ++ List.replicate (L - a.length) 0) := by
  simp only [tCons'_ok, tLst_one, tPair_ok, tb1_ok, tLen_e, Tr.ofO_some, tb2_ok, tSub_e]
  rw [show (L : Int) - (a.length : Int) = ((L - a.length : Nat) : Int) by omega, tRep_e (by omega), Tr.ofO_some, tb2_ok, tCat_e (by simp; omega)]
  rfl
end K95
end

section
set_option Elab.async false
set_option linter.all false
set_option maxRecDepth 100000
set_option maxHeartbeats 1000000
namespace K95
open PySem No Gp
theorem pw_le : ∀ (a : Nat) (i : Int), -(2 ^ a) ≤ pw a i ∧ pw a i ≤ 2 ^ a
  | 0, i => by
    show -1 ≤ (if i = 0 then (1 : Int) else 0) ∧ (if i = 0 then (1 : Int) else 0) ≤ 1
    split <;> omega
  | a + 1, i => by
    have h1 := pw_le a (i - 1)
    have h2 := pw_le a i
    show -(2 ^ (a + 1)) ≤ pw a (i - 1) - pw a i ∧ _ - _ ≤ _
    rw [Int.pow_succ]
    omega
theorem pw_sm {a : Nat} (h : a ≤ 60) (i : Int) : smB (pw a i) = true := by
  have h1 := pw_le a i
  have h2 : (2 : Int) ^ a ≤ 2 ^ 60 := by
    have := Nat.pow_le_pow_right (n := 2) (by omega) h
    exact_mod_cast this
  exact smB_lt (by omega) (by omega)
/-- keys in a box -/
def InB (B : Nat) (d : DT) : Prop := ∀ k ∈ ks d.l, (0 ≤ k.1 ∧ k.1 < B) ∧ (0 ≤ k.2 ∧ k.2 < B)
def box (B : Nat) : List (Int × Int) := (up B).flatMap fun i => (up B).map fun j => (i, j)
theorem mem_box {B : Nat} {k : Int × Int} : k ∈ box B ↔ (0 ≤ k.1 ∧ k.1 < B) ∧ (0 ≤ k.2 ∧ k.2 < B) := by
  unfold box
  rw [List.mem_flatMap]
  constructor
  · rintro ⟨i, hi, h⟩
    obtain ⟨j, hj, rfl⟩ := List.mem_map.mp h
    exact ⟨mem_up.mp hi, mem_up.mp hj⟩
  · rintro ⟨h1, h2⟩
    exact ⟨k.1, mem_up.mpr h1, List.mem_map.mpr ⟨k.2, mem_up.mpr h2, rfl⟩⟩
theorem len_box (B : Nat) : (box B).length = B * B := by
  unfold box
  rw [List.length_flatMap]
  have : (up B).map (fun i => ((up B).map fun j => (i, j)).length) = List.replicate B B := by
    refine List.eq_replicate_iff.mpr ⟨by simp [len_up], fun x hx => ?_⟩
    obtain ⟨i, _, rfl⟩ := List.mem_map.mp hx
    simp [len_up]
  rw [this]
  simp
theorem InB.len {B : Nat} {d : DT} (h : InB B d) (hn : (ks d.l).Nodup) : d.l.length ≤ B * B := by
  have := hn.length_le_of_subset (l₂ := box B) fun k hk => mem_box.mpr (h k hk)
  rwa [len_box, List.length_map] at this
theorem InB.put {B : Nat} {d : DT} (h : InB B d) {k : Int × Int} (hk : (0 ≤ k.1 ∧ k.1 < B) ∧ (0 ≤ k.2 ∧ k.2 < B)) (v : Int) : InB B ⟨putT d.l k v⟩ := fun k' hk' => by
  by_cases c : k' = k
  · rw [c]; exact hk
  · refine h k' (Classical.byContradiction fun z => ?_)
    have : valT (putT d.l k v) k' = none := by rw [valT_put, if_neg c]; exact valT_none.mpr z
    exact valT_none.mp this hk'
/-- one product added -/
structure Acc (B : Nat) (d : DT) (c : Int → Int → Int) : Prop where
  nd : (ks d.l).Nodup
  bx : InB B d
  co : ∀ i j, cf d (i, j) = c i j
theorem Acc.put {B : Nat} {d : DT} {c : Int → Int → Int} (h : Acc B d c) {i0 j0 : Int} (hi : 0 ≤ i0 ∧ i0 < B) (hj : 0 ≤ j0 ∧ j0 < B) (z : Int) : Acc B ⟨putT d.l (i0, j0) (cf d (i0, j0) + z)⟩ fun i j => c i j + if i = i0 ∧ j = j0 then z else 0 :=
  ⟨(ks_put _ _ _ h.nd).1, h.bx.put ⟨hi, hj⟩ _, fun i j => by
    have e := h.co i j
    unfold cf at e ⊢
    rw [valT_put]
    by_cases q : (i, j) = (i0, j0)
    · rw [if_pos q]
      obtain ⟨rfl, rfl⟩ := Prod.mk.inj q
      rw [if_pos ⟨rfl, rfl⟩, Option.getD_some, e]
    · rw [if_neg q, if_neg fun w => q (by rw [w.1, w.2]), e, Int.add_zero]⟩
theorem Acc.eq {B : Nat} {d : DT} {c c' : Int → Int → Int} (h : Acc B d c) (e : ∀ i j, c i j = c' i j) : Acc B d c' := ⟨h.nd, h.bx, fun i j => (h.co i j).trans (e i j)⟩
/-- the loop inside -/
theorem row_loop {B a b : Nat} {d : DT} {c : Int → Int → Int} {τ L : Type} {pk : DT → En} {f : Int → DT → Ot DT DT τ} (h : Acc B d c) {i0 : Int} (hi : 0 ≤ i0 ∧ i0 < B) (hb : b < B) {w : Int} (hw : smB w = true)
    (hf : ∀ (j : Int) (d : DT), 0 ≤ j → j < (b + 1 : Nat) → d.l.length ≤ 1000000 → f j d = .nx ⟨putT d.l (i0, j) (cf d (i0, j) + w * pw b j)⟩) (hB : B ≤ 1000) :
    ∃ d', (forO pk f (up (b + 1)) d : Ot DT L τ) = .nx d' ∧ Acc B d' fun i j => c i j + if i = i0 then w * pw b j else 0 := by
  have key := forO_pre (L := L) (pk := pk) (f := f) (xs := up (b + 1)) (s := d) (fun p d' => Acc B d' fun i j => c i j + if i = i0 ∧ j ∈ p then w * pw b j else 0)
    (h.eq fun i j => by simp) fun p x q d' e hd => ?_
  · obtain ⟨d', h1, h2⟩ := key
    refine ⟨d', h1, h2.eq fun i j => ?_⟩
    by_cases hi0 : i = i0
    · by_cases hj : j ∈ up (b + 1)
      · rw [if_pos ⟨hi0, hj⟩, if_pos hi0]
      · rw [if_neg fun z => hj z.2, if_pos hi0]
        rw [mem_up] at hj
        have : pw b j = 0 := by
          by_cases j0 : j < 0
          · exact pw_neg _ j0
          · exact pw_big _ (by omega)
        rw [this, Int.mul_zero]
    · rw [if_neg fun z => hi0 z.1, if_neg hi0]
  · have hx := mem_up.mp (show x ∈ up (b + 1) by rw [e]; simp)
    have hxp : x ∉ p := by
      have := nodup_up (b + 1)
      rw [e, List.nodup_append] at this
      exact fun z => this.2.2 x z x List.mem_cons_self rfl
    have hl := hd.bx.len hd.nd
    have hBB : B * B ≤ 1000 * 1000 := Nat.mul_le_mul hB hB
    refine ⟨_, hf x d' hx.1 hx.2 (by omega), (hd.put hi ⟨hx.1, by omega⟩ _).eq fun i j => ?_⟩
    by_cases hi0 : i = i0
    · by_cases hj : j = x
      · subst hj
        rw [if_neg fun z => hxp z.2, if_pos ⟨hi0, rfl⟩, if_pos ⟨hi0, by simp⟩]
        omega
      · have n1 : ¬ (i = i0 ∧ j = x) := fun z => hj z.2
        rw [if_neg n1]
        by_cases hjp : j ∈ p
        · rw [if_pos ⟨hi0, hjp⟩, if_pos ⟨hi0, by simp [hjp]⟩]
          omega
        · have n2 : ¬ (i = i0 ∧ j ∈ p) := fun z => hjp z.2
          have n3 : ¬ (i = i0 ∧ j ∈ p ++ [x]) := fun z => by simp [hjp, hj] at z
          rw [if_neg n2, if_neg n3]
          omega
    · rw [if_neg fun z => hi0 z.1, if_neg fun z => hi0 z.1, if_neg fun z => hi0 z.1]
      omega
/-- the loop around it -/
theorem col_loop {B a b : Nat} {d : DT} {c : Int → Int → Int} {τ L : Type} {pk : DT → En} {f : Int → DT → Ot DT DT τ} (h : Acc B d c) (ha : a < B)
    (hf : ∀ (i : Int) (d : DT) (c : Int → Int → Int), 0 ≤ i → i < (a + 1 : Nat) → Acc B d c → ∃ d', f i d = .nx d' ∧ Acc B d' fun i' j => c i' j + if i' = i then pw a i * pw b j else 0) :
    ∃ d', (forO pk f (up (a + 1)) d : Ot DT L τ) = .nx d' ∧ Acc B d' fun i j => c i j + pw a i * pw b j := by
  have key := forO_pre (L := L) (pk := pk) (f := f) (xs := up (a + 1)) (s := d) (fun p d' => Acc B d' fun i j => c i j + if i ∈ p then pw a i * pw b j else 0)
    (h.eq fun i j => by simp) fun p x q d' e hd => ?_
  · obtain ⟨d', h1, h2⟩ := key
    refine ⟨d', h1, h2.eq fun i j => ?_⟩
    by_cases hi : i ∈ up (a + 1)
    · rw [if_pos hi]
    · rw [if_neg hi]
      rw [mem_up] at hi
      have : pw a i = 0 := by
        by_cases j0 : i < 0
        · exact pw_neg _ j0
        · exact pw_big _ (by omega)
      rw [this, Int.zero_mul]
  · have hx := mem_up.mp (show x ∈ up (a + 1) by rw [e]; simp)
    have hxp : x ∉ p := by
      have := nodup_up (a + 1)
      rw [e, List.nodup_append] at this
      exact fun z => this.2.2 x z x List.mem_cons_self rfl
    obtain ⟨d2, h1, h2⟩ := hf x d' _ hx.1 hx.2 hd
    refine ⟨d2, h1, h2.eq fun i j => ?_⟩
    by_cases hi : i = x
    · subst hi
      rw [if_neg hxp, if_pos rfl, if_pos (by simp)]
      omega
    · rw [if_neg hi]
      by_cases hip : i ∈ p
      · rw [if_pos hip, if_pos (by simp [hip])]
        omega
      · rw [if_neg hip, if_neg (by simp [hip, hi])]
        omega
theorem tFor_ex {α S S' L τ : Type} {pk : S → En} {xs : List α} {f : α → S → Ot S S τ} {s : S} {k : S → Ot S' L τ} {P : Ot S' L τ → Prop} (I : List α → S → Prop) (h0 : I [] s)
    (hf : ∀ p x q s, xs = p ++ x :: q → I p s → ∃ s', f x s = .nx s' ∧ I (p ++ [x]) s') (hk : ∀ s', I xs s' → P (k s')) : P (tFor pk (.ok xs) f s k) := by
  obtain ⟨s', h1, h2⟩ := forO_pre (L := L) (pk := pk) I h0 hf
  rw [tFor_ok h1]
  exact hk s' h2
theorem tFor_of {α S S' L τ : Type} {pk : S → En} {xs : List α} {f : α → S → Ot S S τ} {s : S} {k : S → Ot S' L τ} {P : Ot S' L τ → Prop} {I : S → Prop} (h : ∃ s', (forO pk f xs s : Ot S L τ) = .nx s' ∧ I s') (hk : ∀ s', I s' → P (k s')) : P (tFor pk (.ok xs) f s k) := by
  obtain ⟨s', h1, h2⟩ := h
  rw [tFor_ok h1]
  exact hk s' h2
/-- the list of terms that a dict tells -/
def termL (d : DT) : List (T3 Int Int Int) := ((srtK d).filter fun k => !decide (cf d k = 0)).map fun k => ⟨k.1, k.2, cf d k⟩
end K95
end

section
set_option Elab.async false
set_option linter.all false
set_option maxRecDepth 100000
set_option maxHeartbeats 1000000
namespace K95
open PySem No Gp
/-! ### the list of terms -/
theorem leP_iff {x y : Int × Int} : leP x y = true ↔ x.1 < y.1 ∨ (x.1 = y.1 ∧ x.2 ≤ y.2) := by
  unfold leP SrtO.lexB
  by_cases h : y.1 = x.1
  · rw [if_pos h]
    simp
    omega
  · rw [if_neg h]
    simp
    omega
theorem srt_pw (d : DT) : (srtK d).Pairwise fun a b => leP a b = true :=
  List.pairwise_mergeSort (fun a b c h1 h2 => by rw [leP_iff] at *; omega) (fun a b => by rw [Bool.or_eq_true, leP_iff, leP_iff]; omega) _
theorem termL_eq {d d' : DT} (h : (ks d.l).Nodup) (h' : (ks d'.l).Nodup) (e : ∀ k, cf d k = cf d' k) : termL d = termL d' := by
  have ef : cf d = cf d' := funext e
  unfold termL
  rw [ef]
  congr 1
  have mem : ∀ (d : DT), (cf d = cf d') → ∀ k, k ∈ (srtK d).filter (fun k => !decide (cf d' k = 0)) ↔ cf d' k ≠ 0 := fun d hd k => by
    rw [List.mem_filter, mem_srtK]
    constructor
    · rintro ⟨_, h2⟩
      simpa using h2
    · intro hk
      refine ⟨Classical.byContradiction fun z => hk ?_, by simpa using hk⟩
      rw [← hd]
      unfold cf
      rw [valT_none.mpr z]
      rfl
  refine List.Perm.eq_of_pairwise (le := fun a b => leP a b = true) (fun a b _ _ h1 h2 => ?_) ((srt_pw d).sublist List.filter_sublist) ((srt_pw d').sublist List.filter_sublist) ?_
  · rw [leP_iff] at h1 h2
    exact Prod.ext (by omega) (by omega)
  · rw [List.perm_ext_iff_of_nodup ((nodup_srtK h).sublist List.filter_sublist) ((nodup_srtK h').sublist List.filter_sublist)]
    exact fun k => (mem d ef k).trans (mem d' rfl k).symm
theorem tu_ok {n : Nat} {es : List E} (h : ckG n es) : ∃ d, q_tutte (n, es, ()) = .ok (termL d) ∧ TD n es.reverse d := by
  obtain ⟨h1, h2, h3, h4⟩ := h
  have hr : InR n es.reverse := fun a ha => h4 a (List.mem_reverse.mp ha)
  obtain ⟨d, g, t⟩ := tm_ok es.reverse.length es.reverse n 14 rfl (by simp; omega) (by omega) (by simp; omega) hr
  rw [List.reverse_reverse] at g
  refine ⟨d, ?_, t⟩
  unfold q_tutte
  simp only [tPair_ok, Tr.bind_ok]
  have en : lcQ (fun (xξ : E) => (tb1 tTup2 (Tr.ok (xξ.fst, xξ.snd, ()))).bind fun y => Tr.ok (some y)) es = .ok es := (lcQ_map (g := fun a => a) (by omega) fun a _ => rfl).trans (congrArg _ (List.map_id _))
  rw [ck_ok ⟨h1, h2, h3, h4⟩, Tr.so_ok, en]
  simp only [tPair_ok, Tr.bind_ok]
  rw [g, Tr.so_ok]
  have eS : tb1 tSortT (Tr.ok (d, ())) = .ok (srtK d) := rfl
  have hz : d.l.length ≤ 4096 := Nat.le_trans t.sz (Nat.pow_le_pow_right (n := 2) (by omega) (show es.reverse.length ≤ 12 by simp; omega))
  rw [eS, Tr.bind_ok, lcQ_map (g := fun k => ⟨k.1, k.2, cf d k⟩) (by rw [len_srtK]; omega) fun k hk => ?_]
  · unfold termL
    rw [List.filter_eq_self.mpr fun k hk => ?_]
    · rfl
    · obtain ⟨v, hv⟩ := some_of_ks (mem_srtK.mp hk)
      have := (t.ps k.1 k.2 v hv).1
      unfold cf
      rw [hv]
      simp
      omega
  · obtain ⟨v, hv⟩ := some_of_ks (mem_srtK.mp hk)
    have hc : cf d k = v := by unfold cf; rw [hv]; rfl
    obtain ⟨k1, k2⟩ := k
    simp only [tPair_ok, tb1_ok, tTup2_e, Tr.ofO_some, tb2_ok]
    rw [show tDGet d (k1, k2) = some v from hv, hc]
    rfl
/-! ### their value -/
def tv (l : List (T3 Int Int Int)) (x y : Int) : Int := sm (fun t => t.c * x ^ t.a.toNat * y ^ t.b.toNat) l
theorem sm_perm {α : Type} {f : α → Int} {a b : List α} (h : a.Perm b) : sm f a = sm f b := by
  induction h with
  | nil => rfl
  | cons x _ ih => rw [sm_cons, sm_cons, ih]
  | swap x y l => rw [sm_cons, sm_cons, sm_cons, sm_cons]; omega
  | trans _ _ h1 h2 => exact h1.trans h2
theorem sm_supp {α : Type} [DecidableEq α] {f : α → Int} {a b : List α} (ha : a.Nodup) (hb : b.Nodup) (h : ∀ x ∈ a, x ∈ b) (hz : ∀ x ∈ b, x ∉ a → f x = 0) : sm f a = sm f b := by
  have p : b.Perm (a ++ b.filter fun x => decide (x ∉ a)) := by
    rw [List.perm_ext_iff_of_nodup hb (List.nodup_append.mpr ⟨ha, hb.sublist List.filter_sublist, fun x hx y hy => by
      have := of_decide_eq_true (List.mem_filter.mp hy).2
      exact fun z => this (z ▸ hx)⟩)]
    intro x
    rw [List.mem_append, List.mem_filter]
    constructor
    · intro hx
      by_cases c : x ∈ a
      · exact .inl c
      · exact .inr ⟨hx, decide_eq_true c⟩
    · rintro (c | c)
      · exact h x c
      · exact c.1
  rw [sm_perm p, sm_append, sm_zero (l := b.filter _) fun x hx => hz x (List.mem_filter.mp hx).1 (of_decide_eq_true (List.mem_filter.mp hx).2), Int.add_zero]
theorem nodup_box (B : Nat) : (box B).Nodup := by
  unfold box
  rw [List.nodup_iff_pairwise_ne, List.pairwise_flatMap]
  refine ⟨fun i _ => ?_, ?_⟩
  · refine List.pairwise_map.mpr ((List.nodup_iff_pairwise_ne.mp (nodup_up B)).imp fun h z => h (Prod.mk.inj z).2)
  · refine (List.nodup_iff_pairwise_ne.mp (nodup_up B)).imp fun h x hx y hy z => ?_
    obtain ⟨j, _, rfl⟩ := List.mem_map.mp hx
    obtain ⟨k, _, rfl⟩ := List.mem_map.mp hy
    exact h (Prod.mk.inj z).1
theorem sm_box (f : Int × Int → Int) (B : Nat) : sm f (box B) = sm (fun i => sm (fun j => f (i, j)) (up B)) (up B) := by
  unfold box
  generalize up B = L
  have key : ∀ M : List Int, sm f (M.flatMap fun i => L.map fun j => (i, j)) = sm (fun i => sm (fun j => f (i, j)) L) M := by
    intro M
    induction M with
    | nil => rfl
    | cons i M ih => rw [List.flatMap_cons, sm_append, sm_map, ih, sm_cons]
  exact key L
theorem tv_GS {n : Nat} {r : List E} {d : DT} (hr : InR n r) (hn : n ≤ 10) (hl : r.length ≤ 12) (t : TD n r d) (x y : Int) : tv (termL d) x y = GS n r (fun a => (x - 1) ^ a) (fun k => (y - 1) ^ k) := by
  unfold tv termL
  rw [sm_map]
  have hs : ∀ k : Int × Int, cf d k ≠ 0 → k ∈ box 13 := fun k hk => by
    cases e : valT d.l k with
    | none =>
      exfalso
      apply hk
      unfold cf
      rw [e]
      rfl
    | some v =>
      have := t.ps k.1 k.2 v e
      have c := cN_top hr
      rw [mem_box]
      omega
  have hm : ∀ k, k ∈ (srtK d).filter (fun k => !decide (cf d k = 0)) ↔ cf d k ≠ 0 := fun k => by
    rw [List.mem_filter, mem_srtK]
    constructor
    · rintro ⟨_, h2⟩
      simpa using h2
    · intro hk
      refine ⟨Classical.byContradiction fun z => hk ?_, by simpa using hk⟩
      unfold cf
      rw [valT_none.mpr z]
      rfl
  rw [sm_supp (b := box 13) ((nodup_srtK t.nd).sublist List.filter_sublist) (nodup_box 13) (fun k hk => hs k ((hm k).mp hk)) fun k _ hk => ?_]
  · rw [sm_box]
    have e1 : ∀ i j : Int, cf d (i, j) * x ^ i.toNat * y ^ j.toNat = sm (fun A => (pw (cN n A - cN n r) i * x ^ i.toNat) * (pw (cN n A + A.length - n) j * y ^ j.toNat)) (subs r) := fun i j => by
      rw [t.co i j]
      unfold GS
      rw [Int.mul_assoc, ← sm_mulr]
      exact sm_congr fun A _ => by
        dsimp only
        ac_rfl
    rw [sm_congr fun i _ => sm_congr fun j _ => e1 i j, sm_congr fun i _ => sm_swap _ _ _, sm_swap]
    unfold GS
    refine sm_congr fun A hA => ?_
    have sA := sub_of hA
    have c1 := cN_top (inR_sub hr hA)
    rw [sm_congr fun i _ => sm_mul _ _ _, sm_mulr, pw_val x _ 12 (by omega), pw_val y _ 12 (by omega)]
  · have : cf d k = 0 := Classical.byContradiction fun z => hk ((hm k).mpr z)
    show cf d k * _ * _ = 0
    rw [this]
    simp
/-! ### integer_power and the values, by the program and by the law -/
theorem pow_sm {x : Int} {k : Nat} (hx : -10 ≤ x ∧ x ≤ 10) (hk : k ≤ 18) : smB (x ^ k) = true := by
  have h : (x ^ k).natAbs ≤ 10 ^ 18 := by
    rw [Int.natAbs_pow]
    exact Nat.le_trans (Nat.pow_le_pow_left (show x.natAbs ≤ 10 by omega) k) (Nat.pow_le_pow_right (by omega) hk)
  exact smB_of (by omega)
theorem mul_loop {τ L : Type} {pk : Int → En} {x : Int} {k : Nat} {z : Int} {f : Int → Int → Ot Int Int τ} (hf : ∀ t s, f t s = .nx (s * x)) : (forO pk f (uptoI 0 k) z : Ot Int L τ) = .nx (z * x ^ k) := by
  rw [forO_map (g := fun s _ => s * x) fun t _ s => hf t s]
  congr 1
  have : ∀ (l : List Int) (z : Int), l.foldl (fun s _ => s * x) z = z * x ^ l.length := by
    intro l
    induction l with
    | nil => intro z; simp
    | cons a l ih => intro z; rw [List.foldl_cons, ih, List.length_cons, Int.pow_succ, Int.mul_assoc, Int.mul_comm x]
  rw [this, uptoI_len]
theorem ip_ok {x : Int} {k : Nat} (hx : -10 ≤ x ∧ x ≤ 10) (hk : k ≤ 1000) : q_integer_power (x, (k : Int), ()) = .ok (x ^ k) := by
  unfold q_integer_power
  dsimp only
  rw [Tr.so_ok, tRng1_ok (by omega), tFor_ok (mul_loop (x := x) fun t s => ?_)]
  · simp
  · simp only [tb2_ok]
    rw [tMul_r (smB_lt (by omega) (by omega))]
    rfl
def okT (l : List (T3 Int Int Int)) : Prop := l.length ≤ 10000 ∧ ∀ t ∈ l, (0 ≤ t.a ∧ t.a ≤ 12) ∧ (0 ≤ t.b ∧ t.b ≤ 12)
theorem tuv_ok {l : List (T3 Int Int Int)} (h : okT l) {x y : Int} (hx : -10 ≤ x ∧ x ≤ 10) (hy : -10 ≤ y ∧ y ≤ 10) : q_tutte_value (l, x, y, ()) = .ok (tv l x y) := by
  unfold q_tutte_value
  simp only [Tr.bind_ok]
  rw [lcQ_map (g := fun t : T3 Int Int Int => t.c * x ^ t.a.toNat * y ^ t.b.toNat) (by have := h.1; omega) fun t ht => ?_]
  · simp only [tPair_ok, tb1_ok, tSum_e, Tr.ofO_some, Tr.so_ok, Ot.fn_rt]
    rfl
  · have ht := h.2 t ht
    obtain ⟨a, b, c⟩ := t
    dsimp only at ht ⊢
    obtain ⟨i, rfl⟩ : ∃ i : Nat, a = i := ⟨a.toNat, by omega⟩
    obtain ⟨j, rfl⟩ : ∃ j : Nat, b = j := ⟨b.toNat, by omega⟩
    simp only [tPair_ok, Tr.bind_ok]
    rw [ip_ok hx (by omega), ip_ok hy (by omega), tb2_ok, tMul_r (pow_sm hx (by omega)), Tr.ofO_some, tb2_ok, tMul_r (pow_sm hy (by omega))]
    simp only [Int.toNat_natCast, Tr.ofO_some, Tr.bind_ok]
theorem okT_of {n : Nat} {r : List E} {d : DT} (hr : InR n r) (hn : n ≤ 10) (hl : r.length ≤ 12) (t : TD n r d) : okT (termL d) := by
  unfold termL
  refine ⟨?_, fun x hx => ?_⟩
  · rw [List.length_map]
    refine Nat.le_trans (List.length_filter_le _ _) ?_
    rw [len_srtK]
    refine Nat.le_trans t.sz (Nat.le_trans (Nat.pow_le_pow_right (n := 2) (by omega) hl) (by decide))
  · obtain ⟨k, hk, rfl⟩ := List.mem_map.mp hx
    obtain ⟨v, hv⟩ := some_of_ks (mem_srtK.mp (List.mem_filter.mp hk).1)
    have := t.ps k.1 k.2 v hv
    have c := cN_top hr
    dsimp only
    omega
end K95
end

section
set_option Elab.async false
set_option linter.all false
set_option maxRecDepth 100000
set_option maxHeartbeats 1000000
namespace K95
open PySem No Gp
/-! ### rows as polynomials -/
def rv : List Int → Int → Int
  | [], _ => 0
  | a :: l, q => a + q * rv l q
theorem rv_append (a b : List Int) (q : Int) : rv (a ++ b) q = rv a q + q ^ a.length * rv b q := by
  induction a with
  | nil => simp [rv]
  | cons x a ih =>
    show x + q * rv (a ++ b) q = x + q * rv a q + _
    rw [ih, List.length_cons, Int.pow_succ, Int.mul_add, Int.mul_comm (q ^ a.length) q, Int.mul_assoc]
    omega
theorem rv_zeros (k : Nat) (q : Int) : rv (List.replicate k 0) q = 0 := by
  induction k with
  | zero => rfl
  | succ k ih =>
    show 0 + q * rv (List.replicate k 0) q = 0
    rw [ih]
    simp
theorem rv_pad (a : List Int) (k : Nat) (q : Int) : rv (a ++ List.replicate k 0) q = rv a q := by
  rw [rv_append, rv_zeros]
  simp
theorem rv_map (c : Int) (a : List Int) (q : Int) : rv (a.map fun z => c * z) q = c * rv a q := by
  induction a with
  | nil => simp [rv]
  | cons x a ih =>
    show c * x + q * rv (a.map fun z => c * z) q = c * (x + q * rv a q)
    rw [ih, Int.mul_add, Int.mul_left_comm]
theorem rv_set : ∀ (a : List Int) (p : Nat) (x z q : Int), a[p]? = some x → rv (a.set p (x + z)) q = rv a q + z * q ^ p
  | [], p, x, z, q, h => by simp at h
  | y :: a, 0, x, z, q, h => by
    simp at h
    subst h
    show y + z + q * rv a q = y + q * rv a q + z * q ^ 0
    simp
    omega
  | y :: a, p + 1, x, z, q, h => by
    have ih := rv_set a p x z q (by simpa using h)
    show y + q * rv (a.set p (x + z)) q = y + q * rv a q + z * q ^ (p + 1)
    rw [ih, Int.mul_add, Int.pow_succ, Int.mul_left_comm, Int.mul_comm q (q ^ p)]
    omega
theorem map_at0 (a : List Int) : ∀ (L : Nat), a.length ≤ L → (up L).map (at0 a) = a ++ List.replicate (L - a.length) 0 := fun L h => by
  refine List.ext_getElem (by simp [len_up]; omega) fun i h1 h2 => ?_
  rw [List.length_map, len_up] at h1
  have e : (up L)[i]'(by rw [len_up]; exact h1) = (i : Int) := by simp [up, uptoI]
  rw [List.getElem_map, e]
  unfold at0
  rw [Int.toNat_natCast, List.getD_eq_getElem?_getD]
  by_cases c : i < a.length
  · rw [List.getElem?_eq_getElem c, List.getElem_append_left c]
    rfl
  · rw [List.getElem?_eq_none (by omega), List.getElem_append_right (by omega)]
    simp
theorem rv_madd (f g : Int → Int) (L : List Int) (q : Int) : rv (L.map fun k => f k + g k) q = rv (L.map f) q + rv (L.map g) q := by
  induction L with
  | nil => simp [rv]
  | cons x L ih =>
    show f x + g x + q * rv (L.map fun k => f k + g k) q = f x + q * rv (L.map f) q + (g x + q * rv (L.map g) q)
    rw [ih, Int.mul_add]
    omega
theorem rv_plus {a b : List Int} {L : Nat} (ha : a.length ≤ L) (hb : b.length ≤ L) (q : Int) : rv ((up L).map fun k => at0 a k + at0 b k) q = rv a q + rv b q := by
  rw [rv_madd, map_at0 a L ha, map_at0 b L hb, rv_pad, rv_pad]
theorem enum_up (l : List Int) : enumI l = (up l.length).map fun k => (k, at0 l k) := by
  unfold enumI
  refine List.ext_getElem (by simp [len_up]) fun i h1 h2 => ?_
  have hi : i < l.length := by simpa [len_up] using h2
  have e : (up l.length)[i]'(by rw [len_up]; exact hi) = (i : Int) := by simp [up, uptoI]
  rw [List.getElem_map, List.getElem_map, e, List.getElem_zip, List.getElem_range]
  unfold at0
  rw [Int.toNat_natCast, List.getD_eq_getElem?_getD, List.getElem?_eq_getElem hi]
  rfl
theorem at0_padc (a : List Int) (c : Nat) (k : Int) : at0 (a ++ List.replicate c 0) k = at0 a k := by
  unfold at0
  rw [List.getD_eq_getElem?_getD, List.getD_eq_getElem?_getD]
  by_cases h : k.toNat < a.length
  · rw [List.getElem?_append_left h]
  · rw [List.getElem?_append_right (by omega), List.getElem?_eq_none (l := a) (by omega), List.getElem?_replicate]
    split <;> rfl
/-! ### integer_times by 1 - q -/
theorem forO_two {α S L τ : Type} {pk : S → En} {f : α → S → Ot S S τ} {a b : α} {s s1 s2 : S} (h1 : f a s = .nx s1) (h2 : f b s1 = .nx s2) : (forO pk f [a, b] s : Ot S L τ) = .nx s2 := by
  unfold forO
  rw [h1]
  dsimp only
  unfold forO
  rw [h2]
  rfl
theorem aug_ok {S L τ : Type} {l : List Int} {p : Nat} {x v : Int} {k : List Int → Ot S L τ} {qi qv : Tr Int} (hp : l[p]? = some x) (hi : qi = .ok (p : Int)) (hv : qv = .ok v) : tAug l (fun a b : Int => a + b) qi qv k = k (l.set p (x + v)) := by
  rw [hi, hv]
  unfold tAug tRdP
  rw [Tr.so_ok, if_pos (by omega), Int.toNat_natCast, hp]
  rfl
theorem it_ok {one : List Int} (h : one.length ≤ 100) : ∃ row, q_integer_times (one, [1, -1], ()) = .ok row ∧ row.length = one.length + 1 ∧ ∀ q, rv row q = (1 - q) * rv one q := by
  unfold q_integer_times
  simp only [tCons'_ok, tLst_one, tPair_ok, tb1_ok, tLen_e, Tr.ofO_some, tb2_ok, tAdd_e, tSub_e, tMax2_e]
  have e0 : (if (one.length : Int) + (([1, -1] : List Int).length : Int) - 1 > 0 then (one.length : Int) + (([1, -1] : List Int).length : Int) - 1 else 0) = ((one.length + 1 : Nat) : Int) := by
    simp only [List.length_cons, List.length_nil]
    split <;> omega
  rw [e0, tRep_e (by omega), Tr.ofO_some, Tr.so_ok, Tr.bind_ok, Tr.bind_ok]
  have e1 : enumI ([1, -1] : List Int) = [(0, 1), (1, -1)] := rfl
  rw [e1, enum_up]
  refine tFor_ex (P := fun o => ∃ row, o.fn = .ok row ∧ row.length = one.length + 1 ∧ ∀ q, rv row q = (1 - q) * rv one q)
    (fun (p : List (Int × Int)) (s : List Int) => s.length = one.length + 1 ∧ ∀ q, rv s q = (1 - q) * rv (p.map (·.2)) q ∧ p = (up p.length).map fun k => (k, at0 one k)) ?_ (fun p x q s e hs => ?_) (fun s hs => ?_)
  · exact ⟨by simp, fun q => ⟨by rw [rv_zeros]; simp [rv], rfl⟩⟩
  · obtain ⟨hl, hq⟩ := hs
    have hp := (hq 0).2
    have hlen : p.length < one.length := by
      have := congrArg List.length e
      rw [List.length_map, len_up, List.length_append, List.length_cons] at this
      omega
    have hx : x = ((p.length : Int), at0 one p.length) := by
      have h1 : ((up one.length).map fun k => (k, at0 one k))[p.length]? = some x := by rw [e]; simp
      have e2 : (up one.length)[p.length]? = some (p.length : Int) := by
        unfold up uptoI
        rw [List.getElem?_map, List.getElem?_range hlen]
        simp
      rw [List.getElem?_map, e2] at h1
      exact (Option.some.inj h1).symm
    subst hx
    have g0 : s[p.length]? = some s[p.length] := List.getElem?_eq_getElem (by omega)
    have hl2 : p.length + 1 < (s.set p.length (s[p.length] + at0 one p.length * 1)).length := by simp; omega
    have g1 := List.getElem?_eq_getElem hl2
    refine ⟨(s.set p.length (s[p.length] + at0 one p.length * 1)).set (p.length + 1) ((s.set p.length (s[p.length] + at0 one p.length * 1))[p.length + 1] + at0 one p.length * -1), ?_, ?_⟩
    · refine (tFor_ok (s1 := (s.set p.length (s[p.length] + at0 one p.length * 1)).set (p.length + 1) ((s.set p.length (s[p.length] + at0 one p.length * 1))[p.length + 1] + at0 one p.length * -1)) (forO_two (s1 := s.set p.length (s[p.length] + at0 one p.length * 1)) ?_ ?_)).trans rfl
      · exact (aug_ok g0 rfl (v := at0 one p.length * 1) (by rw [tMul_r (by decide)]; rfl)).trans rfl
      · exact (aug_ok g1 rfl (v := at0 one p.length * -1) (by rw [tMul_r (by decide)]; rfl)).trans rfl
    · refine ⟨by simp; omega, fun q => ⟨?_, ?_⟩⟩
      · rw [rv_set _ _ _ _ _ g1, rv_set _ _ _ _ _ g0, (hq q).1, List.map_append, rv_append, List.length_map]
        show _ = (1 - q) * (rv (p.map (·.2)) q + q ^ p.length * (at0 one p.length + q * 0))
        rw [Int.mul_zero, Int.add_zero, Int.mul_add, Int.pow_succ]
        have : (1 - q) * (q ^ p.length * at0 one ↑p.length) = at0 one ↑p.length * 1 * q ^ p.length + at0 one ↑p.length * -1 * (q ^ p.length * q) := by
          rw [Int.sub_mul, Int.one_mul, Int.mul_one, Int.mul_neg, Int.mul_one, Int.neg_mul]
          rw [show q ^ p.length * at0 one ↑p.length = at0 one ↑p.length * q ^ p.length from Int.mul_comm _ _]
          rw [show q * (at0 one ↑p.length * q ^ p.length) = at0 one ↑p.length * (q ^ p.length * q) by ac_rfl]
          omega
        omega
      · rw [List.length_append, List.length_singleton, up_succ, List.map_append, ← hp]
        rfl
  · refine ⟨s, rfl, hs.1, fun q => ?_⟩
    rw [(hs.2 q).1, List.map_map]
    congr 2
    have := map_at0 one one.length (Nat.le_refl _)
    rw [Nat.sub_self, List.replicate_zero, List.append_nil] at this
    exact this
theorem vr_ok {ps : List (Int × Int)} {M : Nat} (hM : M ≤ 12) (h : ∀ p ∈ ps, 0 ≤ p.1 ∧ p.1 ≤ M) : ∃ row, q_value_row (ps, ()) = .ok row ∧ row.length ≤ M + 1 ∧ ∀ q, rv row q = sm (fun p => p.2 * (1 - q) ^ p.1.toNat) ps := by
  unfold q_value_row
  simp only [tLst_nil, Tr.so_ok]
  refine tFor_ex (P := fun o => ∃ row, o.fn = .ok row ∧ row.length ≤ M + 1 ∧ ∀ q, rv row q = sm (fun p => p.2 * (1 - q) ^ p.1.toNat) ps)
    (fun (p : List (Int × Int)) (s : List Int) => s.length ≤ M + 1 ∧ ∀ q, rv s q = sm (fun p => p.2 * (1 - q) ^ p.1.toNat) p) ?_ (fun p x q s e hs => ?_) (fun s hs => ?_)
  · exact ⟨by simp, fun q => rfl⟩
  case refine_3 => exact ⟨s, rfl, hs⟩
  obtain ⟨hl, hq⟩ := hs
  have hx := h x (by rw [e]; simp)
  obtain ⟨e1, number⟩ := x
  obtain ⟨k, rfl⟩ : ∃ k : Nat, e1 = k := ⟨e1.toNat, by have := hx.1; omega⟩
  have hk : k ≤ M := by have := hx.2; dsimp only at this; omega
  simp only [tCons'_ok, tLst_one, Tr.so_ok, tb1_ok, tNeg_e, Tr.ofO_some, tLst_two, tPair_ok, Tr.bind_ok]
  rw [tRng1_ok (by omega)]
  refine tFor_ex (P := fun o => ∃ s', o = .nx s' ∧ s'.length ≤ M + 1 ∧ ∀ q, rv s' q = sm (fun p => p.2 * (1 - q) ^ p.1.toNat) (p ++ [((k : Int), number)]))
    (fun (t : List Int) (row : List Int) => row.length = t.length + 1 ∧ ∀ q, rv row q = number * (1 - q) ^ t.length) ?_ (fun t x r row e' hr => ?_) (fun row hrow => ?_)
  · exact ⟨rfl, fun q => by simp [rv]⟩
  · have ht : t.length < k := by
      have := congrArg List.length e'
      rw [uptoI_len, List.length_append, List.length_cons] at this
      omega
    obtain ⟨row', g, g1, g2⟩ := it_ok (one := row) (by rw [hr.1]; omega)
    refine ⟨row', ?_, by rw [g1, hr.1]; simp, fun q => ?_⟩
    · rw [g]
      rfl
    · rw [g2, hr.2, List.length_append, List.length_singleton, Int.pow_succ]
      ac_rfl
  · obtain ⟨g1, g2⟩ := hrow
    rw [uptoI_len] at g1 g2
    have em2 : tb1 tMax2 (Tr.ok ((s.length : Int), (row.length : Int), ())) = .ok ((max s.length row.length : Nat) : Int) := max_len s row
    refine ⟨(up (max s.length row.length)).map fun k => at0 s k + at0 row k, ?_, by rw [List.length_map, len_up]; omega, fun q => ?_⟩
    · simp only [tLen_e, Tr.ofO_some, tPair_ok]
      rw [em2, Tr.so_ok]
      have p1 := pad_ok (a := s) (L := max s.length row.length) (Nat.le_max_left _ _) (by omega)
      have p2 := pad_ok (a := row) (L := max s.length row.length) (Nat.le_max_right _ _) (by omega)
      refine (congrArg (fun q : Tr (List Int) => q.so _) p1).trans ?_
      rw [Tr.so_ok]
      refine (congrArg (fun q : Tr (List Int) => q.so _) p2).trans ?_
      rw [Tr.so_ok, enum_up]
      have l1 : (s ++ List.replicate (max s.length row.length - s.length) 0).length = max s.length row.length := by simp; omega
      rw [l1, lcQ_map (g := fun x : Int × Int => x.2 + at0 row x.1) (by rw [List.length_map, len_up]; omega) fun x hx => ?_]
      · rw [Tr.so_ok, List.map_map]
        congr 1
        refine List.map_congr_left fun k _ => ?_
        show at0 (s ++ _) k + at0 row k = _
        rw [at0_padc]
      · obtain ⟨k, hk, rfl⟩ := List.mem_map.mp hx
        have := mem_up.mp hk
        dsimp only
        rw [tb2_ok, at0_pad this.1 (by omega)]
        rfl
    · rw [rv_plus (Nat.le_max_left _ _) (Nat.le_max_right _ _), hq, g2, sm_append, sm_cons, sm_nil]
      simp
end K95
end

section
set_option Elab.async false
set_option linter.all false
set_option maxRecDepth 100000
set_option maxHeartbeats 1000000
namespace K95
open PySem No Gp
/-! ### without_zeros -/
def okRow (r : List Int) : Prop := r = [] ∨ ∃ l a, r = l ++ [a] ∧ a ≠ 0
theorem wz_loop {τ L : Type} {pk : List Int → En} {c : List Int → Tr Bool} {f : List Int → Ot (List Int) (List Int) τ} (hc0 : c [] = .ok false) (hc : ∀ l a, c (l ++ [a]) = .ok (decide (a = 0))) (hf : ∀ l a, f (l ++ [a]) = .nx l) :
    ∀ (n : Nat) (l : List Int), l.length < n → ∃ r, (whileO pk c f n l : Ot (List Int) L τ) = .nx r ∧ (∀ q, rv r q = rv l q) ∧ r.length ≤ l.length ∧ okRow r
  | 0, l, h => by omega
  | n + 1, l, h => by
    rcases List.eq_nil_or_concat l with rfl | ⟨l', a, rfl⟩
    · refine ⟨[], ?_, fun q => rfl, Nat.le_refl _, .inl rfl⟩
      unfold whileO
      rw [hc0]
      rfl
    · rw [List.concat_eq_append] at h ⊢
      unfold whileO
      rw [hc]
      by_cases ha : a = 0
      · subst ha
        rw [List.length_append, List.length_singleton] at h
        obtain ⟨r, h1, h2, h3, h4⟩ := wz_loop (pk := pk) (L := L) hc0 hc hf n l' (by omega)
        refine ⟨r, ?_, fun q => ?_, by rw [List.length_append]; omega, h4⟩
        · rw [decide_eq_true rfl, Tr.so_ok, if_pos rfl, hf]
          exact h1
        · rw [h2, rv_append]
          simp [rv]
      · refine ⟨l' ++ [a], ?_, fun q => rfl, Nat.le_refl _, .inr ⟨l', a, rfl, ha⟩⟩
        rw [decide_eq_false ha]
        rfl
theorem wz_ok {l : List Int} (h : l.length ≤ 1000) : ∃ r, q_without_zeros (l, ()) = .ok r ∧ (∀ q, rv r q = rv l q) ∧ r.length ≤ l.length ∧ okRow r := by
  unfold q_without_zeros
  simp only [tPair_ok, tb1_ok, tList_e, Tr.ofO_some, Tr.so_ok, tLst_nil]
  unfold tWhile
  have key := wz_loop (L := Unit) (τ := List Int)
    (pk := fun (s : (List Int)) => [.sh (Emb.e l), .ow false (EmbM.m s)])
    (c := fun found => (tBor (tAndT (tb2 tNe (Tr.ok found) (Tr.ok [])) (tb2 tEq (tb2 tIx (Tr.ok found) (Tr.ofO (tNeg (1 : Int)))) (Tr.ok (0 : Int))))))
    (f := fun found => ((if found.isEmpty = true then Tr.bad else Tr.ok found.dropLast).so fun found => .nx found))
    rfl (fun l a => by
      rw [tb2_ok, tNe_li, show decide (l ++ [a] = []) = false by simp, tNeg_e, Tr.ofO_some, Tr.ofO_some, tb2_ok, tIx_last]
      rfl) (fun l a => by
      rw [if_neg (by simp), Tr.so_ok]
      simp) No.fuel l (Nat.lt_of_le_of_lt h (by decide))
  obtain ⟨r, h1, h2⟩ := key
  refine ⟨r, ?_, h2⟩
  rw [h1]
  rfl
/-! ### the value of a row -/
theorem rv_foldr (row : List Int) (q : Int) : row.reverse.foldl (fun s a => s * q + a) 0 = rv row q := by
  rw [List.foldl_reverse]
  induction row with
  | nil => rfl
  | cons a row ih =>
    rw [List.foldr_cons, ih, Int.mul_comm, Int.add_comm]
    rfl
theorem rva_ok {row : List Int} {q : Int} (hq : -10 ≤ q ∧ q ≤ 10) : q_row_value (row, q, ()) = .ok (rv row q) := by
  unfold q_row_value
  dsimp only
  rw [Tr.so_ok, Tr.bind_ok, tFor_ok (forO_map (g := fun s a => s * q + a) fun a _ s => ?_)]
  · rw [rv_foldr]
    rfl
  · rw [tb2_ok, tMul_r (smB_lt (by omega) (by omega))]
    rfl
/-! ### colour_row, flow_row -/
def sgn (k : Nat) : Int := 1 - 2 * ((k : Int) % 2)
theorem band_ok : ∀ a : Nat, a < 40 → Builtin.bitAnd (a : Int) 1 = (a : Int) % 2 := by
  decide
theorem sign_ok {k : Nat} (h : k < 40) {q : Tr Int} (hq : q = .ok (k : Int)) : tb2 tSub (Tr.ok (1 : Int)) (tb2 tMul (Tr.ok (2 : Int)) (tb2 tBAnd q (Tr.ok (1 : Int)))) = .ok (sgn k) := by
  rw [hq, tb2_ok, show tBAnd (k : Int) 1 = some (Builtin.bitAnd (k : Int) 1) from rfl, band_ok k h, Tr.ofO_some, tb2_ok, tMul_l (by decide), Tr.ofO_some, tb2_ok]
  rfl
theorem sgn_sm (k : Nat) : smB (sgn k) = true := smB_lt (by unfold sgn; omega) (by unfold sgn; omega)
section
variable {n : Nat} {es : List E} {d : DT} (h : ckG n es) (hq : q_tutte (n, es, ()) = .ok (termL d)) (t : TD n es.reverse d)
include h hq t
theorem term_bd : ∀ x ∈ termL d, 0 ≤ x.a ∧ x.a + cN n es.reverse ≤ n ∧ 0 ≤ x.b ∧ x.b + n ≤ es.length + cN n es.reverse := fun x hx => by
  unfold termL at hx
  obtain ⟨k, hk, rfl⟩ := List.mem_map.mp hx
  obtain ⟨v, hv⟩ := some_of_ks (mem_srtK.mp (List.mem_filter.mp hk).1)
  have := t.ps k.1 k.2 v hv
  rw [List.length_reverse] at this
  exact this.2
theorem term_len : (termL d).length ≤ 10000 := (okT_of (fun a ha => h.2.2.2 a (List.mem_reverse.mp ha)) h.2.1 (by rw [List.length_reverse]; exact h.2.2.1) t).1
theorem co_ok : ∃ row, q_colour_row (n, es, ()) = .ok row ∧ okRow row ∧ row.length ≤ n + 1 ∧ ∀ q, rv row q = sgn (n - cN n es.reverse) * (q ^ cN n es.reverse * tv (termL d) (1 - q) 0) := by
  have hr : InR n es.reverse := fun a ha => h.2.2.2 a (List.mem_reverse.mp ha)
  have c0 := cN_top hr
  have hb := term_bd h hq t
  have hz := term_len h hq t
  unfold q_colour_row
  have h1 := h.1
  have h2 := h.2.1
  simp only [tPair_ok, Tr.bind_ok]
  rw [hq, Tr.so_ok, cp_ok h.2.2.2 (by omega), Tr.so_ok]
  have e1 : lcQ (fun (xξ : T3 Int Int Int) => tFil (tb2 tEq (Tr.ok xξ.b) (Tr.ok (0 : Int))) (tb1 tTup2 (Tr.ok (xξ.a, xξ.c, ())))) (termL d) = .ok (((termL d).filter fun x => decide (x.b = 0)).map fun x => (x.a, x.c)) :=
    lcQ_fil (fun x : T3 Int Int Int => decide (x.b = 0)) (fun x : T3 Int Int Int => (x.a, x.c)) (by omega) fun x _ => by
      obtain ⟨a, b, c⟩ := x
      simp only [tb2_ok, tEq_int, Tr.ofO_some, tPair_ok, tb1_ok, tTup2_e, tFil_ok]
  obtain ⟨row, g1, g2, g3⟩ := vr_ok (ps := ((termL d).filter fun x => decide (x.b = 0)).map fun x => (x.a, x.c)) (M := n - cN n es.reverse) (by omega) fun p hp => by
    obtain ⟨x, hx, rfl⟩ := List.mem_map.mp hp
    have := hb x (List.mem_filter.mp hx).1
    dsimp only
    omega
  rw [e1, tPair_ok, Tr.bind_ok, g1, Tr.so_ok, sign_ok (k := n - cN n es.reverse) (by omega) (by rw [tb2_ok, tSub_e, Tr.ofO_some]; congr 1; omega), Tr.so_ok]
  have e2 : lcQ (fun (entry : Int) => ((tb2 tMul (Tr.ok (sgn (n - cN n es.reverse))) (Tr.ok entry)).bind fun y => Tr.ok (some y))) row = .ok (row.map fun z => sgn (n - cN n es.reverse) * z) :=
    lcQ_map (by omega) fun x _ => by
      rw [tb2_ok, tMul_l (sgn_sm _)]
      rfl
  rw [tCons'_ok, tLst_one, tb2_ok, tRep_e (by omega), Tr.ofO_some, e2, tb2_ok, tCat_e (by simp; omega), Tr.ofO_some, tPair_ok, Tr.bind_ok]
  obtain ⟨r, w1, w2, w3, w4⟩ := wz_ok (l := List.replicate (cN n es.reverse) 0 ++ row.map fun z => sgn (n - cN n es.reverse) * z) (by simp; omega)
  refine ⟨r, by rw [w1]; rfl, w4, ?_, fun q => ?_⟩
  · rw [List.length_append, List.length_replicate, List.length_map] at w3
    omega
  · rw [w2, rv_append, rv_zeros, List.length_replicate, rv_map, g3, sm_map]
    have : sm (fun x : T3 Int Int Int => x.c * (1 - q) ^ x.a.toNat) ((termL d).filter fun x => decide (x.b = 0)) = tv (termL d) (1 - q) 0 := by
      unfold tv
      generalize hL : termL d = L at hb
      clear hL
      induction L with
      | nil => rfl
      | cons x L ih =>
        have ih := ih fun y hy => hb y (List.mem_cons_of_mem _ hy)
        have hx := hb x List.mem_cons_self
        rw [List.filter_cons]
        by_cases hb0 : x.b = 0
        · rw [if_pos (decide_eq_true hb0), sm_cons, sm_cons, ih, hb0]
          simp
        · rw [if_neg (by simpa using hb0), sm_cons, ih, Int.zero_pow (by omega)]
          simp
    rw [this]
    show 0 + q ^ _ * (sgn _ * _) = _
    rw [Int.zero_add, Int.mul_left_comm]
end
end K95
end

section
set_option Elab.async false
set_option linter.all false
set_option maxRecDepth 100000
set_option maxHeartbeats 1000000
namespace K95
open PySem No Gp
/-! ### _law_flows -/
theorem set_up {n : Nat} {f : Int → Int} {i z : Int} (h0 : 0 ≤ i) (h : i < n) : ((up n).map f).set i.toNat z = (up n).map fun v => if v = i then z else f v := by
  refine List.ext_getElem (by simp) fun j h1 h2 => ?_
  have hj : j < n := by simpa [len_up] using h2
  have e : (up n)[j]'(by rw [len_up]; exact hj) = (j : Int) := by simp [up, uptoI]
  rw [List.getElem_set, List.getElem_map, List.getElem_map, e]
  by_cases c : i.toNat = j
  · rw [if_pos c, if_pos (by omega)]
  · rw [if_neg c, if_neg (by omega)]
theorem put_up {n : Nat} {f : Int → Int} {i z : Int} (h0 : 0 ≤ i) (h : i < n) : tPut ((up n).map f) i z = .ok ((up n).map fun v => if v = i then z else f v) := by
  unfold tPut
  rw [No.ixN_nn h0 (by rw [List.length_map, len_up]; omega)]
  dsimp only
  rw [set_up h0 h]
theorem es_get {α : Type} {es : List α} {k : Nat} (h : k < es.length) : tIx es (k : Int) = some es[k] := tIx_e (List.getElem?_eq_getElem h)
theorem app_ok {α : Type} {l : List α} {a : α} (h : l.length ≤ 10000000) : tApp l a = .ok (l ++ [a]) := if_pos (show l.length < 16777216 by omega)
end K95
end

section
set_option Elab.async false
set_option linter.all false
set_option maxRecDepth 100000
set_option maxHeartbeats 1000000
namespace K95
open PySem No Gp
/-! ### draws -/
theorem cell_ok (s : Scr) (k : Nat) (hk : k ≤ 1000) : ∃ z, q_law_cell (s, (k : Int), ()) = .ok z := by
  have hge : ∀ i : Int, 0 ≤ i → i < s.l.length → ∃ z, tIxS s i = some z := fun i h0 h1 => by
    refine ⟨s.l[i.toNat]'(by omega), ?_⟩
    have := tIx_i (l := s.l) h0 (List.getElem?_eq_getElem (show i.toNat < s.l.length by omega))
    exact this
  have hp : tb2 tPow (Tr.ok (10 : Int)) (Tr.ok (9 : Int)) = .ok 1000000000 := rfl
  have fin : ∀ cell : Int, ∃ z, (((tb2 tMod (tb1 tInt (tPair (tb2 tAdd (tb2 tMul (Tr.ok cell) (Tr.ok (48271 : Int))) (tb2 tMul (Tr.ok (69621 : Int)) (Tr.ok (k : Int)))) (Tr.ok ()))) (Tr.ok (2147483647 : Int))).so fun cell => ((tb2 tMod (tb1 tInt (tPair (tb2 tAdd (tb2 tMul (Tr.ok cell) (Tr.ok (69621 : Int))) (tb2 tMul (Tr.ok (48271 : Int)) (tb2 tDiv (Tr.ok cell) (Tr.ok (1000 : Int))))) (Tr.ok ()))) (Tr.ok (2147483629 : Int))).so fun a => .rt a)) : Ot Unit Unit Int).fn = .ok z := fun cell => by
    rw [tb2_ok, tMul_r (by decide), Tr.ofO_some, tb2_ok, tMul_l (by decide), Tr.ofO_some, tb2_ok, tAdd_e, Tr.ofO_some, tPair_ok, tb1_ok, tInt_e, Tr.ofO_some, tb2_ok, tMod_e (by decide), Tr.ofO_some, Tr.so_ok]
    rw [tb2_ok, tMul_r (by decide), Tr.ofO_some, tb2_ok, tDiv_e (by decide) (by decide), Tr.ofO_some, tb2_ok, tMul_l (by decide), Tr.ofO_some, tb2_ok, tAdd_e, Tr.ofO_some, tPair_ok, tb1_ok, tInt_e, Tr.ofO_some, tb2_ok, tMod_e (by decide), Tr.ofO_some, Tr.so_ok]
    exact ⟨_, rfl⟩
  have hls : tb1 tLenS (tPair (Tr.ok s) (Tr.ok ())) = .ok (s.l.length : Int) := rfl
  unfold q_law_cell
  dsimp only
  rw [hls, hp, tb2_ok, tLt_e, Tr.ofO_some]
  have mid : ∀ o : Ot Unit Unit Int, (∃ z, o.fn = .ok z) → ∃ z, o.fn = .ok z := fun o h => h
  have main : ∃ z, (((tb2 tAdd (tb2 tMul (Tr.ok (7 : Int)) (Tr.ok (k : Int))) (Tr.ok (1 : Int))).so fun cell => (Ot.bind (fun (s' : Int) => [.sh (Emb.e s), .sh (Emb.e (k : Int)), .sh (Emb.e s')]) ((tb2 tGt (Tr.ok (s.l.length : Int)) (Tr.ok (0 : Int))).so fun c => if c = true then ((tb2 tAdd (Tr.ok cell) (tb2 tMul (Tr.ok (31 : Int)) (tb2 tIxS (Tr.ok s) (tb2 tMod (tb1 tInt (tPair (Tr.ok (k : Int)) (Tr.ok ()))) (Tr.ok (s.l.length : Int)))))).so fun cell => .nx cell) else .nx cell) (fun (sξ : Int) => match sξ with | cell => ((tb2 tMod (tb1 tInt (tPair (tb2 tAdd (tb2 tMul (Tr.ok cell) (Tr.ok (48271 : Int))) (tb2 tMul (Tr.ok (69621 : Int)) (Tr.ok (k : Int)))) (Tr.ok ()))) (Tr.ok (2147483647 : Int))).so fun cell => ((tb2 tMod (tb1 tInt (tPair (tb2 tAdd (tb2 tMul (Tr.ok cell) (Tr.ok (69621 : Int))) (tb2 tMul (Tr.ok (48271 : Int)) (tb2 tDiv (Tr.ok cell) (Tr.ok (1000 : Int))))) (Tr.ok ()))) (Tr.ok (2147483629 : Int))).so fun a => .rt a))))) : Ot Unit Unit Int).fn = .ok z := by
    rw [tb2_ok, tMul_l (by decide), Tr.ofO_some, tb2_ok, tAdd_e, Tr.ofO_some, Tr.so_ok, tb2_ok, tGt_e, Tr.ofO_some, Tr.so_ok]
    by_cases hl : (0 : Int) < s.l.length
    · rw [decide_eq_true hl, if_pos rfl, tPair_ok, tb1_ok, tInt_e, Tr.ofO_some, tb2_ok, tMod_e hl, Tr.ofO_some, tb2_ok]
      obtain ⟨z, hz⟩ := hge ((k : Int) % s.l.length) (Int.emod_nonneg _ (by omega)) (Int.emod_lt_of_pos _ hl)
      rw [hz, Tr.ofO_some, tb2_ok, tMul_l (by decide), Tr.ofO_some, tb2_ok, tAdd_e, Tr.ofO_some, Tr.so_ok, Ot.bind_nx]
      exact fin _
    · rw [decide_eq_false hl, if_neg (by decide), Ot.bind_nx]
      exact fin _
  by_cases h : (k : Int) < s.l.length
  · obtain ⟨z, hz⟩ := hge k (by omega) h
    rw [decide_eq_true h, tAndT_t, tb2_ok, hz, Tr.ofO_some, tb2_ok, tGe_e, Tr.ofO_some, Tr.so_ok]
    by_cases c : (1000000000 : Int) ≤ z
    · rw [decide_eq_true c, if_pos rfl]
      exact ⟨z, rfl⟩
    · rw [decide_eq_false c, if_neg (by decide), Ot.bind_nx]
      exact main
  · rw [decide_eq_false h, tAndT_f, Tr.so_ok, if_neg (by decide), Ot.bind_nx]
    exact main
theorem big_ok (s : Scr) : ∃ z, q_law_big (s, 0, 8, ()) = .ok [z] := by
  unfold q_law_big
  dsimp only
  rw [Tr.so_ok, show tRng1 (Tr.ok (8 : Int)) = .ok (uptoI 0 8) from rfl]
  refine tFor_ex (P := fun o => ∃ z, o.fn = .ok [z]) (fun (_ : List Int) (_ : Int) => True) trivial (fun p x q z e _ => ?_) fun z _ => ⟨z, rfl⟩
  have hx := mem_up.mp (show x ∈ up 8 by rw [show up 8 = uptoI 0 8 from rfl, e]; simp)
  obtain ⟨k, rfl⟩ : ∃ k : Nat, x = k := ⟨x.toNat, by omega⟩
  obtain ⟨w, hw⟩ := cell_ok s k (by omega)
  rw [tb2_ok, tMul_r (by decide), Tr.ofO_some, tb2_ok, tAdd_e, Tr.ofO_some, tPair_ok, tPair_ok, Tr.bind_ok, Int.zero_add, hw]
  exact ⟨_, rfl, trivial⟩
theorem take_ok (z : Int) {m : Int} (h0 : 0 < m) (h : m < 1000000000) : q_law_take ([z], m, ()) = .ok (z % m, [z / m]) := by
  unfold q_law_take
  dsimp only
  have e0 : tb2 tIx (Tr.ok [z]) (Tr.ok (0 : Int)) = .ok z := rfl
  rw [e0, tPair_ok, tb1_ok, tInt_e, Tr.ofO_some, tb2_ok, tMod_e h0, Tr.ofO_some, tBor_ok, Tr.so_ok, tb2_ok, tDiv_e h0 h, Tr.ofO_some, tPair_ok, tb1_ok, tInt_e, Tr.ofO_some, tBor_ok, Tr.so_ok, Tr.so_ok]
  rfl
theorem call_ok {α : Type} {qf : List Int × (Int × Unit) → Tr (α × List Int)} {st : List Int} {m : Int} : sCall qf st (tPair (Tr.ok m) (Tr.ok ())) = qf (st, m, ()) := rfl
theorem soS_ok {α S L τ : Type} (pq : List Int → En) (a : α × List Int) (f : α × List Int → Ot S L τ) : Tr.soS pq (.ok a) f = f a := rfl
@[simp] theorem sb2_ok {α β γ : Type} (f : α → β → Option γ) (a : α) (st : List Int) (qb : List Int → Tr (β × List Int)) : sb2 f (.ok (a, st)) qb = (qb st).bind fun y => pur y.2 (.ofO (f a y.1)) := rfl
theorem lg_ok {n most : Nat} (hn : 1 ≤ n) (hn2 : n ≤ 10) (hm : most ≤ 7) (z : Int) : ∃ es z', q_law_graph ([z], (n : Int), (most : Int), ()) = .ok (es, [z']) ∧ InR n es ∧ es.length ≤ most := by
  unfold q_law_graph
  simp only [tLst_nil, Tr.so_ok, tb2_ok, tAdd_e, Tr.ofO_some]
  rw [call_ok, take_ok z (by omega) (by omega)]
  have h0 := Int.emod_nonneg z (show ((most : Int) + 1) ≠ 0 by omega)
  have h1 := Int.emod_lt_of_pos z (show (0 : Int) < (most : Int) + 1 by omega)
  generalize z % ((most : Int) + 1) = cnt at h0 h1
  obtain ⟨c, rfl⟩ : ∃ c : Nat, cnt = c := ⟨cnt.toNat, by omega⟩
  have eR : ∀ w : List Int, sRng1 (.ok ((c : Int), w)) = .ok (uptoI 0 c, w) := fun w => by
    show (if inR (c : Int) = true then Tr.ok (uptoI 0 (c : Int).toNat, w) else .bad) = _
    rw [if_pos (inR_lt (by omega) (by omega)), Int.toNat_natCast]
  rw [eR]
  unfold tForS
  rw [soS_ok]
  have key : ∀ o : Ot Unit Unit ((List E) × List Int), (∃ es z', o = .rt (es, [z']) ∧ InR n es ∧ es.length ≤ most) → ∃ es z', o.fn = .ok (es, [z']) ∧ InR n es ∧ es.length ≤ most := fun o ⟨es, z', e, h⟩ => ⟨es, z', by rw [e]; rfl, h⟩
  refine key _ ?_
  refine tFor_ex (S := List Int × List E) (xs := uptoI 0 c) (P := fun o => ∃ es z', o = .rt (es, [z']) ∧ InR n es ∧ es.length ≤ most)
    (fun (p : List Int) (s : List Int × List E) => (∃ z', s.1 = [z']) ∧ InR n s.2 ∧ s.2.length = p.length) ?_ (fun p x q s e hs => ?_) (fun s hs => ?_)
  · exact ⟨⟨_, rfl⟩, fun a ha => by simp at ha, rfl⟩
  · obtain ⟨st, es⟩ := s
    obtain ⟨⟨z1, hz⟩, hi, hl⟩ := hs
    dsimp only at hz hi hl
    subst hz
    have hpl : p.length < c := by
      have := congrArg List.length e
      rw [uptoI_len, List.length_append, List.length_cons] at this
      omega
    dsimp only
    rw [call_ok, take_ok z1 (by omega) (by omega), soS_ok]
    dsimp only
    have a0 := Int.emod_nonneg z1 (show (n : Int) ≠ 0 by omega)
    have a1 := Int.emod_lt_of_pos z1 (show (0 : Int) < n by omega)
    generalize z1 % (n : Int) = one at a0 a1
    generalize z1 / (n : Int) = z2
    rw [call_ok, take_ok z2 (by omega) (by omega), soS_ok]
    dsimp only
    have b0 := Int.emod_nonneg z2 (show (n : Int) ≠ 0 by omega)
    have b1 := Int.emod_lt_of_pos z2 (show (0 : Int) < n by omega)
    generalize z2 % (n : Int) = two at b0 b1
    generalize z2 / (n : Int) = z3
    have fin : ∀ (w : List Int) (t : Int), 0 ≤ t → t < n → (∃ z', w = [z']) → ∃ s' : List Int × List E, ((tb1 tTup2 (tPair (Tr.ok one) (tPair (Tr.ok t) (Tr.ok ())))).so fun aξ => (tApp es aξ).so fun edges => (.nx (w, edges) : Ot (List Int × List E) (List Int × List E) ((List E) × List Int))) = .nx s' ∧ (∃ z', s'.1 = [z']) ∧ InR n s'.2 ∧ s'.2.length = (p ++ [x]).length := fun w t t0 t1 hw => by
      refine ⟨(w, es ++ [(one, t)]), ?_, hw, fun a ha => ?_, by simp [hl]⟩
      · rw [tPair_ok, tPair_ok, tb1_ok, tTup2_e, Tr.ofO_some, Tr.so_ok]
        rw [app_ok (by omega)]
        rfl
      · rcases List.mem_append.mp ha with ha | ha
        · exact hi a ha
        · rw [List.mem_singleton.mp ha]
          exact ⟨⟨a0, a1⟩, ⟨t0, t1⟩⟩
    unfold tIfS
    by_cases c1 : one = two
    · have e1 : sAndT (pur [z3] (Tr.ofO (tEq one two))) (fun state => (sb2 tGt (sCall q_law_take state (tPair (Tr.ok (4 : Int)) (Tr.ok ()))) (fun state => (pur state (Tr.ok (0 : Int)))))) = .ok (decide (0 < z3 % 4), [z3 / 4]) := by
        rw [tEq_int, decide_eq_true c1]
        show sb2 tGt (sCall q_law_take [z3] (tPair (Tr.ok (4 : Int)) (Tr.ok ()))) (fun state => pur state (Tr.ok (0 : Int))) = _
        rw [call_ok, take_ok z3 (by decide) (by decide)]
        rfl
      rw [e1, soS_ok]
      dsimp only
      by_cases c2 : 0 < z3 % 4
      · rw [decide_eq_true c2, if_pos rfl, tPair_ok, tb1_ok, tInt_e, Tr.ofO_some, tb2_ok, tMod_e (by omega), Tr.ofO_some, Tr.so_ok, Ot.bind_nx]
        exact fin _ _ (Int.emod_nonneg _ (by omega)) (Int.emod_lt_of_pos _ (by omega)) ⟨_, rfl⟩
      · rw [decide_eq_false c2, if_neg (by decide), Ot.bind_nx]
        exact fin _ _ b0 b1 ⟨_, rfl⟩
    · have e1 : sAndT (pur [z3] (Tr.ofO (tEq one two))) (fun state => (sb2 tGt (sCall q_law_take state (tPair (Tr.ok (4 : Int)) (Tr.ok ()))) (fun state => (pur state (Tr.ok (0 : Int)))))) = .ok (false, [z3]) := by
        rw [tEq_int, decide_eq_false c1]
        rfl
      rw [e1, soS_ok]
      dsimp only
      rw [if_neg (by decide), Ot.bind_nx]
      exact fin _ _ b0 b1 ⟨_, rfl⟩
  · obtain ⟨st, es⟩ := s
    obtain ⟨⟨z1, hz⟩, hi, hl⟩ := hs
    dsimp only at hz hi hl
    subst hz
    rw [uptoI_len] at hl
    exact ⟨es, z1, rfl, hi, by omega⟩
end K95
end

section
set_option Elab.async false
set_option linter.all false
set_option maxRecDepth 100000
set_option maxHeartbeats 4000000
namespace K95
open PySem No Gp
/-! ### _law_has_circle -/
theorem circ_loop {τ L : Type} {pk : List Int × List E → En} {f : Int → List Int × List E → Ot (List Int × List E) (List Int × List E) τ}
    (hf : ∀ x left arr, left.length ≤ 1000 → arr.length ≤ 1000 → f x (left, arr) = if srcs left arr = [] then .bk (left, arr) else .nx (left.filter fun v => !decide (v ∈ srcs left arr), arr.filter fun e => !decide (e.1 ∈ srcs left arr))) :
    ∀ (xs : List Int) (left : List Int) (arr : List E), left.length ≤ 1000 → arr.length ≤ 1000 → ∃ s' : List Int × List E, (forO pk f xs (left, arr) : Ot (List Int × List E) L τ) = .nx s' ∧ s'.1 = peel xs.length left arr
  | [], left, arr, _, _ => ⟨_, rfl, rfl⟩
  | x :: xs, left, arr, h1, h2 => by
    unfold forO
    rw [hf x left arr h1 h2]
    show ∃ s' : List Int × List E, _ ∧ s'.1 = (if srcs left arr = [] then left else _)
    by_cases c : srcs left arr = []
    · rw [if_pos c, if_pos c]
      exact ⟨_, rfl, rfl⟩
    · rw [if_neg c, if_neg c]
      exact circ_loop hf xs _ _ (Nat.le_trans (List.length_filter_le _ _) h1) (Nat.le_trans (List.length_filter_le _ _) h2)
theorem src_ok {left : List Int} {arr : List E} (h1 : left.length ≤ 1000) (h2 : arr.length ≤ 1000) :
    ((Tr.ok left).bind (lcQ fun (node : Int) => (tFil (tb2 tEq ((Tr.ok arr).bind (lcQ fun (pair : Int × Int) => (tFil (tb2 tEq (tb2 tIx1 (Tr.ok pair) (Tr.ok (1 : Int))) (Tr.ok node)) (Tr.ok pair)))) (tLst (Tr.ok ([] : List (Int × Int))))) (Tr.ok node)))) = .ok (srcs left arr) := by
  rw [Tr.bind_ok, lcQ_fil (fun v => decide (arr.filter (fun e => decide (e.2 = v)) = [])) (fun v => v) (by omega) fun v _ => ?_]
  · rw [List.map_id']
    rfl
  · rw [Tr.bind_ok, lcQ_fil (fun e => decide (e.2 = v)) (fun e => e) (by omega) fun e _ => ?_]
    · rw [List.map_id', tLst_nil, tb2_ok, tEq_lp, Tr.ofO_some, tFil_ok]
    · rw [tb2_ok, tIx1_e, Tr.ofO_some, tb2_ok, tEq_int, Tr.ofO_some, tFil_ok]
theorem hc_ok {n : Nat} {o : List E} (hn : n ≤ 100) (hl : o.length ≤ 100) : q_law_has_circle ((n : Int), o, ()) = .ok (!decide (peel n (up n) o = [])) := by
  unfold q_law_has_circle
  dsimp only
  rw [tLr1_up (by omega), Tr.so_ok, show tb1 tList (tPair (Tr.ok o) (Tr.ok ())) = .ok o from rfl, Tr.so_ok, tRng1_ok (by omega)]
  have hlen := uptoI_len 0 n
  refine tFor_of (P := fun q => q.fn = .ok (!decide (peel n (up n) o = []))) (I := fun s => s.1 = peel (uptoI 0 n).length (up n) o) (circ_loop (fun x left arr h1 h2 => ?_) (uptoI 0 n) (up n) o (by rw [len_up]; omega) (by omega)) fun s' hs => ?_
  · dsimp only
    rw [src_ok h1 h2, Tr.so_ok, tLst_nil, tb2_ok, tEq_li, Tr.ofO_some, tBor_ok, Tr.so_ok]
    by_cases c : srcs left arr = []
    · rw [decide_eq_true c, if_pos rfl, if_pos c]
      rfl
    · rw [decide_eq_false c, if_neg (by decide), if_neg c, Ot.bind_nx]
      rw [Tr.bind_ok, lcQ_fil (fun v => !decide (v ∈ srcs left arr)) (fun v => v) (by omega) fun v _ => ?_]
      · rw [List.map_id', Tr.so_ok, Tr.bind_ok, lcQ_fil (fun e => !decide (e.1 ∈ srcs left arr)) (fun e => e) (by omega) fun e _ => ?_]
        · rw [List.map_id', Tr.so_ok]
        · rw [tb2_ok, tIx0_e, Tr.ofO_some, tb2_ok, tNotInL_e, Tr.ofO_some, tFil_ok, List.contains_eq_mem]
      · rw [tb2_ok, tNotInL_e, Tr.ofO_some, tFil_ok, List.contains_eq_mem]
  · obtain ⟨left, arr⟩ := s'
    dsimp only at hs ⊢
    rw [hlen] at hs
    rw [tLst_nil, tb2_ok, tNe_li, Tr.ofO_some, hs]
    rfl
/-! ### directions -/
def orI (es : List E) (num : Int) : List E := (up es.length).map fun k => if bitI num k = true then sw (es.getD k.toNat (0, 0)) else es.getD k.toNat (0, 0)
theorem or_ok {es : List E} (h : es.length ≤ 1000) (num : Int) : ((tRng1 (tb1 tLen (tPair (Tr.ok es) (Tr.ok ())))).bind (lcQ fun (k : Int) => ((tIfE (tb2 tEq (tb2 tMod (tb1 tInt (tPair (tb2 tShr (Tr.ok num) (Tr.ok k)) (Tr.ok ()))) (Tr.ok (2 : Int))) (Tr.ok (0 : Int))) (tb2 tIx (Tr.ok es) (Tr.ok k)) (tb1 tTup2 (tPair (tb2 tIx1 (tb2 tIx (Tr.ok es) (Tr.ok k)) (Tr.ok (1 : Int))) (tPair (tb2 tIx0 (tb2 tIx (Tr.ok es) (Tr.ok k)) (Tr.ok (0 : Int))) (Tr.ok ()))))).bind fun y => Tr.ok (some y)))) = .ok (orI es num) := by
  simp only [tPair_ok, tb1_ok, tLen_e, Tr.ofO_some]
  rw [tRng1_ok (by omega), Tr.bind_ok, lcQ_map (g := fun k => if bitI num k = true then sw (es.getD k.toNat (0, 0)) else es.getD k.toNat (0, 0)) (by rw [uptoI_len]; omega) fun x hx => ?_]
  · rfl
  · have hx := mem_up.mp hx
    obtain ⟨k, rfl⟩ : ∃ k : Nat, x = k := ⟨x.toNat, by omega⟩
    have hk : k < es.length := by omega
    simp only [tb2_ok]
    rw [tShr_e, Tr.ofO_some, tPair_ok, tb1_ok, tInt_e, Tr.ofO_some, tb2_ok, tMod_e (by decide), Tr.ofO_some, tb2_ok, tEq_int, Tr.ofO_some, tIx_e (List.getElem?_eq_getElem hk), Tr.ofO_some, tb2_ok, tIx1_e, Tr.ofO_some, tb2_ok, tIx0_e, Tr.ofO_some, tPair_ok, tPair_ok, tb1_ok, tTup2_e, Tr.ofO_some, tIfE_ok, Tr.bind_ok]
    unfold bitI
    rw [Int.toNat_natCast, List.getD_eq_getElem?_getD, List.getElem?_eq_getElem hk]
    have h2 : num / 2 ^ k % 2 = 0 ∨ num / 2 ^ k % 2 = 1 := by omega
    rcases h2 with h2 | h2
    · rw [h2]
      rfl
    · rw [h2]
      rfl
theorem or_len (es : List E) (num : Int) : (orI es num).length = es.length := by
  unfold orI
  rw [List.length_map, len_up]
theorem or_snoc {r : List E} {e : E} {num : Int} (h : 0 ≤ num ∧ num < 2 ^ r.length) : orI (r ++ [e]) num = orI r num ++ [e] ∧ orI (r ++ [e]) (num + 2 ^ r.length) = orI r num ++ [sw e] := by
  have hg : ∀ k ∈ up r.length, (r ++ [e]).getD k.toNat (0, 0) = r.getD k.toNat (0, 0) := fun k hk => by
    have := mem_up.mp hk
    rw [List.getD_eq_getElem?_getD, List.getD_eq_getElem?_getD, List.getElem?_append_left (by omega)]
  have b := bit_hi h
  have hl : (r ++ [e]).length = r.length + 1 := by simp
  have he : (r ++ [e]).getD ((r.length : Nat) : Int).toNat (0, 0) = e := by
    rw [Int.toNat_natCast, List.getD_eq_getElem?_getD, List.getElem?_append_right (Nat.le_refl _)]
    simp
  unfold orI
  rw [hl, up_succ, List.map_append, List.map_append]
  constructor
  · congr 1
    · exact List.map_congr_left fun k hk => by rw [hg k hk]
    · show [if bitI num ((r.length : Nat) : Int) = true then _ else _] = _
      rw [b.1, if_neg (by decide), he]
  · congr 1
    · exact List.map_congr_left fun k hk => by rw [hg k hk, bit_lo (mem_up.mp hk)]
    · show [if bitI (num + 2 ^ r.length) ((r.length : Nat) : Int) = true then _ else _] = _
      rw [b.2, if_pos rfl, he]
theorem or_ors : ∀ r : List E, (up (2 ^ r.length)).map (orI r.reverse) = (ors r).map List.reverse
  | [] => by
    show (up 1).map (orI []) = [[]]
    rfl
  | e :: r => by
    have ih := or_ors r
    rw [List.length_cons, Nat.pow_succ, Nat.mul_two, up_add, List.map_append, List.map_map]
    rw [show ors (e :: r) = (ors r).map (e :: ·) ++ (ors r).map (sw e :: ·) from rfl, List.map_append, List.map_map, List.map_map, List.reverse_cons]
    have hc : ((2 ^ r.length : Nat) : Int) = 2 ^ r.reverse.length := by simp
    have hr : ∀ e : E, (List.reverse ∘ fun x => e :: x) = (fun B => B ++ [e]) ∘ List.reverse := fun e => by
      funext A
      simp
    rw [hr, hr, ← List.map_map (g := fun B : List E => B ++ [e]) (f := List.reverse), ← List.map_map (g := fun B : List E => B ++ [sw e]) (f := List.reverse), ← ih, List.map_map, List.map_map]
    congr 1
    · exact List.map_congr_left fun k hk => (or_snoc (by rw [← hc]; exact mem_up.mp hk)).1
    · exact List.map_congr_left fun k hk => by
        show orI (r.reverse ++ [e]) (k + ((2 ^ r.length : Nat) : Int)) = orI r.reverse k ++ [sw e]
        rw [hc]
        exact (or_snoc (by rw [← hc]; exact mem_up.mp hk)).2
/-- the ways without a circle, counted -/
theorem inR_or {n : Nat} {es : List E} (h : InR n es) (num : Int) : InR n (orI es num) := fun a ha => by
  obtain ⟨k, hk, rfl⟩ := List.mem_map.mp ha
  have hk := mem_up.mp hk
  have hm : es.getD k.toNat (0, 0) ∈ es := by
    rw [List.getD_eq_getElem?_getD, List.getElem?_eq_getElem (show k.toNat < es.length by omega)]
    exact List.getElem_mem _
  have := h _ hm
  by_cases c : bitI num k = true
  · rw [if_pos c]
    exact ⟨this.2, this.1⟩
  · rw [if_neg c]
    exact this
theorem count_or {n : Nat} {es : List E} (h : InR n es) : sm (fun x => if peel n (up n) (orI es x) = [] then (1 : Int) else 0) (up (2 ^ es.length)) = AO es.reverse := by
  have e0 : ∀ x, (if peel n (up n) (orI es x) = [] then (1 : Int) else 0) = ac (orI es x) := fun x => by
    have := peel_iff n (up n) (orI es x) (by rw [len_up]; omega) fun e he => by
      have := inR_or h x e he
      exact ⟨mem_up.mpr this.1, mem_up.mpr this.2⟩
    unfold ac
    by_cases c : peel n (up n) (orI es x) = []
    · rw [if_pos c, if_pos (this.mp c)]
    · rw [if_neg c, if_neg fun q => c (this.mpr q)]
  simp only [e0]
  have := or_ors es.reverse
  rw [List.length_reverse, List.reverse_reverse] at this
  rw [← sm_map ac (orI es), this, sm_map]
  exact sm_congr fun o _ => ac_congr fun e => List.mem_reverse
end K95
end

section
set_option Elab.async false
set_option linter.all false
set_option maxRecDepth 100000
set_option maxHeartbeats 4000000
namespace K95
open PySem No Gp
theorem same_ok {α : Type} [Emb α] [DecidableEq α] (a : α) (h : pdB 4 (Emb.e a) = true) : tSame (a, a, ()) = .ok true := if_pos ⟨rfl, h⟩
theorem p1 {α β : Type} (f : α × Unit → Tr β) (a : α) : (tPair (Tr.ok a) (Tr.ok ())).bind f = f (a, ()) := rfl
theorem p2 {α β γ : Type} (f : α × β × Unit → Tr γ) (a : α) (b : β) : (tPair (Tr.ok a) (tPair (Tr.ok b) (Tr.ok ()))).bind f = f (a, b, ()) := rfl
theorem p3 {α β γ δ : Type} (f : α × β × γ × Unit → Tr δ) (a : α) (b : β) (c : γ) : (tPair (Tr.ok a) (tPair (Tr.ok b) (tPair (Tr.ok c) (Tr.ok ())))).bind f = f (a, b, c, ()) := rfl
theorem no_ok {S S' L τ : Type} {pk : S → En} {a b : Ot S L τ} {s : S} {K : S → Ot S' L τ} (hb : b = .nx s := by rfl) : Ot.bind pk ((Tr.ok false).so fun c => if c = true then a else b) K = K s := by
  rw [hb]
  rfl
def k0 (n : Nat) (es : List E) (x : Int) : Int := if peel n (up n) (orI es x) = [] then 1 else 0
def F1 (n : Nat) (A : List E) : Int := if cN n A + A.length = n then 1 else 0
def F2 (n c : Nat) (A : List E) : Int := if cN n A + A.length = n ∧ cN n A = c then 1 else 0
def F3 (n c : Nat) (A : List E) : Int := if cN n A = c then 1 else 0
theorem ch_all (es : List E) : (up (2 ^ es.length)).map (ch es) = (subs es.reverse).map List.reverse := by
  have := ch_subs es.reverse
  rwa [List.length_reverse, List.reverse_reverse] at this
theorem subs_sum (F : List E → Int) (es : List E) : sm (fun x => F (ch es x).reverse) (up (2 ^ es.length)) = sm F (subs es.reverse) := by
  rw [← sm_map (fun A => F A.reverse) (ch es), ch_all, sm_map]
  simp only [List.reverse_reverse]
theorem ch_mem {es : List E} {x : Int} (hx : x ∈ up (2 ^ es.length)) : (ch es x).reverse ∈ subs es.reverse := by
  have hm : ch es x ∈ (subs es.reverse).map List.reverse := by
    rw [← ch_all]
    exact List.mem_map.mpr ⟨x, hx, rfl⟩
  obtain ⟨A, hA, e⟩ := List.mem_map.mp hm
  rw [← e, List.reverse_reverse]
  exact hA
theorem pow0 (k : Nat) : (0 : Int) ^ k = if k = 0 then 1 else 0 := by
  cases k with
  | zero => rfl
  | succ k => rw [Int.pow_succ, Int.mul_zero, if_neg (by omega)]
theorem pow1 (k : Nat) : (1 : Int) ^ k = 1 := by
  induction k with
  | zero => rfl
  | succ k ih => rw [Int.pow_succ, ih]; rfl
section
variable {n : Nat} {r : List E} (h : InR n r)
include h
theorem v21 : GS n r (fun a => (2 - 1) ^ a) (fun k => (1 - 1) ^ k) = sm (F1 n) (subs r) := sm_congr fun A hA => by
  have g := cN_ge (inR_sub h hA)
  show (1 : Int) ^ _ * (0 : Int) ^ _ = F1 n A
  unfold F1
  rw [pow1, pow0, Int.one_mul]
  by_cases c : cN n A + A.length = n
  · rw [if_pos (by omega), if_pos c]
  · rw [if_neg (by omega), if_neg c]
theorem v11 : GS n r (fun a => (1 - 1) ^ a) (fun k => (1 - 1) ^ k) = sm (F2 n (cN n r)) (subs r) := sm_congr fun A hA => by
  have g := cN_ge (inR_sub h hA)
  have g2 := cN_sub h hA
  show (0 : Int) ^ _ * (0 : Int) ^ _ = F2 n (cN n r) A
  unfold F2
  rw [pow0, pow0]
  by_cases c : cN n A + A.length = n
  · by_cases c2 : cN n A = cN n r
    · rw [if_pos (by omega), if_pos (by omega), if_pos ⟨c, c2⟩]
      rfl
    · rw [if_neg (show ¬ (cN n A - cN n r = 0) by omega), Int.zero_mul, if_neg (by omega)]
  · rw [if_neg (show ¬ (cN n A + A.length - n = 0) by omega), Int.mul_zero, if_neg (by omega)]
theorem v12 : GS n r (fun a => (1 - 1) ^ a) (fun k => (2 - 1) ^ k) = sm (F3 n (cN n r)) (subs r) := sm_congr fun A hA => by
  have g2 := cN_sub h hA
  show (0 : Int) ^ _ * (1 : Int) ^ _ = F3 n (cN n r) A
  unfold F3
  rw [pow0, pow1, Int.mul_one]
  by_cases c : cN n A = cN n r
  · rw [if_pos (by omega), if_pos c]
  · rw [if_neg (by omega), if_neg c]
theorem sgn_add (a b : Nat) : Gp.sgn (a + b) = Gp.sgn a * (-1) ^ b := by
  induction b with
  | zero => rw [Int.pow_zero, Int.mul_one]; rfl
  | succ b ih => rw [← Nat.add_assoc, Gp.sgn_succ, ih, Int.pow_succ, ← Int.mul_assoc, Int.mul_neg, Int.mul_one]
omit h in
theorem sgn_sq (a : Nat) : Gp.sgn a * Gp.sgn a = 1 := by
  unfold Gp.sgn
  have h2 : (a : Int) % 2 = 0 ∨ (a : Int) % 2 = 1 := by omega
  rcases h2 with h | h <;> rw [h] <;> rfl
theorem v20 : GS n r (fun a => (2 - 1) ^ a) (fun k => (0 - 1) ^ k) = AO r := by
  have ht := cN_top h
  rw [AO_CV r.length r n rfl h]
  unfold CV
  rw [← Int.mul_assoc, ← Int.mul_assoc, Int.mul_assoc (Gp.sgn n), ← sgn_add h, show n - cN n r + cN n r = n by omega, sgn_sq, Int.one_mul]
  rfl
end
theorem step_ok {n : Nat} {es : List E} (hr : InR n es) (n2 : n ≤ 10) (hl : es.length ≤ 12) {x : Int} (hx : x ∈ up (2 ^ es.length)) :
    (∃ c : Nat, q_law_parts (n, ch es x, ()) = .ok (c : Int) ∧ (if decide ((c : Int) + ((ch es x).length : Int) = n) = true then (1 : Int) else 0) = F1 n (ch es x).reverse ∧
      (if (decide ((c : Int) + ((ch es x).length : Int) = n) && decide ((c : Int) = (cN n es.reverse : Nat))) = true then (1 : Int) else 0) = F2 n (cN n es.reverse) (ch es x).reverse ∧
      (if decide ((c : Int) = (cN n es.reverse : Nat)) = true then (1 : Int) else 0) = F3 n (cN n es.reverse) (ch es x).reverse) ∧ (ch es x).length ≤ 12 := by
  have hrr : InR n es.reverse := fun a ha => hr a (List.mem_reverse.mp ha)
  have hA := ch_mem hx
  have hAr := inR_sub hrr hA
  have hc : InR n (ch es x) := fun a ha => hAr a (List.mem_reverse.mpr ha)
  have sA := (sub_of hA).2
  rw [List.length_reverse, List.length_reverse] at sA
  refine ⟨⟨_, lp_ok hc (by omega), ?_, ?_, ?_⟩, by omega⟩
  · unfold F1
    rw [List.length_reverse]
    by_cases c : cN n (ch es x).reverse + (ch es x).length = n
    · rw [if_pos c, if_pos (by rw [decide_eq_true_iff]; omega)]
    · rw [if_neg c, if_neg (by rw [decide_eq_true_iff]; omega)]
  · unfold F2
    rw [List.length_reverse]
    by_cases c : cN n (ch es x).reverse + (ch es x).length = n ∧ cN n (ch es x).reverse = cN n es.reverse
    · rw [if_pos c, if_pos (by rw [Bool.and_eq_true, decide_eq_true_iff, decide_eq_true_iff]; omega)]
    · rw [if_neg c, if_neg (by rw [Bool.and_eq_true, decide_eq_true_iff, decide_eq_true_iff]; omega)]
  · unfold F3
    by_cases c : cN n (ch es x).reverse = cN n es.reverse
    · rw [if_pos c, if_pos (by rw [decide_eq_true_iff]; omega)]
    · rw [if_neg c, if_neg (by rw [decide_eq_true_iff]; omega)]
theorem bd_k (n : Nat) (es : List E) (p : List Int) : 0 ≤ sm (k0 n es) p := by
  induction p with
  | nil => exact Int.le_refl _
  | cons x p ih =>
    rw [sm_cons]
    have : 0 ≤ k0 n es x := by unfold k0; split <;> omega
    omega
theorem law_true (s : Scr) : q_law (s, ()) = .ok true := by
  unfold q_law
  dsimp only
  obtain ⟨z0, hz0⟩ := big_ok s
  rw [show (tPair (Tr.ok s) (tPair (Tr.ok (0 : Int)) (tPair (Tr.ok (8 : Int)) (Tr.ok ())))).bind q_law_big = q_law_big (s, 0, 8, ()) from rfl, hz0, Tr.so_ok]
  rw [pur_ok, sb2_ok, call_ok, take_ok z0 (by decide) (by decide), Tr.bind_ok]
  dsimp only
  rw [tAdd_e, Tr.ofO_some, pur_ok, soS_ok]
  dsimp only
  have a0 := Int.emod_nonneg z0 (show (6 : Int) ≠ 0 by decide)
  have a1 := Int.emod_lt_of_pos z0 (show (0 : Int) < 6 by decide)
  obtain ⟨n, hn⟩ : ∃ n : Nat, 1 + z0 % 6 = n := ⟨(1 + z0 % 6).toNat, by omega⟩
  rw [hn]
  have n1 : 1 ≤ n := by omega
  have n2 : n ≤ 10 := by omega
  obtain ⟨es, z1, g1, hr, hl⟩ := lg_ok (most := 7) n1 n2 (by decide) (z0 / 6)
  rw [show sCall q_law_graph [z0 / 6] (tPair (Tr.ok (n : Int)) (tPair (Tr.ok (7 : Int)) (Tr.ok ()))) = q_law_graph ([z0 / 6], n, ((7 : Nat) : Int), ()) from rfl, g1, soS_ok]
  dsimp only
  have ck : ckG n es := ⟨n1, n2, by omega, hr⟩
  have hrr : InR n es.reverse := fun a ha => hr a (List.mem_reverse.mp ha)
  have hlr : es.reverse.length ≤ 12 := by rw [List.length_reverse]; omega
  have c0 := cN_top hrr
  obtain ⟨d, t1, td⟩ := tu_ok ck
  have okt := okT_of hrr n2 hlr td
  have tvg := fun x y => tv_GS hrr n2 hlr td x y
  obtain ⟨row, r1, r2, r3, r4⟩ := co_ok ck t1 td
  rw [p2, lp_ok hr (by omega), Tr.so_ok]
  rw [show tLst (tCons' (Tr.ok (0 : Int)) (tCons' (Tr.ok (0 : Int)) (tCons' (Tr.ok (0 : Int)) (tCons' (Tr.ok (0 : Int)) (Tr.ok ([] : List Int)))))) = .ok [0, 0, 0, 0] from rfl, Tr.so_ok]
  have eR : tRng1 (tb2 tShl (Tr.ok (1 : Int)) (tb1 tLen (tPair (Tr.ok es) (Tr.ok ())))) = .ok (up (2 ^ es.length)) := by
    rw [tPair_ok, tb1_ok, tLen_e, Tr.ofO_some, tb2_ok]
    have : tShl 1 (es.length : Int) = some (((2 ^ es.length : Nat)) : Int) := by
      unfold tShl cPow
      rw [if_pos (by
        rw [Bool.and_eq_true, Bool.and_eq_true]
        exact ⟨rfl, Nat.ble_eq_true_of_le (by omega), Nat.ble_eq_true_of_le (by omega)⟩), Int.toNat_natCast, Int.one_mul]
      simp
    rw [this, Tr.ofO_some]
    have : 2 ^ es.length ≤ 2 ^ 12 := Nat.pow_le_pow_right (by omega) (by omega)
    exact tRng1_ok (by omega)
  rw [eR]
  have cnt := count_or hr
  refine tFor_ex (P := fun q => q.fn = .ok true)
    (fun p c => c = [sm (k0 n es) p, sm (fun x => F1 n (ch es x).reverse) p, sm (fun x => F2 n (cN n es.reverse) (ch es x).reverse) p, sm (fun x => F3 n (cN n es.reverse) (ch es x).reverse) p])
    rfl (fun p x q c e hc => ?_) (fun c hc => ?_)
  · have hx : x ∈ up (2 ^ es.length) := by rw [e]; simp
    obtain ⟨⟨w, w1, w2, w3, w4⟩, w5⟩ := step_ok hr n2 (by omega) hx
    subst hc
    rw [or_ok (by omega), Tr.so_ok, p2, hc_ok (by omega) (by rw [or_len]; omega)]
    rw [tNotT_ok, tPair_ok, tb1_ok]
    rw [show tIntB ((!(!decide (peel n (up n) (orI es x) = []))), ()) = some (k0 n es x) by
      unfold tIntB k0
      rw [Bool.not_not]
      by_cases c : peel n (up n) (orI es x) = []
      · rw [decide_eq_true c, if_pos rfl, if_pos c]
      · rw [decide_eq_false c, if_neg (by decide), if_neg c]]
    have ix0 : ∀ a b c d : Int, tIx [a, b, c, d] 0 = some a := fun _ _ _ _ => rfl
    have ix1 : ∀ a b c d : Int, tIx [a, b, c, d] 1 = some b := fun _ _ _ _ => rfl
    have ix2 : ∀ a b c d : Int, tIx [a, b, c, d] 2 = some c := fun _ _ _ _ => rfl
    have ix3 : ∀ a b c d : Int, tIx [a, b, c, d] 3 = some d := fun _ _ _ _ => rfl
    have pt0 : ∀ a b c d z : Int, tPut [a, b, c, d] 0 z = .ok [z, b, c, d] := fun _ _ _ _ _ => rfl
    have pt1 : ∀ a b c d z : Int, tPut [a, b, c, d] 1 z = .ok [a, z, c, d] := fun _ _ _ _ _ => rfl
    have pt2 : ∀ a b c d z : Int, tPut [a, b, c, d] 2 z = .ok [a, b, z, d] := fun _ _ _ _ _ => rfl
    have pt3 : ∀ a b c d z : Int, tPut [a, b, c, d] 3 z = .ok [a, b, c, z] := fun _ _ _ _ _ => rfl
    rw [Tr.ofO_some, tb2_ok, ix0, Tr.ofO_some, tb2_ok, tAdd_e, Tr.ofO_some, tBor_ok, Tr.so_ok, Tr.so_ok, pt0, Tr.so_ok]
    rw [p2, lch_ok (by omega), Tr.so_ok, p2, w1, Tr.so_ok]
    rw [tPair_ok, tb1_ok, tLen_e, Tr.ofO_some, tb2_ok, tAdd_e, Tr.ofO_some, tb2_ok, tEq_int, Tr.ofO_some, Tr.so_ok]
    have iB : ∀ b : Bool, tb1 tIntB (tPair (Tr.ok b) (Tr.ok ())) = .ok (if b = true then (1 : Int) else 0) := fun _ => rfl
    rw [iB, w2, tb2_ok, ix1, Tr.ofO_some, tb2_ok, tAdd_e, Tr.ofO_some, tBor_ok, Tr.so_ok, Tr.so_ok, pt1, Tr.so_ok]
    have eqw : tb2 tEq (Tr.ok (w : Int)) (Tr.ok ((cN n es.reverse : Nat) : Int)) = .ok (decide ((w : Int) = (cN n es.reverse : Nat))) := rfl
    rw [eqw, tAndT_ok, iB, w3, tb2_ok, ix2, Tr.ofO_some, tb2_ok, tAdd_e, Tr.ofO_some, tBor_ok, Tr.so_ok, Tr.so_ok, pt2, Tr.so_ok]
    rw [iB, w4, tb2_ok, ix3, Tr.ofO_some, tb2_ok, tAdd_e, Tr.ofO_some, tBor_ok, Tr.so_ok, Tr.so_ok, pt3, Tr.so_ok]
    refine ⟨_, rfl, ?_⟩
    rw [sm_append, sm_append, sm_append, sm_append]
    simp only [sm_cons, sm_nil, Int.add_zero]
  · subst hc
    have e0 : sm (k0 n es) (up (2 ^ es.length)) = AO es.reverse := cnt
    rw [e0, subs_sum (F1 n), subs_sum (F2 n (cN n es.reverse)), subs_sum (F3 n (cN n es.reverse)), ← v21 hrr, ← v11 hrr, ← v12 hrr]
    rw [show tb1 tList (tPair (Tr.ok es) (Tr.ok ())) = .ok es from rfl, p2, t1, Tr.so_ok]
    rw [p3, p3, p3, p3, tuv_ok okt (by decide) (by decide), tuv_ok okt (by decide) (by decide), tuv_ok okt (by decide) (by decide), tuv_ok okt (by decide) (by decide), tvg, tvg, tvg, tvg, v20 hrr]
    rw [show ∀ a b c d : Int, tLst (tCons' (Tr.ok a) (tCons' (Tr.ok b) (tCons' (Tr.ok c) (tCons' (Tr.ok d) (Tr.ok ([] : List Int)))))) = .ok [a, b, c, d] from fun _ _ _ _ => rfl, Tr.so_ok]
    rw [p2, same_ok _ rfl, tNotT_ok, tBor_ok]
    rw [Bool.not_true, no_ok]
    rw [p2, r1, show tb1 tNeg (Tr.ok (1 : Int)) = .ok (-1) from rfl, p2, rva_ok (by decide), r4]
    rw [show tb2 tSub (Tr.ok (1 : Int)) (tb2 tMul (Tr.ok (2 : Int)) (tb1 tInt (tPair (tb2 tMod (tb1 tInt (tPair (Tr.ok (n : Int)) (Tr.ok ()))) (Tr.ok (2 : Int))) (Tr.ok ())))) = .ok (Gp.sgn n) by
      rw [tPair_ok, tb1_ok, tInt_e, Tr.ofO_some, tb2_ok, tMod_e (by decide), Tr.ofO_some, tPair_ok, tb1_ok, tInt_e, Tr.ofO_some, tb2_ok, tMul_l (by decide), Tr.ofO_some, tb2_ok]
      rfl]
    have gsm : smB (Gp.sgn n) = true := smB_lt (by unfold Gp.sgn; omega) (by unfold Gp.sgn; omega)
    rw [show ∀ a b c d : Int, tb2 tIx (Tr.ok [a, b, c, d]) (Tr.ok (0 : Int)) = .ok a from fun _ _ _ _ => rfl, tb2_ok, tMul_l gsm, Tr.ofO_some]
    have fin : sgn (n - cN n es.reverse) * ((-1) ^ cN n es.reverse * tv (termL d) (1 - -1) 0) = Gp.sgn n * AO es.reverse := by
      rw [show ((1 : Int) - -1) = 2 from rfl, tvg, v20 hrr, ← Int.mul_assoc]
      have := sgn_add hrr (n - cN n es.reverse) (cN n es.reverse)
      rw [show n - cN n es.reverse + cN n es.reverse = n by omega] at this
      rw [this]
      rfl
    rw [fin, p2, same_ok _ rfl, tBor_ok, Tr.so_ok]
    rfl
end K95
end

section
set_option Elab.async false
set_option linter.all false
set_option maxRecDepth 100000
set_option maxHeartbeats 4000000
namespace K95
open PySem No
noncomputable def f_check_graph : List D → FR := frun 4 m_check_graph
theorem H_check_graph : ∀ p, SF (f_check_graph (EmbL.l p)) (q_check_graph p) := h_check_graph 
noncomputable def f_part_numbers : List D → FR := frun 8 m_part_numbers
theorem H_part_numbers : ∀ p, SF (f_part_numbers (EmbL.l p)) (q_part_numbers p) := h_part_numbers 
noncomputable def f_count_parts : List D → FR := frun 2 (m_count_parts f_part_numbers)
theorem H_count_parts : ∀ p, SF (f_count_parts (EmbL.l p)) (q_count_parts p) := h_count_parts H_part_numbers
noncomputable def f_merged : List D → FR := frun 8 m_merged
theorem H_merged : ∀ p, SF (f_merged (EmbL.l p)) (q_merged p) := h_merged 
noncomputable def f_is_bridge : List D → FR := frun 3 (m_is_bridge f_count_parts)
theorem H_is_bridge : ∀ p, SF (f_is_bridge (EmbL.l p)) (q_is_bridge p) := h_is_bridge H_count_parts
noncomputable def f_shifted_terms : List D → FR := frun 6 m_shifted_terms
theorem H_shifted_terms : ∀ p, SF (f_shifted_terms (EmbL.l p)) (q_shifted_terms p) := h_shifted_terms 
noncomputable def f_joined_terms : List D → FR := frun 4 m_joined_terms
theorem H_joined_terms : ∀ p, SF (f_joined_terms (EmbL.l p)) (q_joined_terms p) := h_joined_terms 
noncomputable def f_terms_of : Nat → List D → FR
  | 0 => fun _ => .bad
  | n + 1 => frun 6 (m_terms_of (f_terms_of n) f_shifted_terms f_merged f_is_bridge f_joined_terms)
theorem H_terms_of : ∀ (n : Nat) p, SF (f_terms_of n (EmbL.l p)) (fq_terms_of n p)
  | 0 => fun _ => trivial
  | n + 1 => h_terms_of (H_terms_of n) H_shifted_terms H_merged H_is_bridge H_joined_terms
noncomputable def f_tutte : List D → FR := frun 5 (m_tutte f_check_graph (f_terms_of 14))
theorem H_tutte : ∀ p, SF (f_tutte (EmbL.l p)) (q_tutte p) := h_tutte H_check_graph (H_terms_of 14)
noncomputable def f_integer_power : List D → FR := frun 4 m_integer_power
theorem H_integer_power : ∀ p, SF (f_integer_power (EmbL.l p)) (q_integer_power p) := h_integer_power 
noncomputable def f_tutte_value : List D → FR := frun 6 (m_tutte_value f_integer_power)
theorem H_tutte_value : ∀ p, SF (f_tutte_value (EmbL.l p)) (q_tutte_value p) := h_tutte_value H_integer_power
noncomputable def f_integer_times : List D → FR := frun 7 m_integer_times
theorem H_integer_times : ∀ p, SF (f_integer_times (EmbL.l p)) (q_integer_times p) := h_integer_times 
noncomputable def f_without_zeros : List D → FR := frun 2 m_without_zeros
theorem H_without_zeros : ∀ p, SF (f_without_zeros (EmbL.l p)) (q_without_zeros p) := h_without_zeros 
noncomputable def f_value_row : List D → FR := frun 11 (m_value_row f_integer_times)
theorem H_value_row : ∀ p, SF (f_value_row (EmbL.l p)) (q_value_row p) := h_value_row H_integer_times
noncomputable def f_colour_row : List D → FR := frun 10 (m_colour_row f_tutte f_count_parts f_value_row f_without_zeros)
theorem H_colour_row : ∀ p, SF (f_colour_row (EmbL.l p)) (q_colour_row p) := h_colour_row H_tutte H_count_parts H_value_row H_without_zeros
noncomputable def f_row_value : List D → FR := frun 4 m_row_value
theorem H_row_value : ∀ p, SF (f_row_value (EmbL.l p)) (q_row_value p) := h_row_value 
noncomputable def f_law_cell : List D → FR := frun 3 m_law_cell
theorem H_law_cell : ∀ p, SF (f_law_cell (EmbL.l p)) (q_law_cell p) := h_law_cell 
noncomputable def f_law_same : Nat → List D → FR
  | 0 => fun _ => .bad
  | n + 1 => frun 3 (m_law_same (f_law_same n))
theorem H_law_same : ∀ (n : Nat) p, SF (f_law_same n (EmbL.l p)) (fq_law_same n p)
  | 0 => fun _ => trivial
  | n + 1 => h_law_same (H_law_same n)
noncomputable def f_law_big : List D → FR := frun 5 (m_law_big f_law_cell)
theorem H_law_big : ∀ p, SFO (f_law_big (EmbL.l p)) (q_law_big p) := h_law_big H_law_cell
noncomputable def f_law_take : List Cell → FM := mrun 3 m_law_take
theorem H_law_take : ∀ st p, SFM (f_law_take (.ow true (.fl (st.map D.int)) :: (EmbL.l p).map Cell.sh)) (q_law_take (st, p)) (EmbL.l p) := h_law_take 
noncomputable def f_law_graph : List Cell → FM := mrun 7 (m_law_graph f_law_take)
theorem H_law_graph : ∀ st p, SFM (f_law_graph (.ow true (.fl (st.map D.int)) :: (EmbL.l p).map Cell.sh)) (q_law_graph (st, p)) (EmbL.l p) := h_law_graph H_law_take
noncomputable def f_law_parts : List D → FR := frun 8 m_law_parts
theorem H_law_parts : ∀ p, SF (f_law_parts (EmbL.l p)) (q_law_parts p) := h_law_parts 
noncomputable def f_law_chosen : List D → FR := frun 3 m_law_chosen
theorem H_law_chosen : ∀ p, SF (f_law_chosen (EmbL.l p)) (q_law_chosen p) := h_law_chosen 
noncomputable def f_law_has_circle : List D → FR := frun 8 m_law_has_circle
theorem H_law_has_circle : ∀ p, SF (f_law_has_circle (EmbL.l p)) (q_law_has_circle p) := h_law_has_circle 
noncomputable def f_law : List D → FR := frun 14 (m_law f_law_big f_law_take f_law_graph f_law_parts f_law_has_circle f_law_chosen f_tutte f_tutte_value (f_law_same 5) f_colour_row f_row_value)
theorem H_law : ∀ p, SF (f_law (EmbL.l p)) (q_law p) := h_law H_law_big H_law_take H_law_graph H_law_parts H_law_has_circle H_law_chosen H_tutte H_tutte_value (fun p => same_any (H_law_same 5) p) H_colour_row H_row_value
/-- what the law hands back -/
theorem law_is (l : List Int) : f_law [.fz (l.map D.int)] = .sh (.bl true) := by
  have h1 := H_law (⟨l⟩, ())
  rw [law_true ⟨l⟩] at h1
  rcases h1 with h1 | ⟨m, h1, h2⟩
  · exact h1
  · cases m <;> cases h2
end K95
end

section
set_option Elab.async false
set_option linter.all false
set_option maxRecDepth 100000
set_option maxHeartbeats 4000000
namespace K95
open PySem PySem.Spec PyProof.Rows L2 No
section
variable {P : Program} {w : World} {K : PySem.W.Frag} {mg : Str → Option Value} {base : Heap}
theorem cal_mk {k n : Nat} {x qual : Str} {st : Stmt} {fa : Addr} {fd : FuncData} {ps : List Str} {f : List D → FR} (ok : FnOk P w K mg base (L2.CX P w) k fa fd ps (spF K mg n f)) (F : Fun K x qual st fa fd) (g : mg x = some (.ref fa)) (b : Binds K fd ps []) : CalN P w K mg base k x n f :=
  ⟨fa, fd, ps, ok, g, F.kp, b⟩
theorem cam_mk {k n N : Nat} {x qual : Str} {st : Stmt} {fa : Addr} {fd : FuncData} {ps : List Str} {ms : MS} (ok : FnOk P w K mg base (L2.CX P w) k fa fd ps (spM K mg n (mrun N ms))) (F : Fun K x qual st fa fd) (g : mg x = some (.ref fa)) (b : Binds K fd ps []) : CalM P w K mg base k x n (mrun N ms) :=
  ⟨⟨fa, fd, ps, ok, g, F.kp, b⟩, fun _ _ _ h => mrun_sh h, fun _ _ _ h => mrun_ow h⟩
theorem cal_up {j k n : Nat} {x : Str} {f : List D → FR} (h : CalN P w K mg base j x n f) (hk : j ≤ k) : CalN P w K mg base k x n f := by
  obtain ⟨fa, fd, ps, ok, g, kp, b⟩ := h.ex
  exact ⟨fa, fd, ps, ok.mono hk, g, kp, b⟩
theorem fn_bad {k n : Nat} {fa : Addr} {fd : FuncData} {ps : List Str} : FnOk P w K mg base (L2.CX P w) k fa fd ps (spF K mg n fun _ => .bad) :=
  ⟨fun vs H Q E ⟨_, G, ds, _, _, q⟩ => q.elim, fun A outer s H args us vs Q E hr he hb hv ⟨_, G, ds, _, _, q⟩ => q.elim⟩
end
theorem all_ok {a : Ad} {P : Program} {w : World} {K : PySem.W.Frag} {mg : Str → Option Value} {base : Heap} (T : Tx a P w K mg base)
    {a_check_graph : Addr} {d_check_graph : FuncData} (F_check_graph : Fun K "check_graph" "check_graph" s_check_graph a_check_graph d_check_graph) (g_check_graph : mg "check_graph" = some (.ref a_check_graph))
    {a_part_numbers : Addr} {d_part_numbers : FuncData} (F_part_numbers : Fun K "part_numbers" "part_numbers" s_part_numbers a_part_numbers d_part_numbers) (g_part_numbers : mg "part_numbers" = some (.ref a_part_numbers))
    {a_count_parts : Addr} {d_count_parts : FuncData} (F_count_parts : Fun K "count_parts" "count_parts" s_count_parts a_count_parts d_count_parts) (g_count_parts : mg "count_parts" = some (.ref a_count_parts))
    {a_merged : Addr} {d_merged : FuncData} (F_merged : Fun K "merged" "merged" s_merged a_merged d_merged) (g_merged : mg "merged" = some (.ref a_merged))
    {a_is_bridge : Addr} {d_is_bridge : FuncData} (F_is_bridge : Fun K "is_bridge" "is_bridge" s_is_bridge a_is_bridge d_is_bridge) (g_is_bridge : mg "is_bridge" = some (.ref a_is_bridge))
    {a_shifted_terms : Addr} {d_shifted_terms : FuncData} (F_shifted_terms : Fun K "shifted_terms" "shifted_terms" s_shifted_terms a_shifted_terms d_shifted_terms) (g_shifted_terms : mg "shifted_terms" = some (.ref a_shifted_terms))
    {a_joined_terms : Addr} {d_joined_terms : FuncData} (F_joined_terms : Fun K "joined_terms" "joined_terms" s_joined_terms a_joined_terms d_joined_terms) (g_joined_terms : mg "joined_terms" = some (.ref a_joined_terms))
    {a_terms_of : Addr} {d_terms_of : FuncData} (F_terms_of : Fun K "terms_of" "terms_of" s_terms_of a_terms_of d_terms_of) (g_terms_of : mg "terms_of" = some (.ref a_terms_of))
    {a_tutte : Addr} {d_tutte : FuncData} (F_tutte : Fun K "tutte" "tutte" s_tutte a_tutte d_tutte) (g_tutte : mg "tutte" = some (.ref a_tutte))
    {a_integer_power : Addr} {d_integer_power : FuncData} (F_integer_power : Fun K "integer_power" "integer_power" s_integer_power a_integer_power d_integer_power) (g_integer_power : mg "integer_power" = some (.ref a_integer_power))
    {a_tutte_value : Addr} {d_tutte_value : FuncData} (F_tutte_value : Fun K "tutte_value" "tutte_value" s_tutte_value a_tutte_value d_tutte_value) (g_tutte_value : mg "tutte_value" = some (.ref a_tutte_value))
    {a_integer_times : Addr} {d_integer_times : FuncData} (F_integer_times : Fun K "integer_times" "integer_times" s_integer_times a_integer_times d_integer_times) (g_integer_times : mg "integer_times" = some (.ref a_integer_times))
    {a_without_zeros : Addr} {d_without_zeros : FuncData} (F_without_zeros : Fun K "without_zeros" "without_zeros" s_without_zeros a_without_zeros d_without_zeros) (g_without_zeros : mg "without_zeros" = some (.ref a_without_zeros))
    {a_value_row : Addr} {d_value_row : FuncData} (F_value_row : Fun K "value_row" "value_row" s_value_row a_value_row d_value_row) (g_value_row : mg "value_row" = some (.ref a_value_row))
    {a_colour_row : Addr} {d_colour_row : FuncData} (F_colour_row : Fun K "colour_row" "colour_row" s_colour_row a_colour_row d_colour_row) (g_colour_row : mg "colour_row" = some (.ref a_colour_row))
    {a_row_value : Addr} {d_row_value : FuncData} (F_row_value : Fun K "row_value" "row_value" s_row_value a_row_value d_row_value) (g_row_value : mg "row_value" = some (.ref a_row_value))
    {a_law_cell : Addr} {d_law_cell : FuncData} (F_law_cell : Fun K "_law_cell" "_law_cell" s_law_cell a_law_cell d_law_cell) (g_law_cell : mg "_law_cell" = some (.ref a_law_cell))
    {a_law_same : Addr} {d_law_same : FuncData} (F_law_same : Fun K "_law_same" "_law_same" s_law_same a_law_same d_law_same) (g_law_same : mg "_law_same" = some (.ref a_law_same))
    {a_law_big : Addr} {d_law_big : FuncData} (F_law_big : Fun K "_law_big" "_law_big" s_law_big a_law_big d_law_big) (g_law_big : mg "_law_big" = some (.ref a_law_big))
    {a_law_take : Addr} {d_law_take : FuncData} (F_law_take : Fun K "_law_take" "_law_take" s_law_take a_law_take d_law_take) (g_law_take : mg "_law_take" = some (.ref a_law_take))
    {a_law_graph : Addr} {d_law_graph : FuncData} (F_law_graph : Fun K "_law_graph" "_law_graph" s_law_graph a_law_graph d_law_graph) (g_law_graph : mg "_law_graph" = some (.ref a_law_graph))
    {a_law_parts : Addr} {d_law_parts : FuncData} (F_law_parts : Fun K "_law_parts" "_law_parts" s_law_parts a_law_parts d_law_parts) (g_law_parts : mg "_law_parts" = some (.ref a_law_parts))
    {a_law_chosen : Addr} {d_law_chosen : FuncData} (F_law_chosen : Fun K "_law_chosen" "_law_chosen" s_law_chosen a_law_chosen d_law_chosen) (g_law_chosen : mg "_law_chosen" = some (.ref a_law_chosen))
    {a_law_has_circle : Addr} {d_law_has_circle : FuncData} (F_law_has_circle : Fun K "_law_has_circle" "_law_has_circle" s_law_has_circle a_law_has_circle d_law_has_circle) (g_law_has_circle : mg "_law_has_circle" = some (.ref a_law_has_circle))
    {a_law : Addr} {d_law : FuncData} (F_law : Fun K "law" "law" s_law a_law d_law) (g_law : mg "law" = some (.ref a_law))
    : FnOk P w K mg base (L2.CX P w) 43 a_law d_law ["script"] (spF K mg 1 f_law) := by
  have c_check_graph := cal_mk (ok_check_graph T  F_check_graph) F_check_graph g_check_graph (F_check_graph.binds (ps := ["nodes", "edges"]) fun _ _ _ _ _ _ us hl => match us, hl with | [_, _], _ => rfl)
  have c_part_numbers := cal_mk (ok_part_numbers T  F_part_numbers) F_part_numbers g_part_numbers (F_part_numbers.binds (ps := ["nodes", "edges"]) fun _ _ _ _ _ _ us hl => match us, hl with | [_, _], _ => rfl)
  have c_count_parts := cal_mk (ok_count_parts T c_part_numbers F_count_parts) F_count_parts g_count_parts (F_count_parts.binds (ps := ["nodes", "edges"]) fun _ _ _ _ _ _ us hl => match us, hl with | [_, _], _ => rfl)
  have c_merged := cal_mk (ok_merged T  F_merged) F_merged g_merged (F_merged.binds (ps := ["nodes", "edges", "edge"]) fun _ _ _ _ _ _ us hl => match us, hl with | [_, _, _], _ => rfl)
  have c_is_bridge := cal_mk (ok_is_bridge T c_count_parts F_is_bridge) F_is_bridge g_is_bridge (F_is_bridge.binds (ps := ["nodes", "edges", "place"]) fun _ _ _ _ _ _ us hl => match us, hl with | [_, _, _], _ => rfl)
  have c_shifted_terms := cal_mk (ok_shifted_terms T  F_shifted_terms) F_shifted_terms g_shifted_terms (F_shifted_terms.binds (ps := ["terms", "right", "up"]) fun _ _ _ _ _ _ us hl => match us, hl with | [_, _, _], _ => rfl)
  have c_joined_terms := cal_mk (ok_joined_terms T  F_joined_terms) F_joined_terms g_joined_terms (F_joined_terms.binds (ps := ["one", "two"]) fun _ _ _ _ _ _ us hl => match us, hl with | [_, _], _ => rfl)
  have r_terms_of : ∀ n, FnOk P w K mg base (L2.CX P w) (n + 3) a_terms_of d_terms_of ["nodes", "edges"] (spF K mg 2 (f_terms_of n)) := by
    intro n
    induction n with
    | zero => exact fn_bad
    | succ n ih => exact (ok_terms_of (k := n + 3) T (cal_mk ih F_terms_of g_terms_of (F_terms_of.binds (ps := ["nodes", "edges"]) fun _ _ _ _ _ _ us hl => match us, hl with | [_, _], _ => rfl)) (cal_up c_shifted_terms (by omega)) (cal_up c_merged (by omega)) (cal_up c_is_bridge (by omega)) (cal_up c_joined_terms (by omega)) F_terms_of).mono (by omega)
  have c_terms_of := cal_up (k := 40) (cal_mk (r_terms_of 14) F_terms_of g_terms_of (F_terms_of.binds (ps := ["nodes", "edges"]) fun _ _ _ _ _ _ us hl => match us, hl with | [_, _], _ => rfl)) (by decide)
  have c_tutte := cal_mk (ok_tutte T c_check_graph c_terms_of F_tutte) F_tutte g_tutte (F_tutte.binds (ps := ["nodes", "edges"]) fun _ _ _ _ _ _ us hl => match us, hl with | [_, _], _ => rfl)
  have c_integer_power := cal_mk (ok_integer_power T  F_integer_power) F_integer_power g_integer_power (F_integer_power.binds (ps := ["number", "count"]) fun _ _ _ _ _ _ us hl => match us, hl with | [_, _], _ => rfl)
  have c_tutte_value := cal_mk (ok_tutte_value T c_integer_power F_tutte_value) F_tutte_value g_tutte_value (F_tutte_value.binds (ps := ["terms", "one", "two"]) fun _ _ _ _ _ _ us hl => match us, hl with | [_, _, _], _ => rfl)
  have c_integer_times := cal_mk (ok_integer_times T  F_integer_times) F_integer_times g_integer_times (F_integer_times.binds (ps := ["one", "two"]) fun _ _ _ _ _ _ us hl => match us, hl with | [_, _], _ => rfl)
  have c_without_zeros := cal_mk (ok_without_zeros T  F_without_zeros) F_without_zeros g_without_zeros (F_without_zeros.binds (ps := ["row"]) fun _ _ _ _ _ _ us hl => match us, hl with | [_], _ => rfl)
  have c_value_row := cal_mk (ok_value_row T c_integer_times F_value_row) F_value_row g_value_row (F_value_row.binds (ps := ["pairs"]) fun _ _ _ _ _ _ us hl => match us, hl with | [_], _ => rfl)
  have c_colour_row := cal_mk (ok_colour_row T c_tutte c_count_parts c_value_row c_without_zeros F_colour_row) F_colour_row g_colour_row (F_colour_row.binds (ps := ["nodes", "edges"]) fun _ _ _ _ _ _ us hl => match us, hl with | [_, _], _ => rfl)
  have c_row_value := cal_mk (ok_row_value T  F_row_value) F_row_value g_row_value (F_row_value.binds (ps := ["row", "number"]) fun _ _ _ _ _ _ us hl => match us, hl with | [_, _], _ => rfl)
  have c_law_cell := cal_mk (ok_law_cell T  F_law_cell) F_law_cell g_law_cell (F_law_cell.binds (ps := ["script", "k"]) fun _ _ _ _ _ _ us hl => match us, hl with | [_, _], _ => rfl)
  have r_law_same : ∀ n, FnOk P w K mg base (L2.CX P w) (n + 0) a_law_same d_law_same ["told", "due"] (spF K mg 2 (f_law_same n)) := by
    intro n
    induction n with
    | zero => exact fn_bad
    | succ n ih => exact (ok_law_same (k := n + 0) T (cal_mk ih F_law_same g_law_same (F_law_same.binds (ps := ["told", "due"]) fun _ _ _ _ _ _ us hl => match us, hl with | [_, _], _ => rfl)) F_law_same).mono (by omega)
  have c_law_same := cal_up (k := 30) (cal_mk (r_law_same 5) F_law_same g_law_same (F_law_same.binds (ps := ["told", "due"]) fun _ _ _ _ _ _ us hl => match us, hl with | [_, _], _ => rfl)) (by decide)
  have c_law_big := cal_mk (ok_law_big T c_law_cell F_law_big) F_law_big g_law_big (F_law_big.binds (ps := ["script", "at", "count"]) fun _ _ _ _ _ _ us hl => match us, hl with | [_, _, _], _ => rfl)
  have c_law_take := cam_mk (ok_law_take T  F_law_take) F_law_take g_law_take (F_law_take.binds (ps := ["state", "m"]) fun _ _ _ _ _ _ us hl => match us, hl with | [_, _], _ => rfl)
  have c_law_graph := cam_mk (ok_law_graph T c_law_take F_law_graph) F_law_graph g_law_graph (F_law_graph.binds (ps := ["state", "nodes", "most"]) fun _ _ _ _ _ _ us hl => match us, hl with | [_, _, _], _ => rfl)
  have c_law_parts := cal_mk (ok_law_parts T  F_law_parts) F_law_parts g_law_parts (F_law_parts.binds (ps := ["nodes", "edges"]) fun _ _ _ _ _ _ us hl => match us, hl with | [_, _], _ => rfl)
  have c_law_chosen := cal_mk (ok_law_chosen T  F_law_chosen) F_law_chosen g_law_chosen (F_law_chosen.binds (ps := ["edges", "number"]) fun _ _ _ _ _ _ us hl => match us, hl with | [_, _], _ => rfl)
  have c_law_has_circle := cal_mk (ok_law_has_circle T  F_law_has_circle) F_law_has_circle g_law_has_circle (F_law_has_circle.binds (ps := ["nodes", "pairs"]) fun _ _ _ _ _ _ us hl => match us, hl with | [_, _], _ => rfl)
  exact ok_law T c_law_big c_law_take c_law_graph c_law_parts c_law_has_circle c_law_chosen c_tutte c_tutte_value c_law_same c_colour_row c_row_value F_law
end K95
end

section
set_option Elab.async false
set_option linter.all false
set_option maxRecDepth 100000
set_option maxHeartbeats 4000000
namespace K95
open PySem PySem.Spec PyProof.Rows L2 No

def spL (K : PySem.W.Frag) : Sp := fun vs H Q E => vs.length = 1 ∧ ∃ (G : Hp) (ns : List Int), Same G H ∧ Rps K G vs [.fz (ns.map D.int)] ∧ ∀ G2 H2, Gr G H G2 H2 → Q (.bl true) H2
theorem law_sp {P : Program} {w : World} {K : PySem.W.Frag} {mg : Str → Option Value} {base : Heap} {k : Nat} {fa : Addr} {fd : FuncData} {ps : List Str} (F : FnOk P w K mg base (L2.CX P w) k fa fd ps (spF K mg 1 f_law)) : FnOk P w K mg base (L2.CX P w) k fa fd ps (spL K) :=
  F.imp fun vs H Q E ⟨hl, G, ns, sG, rs, q⟩ => ⟨hl, G, [.fz (ns.map D.int)], sG, rs, by
    rw [law_is]
    intro v G2 H2 g r
    cases r
    exact q G2 H2 g⟩
theorem cls_of {K : PySem.W.Frag} {t : Value} {S : Addr} {b : Bool} (h2 : PySem.W.isClsIn K S = true) (h3 : PySem.W.typeIn K (.ref S) = some (.type "type")) (h4 : PySem.W.subIn K t (.ref S) = some b) : PySem.W.kitCls K t (.ref S) = some b := by
  have e2 : ((PySem.W.clsIn K S).isSome && PySem.W.typeIn K (.ref S) == some (.type "type")) = true := by
    have h2' : (PySem.W.clsIn K S).isSome = true := h2
    rw [h2', h3] <;> rfl
  show (if ((PySem.W.clsIn K S).isSome && PySem.W.typeIn K (.ref S) == some (.type "type")) = true then PySem.W.subIn K t (.ref S) else none) = some b
  rw [if_pos e2]
  exact h4
theorem exm_of {K : PySem.W.Frag} {t : Value} {S : Addr} {b : Bool} (h1 : PySem.W.subIn K (.ref S) (.type "BaseException") = some true) (h : PySem.W.kitCls K t (.ref S) = some b) : PySem.W.exmOne K t (.ref S) = some b := by
  have e1 : (PySem.W.subIn K (.ref S) (.type "BaseException") == some true) = true := by rw [h1] <;> rfl
  show (if (PySem.W.subIn K (.ref S) (.type "BaseException") == some true) = true then PySem.W.kitCls K t (.ref S) else none) = some b
  rw [if_pos e1]
  exact h
theorem kit_ne {K : PySem.W.Frag} {t c : Value} {b : Bool} (hd : (t == c) = false) (h : PySem.W.kitCls K t c = some b) : PySem.W.kitOne K t c = some b := by
  unfold PySem.W.kitOne
  rw [hd]
  exact h
theorem kit_self {K : PySem.W.Frag} {S : Addr} : PySem.W.kitOne K (.ref S) (.ref S) = some true := by
  unfold PySem.W.kitOne
  rw [if_pos (by simp)]
theorem kit_ty2 {K : PySem.W.Frag} {S : Addr} {b : Bool} (h : PySem.W.subIn K (.ref S) (.type "ValueError") = some b) : PySem.W.kitOne K (.ref S) (.type "ValueError") = some b :=
  kit_ne rfl h
theorem k95_mk {P : Program} {w : World} {K : PySem.W.Frag} {h : Heap} {mg : Str → Option Value} {fa : Addr} (X : K.In h) (G : h.Ns mainGlobals mg) (hfa : mg "law" = some (.ref fa))
    {CN CT fI cda cc NT a_check_graph a_part_numbers a_count_parts a_merged a_is_bridge a_shifted_terms a_joined_terms a_terms_of a_tutte a_integer_power a_tutte_value a_integer_times a_without_zeros a_value_row a_colour_row a_row_value a_law_cell a_law_same a_law_big a_law_take a_law_graph a_law_parts a_law_chosen a_law_has_circle a_law : Addr} {odI anI cdd cld ddT od_check_graph an_check_graph od_part_numbers an_part_numbers od_count_parts an_count_parts od_merged an_merged od_is_bridge an_is_bridge od_shifted_terms an_shifted_terms od_joined_terms an_joined_terms od_terms_of an_terms_of od_tutte an_tutte od_integer_power an_integer_power od_tutte_value an_tutte_value od_integer_times an_integer_times od_without_zeros an_without_zeros od_value_row an_value_row od_colour_row an_colour_row od_row_value an_row_value od_law_cell an_law_cell od_law_same an_law_same od_law_big an_law_big od_law_take an_law_take od_law_graph an_law_graph od_law_parts an_law_parts od_law_chosen an_law_chosen od_law_has_circle an_law_has_circle od_law an_law : Option Addr} {ocI dcI pmI ctI ccl clc oc_check_graph dc_check_graph pm_check_graph cd_check_graph ct_check_graph kV_check_graph oc_part_numbers dc_part_numbers pm_part_numbers cd_part_numbers ct_part_numbers kV_part_numbers oc_count_parts dc_count_parts pm_count_parts cd_count_parts ct_count_parts kV_count_parts oc_merged dc_merged pm_merged cd_merged ct_merged kV_merged oc_is_bridge dc_is_bridge pm_is_bridge cd_is_bridge ct_is_bridge kV_is_bridge oc_shifted_terms dc_shifted_terms pm_shifted_terms cd_shifted_terms ct_shifted_terms kV_shifted_terms oc_joined_terms dc_joined_terms pm_joined_terms cd_joined_terms ct_joined_terms kV_joined_terms oc_terms_of dc_terms_of pm_terms_of cd_terms_of ct_terms_of kV_terms_of oc_tutte dc_tutte pm_tutte cd_tutte ct_tutte kV_tutte oc_integer_power dc_integer_power pm_integer_power cd_integer_power ct_integer_power kV_integer_power oc_tutte_value dc_tutte_value pm_tutte_value cd_tutte_value ct_tutte_value kV_tutte_value oc_integer_times dc_integer_times pm_integer_times cd_integer_times ct_integer_times kV_integer_times oc_without_zeros dc_without_zeros pm_without_zeros cd_without_zeros ct_without_zeros kV_without_zeros oc_value_row dc_value_row pm_value_row cd_value_row ct_value_row kV_value_row oc_colour_row dc_colour_row pm_colour_row cd_colour_row ct_colour_row kV_colour_row oc_row_value dc_row_value pm_row_value cd_row_value ct_row_value kV_row_value oc_law_cell dc_law_cell pm_law_cell cd_law_cell ct_law_cell kV_law_cell oc_law_same dc_law_same pm_law_same cd_law_same ct_law_same kV_law_same oc_law_big dc_law_big pm_law_big cd_law_big ct_law_big kV_law_big oc_law_take dc_law_take pm_law_take cd_law_take ct_law_take kV_law_take oc_law_graph dc_law_graph pm_law_graph cd_law_graph ct_law_graph kV_law_graph oc_law_parts dc_law_parts pm_law_parts cd_law_parts ct_law_parts kV_law_parts oc_law_chosen dc_law_chosen pm_law_chosen cd_law_chosen ct_law_chosen kV_law_chosen oc_law_has_circle dc_law_has_circle pm_law_has_circle cd_law_has_circle ct_law_has_circle kV_law_has_circle oc_law dc_law pm_law cd_law ct_law kV_law : Value}
    {file nmT qT : Str} {tMOST_NODES tMOST_EDGES tf : Tok} {bsT bmT : List Value} {snT : List Str} {subT : List Value} {abT : Bool} {colT : Option Bool} {kT0 kT1 kT2 kT3 kT5 : Option Value}
    {oslI ccs csl sl_check_graph sl_part_numbers sl_count_parts sl_merged sl_is_bridge sl_shifted_terms sl_joined_terms sl_terms_of sl_tutte sl_integer_power sl_tutte_value sl_integer_times sl_without_zeros sl_value_row sl_colour_row sl_row_value sl_law_cell sl_law_same sl_law_big sl_law_take sl_law_graph sl_law_parts sl_law_chosen sl_law_has_circle sl_law : Array (Option Value)} {vs0 : Array Value} {paI : Arguments} {cdC : ClassData} {arI : PySem.Arg} {p0 p1 p2 p3 p4 p5 p6 p7 p8 q1 q2 q3 q4 q5 : Pos}
    (pfile : ((P.main.file : Str) == file) = true) (ptop : (P.main.scope.names.lookup ("super" : Str)).isSome = false)
    (n_bool : PySem.W.nsIn K mainGlobals "bool" = some none)
    (n_enumerate : PySem.W.nsIn K mainGlobals "enumerate" = some none)
    (n_int : PySem.W.nsIn K mainGlobals "int" = some none)
    (n_isinstance : PySem.W.nsIn K mainGlobals "isinstance" = some none)
    (n_len : PySem.W.nsIn K mainGlobals "len" = some none)
    (n_list : PySem.W.nsIn K mainGlobals "list" = some none)
    (n_max : PySem.W.nsIn K mainGlobals "max" = some none)
    (n_min : PySem.W.nsIn K mainGlobals "min" = some none)
    (n_range : PySem.W.nsIn K mainGlobals "range" = some none)
    (n_reversed : PySem.W.nsIn K mainGlobals "reversed" = some none)
    (n_set : PySem.W.nsIn K mainGlobals "set" = some none)
    (n_sorted : PySem.W.nsIn K mainGlobals "sorted" = some none)
    (n_str : PySem.W.nsIn K mainGlobals "str" = some none)
    (n_sum : PySem.W.nsIn K mainGlobals "sum" = some none)
    (n_tuple : PySem.W.nsIn K mainGlobals "tuple" = some none)
    (n_ValueError : PySem.W.nsIn K mainGlobals "ValueError" = some none)
    (n_super : PySem.W.nsIn K mainGlobals "super" = some none)
    (v_MOST_NODES : PySem.W.nsIn K mainGlobals "MOST_NODES" = some (some (.int 10 tMOST_NODES)))
    (v_MOST_EDGES : PySem.W.nsIn K mainGlobals "MOST_EDGES" = some (some (.int 12 tMOST_EDGES)))
    (g_N : PySem.W.nsIn K mainGlobals "NoughtError" = some (some (.ref CN)))
    (g_T : PySem.W.nsIn K mainGlobals "InvalidTable" = some (some (.ref CT)))
    (xT : K.lookup CT = some (excClassObj nmT qT CT NT bsT bmT true snT subT abT colT ddT kT0 kT1 kT2 kT3 kT5 "ValueError.__new__"))
    (rT : PySem.HandSPX.refsVE bmT = true)
    (saT : PySem.W.findIn K (.ref CT) "__setattr__" = some (some (.builtin "object.__setattr__")))
    (eT : PySem.W.subIn K (.ref CT) (.type "BaseException") = some true)
    (tT : PySem.W.typeIn K (.ref CT) = some (.type "type"))
    (kT : PySem.W.keepIn K (.ref CT) = true)
    (iT : PySem.W.findIn K (.ref CT) "__init__" = some (some (.ref fI)))
    (tI2 : PySem.W.typeIn K (.ref fI) = some (.type "function"))
    (gaT : PySem.W.findIn K (.ref CT) "__getattribute__" = some (some (.builtin "BaseException.__getattribute__")))
    (ggT : PySem.W.findIn K (.ref CT) "__getattr__" = some none)
    (hdT : PySem.W.hasDictIn K CT = true)
    (nfT : PySem.W.findIn K (.ref CT) "part" = some none)
    (cdIn : PySem.W.codeIn K (.ref cda) "InvalidTable.__init__" = true)
    (lI : K.lookup fI = some ⟨ocI, odI, .func (PySem.W.ksFn "__init__" "InvalidTable.__init__" paI (bodyI "the " " of a table" p0 p1 p2 p3 p4 p5 p6 p7 p8 q1 q2 q3 q4 q5) scI .none .none dcI pmI anI (.ref cda) ctI cc), oslI⟩)
    (hcode : K.lookup cda = some ⟨ccl, cdd, .fields vs0, ccs⟩) (hvs : vs0[2]? = some (.str file tf)) (hcell : K.lookup cc = some ⟨clc, cld, .cell (some (.ref CT)), csl⟩)
    (hC : PySem.W.clsIn K CT = some cdC) (hsub : PySem.W.mroIn K CT (.ref CT) = some true) (hB : PySem.W.subIn K (.ref CT) (.type "ValueError") = some true) (hany : PySem.W.nsIn K cStatics "thirdparty.any" = some none) (hsup : PySem.W.ks_superIn K CT CT "__init__" = some (some (.builtin "ValueError.__init__")))
    (hp : (paI.posonlyargs ++ paI.args).head? = some arI) (har : arI.arg = "self")
    (hev : ∀ L, ∃ pl, eval (.Call (.Attribute (.Call (.Name "super" p0) [] [] p1) "__init__" p2) [.JoinedStr [.Constant (.str "the ") 0 q1, .FormattedValue (.Name "part" q2) (-1) none q3, .Constant (.str " of a table") 0 q4] q5] [] p3) (PySem.W.ksEnv "InvalidTable.__init__" scI L fI (.ref cda) cc) = (do
      let ov ← attributeBase (.Call (.Name "super" p0) [] [] p1) "__init__" (PySem.W.ksEnv "InvalidTable.__init__" scI L fI (.ref cda) cc) (eval (.Call (.Name "super" p0) [] [] p1) (PySem.W.ksEnv "InvalidTable.__init__" scI L fI (.ref cda) cc))
      standAt p2.atName
      let (fx, first) ← holding [ov] (getMethod ov "__init__" pl)
      callWith p3 fx first (backTo p3 (starEach [.JoinedStr [.Constant (.str "the ") 0 q1, .FormattedValue (.Name "part" q2) (-1) none q3, .Constant (.str " of a table") 0 q4] q5] (PySem.W.ksEnv "InvalidTable.__init__" scI L fI (.ref cda) cc))) []))
    (bI : Binds K (PySem.W.ksFn "__init__" "InvalidTable.__init__" paI (bodyI "the " " of a table" p0 p1 p2 p3 p4 p5 p6 p7 p8 q1 q2 q3 q4 q5) scI .none .none dcI pmI anI (.ref cda) ctI cc) ["self", "part"] [])
    (icN : PySem.W.isClsIn K CN = true) (tcN : PySem.W.typeIn K (.ref CN) = some (.type "type"))
    (icT : PySem.W.isClsIn K CT = true) (tcT : PySem.W.typeIn K (.ref CT) = some (.type "type"))
    (eN : PySem.W.subIn K (.ref CN) (.type "BaseException") = some true)
    (sTN : PySem.W.subIn K (.ref CT) (.ref CN) = some true)
    (yTg : PySem.W.findIn K (.ref CT) "__getattribute__" = some (some (.builtin "BaseException.__getattribute__")))
    (yTk : PySem.W.findIn K (.ref CT) "__getattr__" = some none)
    (yTs : PySem.W.subIn K (.ref CT) (.type "BaseException") = some true)
    (yTd : PySem.W.hasDictIn K CT = true)
    (yTa : PySem.W.findIn K (.ref CT) "__class__" = some (some (.builtin "object.__class__")))
    (yTm : PySem.W.mroIn K CT (.type "object") = some true)
    (yn : PySem.W.specialIn K (.builtin "object.__class__") "__get__" = some (some (.builtin "getset_descriptor.__get__"))) (yt : PySem.W.takesIn K (.builtin "object.__class__") = some true)
    (acheck_graph : PySem.W.nsIn K mainGlobals "check_graph" = some (some (.ref a_check_graph))) (lcheck_graph : K.lookup a_check_graph = some ⟨oc_check_graph, od_check_graph, .func (PySem.W.fnOf "check_graph" "check_graph" (defArgs s_check_graph) (defBody s_check_graph) (defScope s_check_graph) .none kV_check_graph dc_check_graph pm_check_graph an_check_graph cd_check_graph ct_check_graph), sl_check_graph⟩) (ccheck_graph : PySem.W.codeIn K cd_check_graph "check_graph" = true) (kcheck_graph : PySem.W.keepIn K (.ref a_check_graph) = true)
    (apart_numbers : PySem.W.nsIn K mainGlobals "part_numbers" = some (some (.ref a_part_numbers))) (lpart_numbers : K.lookup a_part_numbers = some ⟨oc_part_numbers, od_part_numbers, .func (PySem.W.fnOf "part_numbers" "part_numbers" (defArgs s_part_numbers) (defBody s_part_numbers) (defScope s_part_numbers) .none kV_part_numbers dc_part_numbers pm_part_numbers an_part_numbers cd_part_numbers ct_part_numbers), sl_part_numbers⟩) (cpart_numbers : PySem.W.codeIn K cd_part_numbers "part_numbers" = true) (kpart_numbers : PySem.W.keepIn K (.ref a_part_numbers) = true)
    (acount_parts : PySem.W.nsIn K mainGlobals "count_parts" = some (some (.ref a_count_parts))) (lcount_parts : K.lookup a_count_parts = some ⟨oc_count_parts, od_count_parts, .func (PySem.W.fnOf "count_parts" "count_parts" (defArgs s_count_parts) (defBody s_count_parts) (defScope s_count_parts) .none kV_count_parts dc_count_parts pm_count_parts an_count_parts cd_count_parts ct_count_parts), sl_count_parts⟩) (ccount_parts : PySem.W.codeIn K cd_count_parts "count_parts" = true) (kcount_parts : PySem.W.keepIn K (.ref a_count_parts) = true)
    (amerged : PySem.W.nsIn K mainGlobals "merged" = some (some (.ref a_merged))) (lmerged : K.lookup a_merged = some ⟨oc_merged, od_merged, .func (PySem.W.fnOf "merged" "merged" (defArgs s_merged) (defBody s_merged) (defScope s_merged) .none kV_merged dc_merged pm_merged an_merged cd_merged ct_merged), sl_merged⟩) (cmerged : PySem.W.codeIn K cd_merged "merged" = true) (kmerged : PySem.W.keepIn K (.ref a_merged) = true)
    (ais_bridge : PySem.W.nsIn K mainGlobals "is_bridge" = some (some (.ref a_is_bridge))) (lis_bridge : K.lookup a_is_bridge = some ⟨oc_is_bridge, od_is_bridge, .func (PySem.W.fnOf "is_bridge" "is_bridge" (defArgs s_is_bridge) (defBody s_is_bridge) (defScope s_is_bridge) .none kV_is_bridge dc_is_bridge pm_is_bridge an_is_bridge cd_is_bridge ct_is_bridge), sl_is_bridge⟩) (cis_bridge : PySem.W.codeIn K cd_is_bridge "is_bridge" = true) (kis_bridge : PySem.W.keepIn K (.ref a_is_bridge) = true)
    (ashifted_terms : PySem.W.nsIn K mainGlobals "shifted_terms" = some (some (.ref a_shifted_terms))) (lshifted_terms : K.lookup a_shifted_terms = some ⟨oc_shifted_terms, od_shifted_terms, .func (PySem.W.fnOf "shifted_terms" "shifted_terms" (defArgs s_shifted_terms) (defBody s_shifted_terms) (defScope s_shifted_terms) .none kV_shifted_terms dc_shifted_terms pm_shifted_terms an_shifted_terms cd_shifted_terms ct_shifted_terms), sl_shifted_terms⟩) (cshifted_terms : PySem.W.codeIn K cd_shifted_terms "shifted_terms" = true) (kshifted_terms : PySem.W.keepIn K (.ref a_shifted_terms) = true)
    (ajoined_terms : PySem.W.nsIn K mainGlobals "joined_terms" = some (some (.ref a_joined_terms))) (ljoined_terms : K.lookup a_joined_terms = some ⟨oc_joined_terms, od_joined_terms, .func (PySem.W.fnOf "joined_terms" "joined_terms" (defArgs s_joined_terms) (defBody s_joined_terms) (defScope s_joined_terms) .none kV_joined_terms dc_joined_terms pm_joined_terms an_joined_terms cd_joined_terms ct_joined_terms), sl_joined_terms⟩) (cjoined_terms : PySem.W.codeIn K cd_joined_terms "joined_terms" = true) (kjoined_terms : PySem.W.keepIn K (.ref a_joined_terms) = true)
    (aterms_of : PySem.W.nsIn K mainGlobals "terms_of" = some (some (.ref a_terms_of))) (lterms_of : K.lookup a_terms_of = some ⟨oc_terms_of, od_terms_of, .func (PySem.W.fnOf "terms_of" "terms_of" (defArgs s_terms_of) (defBody s_terms_of) (defScope s_terms_of) .none kV_terms_of dc_terms_of pm_terms_of an_terms_of cd_terms_of ct_terms_of), sl_terms_of⟩) (cterms_of : PySem.W.codeIn K cd_terms_of "terms_of" = true) (kterms_of : PySem.W.keepIn K (.ref a_terms_of) = true)
    (atutte : PySem.W.nsIn K mainGlobals "tutte" = some (some (.ref a_tutte))) (ltutte : K.lookup a_tutte = some ⟨oc_tutte, od_tutte, .func (PySem.W.fnOf "tutte" "tutte" (defArgs s_tutte) (defBody s_tutte) (defScope s_tutte) .none kV_tutte dc_tutte pm_tutte an_tutte cd_tutte ct_tutte), sl_tutte⟩) (ctutte : PySem.W.codeIn K cd_tutte "tutte" = true) (ktutte : PySem.W.keepIn K (.ref a_tutte) = true)
    (ainteger_power : PySem.W.nsIn K mainGlobals "integer_power" = some (some (.ref a_integer_power))) (linteger_power : K.lookup a_integer_power = some ⟨oc_integer_power, od_integer_power, .func (PySem.W.fnOf "integer_power" "integer_power" (defArgs s_integer_power) (defBody s_integer_power) (defScope s_integer_power) .none kV_integer_power dc_integer_power pm_integer_power an_integer_power cd_integer_power ct_integer_power), sl_integer_power⟩) (cinteger_power : PySem.W.codeIn K cd_integer_power "integer_power" = true) (kinteger_power : PySem.W.keepIn K (.ref a_integer_power) = true)
    (atutte_value : PySem.W.nsIn K mainGlobals "tutte_value" = some (some (.ref a_tutte_value))) (ltutte_value : K.lookup a_tutte_value = some ⟨oc_tutte_value, od_tutte_value, .func (PySem.W.fnOf "tutte_value" "tutte_value" (defArgs s_tutte_value) (defBody s_tutte_value) (defScope s_tutte_value) .none kV_tutte_value dc_tutte_value pm_tutte_value an_tutte_value cd_tutte_value ct_tutte_value), sl_tutte_value⟩) (ctutte_value : PySem.W.codeIn K cd_tutte_value "tutte_value" = true) (ktutte_value : PySem.W.keepIn K (.ref a_tutte_value) = true)
    (ainteger_times : PySem.W.nsIn K mainGlobals "integer_times" = some (some (.ref a_integer_times))) (linteger_times : K.lookup a_integer_times = some ⟨oc_integer_times, od_integer_times, .func (PySem.W.fnOf "integer_times" "integer_times" (defArgs s_integer_times) (defBody s_integer_times) (defScope s_integer_times) .none kV_integer_times dc_integer_times pm_integer_times an_integer_times cd_integer_times ct_integer_times), sl_integer_times⟩) (cinteger_times : PySem.W.codeIn K cd_integer_times "integer_times" = true) (kinteger_times : PySem.W.keepIn K (.ref a_integer_times) = true)
    (awithout_zeros : PySem.W.nsIn K mainGlobals "without_zeros" = some (some (.ref a_without_zeros))) (lwithout_zeros : K.lookup a_without_zeros = some ⟨oc_without_zeros, od_without_zeros, .func (PySem.W.fnOf "without_zeros" "without_zeros" (defArgs s_without_zeros) (defBody s_without_zeros) (defScope s_without_zeros) .none kV_without_zeros dc_without_zeros pm_without_zeros an_without_zeros cd_without_zeros ct_without_zeros), sl_without_zeros⟩) (cwithout_zeros : PySem.W.codeIn K cd_without_zeros "without_zeros" = true) (kwithout_zeros : PySem.W.keepIn K (.ref a_without_zeros) = true)
    (avalue_row : PySem.W.nsIn K mainGlobals "value_row" = some (some (.ref a_value_row))) (lvalue_row : K.lookup a_value_row = some ⟨oc_value_row, od_value_row, .func (PySem.W.fnOf "value_row" "value_row" (defArgs s_value_row) (defBody s_value_row) (defScope s_value_row) .none kV_value_row dc_value_row pm_value_row an_value_row cd_value_row ct_value_row), sl_value_row⟩) (cvalue_row : PySem.W.codeIn K cd_value_row "value_row" = true) (kvalue_row : PySem.W.keepIn K (.ref a_value_row) = true)
    (acolour_row : PySem.W.nsIn K mainGlobals "colour_row" = some (some (.ref a_colour_row))) (lcolour_row : K.lookup a_colour_row = some ⟨oc_colour_row, od_colour_row, .func (PySem.W.fnOf "colour_row" "colour_row" (defArgs s_colour_row) (defBody s_colour_row) (defScope s_colour_row) .none kV_colour_row dc_colour_row pm_colour_row an_colour_row cd_colour_row ct_colour_row), sl_colour_row⟩) (ccolour_row : PySem.W.codeIn K cd_colour_row "colour_row" = true) (kcolour_row : PySem.W.keepIn K (.ref a_colour_row) = true)
    (arow_value : PySem.W.nsIn K mainGlobals "row_value" = some (some (.ref a_row_value))) (lrow_value : K.lookup a_row_value = some ⟨oc_row_value, od_row_value, .func (PySem.W.fnOf "row_value" "row_value" (defArgs s_row_value) (defBody s_row_value) (defScope s_row_value) .none kV_row_value dc_row_value pm_row_value an_row_value cd_row_value ct_row_value), sl_row_value⟩) (crow_value : PySem.W.codeIn K cd_row_value "row_value" = true) (krow_value : PySem.W.keepIn K (.ref a_row_value) = true)
    (alaw_cell : PySem.W.nsIn K mainGlobals "_law_cell" = some (some (.ref a_law_cell))) (llaw_cell : K.lookup a_law_cell = some ⟨oc_law_cell, od_law_cell, .func (PySem.W.fnOf "_law_cell" "_law_cell" (defArgs s_law_cell) (defBody s_law_cell) (defScope s_law_cell) .none kV_law_cell dc_law_cell pm_law_cell an_law_cell cd_law_cell ct_law_cell), sl_law_cell⟩) (claw_cell : PySem.W.codeIn K cd_law_cell "_law_cell" = true) (klaw_cell : PySem.W.keepIn K (.ref a_law_cell) = true)
    (alaw_same : PySem.W.nsIn K mainGlobals "_law_same" = some (some (.ref a_law_same))) (llaw_same : K.lookup a_law_same = some ⟨oc_law_same, od_law_same, .func (PySem.W.fnOf "_law_same" "_law_same" (defArgs s_law_same) (defBody s_law_same) (defScope s_law_same) .none kV_law_same dc_law_same pm_law_same an_law_same cd_law_same ct_law_same), sl_law_same⟩) (claw_same : PySem.W.codeIn K cd_law_same "_law_same" = true) (klaw_same : PySem.W.keepIn K (.ref a_law_same) = true)
    (alaw_big : PySem.W.nsIn K mainGlobals "_law_big" = some (some (.ref a_law_big))) (llaw_big : K.lookup a_law_big = some ⟨oc_law_big, od_law_big, .func (PySem.W.fnOf "_law_big" "_law_big" (defArgs s_law_big) (defBody s_law_big) (defScope s_law_big) .none kV_law_big dc_law_big pm_law_big an_law_big cd_law_big ct_law_big), sl_law_big⟩) (claw_big : PySem.W.codeIn K cd_law_big "_law_big" = true) (klaw_big : PySem.W.keepIn K (.ref a_law_big) = true)
    (alaw_take : PySem.W.nsIn K mainGlobals "_law_take" = some (some (.ref a_law_take))) (llaw_take : K.lookup a_law_take = some ⟨oc_law_take, od_law_take, .func (PySem.W.fnOf "_law_take" "_law_take" (defArgs s_law_take) (defBody s_law_take) (defScope s_law_take) .none kV_law_take dc_law_take pm_law_take an_law_take cd_law_take ct_law_take), sl_law_take⟩) (claw_take : PySem.W.codeIn K cd_law_take "_law_take" = true) (klaw_take : PySem.W.keepIn K (.ref a_law_take) = true)
    (alaw_graph : PySem.W.nsIn K mainGlobals "_law_graph" = some (some (.ref a_law_graph))) (llaw_graph : K.lookup a_law_graph = some ⟨oc_law_graph, od_law_graph, .func (PySem.W.fnOf "_law_graph" "_law_graph" (defArgs s_law_graph) (defBody s_law_graph) (defScope s_law_graph) .none kV_law_graph dc_law_graph pm_law_graph an_law_graph cd_law_graph ct_law_graph), sl_law_graph⟩) (claw_graph : PySem.W.codeIn K cd_law_graph "_law_graph" = true) (klaw_graph : PySem.W.keepIn K (.ref a_law_graph) = true)
    (alaw_parts : PySem.W.nsIn K mainGlobals "_law_parts" = some (some (.ref a_law_parts))) (llaw_parts : K.lookup a_law_parts = some ⟨oc_law_parts, od_law_parts, .func (PySem.W.fnOf "_law_parts" "_law_parts" (defArgs s_law_parts) (defBody s_law_parts) (defScope s_law_parts) .none kV_law_parts dc_law_parts pm_law_parts an_law_parts cd_law_parts ct_law_parts), sl_law_parts⟩) (claw_parts : PySem.W.codeIn K cd_law_parts "_law_parts" = true) (klaw_parts : PySem.W.keepIn K (.ref a_law_parts) = true)
    (alaw_chosen : PySem.W.nsIn K mainGlobals "_law_chosen" = some (some (.ref a_law_chosen))) (llaw_chosen : K.lookup a_law_chosen = some ⟨oc_law_chosen, od_law_chosen, .func (PySem.W.fnOf "_law_chosen" "_law_chosen" (defArgs s_law_chosen) (defBody s_law_chosen) (defScope s_law_chosen) .none kV_law_chosen dc_law_chosen pm_law_chosen an_law_chosen cd_law_chosen ct_law_chosen), sl_law_chosen⟩) (claw_chosen : PySem.W.codeIn K cd_law_chosen "_law_chosen" = true) (klaw_chosen : PySem.W.keepIn K (.ref a_law_chosen) = true)
    (alaw_has_circle : PySem.W.nsIn K mainGlobals "_law_has_circle" = some (some (.ref a_law_has_circle))) (llaw_has_circle : K.lookup a_law_has_circle = some ⟨oc_law_has_circle, od_law_has_circle, .func (PySem.W.fnOf "_law_has_circle" "_law_has_circle" (defArgs s_law_has_circle) (defBody s_law_has_circle) (defScope s_law_has_circle) .none kV_law_has_circle dc_law_has_circle pm_law_has_circle an_law_has_circle cd_law_has_circle ct_law_has_circle), sl_law_has_circle⟩) (claw_has_circle : PySem.W.codeIn K cd_law_has_circle "_law_has_circle" = true) (klaw_has_circle : PySem.W.keepIn K (.ref a_law_has_circle) = true)
    (alaw : PySem.W.nsIn K mainGlobals "law" = some (some (.ref a_law))) (llaw : K.lookup a_law = some ⟨oc_law, od_law, .func (PySem.W.fnOf "law" "law" (defArgs s_law) (defBody s_law) (defScope s_law) .none kV_law dc_law pm_law an_law cd_law ct_law), sl_law⟩) (claw : PySem.W.codeIn K cd_law "law" = true) (klaw : PySem.W.keepIn K (.ref a_law) = true)
    : ∃ fd : FuncData, (∀ (s : Shared) (u : Value), BindsTo s fd ⟨[u], []⟩ [("script", u)]) ∧ ∀ base : Heap, K.In base → base.Ns mainGlobals mg → FnOk P w K mg base (L2.CX P w) 43 fa fd ["script"] (spL K) := by
  have e := hfa.symm.trans (PySem.W.mg_of X G alaw)
  cases e
  have oxT : OexC K CT := ⟨⟨nmT, qT, NT, bsT, bmT, snT, subT, abT, colT, ddT, kT0, kT1, kT2, kT3, kT5, xT, rT⟩, saT, eT, tT, kT⟩
  have eCT : ExcC K CT := ⟨yTg, yTk, yTs, yTd, yTa, yn, yt, yTm⟩
  refine ⟨_, fun s u => .of_eq rfl, fun base _ _ => law_sp (all_ok (a := ⟨CN, CT, fI, PySem.W.ksFn "__init__" "InvalidTable.__init__" paI (bodyI "the " " of a table" p0 p1 p2 p3 p4 p5 p6 p7 p8 q1 q2 q3 q4 q5) scI .none .none dcI pmI anI (.ref cda) ctI cc⟩) ?T (fun_mk (st := s_check_graph) lcheck_graph ccheck_graph kcheck_graph) (PySem.W.mg_of X G acheck_graph) (fun_mk (st := s_part_numbers) lpart_numbers cpart_numbers kpart_numbers) (PySem.W.mg_of X G apart_numbers) (fun_mk (st := s_count_parts) lcount_parts ccount_parts kcount_parts) (PySem.W.mg_of X G acount_parts) (fun_mk (st := s_merged) lmerged cmerged kmerged) (PySem.W.mg_of X G amerged) (fun_mk (st := s_is_bridge) lis_bridge cis_bridge kis_bridge) (PySem.W.mg_of X G ais_bridge) (fun_mk (st := s_shifted_terms) lshifted_terms cshifted_terms kshifted_terms) (PySem.W.mg_of X G ashifted_terms) (fun_mk (st := s_joined_terms) ljoined_terms cjoined_terms kjoined_terms) (PySem.W.mg_of X G ajoined_terms) (fun_mk (st := s_terms_of) lterms_of cterms_of kterms_of) (PySem.W.mg_of X G aterms_of) (fun_mk (st := s_tutte) ltutte ctutte ktutte) (PySem.W.mg_of X G atutte) (fun_mk (st := s_integer_power) linteger_power cinteger_power kinteger_power) (PySem.W.mg_of X G ainteger_power) (fun_mk (st := s_tutte_value) ltutte_value ctutte_value ktutte_value) (PySem.W.mg_of X G atutte_value) (fun_mk (st := s_integer_times) linteger_times cinteger_times kinteger_times) (PySem.W.mg_of X G ainteger_times) (fun_mk (st := s_without_zeros) lwithout_zeros cwithout_zeros kwithout_zeros) (PySem.W.mg_of X G awithout_zeros) (fun_mk (st := s_value_row) lvalue_row cvalue_row kvalue_row) (PySem.W.mg_of X G avalue_row) (fun_mk (st := s_colour_row) lcolour_row ccolour_row kcolour_row) (PySem.W.mg_of X G acolour_row) (fun_mk (st := s_row_value) lrow_value crow_value krow_value) (PySem.W.mg_of X G arow_value) (fun_mk (st := s_law_cell) llaw_cell claw_cell klaw_cell) (PySem.W.mg_of X G alaw_cell) (fun_mk (st := s_law_same) llaw_same claw_same klaw_same) (PySem.W.mg_of X G alaw_same) (fun_mk (st := s_law_big) llaw_big claw_big klaw_big) (PySem.W.mg_of X G alaw_big) (fun_mk (st := s_law_take) llaw_take claw_take klaw_take) (PySem.W.mg_of X G alaw_take) (fun_mk (st := s_law_graph) llaw_graph claw_graph klaw_graph) (PySem.W.mg_of X G alaw_graph) (fun_mk (st := s_law_parts) llaw_parts claw_parts klaw_parts) (PySem.W.mg_of X G alaw_parts) (fun_mk (st := s_law_chosen) llaw_chosen claw_chosen klaw_chosen) (PySem.W.mg_of X G alaw_chosen) (fun_mk (st := s_law_has_circle) llaw_has_circle claw_has_circle klaw_has_circle) (PySem.W.mg_of X G alaw_has_circle) (fun_mk (st := s_law) llaw claw klaw) (PySem.W.mg_of X G alaw))⟩
  case T =>
    exact {
      b_bool := PySem.W.mg_none_of X G n_bool
      b_enumerate := PySem.W.mg_none_of X G n_enumerate
      b_int := PySem.W.mg_none_of X G n_int
      b_isinstance := PySem.W.mg_none_of X G n_isinstance
      b_len := PySem.W.mg_none_of X G n_len
      b_list := PySem.W.mg_none_of X G n_list
      b_max := PySem.W.mg_none_of X G n_max
      b_min := PySem.W.mg_none_of X G n_min
      b_range := PySem.W.mg_none_of X G n_range
      b_reversed := PySem.W.mg_none_of X G n_reversed
      b_set := PySem.W.mg_none_of X G n_set
      b_sorted := PySem.W.mg_none_of X G n_sorted
      b_str := PySem.W.mg_none_of X G n_str
      b_sum := PySem.W.mg_none_of X G n_sum
      b_tuple := PySem.W.mg_none_of X G n_tuple
      b_ValueError := PySem.W.mg_none_of X G n_ValueError
      g_MOST_NODES := ⟨tMOST_NODES, PySem.W.mg_of X G v_MOST_NODES⟩
      g_MOST_EDGES := ⟨tMOST_EDGES, PySem.W.mg_of X G v_MOST_EDGES⟩
      x_NoughtError := PySem.W.mg_of X G g_N
      x_InvalidTable := ⟨PySem.W.mg_of X G g_T, oxT, iT, tI2, init_super lI cdIn hcode hvs pfile hcell hC hsub hB hany hsup (PySem.W.mg_none_of X G n_super) ptop oxT nfT hp har (by decide) hev, bI, ⟨gaT, ggT, eT, hdT⟩, nfT⟩
    }
theorem k95_end {l : PySem.W.OpenLaw} {q : Program} {loose : List Str} {XP : (Str → Option Value) → Heap → Prop} {YP : World → Heap → Prop} {d : DefRec} {K : Params → PySem.W.Frag} (hn : l.most = some 63) (hdf : d.params.defaults = [])
    (hY : ∀ (w : World) (h : Heap), YP w h → (K w.params).In h)
    (F : ∀ (w : World) (mg : Str → Option Value) (fa : Addr) (h : Heap), (K w.params).In h → h.Ns mainGlobals mg → mg d.name = some (.ref fa) →
      ∃ fd : FuncData, (∀ (s : Shared) (u : Value), BindsTo s fd ⟨[u], []⟩ [("script", u)]) ∧ ∀ base : Heap, (K w.params).In base → base.Ns mainGlobals mg → FnOk l.prog w (K w.params) mg base (L2.CX l.prog w) 43 fa fd ["script"] (spL (K w.params))) :
    PySem.W.WalkO q loose XP YP l.row.toRowW d [] (fun f vs => PySem.call f vs) :=
  L2.walk_of (n := 63) (k := 43) (x := "script") (CX := fun w => L2.CX l.prog w) (sp := fun w => spL (K w.params)) hn (by decide) hdf ⟨rfl, by decide, by decide⟩ hY F
    (fun w H a ns hl hO hS => ⟨rfl, H, ns, fun _ _ z => z, .cons (.fz hS (Rps.ofInts ns)) .nil, fun G2 H2 g => rfl⟩)
    (fun w H s e s' hx => by
      obtain ⟨a, B, H', cls, d, h1, h2, h3, h4, h5, h6, h7, h8⟩ := hx
      exact h8)
end K95
end

section
set_option Elab.async false
set_option linter.all false
set_option maxRecDepth 100000
open PySem PySem.W PyProof.Rows
set_option maxHeartbeats 0 in
theorem PySem.Challenge.cw_noughtmeet_k95_whole_orientations_and_fo_holds : PySem.Challenge.rw_noughtmeet_k95_whole_orientations_and_fo.Holds := by
  w_on; o_law; k_head; (case hw => w_witness2)
  k_fill
  refine K95.k95_end (l := PySem.Challenge.rw_noughtmeet_k95_whole_orientations_and_fo) rfl rfl (fun w h Y => PySem.W.kIn_of Y) ?F
  case F =>
    intro w mg fa h KX G hmg
    refine' K95.k95_mk KX G hmg ?pfile ?ptop ?n_bool ?n_enumerate ?n_int ?n_isinstance ?n_len ?n_list ?n_max ?n_min ?n_range ?n_reversed ?n_set ?n_sorted ?n_str ?n_sum ?n_tuple ?n_ValueError ?n_super ?v_MOST_NODES ?v_MOST_EDGES ?g_N ?g_T ?xT ?rT ?saT ?eT ?tT ?kT ?iT ?tI2 ?gaT ?ggT ?hdT ?nfT ?cdIn ?lI ?hcode ?hvs ?hcell ?hC ?hsub ?hB ?hany ?hsup ?hp ?har ?hev ?bI ?icN ?tcN ?icT ?tcT ?eN ?sTN ?yTg ?yTk ?yTs ?yTd ?yTa ?yTm ?yn ?yt ?acheck_graph ?lcheck_graph ?ccheck_graph ?kcheck_graph ?apart_numbers ?lpart_numbers ?cpart_numbers ?kpart_numbers ?acount_parts ?lcount_parts ?ccount_parts ?kcount_parts ?amerged ?lmerged ?cmerged ?kmerged ?ais_bridge ?lis_bridge ?cis_bridge ?kis_bridge ?ashifted_terms ?lshifted_terms ?cshifted_terms ?kshifted_terms ?ajoined_terms ?ljoined_terms ?cjoined_terms ?kjoined_terms ?aterms_of ?lterms_of ?cterms_of ?kterms_of ?atutte ?ltutte ?ctutte ?ktutte ?ainteger_power ?linteger_power ?cinteger_power ?kinteger_power ?atutte_value ?ltutte_value ?ctutte_value ?ktutte_value ?ainteger_times ?linteger_times ?cinteger_times ?kinteger_times ?awithout_zeros ?lwithout_zeros ?cwithout_zeros ?kwithout_zeros ?avalue_row ?lvalue_row ?cvalue_row ?kvalue_row ?acolour_row ?lcolour_row ?ccolour_row ?kcolour_row ?arow_value ?lrow_value ?crow_value ?krow_value ?alaw_cell ?llaw_cell ?claw_cell ?klaw_cell ?alaw_same ?llaw_same ?claw_same ?klaw_same ?alaw_big ?llaw_big ?claw_big ?klaw_big ?alaw_take ?llaw_take ?claw_take ?klaw_take ?alaw_graph ?llaw_graph ?claw_graph ?klaw_graph ?alaw_parts ?llaw_parts ?claw_parts ?klaw_parts ?alaw_chosen ?llaw_chosen ?claw_chosen ?klaw_chosen ?alaw_has_circle ?llaw_has_circle ?claw_has_circle ?klaw_has_circle ?alaw ?llaw ?claw ?klaw
    (case n_bool => first | k_is | ks_is)
    (case n_enumerate => first | k_is | ks_is)
    (case n_int => first | k_is | ks_is)
    (case n_isinstance => first | k_is | ks_is)
    (case n_len => first | k_is | ks_is)
    (case n_list => first | k_is | ks_is)
    (case n_max => first | k_is | ks_is)
    (case n_min => first | k_is | ks_is)
    (case n_range => first | k_is | ks_is)
    (case n_reversed => first | k_is | ks_is)
    (case n_set => first | k_is | ks_is)
    (case n_sorted => first | k_is | ks_is)
    (case n_str => first | k_is | ks_is)
    (case n_sum => first | k_is | ks_is)
    (case n_tuple => first | k_is | ks_is)
    (case n_ValueError => first | k_is | ks_is)
    (case n_super => first | k_is | ks_is)
    (case v_MOST_NODES => first | k_is | ks_is)
    (case v_MOST_EDGES => first | k_is | ks_is)
    (case g_N => first | k_is | ks_is)
    (case g_T => first | k_is | ks_is)
    (case xT => first | k_is | ks_is)
    (case saT => first | k_is | ks_is)
    (case eT => first | k_is | ks_is)
    (case tT => first | k_is | ks_is)
    (case kT => first | k_is | ks_is)
    (case iT => first | k_is | ks_is)
    (case tI2 => first | k_is | ks_is)
    (case gaT => first | k_is | ks_is)
    (case ggT => first | k_is | ks_is)
    (case hdT => first | k_is | ks_is)
    (case nfT => first | k_is | ks_is)
    (case lI => first | k_is | ks_is)
    (case hcode => first | k_is | ks_is)
    (case hcell => first | k_is | ks_is)
    (case hC => first | k_is | ks_is)
    (case hsub => first | k_is | ks_is)
    (case hB => first | k_is | ks_is)
    (case hany => first | k_is | ks_is)
    (case hsup => first | ks_is | k_is)
    (case icN => first | k_is | ks_is)
    (case tcN => first | k_is | ks_is)
    (case icT => first | k_is | ks_is)
    (case tcT => first | k_is | ks_is)
    (case eN => first | k_is | ks_is)
    (case sTN => first | rfl | k_is)
    (case yTg => first | k_is | ks_is)
    (case yTk => first | k_is | ks_is)
    (case yTs => first | k_is | ks_is)
    (case yTd => first | k_is | ks_is)
    (case yTa => first | k_is | ks_is)
    (case yTm => first | k_is | ks_is)
    (case yn => first | k_is | ks_is)
    (case yt => first | k_is | ks_is)
    (case acheck_graph => first | k_is | ks_is)
    (case lcheck_graph => first | k_is | ks_is)
    (case ccheck_graph => first | k_is | ks_is)
    (case kcheck_graph => first | k_is | ks_is)
    (case apart_numbers => first | k_is | ks_is)
    (case lpart_numbers => first | k_is | ks_is)
    (case cpart_numbers => first | k_is | ks_is)
    (case kpart_numbers => first | k_is | ks_is)
    (case acount_parts => first | k_is | ks_is)
    (case lcount_parts => first | k_is | ks_is)
    (case ccount_parts => first | k_is | ks_is)
    (case kcount_parts => first | k_is | ks_is)
    (case amerged => first | k_is | ks_is)
    (case lmerged => first | k_is | ks_is)
    (case cmerged => first | k_is | ks_is)
    (case kmerged => first | k_is | ks_is)
    (case ais_bridge => first | k_is | ks_is)
    (case lis_bridge => first | k_is | ks_is)
    (case cis_bridge => first | k_is | ks_is)
    (case kis_bridge => first | k_is | ks_is)
    (case ashifted_terms => first | k_is | ks_is)
    (case lshifted_terms => first | k_is | ks_is)
    (case cshifted_terms => first | k_is | ks_is)
    (case kshifted_terms => first | k_is | ks_is)
    (case ajoined_terms => first | k_is | ks_is)
    (case ljoined_terms => first | k_is | ks_is)
    (case cjoined_terms => first | k_is | ks_is)
    (case kjoined_terms => first | k_is | ks_is)
    (case aterms_of => first | k_is | ks_is)
    (case lterms_of => first | k_is | ks_is)
    (case cterms_of => first | k_is | ks_is)
    (case kterms_of => first | k_is | ks_is)
    (case atutte => first | k_is | ks_is)
    (case ltutte => first | k_is | ks_is)
    (case ctutte => first | k_is | ks_is)
    (case ktutte => first | k_is | ks_is)
    (case ainteger_power => first | k_is | ks_is)
    (case linteger_power => first | k_is | ks_is)
    (case cinteger_power => first | k_is | ks_is)
    (case kinteger_power => first | k_is | ks_is)
    (case atutte_value => first | k_is | ks_is)
    (case ltutte_value => first | k_is | ks_is)
    (case ctutte_value => first | k_is | ks_is)
    (case ktutte_value => first | k_is | ks_is)
    (case ainteger_times => first | k_is | ks_is)
    (case linteger_times => first | k_is | ks_is)
    (case cinteger_times => first | k_is | ks_is)
    (case kinteger_times => first | k_is | ks_is)
    (case awithout_zeros => first | k_is | ks_is)
    (case lwithout_zeros => first | k_is | ks_is)
    (case cwithout_zeros => first | k_is | ks_is)
    (case kwithout_zeros => first | k_is | ks_is)
    (case avalue_row => first | k_is | ks_is)
    (case lvalue_row => first | k_is | ks_is)
    (case cvalue_row => first | k_is | ks_is)
    (case kvalue_row => first | k_is | ks_is)
    (case acolour_row => first | k_is | ks_is)
    (case lcolour_row => first | k_is | ks_is)
    (case ccolour_row => first | k_is | ks_is)
    (case kcolour_row => first | k_is | ks_is)
    (case arow_value => first | k_is | ks_is)
    (case lrow_value => first | k_is | ks_is)
    (case crow_value => first | k_is | ks_is)
    (case krow_value => first | k_is | ks_is)
    (case alaw_cell => first | k_is | ks_is)
    (case llaw_cell => first | k_is | ks_is)
    (case claw_cell => first | k_is | ks_is)
    (case klaw_cell => first | k_is | ks_is)
    (case alaw_same => first | k_is | ks_is)
    (case llaw_same => first | k_is | ks_is)
    (case claw_same => first | k_is | ks_is)
    (case klaw_same => first | k_is | ks_is)
    (case alaw_big => first | k_is | ks_is)
    (case llaw_big => first | k_is | ks_is)
    (case claw_big => first | k_is | ks_is)
    (case klaw_big => first | k_is | ks_is)
    (case alaw_take => first | k_is | ks_is)
    (case llaw_take => first | k_is | ks_is)
    (case claw_take => first | k_is | ks_is)
    (case klaw_take => first | k_is | ks_is)
    (case alaw_graph => first | k_is | ks_is)
    (case llaw_graph => first | k_is | ks_is)
    (case claw_graph => first | k_is | ks_is)
    (case klaw_graph => first | k_is | ks_is)
    (case alaw_parts => first | k_is | ks_is)
    (case llaw_parts => first | k_is | ks_is)
    (case claw_parts => first | k_is | ks_is)
    (case klaw_parts => first | k_is | ks_is)
    (case alaw_chosen => first | k_is | ks_is)
    (case llaw_chosen => first | k_is | ks_is)
    (case claw_chosen => first | k_is | ks_is)
    (case klaw_chosen => first | k_is | ks_is)
    (case alaw_has_circle => first | k_is | ks_is)
    (case llaw_has_circle => first | k_is | ks_is)
    (case claw_has_circle => first | k_is | ks_is)
    (case klaw_has_circle => first | k_is | ks_is)
    (case alaw => first | k_is | ks_is)
    (case llaw => first | k_is | ks_is)
    (case claw => first | k_is | ks_is)
    (case klaw => first | k_is | ks_is)
    (case cdIn => first | k_is | ks_is)
    (case hvs => exact rfl)
    (case pfile => first | rfl | decide +kernel)
    (case ptop => first | rfl | decide +kernel)
    (case rT => first | rfl | decide +kernel)
    (case hp => exact rfl)
    (case har => exact rfl)
    (case hev => exact fun L => ⟨_, rfl⟩)
    (case bI => exact .all fun us hl => match us, hl with | [_, _], _ => rfl)
end
