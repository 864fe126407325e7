import PyProof.Rows.All
import Wide.All
import OpenK.AllK
import Wide.FinOn
import PyProof.EqAt
import PyProof.EqKinds
import PyProof.TupleCall
import HandS.ForMost
import HandS.Exc
import HandS.TryOnly
import HandS.ExcOwn
import HandS.WordsExc
import HandS.Gcd
import HandS.Wide
import HandS.IsInst
import HandS.Style
import HandS.TupAny
import HandS.ExcIs
import KE.RegMulBits
import KE.IntBitsLaws
import HandS.Zip
import HandS.TupMul
import PySem.Challenge.RW_lastchip_k20_bodies_in_time
set_option Elab.async false
set_option linter.all false
set_option maxRecDepth 100000
set_option maxHeartbeats 4000000
/-! Dn: data without addresses. D a value, O an object that is owned, R how they lie in the abstract heap; lift: a reading over data as a reading over the heap. -/
namespace Dn
open PySem PySem.Spec PyProof.Rows L2

inductive D where
  | non | bl (b : Bool) | int (i : Int) | str (x : Str) | tup (ds : List D) | lst (ds : List D) | ref (n : Nat) | adr (a : Addr)
inductive O where
  | lst (ds : List D)
structure Ex where
  cls : Str
  fld : List (Str × D)
abbrev En := List (Option D)
abbrev Hh := List O
/-- the entry: the addresses that are owned there, the heap -/
structure Zs where
  ι : List Addr
  H : Hp

/-- a list of the written part -/
def SqK (K : PySem.W.Frag) (p : Addr) (xs : List V) : Prop :=
  ∃ (ob : Obj) (us : Array Value) (n : Nat), K.lookup p = some ob ∧ ob.cls = .type "list" ∧ ob.dict = none ∧ ob.data = .seq us n ∧ us.size ≤ sizeLine ∧ Vals xs us.toList
/-- a list that stands still while the def runs -/
def FL (K : PySem.W.Frag) (z : Zs) (p : Addr) (xs : List V) : Prop := (Rd z.H p (.lst xs) ∧ p ∉ z.ι) ∨ SqK K p xs
theorem sq_fl {K : PySem.W.Frag} {H : Hp} {p : Addr} {xs : List V} (h : SqL K H p xs) : FL K ⟨[], H⟩ p xs := by
  rcases h with h | h
  · exact .inl ⟨h, by simp⟩
  · exact .inr h
mutual
inductive Den (K : PySem.W.Frag) (z : Zs) (ι : List Addr) (H : Hp) : V → D → Prop
  | non : Den K z ι H .non .non
  | bl (b : Bool) : Den K z ι H (.bl b) (.bl b)
  | int (i : Int) : Den K z ι H (.int i) (.int i)
  | str (x : Str) : Den K z ι H (.str x) (.str x)
  | tup {p : Addr} {xs : List V} {ds : List D} : SqT K H p xs → Dens K z ι H xs ds → Den K z ι H (.ref p) (.tup ds)
  | lst {p : Addr} {xs : List V} {ds : List D} : FL K z p xs → Dens K z ι H xs ds → Den K z ι H (.ref p) (.lst ds)
  | ref {p : Addr} {n : Nat} : ι[n]? = some p → Den K z ι H (.ref p) (.ref n)
  | adr (a : Addr) : Den K z ι H (.ref a) (.adr a)
inductive Dens (K : PySem.W.Frag) (z : Zs) (ι : List Addr) (H : Hp) : List V → List D → Prop
  | nil : Dens K z ι H [] []
  | cons {v : V} {vs : List V} {d : D} {ds : List D} : Den K z ι H v d → Dens K z ι H vs ds → Dens K z ι H (v :: vs) (d :: ds)
end

/-- from (ι, H) to (ι', H'): what is not owned stays, what is newly owned was free -/
structure Kp (K : PySem.W.Frag) (ι ι' : List Addr) (H H' : Hp) : Prop where
  pre : ι <+: ι'
  frame : ∀ a o, a ∉ ι → H a = some o → H' a = some o
  tup : ∀ p xs, SqT K H p xs → SqT K H' p xs
  new : ∀ p ∈ ι', p ∈ ι ∨ H p = none
theorem Kp.refl {K : PySem.W.Frag} {ι : List Addr} {H : Hp} : Kp K ι ι H H := ⟨List.prefix_refl _, fun _ _ _ h => h, fun _ _ h => h, fun _ h => .inl h⟩
theorem Kp.trans {K : PySem.W.Frag} {ι ι1 ι2 : List Addr} {H H1 H2 : Hp} (a : Kp K ι ι1 H H1) (b : Kp K ι1 ι2 H1 H2) : Kp K ι ι2 H H2 := by
  refine ⟨a.pre.trans b.pre, fun c o hc e => b.frame c o (fun hm => ?_) (a.frame c o hc e), fun p xs h => b.tup p xs (a.tup p xs h), fun p hp => ?_⟩
  · rcases a.new c hm with q | q
    · exact hc q
    · rw [e] at q; cases q
  · rcases b.new p hp with q | q
    · exact a.new p q
    · by_cases hi : p ∈ ι
      · exact .inl hi
      · refine .inr ?_
        cases e : H p with
        | none => rfl
        | some o => rw [a.frame p o hi e] at q; cases q

mutual
theorem Den.keep {K : PySem.W.Frag} {z : Zs} {ι ι' : List Addr} {H H' : Hp} (k : Kp K ι ι' H H') : ∀ {v : V} {d : D}, Den K z ι H v d → Den K z ι' H' v d
  | _, _, .non => .non
  | _, _, .bl b => .bl b
  | _, _, .int i => .int i
  | _, _, .str x => .str x
  | _, _, .tup h hs => .tup (k.tup _ _ h) (Dens.keep k hs)
  | _, _, .lst h hs => .lst h (Dens.keep k hs)
  | _, _, .ref h => .ref (by
    obtain ⟨r, e⟩ := k.pre
    rw [← e]
    obtain ⟨hl, _⟩ := List.getElem?_eq_some_iff.mp h
    rw [List.getElem?_append_left hl]
    exact h)
  | _, _, .adr a => .adr a
theorem Dens.keep {K : PySem.W.Frag} {z : Zs} {ι ι' : List Addr} {H H' : Hp} (k : Kp K ι ι' H H') : ∀ {vs : List V} {ds : List D}, Dens K z ι H vs ds → Dens K z ι' H' vs ds
  | _, _, .nil => .nil
  | _, _, .cons h t => .cons (Den.keep k h) (Dens.keep k t)
end
theorem Dens.length {K : PySem.W.Frag} {z : Zs} {ι : List Addr} {H : Hp} : ∀ {vs : List V} {ds : List D}, Dens K z ι H vs ds → vs.length = ds.length
  | _, _, .nil => rfl
  | _, _, .cons _ t => by rw [List.length_cons, List.length_cons, Dens.length t]
theorem Dens.get {K : PySem.W.Frag} {z : Zs} {ι : List Addr} {H : Hp} : ∀ {vs : List V} {ds : List D} {i : Nat} {d : D}, Dens K z ι H vs ds → ds[i]? = some d → ∃ v, vs[i]? = some v ∧ Den K z ι H v d
  | _, _, _, _, .nil, e => by simp at e
  | _, _, 0, _, .cons h _, e => by simp at e; subst e; exact ⟨_, rfl, h⟩
  | _, _, i + 1, d, .cons _ t, e => by
    obtain ⟨v, h1, h2⟩ := Dens.get (i := i) (d := d) t (by simpa using e)
    exact ⟨v, by simpa using h1, h2⟩
theorem Dens.getV {K : PySem.W.Frag} {z : Zs} {ι : List Addr} {H : Hp} : ∀ {vs : List V} {ds : List D} {i : Nat} {v : V}, Dens K z ι H vs ds → vs[i]? = some v → ∃ d, ds[i]? = some d ∧ Den K z ι H v d
  | _, _, _, _, .nil, e => by simp at e
  | _, _, 0, _, .cons h _, e => by simp at e; subst e; exact ⟨_, rfl, h⟩
  | _, _, i + 1, v, .cons _ t, e => by
    obtain ⟨d, h1, h2⟩ := Dens.getV (i := i) (v := v) t (by simpa using e)
    exact ⟨d, by simpa using h1, h2⟩
theorem Dens.append {K : PySem.W.Frag} {z : Zs} {ι : List Addr} {H : Hp} : ∀ {vs ws : List V} {ds es : List D}, Dens K z ι H vs ds → Dens K z ι H ws es → Dens K z ι H (vs ++ ws) (ds ++ es)
  | _, _, _, _, .nil, s => s
  | _, _, _, _, .cons h t, s => .cons h (Dens.append t s)
theorem Dens.take {K : PySem.W.Frag} {z : Zs} {ι : List Addr} {H : Hp} : ∀ {vs : List V} {ds : List D} (n : Nat), Dens K z ι H vs ds → Dens K z ι H (vs.take n) (ds.take n)
  | _, _, 0, _ => .nil
  | _, _, _ + 1, .nil => .nil
  | _, _, n + 1, .cons h t => .cons h (Dens.take n t)
theorem Dens.drop {K : PySem.W.Frag} {z : Zs} {ι : List Addr} {H : Hp} : ∀ {vs : List V} {ds : List D} (n : Nat), Dens K z ι H vs ds → Dens K z ι H (vs.drop n) (ds.drop n)
  | _, _, 0, r => r
  | _, _, _ + 1, .nil => .nil
  | _, _, n + 1, .cons _ t => Dens.drop n t
theorem Dens.set {K : PySem.W.Frag} {z : Zs} {ι : List Addr} {H : Hp} {v : V} {d : D} (h : Den K z ι H v d) : ∀ {vs : List V} {ds : List D} (n : Nat), Dens K z ι H vs ds → Dens K z ι H (vs.set n v) (ds.set n d)
  | _, _, _, .nil => .nil
  | _, _, 0, .cons _ t => .cons h t
  | _, _, n + 1, .cons q t => .cons q (Dens.set h n t)

/-- how an owned object lies -/
def ORel (K : PySem.W.Frag) (z : Zs) (ι : List Addr) (H : Hp) (p : Addr) : O → Prop
  | .lst ds => ∃ xs, H p = some (.lst xs) ∧ Dens K z ι H xs ds
structure RH (K : PySem.W.Frag) (z : Zs) (ι : List Addr) (h : Hh) (H : Hp) : Prop where
  base : Kp K z.ι ι z.H H
  len : ι.length = h.length
  nd : ι.Nodup
  obj : ∀ (n : Nat) (o : O), h[n]? = some o → ∃ p, ι[n]? = some p ∧ ORel K z ι H p o
structure RE (K : PySem.W.Frag) (z : Zs) (ι : List Addr) (e : En) (H : Hp) (σ : L2.St) : Prop where
  len : e.length = σ.length
  get : ∀ (i : Nat) (d : D), e[i]? = some (some d) → ∃ v, σ[i]? = some (some v) ∧ Den K z ι H v d
structure R (K : PySem.W.Frag) (z : Zs) (ι : List Addr) (h : Hh) (e : En) (H : Hp) (σ : L2.St) : Prop where
  hp : RH K z ι h H
  en : RE K z ι e H σ
section
variable {K : PySem.W.Frag} {z : Zs} {ι ι' : List Addr} {h : Hh} {e : En} {H H' : Hp} {σ : L2.St} {p : Addr} {n : Nat}
theorem RE.keep (r : RE K z ι e H σ) (k : Kp K ι ι' H H') : RE K z ι' e H' σ := ⟨r.len, fun i d q => let ⟨v, h1, h2⟩ := r.get i d q; ⟨v, h1, h2.keep k⟩⟩
theorem RE.set {v : V} {d : D} (r : RE K z ι e H σ) (i : Nat) (q : Den K z ι H v d) : RE K z ι (e.set i (some d)) H (σ.set i (some v)) := by
  refine ⟨by rw [List.length_set, List.length_set]; exact r.len, fun j c hc => ?_⟩
  by_cases hj : i = j
  · subst hj
    by_cases hl : i < e.length
    · rw [List.getElem?_set_self hl] at hc
      injection hc with hc; injection hc with hc; subst hc
      exact ⟨v, by rw [List.getElem?_set_self (by rw [← r.len]; exact hl)], q⟩
    · rw [List.getElem?_eq_none (by rw [List.length_set]; omega)] at hc; cases hc
  · rw [List.getElem?_set_ne hj] at hc
    obtain ⟨u, h1, h2⟩ := r.get j c hc
    exact ⟨u, by rw [List.getElem?_set_ne hj]; exact h1, h2⟩
theorem RE.unset (r : RE K z ι e H σ) (i : Nat) : RE K z ι (e.set i none) H (σ.set i none) := by
  refine ⟨by rw [List.length_set, List.length_set]; exact r.len, fun j c hc => ?_⟩
  by_cases hj : i = j
  · subst hj
    by_cases hl : i < e.length
    · rw [List.getElem?_set_self hl] at hc; cases hc
    · rw [List.getElem?_eq_none (by rw [List.length_set]; omega)] at hc; cases hc
  · rw [List.getElem?_set_ne hj] at hc
    obtain ⟨u, h1, h2⟩ := r.get j c hc
    exact ⟨u, by rw [List.getElem?_set_ne hj]; exact h1, h2⟩
theorem RH.at_ {o : O} (r : RH K z ι h H) (hn : h[n]? = some o) (hp : ι[n]? = some p) : ORel K z ι H p o := by
  obtain ⟨q, h1, h2⟩ := r.obj n o hn
  rw [hp] at h1; injection h1 with h1; subst h1; exact h2
theorem ORel.some {o : O} (q : ORel K z ι H p o) : ∃ u, H p = some u := by
  cases o with
  | lst ds => obtain ⟨xs, e, _⟩ := q; exact ⟨_, e⟩
theorem RH.tracked (r : RH K z ι h H) (hp : p ∈ ι) : ∃ u, H p = some u := by
  obtain ⟨n, hn⟩ := List.getElem?_of_mem hp
  obtain ⟨hl, _⟩ := List.getElem?_eq_some_iff.mp hn
  have hl' : n < h.length := by rw [← r.len]; exact hl
  exact (r.at_ (List.getElem?_eq_getElem hl') hn).some
theorem RH.notown (r : RH K z ι h H) (hp : H p = none) : p ∉ ι := fun hm => by
  obtain ⟨u, e⟩ := r.tracked hm
  rw [hp] at e; cases e
theorem sqT_upd {xs : List V} {o : HO} {q : Addr} (hp : ∀ ys, ¬ Rd H q (.tup ys)) (h1 : SqT K H p xs) : SqT K (upd H q o) p xs := by
  rcases h1 with (h1 | ⟨u, h1⟩) | h1
  · have hne : p ≠ q := fun e => hp xs (.inl (e ▸ h1))
    exact .inl (.inl (by rw [upd_ne hne]; exact h1))
  · have hne : p ≠ q := fun e => hp xs (.inr ⟨u, e ▸ h1⟩)
    exact .inl (.inr ⟨u, by rw [upd_ne hne]; exact h1⟩)
  · exact .inr h1
/-- an object that is not owned is laid -/
theorem Kp.laid (hp : H p = none) (o : HO) : Kp K ι ι H (upd H p o) :=
  ⟨List.prefix_refl _, fun a u _ q => by rw [upd_ne (ne_of_none q hp)]; exact q, fun a xs q => sqT_upd (fun ys z => by rcases z with z | ⟨u, z⟩ <;> rw [hp] at z <;> cases z) q, fun _ q => .inl q⟩
theorem RH.laid (r : RH K z ι h H) (hp : H p = none) (o : HO) : RH K z ι h (upd H p o) := by
  have k : Kp K ι ι H (upd H p o) := Kp.laid hp o
  refine ⟨r.base.trans k, r.len, r.nd, fun n u hn => ?_⟩
  obtain ⟨q, h1, h2⟩ := r.obj n u hn
  refine ⟨q, h1, ?_⟩
  cases u with
  | lst ds =>
    obtain ⟨xs, e1, e2⟩ := h2
    exact ⟨xs, by rw [upd_ne (ne_of_none e1 hp)]; exact e1, e2.keep k⟩
theorem R.laid (r : R K z ι h e H σ) (hp : H p = none) (o : HO) : R K z ι h e (upd H p o) σ := ⟨r.hp.laid hp o, r.en.keep (Kp.laid hp o)⟩
/-- a new list is owned from now on -/
theorem Kp.owned (hp : H p = none) (o : HO) : Kp K ι (ι ++ [p]) H (upd H p o) :=
  ⟨List.prefix_append _ _, (Kp.laid (K := K) (ι := ι) hp o).frame, (Kp.laid (K := K) (ι := ι) hp o).tup, fun q hq => by
    rcases List.mem_append.mp hq with m | m
    · exact .inl m
    · rw [List.mem_singleton] at m; subst m; exact .inr hp⟩
theorem RH.owned {xs : List V} {ds : List D} (r : RH K z ι h H) (hp : H p = none) (q : Dens K z ι H xs ds) : RH K z (ι ++ [p]) (h ++ [.lst ds]) (upd H p (.lst xs)) := by
  have k : Kp K ι (ι ++ [p]) H (upd H p (.lst xs)) := Kp.owned hp _
  refine ⟨r.base.trans k, by rw [List.length_append, List.length_append, r.len]; rfl, ?_, fun n u hn => ?_⟩
  · rw [List.nodup_append]
    exact ⟨r.nd, by simp, fun a ha b hb => by rw [List.mem_singleton] at hb; subst hb; exact fun e => r.notown hp (e ▸ ha)⟩
  · by_cases hl : n < h.length
    · rw [List.getElem?_append_left hl] at hn
      obtain ⟨q', h1, h2⟩ := r.obj n u hn
      refine ⟨q', by rw [List.getElem?_append_left (by rw [r.len]; exact hl)]; exact h1, ?_⟩
      cases u with
      | lst ds =>
        obtain ⟨xs, e1, e2⟩ := h2
        exact ⟨xs, by rw [upd_ne (ne_of_none e1 hp)]; exact e1, e2.keep k⟩
    · have hl2 : n = h.length := by
        have := (List.getElem?_eq_some_iff.mp hn).1
        rw [List.length_append] at this
        simp at this; omega
      subst hl2
      rw [List.getElem?_append_right (Nat.le_refl _), Nat.sub_self] at hn
      injection hn with hn
      subst hn
      refine ⟨p, by rw [List.getElem?_append_right (by rw [r.len]; exact Nat.le_refl _), r.len, Nat.sub_self]; rfl, xs, upd_same, q.keep k⟩
theorem R.owned {xs : List V} {ds : List D} (r : R K z ι h e H σ) (hp : H p = none) (q : Dens K z ι H xs ds) : R K z (ι ++ [p]) (h ++ [.lst ds]) e (upd H p (.lst xs)) σ := ⟨r.hp.owned hp q, r.en.keep (Kp.owned hp _)⟩
theorem den_new (r : RH K z ι h H) {H' : Hp} : Den K z (ι ++ [p]) H' (.ref p) (.ref h.length) := .ref (by
  rw [List.getElem?_append_right (by rw [r.len]; exact Nat.le_refl _), r.len, Nat.sub_self]; rfl)
/-- an owned list is written -/
theorem RH.notup {xs : List V} (r : RH K z ι h H) (hp : p ∈ ι) : ∀ ys, ¬ Rd H p (.tup ys) := fun ys q => by
  obtain ⟨n, hn⟩ := List.getElem?_of_mem hp
  obtain ⟨hl, _⟩ := List.getElem?_eq_some_iff.mp hn
  have hl' : n < h.length := by rw [← r.len]; exact hl
  have w := r.at_ (List.getElem?_eq_getElem hl') hn
  cases eo : h[n] with
  | lst ds =>
    rw [eo] at w
    obtain ⟨xs, e1, _⟩ := w
    rcases q with q | ⟨u, q⟩ <;> rw [e1] at q <;> cases q
theorem Kp.wrote (r : RH K z ι h H) (hp : p ∈ ι) (o : HO) : Kp K ι ι H (upd H p o) :=
  ⟨List.prefix_refl _, fun a u ha q => by
    have hne : a ≠ p := fun e => ha (by rw [e]; exact hp)
    rw [upd_ne hne]; exact q, fun a xs q => sqT_upd (r.notup (xs := []) hp) q, fun _ q => .inl q⟩
theorem RH.wrote {xs : List V} {ds : List D} (r : RH K z ι h H) (hn : ι[n]? = some p) (hl : n < h.length) (q : Dens K z ι H xs ds) : RH K z ι (h.set n (.lst ds)) (upd H p (.lst xs)) := by
  have hm : p ∈ ι := List.mem_of_getElem? hn
  have k : Kp K ι ι H (upd H p (.lst xs)) := Kp.wrote r hm _
  refine ⟨r.base.trans k, by rw [List.length_set]; exact r.len, r.nd, fun m u hu => ?_⟩
  by_cases hmn : n = m
  · subst hmn
    rw [List.getElem?_set_self hl] at hu
    injection hu with hu; subst hu
    exact ⟨p, hn, xs, upd_same, q.keep k⟩
  · rw [List.getElem?_set_ne hmn] at hu
    obtain ⟨q', h1, h2⟩ := r.obj m u hu
    have hne : q' ≠ p := fun e => by
      subst e
      obtain ⟨a1, b1⟩ := List.getElem?_eq_some_iff.mp hn
      obtain ⟨a2, b2⟩ := List.getElem?_eq_some_iff.mp h1
      exact hmn ((List.getElem_inj r.nd).mp (b1.trans b2.symm))
    refine ⟨q', h1, ?_⟩
    cases u with
    | lst ds =>
      obtain ⟨ys, e1, e2⟩ := h2
      exact ⟨ys, by rw [upd_ne hne]; exact e1, e2.keep k⟩
theorem R.wrote {xs : List V} {ds : List D} (r : R K z ι h e H σ) (hn : ι[n]? = some p) (hl : n < h.length) (q : Dens K z ι H xs ds) : R K z ι (h.set n (.lst ds)) e (upd H p (.lst xs)) σ :=
  ⟨r.hp.wrote hn hl q, r.en.keep (Kp.wrote r.hp (List.mem_of_getElem? hn) _)⟩
end
/-- the list at an owned place -/
theorem RH.list {K : PySem.W.Frag} {z : Zs} {ι : List Addr} {h : Hh} {H : Hp} {n : Nat} {v : V} {ds : List D} (r : RH K z ι h H) (q : Den K z ι H v (.ref n)) (hn : h[n]? = some (.lst ds)) : ∃ p xs, v = .ref p ∧ ι[n]? = some p ∧ H p = some (.lst xs) ∧ Dens K z ι H xs ds ∧ n < h.length := by
  cases q with
  | ref hp =>
    obtain ⟨xs, e1, e2⟩ := r.at_ hn hp
    exact ⟨_, xs, rfl, hp, e1, e2, (List.getElem?_eq_some_iff.mp hn).1⟩
/-- a list of the entry stands -/
theorem fl_stay {K : PySem.W.Frag} {z : Zs} {ι : List Addr} {h : Hh} {H : Hp} {p : Addr} {xs : List V} (r : RH K z ι h H) (q : FL K z p xs) : SqL K H p xs := by
  rcases q with ⟨q | ⟨u, q⟩, hm⟩ | q
  · exact .inl (.inl (r.base.frame p _ hm q))
  · exact .inl (.inr ⟨u, r.base.frame p _ hm q⟩)
  · exact .inr q
end Dn


namespace Dn
open PySem PySem.Spec PyProof.Rows L2

abbrev XK' := Ex → Hh → Prop
abbrev dG (α : Type) := En → Hh → (α → Hh → Prop) → XK' → Prop
abbrev dE := dG D
abbrev dT := dG Bool
abbrev dA := dG (List D)
def Mono {α : Type} (t : dG α) : Prop := ∀ e h (Q Q' : α → Hh → Prop) (E E' : XK'), (∀ a h', Q a h' → Q' a h') → (∀ x h', E x h' → E' x h') → t e h Q E → t e h Q' E'

def ExR (K : PySem.W.Frag) (mg : Str → Option Value) (z : Zs) (ι : List Addr) (H : Hp) (cls : Value) (dd : Option Addr) (x : Ex) : Prop :=
  mg x.cls = some cls ∧ ((x.fld = [] ∧ dd = none) ∨ ∃ d fs, x.fld ≠ [] ∧ dd = some d ∧ H d = some (.xd fs) ∧ fs.map (·.1) = x.fld.map (·.1) ∧ Dens K z ι H (fs.map (·.2)) (x.fld.map (·.2)))

/-- what is wanted of a value, of a test, of arguments, of an exception, as the heap has it -/
def PEq (K : PySem.W.Frag) (z : Zs) (ι : List Addr) (e : En) (σ : L2.St) (H : Hp) (Q : VK) : D → Hh → Prop := fun d h' => ∀ ι' H' v, Kp K ι ι' H H' → R K z ι' h' e H' σ → Den K z ι' H' v d → Q v H'
def PTq (K : PySem.W.Frag) (z : Zs) (ι : List Addr) (e : En) (σ : L2.St) (H : Hp) (Q : Bool → Hp → Prop) : Bool → Hh → Prop := fun b h' => ∀ ι' H', Kp K ι ι' H H' → R K z ι' h' e H' σ → Q b H'
def PAq (K : PySem.W.Frag) (z : Zs) (ι : List Addr) (e : En) (σ : L2.St) (H : Hp) (Q : List V → Hp → Prop) : List D → Hh → Prop := fun ds h' => ∀ ι' H' vs, Kp K ι ι' H H' → R K z ι' h' e H' σ → Dens K z ι' H' vs ds → Q vs H'
def PXq (K : PySem.W.Frag) (mg : Str → Option Value) (z : Zs) (ι : List Addr) (e : En) (σ : L2.St) (H : Hp) (W : WX) : XK' := fun x h' => ∀ ι' H' cls dd, Kp K ι ι' H H' → R K z ι' h' e H' σ → ExR K mg z ι' H' cls dd x → W cls dd σ H'
section
variable {K : PySem.W.Frag} {mg : Str → Option Value} {z : Zs} {ι ι' : List Addr} {e : En} {σ : L2.St} {H H' : Hp} {h' : Hh}
theorem PEq.shift {Q : VK} {d : D} (k : Kp K ι ι' H H') (q : PEq K z ι e σ H Q d h') : PEq K z ι' e σ H' Q d h' := fun i2 H2 v k2 r dn => q i2 H2 v (k.trans k2) r dn
theorem PTq.shift {Q : Bool → Hp → Prop} {b : Bool} (k : Kp K ι ι' H H') (q : PTq K z ι e σ H Q b h') : PTq K z ι' e σ H' Q b h' := fun i2 H2 k2 r => q i2 H2 (k.trans k2) r
theorem PAq.shift {Q : List V → Hp → Prop} {ds : List D} (k : Kp K ι ι' H H') (q : PAq K z ι e σ H Q ds h') : PAq K z ι' e σ H' Q ds h' := fun i2 H2 v k2 r dn => q i2 H2 v (k.trans k2) r dn
theorem PXq.shift {W : WX} {x : Ex} (k : Kp K ι ι' H H') (q : PXq K mg z ι e σ H W x h') : PXq K mg z ι' e σ H' W x h' := fun i2 H2 c dd k2 r dn => q i2 H2 c dd (k.trans k2) r dn
end
def lift (K : PySem.W.Frag) (mg : Str → Option Value) (z : Zs) (W : WX) (t : dE) : TE := fun σ H Q => ∃ ι h e, R K z ι h e H σ ∧ t e h (PEq K z ι e σ H Q) (PXq K mg z ι e σ H W)
def liftT (K : PySem.W.Frag) (mg : Str → Option Value) (z : Zs) (W : WX) (t : dT) : TT := fun σ H Q => ∃ ι h e, R K z ι h e H σ ∧ t e h (PTq K z ι e σ H Q) (PXq K mg z ι e σ H W)
def liftA (K : PySem.W.Frag) (mg : Str → Option Value) (z : Zs) (W : WX) (t : dA) : TA := fun σ H Q => ∃ ι h e, R K z ι h e H σ ∧ t e h (PAq K z ι e σ H Q) (PXq K mg z ι e σ H W)
structure DE (X : Cx) (z : Zs) (W : WX) (a : Expr) (t : dE) : Prop where
  run : PE X a (lift X.K X.mg z W t)
  mono : Mono t
structure DT (X : Cx) (z : Zs) (W : WX) (a : Expr) (t : dT) : Prop where
  run : PT X a (liftT X.K X.mg z W t)
  mono : Mono t
/-- an argument list of n expressions -/
structure DA (X : Cx) (z : Zs) (W : WX) (es : List Expr) (t : dA) (n : Nat) : Prop where
  run : PA X es (liftA X.K X.mg z W t)
  mono : Mono t
  len : ∀ e h Q E, t e h Q E → t e h (fun ds h' => ds.length = n ∧ Q ds h') E

theorem pe_imp {X : Cx} {a : Expr} {t t' : TE} (h : PE X a t) (i : ∀ σ H Q, t' σ H Q → t σ H Q) : PE X a t' := ⟨fun pins s σ H Q I w => h.run pins s σ H Q I (i σ H Q w)⟩
theorem pt_imp {X : Cx} {a : Expr} {t t' : TT} (h : PT X a t) (i : ∀ σ H Q, t' σ H Q → t σ H Q) : PT X a t' := ⟨fun pins s σ H Q I w => h.run pins s σ H Q I (i σ H Q w)⟩
theorem pw_imp {X : Cx} {a : Expr} {t t' : TT} (h : PW X a t) (i : ∀ σ H Q, t' σ H Q → t σ H Q) : PW X a t' := ⟨fun wh pins s σ H Q I w => h.run wh pins s σ H Q I (i σ H Q w)⟩
theorem pa_imp {X : Cx} {a : List Expr} {t t' : TA} (h : PA X a t) (i : ∀ σ H Q, t' σ H Q → t σ H Q) : PA X a t' := ⟨fun pos pins s σ H Q I w => h.run pos pins s σ H Q I (i σ H Q w)⟩
theorem ps_imp {X : Cx} {a : Stmt} {t t' : TS} (h : PS X a t) (i : ∀ D σ H, t' D σ H → t D σ H) : PS X a t' := ⟨fun pins s σ H D I w => h.run pins s σ H D I (i D σ H w)⟩
theorem pss_imp {X : Cx} {a : List Stmt} {t t' : TS} (h : PSs X a t) (i : ∀ D σ H, t' D σ H → t D σ H) : PSs X a t' := ⟨fun pins s σ H D I w => h.run pins s σ H D I (i D σ H w)⟩
theorem pi_imp {X : Cx} {tg a : Expr} {t t' : TI} (h : PI X tg a t) (i : ∀ σ H Q, t' σ H Q → t σ H Q) : PI X tg a t' := ⟨fun pins s σ H Q I w => h.run pins s σ H Q I (i σ H Q w)⟩

section
variable {K : PySem.W.Frag} {mg : Str → Option Value} {z : Zs} {W : WX} {ι : List Addr} {h : Hh} {e : En} {H : Hp} {σ : L2.St}
/-- the working lemmas: a reading, then what is done with what it gives -/
theorem lift_of {t : dE} {P : D → Hh → Prop} {E : XK'} {Q : VK} (m : Mono t) (r : R K z ι h e H σ) (q : t e h P E) (hP : ∀ d h1 ι1 H1 v, P d h1 → Kp K ι ι1 H H1 → R K z ι1 h1 e H1 σ → Den K z ι1 H1 v d → Q v H1)
    (hE : ∀ x h1, E x h1 → PXq K mg z ι e σ H W x h1) : lift K mg z W t σ H Q :=
  ⟨ι, h, e, r, m e h _ _ _ _ (fun d h1 p ι1 H1 v k1 r1 dn => hP d h1 ι1 H1 v p k1 r1 dn) hE q⟩
theorem liftT_of {t : dT} {P : Bool → Hh → Prop} {E : XK'} {Q : Bool → Hp → Prop} (m : Mono t) (r : R K z ι h e H σ) (q : t e h P E) (hP : ∀ b h1 ι1 H1, P b h1 → Kp K ι ι1 H H1 → R K z ι1 h1 e H1 σ → Q b H1)
    (hE : ∀ x h1, E x h1 → PXq K mg z ι e σ H W x h1) : liftT K mg z W t σ H Q :=
  ⟨ι, h, e, r, m e h _ _ _ _ (fun d h1 p ι1 H1 k1 r1 => hP d h1 ι1 H1 p k1 r1) hE q⟩
theorem liftA_of {t : dA} {P : List D → Hh → Prop} {E : XK'} {Q : List V → Hp → Prop} (m : Mono t) (r : R K z ι h e H σ) (q : t e h P E) (hP : ∀ d h1 ι1 H1 v, P d h1 → Kp K ι ι1 H H1 → R K z ι1 h1 e H1 σ → Dens K z ι1 H1 v d → Q v H1)
    (hE : ∀ x h1, E x h1 → PXq K mg z ι e σ H W x h1) : liftA K mg z W t σ H Q :=
  ⟨ι, h, e, r, m e h _ _ _ _ (fun d h1 p ι1 H1 v k1 r1 dn => hP d h1 ι1 H1 v p k1 r1 dn) hE q⟩
end

/-! ### names, constants -/
def slot : En → Nat → Option D
  | [], _ => none
  | x :: _, 0 => x
  | _ :: r, n + 1 => slot r n
theorem slot_get : ∀ {e : En} {i : Nat} {d : D}, slot e i = some d → e[i]? = some (some d)
  | [], _, _, h => by cases h
  | x :: _, 0, d, h => by
    have h' : x = some d := h
    subst h'; rfl
  | _ :: r, n + 1, d, h => by
    have := slot_get (e := r) (i := n) h
    simpa using this
def dVar (i : Nat) : dE := fun e h Q _ => match slot e i with
  | some d => Q d h
  | none => False
def dC (d : D) : dE := fun _ h Q _ => Q d h
section
variable {X : Cx} {z : Zs} {W : WX}
theorem de_var (i : Nat) {x : Str} {pos : Pos} (hN : X.N[i]? = some x) (hv : Vis X.env.scope x) (hd : (x == ("__debug__" : Str)) = false) (hcd : (x == ("__classdict__" : Str)) = false) : DE X z W (.Name x pos) (dVar i) := by
  refine ⟨pe_imp (pe_var hN hv hd hcd) fun σ H Q hh => ?_, fun e h Q Q' E E' hQ hE q => ?_⟩
  · obtain ⟨ι, h, e, r, q⟩ := hh
    unfold dVar at q
    cases es : slot e i with
    | none => rw [es] at q; exact q.elim
    | some d =>
      rw [es] at q
      obtain ⟨v, h1, h2⟩ := r.en.get i d (slot_get es)
      exact ⟨v, h1, q ι H v Kp.refl r h2⟩
  · unfold dVar at q ⊢
    cases es : slot e i with
    | none => rw [es] at q; exact q.elim
    | some d => rw [es] at q; exact hQ _ _ q
theorem mono_c (d : D) : Mono (dC d) := fun _ h _ _ _ _ hQ _ q => hQ d h q
theorem de_int {i : Int} {j pos} : DE X z W (.Constant (.int i) j pos) (dC (.int i)) := ⟨pe_imp pe_int fun σ H Q ⟨ι, h, e, r, q⟩ => q ι H _ Kp.refl r (.int i), mono_c _⟩
theorem de_bl {b : Bool} {j pos} : DE X z W (.Constant (.bool b) j pos) (dC (.bl b)) := ⟨pe_imp pe_bl fun σ H Q ⟨ι, h, e, r, q⟩ => q ι H _ Kp.refl r (.bl b), mono_c _⟩
theorem de_non {j pos} : DE X z W (.Constant .none j pos) (dC .non) := ⟨pe_imp pe_non fun σ H Q ⟨ι, h, e, r, q⟩ => q ι H _ Kp.refl r .non, mono_c _⟩
theorem de_str {x : Str} {j pos} : DE X z W (.Constant (.str x) j pos) (dC (.str x)) := ⟨pe_imp pe_str fun σ H Q ⟨ι, h, e, r, q⟩ => q ι H _ Kp.refl r (.str x), mono_c _⟩
end

/-! ### results of operations -/
inductive Rs where
  | ok (d : D) (h : Hh)
  | opt (o : Option D) (h : Hh)
  | cond (c : Prop) (d : D) (h : Hh)
  | no
def Rs.to : Rs → (D → Hh → Prop) → Prop
  | .ok d h, Q => Q d h
  | .opt o h, Q => ∃ d, o = some d ∧ Q d h
  | .cond c d h, Q => c ∧ Q d h
  | .no, _ => False
theorem Rs.mono {r : Rs} {Q Q' : D → Hh → Prop} (hQ : ∀ d h, Q d h → Q' d h) (q : r.to Q) : r.to Q' := by
  cases r with
  | ok d h => exact hQ _ _ q
  | opt o h => obtain ⟨d, e, q⟩ := q; exact ⟨d, e, hQ _ _ q⟩
  | cond c d h => exact ⟨q.1, hQ _ _ q.2⟩
  | no => exact q.elim
def dOp (f : D → D → Hh → Rs) (ta tb : dE) : dE := fun e h Q E => ta e h (fun x h1 => tb e h1 (fun y h2 => (f x y h2).to Q) E) E
def dUn (f : D → Hh → Rs) (ta : dE) : dE := fun e h Q E => ta e h (fun x h1 => (f x h1).to Q) E
theorem mono_op {f : D → D → Hh → Rs} {ta tb : dE} (ma : Mono ta) (mb : Mono tb) : Mono (dOp f ta tb) := fun e h _ _ _ _ hQ hE q =>
  ma e h _ _ _ _ (fun _ h1 q1 => mb e h1 _ _ _ _ (fun _ _ q2 => Rs.mono hQ q2) hE q1) hE q
theorem mono_un {f : D → Hh → Rs} {ta : dE} (ma : Mono ta) : Mono (dUn f ta) := fun e h _ _ _ _ hQ hE q =>
  ma e h _ _ _ _ (fun _ _ q1 => Rs.mono hQ q1) hE q
/-- the operation f over data is the operation rr over values -/
def OpD (K : PySem.W.Frag) (f : D → D → Hh → Rs) (rr : R2) : Prop := ∀ (z : Zs) (ι : List Addr) (h : Hh) (e : En) (H : Hp) (σ : L2.St) (x y : V) (a b : D) (Q : VK),
  R K z ι h e H σ → Den K z ι H x a → Den K z ι H y b → (f a b h).to (PEq K z ι e σ H Q) → rr x y H Q
def UnD (K : PySem.W.Frag) (f : D → Hh → Rs) (rr : V → Hp → VK → Prop) : Prop := ∀ (z : Zs) (ι : List Addr) (h : Hh) (e : En) (H : Hp) (σ : L2.St) (x : V) (a : D) (Q : VK),
  R K z ι h e H σ → Den K z ι H x a → (f a h).to (PEq K z ι e σ H Q) → rr x H Q
section
variable {X : Cx} {z : Zs} {W : WX} {a b : Expr} {ta tb : dE} {f : D → D → Hh → Rs} {rr : R2} {pos : Pos}
theorem op_read (ho : OpD X.K f rr) (ha : DE X z W a ta) (hb : DE X z W b tb) {σ : L2.St} {H : Hp} {Q : VK} (hh : lift X.K X.mg z W (dOp f ta tb) σ H Q) : tOp rr (lift X.K X.mg z W ta) (lift X.K X.mg z W tb) σ H Q := by
  obtain ⟨ι, h, e, r, q⟩ := hh
  refine lift_of ha.mono r q (fun x h1 ι1 H1 v q1 k1 r1 d1 => ?_) fun _ _ q => q
  refine lift_of hb.mono r1 q1 (fun y h2 ι2 H2 u q2 k2 r2 d2 => ?_) fun x h' px => px.shift k1
  exact ho z ι2 h2 e H2 σ v u x y Q r2 (d1.keep k2) d2 (Rs.mono (fun d h' p => PEq.shift (k1.trans k2) p) q2)
theorem de_bin {op : Operator} (hr : OpR X (binaryOp op) rr) (ho : OpD X.K f rr) (ha : DE X z W a ta) (hb : DE X z W b tb) : DE X z W (.BinOp a op b pos) (dOp f ta tb) :=
  ⟨pe_imp (pe_op hr ha.run hb.run) fun _ _ _ hh => op_read ho ha hb hh, mono_op ha.mono hb.mono⟩
theorem de_cmp {op : CmpOp} (hr : OpR X (compareOp op) rr) (ho : OpD X.K f rr) (ha : DE X z W a ta) (hb : DE X z W b tb) (hm : behindInMarks op b = false) : DE X z W (.Compare a [op] [b] pos) (dOp f ta tb) :=
  ⟨pe_imp (pe_cmpR hr ha.run hb.run hm) fun _ _ _ hh => op_read ho ha hb hh, mono_op ha.mono hb.mono⟩
theorem de_sub (hr : IxR X rr) (ho : OpD X.K f rr) (ha : DE X z W a ta) (hb : DE X z W b tb) (hs : PlainIx b) : DE X z W (.Subscript a b pos) (dOp f ta tb) :=
  ⟨pe_imp (pe_ix hr ha.run hb.run hs) fun _ _ _ hh => op_read ho ha hb hh, mono_op ha.mono hb.mono⟩
theorem de_un {op : UnaryOp} {g : D → Hh → Rs} {ru : V → Hp → VK → Prop} (hr : UnR X (unaryOp op) ru) (ho : UnD X.K g ru) (ha : DE X z W a ta) : DE X z W (.UnaryOp op a pos) (dUn g ta) :=
  ⟨pe_imp (pe_un hr ha.run) fun σ H Q ⟨ι, h, e, r, q⟩ => lift_of ha.mono r q (fun x h1 ι1 H1 v q1 k1 r1 d1 => ho z ι1 h1 e H1 σ v x Q r1 d1 (Rs.mono (fun d h' p => PEq.shift k1 p) q1)) fun _ _ q => q, mono_un ha.mono⟩
end

/-! ### arithmetic -/
def addF : D → D → Hh → Rs
  | .int i, .int j, h => .ok (.int (i + j)) h
  | .str i, .str j, h => .cond (i.length + j.length ≤ sizeLine) (.str (i ++ j)) h
  | .tup a, .tup b, h => .cond (a.length + b.length ≤ sizeLine) (.tup (a ++ b)) h
  | .ref m, .ref n, h => match h[m]?, h[n]? with
    | some (.lst a), some (.lst b) => .cond (a.length + b.length ≤ sizeLine) (.ref h.length) (h ++ [.lst (a ++ b)])
    | _, _ => .no
  | _, _, _ => .no
def subF : D → D → Hh → Rs
  | .int i, .int j, h => .ok (.int (i - j)) h
  | _, _, _ => .no
def MulOk (i j : Int) : Prop := IntMulOk i j
def mulF : D → D → Hh → Rs
  | .int i, .int j, h => .cond (MulOk i j) (.int (i * j)) h
  | .ref m, .int k, h => match h[m]? with
    | some (.lst a) => .cond (-(2 ^ 63) ≤ k ∧ k < 2 ^ 63 ∧ a.length * k.toNat ≤ sizeLine) (.ref h.length) (h ++ [.lst (List.replicate k.toNat a).flatten])
    | _ => .no
  | _, _, _ => .no
def DivOk (i j : Int) : Prop := j ≠ 0 ∧ Builtin.divisionGoesByPylong i j = false
def fdivF : D → D → Hh → Rs
  | .int i, .int j, h => .cond (DivOk i j) (.int (i.fdiv j)) h
  | _, _, _ => .no
def modF : D → D → Hh → Rs
  | .int i, .int j, h => .cond (j ≠ 0) (.int (i.fmod j)) h
  | _, _, _ => .no
def powF : D → D → Hh → Rs
  | .int i, .int j, h => .cond (CPow i j) (.int (i ^ j.toNat)) h
  | _, _, _ => .no
def negF : D → Hh → Rs
  | .int i, h => .ok (.int (-i)) h
  | _, _ => .no
section
variable {X : Cx} {K : PySem.W.Frag} {z : Zs} {ι : List Addr} {h : Hh} {e : En} {H : Hp} {σ : L2.St} {Q : VK}
theorem den_int {x : V} {i : Int} (q : Den K z ι H x (.int i)) : x = .int i := by cases q; rfl
theorem den_str {x : V} {i : Str} (q : Den K z ι H x (.str i)) : x = .str i := by cases q; rfl
theorem den_bl {x : V} {i : Bool} (q : Den K z ι H x (.bl i)) : x = .bl i := by cases q; rfl
theorem den_non {x : V} (q : Den K z ι H x .non) : x = .non := by cases q; rfl
theorem den_tup {x : V} {ds : List D} (q : Den K z ι H x (.tup ds)) : ∃ p xs, x = .ref p ∧ SqT K H p xs ∧ Dens K z ι H xs ds := by
  cases q with
  | tup a b => exact ⟨_, _, rfl, a, b⟩
theorem den_lst {x : V} {ds : List D} (r : RH K z ι h H) (q : Den K z ι H x (.lst ds)) : ∃ p xs, x = .ref p ∧ SqL K H p xs ∧ Dens K z ι H xs ds := by
  cases q with
  | lst a b => exact ⟨_, _, rfl, fl_stay r a, b⟩
/-- a new tuple is handed on -/
theorem new_tup {xs : List V} {ds : List D} (r : R K z ι h e H σ) (q : Dens K z ι H xs ds) (w : PEq K z ι e σ H Q (.tup ds) h) (p : Addr) (hp : H p = none) : Q (.ref p) (upd H p (.tup xs)) :=
  w ι _ _ (Kp.laid hp _) (r.laid hp _) (.tup (.inl (.inl upd_same)) (q.keep (Kp.laid hp _)))
theorem new_lst {xs : List V} {ds : List D} (r : R K z ι h e H σ) (q : Dens K z ι H xs ds) (w : PEq K z ι e σ H Q (.ref h.length) (h ++ [.lst ds])) (p : Addr) (hp : H p = none) : Q (.ref p) (upd H p (.lst xs)) :=
  w _ _ _ (Kp.owned hp _) (r.owned hp q) (den_new r.hp)
def rAddA (K : PySem.W.Frag) : R2 := fun x y H Q => ((rI0 fun i j => .int (i + j)) x y H Q ∨ (∃ i j, x = .str i ∧ y = .str j ∧ i.length + j.length ≤ sizeLine ∧ Q (.str (i ++ j)) H)) ∨ rCatA K x y H Q ∨ rCat x y H Q
theorem op_addA : OpR X (binaryOp .Add) (rAddA X.K) := OpR.or (OpR.or op_add op_add_str) (OpR.or op_catA op_cat)
theorem od_add : OpD K addF (rAddA K) := by
  intro z ι h e H σ x y a b Q r da db q
  unfold addF at q
  split at q
  · have := den_int da; have := den_int db; subst_vars
    exact .inl (.inl ⟨_, _, rfl, rfl, q ι H _ Kp.refl r (.int _)⟩)
  · have := den_str da; have := den_str db; subst_vars
    exact .inl (.inr ⟨_, _, rfl, rfl, q.1, q.2 ι H _ Kp.refl r (.str _)⟩)
  · obtain ⟨p, xs, rfl, hp, hx⟩ := den_tup da
    obtain ⟨p', ys, rfl, hp', hy⟩ := den_tup db
    refine .inr (.inl ⟨p, p', xs, ys, rfl, rfl, hp, hp', by rw [hx.length, hy.length]; exact q.1, fun ex => ?_, fun _ ey => ?_, fun _ _ => new_tup r (hx.append hy) q.2⟩)
    · subst ex; cases hx
      exact q.2 ι H _ Kp.refl r (.tup hp' hy)
    · subst ey; cases hy
      rw [List.append_nil] at q
      exact q.2 ι H _ Kp.refl r (.tup hp hx)
  · split at q
    · rename_i h1 h2
      obtain ⟨p, xs, rfl, _, hp, hx, _⟩ := r.hp.list da h1
      obtain ⟨p', ys, rfl, _, hp', hy, _⟩ := r.hp.list db h2
      exact .inr (.inr ⟨p, p', xs, ys, rfl, rfl, hp, hp', by rw [hx.length, hy.length]; exact q.1, new_lst r (hx.append hy) q.2⟩)
    · exact q.elim
  · exact q.elim
theorem od_sub : OpD K subF (rI0 fun i j => .int (i - j)) := by
  intro z ι h e H σ x y a b Q r da db q
  unfold subF at q
  split at q
  · have := den_int da; have := den_int db; subst_vars
    exact ⟨_, _, rfl, rfl, q ι H _ Kp.refl r (.int _)⟩
  · exact q.elim
theorem op_mulK : OpR X (binaryOp .Mult) (rI MulOk fun i j => .int (i * j)) := opI fun _ _ _ _ _ _ _ hc q => mul_int q hc
def rMulA : R2 := fun x y H Q => (rI MulOk fun i j => .int (i * j)) x y H Q ∨ rRep x y H Q
theorem op_mulA : OpR X (binaryOp .Mult) rMulA := OpR.or op_mulK op_rep
theorem Dens.rep {vs : List V} {ds : List D} (q : Dens K z ι H vs ds) : ∀ k : Nat, Dens K z ι H (List.replicate k vs).flatten (List.replicate k ds).flatten
  | 0 => .nil
  | k + 1 => by rw [List.replicate_succ, List.replicate_succ, List.flatten_cons, List.flatten_cons]; exact q.append (Dens.rep q k)
theorem od_mul : OpD K mulF rMulA := by
  intro z ι h e H σ x y a b Q r da db q
  unfold mulF at q
  split at q
  · have := den_int da; have := den_int db; subst_vars
    exact .inl ⟨_, _, rfl, rfl, q.1, q.2 ι H _ Kp.refl r (.int _)⟩
  · split at q
    · rename_i h1
      obtain ⟨p, xs, rfl, _, hp, hx, _⟩ := r.hp.list da h1
      have := den_int db; subst_vars
      obtain ⟨⟨c1, c2, c3⟩, q⟩ := q
      exact .inr ⟨p, _, xs, rfl, rfl, hp, c1, c2, by rw [hx.length]; exact c3, new_lst r (hx.rep _) q⟩
    · exact q.elim
  · exact q.elim
theorem op_fdivK : OpR X (binaryOp .FloorDiv) (rI DivOk fun i j => .int (i.fdiv j)) := opI fun _ _ _ _ _ _ _ hc q => floordiv_int hc.1 q (.inl hc.2)
theorem od_fdiv : OpD K fdivF (rI DivOk fun i j => .int (i.fdiv j)) := by
  intro z ι h e H σ x y a b Q r da db q
  unfold fdivF at q
  split at q
  · have := den_int da; have := den_int db; subst_vars
    exact ⟨_, _, rfl, rfl, q.1, q.2 ι H _ Kp.refl r (.int _)⟩
  · exact q.elim
theorem od_mod : OpD K modF (rI (fun _ j => j ≠ 0) fun i j => .int (i.fmod j)) := by
  intro z ι h e H σ x y a b Q r da db q
  unfold modF at q
  split at q
  · have := den_int da; have := den_int db; subst_vars
    exact ⟨_, _, rfl, rfl, q.1, q.2 ι H _ Kp.refl r (.int _)⟩
  · exact q.elim
theorem od_pow : OpD K powF (rI CPow fun i j => .int (i ^ j.toNat)) := by
  intro z ι h e H σ x y a b Q r da db q
  unfold powF at q
  split at q
  · have := den_int da; have := den_int db; subst_vars
    exact ⟨_, _, rfl, rfl, q.1, q.2 ι H _ Kp.refl r (.int _)⟩
  · exact q.elim
theorem ud_neg : UnD K negF (rU fun i => .int (-i)) := by
  intro z ι h e H σ x a Q r da q
  unfold negF at q
  split at q
  · have := den_int da; subst_vars
    exact ⟨_, rfl, q ι H _ Kp.refl r (.int _)⟩
  · exact q.elim
end
section
variable {X : Cx} {z : Zs} {W : WX} {a b : Expr} {ta tb : dE} {pos : Pos}
theorem de_add (ha : DE X z W a ta) (hb : DE X z W b tb) : DE X z W (.BinOp a .Add b pos) (dOp addF ta tb) := de_bin op_addA od_add ha hb
theorem de_minus (ha : DE X z W a ta) (hb : DE X z W b tb) : DE X z W (.BinOp a .Sub b pos) (dOp subF ta tb) := de_bin op_sub od_sub ha hb
theorem de_mul (ha : DE X z W a ta) (hb : DE X z W b tb) : DE X z W (.BinOp a .Mult b pos) (dOp mulF ta tb) := de_bin op_mulA od_mul ha hb
theorem de_fdiv (ha : DE X z W a ta) (hb : DE X z W b tb) : DE X z W (.BinOp a .FloorDiv b pos) (dOp fdivF ta tb) := de_bin op_fdivK od_fdiv ha hb
theorem de_mod (ha : DE X z W a ta) (hb : DE X z W b tb) : DE X z W (.BinOp a .Mod b pos) (dOp modF ta tb) := de_bin op_modN od_mod ha hb
theorem de_pow (ha : DE X z W a ta) (hb : DE X z W b tb) : DE X z W (.BinOp a .Pow b pos) (dOp powF ta tb) := de_bin op_pow od_pow ha hb
theorem de_neg (ha : DE X z W a ta) : DE X z W (.UnaryOp .USub a pos) (dUn negF ta) := de_un un_neg ud_neg ha
end
end Dn


namespace Dn
open PySem PySem.Spec PyProof.Rows L2

/-! ### data as PyData -/
mutual
def D.py : D → Option PyData
  | .non => some .none
  | .bl b => some (.bool b)
  | .int i => some (.int i)
  | .str x => some (.str x)
  | .tup ds => (D.pys ds).map .tuple
  | .lst ds => (D.pys ds).map .list
  | .ref _ => none
  | .adr _ => none
def D.pys : List D → Option (List PyData)
  | [] => some []
  | d :: ds => (D.py d).bind fun a => (D.pys ds).map fun r => a :: r
end
/-- what stands there, a list of plain data too -/
def pyOf (h : Hh) : D → Option PyData
  | .ref n => match h[n]? with
    | some (.lst ds) => (D.pys ds).map .list
    | _ => none
  | d => D.py d
mutual
theorem den_py {K : PySem.W.Frag} {z : Zs} {ι : List Addr} {h : Hh} {H : Hp} (r : RH K z ι h H) : ∀ (d : D) (v : V) (a : PyData), D.py d = some a → Den K z ι H v d → Dp K H v a
  | .non, _, _, e, q => by
    unfold D.py at e; injection e with e; subst e; cases q; exact .non
  | .bl b, _, _, e, q => by
    unfold D.py at e; injection e with e; subst e; cases q; exact .bl b
  | .int b, _, _, e, q => by
    unfold D.py at e; injection e with e; subst e; cases q; exact .int b
  | .str b, _, _, e, q => by
    unfold D.py at e; injection e with e; subst e; cases q; exact .str b
  | .tup ds, _, _, e, q => by
    unfold D.py at e
    cases eq : D.pys ds with
    | none => rw [eq] at e; cases e
    | some as =>
      rw [eq] at e; injection e with e; subst e
      obtain ⟨p, xs, rfl, hp, hx⟩ := den_tup q
      exact .tup hp (dens_py r ds xs as eq hx)
  | .lst ds, _, _, e, q => by
    unfold D.py at e
    cases eq : D.pys ds with
    | none => rw [eq] at e; cases e
    | some as =>
      rw [eq] at e; injection e with e; subst e
      obtain ⟨p, xs, rfl, hp, hx⟩ := den_lst r q
      exact .lst hp (dens_py r ds xs as eq hx)
  | .ref n, _, _, e, q => by
    unfold D.py at e; cases e
  | .adr n, _, _, e, q => by
    unfold D.py at e; cases e
theorem dens_py {K : PySem.W.Frag} {z : Zs} {ι : List Addr} {h : Hh} {H : Hp} (r : RH K z ι h H) : ∀ (ds : List D) (vs : List V) (as : List PyData), D.pys ds = some as → Dens K z ι H vs ds → DpAll K H vs as
  | [], _, _, e, q => by
    unfold D.pys at e; injection e with e; subst e; cases q; exact .nil
  | d :: ds, _, _, e, q => by
    unfold D.pys at e
    cases e1 : D.py d with
    | none => rw [e1] at e; cases e
    | some a =>
      rw [e1, Option.bind_some] at e
      cases e2 : D.pys ds with
      | none => rw [e2] at e; cases e
      | some as =>
        rw [e2] at e; injection e with e; subst e
        cases q with
        | cons h1 h2 => exact .cons (den_py r d _ a e1 h1) (dens_py r ds _ as e2 h2)
end
theorem den_pyOf {K : PySem.W.Frag} {z : Zs} {ι : List Addr} {h : Hh} {H : Hp} (r : RH K z ι h H) {d : D} {v : V} {a : PyData} (e : pyOf h d = some a) (q : Den K z ι H v d) : Dp K H v a := by
  cases d with
  | ref n =>
    unfold pyOf at e
    dsimp only at e
    split at e
    · rename_i ds hn
      cases eq : D.pys ds with
      | none => rw [eq] at e; cases e
      | some as =>
        rw [eq] at e; injection e with e; subst e
        obtain ⟨p, xs, rfl, _, hp, hx, _⟩ := r.list q hn
        exact .lst (.inl (.inl hp)) (dens_py r ds xs as eq hx)
    · cases e
  | _ => exact den_py r _ v a e q

/-! ### comparisons -/
def eqF : D → D → Hh → Rs
  | .int i, .int j, h => .ok (.bl (decide (i = j))) h
  | .str i, .str j, h => .ok (.bl (decide (i = j))) h
  | .bl i, .bl j, h => .ok (.bl (decide (i = j))) h
  | .non, .non, h => .ok (.bl true) h
  | x, y, h => match pyOf h x, pyOf h y with
    | some a, some b => .cond (SeqAt.shaped a = true ∧ SeqAt.shaped b = true) (.bl (PyData.eqv a b)) h
    | _, _ => .no
def neF : D → D → Hh → Rs
  | .int i, .int j, h => .ok (.bl (!decide (i = j))) h
  | .str i, .str j, h => .ok (.bl (!decide (i = j))) h
  | .bl i, .bl j, h => .ok (.bl (!decide (i = j))) h
  | .non, .non, h => .ok (.bl false) h
  | x, y, h => match pyOf h x, pyOf h y with
    | some a, some b => .cond (SeqAt.shaped a = true ∧ SeqAt.shaped b = true) (.bl (!PyData.eqv a b)) h
    | _, _ => .no
def ltF : D → D → Hh → Rs
  | .int i, .int j, h => .ok (.bl (decide (i < j))) h
  | _, _, _ => .no
def leF : D → D → Hh → Rs
  | .int i, .int j, h => .ok (.bl (decide (i ≤ j))) h
  | _, _, _ => .no
def gtF : D → D → Hh → Rs
  | .int i, .int j, h => .ok (.bl (decide (j < i))) h
  | _, _, _ => .no
def geF : D → D → Hh → Rs
  | .int i, .int j, h => .ok (.bl (decide (j ≤ i))) h
  | _, _, _ => .no
def D.isNon : D → Bool
  | .non => true
  | _ => false
def isF : D → D → Hh → Rs
  | x, .non, h => .ok (.bl x.isNon) h
  | _, _, _ => .no
def notF : D → D → Hh → Rs
  | x, .non, h => .ok (.bl (!x.isNon)) h
  | _, _, _ => .no
section
variable {X : Cx} {K : PySem.W.Frag} {z : Zs} {ι : List Addr} {h : Hh} {e : En} {H : Hp} {σ : L2.St} {Q : VK}
def rEqA (K : PySem.W.Frag) : R2 := fun x y H Q => rEq x y H Q ∨ rEqD K x y H Q
def rNeA (K : PySem.W.Frag) : R2 := fun x y H Q => rNe x y H Q ∨ rNeD K x y H Q
theorem op_eqA (hu : X.A.units + 64 < cLine) : OpR X (compareOp .Eq) (rEqA X.K) := OpR.or op_eq (op_eqD hu)
theorem op_neA (hu : X.A.units + 64 < cLine) : OpR X (compareOp .NotEq) (rNeA X.K) := OpR.or op_ne (op_neD hu)
theorem bl_is {x y : Bool} {Q : VK} {H : Hp} (e : x = y) (q : Q (.bl x) H) : Q (.bl y) H := e ▸ q
theorem od_eq : OpD K eqF (rEqA K) := by
  intro z ι h e H σ x y a b Q r da db q
  unfold eqF at q
  split at q
  · have := den_int da; have := den_int db; subst_vars
    refine .inl ⟨rfl, bl_is ?_ (q ι H _ Kp.refl r (.bl _))⟩
    simp
  · have := den_str da; have := den_str db; subst_vars
    refine .inl ⟨rfl, bl_is ?_ (q ι H _ Kp.refl r (.bl _))⟩
    simp
  · have := den_bl da; have := den_bl db; subst_vars
    refine .inl ⟨rfl, bl_is ?_ (q ι H _ Kp.refl r (.bl _))⟩
    simp
  · have := den_non da; have := den_non db; subst_vars
    refine .inl ⟨rfl, bl_is ?_ (q ι H _ Kp.refl r (.bl _))⟩
    simp
  · split at q
    · rename_i pa pb e1 e2
      obtain ⟨⟨s1, s2⟩, q⟩ := q
      exact .inr ⟨pa, pb, den_pyOf r.hp e1 da, den_pyOf r.hp e2 db, s1, s2, q ι H _ Kp.refl r (.bl _)⟩
    · exact q.elim
theorem od_ne : OpD K neF (rNeA K) := by
  intro z ι h e H σ x y a b Q r da db q
  unfold neF at q
  split at q
  · have := den_int da; have := den_int db; subst_vars
    refine .inl ⟨rfl, bl_is ?_ (q ι H _ Kp.refl r (.bl _))⟩
    simp
  · have := den_str da; have := den_str db; subst_vars
    refine .inl ⟨rfl, bl_is ?_ (q ι H _ Kp.refl r (.bl _))⟩
    simp
  · have := den_bl da; have := den_bl db; subst_vars
    refine .inl ⟨rfl, bl_is ?_ (q ι H _ Kp.refl r (.bl _))⟩
    simp
  · have := den_non da; have := den_non db; subst_vars
    refine .inl ⟨rfl, bl_is ?_ (q ι H _ Kp.refl r (.bl _))⟩
    simp
  · split at q
    · rename_i pa pb e1 e2
      obtain ⟨⟨s1, s2⟩, q⟩ := q
      exact .inr ⟨pa, pb, den_pyOf r.hp e1 da, den_pyOf r.hp e2 db, s1, s2, q ι H _ Kp.refl r (.bl _)⟩
    · exact q.elim
theorem od_int2 {f : D → D → Hh → Rs} {g : Int → Int → Bool} (hf : ∀ a b h Q, (f a b h).to Q → ∃ i j, a = .int i ∧ b = .int j ∧ Q (.bl (g i j)) h) : OpD K f (rI0 fun i j => .bl (g i j)) := by
  intro z ι h e H σ x y a b Q r da db q
  obtain ⟨i, j, ea, eb, w⟩ := hf _ _ _ _ q
  subst ea; subst eb
  rw [den_int da, den_int db]
  exact ⟨_, _, rfl, rfl, w ι H _ Kp.refl r (.bl _)⟩
theorem od_lt : OpD K ltF (rI0 fun i j => .bl (decide (i < j))) := od_int2 fun a b h Q q => by
  unfold ltF at q; split at q
  · exact ⟨_, _, rfl, rfl, q⟩
  · exact q.elim
theorem od_le : OpD K leF (rI0 fun i j => .bl (decide (i ≤ j))) := od_int2 fun a b h Q q => by
  unfold leF at q; split at q
  · exact ⟨_, _, rfl, rfl, q⟩
  · exact q.elim
theorem od_gt : OpD K gtF (rI0 fun i j => .bl (decide (j < i))) := od_int2 fun a b h Q q => by
  unfold gtF at q; split at q
  · exact ⟨_, _, rfl, rfl, q⟩
  · exact q.elim
theorem od_ge : OpD K geF (rI0 fun i j => .bl (decide (j ≤ i))) := od_int2 fun a b h Q q => by
  unfold geF at q; split at q
  · exact ⟨_, _, rfl, rfl, q⟩
  · exact q.elim
theorem den_isNon {x : V} {a : D} (q : Den K z ι H x a) : decide (x = .non) = a.isNon := by
  cases q <;> rfl
theorem od_is : OpD K isF (fun x y H Q => y = .non ∧ Q (.bl (decide (x = .non))) H) := by
  intro z ι h e H σ x y a b Q r da db q
  unfold isF at q
  split at q
  · have := den_non db; subst_vars
    exact ⟨rfl, bl_is (den_isNon da).symm (q ι H _ Kp.refl r (.bl _))⟩
  · exact q.elim
theorem od_isnot : OpD K notF (fun x y H Q => y = .non ∧ Q (.bl (!decide (x = .non))) H) := by
  intro z ι h e H σ x y a b Q r da db q
  unfold notF at q
  split at q
  · have := den_non db; subst_vars
    exact ⟨rfl, bl_is (congrArg not (den_isNon da).symm) (q ι H _ Kp.refl r (.bl _))⟩
  · exact q.elim
end
section
variable {X : Cx} {z : Zs} {W : WX} {a b : Expr} {ta tb : dE} {pos : Pos}
theorem de_eq (hu : X.A.units + 64 < cLine) (ha : DE X z W a ta) (hb : DE X z W b tb) : DE X z W (.Compare a [.Eq] [b] pos) (dOp eqF ta tb) := de_cmp (op_eqA hu) od_eq ha hb (nomark _)
theorem de_ne (hu : X.A.units + 64 < cLine) (ha : DE X z W a ta) (hb : DE X z W b tb) : DE X z W (.Compare a [.NotEq] [b] pos) (dOp neF ta tb) := de_cmp (op_neA hu) od_ne ha hb (nomark _)
theorem de_lt (ha : DE X z W a ta) (hb : DE X z W b tb) : DE X z W (.Compare a [.Lt] [b] pos) (dOp ltF ta tb) := de_cmp op_lt od_lt ha hb (nomark _)
theorem de_le (ha : DE X z W a ta) (hb : DE X z W b tb) : DE X z W (.Compare a [.LtE] [b] pos) (dOp leF ta tb) := de_cmp op_le od_le ha hb (nomark _)
theorem de_gt (ha : DE X z W a ta) (hb : DE X z W b tb) : DE X z W (.Compare a [.Gt] [b] pos) (dOp gtF ta tb) := de_cmp op_gt od_gt ha hb (nomark _)
theorem de_ge (ha : DE X z W a ta) (hb : DE X z W b tb) : DE X z W (.Compare a [.GtE] [b] pos) (dOp geF ta tb) := de_cmp op_ge od_ge ha hb (nomark _)
theorem de_is (ha : DE X z W a ta) (hb : DE X z W b tb) : DE X z W (.Compare a [.Is] [b] pos) (dOp isF ta tb) := de_cmp op_isN od_is ha hb (nomark _)
theorem de_isnot (ha : DE X z W a ta) (hb : DE X z W b tb) : DE X z W (.Compare a [.IsNot] [b] pos) (dOp notF ta tb) := de_cmp op_notN od_isnot ha hb (nomark _)
end

/-! ### and, or, not, if .. else, as values (bools) and as tests -/
def dAnd (ta tb : dE) : dE := fun e h Q E => ta e h (fun x h1 => match x with
  | .bl true => tb e h1 Q E
  | .bl false => Q (.bl false) h1
  | _ => False) E
def dOr (ta tb : dE) : dE := fun e h Q E => ta e h (fun x h1 => match x with
  | .bl false => tb e h1 Q E
  | .bl true => Q (.bl true) h1
  | _ => False) E
def dNot (ta : dE) : dE := fun e h Q E => ta e h (fun x h1 => match x with
  | .bl b => Q (.bl (!b)) h1
  | _ => False) E
def dtB (t : dE) : dT := fun e h Q E => t e h (fun x h1 => match x with
  | .bl b => Q b h1
  | _ => False) E
def dtAnd (ta tb : dT) : dT := fun e h Q E => ta e h (fun b h1 => match b with
  | true => tb e h1 Q E
  | false => Q false h1) E
def dtOr (ta tb : dT) : dT := fun e h Q E => ta e h (fun b h1 => match b with
  | false => tb e h1 Q E
  | true => Q true h1) E
def dtNot (ta : dT) : dT := fun e h Q E => ta e h (fun b h1 => Q (!b) h1) E
def dIf (c : dT) (ta tb : dE) : dE := fun e h Q E => c e h (fun b h1 => match b with
  | true => ta e h1 Q E
  | false => tb e h1 Q E) E
/-- a test that is known of plain data: xs, not empty .. -/
def truF : D → Hh → Option Bool
  | .non, _ => some false
  | .bl b, _ => some b
  | .int i, _ => some (i != 0)
  | .tup ds, _ => some (!ds.isEmpty)
  | .lst ds, _ => some (!ds.isEmpty)
  | .ref n, h => match h[n]? with
    | some (.lst ds) => some (!ds.isEmpty)
    | none => none
  | .str _, _ => none
  | .adr _, _ => none
def dtTru (t : dE) : dT := fun e h Q E => t e h (fun x h1 => match truF x h1 with
  | some b => Q b h1
  | none => False) E
section
theorem mono_andV {ta tb : dE} (ma : Mono ta) (mb : Mono tb) : Mono (dAnd ta tb) := fun e h Q Q' E E' hQ hE q => ma e h _ _ _ _ (fun x h1 q1 => by
  split at q1
  · exact mb e h1 _ _ _ _ hQ hE q1
  · exact hQ _ _ q1
  · exact q1.elim) hE q
theorem mono_orV {ta tb : dE} (ma : Mono ta) (mb : Mono tb) : Mono (dOr ta tb) := fun e h Q Q' E E' hQ hE q => ma e h _ _ _ _ (fun x h1 q1 => by
  split at q1
  · exact mb e h1 _ _ _ _ hQ hE q1
  · exact hQ _ _ q1
  · exact q1.elim) hE q
theorem mono_notV {ta : dE} (ma : Mono ta) : Mono (dNot ta) := fun e h Q Q' E E' hQ hE q => ma e h _ _ _ _ (fun x h1 q1 => by
  split at q1
  · exact hQ _ _ q1
  · exact q1.elim) hE q
theorem mono_tB {ta : dE} (ma : Mono ta) : Mono (dtB ta) := fun e h Q Q' E E' hQ hE q => ma e h _ _ _ _ (fun x h1 q1 => by
  split at q1
  · exact hQ _ _ q1
  · exact q1.elim) hE q
theorem mono_tTru {ta : dE} (ma : Mono ta) : Mono (dtTru ta) := fun e h Q Q' E E' hQ hE q => ma e h _ _ _ _ (fun x h1 q1 => by
  split at q1
  · exact hQ _ _ q1
  · exact q1.elim) hE q
theorem mono_tAnd {ta tb : dT} (ma : Mono ta) (mb : Mono tb) : Mono (dtAnd ta tb) := fun e h Q Q' E E' hQ hE q => ma e h _ _ _ _ (fun x h1 q1 => by
  cases x with
  | true => exact mb e h1 _ _ _ _ hQ hE q1
  | false => exact hQ _ _ q1) hE q
theorem mono_tOr {ta tb : dT} (ma : Mono ta) (mb : Mono tb) : Mono (dtOr ta tb) := fun e h Q Q' E E' hQ hE q => ma e h _ _ _ _ (fun x h1 q1 => by
  cases x with
  | false => exact mb e h1 _ _ _ _ hQ hE q1
  | true => exact hQ _ _ q1) hE q
theorem mono_tNot {ta : dT} (ma : Mono ta) : Mono (dtNot ta) := fun e h Q Q' E E' hQ hE q => ma e h _ _ _ _ (fun x h1 q1 => hQ _ _ q1) hE q
theorem mono_if {c : dT} {ta tb : dE} (mc : Mono c) (ma : Mono ta) (mb : Mono tb) : Mono (dIf c ta tb) := fun e h Q Q' E E' hQ hE q => mc e h _ _ _ _ (fun x h1 q1 => by
  cases x with
  | true => exact ma e h1 _ _ _ _ hQ hE q1
  | false => exact mb e h1 _ _ _ _ hQ hE q1) hE q
end
structure DW (X : Cx) (z : Zs) (W : WX) (a : Expr) (t : dT) : Prop where
  run : PW X a (liftT X.K X.mg z W t)
  mono : Mono t
section
variable {X : Cx} {z : Zs} {W : WX} {a b c : Expr} {rest : List Expr} {ta tb : dE} {tc td : dT} {pos : Pos}
theorem de_one {op} (h : DE X z W a ta) : DE X z W (.BoolOp op [a] pos) ta := ⟨pe_one h.run, h.mono⟩
theorem de_and (ha : DE X z W a ta) (hb : DE X z W (.BoolOp .And (b :: rest) pos) tb) : DE X z W (.BoolOp .And (a :: b :: rest) pos) (dAnd ta tb) := by
  refine ⟨pe_imp (pe_and ha.run hb.run) fun σ H Q ⟨ι, h, e, r, q⟩ => lift_of ha.mono r q (fun x h1 ι1 H1 v q1 k1 r1 d1 => ?_) fun _ _ q => q, mono_andV ha.mono hb.mono⟩
  split at q1
  · rw [den_bl d1]
    exact ⟨true, rfl, iteT (lift_of hb.mono r1 q1 (fun y h2 ι2 H2 u q2 k2 r2 d2 => q2 ι2 H2 u (k1.trans k2) r2 d2) fun _ _ q => q.shift k1)⟩
  · rw [den_bl d1]
    exact ⟨false, rfl, iteF (q1 ι1 H1 _ k1 r1 (.bl _))⟩
  · exact q1.elim
theorem de_or (ha : DE X z W a ta) (hb : DE X z W (.BoolOp .Or (b :: rest) pos) tb) : DE X z W (.BoolOp .Or (a :: b :: rest) pos) (dOr ta tb) := by
  refine ⟨pe_imp (pe_or ha.run hb.run) fun σ H Q ⟨ι, h, e, r, q⟩ => lift_of ha.mono r q (fun x h1 ι1 H1 v q1 k1 r1 d1 => ?_) fun _ _ q => q, mono_orV ha.mono hb.mono⟩
  split at q1
  · rw [den_bl d1]
    exact ⟨false, rfl, iteF (lift_of hb.mono r1 q1 (fun y h2 ι2 H2 u q2 k2 r2 d2 => q2 ι2 H2 u (k1.trans k2) r2 d2) fun _ _ q => q.shift k1)⟩
  · rw [den_bl d1]
    exact ⟨true, rfl, iteT (q1 ι1 H1 _ k1 r1 (.bl _))⟩
  · exact q1.elim
theorem de_not (ha : DE X z W a ta) : DE X z W (.UnaryOp .Not a pos) (dNot ta) := by
  refine ⟨pe_imp (pe_not ha.run) fun σ H Q ⟨ι, h, e, r, q⟩ => lift_of ha.mono r q (fun x h1 ι1 H1 v q1 k1 r1 d1 => ?_) fun _ _ q => q, mono_notV ha.mono⟩
  split at q1
  · rw [den_bl d1]
    exact ⟨_, rfl, q1 ι1 H1 _ k1 r1 (.bl _)⟩
  · exact q1.elim
theorem tB_read (ha : DE X z W a ta) {σ : L2.St} {H : Hp} {Q : Bool → Hp → Prop} (hh : liftT X.K X.mg z W (dtB ta) σ H Q) : lift X.K X.mg z W ta σ H fun x H' => ∃ k, x = .bl k ∧ Q k H' := by
  obtain ⟨ι, h, e, r, q⟩ := hh
  refine lift_of ha.mono r q (fun x h1 ι1 H1 v q1 k1 r1 d1 => ?_) fun _ _ q => q
  split at q1
  · rw [den_bl d1]
    exact ⟨_, rfl, q1 ι1 H1 k1 r1⟩
  · exact q1.elim
/-- an expression that gives a bool, as a test -/
theorem dt_val (ha : DE X z W a ta) (he : ∀ whole, isTrue a X.env whole = (do let v ← whole; standAt a.pos; holding [v] (truthy v))) : DT X z W a (dtB ta) := ⟨pt_imp (pt_val ha.run he) fun _ _ _ hh => tB_read ha hh, mono_tB ha.mono⟩
/-- a comparison as a test -/
theorem dt_cmp {op : CmpOp} {f : D → D → Hh → Rs} {rr : R2} (hr : OpR X (compareOp op) rr) (ho : OpD X.K f rr) (ha : DE X z W a ta) (hb : DE X z W b tb) (hm : behindInMarks op b = false) : DT X z W (.Compare a [op] [b] pos) (dtB (dOp f ta tb)) := by
  refine ⟨pt_imp (pt_cmpR hr ha.run hb.run hm) fun σ H Q hh => ?_, mono_tB (mono_op ha.mono hb.mono)⟩
  obtain ⟨ι, h, e, r, q⟩ := hh
  refine op_read (X := X) (z := z) (W := W) ho ha hb ⟨ι, h, e, r, ?_⟩
  refine (mono_op ha.mono hb.mono) e h _ _ _ _ (fun x h1 q1 ι' H' v k r' dn => ?_) (fun _ _ q => q) q
  split at q1
  · rw [den_bl dn]
    exact ⟨_, rfl, q1 ι' H' k r'⟩
  · exact q1.elim
theorem dt_tru (ha : DE X z W a ta) (he : ∀ whole, isTrue a X.env whole = (do let v ← whole; standAt a.pos; holding [v] (truthy v))) : DT X z W a (dtTru ta) := by
  refine ⟨pt_imp (pt_truth ha.run he) fun σ H Q ⟨ι, h, e, r, q⟩ => lift_of ha.mono r q (fun x h1 ι1 H1 v q1 k1 r1 d1 => ?_) fun _ _ q => q, mono_tTru ha.mono⟩
  split at q1
  · rename_i b hb
    refine ⟨b, ?_, q1 ι1 H1 k1 r1⟩
    cases x with
    | non => injection hb with hb; subst hb; rw [den_non d1]; rfl
    | bl _ => injection hb with hb; subst hb; rw [den_bl d1]; rfl
    | int _ => injection hb with hb; subst hb; rw [den_int d1]; rfl
    | str _ => cases hb
    | adr _ => cases hb
    | tup ds =>
      injection hb with hb; subst hb
      obtain ⟨p, xs, rfl, hp, hx⟩ := den_tup d1
      refine .inr (.inl ⟨xs, hp, ?_⟩)
      cases hx <;> rfl
    | lst ds =>
      injection hb with hb; subst hb
      obtain ⟨p, xs, rfl, hp, hx⟩ := den_lst r1.hp d1
      refine .inl ⟨xs, hp, ?_⟩
      cases hx <;> rfl
    | ref n =>
      unfold truF at hb
      dsimp only at hb
      split at hb
      · rename_i ds hn
        injection hb with hb; subst hb
        obtain ⟨p, xs, rfl, _, hp, hx, _⟩ := r1.hp.list d1 hn
        refine .inl ⟨xs, .inl (.inl hp), ?_⟩
        cases hx <;> rfl
      · cases hb
  · exact q1.elim
theorem dw_pt (h : DW X z W a tc) : DT X z W a tc := ⟨h.run.pt, h.mono⟩
theorem dw_and1 (ha : DT X z W a tc) : DW X z W (.BoolOp .And [a] pos) tc := ⟨pw_and1 ha.run, ha.mono⟩
theorem dw_or1 (ha : DT X z W a tc) : DW X z W (.BoolOp .Or [a] pos) tc := ⟨pw_or1 ha.run, ha.mono⟩
theorem dw_and (ha : DT X z W a tc) (hb : DW X z W (.BoolOp .And (b :: rest) pos) td) : DW X z W (.BoolOp .And (a :: b :: rest) pos) (dtAnd tc td) := by
  refine ⟨pw_imp (pw_and ha.run hb.run) fun σ H Q ⟨ι, h, e, r, q⟩ => liftT_of ha.mono r q (fun x h1 ι1 H1 q1 k1 r1 => ?_) fun _ _ q => q, mono_tAnd ha.mono hb.mono⟩
  cases x with
  | true => exact iteT (liftT_of hb.mono r1 q1 (fun y h2 ι2 H2 q2 k2 r2 => q2 ι2 H2 (k1.trans k2) r2) fun _ _ q => q.shift k1)
  | false => exact iteF (q1 ι1 H1 k1 r1)
theorem dw_or (ha : DT X z W a tc) (hb : DW X z W (.BoolOp .Or (b :: rest) pos) td) : DW X z W (.BoolOp .Or (a :: b :: rest) pos) (dtOr tc td) := by
  refine ⟨pw_imp (pw_or ha.run hb.run) fun σ H Q ⟨ι, h, e, r, q⟩ => liftT_of ha.mono r q (fun x h1 ι1 H1 q1 k1 r1 => ?_) fun _ _ q => q, mono_tOr ha.mono hb.mono⟩
  cases x with
  | true => exact iteT (q1 ι1 H1 k1 r1)
  | false => exact iteF (liftT_of hb.mono r1 q1 (fun y h2 ι2 H2 q2 k2 r2 => q2 ι2 H2 (k1.trans k2) r2) fun _ _ q => q.shift k1)
theorem dt_not (ha : DT X z W a tc) : DT X z W (.UnaryOp .Not a pos) (dtNot tc) :=
  ⟨pt_imp (pt_not ha.run) fun σ H Q ⟨ι, h, e, r, q⟩ => liftT_of ha.mono r q (fun x h1 ι1 H1 q1 k1 r1 => q1 ι1 H1 k1 r1) fun _ _ q => q, mono_tNot ha.mono⟩
theorem de_if (hc : DT X z W c tc) (ha : DE X z W a ta) (hb : DE X z W b tb) : DE X z W (.IfExp c a b pos) (dIf tc ta tb) := by
  refine ⟨pe_imp (pe_ifExp hc.run ha.run hb.run) fun σ H Q ⟨ι, h, e, r, q⟩ => liftT_of hc.mono r q (fun x h1 ι1 H1 q1 k1 r1 => ?_) fun _ _ q => q, mono_if hc.mono ha.mono hb.mono⟩
  cases x with
  | true => exact iteT (lift_of ha.mono r1 q1 (fun y h2 ι2 H2 u q2 k2 r2 d2 => q2 ι2 H2 u (k1.trans k2) r2 d2) fun _ _ q => q.shift k1)
  | false => exact iteF (lift_of hb.mono r1 q1 (fun y h2 ι2 H2 u q2 k2 r2 d2 => q2 ι2 H2 u (k1.trans k2) r2 d2) fun _ _ q => q.shift k1)
end

/-! ### argument lists, displays -/
def dNil : dA := fun _ h Q _ => Q [] h
def dCons (ta : dE) (tr : dA) : dA := fun e h Q E => ta e h (fun x h1 => tr e h1 (fun xs h2 => Q (x :: xs) h2) E) E
def dTup (t : dA) : dE := fun e h Q E => t e h (fun ds h1 => Q (.tup ds) h1) E
def dLst (t : dA) : dE := fun e h Q E => t e h (fun ds h1 => Q (.ref h1.length) (h1 ++ [.lst ds])) E
/-- a call by values -/
def dCB (f : List D → Hh → Rs) (t : dA) : dE := fun e h Q E => t e h (fun ds h1 => (f ds h1).to Q) E
def CallD (K : PySem.W.Frag) (f : List D → Hh → Rs) (rr : List V → Hp → VK → Prop) : Prop := ∀ (z : Zs) (ι : List Addr) (h : Hh) (e : En) (H : Hp) (σ : L2.St) (xs : List V) (ds : List D) (Q : VK),
  R K z ι h e H σ → Dens K z ι H xs ds → (f ds h).to (PEq K z ι e σ H Q) → rr xs H Q
section
variable {X : Cx} {z : Zs} {W : WX} {a : Expr} {es : List Expr} {ta : dE} {tr : dA} {n : Nat} {pos : Pos}
theorem mono_cons (ma : Mono ta) (mr : Mono tr) : Mono (dCons ta tr) := fun e h _ _ _ _ hQ hE q => ma e h _ _ _ _ (fun _ h1 q1 => mr e h1 _ _ _ _ (fun _ _ q2 => hQ _ _ q2) hE q1) hE q
theorem da_nil : DA X z W [] dNil 0 := ⟨pa_imp pa_nil fun σ H Q ⟨ι, h, e, r, q⟩ => q ι H [] Kp.refl r .nil, fun _ _ _ _ _ _ hQ _ q => hQ _ _ q, fun _ _ _ _ q => ⟨rfl, q⟩⟩
theorem da_cons (ha : DE X z W a ta) (hr : DA X z W es tr n) (hs : starEach (a :: es) X.env = (false, eval a X.env) :: starEach es X.env) : DA X z W (a :: es) (dCons ta tr) (n + 1) := by
  refine ⟨pa_imp (pa_cons ha.run hr.run hs) fun σ H Q ⟨ι, h, e, r, q⟩ => lift_of ha.mono r q (fun x h1 ι1 H1 v q1 k1 r1 d1 => ?_) fun _ _ q => q, mono_cons ha.mono hr.mono, fun e h Q E q => ?_⟩
  · exact liftA_of hr.mono r1 q1 (fun y h2 ι2 H2 u q2 k2 r2 d2 => q2 ι2 H2 _ (k1.trans k2) r2 (.cons (d1.keep k2) d2)) fun _ _ q => q.shift k1
  · exact ha.mono e h _ _ _ _ (fun x h1 q1 => hr.mono e h1 _ _ _ _ (fun y h2 q2 => ⟨by rw [List.length_cons, q2.1], q2.2⟩) (fun _ _ q => q) (hr.len _ _ _ _ q1)) (fun _ _ q => q) q
theorem de_tup {x1} (ht : DA X z W es tr n) (hn : n ≤ sizeLine) : DE X z W (.Tuple es x1 pos) (dTup tr) := by
  refine ⟨pe_imp (pe_tup ht.run) fun σ H Q ⟨ι, h, e, r, q⟩ => liftA_of ht.mono r (ht.len _ _ _ _ q) (fun x h1 ι1 H1 v q1 k1 r1 d1 => ?_) fun _ _ q => q, fun e h _ _ _ _ hQ hE q => ht.mono e h _ _ _ _ (fun _ _ q1 => hQ _ _ q1) hE q⟩
  exact ⟨by rw [d1.length, q1.1]; exact hn, new_tup r1 d1 (q1.2.shift k1)⟩
theorem de_lst (ht : DA X z W es tr n) (hn : n ≤ sizeLine) : DE X z W (.List es pos) (dLst tr) := by
  refine ⟨pe_imp (pe_lst ht.run) fun σ H Q ⟨ι, h, e, r, q⟩ => liftA_of ht.mono r (ht.len _ _ _ _ q) (fun x h1 ι1 H1 v q1 k1 r1 d1 => ?_) fun _ _ q => q, fun e h _ _ _ _ hQ hE q => ht.mono e h _ _ _ _ (fun _ _ q1 => hQ _ _ q1) hE q⟩
  exact ⟨by rw [d1.length, q1.1]; exact hn, new_lst r1 d1 (q1.2.shift k1)⟩
theorem mono_cb {f : List D → Hh → Rs} (mr : Mono tr) : Mono (dCB f tr) := fun e h _ _ _ _ hQ hE q => mr e h _ _ _ _ (fun _ _ q1 => Rs.mono hQ q1) hE q
theorem cb_read {f : List D → Hh → Rs} {rr : List V → Hp → VK → Prop} (ho : CallD X.K f rr) (ht : DA X z W es tr n) {σ : L2.St} {H : Hp} {Q : VK} (hh : lift X.K X.mg z W (dCB f tr) σ H Q) : tCB rr (liftA X.K X.mg z W tr) σ H Q := by
  obtain ⟨ι, h, e, r, q⟩ := hh
  exact liftA_of ht.mono r q (fun x h1 ι1 H1 v q1 k1 r1 d1 => ho z ι1 h1 e H1 σ v x Q r1 d1 (Rs.mono (fun d h' p => PEq.shift k1 p) q1)) fun _ _ q => q
/-- f(e, ..), f a built-in function, a built-in class, a module's built-in -/
theorem de_callB {f : List D → Hh → Rs} {rr : List V → Hp → VK → Prop} {id : String} {x : Str} {p : Pos} (hc : CallR X (.builtin id) rr) (ho : CallD X.K f rr) (hg : Gl X x) (hm : X.mg x = none) (hv : bootBuiltins x = some (.builtin id)) (ht : DA X z W (a :: es) tr n) (hn : x ≠ "__name__") (hdb : (x == ("__debug__" : Str)) = false)
    (he : starEach (a :: es) X.env = (false, eval a X.env) :: starEach es X.env) (hpl : (backTo pos (starEach es X.env)).any (·.1) = false) : DE X z W (.Call (.Name x p) (a :: es) [] pos) (dCB f tr) :=
  ⟨pe_imp (pe_callB hc hg hm hv ht.run hn hdb he hpl) fun _ _ _ hh => cb_read ho ht hh, mono_cb ht.mono⟩
theorem de_callTy {f : List D → Hh → Rs} {rr : List V → Hp → VK → Prop} {T : String} {x : Str} {p : Pos} (hc : CallR X (.type T) rr) (ho : CallD X.K f rr) (hg : Gl X x) (hm : X.mg x = none) (hv : bootBuiltins x = some (.type T)) (ht : DA X z W (a :: es) tr n) (hn : x ≠ "__name__") (hdb : (x == ("__debug__" : Str)) = false)
    (he : starEach (a :: es) X.env = (false, eval a X.env) :: starEach es X.env) (hpl : (backTo pos (starEach es X.env)).any (·.1) = false) : DE X z W (.Call (.Name x p) (a :: es) [] pos) (dCB f tr) :=
  ⟨pe_imp (pe_callTy hc hg hm hv ht.run hn hdb he hpl) fun _ _ _ hh => cb_read ho ht hh, mono_cb ht.mono⟩
theorem de_callF {f : List D → Hh → Rs} {rr : List V → Hp → VK → Prop} {id : String} {x : Str} {p : Pos} (hc : CallR X (.builtin id) rr) (ho : CallD X.K f rr) (hg : Gl X x) (hm : X.mg x = some (.builtin id)) (ht : DA X z W (a :: es) tr n) (hdb : (x == ("__debug__" : Str)) = false)
    (he : starEach (a :: es) X.env = (false, eval a X.env) :: starEach es X.env) (hpl : (backTo pos (starEach es X.env)).any (·.1) = false) : DE X z W (.Call (.Name x p) (a :: es) [] pos) (dCB f tr) :=
  ⟨pe_imp (pe_callBfun hc hg hm ht.run hdb he hpl) fun _ _ _ hh => cb_read ho ht hh, mono_cb ht.mono⟩
end

/-! ### subscripts, slices, len, tuple(), list(), abs, int, gcd .. -/
def seqOf : D → Hh → Option (List D)
  | .tup ds, _ => some ds
  | .lst ds, _ => some ds
  | .ref n, h => match h[n]? with
    | some (.lst ds) => some ds
    | none => none
  | _, _ => none
def ixF : D → D → Hh → Rs
  | .tup ds, .int i, h => .opt (atI ds i) h
  | .lst ds, .int i, h => .opt (atI ds i) h
  | .ref n, .int i, h => match h[n]? with
    | some (.lst ds) => .opt (atI ds i) h
    | none => .no
  | _, _, _ => .no
def cutD (xs : List D) (lo hi : Option Int) : List D := (xs.drop (HT.sIx xs.length 0 lo)).take (HT.sIx xs.length xs.length hi - HT.sIx xs.length 0 lo)
def lenF : List D → Hh → Rs
  | [.tup ds], h => .ok (.int ds.length) h
  | [.lst ds], h => .ok (.int ds.length) h
  | [.ref n], h => match h[n]? with
    | some (.lst ds) => .ok (.int ds.length) h
    | none => .no
  | _, _ => .no
def tupF : List D → Hh → Rs
  | [.tup ds], h => .ok (.tup ds) h
  | [.lst ds], h => .ok (.tup ds) h
  | [.ref n], h => match h[n]? with
    | some (.lst ds) => .ok (.tup ds) h
    | none => .no
  | _, _ => .no
def lstF : List D → Hh → Rs
  | [.tup ds], h => .ok (.ref h.length) (h ++ [.lst ds])
  | [.lst ds], h => .ok (.ref h.length) (h ++ [.lst ds])
  | [.ref n], h => match h[n]? with
    | some (.lst ds) => .ok (.ref h.length) (h ++ [.lst ds])
    | none => .no
  | _, _ => .no
def absF : List D → Hh → Rs
  | [.int i], h => .ok (.int (if i < 0 then -i else i)) h
  | _, _ => .no
def intF : List D → Hh → Rs
  | [.int i], h => .ok (.int i) h
  | [.bl b], h => .ok (.int (if b then 1 else 0)) h
  | _, _ => .no
def gcdF : List D → Hh → Rs
  | [.int a, .int b], h => .ok (.int ((Nat.gcd a.natAbs b.natAbs : Nat) : Int)) h
  | _, _ => .no
def maxF : List D → Hh → Rs
  | [.int a, .int b], h => .ok (.int (if b > a then b else a)) h
  | _, _ => .no
def minF : List D → Hh → Rs
  | [.int a, .int b], h => .ok (.int (if b < a then b else a)) h
  | _, _ => .no
section
variable {X : Cx} {K : PySem.W.Frag} {z : Zs} {ι : List Addr} {h : Hh} {e : En} {H : Hp} {σ : L2.St} {Q : VK}
theorem Dens.atI {vs : List V} {ds : List D} {i : Int} {d : D} (q : Dens K z ι H vs ds) (e : L2.atI ds i = some d) : ∃ v, L2.atI vs i = some v ∧ Den K z ι H v d := by
  unfold L2.atI at e ⊢
  rw [q.length]
  cases ej : ixN ds.length i with
  | none => rw [ej] at e; cases e
  | some j =>
    rw [ej] at e
    exact q.get e
theorem Dens.cut {vs : List V} {ds : List D} {lo hi : Option Int} (q : Dens K z ι H vs ds) : Dens K z ι H (cutV vs lo hi) (cutD ds lo hi) := by
  unfold cutV cutD
  rw [q.length]
  exact (q.drop _).take _
theorem dens1 {xs : List V} {d : D} (q : Dens K z ι H xs [d]) : ∃ v, xs = [v] ∧ Den K z ι H v d := by
  cases q with
  | cons a b => cases b; exact ⟨_, rfl, a⟩
theorem dens2 {xs : List V} {d d2 : D} (q : Dens K z ι H xs [d, d2]) : ∃ v u, xs = [v, u] ∧ Den K z ι H v d ∧ Den K z ι H u d2 := by
  cases q with
  | cons a b => cases b with
    | cons b c => cases c; exact ⟨_, _, rfl, a, b⟩
theorem od_ix : OpD K ixF (rIx K) := by
  intro z ι h e H σ x y a b Q r da db q
  unfold ixF at q
  split at q
  · have := den_int db; subst_vars
    obtain ⟨p, xs, rfl, hp, hx⟩ := den_tup da
    obtain ⟨d, hd, q⟩ := q
    obtain ⟨v, h1, h2⟩ := hx.atI hd
    exact .inr (.inl ⟨p, xs, _, v, rfl, rfl, hp, h1, q ι H _ Kp.refl r h2⟩)
  · have := den_int db; subst_vars
    obtain ⟨p, xs, rfl, hp, hx⟩ := den_lst r.hp da
    obtain ⟨d, hd, q⟩ := q
    obtain ⟨v, h1, h2⟩ := hx.atI hd
    exact .inl ⟨p, xs, _, v, rfl, rfl, hp, h1, q ι H _ Kp.refl r h2⟩
  · have := den_int db; subst_vars
    split at q
    · rename_i hn
      obtain ⟨p, xs, rfl, _, hp, hx, _⟩ := r.hp.list da hn
      obtain ⟨d, hd, q⟩ := q
      obtain ⟨v, h1, h2⟩ := hx.atI hd
      exact .inl ⟨p, xs, _, v, rfl, rfl, .inl (.inl hp), h1, q ι H _ Kp.refl r h2⟩
    · exact q.elim
  · exact q.elim
theorem cd_len : CallD K lenF (fun xs H Q => ∃ p ys, xs = [.ref p] ∧ (SqL K H p ys ∨ SqT K H p ys) ∧ Q (.int ys.length) H) := by
  intro z ι h e H σ xs ds Q r dn q
  unfold lenF at q
  split at q
  · obtain ⟨v, rfl, dv⟩ := dens1 dn
    obtain ⟨p, ys, rfl, hp, hx⟩ := den_tup dv
    exact ⟨p, ys, rfl, .inr hp, by rw [hx.length]; exact q ι H _ Kp.refl r (.int _)⟩
  · obtain ⟨v, rfl, dv⟩ := dens1 dn
    obtain ⟨p, ys, rfl, hp, hx⟩ := den_lst r.hp dv
    exact ⟨p, ys, rfl, .inl hp, by rw [hx.length]; exact q ι H _ Kp.refl r (.int _)⟩
  · obtain ⟨v, rfl, dv⟩ := dens1 dn
    split at q
    · rename_i hn
      obtain ⟨p, ys, rfl, _, hp, hx, _⟩ := r.hp.list dv hn
      exact ⟨p, ys, rfl, .inl (.inl (.inl hp)), by rw [hx.length]; exact q ι H _ Kp.refl r (.int _)⟩
    · exact q.elim
  · exact q.elim
theorem cd_tup : CallD K tupF (fun xs H Q => ∃ p ys, xs = [.ref p] ∧ ((SqL K H p ys ∧ ∀ l, H l = none → Q (.ref l) (upd H l (.tup ys))) ∨ (SqT K H p ys ∧ Q (.ref p) H))) := by
  intro z ι h e H σ xs ds Q r dn q
  unfold tupF at q
  split at q
  · obtain ⟨v, rfl, dv⟩ := dens1 dn
    obtain ⟨p, ys, rfl, hp, hx⟩ := den_tup dv
    exact ⟨p, ys, rfl, .inr ⟨hp, q ι H _ Kp.refl r (.tup hp hx)⟩⟩
  · obtain ⟨v, rfl, dv⟩ := dens1 dn
    obtain ⟨p, ys, rfl, hp, hx⟩ := den_lst r.hp dv
    exact ⟨p, ys, rfl, .inl ⟨hp, new_tup r hx q⟩⟩
  · obtain ⟨v, rfl, dv⟩ := dens1 dn
    split at q
    · rename_i hn
      obtain ⟨p, ys, rfl, _, hp, hx, _⟩ := r.hp.list dv hn
      exact ⟨p, ys, rfl, .inl ⟨.inl (.inl hp), new_tup r hx q⟩⟩
    · exact q.elim
  · exact q.elim
theorem cd_lst : CallD K lstF (fun xs H Q => ∃ p ys, xs = [.ref p] ∧ (SqL K H p ys ∨ SqT K H p ys) ∧ ∀ l, H l = none → Q (.ref l) (upd H l (.lst ys))) := by
  intro z ι h e H σ xs ds Q r dn q
  unfold lstF at q
  split at q
  · obtain ⟨v, rfl, dv⟩ := dens1 dn
    obtain ⟨p, ys, rfl, hp, hx⟩ := den_tup dv
    exact ⟨p, ys, rfl, .inr hp, new_lst r hx q⟩
  · obtain ⟨v, rfl, dv⟩ := dens1 dn
    obtain ⟨p, ys, rfl, hp, hx⟩ := den_lst r.hp dv
    exact ⟨p, ys, rfl, .inl hp, new_lst r hx q⟩
  · obtain ⟨v, rfl, dv⟩ := dens1 dn
    split at q
    · rename_i hn
      obtain ⟨p, ys, rfl, _, hp, hx, _⟩ := r.hp.list dv hn
      exact ⟨p, ys, rfl, .inl (.inl (.inl hp)), new_lst r hx q⟩
    · exact q.elim
  · exact q.elim
theorem cd_abs : CallD K absF (fun xs H Q => ∃ i, xs = [.int i] ∧ Q (.int (if i < 0 then -i else i)) H) := by
  intro z ι h e H σ xs ds Q r dn q
  unfold absF at q
  split at q
  · obtain ⟨v, rfl, dv⟩ := dens1 dn
    rw [den_int dv]
    exact ⟨_, rfl, q ι H _ Kp.refl r (.int _)⟩
  · exact q.elim
theorem cd_int : CallD K intF (fun xs H Q => (∃ i, xs = [.int i] ∧ Q (.int i) H) ∨ ∃ k, xs = [.bl k] ∧ Q (.int (if k then 1 else 0)) H) := by
  intro z ι h e H σ xs ds Q r dn q
  unfold intF at q
  split at q
  · obtain ⟨v, rfl, dv⟩ := dens1 dn
    rw [den_int dv]
    exact .inl ⟨_, rfl, q ι H _ Kp.refl r (.int _)⟩
  · obtain ⟨v, rfl, dv⟩ := dens1 dn
    rw [den_bl dv]
    exact .inr ⟨_, rfl, q ι H _ Kp.refl r (.int _)⟩
  · exact q.elim
theorem cd_gcd : CallD K gcdF rGcd := by
  intro z ι h e H σ xs ds Q r dn q
  unfold gcdF at q
  split at q
  · obtain ⟨v, u, rfl, dv, du⟩ := dens2 dn
    rw [den_int dv, den_int du]
    exact ⟨_, _, rfl, q ι H _ Kp.refl r (.int _)⟩
  · exact q.elim
theorem cd_max : CallD K maxF (fun xs H Q => ∃ i j, xs = [.int i, .int j] ∧ Q (.int (if j > i then j else i)) H) := by
  intro z ι h e H σ xs ds Q r dn q
  unfold maxF at q
  split at q
  · obtain ⟨v, u, rfl, dv, du⟩ := dens2 dn
    rw [den_int dv, den_int du]
    exact ⟨_, _, rfl, q ι H _ Kp.refl r (.int _)⟩
  · exact q.elim
theorem cd_min : CallD K minF (fun xs H Q => ∃ i j, xs = [.int i, .int j] ∧ Q (.int (if j < i then j else i)) H) := by
  intro z ι h e H σ xs ds Q r dn q
  unfold minF at q
  split at q
  · obtain ⟨v, u, rfl, dv, du⟩ := dens2 dn
    rw [den_int dv, den_int du]
    exact ⟨_, _, rfl, q ι H _ Kp.refl r (.int _)⟩
  · exact q.elim
end
/-- a slice's parts -/
abbrev dO := dG (Option Int)
def dNoPart : dO := fun _ h Q _ => Q none h
def dPart (t : dE) : dO := fun e h Q E => t e h (fun x h1 => match x with
  | .int i => Q (some i) h1
  | _ => False) E
def POq (K : PySem.W.Frag) (z : Zs) (ι : List Addr) (e : En) (σ : L2.St) (H : Hp) (Q : Option Int → Hp → Prop) : Option Int → Hh → Prop := fun b h' => ∀ ι' H', Kp K ι ι' H H' → R K z ι' h' e H' σ → Q b H'
def liftO (K : PySem.W.Frag) (mg : Str → Option Value) (z : Zs) (W : WX) (t : dO) : TO := fun σ H Q => ∃ ι h e, R K z ι h e H σ ∧ t e h (POq K z ι e σ H Q) (PXq K mg z ι e σ H W)
structure DO (X : Cx) (z : Zs) (W : WX) (a : Option Expr) (t : dO) : Prop where
  run : PO X a (liftO X.K X.mg z W t)
  mono : Mono t
theorem po_imp {X : Cx} {a : Option Expr} {t t' : TO} (h : PO X a t) (i : ∀ σ H Q, t' σ H Q → t σ H Q) : PO X a t' := ⟨fun pins s σ H Q I w => h.run pins s σ H Q I (i σ H Q w)⟩
def sliceF (x : D) (lo hi : Option Int) (h : Hh) : Rs := match x with
  | .tup ds => .ok (.tup (cutD ds lo hi)) h
  | .lst ds => .ok (.ref h.length) (h ++ [.lst (cutD ds lo hi)])
  | .ref n => match h[n]? with
    | some (.lst ds) => .ok (.ref h.length) (h ++ [.lst (cutD ds lo hi)])
    | none => .no
  | _ => .no
def dSl (te : dE) (tl th : dO) : dE := fun e h Q E => te e h (fun x h1 => tl e h1 (fun lo h2 => th e h2 (fun hi h3 => (sliceF x lo hi h3).to Q) E) E) E
section
variable {X : Cx} {z : Zs} {W : WX} {a : Expr} {lo hi : Option Expr} {te : dE} {tl th : dO} {pos p2 : Pos}
theorem do_none : DO X z W none dNoPart := ⟨po_imp po_none fun σ H Q ⟨ι, h, e, r, q⟩ => q ι H Kp.refl r, fun _ _ _ _ _ _ hQ _ q => hQ _ _ q⟩
theorem do_some (ha : DE X z W a te) : DO X z W (some a) (dPart te) := by
  refine ⟨po_imp (po_some ha.run) fun σ H Q ⟨ι, h, e, r, q⟩ => lift_of ha.mono r q (fun x h1 ι1 H1 v q1 k1 r1 d1 => ?_) fun _ _ q => q, fun e h Q Q' E E' hQ hE q => ha.mono e h _ _ _ _ (fun x h1 q1 => ?_) hE q⟩
  · split at q1
    · rw [den_int d1]
      exact ⟨_, rfl, q1 ι1 H1 k1 r1⟩
    · exact q1.elim
  · split at q1
    · exact hQ _ _ q1
    · exact q1.elim
def rSlX (K : PySem.W.Frag) : V → Option Int → Option Int → Hp → VK → Prop := fun x lo hi H Q => rSlA K x lo hi H Q ∨ rSlL K x lo hi H Q
theorem cutV_whole {xs : List V} {lo hi : Option Int} (c : HT.sIx xs.length 0 lo = 0 ∧ HT.sIx xs.length xs.length hi = xs.length) : cutV xs lo hi = xs := by
  unfold cutV
  rw [c.1, c.2]
  simp
theorem de_slice (ha : DE X z W a te) (hl : DO X z W lo tl) (hh : DO X z W hi th) : DE X z W (.Subscript a (.Slice lo hi none p2) pos) (dSl te tl th) := by
  refine ⟨pe_imp (pe_slice (SlR.or sl_tupA sl_list : SlR X (rSlX X.K)) ha.run hl.run hh.run) fun σ H Q ⟨ι, h, e, r, q⟩ => ?_, fun e h _ _ _ _ hQ hE q => ?_⟩
  · refine lift_of ha.mono r q (fun x h1 ι1 H1 v q1 k1 r1 d1 => ?_) fun _ _ q => q
    refine ⟨ι1, h1, e, r1, hl.mono _ _ _ _ _ _ (fun l h2 q2 ι2 H2 k2 r2 => ?_) (fun _ _ q => q.shift k1) q1⟩
    refine ⟨ι2, h2, e, r2, hh.mono _ _ _ _ _ _ (fun u h3 q3 ι3 H3 k3 r3 => ?_) (fun _ _ q => q.shift (k1.trans k2)) q2⟩
    have d3 := d1.keep (k2.trans k3)
    have kk := k1.trans (k2.trans k3)
    unfold sliceF at q3
    split at q3
    · obtain ⟨p, xs, rfl, hp, hx⟩ := den_tup d3
      refine .inl ⟨p, xs, rfl, hp, fun c => ?_, fun _ => new_tup r3 hx.cut (PEq.shift kk q3)⟩
      have hc := hx.cut (lo := l) (hi := u)
      rw [cutV_whole c] at hc
      exact q3 ι3 H3 _ kk r3 (.tup hp hc)
    · obtain ⟨p, xs, rfl, hp, hx⟩ := den_lst r3.hp d3
      exact .inr ⟨p, xs, rfl, hp, new_lst r3 hx.cut (PEq.shift kk q3)⟩
    · split at q3
      · rename_i hn
        obtain ⟨p, xs, rfl, _, hp, hx, _⟩ := r3.hp.list d3 hn
        exact .inr ⟨p, xs, rfl, .inl (.inl hp), new_lst r3 hx.cut (PEq.shift kk q3)⟩
      · exact q3.elim
    · exact q3.elim
  · exact ha.mono _ _ _ _ _ _ (fun x h1 q1 => hl.mono _ _ _ _ _ _ (fun l h2 q2 => hh.mono _ _ _ _ _ _ (fun u h3 q3 => Rs.mono hQ q3) hE q2) hE q1) hE q
end
section
variable {X : Cx} {z : Zs} {W : WX} {a b : Expr} {ta tb : dE} {pos : Pos}
theorem de_ix (ha : DE X z W a ta) (hb : DE X z W b tb) (hs : PlainIx b) : DE X z W (.Subscript a b pos) (dOp ixF ta tb) := de_sub ix_seq od_ix ha hb hs
end
end Dn


namespace Dn
open PySem PySem.Spec PyProof.Rows L2

/-! ### what is wanted behind a statement -/
structure Dx where
  nx : En → Hh → Prop
  rt : D → Hh → Prop
  bk : En → Hh → Prop
  ct : En → Hh → Prop
  ex : Ex → En → Hh → Prop
structure Dx.Le (A B : Dx) : Prop where
  nx : ∀ e h, A.nx e h → B.nx e h
  rt : ∀ d h, A.rt d h → B.rt d h
  bk : ∀ e h, A.bk e h → B.bk e h
  ct : ∀ e h, A.ct e h → B.ct e h
  ex : ∀ x e h, A.ex x e h → B.ex x e h
theorem Dx.Le.refl (A : Dx) : Dx.Le A A := ⟨fun _ _ q => q, fun _ _ q => q, fun _ _ q => q, fun _ _ q => q, fun _ _ _ q => q⟩
abbrev dS := Dx → En → Hh → Prop
def MonoS (t : dS) : Prop := ∀ (A B : Dx) e h, Dx.Le A B → t A e h → t B e h
def absD (K : PySem.W.Frag) (mg : Str → Option Value) (z : Zs) (W : WX) (ι : List Addr) (H : Hp) (D' : Ends) : Dx where
  nx := fun e' h' => ∀ ι' H' σ', Kp K ι ι' H H' → R K z ι' h' e' H' σ' → D'.nx σ' H'
  rt := fun d h' => ∀ ι' H' v, Kp K ι ι' H H' → RH K z ι' h' H' → Den K z ι' H' v d → D'.rt v H'
  bk := fun e' h' => ∀ ι' H' σ', Kp K ι ι' H H' → R K z ι' h' e' H' σ' → D'.bk σ' H'
  ct := fun e' h' => ∀ ι' H' σ', Kp K ι ι' H H' → R K z ι' h' e' H' σ' → D'.ct σ' H'
  ex := fun x e' h' => ∀ ι' H' σ' cls dd, Kp K ι ι' H H' → R K z ι' h' e' H' σ' → ExR K mg z ι' H' cls dd x → W cls dd σ' H'
section
variable {K : PySem.W.Frag} {mg : Str → Option Value} {z : Zs} {W : WX} {ι ι' : List Addr} {H H' : Hp}
theorem absD_shift {D' : Ends} (k : Kp K ι ι' H H') : Dx.Le (absD K mg z W ι H D') (absD K mg z W ι' H' D') :=
  ⟨fun _ _ q i2 H2 s2 k2 r => q i2 H2 s2 (k.trans k2) r, fun _ _ q i2 H2 v k2 r dn => q i2 H2 v (k.trans k2) r dn, fun _ _ q i2 H2 s2 k2 r => q i2 H2 s2 (k.trans k2) r, fun _ _ q i2 H2 s2 k2 r => q i2 H2 s2 (k.trans k2) r, fun _ _ _ q i2 H2 s2 c dd k2 r x => q i2 H2 s2 c dd (k.trans k2) r x⟩
end
def liftS (K : PySem.W.Frag) (mg : Str → Option Value) (z : Zs) (W : WX) (t : dS) : TS := fun D' σ H => ∃ ι h e, R K z ι h e H σ ∧ t (absD K mg z W ι H D') e h
structure DS (X : Cx) (z : Zs) (W : WX) (st : Stmt) (t : dS) : Prop where
  run : PS X st (liftS X.K X.mg z W t)
  mono : MonoS t
structure DSs (X : Cx) (z : Zs) (W : WX) (st : List Stmt) (t : dS) : Prop where
  run : PSs X st (liftS X.K X.mg z W t)
  mono : MonoS t
section
variable {K : PySem.W.Frag} {mg : Str → Option Value} {z : Zs} {W : WX} {ι ι' : List Addr} {h : Hh} {e : En} {H : Hp} {σ : L2.St}
/-- a statement of which A is wanted -/
theorem liftS_of {t : dS} {A : Dx} {D' : Ends} (m : MonoS t) (r : R K z ι h e H σ) (q : t A e h) (le : Dx.Le A (absD K mg z W ι H D')) : liftS K mg z W t D' σ H := ⟨ι, h, e, r, m _ _ _ _ le q⟩
theorem ex_at {A : Ends} (r : R K z ι h e H σ) : ∀ x h', (absD K mg z W ι H A).ex x e h' → PXq K mg z ι e σ H W x h' := fun x h' q ι' H' c dd k r' xr => q ι' H' σ c dd k r' xr
end

/-! ### blocks, small statements -/
def sNil : dS := fun D' e h => D'.nx e h
def sSeq (t u : dS) : dS := fun D' e h => t { D' with nx := u D' } e h
def sRet (te : dE) : dS := fun D' e h => te e h D'.rt (fun x h' => D'.ex x e h')
def sRetN : dS := fun D' _ h => D'.rt .non h
def sExpr (te : dE) : dS := fun D' e h => te e h (fun _ h' => D'.nx e h') (fun x h' => D'.ex x e h')
def sBrk : dS := fun D' e h => D'.bk e h
def sCont : dS := fun D' e h => D'.ct e h
def sIf (c : dT) (t u : dS) : dS := fun D' e h => c e h (fun b h' => match b with
  | true => t D' e h'
  | false => u D' e h') (fun x h' => D'.ex x e h')
/-- a statement that is never reached -/
def sNo : dS := fun _ _ _ => False
section
variable {X : Cx} {z : Zs} {W : WX} {st : Stmt} {rest : List Stmt} {t u : dS} {a : Expr} {te : dE} {pos : Pos}
theorem mono_seq (m1 : MonoS t) (m2 : MonoS u) : MonoS (sSeq t u) := fun A B e h le q => m1 { A with nx := u A } { B with nx := u B } e h ⟨fun e' h' q' => m2 A B e' h' le q', le.rt, le.bk, le.ct, le.ex⟩ q
theorem dss_nil : DSs X z W [] sNil := ⟨pss_imp pss_nil fun D' σ H ⟨ι, h, e, r, q⟩ => q ι H σ Kp.refl r, fun _ _ _ _ le q => le.nx _ _ q⟩
theorem dss_one (h1 : DS X z W st t) : DSs X z W [st] t := ⟨pss_one h1.run, h1.mono⟩
theorem dss_cons (h1 : DS X z W st t) (h2 : DSs X z W rest u) : DSs X z W (st :: rest) (sSeq t u) := by
  refine ⟨pss_imp (pss_cons h1.run h2.run) fun D' σ H ⟨ι, h, e, r, q⟩ => ?_, mono_seq h1.mono h2.mono⟩
  exact liftS_of h1.mono r q ⟨fun e' h' q' ι' H' σ' k r' => liftS_of h2.mono r' q' (absD_shift k), fun _ _ q => q, fun _ _ q => q, fun _ _ q => q, fun _ _ _ q => q⟩
theorem ds_pass : DS X z W (.Pass pos) sNil := ⟨ps_imp ps_pass fun D' σ H ⟨ι, h, e, r, q⟩ => q ι H σ Kp.refl r, fun _ _ _ _ le q => le.nx _ _ q⟩
theorem ds_break : DS X z W (.Break pos) sBrk := ⟨ps_imp ps_break fun D' σ H ⟨ι, h, e, r, q⟩ => q ι H σ Kp.refl r, fun _ _ _ _ le q => le.bk _ _ q⟩
theorem ds_continue : DS X z W (.Continue pos) sCont := ⟨ps_imp ps_continue fun D' σ H ⟨ι, h, e, r, q⟩ => q ι H σ Kp.refl r, fun _ _ _ _ le q => le.ct _ _ q⟩
theorem ds_doc {x : Str} {j pos'} : DS X z W (.Expr (.Constant (.str x) j pos) pos') sNil := ⟨ps_imp ps_doc fun D' σ H ⟨ι, h, e, r, q⟩ => q ι H σ Kp.refl r, fun _ _ _ _ le q => le.nx _ _ q⟩
theorem ds_expr (he : DE X z W a te) (hs : swapsWith a none pos.line X.env = pure false) : DS X z W (.Expr a pos) (sExpr te) :=
  ⟨ps_imp (ps_expr he.run hs) fun D' σ H ⟨ι, h, e, r, q⟩ => lift_of he.mono r q (fun x h1 ι1 H1 v q1 k1 r1 d1 => q1 ι1 H1 σ k1 r1) (ex_at r),
    fun A B e h le q => he.mono _ _ _ _ _ _ (fun _ _ q1 => le.nx _ _ q1) (fun _ _ q1 => le.ex _ _ _ q1) q⟩
theorem ds_ret (he : DE X z W a te) : DS X z W (.Return (some a) pos) (sRet te) :=
  ⟨ps_imp (ps_ret he.run) fun D' σ H ⟨ι, h, e, r, q⟩ => lift_of he.mono r q (fun x h1 ι1 H1 v q1 k1 r1 d1 => q1 ι1 H1 v k1 r1.hp d1) (ex_at r),
    fun A B e h le q => he.mono _ _ _ _ _ _ (fun _ _ q1 => le.rt _ _ q1) (fun _ _ q1 => le.ex _ _ _ q1) q⟩
theorem ds_retN : DS X z W (.Return none pos) sRetN := ⟨ps_imp ps_retN fun D' σ H ⟨ι, h, e, r, q⟩ => q ι H .non Kp.refl r.hp .non, fun _ _ _ _ le q => le.rt _ _ q⟩
theorem mono_ifS {c : dT} (mc : Mono c) (m1 : MonoS t) (m2 : MonoS u) : MonoS (sIf c t u) := fun A B e h le q => mc _ _ _ _ _ _ (fun b h1 q1 => by
  cases b with
  | true => exact m1 _ _ _ _ le q1
  | false => exact m2 _ _ _ _ le q1) (fun _ _ q1 => le.ex _ _ _ q1) q
theorem ds_if {c : Expr} {tc : dT} {b1 b2 : List Stmt} (hc : DT X z W c tc) (h1 : DSs X z W b1 t) (h2 : DSs X z W b2 u) : DS X z W (.If c b1 b2 pos) (sIf tc t u) := by
  refine ⟨ps_imp (ps_if hc.run h1.run h2.run) fun D' σ H ⟨ι, h, e, r, q⟩ => liftT_of hc.mono r q (fun b h' ι1 H1 q1 k1 r1 => ?_) (ex_at r), mono_ifS hc.mono h1.mono h2.mono⟩
  cases b with
  | true => exact iteT (liftS_of h1.mono r1 q1 (absD_shift k1))
  | false => exact iteF (liftS_of h2.mono r1 q1 (absD_shift k1))
theorem ds_never : DS X z W st sNo := ⟨ps_imp ps_never fun D' σ H ⟨ι, h, e, r, q⟩ => q, fun _ _ _ _ _ q => q.elim⟩
end

/-! ### targets -/
abbrev dTg := D → En → Hh → (En → Hh → Prop) → XK' → Prop
def MonoG (t : dTg) : Prop := ∀ d e h (Q Q' : En → Hh → Prop) (E E' : XK'), (∀ e' h', Q e' h' → Q' e' h') → (∀ x h', E x h' → E' x h') → t d e h Q E → t d e h Q' E'
def PGq (K : PySem.W.Frag) (z : Zs) (ι : List Addr) (H : Hp) (Q : L2.St → Hp → Prop) : En → Hh → Prop := fun e' h' => ∀ ι' H' σ', Kp K ι ι' H H' → R K z ι' h' e' H' σ' → Q σ' H'
def liftG (K : PySem.W.Frag) (mg : Str → Option Value) (z : Zs) (W : WX) (t : dTg) : TG := fun v σ H Q => ∃ ι h e d, R K z ι h e H σ ∧ Den K z ι H v d ∧ t d e h (PGq K z ι H Q) (PXq K mg z ι e σ H W)
structure DG (X : Cx) (z : Zs) (W : WX) (tg : Expr) (t : dTg) : Prop where
  run : PG X tg (liftG X.K X.mg z W t)
  mono : MonoG t
abbrev dTgs := List D → En → Hh → (En → Hh → Prop) → XK' → Prop
def MonoGs (t : dTgs) : Prop := ∀ d e h (Q Q' : En → Hh → Prop) (E E' : XK'), (∀ e' h', Q e' h' → Q' e' h') → (∀ x h', E x h' → E' x h') → t d e h Q E → t d e h Q' E'
def liftGs (K : PySem.W.Frag) (mg : Str → Option Value) (z : Zs) (W : WX) (t : dTgs) : TGs := fun vs σ H Q => ∃ ι h e ds, R K z ι h e H σ ∧ Dens K z ι H vs ds ∧ t ds e h (PGq K z ι H Q) (fun _ _ => False)
structure DGs (X : Cx) (z : Zs) (W : WX) (tg : List Expr) (t : dTgs) (n : Nat) : Prop where
  run : PGs X tg (liftGs X.K X.mg z W t)
  mono : MonoGs t
theorem pg_imp {X : Cx} {a : Expr} {t t' : TG} (h : PG X a t) (i : ∀ v σ H Q, t' v σ H Q → t v σ H Q) : PG X a t' := ⟨fun pins s σ H v u Q I r w => h.run pins s σ H v u Q I r (i v σ H Q w)⟩
theorem pgs_imp {X : Cx} {a : List Expr} {t t' : TGs} (h : PGs X a t) (i : ∀ v σ H Q, t' v σ H Q → t v σ H Q) : PGs X a t' := ⟨fun pins s σ H v u Q I r w => h.run pins s σ H v u Q I r (i v σ H Q w)⟩
def gN (i : Nat) : dTg := fun d e h Q _ => Q (e.set i (some d)) h
def gsNil : dTgs := fun ds e h Q _ => match ds with
  | [] => Q e h
  | _ :: _ => False
def gsCons (t : dTg) (u : dTgs) : dTgs := fun ds e h Q E => match ds with
  | [] => False
  | d :: r => t d e h (fun e' h' => u r e' h' Q E) E
/-- a, b, .. = a tuple -/
def gT (n : Nat) (t : dTgs) : dTg := fun d e h Q _ => match d with
  | .tup ds => ds.length = n ∧ t ds e h Q (fun _ _ => False)
  | _ => False
/-- xs[i] = v -/
def gS (to ti : dE) : dTg := fun d e h Q E => to e h (fun o h1 => ti e h1 (fun i h2 => match o, i with
  | .ref n, .int k => match h2[n]? with
    | some (.lst ds) => ∃ j, ixN ds.length k = some j ∧ Q e (h2.set n (.lst (ds.set j d)))
    | none => False
  | _, _ => False) E) E
section
variable {X : Cx} {z : Zs} {W : WX} {pos : Pos}
theorem dg_name (i : Nat) {x : Str} (hN : X.N.Nodup) (hi : X.N[i]? = some x) (hx : Loc X.env.scope x) (hf : X.fn x = true ∨ X.env.scope.names.lookup x = some .local) : DG X z W (.Name x pos) (gN i) :=
  ⟨pg_imp (pg_name hN hi hx hf) fun v σ H Q ⟨ι, h, e, d, r, dn, q⟩ => q ι H _ Kp.refl ⟨r.hp, r.en.set i dn⟩, fun _ _ _ _ _ _ _ hQ _ q => hQ _ _ q⟩
theorem dgs_nil : DGs X z W [] gsNil 0 := by
  refine ⟨pgs_imp pgs_nil fun vs σ H Q ⟨ι, h, e, ds, r, dn, q⟩ => ?_, fun d _ _ _ _ _ _ hQ _ q => ?_⟩
  · cases dn with
    | nil => exact ⟨rfl, q ι H _ Kp.refl r⟩
    | cons a b => exact q.elim
  · cases d with
    | nil => exact hQ _ _ q
    | cons _ _ => exact q.elim
theorem dgs_cons {a : Expr} {es : List Expr} {t : dTg} {u : dTgs} {n : Nat} (h1 : DG X z W a t) (h2 : DGs X z W es u n) (hs : (assignEach (a :: es) X.env).map (·.2) = assign a X.env :: (assignEach es X.env).map (·.2)) : DGs X z W (a :: es) (gsCons t u) (n + 1) := by
  refine ⟨pgs_imp (pgs_cons h1.run h2.run hs) fun vs σ H Q ⟨ι, h, e, ds, r, dn, q⟩ => ?_, fun d _ _ _ _ _ _ hQ hE q => ?_⟩
  · cases dn with
    | nil => exact q.elim
    | cons a b =>
      refine ⟨_, _, rfl, ι, h, e, _, r, a, h1.mono _ _ _ _ _ _ _ (fun e' h' q1 ι' H' σ' k r' => ?_) (fun _ _ x => x.elim) q⟩
      exact ⟨ι', h', e', _, r', b.keep k, h2.mono _ _ _ _ _ _ _ (fun e2 h2 q2 i3 H3 s3 k3 r3 => q2 i3 H3 s3 (k.trans k3) r3) (fun _ _ x => x) q1⟩
  · cases d with
    | nil => exact q.elim
    | cons _ _ => exact h1.mono _ _ _ _ _ _ _ (fun _ _ q1 => h2.mono _ _ _ _ _ _ _ hQ hE q1) hE q
theorem dg_tup {es : List Expr} {k n : Nat} {t : dTgs} (hc : X.calm = true) (h : DGs X z W es t n) (hn : (assignEach es X.env).length = n) (hst : (assignEach es X.env).findIdx? (·.1) = none) : DG X z W (.Tuple es k pos) (gT n t) := by
  refine ⟨pg_imp (pg_tup hc h.run hn hst) fun v σ H Q ⟨ι, h, e, d, r, dn, q⟩ => ?_, fun d _ _ _ _ _ _ hQ _ q => ?_⟩
  · unfold gT at q
    split at q
    · obtain ⟨p, xs, rfl, hp, hx⟩ := den_tup dn
      exact ⟨p, xs, rfl, hp, by rw [hx.length]; exact q.1, ι, _, e, _, r, hx, q.2⟩
    · exact q.elim
  · unfold gT at q ⊢
    split at q
    · exact ⟨q.1, h.mono _ _ _ _ _ _ _ hQ (fun _ _ x => x) q.2⟩
    · exact q.elim
theorem dg_sub {o i : Expr} {to ti : dE} (ho : DE X z W o to) (hi : DE X z W i ti) (ha : ∀ v, assign (.Subscript o i pos) X.env v = (do
      let ov ← holding [v] (eval o X.env)
      let iv ← holding [v, ov] (eval i X.env)
      standAt pos
      holding [v, ov, iv] (setItem ov iv v)
      release [v, ov, iv] [])) : DG X z W (.Subscript o i pos) (gS to ti) := by
  refine ⟨pg_imp (pg_sub ho.run hi.run set_list ha) fun v σ H Q ⟨ι, h, e, d, r, dn, q⟩ => ?_, fun d _ _ _ _ _ _ hQ hE q => ?_⟩
  · refine lift_of ho.mono r q (fun o' h1 ι1 H1 v1 q1 k1 r1 d1 => ?_) fun _ _ q => q
    refine lift_of hi.mono r1 q1 (fun i' h2 ι2 H2 v2 q2 k2 r2 d2 => ?_) fun _ _ q => q.shift k1
    split at q2
    · split at q2
      · rename_i hn
        obtain ⟨j, hj, q2⟩ := q2
        obtain ⟨p, xs, rfl, hp, hl, hx, hlt⟩ := r2.hp.list (d1.keep k2) hn
        refine ⟨p, xs, _, j, rfl, den_int d2, hl, by rw [hx.length]; exact hj, ?_⟩
        exact q2 ι2 _ _ ((k1.trans k2).trans (Kp.wrote r2.hp (List.mem_of_getElem? hp) _)) (r2.wrote hp hlt (Dens.set (dn.keep (k1.trans k2)) j hx))
      · exact q2.elim
    · exact q2.elim
  · refine ho.mono _ _ _ _ _ _ (fun o' h1 q1 => hi.mono _ _ _ _ _ _ (fun i' h2 q2 => ?_) hE q1) hE q
    split at q2
    · split at q2
      · obtain ⟨j, hj, q2⟩ := q2
        exact ⟨j, hj, hQ _ _ q2⟩
      · exact q2.elim
    · exact q2.elim
end
def sAsg (te : dE) (g : dTg) : dS := fun D' e h => te e h (fun d h1 => g d e h1 D'.nx (fun x h' => D'.ex x e h')) (fun x h' => D'.ex x e h')
section
variable {X : Cx} {z : Zs} {W : WX} {a tg : Expr} {te : dE} {g : dTg} {pos : Pos}
theorem mono_asg (me : Mono te) (mg : MonoG g) : MonoS (sAsg te g) := fun A B e h le q => me _ _ _ _ _ _ (fun d h1 q1 => mg _ _ _ _ _ _ _ le.nx (fun _ _ q2 => le.ex _ _ _ q2) q1) (fun _ _ q1 => le.ex _ _ _ q1) q
theorem asg_read (he : DE X z W a te) (hg : DG X z W tg g) {D' : Ends} {σ : L2.St} {H : Hp} (hh : liftS X.K X.mg z W (sAsg te g) D' σ H) : tAsg (lift X.K X.mg z W te) (liftG X.K X.mg z W g) D' σ H := by
  obtain ⟨ι, h, e, r, q⟩ := hh
  refine lift_of he.mono r q (fun d h1 ι1 H1 v q1 k1 r1 d1 => ?_) (ex_at r)
  exact ⟨ι1, h1, e, d, r1, d1, hg.mono _ _ _ _ _ _ _ (fun e' h' q2 i2 H2 s2 k2 r2 => q2 i2 H2 s2 (k1.trans k2) r2) (fun x h' q2 => (ex_at (mg := X.mg) (z := z) (W := W) r x h' q2).shift k1) q1⟩
theorem ds_asg (he : DE X z W a te) (hg : DG X z W tg g) (hs : swapsWithSole [tg] a pos.line X.env = pure false) (hw : swappedStores [tg] a X.env = pure none) (h1 : (assignEach [tg] X.env).map (·.2) = [assign tg X.env]) : DS X z W (.Assign [tg] a pos) (sAsg te g) :=
  ⟨ps_imp (ps_asg he.run hg.run hs hw h1) fun _ _ _ hh => asg_read he hg hh, mono_asg he.mono hg.mono⟩
theorem ds_set (i : Nat) {x : Str} {pos' : Pos} (hN : X.N.Nodup) (hi : X.N[i]? = some x) (hx : Loc X.env.scope x) (he : DE X z W a te) (hs : swapsWith a (some (.Name x pos')) pos.line X.env = pure false) (hf : X.fn x = true ∨ X.env.scope.names.lookup x = some .local) : DS X z W (.Assign [.Name x pos'] a pos) (sAsg te (gN i)) := by
  refine ⟨ps_imp (ps_set hN hi hx he.run hs hf) fun D' σ H hh => ?_, mono_asg he.mono fun _ _ _ _ _ _ _ hQ _ q => hQ _ _ q⟩
  obtain ⟨ι, h, e, r, q⟩ := hh
  exact lift_of he.mono r q (fun d h1 ι1 H1 v q1 k1 r1 d1 => q1 ι1 H1 _ k1 ⟨r1.hp, r1.en.set i d1⟩) (ex_at r)
end
/-- a, b = x, y -/
def sPar (i j : Nat) (ta : dA) : dS := fun D' e h => ta e h (fun ds h1 => match ds with
  | [x, y] => D'.nx ((e.set i (some x)).set j (some y)) h1
  | _ => False) (fun x h' => D'.ex x e h')
/-- x op= e -/
def sAug (f : D → D → Hh → Rs) (i : Nat) (te : dE) : dS := fun D' e h => match slot e i with
  | some x => te e h (fun y h1 => (f x y h1).to fun d h2 => D'.nx (e.set i (some d)) h2) (fun x h' => D'.ex x e h')
  | none => False
section
variable {X : Cx} {z : Zs} {W : WX} {pos : Pos}
theorem ds_par (i j : Nat) {x y : Str} {a b : Expr} {ta : dA} {px py pt : Pos} {kt k2 pt2} (hc : X.calm = true) (hN : X.N.Nodup) (hi : X.N[i]? = some x) (hj : X.N[j]? = some y) (hij : i ≠ j)
    (hx : X.env.scope.names.lookup x = some .local) (hy : X.env.scope.names.lookup y = some .local) (ha : DA X z W [a, b] ta 2)
    (hw : swappedStores [.Tuple [.Name x px, .Name y py] kt pt] (.Tuple [a, b] k2 pt2) X.env = pure (some [x, y]))
    (hs : swapsWithSole [.Tuple [.Name x px, .Name y py] kt pt] (.Tuple [a, b] k2 pt2) pos.line X.env = pure false) :
    DS X z W (.Assign [.Tuple [.Name x px, .Name y py] kt pt] (.Tuple [a, b] k2 pt2) pos) (sPar i j ta) := by
  refine ⟨ps_imp (ps_par hc hN hi hj hij hx hy ha.run hw hs) fun D' σ H ⟨ι, h, e, r, q⟩ => liftA_of ha.mono r q (fun ds h1 ι1 H1 vs q1 k1 r1 dn => ?_) (ex_at r), fun A B e h le q => ha.mono _ _ _ _ _ _ (fun ds h1 q1 => ?_) (fun _ _ q1 => le.ex _ _ _ q1) q⟩
  · split at q1
    · obtain ⟨v, u, rfl, dv, du⟩ := dens2 dn
      exact ⟨v, u, rfl, q1 ι1 H1 _ k1 ⟨r1.hp, (r1.en.set i dv).set j du⟩⟩
    · exact q1.elim
  · split at q1
    · exact le.nx _ _ q1
    · exact q1.elim
/-- an in-place operation by its rule -/
theorem ds_aug {op : Operator} {f : D → D → Hh → Rs} {rr : TIp} (i : Nat) {x : Str} {a : Expr} {te : dE} {pos' : Pos} (hN : X.N.Nodup) (hi : X.N[i]? = some x) (hx : Loc X.env.scope x) (he : DE X z W a te) (ho : PIp X op rr) (hd : OpD X.K f rr) (hf : X.fn x = true ∨ X.env.scope.names.lookup x = some .local) :
    DS X z W (.AugAssign (.Name x pos') op a pos) (sAug f i te) := by
  refine ⟨ps_imp (ps_aug hN hi hx he.run ho hf) fun D' σ H ⟨ι, h, e, r, q⟩ => ?_, fun A B e h le q => ?_⟩
  · unfold sAug at q
    cases es : slot e i with
    | none => rw [es] at q; exact q.elim
    | some d =>
      rw [es] at q
      obtain ⟨v, h1, h2⟩ := r.en.get i d (slot_get es)
      refine ⟨v, h1, lift_of he.mono r q (fun y h1 ι1 H1 u q1 k1 r1 d1 => ?_) (ex_at r)⟩
      refine hd z ι1 h1 e H1 σ v u d y _ r1 (h2.keep k1) d1 (Rs.mono (fun w h2 q2 ι2 H2 x k2 r2 d2 => ?_) q1)
      exact q2 ι2 H2 _ (k1.trans k2) ⟨r2.hp, r2.en.set i d2⟩
  · unfold sAug at q ⊢
    cases es : slot e i with
    | none => rw [es] at q; exact q.elim
    | some d =>
      rw [es] at q
      exact he.mono _ _ _ _ _ _ (fun _ _ q1 => Rs.mono (fun _ _ q2 => le.nx _ _ q2) q1) (fun _ _ q1 => le.ex _ _ _ q1) q
end

/-! ### while -/
def sWhile (c : dT) (tb : dS) : dS := fun D' e h => ∃ P : Nat → En → Hh → Prop, (∃ m, P m e h) ∧ ∀ m e h, P m e h → c e h (fun b h1 => match b with
  | true => tb { D' with nx := fun e' h' => ∃ m', m' < m ∧ P m' e' h', ct := fun e' h' => ∃ m', m' < m ∧ P m' e' h', bk := D'.nx } e h1
  | false => D'.nx e h1) (fun x h' => D'.ex x e h')
section
variable {X : Cx} {z : Zs} {W : WX} {pos : Pos} {c : Expr} {tc : dT} {body : List Stmt} {tb : dS}
theorem mono_while (mc : Mono tc) (mb : MonoS tb) : MonoS (sWhile tc tb) := fun A B e h le ⟨P, h0, hs⟩ => ⟨P, h0, fun m e h p => mc _ _ _ _ _ _ (fun b h1 q1 => by
  cases b with
  | true => exact mb { A with nx := fun e' h' => ∃ m', m' < m ∧ P m' e' h', ct := fun e' h' => ∃ m', m' < m ∧ P m' e' h', bk := A.nx } _ _ _ ⟨fun _ _ q => q, le.rt, le.nx, fun _ _ q => q, le.ex⟩ q1
  | false => exact le.nx _ _ q1) (fun _ _ q1 => le.ex _ _ _ q1) (hs m e h p)⟩
theorem ds_while (hp : PassesOwn (model X.prog X.w) X.A X.env X.xe) (hc : DT X z W c tc) (hb : DSs X z W body tb) : DS X z W (.While c body [] pos) (sWhile tc tb) := by
  refine ⟨ps_imp (ps_while hp hc.run hb.run) fun D' σ H ⟨ι, h, e, r, P, ⟨m0, p0⟩, hs⟩ => ?_, mono_while hc.mono hb.mono⟩
  refine ⟨fun m σ' H' => ∃ ι' h' e', Kp X.K ι ι' H H' ∧ R X.K z ι' h' e' H' σ' ∧ P m e' h', ⟨m0, ι, h, e, Kp.refl, r, p0⟩, ?_⟩
  rintro m σ1 H1 ⟨ι1, h1, e1, k1, r1, p1⟩
  refine liftT_of hc.mono r1 (hs m e1 h1 p1) (fun b h2 ι2 H2 q2 k2 r2 => ?_) (fun x h' q ι' H' c' dd k r' xr => q ι' H' _ c' dd (k1.trans k) r' xr)
  cases b with
  | true =>
    refine iteT ⟨fun σ' H' => ∃ m', m' < m ∧ ∃ ι' h' e', Kp X.K ι ι' H H' ∧ R X.K z ι' h' e' H' σ' ∧ P m' e' h', fun σ' H' q => q, ?_⟩
    have sh : Dx.Le (absD X.K X.mg z W ι H D') (absD X.K X.mg z W ι2 H2 D') := absD_shift (k1.trans k2)
    refine liftS_of hb.mono r2 q2 ⟨fun e' h' ⟨m', hm, p⟩ i3 H3 s3 k3 r3 => ⟨m', hm, i3, h', e', (k1.trans k2).trans k3, r3, p⟩, sh.rt, sh.nx, fun e' h' ⟨m', hm, p⟩ i3 H3 s3 k3 r3 => ⟨m', hm, i3, h', e', (k1.trans k2).trans k3, r3, p⟩, sh.ex⟩
  | false => exact iteF (q2 ι2 H2 σ1 (k1.trans k2) r2)
end
end Dn


namespace Dn
open PySem PySem.Spec PyProof.Rows L2

/-! ### what is walked -/
abbrev dSrc := En → Hh → (List D → (Hh → Prop) → Hh → Prop) → XK' → Prop
def MonoI (t : dSrc) : Prop := ∀ e h (Q Q' : List D → (Hh → Prop) → Hh → Prop) (E E' : XK'), (∀ ds G h', Q ds G h' → Q' ds G h') → (∀ x h', E x h' → E' x h') → t e h Q E → t e h Q' E'
/-- J gives the items ds, while G stands -/
def ItOk (K : PySem.W.Frag) (z : Zs) (ι₀ : List Addr) (H₀ : Hp) (J : It) (ds : List D) (G : Hh → Prop) : Prop := ∀ ι' h' H', Kp K ι₀ ι' H₀ H' → RH K z ι' h' H' → G h' → ∀ i : Nat,
  (ds.length ≤ i → J.stop i H') ∧ (i < ds.length → J.go i H' ∧ ∀ x H'', J.yld i H' x H'' → ∃ d, ds[i]? = some d ∧ Kp K ι' ι' H' H'' ∧ RH K z ι' h' H'' ∧ Den K z ι' H'' x d)
def PIq (K : PySem.W.Frag) (z : Zs) (ι : List Addr) (e : En) (σ : L2.St) (H : Hp) (RR : It → Hp → Prop) : List D → (Hh → Prop) → Hh → Prop := fun ds G h1 => ∀ ι1 H1 J, Kp K ι ι1 H H1 → R K z ι1 h1 e H1 σ → G h1 → ItOk K z ι1 H1 J ds G → RR J H1
def liftI (K : PySem.W.Frag) (mg : Str → Option Value) (z : Zs) (W : WX) (t : dSrc) : TI := fun σ H RR => ∃ ι h e, R K z ι h e H σ ∧ t e h (PIq K z ι e σ H RR) (PXq K mg z ι e σ H W)
structure DI (X : Cx) (z : Zs) (W : WX) (tg iter : Expr) (t : dSrc) : Prop where
  run : PI X tg iter (liftI X.K X.mg z W t)
  mono : MonoI t

/-- a new iterator over a known thing -/
theorem start_it {X : Cx} {pins : List (Addr × Obj)} {σ : L2.St} {H : Hp} {s : Shared} {tg : Expr} {RR : It → Hp → Prop} {ob : Obj} {J : It} {tn : Nat → Heap → Prop} (I : Inv X pins σ H s) (T : Turn X.prog X.w X.K tg J [s.heap.objs.size] s.heap.objs.size tn)
    (ht : tn 0 (s.heap.push ob)) (q : RR J H) : PIE X pins σ tg RR (.ref s.heap.objs.size) { s with heap := s.heap.push ob } := by
  refine ⟨s.heap.objs.size, [s.heap.objs.size], tn, J, H, rfl, I.kept (t' := s.toks) fun a u w => Heap.get?_push_of_some _ w, T, ht, fun a ha => ?_, q⟩
  have ea : a = s.heap.objs.size := List.mem_singleton.mp ha
  rw [ea]
  exact I.fpOk (Nat.le_refl _) (I.hok.fresh (Nat.le_refl _))
/-- over a list or a tuple -/
theorem pi_seq {X : Cx} {tg l : Expr} {tl : TE} (hl : PE X l tl) : PI X tg l (fun σ H RR => tl σ H fun x H1 => ∃ a, x = .ref a ∧ ((∃ xs, SqL X.K H1 a xs ∧ RR (Itl X.K a) H1) ∨ ∃ xs, SqT X.K H1 a xs ∧ RR (Itt X.K a) H1)) := by
  refine ⟨fun pins s σ H RR I hh => thn (hl.run pins s σ H _ I hh) fun v s1 w => ?_⟩
  obtain ⟨x, H1, I1, r1, a, ex, q⟩ := w
  subst ex; cases r1
  rcases q with ⟨xs, hq, q⟩ | ⟨xs, hq, q⟩
  · obtain ⟨us, rv, p, _⟩ := I1.list hq
    exact wpAny_pyIter_list p.isList (start_it I1 (turn_list a _) ⟨_, Heap.get?_push_size _ rfl, rfl, rfl⟩ q)
  · obtain ⟨us, rv, p, _⟩ := I1.tuple hq
    refine wpAny_pyIter_tuple (items := us.toArray) ?_ (start_it I1 (turn_tuple a _) ⟨_, Heap.get?_push_size _ rfl, rfl, rfl⟩ q)
    exact p

def srcSeq (te : dE) : dSrc := fun e h Q E => te e h (fun x h1 => match x with
  | .tup ds => Q ds (fun _ => True) h1
  | .lst ds => Q ds (fun _ => True) h1
  | .ref n => match h1[n]? with
    | some (.lst ds) => Q ds (fun h' => h'[n]? = some (.lst ds)) h1
    | none => False
  | _ => False) E
def intsUp (lo : Int) (n : Nat) : List D := (List.range n).map fun (i : Nat) => .int (lo + (i : Int))
def srcRng1 (ta : dA) : dSrc := fun e h Q E => ta e h (fun ds h1 => match ds with
  | [.int n] => (-(2 ^ 62) ≤ n ∧ n < 2 ^ 62) ∧ Q (intsUp 0 n.toNat) (fun _ => True) h1
  | _ => False) E
def srcRng2 (ta : dA) : dSrc := fun e h Q E => ta e h (fun ds h1 => match ds with
  | [.int a, .int b] => (-(2 ^ 62) ≤ a ∧ a < 2 ^ 62 ∧ -(2 ^ 62) ≤ b ∧ b < 2 ^ 62) ∧ Q (intsUp a (b - a).toNat) (fun _ => True) h1
  | _ => False) E
section
variable {K : PySem.W.Frag} {z : Zs} {ι : List Addr} {h : Hh} {H : Hp} {p : Addr}
theorem itok_tup {xs : List V} {ds : List D} (hp : SqT K H p xs) (hx : Dens K z ι H xs ds) (G : Hh → Prop) : ItOk K z ι H (Itt K p) ds G := by
  intro ι' h' H' k r _ i
  have hp' := k.tup _ _ hp
  have hx' := Dens.keep k hx
  refine ⟨fun hi => ⟨xs, hp', by rw [hx'.length]; exact hi⟩, fun hi => ?_⟩
  obtain ⟨v, h1, h2⟩ := hx'.get (List.getElem?_eq_getElem hi)
  refine ⟨⟨xs, v, hp', h1⟩, fun x H'' y => ?_⟩
  obtain ⟨rfl, y⟩ := y
  have ev : x = v := Option.some.inj ((y xs hp').symm.trans h1)
  subst ev
  exact ⟨_, List.getElem?_eq_getElem hi, Kp.refl, r, h2⟩
theorem itok_lst {xs : List V} {ds : List D} (hp : FL K z p xs) (hx : Dens K z ι H xs ds) (G : Hh → Prop) : ItOk K z ι H (Itl K p) ds G := by
  intro ι' h' H' k r _ i
  have hp' := fl_stay r hp
  have hx' := Dens.keep k hx
  refine ⟨fun hi => ⟨xs, hp', by rw [hx'.length]; exact hi⟩, fun hi => ?_⟩
  obtain ⟨v, h1, h2⟩ := hx'.get (List.getElem?_eq_getElem hi)
  refine ⟨⟨xs, v, hp', h1⟩, fun x H'' y => ?_⟩
  obtain ⟨rfl, y⟩ := y
  have ev : x = v := Option.some.inj ((y xs hp').symm.trans h1)
  subst ev
  exact ⟨_, List.getElem?_eq_getElem hi, Kp.refl, r, h2⟩
theorem itok_ref {n : Nat} {ds : List D} (hn : ι[n]? = some p) : ItOk K z ι H (Itl K p) ds (fun h' => h'[n]? = some (.lst ds)) := by
  intro ι' h' H' k r g i
  have hd : Den K z ι' H' (.ref p) (.ref n) := Den.keep k (.ref hn)
  obtain ⟨p', xs, ep, _, hp, hx', _⟩ := r.list hd g
  injection ep with ep; subst ep
  have hp' : SqL K H' p xs := .inl (.inl hp)
  refine ⟨fun hi => ⟨xs, hp', by rw [hx'.length]; exact hi⟩, fun hi => ?_⟩
  obtain ⟨v, h1, h2⟩ := hx'.get (List.getElem?_eq_getElem hi)
  refine ⟨⟨xs, v, hp', h1⟩, fun x H'' y => ?_⟩
  obtain ⟨rfl, y⟩ := y
  have ev : x = v := Option.some.inj ((y xs hp').symm.trans h1)
  subst ev
  exact ⟨_, List.getElem?_eq_getElem hi, Kp.refl, r, h2⟩
theorem intsUp_len (lo : Int) (n : Nat) : (intsUp lo n).length = n := by unfold intsUp; rw [List.length_map, List.length_range]
theorem intsUp_get {lo : Int} {n i : Nat} (hi : i < n) : (intsUp lo n)[i]? = some (.int (lo + (i : Int))) := by
  unfold intsUp
  rw [List.getElem?_map, List.getElem?_range hi]; rfl
theorem itok_rng {lo : Int} {n : Nat} (G : Hh → Prop) : ItOk K z ι H (Itr lo n) (intsUp lo n) G := by
  intro ι' h' H' k r _ i
  rw [intsUp_len]
  refine ⟨fun hi => hi, fun hi => ⟨hi, fun x H'' y => ?_⟩⟩
  obtain ⟨rfl, rfl⟩ := y
  exact ⟨_, intsUp_get hi, Kp.refl, r, .int _⟩
end
section
variable {X : Cx} {z : Zs} {W : WX} {tg a : Expr} {te : dE} {pos : Pos}
theorem di_seq (ha : DE X z W a te) : DI X z W tg a (srcSeq te) := by
  refine ⟨pi_imp (pi_seq ha.run) fun σ H RR ⟨ι, h, e, r, q⟩ => lift_of ha.mono r q (fun x h1 ι1 H1 v q1 k1 r1 d1 => ?_) fun _ _ q => q, fun e h Q Q' E E' hQ hE q => ha.mono _ _ _ _ _ _ (fun x h1 q1 => ?_) hE q⟩
  · split at q1
    · obtain ⟨p, xs, rfl, hp, hx⟩ := den_tup d1
      exact ⟨p, rfl, .inr ⟨xs, hp, q1 ι1 H1 _ k1 r1 trivial (itok_tup hp hx _)⟩⟩
    · cases d1 with
      | lst hp hx => exact ⟨_, rfl, .inl ⟨_, fl_stay r1.hp hp, q1 ι1 H1 _ k1 r1 trivial (itok_lst hp hx _)⟩⟩
    · split at q1
      · rename_i hn
        obtain ⟨p, xs, rfl, hi, hp, hx, _⟩ := r1.hp.list d1 hn
        exact ⟨p, rfl, .inl ⟨xs, .inl (.inl hp), q1 ι1 H1 _ k1 r1 hn (itok_ref hi)⟩⟩
      · exact q1.elim
    · exact q1.elim
  · split at q1
    · exact hQ _ _ _ q1
    · exact hQ _ _ _ q1
    · split at q1
      · exact hQ _ _ _ q1
      · exact q1.elim
    · exact q1.elim
theorem di_rng1 {ta : dA} {p : Pos} (hg : Gl X "range") (hm : X.mg "range" = none) (ha : DA X z W [a] ta 1) (hs : starEach [a] X.env = [(false, eval a X.env)]) : DI X z W tg (.Call (.Name "range" p) [a] [] pos) (srcRng1 ta) := by
  refine ⟨pi_imp (pi_range1 hg hm ha.run hs) fun σ H RR ⟨ι, h, e, r, q⟩ => liftA_of ha.mono r q (fun ds h1 ι1 H1 vs q1 k1 r1 d1 => ?_) fun _ _ q => q, fun e h Q Q' E E' hQ hE q => ha.mono _ _ _ _ _ _ (fun x h1 q1 => ?_) hE q⟩
  · split at q1
    · obtain ⟨v, rfl, dv⟩ := dens1 d1
      rw [den_int dv]
      exact ⟨_, rfl, q1.1.1, q1.1.2, q1.2 ι1 H1 _ k1 r1 trivial (itok_rng _)⟩
    · exact q1.elim
  · split at q1
    · exact ⟨q1.1, hQ _ _ _ q1.2⟩
    · exact q1.elim
theorem di_rng2 {b : Expr} {ta : dA} {p : Pos} (hg : Gl X "range") (hm : X.mg "range" = none) (ha : DA X z W [a, b] ta 2) (hs : starEach [a, b] X.env = [(false, eval a X.env), (false, eval b X.env)]) (hs2 : starEach [b] X.env = [(false, eval b X.env)]) : DI X z W tg (.Call (.Name "range" p) [a, b] [] pos) (srcRng2 ta) := by
  refine ⟨pi_imp (pi_range2 hg hm ha.run hs hs2) fun σ H RR ⟨ι, h, e, r, q⟩ => liftA_of ha.mono r q (fun ds h1 ι1 H1 vs q1 k1 r1 d1 => ?_) fun _ _ q => q, fun e h Q Q' E E' hQ hE q => ha.mono _ _ _ _ _ _ (fun x h1 q1 => ?_) hE q⟩
  · split at q1
    · obtain ⟨v, u, rfl, dv, du⟩ := dens2 d1
      rw [den_int dv, den_int du]
      exact ⟨_, _, rfl, q1.1, q1.2 ι1 H1 _ k1 r1 trivial (itok_rng _)⟩
    · exact q1.elim
  · split at q1
    · exact ⟨q1.1, hQ _ _ _ q1.2⟩
    · exact q1.elim
end

/-! ### for -/
def sFor (src : dSrc) (g : dTg) (tb : dS) : dS := fun D' e h => src e h (fun ds G h1 => ∃ P : Nat → En → Hh → Prop, P 0 e h1 ∧ (∀ i e' h', i ≤ ds.length → P i e' h' → G h') ∧
  (∀ (i : Nat) (x : D) e' h', ds[i]? = some x → P i e' h' → g x e' h' (fun e2 h2 => tb { D' with nx := P (i + 1), ct := P (i + 1), bk := D'.nx } e2 h2) (fun x' h2 => D'.ex x' e' h2)) ∧ (∀ e' h', P ds.length e' h' → D'.nx e' h')) (fun x h' => D'.ex x e h')
section
variable {X : Cx} {z : Zs} {W : WX} {tg iter : Expr} {src : dSrc} {g : dTg} {tb : dS} {body : List Stmt} {pos : Pos}
theorem mono_for (mi : MonoI src) (mg : MonoG g) (mb : MonoS tb) : MonoS (sFor src g tb) := fun A B e h le q => mi _ _ _ _ _ _ (fun ds G h1 ⟨P, p0, pg, ps, pd⟩ => ⟨P, p0, pg, fun i x e' h' hx p => mg _ _ _ _ _ _ _
  (fun e2 h2 q2 => mb { A with nx := P (i + 1), ct := P (i + 1), bk := A.nx } _ _ _ ⟨fun _ _ q => q, le.rt, le.nx, fun _ _ q => q, le.ex⟩ q2) (fun _ _ q2 => le.ex _ _ _ q2) (ps i x e' h' hx p), fun e' h' p => le.nx _ _ (pd e' h' p)⟩) (fun _ _ q1 => le.ex _ _ _ q1) q
theorem ds_for (hp : PassesOwn (model X.prog X.w) X.A X.env X.xe) (hc : X.calm = true) (hi : DI X z W tg iter src) (hg : DG X z W tg g) (hb : DSs X z W body tb) (hs : ∀ x, foldedSetIterable iter X.env x = pure x) : DS X z W (.For tg iter body [] pos) (sFor src g tb) := by
  refine ⟨ps_imp (ps_for hp hc hi.run hg.run hb.run hs) fun D' σ H ⟨ι, h, e, r, q⟩ => ?_, mono_for hi.mono hg.mono hb.mono⟩
  refine ⟨ι, h, e, r, hi.mono _ _ _ _ _ _ (fun ds G h1 w ι1 H1 J k1 r1 _ it => ?_) (ex_at r) q⟩
  obtain ⟨P, p0, pg, ps, pd⟩ := w
  refine ⟨fun i m σ' H' => m = ds.length - i ∧ i ≤ ds.length ∧ ∃ ι' h' e', Kp X.K ι1 ι' H1 H' ∧ R X.K z ι' h' e' H' σ' ∧ P i e' h', ⟨ds.length, by simp, Nat.zero_le _, ι1, h1, e, Kp.refl, r1, p0⟩, ?_⟩
  rintro i m σ2 H2 ⟨rfl, hi2, ι2, h2, e2, k2, r2, p2⟩
  have io := it ι2 h2 H2 k2 r2.hp (pg i e2 h2 hi2 p2) i
  by_cases hlt : i < ds.length
  · obtain ⟨go, yl⟩ := io.2 hlt
    refine .inr ⟨go, fun σ' H' => ∃ ι' h' e', Kp X.K ι1 ι' H1 H' ∧ R X.K z ι' h' e' H' σ' ∧ P (i + 1) e' h', fun σ' H' w => ⟨ds.length - (i + 1), by omega, rfl, hlt, w⟩, fun x H3 y => ?_⟩
    obtain ⟨d, hd, k3, r3, dn⟩ := yl x H3 y
    refine ⟨ι2, h2, e2, d, ⟨r3, r2.en.keep k3⟩, dn, hg.mono _ _ _ _ _ _ _ (fun e4 h4 q4 ι4 H4 σ4 k4 r4 => ?_) (fun x' h' q' ι' H' c dd k' r' xr => q' ι' H' σ2 c dd (((k1.trans k2).trans k3).trans k') r' xr) (ps i d e2 h2 hd p2)⟩
    have sh : Dx.Le (absD X.K X.mg z W ι H D') (absD X.K X.mg z W ι4 H4 D') := absD_shift (((k1.trans k2).trans k3).trans k4)
    exact liftS_of hb.mono r4 q4 ⟨fun e' h' p i5 H5 s5 k5 r5 => ⟨i5, h', e', ((k2.trans k3).trans k4).trans k5, r5, p⟩, sh.rt, sh.nx, fun e' h' p i5 H5 s5 k5 r5 => ⟨i5, h', e', ((k2.trans k3).trans k4).trans k5, r5, p⟩, sh.ex⟩
  · have ei : i = ds.length := by omega
    subst ei
    exact .inl ⟨io.1 (Nat.le_refl _), pd e2 h2 p2 ι2 H2 σ2 (k1.trans k2) r2⟩
end
end Dn


namespace Dn
open PySem PySem.Spec PyProof.Rows L2

/-! ### list comprehensions -/
def wipeE (e : En) : List Nat → En
  | [] => e
  | v :: vs => (wipeE e vs).set v none
theorem wipeE_set {α : Type} {e : List (Option α)} {i : Nat} {a : Option α} (w : List (Option α) → List Nat → List (Option α)) (h0 : ∀ e, w e [] = e) (h1 : ∀ e v vs, w e (v :: vs) = (w e vs).set v none) : ∀ vs : List Nat, i ∈ vs → w (e.set i a) vs = w e vs := by
  have len : ∀ vs e, (w e vs).length = e.length := fun vs => by
    induction vs with
    | nil => intro e; rw [h0]
    | cons v vs ih => intro e; rw [h1, List.length_set, ih]
  have get : ∀ vs e j, (w e vs)[j]? = if j ∈ vs ∧ j < e.length then some none else e[j]? := fun vs => by
    induction vs with
    | nil => intro e j; rw [h0]; simp
    | cons v vs ih =>
      intro e j
      rw [h1]
      by_cases hj : v = j
      · subst hj
        by_cases hl : v < e.length
        · rw [List.getElem?_set_self (by rw [len]; exact hl), if_pos ⟨List.mem_cons_self, hl⟩]
        · rw [List.getElem?_eq_none (by rw [List.length_set, len]; omega), if_neg (fun c => hl c.2), List.getElem?_eq_none (by omega)]
      · rw [List.getElem?_set_ne hj, ih]
        have : (j ∈ v :: vs) ↔ j ∈ vs := by
          rw [List.mem_cons]
          exact ⟨fun c => c.resolve_left (fun e => hj e.symm), .inr⟩
        simp only [this]
  intro vs hi
  apply List.ext_getElem?
  intro j
  rw [get, get, List.length_set]
  by_cases hj : j ∈ vs ∧ j < e.length
  · rw [if_pos hj, if_pos hj]
  · rw [if_neg hj, if_neg hj]
    by_cases hij : i = j
    · subst hij
      have hl : ¬ i < e.length := fun c => hj ⟨hi, c⟩
      rw [List.getElem?_eq_none (by rw [List.length_set]; omega), List.getElem?_eq_none (by omega)]
    · rw [List.getElem?_set_ne hij]
theorem wipe_set {σ : L2.St} {i : Nat} {a : Option V} {vs : List Nat} (h : i ∈ vs) : wipe (σ.set i a) vs = wipe σ vs := wipeE_set (fun s l => wipe s l) (fun _ => rfl) (fun _ _ _ => rfl) vs h
theorem wipe_idem {σ : L2.St} : ∀ {vs us : List Nat}, (∀ v ∈ vs, v ∈ us) → wipe (wipe σ vs) us = wipe σ us
  | [], _, _ => rfl
  | v :: vs, us, h => by
    show wipe ((wipe σ vs).set v none) us = _
    rw [wipe_set (h v List.mem_cons_self)]
    exact wipe_idem fun w hw => h w (List.mem_cons_of_mem _ hw)
theorem RE.wipe {K : PySem.W.Frag} {z : Zs} {ι : List Addr} {e : En} {H : Hp} {σ : L2.St} (r : RE K z ι e H σ) : ∀ vs, RE K z ι (wipeE e vs) H (L2.wipe σ vs)
  | [] => r
  | v :: vs => (RE.wipe r vs).unset v

/-- the targets of a comprehension: a name, a tuple of names -/
inductive CTg where
  | one (i : Nat)
  | many (is : List Nat)
def setAll : List Nat → List D → En → En
  | i :: is, d :: ds, e => setAll is ds (e.set i (some d))
  | _, _, e => e
/-- what the target makes of an item -/
def CTg.set : CTg → D → En → Option En
  | .one i, d, e => some (e.set i (some d))
  | .many is, .tup ds, e => if ds.length = is.length then some (setAll is ds e) else none
  | .many _, _, _ => none
def CTg.own : CTg → List Nat
  | .one i => [i]
  | .many is => is
def gNames : List Nat → TGs
  | [] => gNil
  | i :: is => gCons (gName i) (gNames is)
def CTg.tg (K : PySem.W.Frag) : CTg → TG
  | .one i => gName i
  | .many is => gTup K is.length (gNames is)
theorem names_run {K : PySem.W.Frag} {z : Zs} {ι : List Addr} {H : Hp} {own : List Nat} {Q : L2.St → Hp → Prop} {σ₀ : L2.St} : ∀ (is : List Nat) (xs : List V) (ds : List D) (e : En) (σ : L2.St), (∀ i ∈ is, i ∈ own) → xs.length = is.length → Dens K z ι H xs ds → RE K z ι e H σ → wipe σ own = wipe σ₀ own →
    (∀ σ', RE K z ι (setAll is ds e) H σ' → wipe σ' own = wipe σ₀ own → Q σ' H) → gNames is xs σ H Q
  | [], xs, ds, e, σ, _, hl, dn, re, hw, q => by
    cases xs with
    | nil =>
      cases dn
      exact ⟨rfl, q σ re hw⟩
    | cons _ _ => cases hl
  | i :: is, xs, ds, e, σ, hi, hl, dn, re, hw, q => by
    cases dn with
    | nil => cases hl
    | cons a b =>
      refine ⟨_, _, rfl, ?_⟩
      refine names_run is _ _ _ _ (fun j hj => hi j (List.mem_cons_of_mem _ hj)) (by simpa using hl) b (re.set i a) ?_ q
      rw [wipe_set (hi i List.mem_cons_self)]; exact hw
theorem ctg_run {K : PySem.W.Frag} {z : Zs} {ι : List Addr} {H : Hp} {Q : L2.St → Hp → Prop} {σ : L2.St} {c : CTg} {own : List Nat} {v : V} {d : D} {e e' : En} (hc : ∀ i ∈ c.own, i ∈ own) (dn : Den K z ι H v d) (re : RE K z ι e H σ) (hs : c.set d e = some e')
    (q : ∀ σ', RE K z ι e' H σ' → wipe σ' own = wipe σ own → Q σ' H) : c.tg K v σ H Q := by
  cases c with
  | one i =>
    injection hs with hs; subst hs
    exact q _ (re.set i dn) (wipe_set (hc i (by simp [CTg.own])))
  | many is =>
    cases d with
    | tup ds =>
      unfold CTg.set at hs
      dsimp only at hs
      split at hs
      · rename_i hl
        injection hs with hs; subst hs
        obtain ⟨p, xs, rfl, hp, hx⟩ := den_tup dn
        exact ⟨p, xs, rfl, hp, by rw [hx.length, hl], names_run is xs ds e σ hc (by rw [hx.length, hl]) hx re rfl q⟩
      · cases hs
    | _ => cases hs

/-- weaker than Kp: what data lean on -/
theorem Den.keep2 {K : PySem.W.Frag} {z : Zs} {ι ι' : List Addr} {H H' : Hp} (k : ι <+: ι') (t : ∀ p xs, SqT K H p xs → SqT K H' p xs) {v : V} {d : D} (q : Den K z ι H v d) : Den K z ι' H' v d := by
  refine Den.rec (motive_1 := fun v d _ => Den K z ι' H' v d) (motive_2 := fun vs ds _ => Dens K z ι' H' vs ds) .non .bl .int .str (fun h _ ih => .tup (t _ _ h) ih) (fun h _ ih => .lst h ih) (fun {p n} h => .ref ?_) .adr .nil (fun _ _ a b => .cons a b) q
  obtain ⟨r, e⟩ := k
  rw [← e]
  obtain ⟨hl, _⟩ := List.getElem?_eq_some_iff.mp h
  rw [List.getElem?_append_left hl]
  exact h
theorem Dens.keep2 {K : PySem.W.Frag} {z : Zs} {ι ι' : List Addr} {H H' : Hp} (k : ι <+: ι') (t : ∀ p xs, SqT K H p xs → SqT K H' p xs) : ∀ {vs : List V} {ds : List D}, Dens K z ι H vs ds → Dens K z ι' H' vs ds
  | _, _, .nil => .nil
  | _, _, .cons a b => .cons (a.keep2 k t) (Dens.keep2 k t b)
section
variable {K : PySem.W.Frag} {z : Zs} {ι ι' : List Addr} {h : Hh} {H H' : Hp} {A : Addr} {xs ys : List V}
theorem notTup (e : H A = some (.lst xs)) : ∀ ys, ¬ Rd H A (.tup ys) := fun ys q => by
  rcases q with q | ⟨u, q⟩ <;> rw [e] at q <;> cases q
/-- a list that is tracked and not owned is written: seen from where it was not yet -/
theorem Kp.poke (k : Kp K ι ι' H H') (h0 : H A = none) (e : H' A = some (.lst xs)) (o : HO) : Kp K ι ι' H (upd H' A o) :=
  ⟨k.pre, fun a u ha q => by rw [upd_ne (ne_of_none q h0)]; exact k.frame a u ha q, fun p ws q => sqT_upd (notTup e) (k.tup p ws q), k.new⟩
theorem RH.poke (r : RH K z ι h H) (hz : z.H A = none) (hA : A ∉ ι) (e : H A = some (.lst xs)) (o : HO) : RH K z ι h (upd H A o) := by
  refine ⟨r.base.poke hz e o, r.len, r.nd, fun n u hn => ?_⟩
  obtain ⟨q, h1, h2⟩ := r.obj n u hn
  refine ⟨q, h1, ?_⟩
  have hne : q ≠ A := fun c => hA (c ▸ List.mem_of_getElem? h1)
  cases u with
  | lst ds =>
    obtain ⟨ws, e1, e2⟩ := h2
    exact ⟨ws, by rw [upd_ne hne]; exact e1, e2.keep2 (List.prefix_refl _) fun p ws q => sqT_upd (notTup e) q⟩
/-- .. and owned from now on -/
theorem Kp.adopt (k : Kp K ι ι' H H') (h0 : H A = none) : Kp K ι (ι' ++ [A]) H H' :=
  ⟨k.pre.trans (List.prefix_append _ _), k.frame, k.tup, fun p hp => by
    rcases List.mem_append.mp hp with m | m
    · exact k.new p m
    · rw [List.mem_singleton] at m; subst m; exact .inr h0⟩
theorem RH.adopt {ds : List D} (r : RH K z ι h H) (hz : z.H A = none) (hA : A ∉ ι) (e : H A = some (.lst xs)) (q : Dens K z ι H xs ds) : RH K z (ι ++ [A]) (h ++ [.lst ds]) H := by
  have pre : ι <+: ι ++ [A] := List.prefix_append _ _
  refine ⟨r.base.adopt hz, by rw [List.length_append, List.length_append, r.len]; rfl, ?_, fun n u hn => ?_⟩
  · rw [List.nodup_append]
    exact ⟨r.nd, by simp, fun a ha b hb => by rw [List.mem_singleton] at hb; subst hb; exact fun c => hA (c ▸ ha)⟩
  · by_cases hl : n < h.length
    · rw [List.getElem?_append_left hl] at hn
      obtain ⟨q', h1, h2⟩ := r.obj n u hn
      refine ⟨q', by rw [List.getElem?_append_left (by rw [r.len]; exact hl)]; exact h1, ?_⟩
      cases u with
      | lst ds =>
        obtain ⟨ws, e1, e2⟩ := h2
        exact ⟨ws, e1, e2.keep2 pre fun _ _ q => q⟩
    · have hl2 : n = h.length := by
        have := (List.getElem?_eq_some_iff.mp hn).1
        rw [List.length_append] at this
        simp at this; omega
      subst hl2
      rw [List.getElem?_append_right (Nat.le_refl _), Nat.sub_self] at hn
      injection hn with hn
      subst hn
      exact ⟨A, by rw [List.getElem?_append_right (by rw [r.len]; exact Nat.le_refl _), r.len, Nat.sub_self]; rfl, xs, e, q.keep2 pre fun _ _ q => q⟩
end

def NoW : WX := fun _ _ _ _ => False
def noX : XK' := fun _ _ => False
/-- no test, one test -/
def tYesD : dT := fun _ h Q _ => Q true h
def dLc (src : dSrc) (c : CTg) (own : List Nat) (tt : dT) (te : dE) : dE := fun e h Q E => src e h (fun ds G h1 => ∃ P : Nat → List D → Hh → Prop, P 0 [] h1 ∧ (∀ i acc h', i ≤ ds.length → P i acc h' → G h') ∧
  (∀ (i : Nat) (x : D) acc h', ds[i]? = some x → P i acc h' → ∃ e2, c.set x (wipeE e own) = some e2 ∧ tt e2 h' (fun b h3 => match b with
    | true => te e2 h3 (fun y h4 => acc.length < sizeLine ∧ P (i + 1) (acc ++ [y]) h4) noX
    | false => P (i + 1) acc h3) noX) ∧ (∀ acc h', P ds.length acc h' → Q (.ref h'.length) (h' ++ [.lst acc]))) E
structure DTs (X : Cx) (z : Zs) (W : WX) (ifs : List Expr) (t : dT) : Prop where
  run : PTs X ifs (liftT X.K X.mg z W t)
  mono : Mono t
theorem pts_imp {X : Cx} {a : List Expr} {t t' : TT} (h : PTs X a t) (i : ∀ σ H Q, t' σ H Q → t σ H Q) : PTs X a t' := ⟨fun pins s σ H Q I w => h.run pins s σ H Q I (i σ H Q w)⟩
theorem dts_nil {X : Cx} {z : Zs} {W : WX} : DTs X z W [] tYesD := ⟨pts_imp pts_nil fun σ H Q ⟨ι, h, e, r, q⟩ => q ι H Kp.refl r, fun _ _ _ _ _ _ hQ _ q => hQ _ _ q⟩
theorem dts_one {X : Cx} {z : Zs} {W : WX} {c : Expr} {t : dT} (h : DT X z W c t) : DTs X z W [c] t := ⟨pts_one h.run, h.mono⟩
section
variable {X : Cx} {z : Zs} {W : WX} {elt tg iter : Expr} {ifs : List Expr} {src : dSrc} {c : CTg} {own : List (Str × Nat)} {tt : dT} {te : dE} {scope : Scope} {pos : Pos}
theorem mono_lc {o : List Nat} (mi : MonoI src) : Mono (dLc src c o tt te) := fun e h _ _ _ _ hQ hE q => mi _ _ _ _ _ _ (fun ds G h1 ⟨P, p0, pg, ps, pd⟩ => ⟨P, p0, pg, ps, fun acc h' p => hQ _ _ (pd acc h' p)⟩) hE q
theorem lc_read (hi : DI X z W tg iter src) (hc : ∀ i ∈ c.own, i ∈ own.map (·.2)) (mt : Mono tt) (me : Mono te) {σ : L2.St} {H : Hp} {Q : VK} (hh : lift X.K X.mg z W (dLc src c (own.map (·.2)) tt te) σ H Q) :
    tLc (liftI X.K X.mg z W src) (c.tg X.K) (liftT X.K X.mg z NoW tt) (lift X.K X.mg z NoW te) (own.map (·.2)) σ H Q := by
  obtain ⟨ι, h, e, r, q⟩ := hh
  generalize hvs : own.map (·.2) = vs at hc q ⊢
  refine ⟨ι, h, e, r, hi.mono _ _ _ _ _ _ (fun ds G h1 w ι1 H1 J k1 r1 _ it => ?_) (fun _ _ q => q) q⟩
  obtain ⟨P, p0, pg, ps, pd⟩ := w
  intro A hA
  have hz : z.H A = none := by
    cases ez : z.H A with
    | none => rfl
    | some o =>
      by_cases hm : A ∈ z.ι
      · obtain ⟨u, eu⟩ := r1.hp.tracked (r1.hp.base.pre.subset hm)
        rw [hA] at eu; cases eu
      · have := r1.hp.base.frame A o hm ez
        rw [hA] at this; cases this
  have hA1 : A ∉ ι1 := r1.hp.notown hA
  have start : RH X.K z ι1 h1 (upd H1 A (.lst [])) := r1.hp.laid hA _
  refine ⟨fun i m H' => m = ds.length - i ∧ i ≤ ds.length ∧ ∃ ι' h' acc xs, Kp X.K ι1 ι' H1 H' ∧ RH X.K z ι' h' H' ∧ H' A = some (.lst xs) ∧ A ∉ ι' ∧ Dens X.K z ι' H' xs acc ∧ P i acc h',
    ⟨ds.length, by simp, Nat.zero_le _, ι1, h1, [], [], Kp.laid hA _, start, upd_same, hA1, .nil, p0⟩, ?_⟩
  rintro i m H2 ⟨rfl, hi2, ι2, h2, acc, xs, k2, r2, e2, hA2, dn2, p2⟩
  have io := it ι2 h2 H2 k2 r2 (pg i acc h2 hi2 p2) i
  by_cases hlt : i < ds.length
  · obtain ⟨go, yl⟩ := io.2 hlt
    refine .inr ⟨go, fun H' => ∃ ι' h' acc xs, Kp X.K ι1 ι' H1 H' ∧ RH X.K z ι' h' H' ∧ H' A = some (.lst xs) ∧ A ∉ ι' ∧ Dens X.K z ι' H' xs acc ∧ P (i + 1) acc h', fun H' w => ⟨ds.length - (i + 1), by omega, rfl, hlt, w⟩, fun x H3 y => ?_⟩
    obtain ⟨d, hd, k3, r3, dn⟩ := yl x H3 y
    obtain ⟨e4, he4, q4⟩ := ps i d acc h2 hd p2
    have re3 : RE X.K z ι2 (wipeE e vs) H3 (wipe σ vs) := ((r1.en.keep k2).keep k3).wipe vs
    have eA3 : H3 A = some (.lst xs) := k3.frame A _ hA2 e2
    refine ctg_run hc dn re3 he4 fun σ' re' hw => ⟨by rw [hw]; exact wipe_idem fun _ q => q, ?_⟩
    refine liftT_of mt ⟨r3, re'⟩ q4 (fun b h5 ι5 H5 q5 k5 r5 => ?_) (fun _ _ q => q.elim)
    have hA5 : A ∉ ι5 := fun hm => by
      rcases k5.new A hm with w | w
      · exact hA2 w
      · rw [eA3] at w; cases w
    have eA5 : H5 A = some (.lst xs) := k5.frame A _ hA2 eA3
    have dn5 := (dn2.keep k3).keep k5
    cases b with
    | false => exact iteF ⟨ι5, h5, acc, xs, (k2.trans k3).trans k5, r5.hp, eA5, hA5, dn5, q5⟩
    | true =>
      refine iteT (lift_of me r5 q5 (fun y' h6 ι6 H6 v q6 k6 r6 d6 => ?_) (fun _ _ q => q.elim))
      have eA6 : H6 A = some (.lst xs) := k6.frame A _ hA5 eA5
      have hA6 : A ∉ ι6 := fun hm => by
        rcases k6.new A hm with w | w
        · exact hA5 w
        · rw [eA5] at w; cases w
      have dn6 := dn5.keep k6
      have tk : ∀ p ws, SqT X.K H6 p ws → SqT X.K (upd H6 A (.lst (xs ++ [v]))) p ws := fun p ws q => sqT_upd (notTup eA6) q
      refine ⟨xs, eA6, by rw [dn6.length]; exact q6.1, ι6, h6, acc ++ [y'], xs ++ [v], (((k2.trans k3).trans k5).trans k6).poke hA eA6 _, r6.hp.poke hz hA6 eA6 _, upd_same, hA6, ?_, q6.2⟩
      exact (dn6.append (.cons d6 .nil)).keep2 (List.prefix_refl _) tk
  · have ei : i = ds.length := by omega
    subst ei
    refine .inl ⟨io.1 (Nat.le_refl _), ?_⟩
    have ka : Kp X.K ι1 (ι2 ++ [A]) H1 H2 := k2.adopt hA
    refine pd acc h2 p2 (ι2 ++ [A]) H2 (.ref A) (k1.trans ka) ⟨r2.adopt hz hA2 e2 dn2, r1.en.keep ka⟩ (den_new r2)
theorem de_lc (hc : X.calm = true) (hN : X.N.Nodup) (hi : DI X z W tg iter src) (ok : BlkOk X.N X.env.scope scope own) (ho : ∀ i ∈ c.own, i ∈ own.map (·.2))
    (hg : ∀ (s : Shared) (H : Hp) (C : Addr) (cl : List (Str × Addr)) (fp : List Addr), PG (X.blk s H scope (compEnvC scope cl C X.env) fp) tg (c.tg X.K))
    (ht : ∀ (s : Shared) (H : Hp) (C : Addr) (cl : List (Str × Addr)) (fp : List Addr), DTs (X.blk s H scope (compEnvC scope cl C X.env) fp) z NoW ifs tt)
    (he : ∀ (s : Shared) (H : Hp) (C : Addr) (cl : List (Str × Addr)) (fp : List Addr), DE (X.blk s H scope (compEnvC scope cl C X.env) fp) z NoW elt te)
    (hs : ∀ x, foldedSetIterable iter X.env x = pure x) :
    DE X z W (.ListComp elt [⟨tg, iter, ifs, 0⟩] scope pos) (dLc src c (own.map (·.2)) tt te) :=
  ⟨pe_imp (pe_lc hc hN hi.run ok hg (fun s H C cl fp => (ht s H C cl fp).run) (fun s H C cl fp => (he s H C cl fp).run) hs) fun _ _ _ hh => lc_read hi ho (ht X.s_0 X.H_0 0 [] []).mono (he X.s_0 X.H_0 0 [] []).mono hh, mono_lc hi.mono⟩
/-- name = [..] -/
theorem ds_setLc (i : Nat) {y : Str} {py spos : Pos} (hc : X.calm = true) (hN : X.N.Nodup) (hy : X.N[i]? = some y) (hyl : X.env.scope.names.lookup y = some .local)
    (hsw : swapsWith (.ListComp elt [⟨tg, iter, ifs, 0⟩] scope pos) (some (.Name y py)) spos.line X.env = pure true) (hi : DI X z W tg iter src) (ok : BlkOk X.N X.env.scope scope own) (ho : ∀ i ∈ c.own, i ∈ own.map (·.2))
    (hg : ∀ (s : Shared) (H : Hp) (C : Addr) (cl : List (Str × Addr)) (fp : List Addr), PG (X.blk s H scope (compEnvC scope cl C X.env) fp) tg (c.tg X.K))
    (ht : ∀ (s : Shared) (H : Hp) (C : Addr) (cl : List (Str × Addr)) (fp : List Addr), DTs (X.blk s H scope (compEnvC scope cl C X.env) fp) z NoW ifs tt)
    (he : ∀ (s : Shared) (H : Hp) (C : Addr) (cl : List (Str × Addr)) (fp : List Addr), DE (X.blk s H scope (compEnvC scope cl C X.env) fp) z NoW elt te)
    (hs : ∀ x, foldedSetIterable iter X.env x = pure x) :
    DS X z W (.Assign [.Name y py] (.ListComp elt [⟨tg, iter, ifs, 0⟩] scope pos) spos) (sAsg (dLc src c (own.map (·.2)) tt te) (gN i)) := by
  refine ⟨ps_imp (ps_setLc (tt := liftT X.K X.mg z NoW tt) (te := lift X.K X.mg z NoW te) hc hN hy hyl hsw hi.run ok hg (fun s H C cl fp => (ht s H C cl fp).run) (fun s H C cl fp => (he s H C cl fp).run) hs) fun D' σ H hh => ?_, mono_asg (mono_lc hi.mono) fun _ _ _ _ _ _ _ hQ _ q => hQ _ _ q⟩
  obtain ⟨ι, h, e, r, q⟩ := hh
  refine lc_read hi ho (ht X.s_0 X.H_0 0 [] []).mono (he X.s_0 X.H_0 0 [] []).mono ⟨ι, h, e, r, (mono_lc hi.mono) _ _ _ _ _ _ (fun d h1 q1 ι1 H1 v k1 r1 d1 => ?_) (ex_at r) q⟩
  exact q1 ι1 H1 _ k1 ⟨r1.hp, r1.en.set i d1⟩
end
end Dn


namespace Dn
open PySem PySem.Spec PyProof.Rows L2

/-! ### plain data: no list, no address -/
mutual
def pureD : D → Bool
  | .tup ds => pureDs ds
  | .lst _ => false
  | .ref _ => false
  | .adr _ => false
  | .non => true
  | .bl _ => true
  | .int _ => true
  | .str _ => true
def pureDs : List D → Bool
  | [] => true
  | d :: ds => pureD d && pureDs ds
end
def pureX (x : Ex) : Bool := pureDs (x.fld.map (·.2))
section
variable {K : PySem.W.Frag} {z z' : Zs} {ι ι' : List Addr} {H : Hp}
mutual
theorem den_pure : ∀ (d : D) (v : V), pureD d = true → Den K z ι H v d → Den K z' ι' H v d
  | .non, _, _, q => by cases q; exact .non
  | .bl b, _, _, q => by cases q; exact .bl b
  | .int b, _, _, q => by cases q; exact .int b
  | .str b, _, _, q => by cases q; exact .str b
  | .tup ds, _, p, q => by
    unfold pureD at p
    obtain ⟨a, xs, rfl, ha, hx⟩ := den_tup q
    exact .tup ha (dens_pure ds xs p hx)
  | .lst _, _, p, _ => by unfold pureD at p; cases p
  | .ref _, _, p, _ => by unfold pureD at p; cases p
  | .adr _, _, p, _ => by unfold pureD at p; cases p
theorem dens_pure : ∀ (ds : List D) (vs : List V), pureDs ds = true → Dens K z ι H vs ds → Dens K z' ι' H vs ds
  | [], _, _, q => by cases q; exact .nil
  | d :: ds, _, p, q => by
    unfold pureDs at p
    rw [Bool.and_eq_true] at p
    cases q with
    | cons a b => exact .cons (den_pure d _ p.1 a) (dens_pure ds _ p.2 b)
end
end

/-! ### an argument as the callee sees it: an owned list as a list that stands still -/
mutual
inductive View (h : Hh) (ok : Nat → Prop) : D → D → Prop
  | pure {d : D} : pureD d = true → View h ok d d
  | own {n : Nat} {ds es : List D} : h[n]? = some (.lst ds) → ok n → Views h ok ds es → View h ok (.ref n) (.lst es)
  | lst {ds es : List D} : Views h ok ds es → View h ok (.lst ds) (.lst es)
  | tup {ds es : List D} : Views h ok ds es → View h ok (.tup ds) (.tup es)
inductive Views (h : Hh) (ok : Nat → Prop) : List D → List D → Prop
  | nil : Views h ok [] []
  | cons {d e : D} {ds es : List D} : View h ok d e → Views h ok ds es → Views h ok (d :: ds) (e :: es)
end
theorem Views.length {h : Hh} {ok : Nat → Prop} : ∀ {ds es : List D}, Views h ok ds es → ds.length = es.length
  | _, _, .nil => rfl
  | _, _, .cons _ b => by rw [List.length_cons, List.length_cons, Views.length b]
theorem Views.pures {h : Hh} {ok : Nat → Prop} : ∀ {ds : List D}, pureDs ds = true → Views h ok ds ds
  | [], _ => .nil
  | d :: ds, p => by
    unfold pureDs at p
    rw [Bool.and_eq_true] at p
    exact .cons (.pure p.1) (Views.pures p.2)
section
variable {K : PySem.W.Frag} {z : Zs} {ι : List Addr} {h : Hh} {H : Hp} {ok : Nat → Prop} {own : List Addr}
mutual
theorem View.den (r : RH K z ι h H) (ho : ∀ (n : Nat) (p : Addr), ok n → ι[n]? = some p → p ∉ own) (hz : ∀ p ∈ own, p ∈ ι) : ∀ {d e : D} {v : V}, View h ok d e → Den K z ι H v d → Den K ⟨own, H⟩ own H v e
  | _, _, _, .pure p, q => den_pure _ _ p q
  | _, _, _, .own hn hk vs, q => by
    obtain ⟨p, xs, rfl, hi, hp, hx, _⟩ := r.list q hn
    exact .lst (.inl ⟨.inl hp, ho _ _ hk hi⟩) (Views.dens r ho hz vs hx)
  | _, _, _, .lst vs, q => by
    cases q with
    | lst hp hx =>
      refine .lst ?_ (Views.dens r ho hz vs hx)
      rcases hp with ⟨hp, hm⟩ | hp
      · refine .inl ⟨?_, fun hc => ?_⟩
        · rcases hp with hp | ⟨u, hp⟩
          · exact .inl (r.base.frame _ _ hm hp)
          · exact .inr ⟨u, r.base.frame _ _ hm hp⟩
        · rcases r.base.new _ (hz _ hc) with w | w
          · exact hm w
          · rcases hp with hp | ⟨u, hp⟩ <;> rw [w] at hp <;> cases hp
      · exact .inr hp
  | _, _, _, .tup vs, q => by
    obtain ⟨p, xs, rfl, hp, hx⟩ := den_tup q
    exact .tup hp (Views.dens r ho hz vs hx)
theorem Views.dens (r : RH K z ι h H) (ho : ∀ (n : Nat) (p : Addr), ok n → ι[n]? = some p → p ∉ own) (hz : ∀ p ∈ own, p ∈ ι) : ∀ {ds es : List D} {vs : List V}, Views h ok ds es → Dens K z ι H vs ds → Dens K ⟨own, H⟩ own H vs es
  | _, _, _, .nil, .nil => .nil
  | _, _, _, .cons a b, .cons c d => .cons (View.den r ho hz a c) (Views.dens r ho hz b d)
end
end
end Dn


namespace Dn
open PySem PySem.Spec PyProof.Rows L2

/-! ### what a def gives back -/
inductive Out where
  | val (d : D)
  | new (es : List D)
  | drw (c : List Int) (a z x : Int)
/-- the state of the draws: the cells, the place, the number drawn from, the seed -/
structure DrS where
  c : List Int
  a : Int
  z : Int
  x : Int
def drV (q : Addr) (s : DrS) : List V := [.ref q, .int s.a, .int s.z, .int s.x]
def drD (m : Nat) (s : DrS) : List D := [.ref m, .int s.a, .int s.z, .int s.x]
def OutR (K : PySem.W.Frag) (H H' : Hp) (v : V) : Out → Prop
  | .val d => pureD d = true ∧ Den K ⟨[], H'⟩ [] H' v d
  | .new es => pureDs es = true ∧ ∃ p xs, v = .ref p ∧ H p = none ∧ H' p = some (.lst xs) ∧ Dens K ⟨[], H'⟩ [] H' xs es
  | .drw c a z x => ∃ p q, v = .ref p ∧ p ≠ q ∧ H p = none ∧ H q = none ∧ H' p = some (.lst (drV q ⟨c, a, z, x⟩)) ∧ H' q = some (.lst (c.map V.int))
def outPure : Out → Bool
  | .val d => pureD d
  | .new es => pureDs es
  | .drw .. => true
/-- what the caller has behind it -/
def outPost (Q : D → Hh → Prop) (h : Hh) : Out → Prop
  | .val d => Q d h
  | .new es => Q (.ref h.length) (h ++ [.lst es])
  | .drw c a z x => Q (.ref (h.length + 1)) ((h ++ [.lst (c.map .int)]) ++ [.lst (drD h.length ⟨c, a, z, x⟩)])
theorem outPost_mono {Q Q' : D → Hh → Prop} {h : Hh} {o : Out} (hQ : ∀ d h', Q d h' → Q' d h') (q : outPost Q h o) : outPost Q' h o := by
  cases o <;> exact hQ _ _ q
/-- what the def's body must reach -/
def outOk (P : Out → Prop) (d : D) (h : Hh) : Prop := match d with
  | .ref j => match h[j]? with
    | some (.lst es) => (pureDs es = true ∧ P (.new es)) ∨ ∃ m a z x c, es = [.ref m, .int a, .int z, .int x] ∧ m ≠ j ∧ h[m]? = some (.lst (c.map .int)) ∧ P (.drw c a z x)
    | none => False
  | d => pureD d = true ∧ P (.val d)
theorem outOk_mono {P P' : Out → Prop} {d : D} {h : Hh} (hP : ∀ o, P o → P' o) (q : outOk P d h) : outOk P' d h := by
  unfold outOk at q ⊢
  split at q
  · split at q
    · rcases q with q | ⟨m, a, z, x, c, e1, e2, e3, q⟩
      · exact .inl ⟨q.1, hP _ q.2⟩
      · exact .inr ⟨m, a, z, x, c, e1, e2, e3, hP _ q⟩
    · exact q.elim
  · exact ⟨q.1, hP _ q.2⟩
theorem outOk_val {P : Out → Prop} {d : D} {h : Hh} (p : pureD d = true) (q : P (.val d)) : outOk P d h := by
  unfold outOk
  cases d with
  | ref j => unfold pureD at p; cases p
  | _ => exact ⟨p, q⟩

section
variable {K : PySem.W.Frag} {z : Zs} {ι : List Addr} {h : Hh} {e : En} {H H' : Hp} {σ : L2.St} {p : Addr}
theorem dens_ints : ∀ {xs : List V} {c : List Int}, Dens K z ι H xs (c.map .int) → xs = c.map V.int
  | [], [], _ => rfl
  | [], _ :: _, q => by cases q
  | _ :: _, [], q => by cases q
  | x :: xs, i :: c, q => by
    cases q with
    | cons a b => rw [den_int a, dens_ints b]; rfl
theorem ints_dens : ∀ (c : List Int), Dens K z ι H (c.map V.int) (c.map .int)
  | [] => .nil
  | i :: c => .cons (.int i) (ints_dens c)
theorem same_sqT (s : Same H H') {p : Addr} {xs : List V} (q : SqT K H p xs) : SqT K H' p xs := by
  rcases q with (q | ⟨u, q⟩) | q
  · exact .inl (.inl (s _ _ q))
  · exact .inl (.inr ⟨u, s _ _ q⟩)
  · exact .inr q
theorem Kp.same (s : Same H H') : Kp K ι ι H H' := ⟨List.prefix_refl _, fun a u _ q => s a u q, fun _ _ q => same_sqT s q, fun _ q => .inl q⟩
theorem RH.same (r : RH K z ι h H) (s : Same H H') : RH K z ι h H' := by
  refine ⟨r.base.trans (Kp.same s), r.len, r.nd, fun n u hn => ?_⟩
  obtain ⟨q, h1, h2⟩ := r.obj n u hn
  refine ⟨q, h1, ?_⟩
  cases u with
  | lst ds => obtain ⟨xs, e1, e2⟩ := h2; exact ⟨xs, s _ _ e1, e2.keep (Kp.same s)⟩
theorem RH.zfree (r : RH K z ι h H) (hA : H p = none) : z.H p = none := by
  cases ez : z.H p with
  | none => rfl
  | some o =>
    by_cases hm : p ∈ z.ι
    · obtain ⟨u, eu⟩ := r.tracked (r.base.pre.subset hm)
      rw [hA] at eu; cases eu
    · have := r.base.frame p o hm ez
      rw [hA] at this; cases this
/-- one owned list has changed -/
theorem RH.swap {n : Nat} {xs : List V} {ds : List D} (r : RH K z ι h H) (hn : ι[n]? = some p) (hl : n < h.length) (fr : ∀ a u, a ≠ p → H a = some u → H' a = some u) (hp : H' p = some (.lst xs)) (q : Dens K z ι H xs ds) :
    RH K z ι (h.set n (.lst ds)) H' ∧ Kp K ι ι H H' := by
  have hm : p ∈ ι := List.mem_of_getElem? hn
  have k : Kp K ι ι H H' := by
    refine ⟨List.prefix_refl _, fun a u ha w => fr a u (fun c => ha (by rw [c]; exact hm)) w, fun a ws w => ?_, fun _ w => .inl w⟩
    rcases w with w | w
    · have ha : a ≠ p := fun c => r.notup (xs := []) hm ws (by rw [← c]; exact w)
      rcases w with w | ⟨u, w⟩
      · exact .inl (.inl (fr _ _ ha w))
      · exact .inl (.inr ⟨u, fr _ _ ha w⟩)
    · exact .inr w
  refine ⟨⟨r.base.trans k, by rw [List.length_set]; exact r.len, r.nd, fun m u hu => ?_⟩, k⟩
  by_cases hmn : n = m
  · subst hmn
    rw [List.getElem?_set_self hl] at hu
    injection hu with hu; subst hu
    exact ⟨p, hn, xs, hp, q.keep k⟩
  · rw [List.getElem?_set_ne hmn] at hu
    obtain ⟨q', h1, h2⟩ := r.obj m u hu
    have hne : q' ≠ p := fun c => by
      subst c
      obtain ⟨a1, b1⟩ := List.getElem?_eq_some_iff.mp hn
      obtain ⟨a2, b2⟩ := List.getElem?_eq_some_iff.mp h1
      exact hmn ((List.getElem_inj r.nd).mp (b1.trans b2.symm))
    refine ⟨q', h1, ?_⟩
    cases u with
    | lst ds =>
      obtain ⟨ys, e1, e2⟩ := h2
      exact ⟨ys, fr _ _ hne e1, e2.keep k⟩
theorem free_back {ι1 : List Addr} {H1 : Hp} {q : Addr} (k : Kp K ι ι1 H H1) (hq : H1 q = none) (hn : q ∉ ι1) : H q = none := by
  cases eq : H q with
  | none => rfl
  | some u =>
    by_cases hm : q ∈ ι
    · exact absurd (k.pre.subset hm) hn
    · rw [k.frame q u hm eq] at hq; cases hq
/-- what a call has given back, in the caller's state: H ahead of the call, H' behind it -/
theorem out_here {Q : VK} {v : V} {o : Out} {H0 : Hp} {ι0 : List Addr} (k : Kp K ι0 ι H0 H') (kc : ∀ q, H q = none → q ∉ ι ∧ H0 q = none ∧ z.H q = none) (r : R K z ι h e H' σ) (q : OutR K H H' v o) (w : outPost (PEq K z ι0 e σ H0 Q) h o) : Q v H' := by
  cases o with
  | val d => exact w ι H' v k r (den_pure d v q.1 q.2)
  | new es =>
    obtain ⟨pe, p, xs, rfl, hp, hp', dn⟩ := q
    obtain ⟨n1, n2, n3⟩ := kc p hp
    have ka : Kp K ι (ι ++ [p]) H' H' → True := fun _ => trivial
    have dn' : Dens K z ι H' xs es := dens_pure es xs pe dn
    refine w (ι ++ [p]) H' _ (k.adopt n2) ⟨r.hp.adopt n3 n1 hp' dn', ?_⟩ (den_new r.hp)
    exact ⟨r.en.len, fun i d c => let ⟨u, u1, u2⟩ := r.en.get i d c; ⟨u, u1, u2.keep2 (List.prefix_append _ _) fun _ _ c => c⟩⟩
  | drw c a zz x =>
    obtain ⟨p, p', rfl, hne, hp, hq, hp', hq'⟩ := q
    obtain ⟨n1, n2, n3⟩ := kc p' hq
    obtain ⟨m1, m2, m3⟩ := kc p hp
    have r1 := r.hp.adopt n3 n1 hq' (ints_dens c)
    have hpn : p ∉ ι ++ [p'] := fun c => by
      rcases List.mem_append.mp c with c | c
      · exact m1 c
      · rw [List.mem_singleton] at c; exact hne c
    have dd : Dens K z (ι ++ [p']) H' (drV p' ⟨c, a, zz, x⟩) (drD h.length ⟨c, a, zz, x⟩) := .cons (den_new r.hp) (.cons (.int _) (.cons (.int _) (.cons (.int _) .nil)))
    have r2 := r1.adopt m3 hpn hp' dd
    have hl : (h ++ [O.lst (c.map .int)]).length = h.length + 1 := by simp
    refine w ((ι ++ [p']) ++ [p]) H' _ ((k.adopt n2).adopt m2) ⟨r2, ?_⟩ ?_
    · exact ⟨r.en.len, fun i d c => let ⟨u, u1, u2⟩ := r.en.get i d c; ⟨u, u1, u2.keep2 ((List.prefix_append _ _).trans (List.prefix_append _ _)) fun _ _ c => c⟩⟩
    · have := den_new (p := p) (H' := H') r1
      rw [hl] at this
      exact this
/-- what a body has reached, as the caller is to have it -/
theorem ok_out {P : Out → Prop} {d : D} {v : V} {ι0 : List Addr} {H0 : Hp} (k : Kp K ι0 ι H0 H') (k0 : ∀ j q, ι[j]? = some q → q ∈ ι0 → ∀ ds, h[j]? = some (.lst ds) → d ≠ .ref j ∧ ∀ i, d = .ref i → ∀ a zz x, h[i]? ≠ some (.lst [.ref j, .int a, .int zz, .int x])) (r : RH K z ι h H') (dn : Den K z ι H' v d) (q : outOk P d h) :
    ∃ o, P o ∧ OutR K H0 H' v o := by
  unfold outOk at q
  split at q
  · rename_i j
    split at q
    · rename_i es hj
      obtain ⟨p, xs, rfl, hi, hp, hx, _⟩ := r.list dn hj
      have hp0 : H0 p = none := by
        rcases k.new p (List.mem_of_getElem? hi) with c | c
        · exact absurd rfl (k0 j p hi c es hj).1
        · exact c
      rcases q with q | ⟨m, a, zz, x, c, e1, e2, e3, q⟩
      · exact ⟨_, q.2, q.1, p, xs, rfl, hp0, hp, dens_pure es xs q.1 hx⟩
      · subst e1
        cases hx with
        | cons d1 hx => cases hx with
          | cons d2 hx => cases hx with
            | cons d3 hx => cases hx with
              | cons d4 hx =>
                cases hx
                obtain ⟨p2, ys, e4, hi2, hp2, hx2, _⟩ := r.list d1 e3
                subst e4
                rw [den_int d2, den_int d3, den_int d4] at hp
                rw [dens_ints hx2] at hp2
                refine ⟨_, q, p, p2, rfl, fun c => ?_, hp0, ?_, hp, hp2⟩
                · subst c
                  obtain ⟨a1, b1⟩ := List.getElem?_eq_some_iff.mp hi
                  obtain ⟨a2, b2⟩ := List.getElem?_eq_some_iff.mp hi2
                  exact e2 ((List.getElem_inj r.nd).mp (b2.trans b1.symm))
                · rcases k.new p2 (List.mem_of_getElem? hi2) with c | c
                  · exact absurd hj ((k0 m p2 hi2 c _ e3).2 j rfl a zz x)
                  · exact c
    · exact q.elim
  · rename_i hd
    exact ⟨_, q.2, q.1, den_pure _ _ q.1 dn⟩
end

/-! ### a def over plain data -/
structure Spc (α : Type) where
  pre : α → List D → Prop
  res : α → Out → Prop
  exc : α → Ex → Prop
def spP {α : Type} (K : PySem.W.Frag) (mg : Str → Option Value) (g : Spc α) : Sp := fun vs H Q E => ∃ x ds, Dens K ⟨[], H⟩ [] H vs ds ∧ g.pre x ds ∧ (∀ o v H', g.res x o → Same H H' → OutR K H H' v o → Q v H') ∧
  (∀ ex cls dd H', g.exc x ex → pureX ex = true → Same H H' → ExR K mg ⟨[], H'⟩ [] H' cls dd ex → E cls dd H')
def endP {α : Type} (g : Spc α) (x : α) : Dx where
  nx := fun _ h => outOk (g.res x) .non h
  rt := fun d h => outOk (g.res x) d h
  bk := fun _ _ => False
  ct := fun _ _ => False
  ex := fun ex _ _ => g.exc x ex ∧ pureX ex = true
/-- the slots at the entry -/
def startE (n : Nat) (ds : List D) : En := ds.map some ++ List.replicate (n - ds.length) none
theorem start_re {K : PySem.W.Frag} {z : Zs} {ι : List Addr} {H : Hp} {vs : List V} {ds : List D} {N : List Str} (q : Dens K z ι H vs ds) : RE K z ι (startE N.length ds) H (L2.start N vs) := by
  refine ⟨by unfold startE L2.start; simp [q.length], fun i d c => ?_⟩
  unfold startE at c
  unfold L2.start
  by_cases hi : i < ds.length
  · rw [List.getElem?_append_left (by simpa using hi), List.getElem?_map] at c
    cases ed : ds[i]? with
    | none => rw [ed] at c; cases c
    | some d' =>
      rw [ed] at c
      injection c with c; injection c with c; subst c
      obtain ⟨v, h1, h2⟩ := q.get ed
      exact ⟨v, by rw [List.getElem?_append_left (by rw [List.length_map, q.length]; exact hi), List.getElem?_map, h1]; rfl, h2⟩
  · rw [List.getElem?_append_right (by simpa using hi), List.getElem?_replicate] at c
    split at c <;> cases c
theorem exR_pure {K : PySem.W.Frag} {mg : Str → Option Value} {z z' : Zs} {ι ι' : List Addr} {H : Hp} {cls : Value} {dd : Option Addr} {x : Ex} (p : pureX x = true) (q : ExR K mg z ι H cls dd x) : ExR K mg z' ι' H cls dd x := by
  obtain ⟨a, b⟩ := q
  refine ⟨a, ?_⟩
  rcases b with b | ⟨d, fs, b0, b1, b2, b3, b4⟩
  · exact .inl b
  · exact .inr ⟨d, fs, b0, b1, b2, b3, dens_pure _ _ p b4⟩
theorem kp_same {K : PySem.W.Frag} {ι' : List Addr} {H H' : Hp} (k : Kp K [] ι' H H') : Same H H' := fun a o q => k.frame a o (by simp) q
abbrev WE0 (E : XK) : WX := fun cls d _ H => E cls d H
section
variable {P : Program} {w : World} {K : PySem.W.Frag} {mg : Str → Option Value} {base : Heap}
theorem fnP {α : Type} {x qual : Str} {st : Stmt} {f : Addr} {fd : FuncData} {N ps : List Str} {k : Nat} (g : Spc α) (t : dS) (F : Fun K x qual st f fd) (S : FnScope N ps (defScope st)) (hlen : ∀ x ds, g.pre x ds → ds.length = ps.length)
    (hb : ∀ (cdv : Value) (A : Around) (outer : List Env) (s : Shared) (H : Hp) (E : XK), Room k (A.deeper (envOfC qual (defScope st) s.heap.objs.size f cdv)) →
      ∀ z, DSs (cxOf (L2.CX P w) P w K mg base N qual (defScope st) f cdv A outer s H E) z (WE0 E) (defBody st) t)
    (hw : ∀ x ds, g.pre x ds → t (endP g x) (startE N.length ds) []) : FnOk P w K mg base (L2.CX P w) (k + 1) f fd ps (spP K mg g) := by
  refine F.okX S (fun vs H Q E h => ?_) (fun cdv A outer s H vs Q E hr h => ?_)
  · obtain ⟨x, ds, dn, hp, _⟩ := h
    rw [dn.length]; exact hlen x ds hp
  · obtain ⟨x, ds, dn, hp, hq, he⟩ := h
    have b := hb cdv A outer s H E hr ⟨[], H⟩
    refine ⟨_, b.run, [], [], startE N.length ds, ⟨⟨Kp.refl, rfl, List.nodup_nil, fun n o c => by simp at c⟩, start_re dn⟩, b.mono _ _ _ _ ?_ (hw x ds hp)⟩
    have back : ∀ {ι' : List Addr} {h' : Hh} {H' : Hp} {v : V} {d : D}, Kp K [] ι' H H' → RH K ⟨[], H⟩ ι' h' H' → Den K ⟨[], H⟩ ι' H' v d → outOk (g.res x) d h' → Q v H' := fun {ι' h' H' v d} k r dn q => by
      obtain ⟨o, ho, hr⟩ := ok_out k (fun j q _ c => by simp at c) r dn q
      exact hq o v H' ho (kp_same k) hr
    refine ⟨fun e' h' q ι' H' σ' k r => back k r.hp .non q, fun d h' q ι' H' v k r dn => back k r dn q, fun _ _ q => q.elim, fun _ _ q => q.elim, fun ex e' h' q ι' H' σ' cls dd k r xr => ?_⟩
    exact he ex cls dd H' q.1 q.2 (kp_same k) (exR_pure q.2 xr)
end
/-- the call of such a def -/
def dCallP {α : Type} (g : Spc α) (ta : dA) : dE := fun e h Q E => ta e h (fun ds h1 => ∃ x es, Views h1 (fun _ => True) ds es ∧ g.pre x es ∧ (∀ o, g.res x o → outPure o = true → outPost Q h1 o) ∧ (∀ ex, g.exc x ex → pureX ex = true → E ex h1)) E
section
variable {X : Cx} {z : Zs} {W : WX} {α : Type} {g : Spc α} {k n : Nat} {f : Addr} {fd : FuncData} {ps : List Str} {x : Str} {p pos : Pos} {a : Expr} {es : List Expr} {ta : dA}
theorem outR_pure {K : PySem.W.Frag} {H H' : Hp} {v : V} {o : Out} (q : OutR K H H' v o) : outPure o = true := by
  cases o with
  | val d => exact q.1
  | new es => exact q.1
  | drw => rfl
theorem mono_callP (ma : Mono ta) : Mono (dCallP g ta) := fun e h _ _ _ _ hQ hE q => ma _ _ _ _ _ _ (fun ds h1 ⟨x, es, v, pr, q1, q2⟩ => ⟨x, es, v, pr, fun o ho po => outPost_mono hQ (q1 o ho po), fun ex he pe => hE _ _ (q2 ex he pe)⟩) hE q
theorem de_callP (F : FnOk X.prog X.w X.K X.mg X.base (L2.CX X.prog X.w) k f fd ps (spP X.K X.mg g)) (hr : Room k X.A) (hg : Gl X x) (hm : X.mg x = some (.ref f)) (hk : PySem.W.keepIn X.K (.ref f) = true) (hb : Binds X.K fd ps []) (tk : Takes X W)
    (ha : DA X z W (a :: es) ta n) (hdb : (x == ("__debug__" : Str)) = false) (he : starEach (a :: es) X.env = (false, eval a X.env) :: starEach es X.env) (hpl : (backTo pos (starEach es X.env)).any (·.1) = false) :
    DE X z W (.Call (.Name x p) (a :: es) [] pos) (dCallP g ta) := by
  refine ⟨pe_imp (pe_callS (E := WE W) F hr hg hm hk hb (fun σ => passAt tk σ) ha.run hdb he hpl) fun σ H Q ⟨ι, h, e, r, q⟩ => liftA_of ha.mono r q (fun ds h1 ι1 H1 vs q1 k1 r1 dn => ?_) fun _ _ q => q, mono_callP ha.mono⟩
  obtain ⟨x, as, vw, pr, w1, w2⟩ := q1
  refine ⟨x, as, Views.dens r1.hp (fun _ _ _ _ c => by simp at c) (fun _ c => by simp at c) vw dn, pr, fun o v H' ho sm oR => ?_, fun ex cls dd H' hx px sm xr => ?_⟩
  · have kk : Kp X.K ι1 ι1 H1 H' := Kp.same sm
    exact out_here (k1.trans kk) (fun q hq => ⟨r1.hp.notown hq, free_back k1 hq (r1.hp.notown hq), r1.hp.zfree hq⟩) ⟨r1.hp.same sm, r1.en.keep kk⟩ oR (w1 o ho (outR_pure oR))
  · have kk : Kp X.K ι1 ι1 H1 H' := Kp.same sm
    exact w2 ex hx px ι1 H' cls dd (k1.trans kk) ⟨r1.hp.same sm, r1.en.keep kk⟩ (exR_pure px xr)
end
end Dn


namespace Dn
open PySem PySem.Spec PyProof.Rows L2

/-! ### a def that draws -/
structure SpcD (α : Type) where
  pre : α → List D → DrS → Prop
  res : α → Out → DrS → Prop
def spD {α : Type} (K : PySem.W.Frag) (g : SpcD α) : Sp := fun vs H Q _ => ∃ x ds s pd pc vs', vs = .ref pd :: vs' ∧ pd ≠ pc ∧ H pd = some (.lst (drV pc s)) ∧ H pc = some (.lst (s.c.map V.int)) ∧ Dens K ⟨[pd, pc], H⟩ [pd, pc] H vs' ds ∧ g.pre x ds s ∧
  ∀ o v H' s', g.res x o s' → s'.c = s.c → (∀ a u, a ≠ pd → H a = some u → H' a = some u) → H' pd = some (.lst (drV pc s')) → OutR K H H' v o → Q v H'
/-- what is given back by such a def -/
def outOk2 (P : Out → Prop) (d : D) (h : Hh) : Prop := match d with
  | .ref j => 2 ≤ j ∧ (match h[j]? with
    | some (.lst es) => pureDs es = true ∧ P (.new es)
    | none => False)
  | d => pureD d = true ∧ P (.val d)
def endD {α : Type} (g : SpcD α) (x : α) (c : List Int) : Dx where
  nx := fun _ h => ∃ s', s'.c = c ∧ h[0]? = some (.lst (drD 1 s')) ∧ h[1]? = some (.lst (c.map .int)) ∧ outOk2 (fun o => g.res x o s') .non h
  rt := fun d h => ∃ s', s'.c = c ∧ h[0]? = some (.lst (drD 1 s')) ∧ h[1]? = some (.lst (c.map .int)) ∧ outOk2 (fun o => g.res x o s') d h
  bk := fun _ _ => False
  ct := fun _ _ => False
  ex := fun _ _ _ => False
theorem outOk2_val {P : Out → Prop} {d : D} {h : Hh} (p : pureD d = true) (q : P (.val d)) : outOk2 P d h := by
  unfold outOk2
  cases d with
  | ref j => unfold pureD at p; cases p
  | _ => exact ⟨p, q⟩
theorem dens_dr {K : PySem.W.Frag} {z : Zs} {ι : List Addr} {H : Hp} {xs : List V} {m : Nat} {s : DrS} (q : Dens K z ι H xs (drD m s)) : ∃ p, ι[m]? = some p ∧ xs = drV p s := by
  cases q with
  | cons d1 hx => cases hx with
    | cons d2 hx => cases hx with
      | cons d3 hx => cases hx with
        | cons d4 hx =>
          cases hx
          cases d1 with
          | ref hp => exact ⟨_, hp, by rw [den_int d2, den_int d3, den_int d4]; rfl⟩
section
variable {P : Program} {w : World} {K : PySem.W.Frag} {mg : Str → Option Value} {base : Heap}
theorem fnD {α : Type} {x qual : Str} {st : Stmt} {f : Addr} {fd : FuncData} {N ps : List Str} {k : Nat} (g : SpcD α) (t : dS) (F : Fun K x qual st f fd) (S : FnScope N ps (defScope st)) (hlen : ∀ x ds s, g.pre x ds s → ds.length + 1 = ps.length)
    (hb : ∀ (cdv : Value) (A : Around) (outer : List Env) (s : Shared) (H : Hp) (E : XK), Room k (A.deeper (envOfC qual (defScope st) s.heap.objs.size f cdv)) →
      ∀ z, DSs (cxOf (L2.CX P w) P w K mg base N qual (defScope st) f cdv A outer s H E) z (WE0 E) (defBody st) t)
    (hw : ∀ x ds s, g.pre x ds s → t (endD g x s.c) (startE N.length (.ref 0 :: ds)) [.lst (drD 1 s), .lst (s.c.map .int)]) : FnOk P w K mg base (L2.CX P w) (k + 1) f fd ps (spD K g) := by
  refine F.okX S (fun vs H Q E h => ?_) (fun cdv A outer s H vs Q E hr h => ?_)
  · obtain ⟨x, ds, s, pd, pc, vs', rfl, _, _, _, dn, hp, _⟩ := h
    rw [List.length_cons, dn.length]; exact hlen x ds s hp
  · obtain ⟨x, ds, sd, pd, pc, vs', rfl, hne, h1, h2, dn, hp, hq⟩ := h
    have b := hb cdv A outer s H E hr ⟨[pd, pc], H⟩
    have r0 : RH K ⟨[pd, pc], H⟩ [pd, pc] [.lst (drD 1 sd), .lst (sd.c.map .int)] H := by
      refine ⟨Kp.refl, rfl, by simp [hne], fun n o c => ?_⟩
      match n with
      | 0 =>
        injection c with c; subst c
        exact ⟨pd, rfl, _, h1, .cons (.ref rfl) (.cons (.int _) (.cons (.int _) (.cons (.int _) .nil)))⟩
      | 1 =>
        injection c with c; subst c
        exact ⟨pc, rfl, _, h2, ints_dens _⟩
      | n + 2 => simp at c
    refine ⟨_, b.run, [pd, pc], _, startE N.length (.ref 0 :: ds), ⟨r0, start_re (.cons (.ref rfl) dn)⟩, b.mono _ _ _ _ ?_ (hw x ds sd hp)⟩
    have back : ∀ {ι' : List Addr} {h' : Hh} {H' : Hp} {v : V} {d : D}, Kp K [pd, pc] ι' H H' → RH K ⟨[pd, pc], H⟩ ι' h' H' → Den K ⟨[pd, pc], H⟩ ι' H' v d →
        (∃ s', s'.c = sd.c ∧ h'[0]? = some (.lst (drD 1 s')) ∧ h'[1]? = some (.lst (sd.c.map .int)) ∧ outOk2 (fun o => g.res x o s') d h') → Q v H' := fun {ι' h' H' v d} k r dn q => by
      obtain ⟨s', hc, e0, e1, q⟩ := q
      obtain ⟨ex, hι⟩ := k.pre
      have i0 : ι'[0]? = some pd := by rw [← hι]; rfl
      have i1 : ι'[1]? = some pc := by rw [← hι]; rfl
      obtain ⟨xs0, g0, dn0⟩ := r.at_ e0 i0
      obtain ⟨xs1, g1, dn1⟩ := r.at_ e1 i1
      obtain ⟨pp, ip, rfl⟩ := dens_dr dn0
      rw [i1] at ip; injection ip with ip; subst ip
      rw [dens_ints dn1] at g1
      have fr : ∀ a u, a ≠ pd → H a = some u → H' a = some u := fun a u ha hu => by
        by_cases hac : a = pc
        · subst hac
          rw [h2] at hu; injection hu with hu; subst hu
          exact g1
        · exact k.frame a u (by simp [ha, hac]) hu
      unfold outOk2 at q
      split at q
      · rename_i j
        obtain ⟨hj2, q⟩ := q
        split at q
        · rename_i es hj
          obtain ⟨p, xs, rfl, hi, hp, hx, _⟩ := r.list dn hj
          have hp0 : H p = none := by
            rcases k.new p (List.mem_of_getElem? hi) with c | c
            · exfalso
              obtain ⟨a2, b2⟩ := List.getElem?_eq_some_iff.mp hi
              have nd := r.nd
              rcases List.mem_cons.mp c with c | c
              · subst c
                obtain ⟨a1, b1⟩ := List.getElem?_eq_some_iff.mp i0
                have := (List.getElem_inj nd).mp (b2.trans b1.symm)
                omega
              · rw [List.mem_singleton] at c
                subst c
                obtain ⟨a1, b1⟩ := List.getElem?_eq_some_iff.mp i1
                have := (List.getElem_inj nd).mp (b2.trans b1.symm)
                omega
            · exact c
          exact hq _ _ _ s' q.2 hc fr g0 ⟨q.1, p, xs, rfl, hp0, hp, dens_pure es xs q.1 hx⟩
        · exact q.elim
      · exact hq _ _ _ s' q.2 hc fr g0 ⟨q.1, den_pure _ _ q.1 dn⟩
    exact ⟨fun e' h' q ι' H' σ' k r => back k r.hp .non q, fun d h' q ι' H' v k r dn => back k r dn q, fun _ _ q => q.elim, fun _ _ q => q.elim, fun _ _ _ q => q.elim⟩
end
def dCallD {α : Type} (g : SpcD α) (ta : dA) : dE := fun e h Q E => ta e h (fun ds h1 => match ds with
  | .ref n :: rest => ∃ x es s m, n ≠ m ∧ h1[n]? = some (.lst (drD m s)) ∧ h1[m]? = some (.lst (s.c.map .int)) ∧ Views h1 (fun j => j ≠ n ∧ j ≠ m) rest es ∧ g.pre x es s ∧ ∀ o s', g.res x o s' → s'.c = s.c → outPure o = true → outPost Q (h1.set n (.lst (drD m s'))) o
  | _ => False) E
section
variable {X : Cx} {z : Zs} {W : WX} {α : Type} {g : SpcD α} {k n : Nat} {f : Addr} {fd : FuncData} {ps : List Str} {x : Str} {p pos : Pos} {a : Expr} {es : List Expr} {ta : dA}
theorem mono_callD (ma : Mono ta) : Mono (dCallD g ta) := fun e h _ _ _ _ hQ hE q => ma _ _ _ _ _ _ (fun ds h1 w => by
  split at w
  · obtain ⟨x, es, s, m, a1, a2, a3, v, pr, q1⟩ := w
    exact ⟨x, es, s, m, a1, a2, a3, v, pr, fun o s' ho hs po => outPost_mono hQ (q1 o s' ho hs po)⟩
  · exact w.elim) hE q
theorem de_callD (F : FnOk X.prog X.w X.K X.mg X.base (L2.CX X.prog X.w) k f fd ps (spD X.K g)) (hr : Room k X.A) (hg : Gl X x) (hm : X.mg x = some (.ref f)) (hk : PySem.W.keepIn X.K (.ref f) = true) (hb : Binds X.K fd ps []) (tk : Takes X W)
    (ha : DA X z W (a :: es) ta n) (hdb : (x == ("__debug__" : Str)) = false) (he : starEach (a :: es) X.env = (false, eval a X.env) :: starEach es X.env) (hpl : (backTo pos (starEach es X.env)).any (·.1) = false) :
    DE X z W (.Call (.Name x p) (a :: es) [] pos) (dCallD g ta) := by
  refine ⟨pe_imp (pe_callS (E := WE W) F hr hg hm hk hb (fun σ => passAt tk σ) ha.run hdb he hpl) fun σ H Q ⟨ι, h, e, r, q⟩ => liftA_of ha.mono r q (fun ds h1 ι1 H1 vs q1 k1 r1 dn => ?_) fun _ _ q => q, mono_callD ha.mono⟩
  split at q1
  · obtain ⟨x, as, s, m, hne, e1, e2, vw, pr, w1⟩ := q1
    cases dn with
    | cons d1 dn =>
      obtain ⟨pd, xs, rfl, hi, hp, hx, hl⟩ := r1.hp.list d1 e1
      obtain ⟨pc, im, rfl⟩ := dens_dr hx
      obtain ⟨xs2, g2, dn2⟩ := r1.hp.at_ e2 im
      rw [dens_ints dn2] at g2
      have hpp : pd ≠ pc := fun c => by
        subst c
        obtain ⟨a1, b1⟩ := List.getElem?_eq_some_iff.mp hi
        obtain ⟨a2, b2⟩ := List.getElem?_eq_some_iff.mp im
        exact hne ((List.getElem_inj r1.hp.nd).mp (b1.trans b2.symm))
      refine ⟨x, as, s, pd, pc, _, rfl, hpp, hp, g2, ?_, pr, fun o v H' s' ho hc fr hp' oR => ?_⟩
      · refine Views.dens r1.hp (fun j q hj hq hm => ?_) (fun q hq => ?_) vw dn
        · obtain ⟨a2, b2⟩ := List.getElem?_eq_some_iff.mp hq
          rcases List.mem_cons.mp hm with c | c
          · subst c
            obtain ⟨a1, b1⟩ := List.getElem?_eq_some_iff.mp hi
            exact hj.1 ((List.getElem_inj r1.hp.nd).mp (b2.trans b1.symm))
          · rw [List.mem_singleton] at c
            subst c
            obtain ⟨a1, b1⟩ := List.getElem?_eq_some_iff.mp im
            exact hj.2 ((List.getElem_inj r1.hp.nd).mp (b2.trans b1.symm))
        · rcases List.mem_cons.mp hq with c | c
          · subst c; exact List.mem_of_getElem? hi
          · rw [List.mem_singleton] at c; subst c; exact List.mem_of_getElem? im
      · obtain ⟨r2, kk⟩ := r1.hp.swap (ds := drD m s') hi hl fr hp' (.cons (.ref im) (.cons (.int _) (.cons (.int _) (.cons (.int _) .nil))))
        exact out_here (k1.trans kk) (fun q hq => ⟨r1.hp.notown hq, free_back k1 hq (r1.hp.notown hq), r1.hp.zfree hq⟩) ⟨r2, r1.en.keep kk⟩ oR (w1 o s' ho hc (outR_pure oR))
  · exact q1.elim
end

/-! ### raise X('..') -/
def sRaise (x : Str) : dS := fun D' e h => D'.ex ⟨x, []⟩ e h
section
variable {X : Cx} {z : Zs} {W : WX}
theorem ds_raise {C : Addr} {bmB : List Value} {B newId initId : String} {x m : Str} {j : Nat} {p p2 pos pos2 : Pos} (hc : X.calm = true) (tk : Takes X W) (F : ExcBaseFacts B newId initId bmB) (q : PySem.W.excIn X.K C bmB newId = true) (gC : X.mg x = some (.ref C)) (kC : PySem.W.keepIn X.K (.ref C) = true)
    (r : Raises X (.ref C)) (hg : Gl X x) (hdb : (x == ("__debug__" : Str)) = false) : DS X z W (.Raise (some (.Call (.Name x p) [.Constant (.str m) j p2] [] pos)) none pos2) (sRaise x) :=
  ⟨ps_imp (ps_raise hc tk (pmk_own F q gC kC r hg hdb)) fun D' σ H ⟨ι, h, e, r', q'⟩ => q' ι H σ _ _ Kp.refl r' ⟨gC, .inl ⟨rfl, rfl⟩⟩, fun A B e h le q => le.ex _ _ _ q⟩
end

/-! ### try .. except -/
/-- cat a c: whether the clause that names c takes an error of the class a -/
def CatOk (K : PySem.W.Frag) (mg : Str → Option Value) (cat : Str → Str → Option Bool) : Prop := ∀ a c b cls cv, cat a c = some b → mg a = some cls → mg c = some cv → PySem.W.exmOne K cls cv = some b
/-- behind the suite the name is gone -/
def Dx.gone (A : Dx) (i : Nat) : Dx where
  nx := fun e h => A.nx (e.set i none) h
  rt := A.rt
  bk := fun e h => A.bk (e.set i none) h
  ct := fun e h => A.ct (e.set i none) h
  ex := fun _ _ _ => False
def Dx.suite (A : Dx) : Dx := { A with ex := fun _ _ _ => False }
def exAs (cat : Str → Str → Option Bool) (c : Str) (i : Nat) (ts : Addr → Ex → dS) (A : Dx) : Ex → En → Hh → Prop := fun x e' h' => match cat x.cls c with
  | some true => ∀ a, ts a x (A.gone i) (e'.set i (some (.adr a))) h'
  | some false => A.ex x e' h'
  | none => False
def exOnly (cat : Str → Str → Option Bool) (c : Str) (ts : Addr → Ex → dS) (A : Dx) : Ex → En → Hh → Prop := fun x e' h' => match cat x.cls c with
  | some true => ∀ a, ts a x A.suite e' h'
  | some false => A.ex x e' h'
  | none => False
def sTryAs (cat : Str → Str → Option Bool) (c : Str) (i : Nat) (tb : dS) (ts : Addr → Ex → dS) : dS := fun A e h => tb { A with ex := exAs cat c i ts A } e h
def sTry (cat : Str → Str → Option Bool) (c : Str) (tb : dS) (ts : Addr → Ex → dS) : dS := fun A e h => tb { A with ex := exOnly cat c ts A } e h
section
variable {X : Cx} {z : Zs} {W : WX} {cat : Str → Str → Option Bool} {c n : Str} {cv : Value} {i : Nat} {body suite : List Stmt} {b₀ : Stmt} {np pos pos' : Pos} {tb : dS} {ts : Addr → Ex → dS}
theorem Dx.Le.gone {A B : Dx} (le : Dx.Le A B) (i : Nat) : Dx.Le (A.gone i) (B.gone i) := ⟨fun _ _ q => le.nx _ _ q, le.rt, fun _ _ q => le.bk _ _ q, fun _ _ q => le.ct _ _ q, fun _ _ _ q => q⟩
theorem Dx.Le.inSuite {A B : Dx} (le : Dx.Le A B) : Dx.Le A.suite B.suite := ⟨le.nx, le.rt, le.bk, le.ct, fun _ _ _ q => q⟩
theorem mono_tryAs (mb : MonoS tb) (ms : ∀ a x, MonoS (ts a x)) : MonoS (sTryAs cat c i tb ts) := fun A B e h le q => mb { A with ex := exAs cat c i ts A } { B with ex := exAs cat c i ts B } e h ⟨le.nx, le.rt, le.bk, le.ct, fun x e' h' q1 => by
  have q2 : exAs cat c i ts A x e' h' := q1
  show exAs cat c i ts B x e' h'
  unfold exAs at q2 ⊢
  split at q2
  · exact fun a => ms a x _ _ _ _ (le.gone i) (q2 a)
  · exact le.ex _ _ _ q2
  · exact q2⟩ q
theorem mono_try (mb : MonoS tb) (ms : ∀ a x, MonoS (ts a x)) : MonoS (sTry cat c tb ts) := fun A B e h le q => mb { A with ex := exOnly cat c ts A } { B with ex := exOnly cat c ts B } e h ⟨le.nx, le.rt, le.bk, le.ct, fun x e' h' q1 => by
  have q2 : exOnly cat c ts A x e' h' := q1
  show exOnly cat c ts B x e' h'
  unfold exOnly at q2 ⊢
  split at q2
  · exact fun a => ms a x _ _ _ _ le.inSuite (q2 a)
  · exact le.ex _ _ _ q2
  · exact q2⟩ q
theorem exR_d {K : PySem.W.Frag} {mg : Str → Option Value} {ι : List Addr} {H : Hp} {cls : Value} {d : Option Addr} {x : Ex} (q : ExR K mg z ι H cls d x) (hx : x.fld = []) : d = none := by
  rcases q.2 with w | ⟨_, _, w, _⟩
  · exact w.2
  · exact absurd hx w
theorem ds_tryAs (hs : X.stack = X.env :: X.outer) (hf : X.env.frame = some X.env.locals) (hN : X.N.Nodup) (hi : X.N[i]? = some n) (hln : X.env.kindOf n = some .local) (hc : Names X c cv) (hcv : X.mg c = some cv) (hcat : CatOk X.K X.mg cat) (tk : Takes X W)
    (hb : ∀ (W' : WX) (pn : List (Addr × Obj)) (xe : Value → Shared → Prop), Takes (X.tr pn xe) W' → PassesOwn (model X.prog X.w) X.A X.env xe → DSs (X.tr pn xe) z W' body tb)
    (hsu : ∀ (a : Addr) (oe : Obj) (cls : Value) (d : Option Addr) (pn : List (Addr × Obj)) (x : Ex), Zc cls d oe → (∃ vs, oe.data = .fields vs) → X.mg x.cls = some cls → (x.fld = [] → d = none) → DSs (X.suite a ((a, oe) :: pn)) z NoW (b₀ :: suite) (ts a x))
    (mb : MonoS tb) (ms : ∀ a x, MonoS (ts a x)) :
    DS X z W (.Try body [.ExceptHandler (some (.Name c np)) (some n) (b₀ :: suite) pos'] [] [] pos) (sTryAs cat c i tb ts) := by
  refine ⟨ps_imp (ps_try_as (tb := fun W' => liftS X.K X.mg z W' tb) (ts := fun a cls d D' σ H => ∃ x ι h e, ExR X.K X.mg z ι H cls d x ∧ R X.K z ι h e H σ ∧ ts a x (absD X.K X.mg z NoW ι H D') e h) hs hf hN hi hln hc tk (fun W' pn xe tk' po => (hb W' pn xe tk' po).run) (fun a oe cls d pn hz hv => ?_)) fun D' σ H ⟨ι, h, e, r, q⟩ => ?_, mono_tryAs mb ms⟩
  · refine ⟨fun pins s σ H D' I ⟨x, ι, h, e, hx, r, q⟩ => ?_⟩
    exact (hsu a oe cls d pn x hz hv hx.1 (exR_d hx)).run.run pins s σ H D' I ⟨ι, h, e, r, q⟩
  · refine ⟨ι, h, e, r, mb { absD X.K X.mg z W ι H D' with ex := exAs cat c i ts (absD X.K X.mg z W ι H D') } _ _ _ ?_ q⟩
    refine ⟨fun _ _ q => q, fun _ _ q => q, fun _ _ q => q, fun _ _ q => q, fun x e' h' q1 ι' H' σ' cls dd k' r' xr => ?_⟩
    have q2 : exAs cat c i ts (absD X.K X.mg z W ι H D') x e' h' := q1
    unfold exAs at q2
    cases hcx : cat x.cls c with
    | none => rw [hcx] at q2; exact q2.elim
    | some b =>
      rw [hcx] at q2
      refine ⟨b, hcat _ _ _ _ _ hcx xr.1 hcv, fun hb1 a ha => ?_, fun hb1 => ?_⟩
      · subst hb1
        refine ⟨x, ι', h', e'.set i (some (.adr a)), xr, ⟨r'.hp, r'.en.set i (.adr a)⟩, ms a x _ _ _ _ ?_ (q2 a)⟩
        exact ⟨fun e2 h2 q3 ι2 H2 σ2 k2 r2 => q3 ι2 H2 _ (k'.trans k2) ⟨r2.hp, r2.en.unset i⟩, fun d h2 q3 ι2 H2 v k2 r2 dn => q3 ι2 H2 v (k'.trans k2) r2 dn, fun e2 h2 q3 ι2 H2 σ2 k2 r2 => q3 ι2 H2 _ (k'.trans k2) ⟨r2.hp, r2.en.unset i⟩, fun e2 h2 q3 ι2 H2 σ2 k2 r2 => q3 ι2 H2 _ (k'.trans k2) ⟨r2.hp, r2.en.unset i⟩, fun _ _ _ q3 => q3.elim⟩
      · subst hb1
        exact q2 ι' H' σ' cls dd k' r' xr
theorem ds_try (hs : X.stack = X.env :: X.outer) (hf : X.env.frame = some X.env.locals) (hc : Names X c cv) (hcv : X.mg c = some cv) (hcat : CatOk X.K X.mg cat) (tk : Takes X W)
    (hb : ∀ (W' : WX) (pn : List (Addr × Obj)) (xe : Value → Shared → Prop), Takes (X.tr pn xe) W' → PassesOwn (model X.prog X.w) X.A X.env xe → DSs (X.tr pn xe) z W' body tb)
    (hsu : ∀ (a : Addr) (oe : Obj) (cls : Value) (d : Option Addr) (pn : List (Addr × Obj)) (x : Ex), Zc cls d oe → (∃ vs, oe.data = .fields vs) → X.mg x.cls = some cls → (x.fld = [] → d = none) → DSs (X.suite a ((a, oe) :: pn)) z NoW (b₀ :: suite) (ts a x))
    (mb : MonoS tb) (ms : ∀ a x, MonoS (ts a x)) :
    DS X z W (.Try body [.ExceptHandler (some (.Name c np)) none (b₀ :: suite) pos'] [] [] pos) (sTry cat c tb ts) := by
  refine ⟨ps_imp (ps_try_only (tb := fun W' => liftS X.K X.mg z W' tb) (ts := fun a cls d D' σ H => ∃ x ι h e, ExR X.K X.mg z ι H cls d x ∧ R X.K z ι h e H σ ∧ ts a x (absD X.K X.mg z NoW ι H D') e h) hs hf hc tk (fun W' pn xe tk' po => (hb W' pn xe tk' po).run) (fun a oe cls d pn hz hv => ?_)) fun D' σ H ⟨ι, h, e, r, q⟩ => ?_, mono_try mb ms⟩
  · refine ⟨fun pins s σ H D' I ⟨x, ι, h, e, hx, r, q⟩ => ?_⟩
    exact (hsu a oe cls d pn x hz hv hx.1 (exR_d hx)).run.run pins s σ H D' I ⟨ι, h, e, r, q⟩
  · refine ⟨ι, h, e, r, mb { absD X.K X.mg z W ι H D' with ex := exOnly cat c ts (absD X.K X.mg z W ι H D') } _ _ _ ?_ q⟩
    refine ⟨fun _ _ q => q, fun _ _ q => q, fun _ _ q => q, fun _ _ q => q, fun x e' h' q1 ι' H' σ' cls dd k' r' xr => ?_⟩
    have q2 : exOnly cat c ts (absD X.K X.mg z W ι H D') x e' h' := q1
    unfold exOnly at q2
    cases hcx : cat x.cls c with
    | none => rw [hcx] at q2; exact q2.elim
    | some b =>
      rw [hcx] at q2
      refine ⟨b, hcat _ _ _ _ _ hcx xr.1 hcv, fun hb1 a ha => ?_, fun hb1 => ?_⟩
      · subst hb1
        refine ⟨x, ι', h', e', xr, r', ms a x _ _ _ _ ?_ (q2 a)⟩
        exact ⟨fun e2 h2 q3 ι2 H2 σ2 k2 r2 => q3 ι2 H2 _ (k'.trans k2) r2, fun d h2 q3 ι2 H2 v k2 r2 dn => q3 ι2 H2 v (k'.trans k2) r2 dn, fun e2 h2 q3 ι2 H2 σ2 k2 r2 => q3 ι2 H2 _ (k'.trans k2) r2, fun e2 h2 q3 ι2 H2 σ2 k2 r2 => q3 ι2 H2 _ (k'.trans k2) r2, fun _ _ _ q3 => q3.elim⟩
      · subst hb1
        exact q2 ι' H' σ' cls dd k' r' xr
end
theorem dss_when {X : Cx} {z : Zs} {W : WX} {st : List Stmt} {t : dS} {c : Prop} (m : MonoS t) (h : c → DSs X z W st t) : DSs X z W st (fun A e h => c ∧ t A e h) :=
  ⟨⟨fun pins s σ H A I ⟨ι, h', e, r, hc, q⟩ => (h hc).run.run pins s σ H A I ⟨ι, h', e, r, q⟩⟩, fun _ _ _ _ le q => ⟨q.1, m _ _ _ _ le q.2⟩⟩
/-- isinstance(e, C), e the error that the suite holds -/
def dIsE (i : Nat) (a : Addr) (b : Bool) : dE := fun e h Q _ => slot e i = some (.adr a) ∧ Q (.bl b) h
theorem mono_isE {i : Nat} {a : Addr} {b : Bool} : Mono (dIsE i a b) := fun _ _ _ _ _ _ hQ _ q => ⟨q.1, hQ _ _ q.2⟩
theorem exC_kit {K : PySem.W.Frag} {D : Addr} : True := trivial
/-! ### isinstance -/
def tyN : D → String
  | .non => "NoneType"
  | .bl _ => "bool"
  | .int _ => "int"
  | .str _ => "str"
  | .tup _ => "tuple"
  | .lst _ => "list"
  | .ref _ => "list"
  | .adr _ => ""
def isaS (a T : String) : Bool := a == T || (a == "bool" && T == "int")
def isaT (Ts : List String) (a : String) : Bool := Ts.any fun T => isaS a T
def KitOk (T : String) : Prop := ∀ a ∈ ["NoneType", "bool", "int", "str", "tuple", "list"], kitB a T = some (isaS a T)
def D.isAdr : D → Bool
  | .adr _ => true
  | _ => false
def dIsi (T : String) (ta : dE) : dE := fun e h Q E => ta e h (fun x h1 => match x with
  | .adr _ => False
  | x => Q (.bl (isaS (tyN x) T)) h1) E
def dIsi2 (T U : String) (ta : dE) : dE := fun e h Q E => ta e h (fun x h1 => match x with
  | .adr _ => False
  | x => Q (.bl (isaS (tyN x) T || isaS (tyN x) U)) h1) E
theorem den_ty {K : PySem.W.Frag} {z : Zs} {ι : List Addr} {h : Hh} {H : Hp} {v : V} {d : D} (r : RH K z ι h H) (q : Den K z ι H v d) (hd : d.isAdr = false) : TyX K H v (.type (tyN d)) ∧ tyN d ∈ ["NoneType", "bool", "int", "str", "tuple", "list"] := by
  cases q with
  | non => exact ⟨.base .non, by decide⟩
  | bl b => exact ⟨.base (.bl b), by simp [tyN]⟩
  | int b => exact ⟨.base (.int b), by simp [tyN]⟩
  | str b => exact ⟨.base (.str b), by simp [tyN]⟩
  | tup hp hx =>
    refine ⟨?_, by simp [tyN]⟩
    rcases hp with (hp | ⟨u, hp⟩) | ⟨o, its, n, hk, hc, _⟩
    · exact .base (.tup hp)
    · exact .fTuple hp
    · exact .kTuple hk hc
  | lst hp hx =>
    refine ⟨?_, by simp [tyN]⟩
    rcases fl_stay r hp with (hp | ⟨u, hp⟩) | ⟨o, its, n, hk, hc, _⟩
    · exact .base (.lst hp)
    · exact .base (.frz hp)
    · exact .kList hk hc
  | ref hi =>
    refine ⟨?_, by simp [tyN]⟩
    obtain ⟨u, hu⟩ := r.tracked (List.mem_of_getElem? hi)
    rename_i p n
    obtain ⟨hl, _⟩ := List.getElem?_eq_some_iff.mp hi
    have hl' : n < h.length := by rw [← r.len]; exact hl
    have w := r.at_ (List.getElem?_eq_getElem hl') hi
    cases eo : h[n] with
    | lst ds =>
      rw [eo] at w
      obtain ⟨xs, e1, _⟩ := w
      exact .base (.lst e1)
  | adr a => cases hd
section
variable {X : Cx} {z : Zs} {W : WX} {a : Expr} {ta : dE} {T U : String} {tn un : Str} {p pos pT pU : Pos}
theorem mono_isi (ma : Mono ta) : Mono (dIsi T ta) := fun e h _ _ _ _ hQ hE q => ma _ _ _ _ _ _ (fun x h1 w => by
  cases x <;> first | exact w.elim | exact hQ _ _ w) hE q
theorem mono_isi2 (ma : Mono ta) : Mono (dIsi2 T U ta) := fun e h _ _ _ _ hQ hE q => ma _ _ _ _ _ _ (fun x h1 w => by
  cases x <;> first | exact w.elim | exact hQ _ _ w) hE q
theorem de_isi (hT : KitOk T) (hg : Gl X "isinstance") (hm : X.mg "isinstance" = none) (hgT : Gl X tn) (hmT : X.mg tn = none) (hv : bootBuiltins tn = some (.type T)) (hn : tn ≠ "__name__") (hd : (tn == ("__debug__" : Str)) = false) (ha : DE X z W a ta)
    (he : starEach [a, .Name tn pT] X.env = (false, eval a X.env) :: starEach [.Name tn pT] X.env) (he2 : starEach [.Name tn pT] X.env = (false, eval (.Name tn pT) X.env) :: starEach [] X.env) (hpl : (backTo pos (starEach [.Name tn pT] X.env)).any (·.1) = false) :
    DE X z W (.Call (.Name "isinstance" p) [a, .Name tn pT] [] pos) (dIsi T ta) := by
  have hv' : bootBuiltins "isinstance" = some (.builtin "isinstance") := by decide +kernel
  refine ⟨pe_imp (pe_callB call_isi hg hm hv' (pa_cons ha.run (pa_cons (pe_bltn (v := .ty T) hgT hmT hv rfl hn hd) pa_nil he2) he) (by decide) (by decide) he hpl) fun σ H Q ⟨ι, h, e, r, q⟩ => lift_of ha.mono r q (fun x h1 ι1 H1 v q1 k1 r1 d1 => ?_) fun _ _ q => q, mono_isi ha.mono⟩
  have hx : x.isAdr = false := by cases x <;> first | rfl | exact q1.elim
  obtain ⟨t1, t2⟩ := den_ty r1.hp d1 hx
  refine ⟨v, .ty T, _, _, _, rfl, .ty T, t1, kit_ty (hT _ t2), ?_⟩
  have q2 : PEq X.K z ι e σ H Q (.bl (isaS (tyN x) T)) h1 := by cases x <;> first | exact q1 | cases hx
  exact q2 ι1 H1 _ k1 r1 (.bl _)
theorem de_isi2 {x1} (hT : KitOk T) (hU : KitOk U) (hg : Gl X "isinstance") (hm : X.mg "isinstance" = none) (hgT : Gl X tn) (hmT : X.mg tn = none) (hv : bootBuiltins tn = some (.type T)) (hn : tn ≠ "__name__") (hd : (tn == ("__debug__" : Str)) = false)
    (hgU : Gl X un) (hmU : X.mg un = none) (hvU : bootBuiltins un = some (.type U)) (hnU : un ≠ "__name__") (hdU : (un == ("__debug__" : Str)) = false) (ha : DE X z W a ta) {pt : Pos}
    (he : starEach [a, .Tuple [.Name tn pT, .Name un pU] x1 pt] X.env = (false, eval a X.env) :: starEach [.Tuple [.Name tn pT, .Name un pU] x1 pt] X.env) (he2 : starEach [.Tuple [.Name tn pT, .Name un pU] x1 pt] X.env = (false, eval (.Tuple [.Name tn pT, .Name un pU] x1 pt) X.env) :: starEach [] X.env)
    (he3 : starEach [.Name tn pT, .Name un pU] X.env = (false, eval (.Name tn pT) X.env) :: starEach [.Name un pU] X.env) (he4 : starEach [.Name un pU] X.env = (false, eval (.Name un pU) X.env) :: starEach [] X.env)
    (hpl : (backTo pos (starEach [.Tuple [.Name tn pT, .Name un pU] x1 pt] X.env)).any (·.1) = false) :
    DE X z W (.Call (.Name "isinstance" p) [a, .Tuple [.Name tn pT, .Name un pU] x1 pt] [] pos) (dIsi2 T U ta) := by
  have hv' : bootBuiltins "isinstance" = some (.builtin "isinstance") := by decide +kernel
  refine ⟨pe_imp (pe_callB call_isiT hg hm hv' (pa_cons ha.run (pa_cons (pe_tup (pa_cons (pe_bltn (v := .ty T) hgT hmT hv rfl hn hd) (pa_cons (pe_bltn (v := .ty U) hgU hmU hvU rfl hnU hdU) pa_nil he4) he3)) pa_nil he2) he) (by decide) (by decide) he hpl) fun σ H Q ⟨ι, h, e, r, q⟩ => lift_of ha.mono r q (fun x h1 ι1 H1 v q1 k1 r1 d1 => ?_) fun _ _ q => q, mono_isi2 ha.mono⟩
  have hx : x.isAdr = false := by cases x <;> first | rfl | exact q1.elim
  refine ⟨by show 2 ≤ sizeLine; decide, fun tp htp => ?_⟩
  have kl := Kp.laid (K := X.K) (ι := ι1) htp (.tup [.ty T, .ty U])
  have r2 := r1.laid htp (.tup [.ty T, .ty U])
  obtain ⟨t1, t2⟩ := den_ty r2.hp (d1.keep kl) hx
  refine ⟨v, tp, _, _, [.type T, .type U], _, rfl, upd_same, .cons (.ty T) (.cons (.ty U) .nil), t1, kitAny_cons (r := isaS (tyN x) T || isaS (tyN x) U) (kit_ty (hT _ t2)) (fun hb => ?_) (fun hb => by rw [hb]; rfl), ?_⟩
  · rw [hb, Bool.false_or]
    refine kitAny_cons (kit_ty (hU _ t2)) (fun hb2 => ?_) fun hb2 => hb2
    rw [hb2]; exact kitAny_nil
  · have q2 : PEq X.K z ι e σ H Q (.bl (isaS (tyN x) T || isaS (tyN x) U)) h1 := by cases x <;> first | exact q1 | cases hx
    exact q2 ι1 _ _ (k1.trans kl) r2 (.bl _)
end
theorem kit_int : KitOk "int" := by intro a h; simp only [List.mem_cons, List.not_mem_nil, or_false] at h; rcases h with rfl | rfl | rfl | rfl | rfl | rfl <;> decide +kernel
theorem kit_bool : KitOk "bool" := by intro a h; simp only [List.mem_cons, List.not_mem_nil, or_false] at h; rcases h with rfl | rfl | rfl | rfl | rfl | rfl <;> decide +kernel
theorem kit_tuple : KitOk "tuple" := by intro a h; simp only [List.mem_cons, List.not_mem_nil, or_false] at h; rcases h with rfl | rfl | rfl | rfl | rfl | rfl <;> decide +kernel
theorem kit_list : KitOk "list" := by intro a h; simp only [List.mem_cons, List.not_mem_nil, or_false] at h; rcases h with rfl | rfl | rfl | rfl | rfl | rfl <;> decide +kernel
theorem kit_str : KitOk "str" := by intro a h; simp only [List.mem_cons, List.not_mem_nil, or_false] at h; rcases h with rfl | rfl | rfl | rfl | rfl | rfl <;> decide +kernel

/-! ### methods of owned lists -/
def dM1 (f : Nat → D → Hh → Rs) (to ta : dE) : dE := fun e h Q E => to e h (fun o h1 => match o with
  | .ref n => ta e h1 (fun d h2 => (f n d h2).to Q) E
  | _ => False) E
def dM0 (f : Nat → Hh → Rs) (to : dE) : dE := fun e h Q E => to e h (fun o h1 => match o with
  | .ref n => (f n h1).to Q
  | _ => False) E
def appF (n : Nat) (d : D) (h : Hh) : Rs := match h[n]? with
  | some (.lst ds) => .cond (ds.length < sizeLine) .non (h.set n (.lst (ds ++ [d])))
  | none => .no
def extF (n : Nat) (d : D) (h : Hh) : Rs := match d with
  | .ref m => match h[n]?, h[m]? with
    | some (.lst ds), some (.lst es) => .cond (ds.length + es.length ≤ sizeLine) .non (h.set n (.lst (ds ++ es)))
    | _, _ => .no
  | _ => .no
def revF (n : Nat) (h : Hh) : Rs := match h[n]? with
  | some (.lst ds) => .ok .non (h.set n (.lst ds.reverse))
  | none => .no
def popF (n : Nat) (h : Hh) : Rs := match h[n]? with
  | some (.lst ds) => .opt ds[ds.length - 1]? (h.set n (.lst ds.dropLast))
  | none => .no
section
variable {X : Cx} {z : Zs} {W : WX} {o a : Expr} {to ta : dE} {apos cpos : Pos}
theorem RH.isLst {K : PySem.W.Frag} {ι : List Addr} {h : Hh} {H : Hp} {n : Nat} {v : V} (r : RH K z ι h H) (q : Den K z ι H v (.ref n)) : tyV K "list" v H := by
  cases q with
  | ref hi =>
    rename_i p
    obtain ⟨hl, _⟩ := List.getElem?_eq_some_iff.mp hi
    have hl' : n < h.length := by rw [← r.len]; exact hl
    have w := r.at_ (List.getElem?_eq_getElem hl') hi
    cases eo : h[n] with
    | lst ds =>
      rw [eo] at w
      obtain ⟨xs, e1, _⟩ := w
      exact .inl ⟨rfl, _, .inl (.inl e1)⟩
theorem mono_m1 {f : Nat → D → Hh → Rs} (mo : Mono to) (ma : Mono ta) : Mono (dM1 f to ta) := fun e h _ _ _ _ hQ hE q => mo _ _ _ _ _ _ (fun x h1 w => by
  cases x with
  | ref n => exact ma _ _ _ _ _ _ (fun _ _ w2 => Rs.mono hQ w2) hE w
  | _ => exact w.elim) hE q
theorem mono_m0 {f : Nat → Hh → Rs} (mo : Mono to) : Mono (dM0 f to) := fun e h _ _ _ _ hQ hE q => mo _ _ _ _ _ _ (fun x h1 w => by
  cases x with
  | ref n => exact Rs.mono hQ w
  | _ => exact w.elim) hE q
def M1D (K : PySem.W.Frag) (f : Nat → D → Hh → Rs) (rr : V → List V → Hp → VK → Prop) : Prop := ∀ (z : Zs) (ι : List Addr) (h : Hh) (e : En) (H : Hp) (σ : L2.St) (x y : V) (n : Nat) (b : D) (Q : VK),
  R K z ι h e H σ → Den K z ι H x (.ref n) → Den K z ι H y b → (f n b h).to (PEq K z ι e σ H Q) → rr x [y] H Q
def M0D (K : PySem.W.Frag) (f : Nat → Hh → Rs) (rr : V → List V → Hp → VK → Prop) : Prop := ∀ (z : Zs) (ι : List Addr) (h : Hh) (e : En) (H : Hp) (σ : L2.St) (x : V) (n : Nat) (Q : VK),
  R K z ι h e H σ → Den K z ι H x (.ref n) → (f n h).to (PEq K z ι e σ H Q) → rr x [] H Q
theorem de_m1 {f : Nat → D → Hh → Rs} {rr : V → List V → Hp → VK → Prop} {name : Str} {id : String} (slot : Slot "list" name id) (hty : typeOf (.builtin id) = pure (.type "method_descriptor")) (hr : MtR X id rr) (hd : M1D X.K f rr) (ho : DE X z W o to) (ha : DE X z W a ta)
    (he1 : starEach [a] X.env = (false, eval a X.env) :: starEach [] X.env)
    (hbase : attributeBase o name X.env (eval o X.env) = eval o X.env)
    (hfew : ((backTo cpos (starEach [a] X.env)).all (fun x => !x.1) && (backToKw cpos (keywordEach [] X.env)).all (fun x => x.1.isSome)
      && decide ([a].length + ([] : List Keyword).length + (if ([] : List Keyword).isEmpty then 0 else 1) < 30)) = true)
    (hline : (apos.endLine == cpos.line) = true) (hplain : (backTo cpos (starEach [] X.env)).any (·.1) = false) :
    DE X z W (.Call (.Attribute o name apos) [a] [] cpos) (dM1 f to ta) := by
  refine ⟨pe_imp (pe_bm PySem.F.plainAttrs_list slot hty hr ho.run (pa_cons ha.run pa_nil he1) hbase hfew hline he1 hplain) fun σ H Q ⟨ι, h, e, r, q⟩ => lift_of ho.mono r q (fun x h1 ι1 H1 v q1 k1 r1 d1 => ?_) fun _ _ q => q, mono_m1 ho.mono ha.mono⟩
  cases x with
  | ref n =>
    refine ⟨r1.hp.isLst d1, lift_of ha.mono r1 q1 (fun y h2 ι2 H2 u q2 k2 r2 d2 => ?_) fun _ _ q => q.shift k1⟩
    exact hd z ι2 h2 e H2 σ v u n y Q r2 (d1.keep k2) d2 (Rs.mono (fun d h' p => PEq.shift (k1.trans k2) p) q2)
  | _ => exact q1.elim
theorem de_m0 {f : Nat → Hh → Rs} {rr : V → List V → Hp → VK → Prop} {name : Str} {id : String} (slot : Slot "list" name id) (hty : typeOf (.builtin id) = pure (.type "method_descriptor")) (hr : MtR X id rr) (hd : M0D X.K f rr) (ho : DE X z W o to)
    (hbase : attributeBase o name X.env (eval o X.env) = eval o X.env) (hline : (apos.endLine == cpos.line) = true) :
    DE X z W (.Call (.Attribute o name apos) [] [] cpos) (dM0 f to) := by
  refine ⟨pe_imp (pe_bm0 PySem.F.plainAttrs_list slot hty hr ho.run hbase hline) fun σ H Q ⟨ι, h, e, r, q⟩ => lift_of ho.mono r q (fun x h1 ι1 H1 v q1 k1 r1 d1 => ?_) fun _ _ q => q, mono_m0 ho.mono⟩
  cases x with
  | ref n => exact ⟨r1.hp.isLst d1, hd z ι1 h1 e H1 σ v n Q r1 d1 (Rs.mono (fun d h' p => PEq.shift k1 p) q1)⟩
  | _ => exact q1.elim
theorem m1_app {K : PySem.W.Frag} : M1D K appF rAppend := by
  intro z ι h e H σ x y n b Q r dx dy q
  unfold appF at q
  split at q
  · rename_i ds hn
    obtain ⟨p, xs, rfl, hi, hp, hx, hl⟩ := r.hp.list dx hn
    refine ⟨p, xs, y, rfl, rfl, hp, by rw [hx.length]; exact q.1, ?_⟩
    exact q.2 ι _ _ (Kp.wrote r.hp (List.mem_of_getElem? hi) _) (r.wrote hi hl (hx.append (.cons dy .nil))) .non
  · exact q.elim
theorem m1_ext {K : PySem.W.Frag} : M1D K extF rExtend := by
  intro z ι h e H σ x y n b Q r dx dy q
  unfold extF at q
  split at q
  · split at q
    · rename_i h1 h2
      obtain ⟨p, xs, rfl, hi, hp, hx, hl⟩ := r.hp.list dx h1
      obtain ⟨p2, ys, rfl, hi2, hp2, hy, hl2⟩ := r.hp.list dy h2
      refine ⟨p, p2, xs, ys, rfl, rfl, hp, hp2, by rw [hx.length, hy.length]; exact q.1, ?_⟩
      exact q.2 ι _ _ (Kp.wrote r.hp (List.mem_of_getElem? hi) _) (r.wrote hi hl (hx.append hy)) .non
    · exact q.elim
  · exact q.elim
theorem Dens.reverse {K : PySem.W.Frag} {ι : List Addr} {H : Hp} : ∀ {vs : List V} {ds : List D}, Dens K z ι H vs ds → Dens K z ι H vs.reverse ds.reverse
  | _, _, .nil => .nil
  | _, _, .cons a b => by rw [List.reverse_cons, List.reverse_cons]; exact (Dens.reverse b).append (.cons a .nil)
theorem Dens.dropLast {K : PySem.W.Frag} {ι : List Addr} {H : Hp} {vs : List V} {ds : List D} (q : Dens K z ι H vs ds) : Dens K z ι H vs.dropLast ds.dropLast := by
  rw [List.dropLast_eq_take, List.dropLast_eq_take, q.length]
  exact q.take _
theorem m0_rev {K : PySem.W.Frag} : M0D K revF rReverse := by
  intro z ι h e H σ x n Q r dx q
  unfold revF at q
  split at q
  · rename_i ds hn
    obtain ⟨p, xs, rfl, hi, hp, hx, hl⟩ := r.hp.list dx hn
    exact ⟨p, xs, rfl, rfl, hp, q ι _ _ (Kp.wrote r.hp (List.mem_of_getElem? hi) _) (r.wrote hi hl (Dens.reverse hx)) .non⟩
  · exact q.elim
theorem m0_pop {K : PySem.W.Frag} : M0D K popF rPop := by
  intro z ι h e H σ x n Q r dx q
  unfold popF at q
  split at q
  · rename_i ds hn
    obtain ⟨p, xs, rfl, hi, hp, hx, hl⟩ := r.hp.list dx hn
    obtain ⟨d, hd, q⟩ := q
    obtain ⟨v, h1, h2⟩ := hx.get hd
    have kk := Kp.wrote (K := K) r.hp (List.mem_of_getElem? hi) (.lst xs.dropLast)
    exact ⟨p, xs, v, rfl, rfl, hp, by rw [hx.length]; exact h1, q ι _ _ kk (r.wrote hi hl (Dens.dropLast hx)) (h2.keep kk)⟩
  · exact q.elim
end
end Dn


namespace Dn
open PySem PySem.Spec PyProof.Rows L2

/-! ### the text behind the top -/
structure DefAt (K : PySem.W.Frag) (mg : Str → Option Value) (x : Str) (st : Stmt) (ps : List Str) : Prop where
  ex : ∃ f fd, mg x = some (.ref f) ∧ Fun K x x st f fd ∧ Binds K fd ps []
structure Ok (P : Program) (w : World) (K : PySem.W.Frag) (mg : Str → Option Value) (base : Heap) (k : Nat) (x : Str) (ps : List Str) (sp : Sp) : Prop where
  ex : ∃ f fd, mg x = some (.ref f) ∧ PySem.W.keepIn K (.ref f) = true ∧ Binds K fd ps [] ∧ FnOk P w K mg base (L2.CX P w) k f fd ps sp
theorem okOf {P : Program} {w : World} {K : PySem.W.Frag} {mg : Str → Option Value} {base : Heap} {k : Nat} {x : Str} {st : Stmt} {ps : List Str} {sp : Sp} (A : DefAt K mg x st ps) (h : ∀ f fd, Fun K x x st f fd → FnOk P w K mg base (L2.CX P w) k f fd ps sp) : Ok P w K mg base k x ps sp := by
  obtain ⟨f, fd, g, F, b⟩ := A.ex
  exact ⟨f, fd, g, F.kp, b, h f fd F⟩
theorem Ok.mono {P : Program} {w : World} {K : PySem.W.Frag} {mg : Str → Option Value} {base : Heap} {j k : Nat} {x : Str} {ps : List Str} {sp : Sp} (A : Ok P w K mg base j x ps sp) (h : j ≤ k) : Ok P w K mg base k x ps sp := by
  obtain ⟨f, fd, g, kp, b, F⟩ := A.ex
  exact ⟨f, fd, g, kp, b, F.mono h⟩
theorem def_at {K : PySem.W.Frag} {mg : Str → Option Value} {hp : Heap} {x : Str} {st : Stmt} {ps : List Str} {f : Addr} {oc : Value} {od an : Option Addr} {sl : Array (Option Value)} {kV doc pm cd ct : Value} (X : K.In hp) (G : hp.Ns mainGlobals mg)
    (a : PySem.W.nsIn K mainGlobals x = some (some (.ref f))) (l : K.lookup f = some ⟨oc, od, .func (PySem.W.fnOf x x (defArgs st) (defBody st) (defScope st) .none kV doc pm an cd ct), sl⟩) (c : PySem.W.codeIn K cd x = true) (kp : PySem.W.keepIn K (.ref f) = true)
    (hb : ∀ (kV doc pm : Value) (an : Option Addr) (cdv ct : Value) (us : List Value), us.length = ps.length → bindArgs (PySem.W.fnOf x x (defArgs st) (defBody st) (defScope st) .none kV doc pm an cdv ct) ⟨us, []⟩ = pure (ps.zip us)) : DefAt K mg x st ps :=
  let F := fun_mk (st := st) l c kp
  ⟨f, _, PySem.W.mg_of X G a, F, F.binds hb⟩
/-- an own class of errors -/
structure ExcAt (K : PySem.W.Frag) (mg : Str → Option Value) (x : Str) (C : Addr) : Prop where
  g : mg x = some (.ref C)
  q : PySem.W.excIn K C [.type "ValueError", .type "Exception", .type "BaseException", .type "object"] "ValueError.__new__" = true
  k : PySem.W.keepIn K (.ref C) = true
  sb : PySem.W.subIn K (.ref C) (.type "BaseException") = some true
  ty : PySem.W.typeIn K (.ref C) = some (.type "type")
  is : PySem.W.isClsIn K C = true
structure ExcHas (K : PySem.W.Frag) (mg : Str → Option Value) (x : Str) : Prop where
  ex : ∃ C, ExcAt K mg x C
/-- an error of the class x is taken by the clause that names c, or is not -/
structure Takes2 (K : PySem.W.Frag) (mg : Str → Option Value) (x c : Str) (b : Bool) : Prop where
  ex : ∃ C C', mg x = some (.ref C) ∧ mg c = some (.ref C') ∧ PySem.W.exmOne K (.ref C) (.ref C') = some b
theorem exm_sub {K : PySem.W.Frag} {C C' : Addr} {b : Bool} (h1 : PySem.W.subIn K (.ref C') (.type "BaseException") = some true) (h2 : PySem.W.isClsIn K C' = true) (h3 : PySem.W.typeIn K (.ref C') = some (.type "type")) (h4 : PySem.W.subIn K (.ref C) (.ref C') = some b) : PySem.W.exmOne K (.ref C) (.ref C') = some b := by
  have e1 : (PySem.W.subIn K (.ref C') (.type "BaseException") == some true) = true := by rw [h1] <;> rfl
  have e2 : ((PySem.W.clsIn K C').isSome && PySem.W.typeIn K (.ref C') == some (.type "type")) = true := by
    have w : (PySem.W.clsIn K C').isSome = true := h2
    rw [w, h3] <;> rfl
  show (if (PySem.W.subIn K (.ref C') (.type "BaseException") == some true) = true then (if ((PySem.W.clsIn K C').isSome && PySem.W.typeIn K (.ref C') == some (.type "type")) = true then PySem.W.subIn K (.ref C) (.ref C') else none) else none) = some b
  rw [if_pos e1, if_pos e2, h4]
theorem takes2 {K : PySem.W.Frag} {mg : Str → Option Value} {x c : Str} {b : Bool} {C C' : Addr} (a : mg x = some (.ref C)) (a' : ExcAt K mg c C') (h4 : PySem.W.subIn K (.ref C) (.ref C') = some b) : Takes2 K mg x c b := ⟨C, C', a, a'.g, exm_sub a'.sb a'.is a'.ty h4⟩
def catL : List (Str × Str × Bool) → Str → Str → Option Bool
  | [], _, _ => none
  | (x, c, b) :: r, y, d => if x = y ∧ c = d then some b else catL r y d
theorem catL_ok {K : PySem.W.Frag} {mg : Str → Option Value} : ∀ {l : List (Str × Str × Bool)}, (∀ p ∈ l, Takes2 K mg p.1 p.2.1 p.2.2) → CatOk K mg (catL l)
  | [], _ => fun _ _ _ _ _ h _ _ => by cases h
  | (x, c, b) :: r, h => fun y d b' cls cv e h1 h2 => by
    unfold catL at e
    split at e
    · rename_i hh
      obtain ⟨rfl, rfl⟩ := hh
      injection e with e; subst e
      obtain ⟨C, C', g1, g2, g3⟩ := (h _ List.mem_cons_self).ex
      rw [g1] at h1; injection h1 with h1; subst h1
      rw [g2] at h2; injection h2 with h2; subst h2
      exact g3
    · exact catL_ok (fun p hp => h p (List.mem_cons_of_mem _ hp)) y d b' cls cv e h1 h2

section
variable {X : Cx} {z : Zs} {W : WX} {α : Type} {k n : Nat} {ps : List Str} {x : Str} {p pos : Pos} {a : Expr} {es : List Expr} {ta : dA}
theorem dn_callP {g : Spc α} (G : Ok X.prog X.w X.K X.mg X.base k x ps (spP X.K X.mg g)) (hr : Room k X.A) (tk : Takes X W) (hg : Gl X x) (hdb : (x == ("__debug__" : Str)) = false) (ha : DA X z W (a :: es) ta n) 
    (he : starEach (a :: es) X.env = (false, eval a X.env) :: starEach es X.env) (hpl : (backTo pos (starEach es X.env)).any (·.1) = false) : DE X z W (.Call (.Name x p) (a :: es) [] pos) (dCallP g ta) := by
  obtain ⟨f, fd, gm, kp, b, F⟩ := G.ex
  exact de_callP F hr hg gm kp b tk ha hdb he hpl
theorem dn_callD {g : SpcD α} (G : Ok X.prog X.w X.K X.mg X.base k x ps (spD X.K g)) (hr : Room k X.A) (tk : Takes X W) (hg : Gl X x) (hdb : (x == ("__debug__" : Str)) = false) (ha : DA X z W (a :: es) ta n)
    (he : starEach (a :: es) X.env = (false, eval a X.env) :: starEach es X.env) (hpl : (backTo pos (starEach es X.env)).any (·.1) = false) : DE X z W (.Call (.Name x p) (a :: es) [] pos) (dCallD g ta) := by
  obtain ⟨f, fd, gm, kp, b, F⟩ := G.ex
  exact de_callD F hr hg gm kp b tk ha hdb he hpl
theorem dn_raise {x m : Str} {j : Nat} {p p2 pos pos2 : Pos} (T : ExcHas X.K X.mg x) (hc : X.calm = true) (tk : Takes X W) (hg : Gl X x) (hdb : (x == ("__debug__" : Str)) = false) : DS X z W (.Raise (some (.Call (.Name x p) [.Constant (.str m) j p2] [] pos)) none pos2) (sRaise x) := by
  obtain ⟨C, T⟩ := T.ex
  exact ds_raise hc tk PySem.F.excBase_ValueError T.q T.g T.k (raises_own T.sb T.ty) hg hdb
end

/-! ### isinstance(e, C) in a suite -/
structure IsE (K : PySem.W.Frag) (mg : Str → Option Value) (x c : Str) (b : Bool) : Prop where
  ex : ∃ C C', mg x = some (.ref C) ∧ mg c = some (.ref C') ∧ ExcC K C ∧ PySem.W.kitOne K (.ref C) (.ref C') = some b
theorem de_isE {X : Cx} {z : Zs} {a : Addr} {oe : Obj} {cls : Value} {d : Option Addr} {pn : List (Addr × Obj)} {n x c : Str} {i : Nat} {b : Bool} {p p1 p2 pos : Pos} (T : IsE X.K X.mg x c b) (hx : X.mg x = some cls) (hz : Zc cls d oe) (hf : ∃ vs, oe.data = .fields vs) (hd : d = none)
    (hN : X.N[i]? = some n) (hv : Vis X.env.scope n) (hdn : (n == ("__debug__" : Str)) = false) (hcd : (n == ("__classdict__" : Str)) = false) (hg : Gl X "isinstance") (hm : X.mg "isinstance" = none) (hgc : Gl X c) (hdc : (c == ("__debug__" : Str)) = false)
    (he : starEach [.Name n p1, .Name c p2] X.env = (false, eval (.Name n p1) X.env) :: starEach [.Name c p2] X.env) (he2 : starEach [.Name c p2] X.env = (false, eval (.Name c p2) X.env) :: starEach [] X.env) (hpl : (backTo pos (starEach [.Name c p2] X.env)).any (·.1) = false) :
    DE (X.suite a ((a, oe) :: pn)) z NoW (.Call (.Name "isinstance" p) [.Name n p1, .Name c p2] [] pos) (dIsE i a b) := by
  obtain ⟨C, C', g1, g2, ec, kt⟩ := T.ex
  rw [hx] at g1; injection g1 with g1; subst g1; subst hd
  have hv' : bootBuiltins "isinstance" = some (.builtin "isinstance") := by decide +kernel
  have e1 : PE (X.suite a ((a, oe) :: pn)) (.Name n p1) (tVar i) := pe_var hN hv hdn hcd
  have e2 : PE (X.suite a ((a, oe) :: pn)) (.Name c p2) (tC (.ref C')) := pe_glob hgc g2 rfl hdc
  refine ⟨pe_imp (pe_callB (X := X.suite a ((a, oe) :: pn)) (call_isE ec hz hf) hg hm hv' (pa_cons e1 (pa_cons e2 pa_nil he2) he) (by decide) (by decide) he hpl) fun σ H Q ⟨ι, h, e, r, q⟩ => ?_, mono_isE⟩
  obtain ⟨v, h1, h2⟩ := r.en.get i _ (slot_get q.1)
  cases h2
  exact ⟨_, h1, .ref C', .ref C', b, rfl, fun u hu => hu, kt, q.2 ι H _ Kp.refl r (.bl _)⟩

/-! ### the law's own promise -/
def spLaw0 (n : Nat) (K : PySem.W.Frag) : Sp := fun vs H Q _ => ∃ (a : Addr) (ns : List Int), vs = [.ref a] ∧ SqL K H a (ns.map V.int) ∧ ns.length ≤ n ∧ ∀ H', Q (.bl true) H'
def lawSpc (n : Nat) : Spc (List Int) where
  pre := fun ns ds => ds = [.lst (ns.map .int)] ∧ ns.length ≤ n
  res := fun _ o => o = .val (.bl true)
  exc := fun _ _ => False
theorem law_imp {P : Program} {w : World} {K : PySem.W.Frag} {mg : Str → Option Value} {base : Heap} {n k : Nat} {f : Addr} {fd : FuncData} {ps : List Str} (F : FnOk P w K mg base (L2.CX P w) k f fd ps (spP K mg (lawSpc n))) : FnOk P w K mg base (L2.CX P w) k f fd ps (spLaw0 n K) := by
  refine F.imp fun vs H Q E ⟨a, ns, ev, hs, hl, q⟩ => ?_
  subst ev
  refine ⟨ns, [.lst (ns.map .int)], .cons (.lst (sq_fl hs) (ints_dens ns)) .nil, ⟨rfl, hl⟩, fun o v H' ho _ hr => ?_, fun _ _ _ _ c => c.elim⟩
  have ho' : o = .val (.bl true) := ho
  subst ho'
  rw [den_bl hr.2]
  exact q H'
theorem cx_no {P : Program} {w : World} {H : Hp} {s : Shared} {e : Value} {s' : Shared} (c : L2.CX P w [] H s (fun _ _ _ => False) e s') : False := by
  obtain ⟨_, _, _, _, _, _, _, _, _, _, _, _, q⟩ := c
  exact q
end Dn


namespace Dn
open PySem PySem.Spec PyProof.Rows L2
/-- the suite's code, for the one class nm of errors that comes -/
def onlyX (nm : Str) (t : Addr → dS) : Addr → Ex → dS := fun a x A e h => (x.cls = nm ∧ x.fld = []) ∧ t a A e h
section
variable {X : Cx} {z : Zs} {W : WX} {cat : Str → Str → Option Bool} {c n nm : Str} {i : Nat} {body suite : List Stmt} {b₀ : Stmt} {np pos pos' : Pos} {tb : dS} {t : Addr → dS}
theorem mono_onlyX (Tx : ExcHas X.K X.mg nm)
    (hsu : ∀ (a : Addr) (oe : Obj) (cls : Value) (d : Option Addr) (pn : List (Addr × Obj)), Zc cls d oe → (∃ vs, oe.data = .fields vs) → X.mg nm = some cls → d = none → DSs (X.suite a ((a, oe) :: pn)) z NoW (b₀ :: suite) (t a)) : ∀ a x, MonoS (onlyX nm t a x) := fun a x A B e h le q => by
  obtain ⟨C, T⟩ := Tx.ex
  exact ⟨q.1, (hsu a { cls := .ref C, data := .fields #[] } (.ref C) none [] ⟨rfl, rfl⟩ ⟨_, rfl⟩ T.g rfl).mono _ _ _ _ le q.2⟩
theorem hsu_onlyX 
    (hsu : ∀ (a : Addr) (oe : Obj) (cls : Value) (d : Option Addr) (pn : List (Addr × Obj)), Zc cls d oe → (∃ vs, oe.data = .fields vs) → X.mg nm = some cls → d = none → DSs (X.suite a ((a, oe) :: pn)) z NoW (b₀ :: suite) (t a))
    (a : Addr) (oe : Obj) (cls : Value) (d : Option Addr) (pn : List (Addr × Obj)) (x : Ex) (hz : Zc cls d oe) (hf : ∃ vs, oe.data = .fields vs) (hx : X.mg x.cls = some cls) (hd : x.fld = [] → d = none) (m : MonoS (onlyX nm t a x)) : DSs (X.suite a ((a, oe) :: pn)) z NoW (b₀ :: suite) (onlyX nm t a x) := by
  refine ⟨⟨fun pins s σ H A I ⟨ι, h', e, r, hc, q⟩ => ?_⟩, m⟩
  exact (hsu a oe cls d pn hz hf (by rw [← hc.1]; exact hx) (hd hc.2)).run.run pins s σ H A I ⟨ι, h', e, r, q⟩
theorem dn_tryAs (Tc : ExcHas X.K X.mg c) (Tx : ExcHas X.K X.mg nm) (hg : Gl X c) (hdb : (c == ("__debug__" : Str)) = false) (hcat : CatOk X.K X.mg cat) (tk : Takes X W) (hs : X.stack = X.env :: X.outer) (hf : X.env.frame = some X.env.locals) (hN : X.N.Nodup) (hi : X.N[i]? = some n) (hln : X.env.kindOf n = some .local)
    (hb : ∀ (W' : WX) (pn : List (Addr × Obj)) (xe : Value → Shared → Prop), Takes (X.tr pn xe) W' → PassesOwn (model X.prog X.w) X.A X.env xe → DSs (X.tr pn xe) z W' body tb)
    (hsu : ∀ (a : Addr) (oe : Obj) (cls : Value) (d : Option Addr) (pn : List (Addr × Obj)), Zc cls d oe → (∃ vs, oe.data = .fields vs) → X.mg nm = some cls → d = none → DSs (X.suite a ((a, oe) :: pn)) z NoW (b₀ :: suite) (t a)) :
    DS X z W (.Try body [.ExceptHandler (some (.Name c np)) (some n) (b₀ :: suite) pos'] [] [] pos) (sTryAs cat c i tb (onlyX nm t)) := by
  obtain ⟨C, T⟩ := Tc.ex
  have m := mono_onlyX Tx hsu
  exact ds_tryAs hs hf hN hi hln ⟨hg, hdb, .inl T.g⟩ T.g hcat tk hb (fun a oe cls d pn x hz hv hx hd => hsu_onlyX hsu a oe cls d pn x hz hv hx hd (m a x)) (hb NoW [] (fun _ _ => False) takes0 PassesOwn.never).mono m
theorem dn_try (Tc : ExcHas X.K X.mg c) (Tx : ExcHas X.K X.mg nm) (hg : Gl X c) (hdb : (c == ("__debug__" : Str)) = false) (hcat : CatOk X.K X.mg cat) (tk : Takes X W) (hs : X.stack = X.env :: X.outer) (hf : X.env.frame = some X.env.locals)
    (hb : ∀ (W' : WX) (pn : List (Addr × Obj)) (xe : Value → Shared → Prop), Takes (X.tr pn xe) W' → PassesOwn (model X.prog X.w) X.A X.env xe → DSs (X.tr pn xe) z W' body tb)
    (hsu : ∀ (a : Addr) (oe : Obj) (cls : Value) (d : Option Addr) (pn : List (Addr × Obj)), Zc cls d oe → (∃ vs, oe.data = .fields vs) → X.mg nm = some cls → d = none → DSs (X.suite a ((a, oe) :: pn)) z NoW (b₀ :: suite) (t a)) :
    DS X z W (.Try body [.ExceptHandler (some (.Name c np)) none (b₀ :: suite) pos'] [] [] pos) (sTry cat c tb (onlyX nm t)) := by
  obtain ⟨C, T⟩ := Tc.ex
  have m := mono_onlyX Tx hsu
  exact ds_try hs hf ⟨hg, hdb, .inl T.g⟩ T.g hcat tk hb (fun a oe cls d pn x hz hv hx hd => hsu_onlyX hsu a oe cls d pn x hz hv hx hd (m a x)) (hb NoW [] (fun _ _ => False) takes0 PassesOwn.never).mono m
end
/-- x += e -/
def iaddF : D → D → Hh → Rs
  | .int i, .int j, h => .ok (.int (i + j)) h
  | _, _, _ => .no
theorem od_iadd {K : PySem.W.Frag} : OpD K iaddF (ipI fun i j => i + j) := by
  intro z ι h e H σ x y a b Q r da db q
  unfold iaddF at q
  split at q
  · have := den_int da; have := den_int db; subst_vars
    exact ⟨_, _, rfl, rfl, q ι H _ Kp.refl r (.int _)⟩
  · exact q.elim
end Dn


namespace Dn
open PySem PySem.Spec PyProof.Rows L2
/-! ### sizes -/
abbrev Bt (m : Nat) (x : Int) : Prop := Builtin.Int.intBits x ≤ m
theorem bt_iff {m : Nat} {x : Int} : Bt m x ↔ x.natAbs < 2 ^ m := PySem.intBits_le_iff
theorem bt_mul {a b : Int} {m : Nat} (ha : Bt m a) (hb : Bt m b) (h : m ≤ 60000000) : MulOk a b := PyProof.Rows.mulOk_of_bits ha hb (by omega)
theorem bt_mono {m n : Nat} {x : Int} (h : Bt m x) (k : m ≤ n) : Bt n x := Nat.le_trans h k
theorem bt_div {a b : Int} (hb : Bt 8000 b) (h : b ≠ 0) : DivOk a b := by
  refine ⟨h, PyProof.noPylong_of_log2 ?_⟩
  have w := bt_iff.mp hb
  have h0 : b.natAbs ≠ 0 := by omega
  have := (Nat.log2_lt h0).mpr w
  omega
theorem bt_small {a b : Int} (h : b ≠ 0) (hb : b.natAbs < 1073741824) : DivOk a b := ⟨h, PyProof.noPylong_small hb⟩
theorem bt_mulr {a b : Int} (hb : b.natAbs < 1073741824) : MulOk a b := IntMulOk.of_right (Nat.le_trans ((bt_iff (m := 30)).mpr (by omega)) (by decide))
theorem at0 {α : Type} {a : α} {r : List α} : atI (a :: r) 0 = some a := by unfold atI ixN; rw [if_pos (by omega), if_pos (by simp only [List.length_cons]; omega)]; rfl
theorem at1 {α : Type} {a b : α} {r : List α} : atI (a :: b :: r) 1 = some b := by unfold atI ixN; rw [if_pos (by omega), if_pos (by simp only [List.length_cons]; omega)]; rfl
theorem at2 {α : Type} {a b c : α} {r : List α} : atI (a :: b :: c :: r) 2 = some c := by unfold atI ixN; rw [if_pos (by omega), if_pos (by simp only [List.length_cons]; omega)]; rfl
theorem at3 {α : Type} {a b c d : α} {r : List α} : atI (a :: b :: c :: d :: r) 3 = some d := by unfold atI ixN; rw [if_pos (by omega), if_pos (by simp only [List.length_cons]; omega)]; rfl
theorem at4 {α : Type} {a b c d e : α} {r : List α} : atI (a :: b :: c :: d :: e :: r) 4 = some e := by unfold atI ixN; rw [if_pos (by omega), if_pos (by simp only [List.length_cons]; omega)]; rfl
theorem atN {α : Type} {l : List α} (i : Int) (h : 0 ≤ i) (k : i < l.length) : atI l i = l[i.toNat]? := by simp [atI, ixN, h, k]
theorem ix0 {n : Nat} : ixN (n + 1) 0 = some 0 := by unfold ixN; rw [if_pos (by omega), if_pos (by omega)]; rfl
theorem ix1 {n : Nat} : ixN (n + 2) 1 = some 1 := by unfold ixN; rw [if_pos (by omega), if_pos (by omega)]; rfl
theorem ix2 {n : Nat} : ixN (n + 3) 2 = some 2 := by unfold ixN; rw [if_pos (by omega), if_pos (by omega)]; rfl
theorem ix3 {n : Nat} : ixN (n + 4) 3 = some 3 := by unfold ixN; rw [if_pos (by omega), if_pos (by omega)]; rfl
theorem g0 {a : O} {r : List O} : (a :: r)[0]? = some a := rfl
theorem g1 {a b : O} {r : List O} : (a :: b :: r)[1]? = some b := rfl
theorem g2 {a b c : O} {r : List O} : (a :: b :: c :: r)[2]? = some c := rfl
theorem g3 {a b c d : O} {r : List O} : (a :: b :: c :: d :: r)[3]? = some d := rfl
theorem g4 {a b c d e : O} {r : List O} : (a :: b :: c :: d :: e :: r)[4]? = some e := rfl
theorem ex_some {α : Type} {a : α} {Q : α → Prop} : (∃ d, some a = some d ∧ Q d) = Q a := propext ⟨fun ⟨d, e, q⟩ => by injection e with e; subst e; exact q, fun q => ⟨a, rfl, q⟩⟩
theorem at_mem {α : Type} {l : List α} {v : Int} (h : 0 ≤ v) (k : v < l.length) : ∃ d, d ∈ l ∧ atI l v = some d := by
  have hk : v.toNat < l.length := by omega
  exact ⟨l[v.toNat], List.getElem_mem hk, by rw [atN v h k, List.getElem?_eq_getElem hk]⟩
theorem is_NoneType_int : isaS "NoneType" "int" = false := by decide
theorem is_NoneType_bool : isaS "NoneType" "bool" = false := by decide
theorem is_NoneType_str : isaS "NoneType" "str" = false := by decide
theorem is_NoneType_tuple : isaS "NoneType" "tuple" = false := by decide
theorem is_NoneType_list : isaS "NoneType" "list" = false := by decide
theorem is_bool_int : isaS "bool" "int" = true := by decide
theorem is_bool_bool : isaS "bool" "bool" = true := by decide
theorem is_bool_str : isaS "bool" "str" = false := by decide
theorem is_bool_tuple : isaS "bool" "tuple" = false := by decide
theorem is_bool_list : isaS "bool" "list" = false := by decide
theorem is_int_int : isaS "int" "int" = true := by decide
theorem is_int_bool : isaS "int" "bool" = false := by decide
theorem is_int_str : isaS "int" "str" = false := by decide
theorem is_int_tuple : isaS "int" "tuple" = false := by decide
theorem is_int_list : isaS "int" "list" = false := by decide
theorem is_str_int : isaS "str" "int" = false := by decide
theorem is_str_bool : isaS "str" "bool" = false := by decide
theorem is_str_str : isaS "str" "str" = true := by decide
theorem is_str_tuple : isaS "str" "tuple" = false := by decide
theorem is_str_list : isaS "str" "list" = false := by decide
theorem is_tuple_int : isaS "tuple" "int" = false := by decide
theorem is_tuple_bool : isaS "tuple" "bool" = false := by decide
theorem is_tuple_str : isaS "tuple" "str" = false := by decide
theorem is_tuple_tuple : isaS "tuple" "tuple" = true := by decide
theorem is_tuple_list : isaS "tuple" "list" = false := by decide
theorem is_list_int : isaS "list" "int" = false := by decide
theorem is_list_bool : isaS "list" "bool" = false := by decide
theorem is_list_str : isaS "list" "str" = false := by decide
theorem is_list_tuple : isaS "list" "tuple" = false := by decide
theorem is_list_list : isaS "list" "list" = true := by decide
theorem ints_at {lo : Int} {n i : Nat} {x : D} (h : (intsUp lo n)[i]? = some x) : i < n ∧ x = .int (lo + i) := by
  unfold intsUp at h
  rw [List.getElem?_map] at h
  by_cases hi : i < n
  · rw [List.getElem?_eq_getElem (by simpa using hi)] at h
    simp at h
    exact ⟨hi, h.symm⟩
  · rw [List.getElem?_eq_none (by simpa using hi)] at h
    cases h
/-! ### calls in use -/
def useP {α : Type} (g : Spc α) (ds : List D) (h : Hh) (Q : D → Hh → Prop) (E : XK') : Prop := ∃ x es, Views h (fun _ => True) ds es ∧ g.pre x es ∧ (∀ o, g.res x o → outPure o = true → outPost Q h o) ∧ (∀ ex, g.exc x ex → pureX ex = true → E ex h)
theorem dCallP_eq {α : Type} {g : Spc α} {ta : dA} : dCallP g ta = fun e h Q E => ta e h (fun ds h1 => useP g ds h1 Q E) E := rfl
def useD {α : Type} (g : SpcD α) (ds : List D) (h1 : Hh) (Q : D → Hh → Prop) : Prop := match ds with
  | .ref n :: rest => ∃ x es s m, n ≠ m ∧ h1[n]? = some (.lst (drD m s)) ∧ h1[m]? = some (.lst (s.c.map .int)) ∧ Views h1 (fun j => j ≠ n ∧ j ≠ m) rest es ∧ g.pre x es s ∧ ∀ o s', g.res x o s' → s'.c = s.c → outPure o = true → outPost Q (h1.set n (.lst (drD m s'))) o
  | _ => False
theorem dCallD_eq {α : Type} {g : SpcD α} {ta : dA} : dCallD g ta = fun e h Q E => ta e h (fun ds h1 => useD g ds h1 Q) E := rfl
theorem useP_mk {α : Type} {g : Spc α} {ds : List D} {h : Hh} {Q : D → Hh → Prop} {E : XK'} (x : α) (es : List D) (v : Views h (fun _ => True) ds es) (p : g.pre x es) (r : ∀ o, g.res x o → outPure o = true → outPost Q h o) (e : ∀ ex, ¬ g.exc x ex) : useP g ds h Q E :=
  ⟨x, es, v, p, r, fun ex q => (e ex q).elim⟩
theorem useP_val {α : Type} {g : Spc α} {ds : List D} {h : Hh} {Q : D → Hh → Prop} {E : XK'} (x : α) (d : D) (v : pureDs ds = true) (p : g.pre x ds) (r : ∀ o, g.res x o → o = .val d) (e : ∀ ex, ¬ g.exc x ex) (q : Q d h) : useP g ds h Q E :=
  useP_mk x ds (Views.pures v) p (fun o ho _ => by rw [r o ho]; exact q) e
/-- the draws at 1, their cells at 0 -/
theorem useD_10 {α : Type} {g : SpcD α} {ds : List D} {c : List Int} {s : DrS} {r : Hh} {Q : D → Hh → Prop} (x : α) (hc : s.c = c) (v : pureDs ds = true) (p : g.pre x ds s) (w : ∀ o s', g.res x o s' → s'.c = c → ∃ d, o = .val d ∧ Q d (.lst (c.map .int) :: .lst (drD 0 s') :: r)) : useD g (.ref 1 :: ds) (.lst (c.map .int) :: .lst (drD 0 s) :: r) Q :=
  ⟨x, ds, s, 0, by decide, rfl, by rw [hc]; rfl, Views.pures v, p, fun o s' ho hs _ => by
    obtain ⟨d, rfl, q⟩ := w o s' ho (hs.trans hc)
    exact q⟩
theorem sl {n : Nat} (h : Nat.blt n 1000 = true) : n < sizeLine := Nat.lt_of_lt_of_le (by simpa [Nat.blt_eq] using h) (show (1000 : Nat) ≤ sizeLine by decide)
theorem walk_mine {l : PySem.W.OpenLaw} {k : Nat} {q : Program} {loose : List Str} {XP : (Str → Option Value) → Heap → Prop} {YP : World → Heap → Prop} {d : DefRec} {K : Params → PySem.W.Frag} {x : Str}
    (hn : l.most = some 63) (hdf : d.params.defaults = []) (hr : Room k callerA)
    (hY : ∀ (w : World) (h : Heap), YP w h → (K w.params).In h)
    (F : ∀ (w : World) (mg : Str → Option Value) (fa : Addr) (h : Heap), (K w.params).In h → h.Ns mainGlobals mg → mg d.name = some (.ref fa) →
      ∃ fd : FuncData, (∀ (s : Shared) (u : Value), BindsTo s fd ⟨[u], []⟩ [(x, u)]) ∧ ∀ base : Heap, FnOk l.prog w (K w.params) mg base (L2.CX l.prog w) k fa fd [x] (spLaw0 63 (K w.params))) :
    PySem.W.WalkO q loose XP YP l.row.toRowW d [] (fun f vs => PySem.call f vs) :=
  L2.walk_of (CX := fun w => L2.CX l.prog w) (sp := fun w => spLaw0 63 (K w.params)) hn (by decide) hdf hr hY (fun w mg fa h a b c => by
    obtain ⟨fd, h1, h2⟩ := F w mg fa h a b c
    exact ⟨fd, h1, fun base _ _ => h2 base⟩) (fun _ _ a ns hl _ hS => ⟨a, ns, rfl, hS, hl, fun _ => rfl⟩) (fun _ _ _ _ _ h => cx_no h)
theorem ints_pure : ∀ c : List Int, pureDs (c.map D.int) = true
  | [] => rfl
  | _ :: r => by rw [List.map_cons]; unfold pureDs; rw [ints_pure r]; rfl
theorem cutT {A B : Prop} (f : A → B) (a : A) : B := f a
theorem bt0 {m : Nat} : Bt m 0 := bt_iff.mpr (by have := Nat.two_pow_pos m; simpa using this)
theorem bt_lit {m : Nat} {x : Int} (h : x.natAbs < 2 ^ 100) (k : 100 ≤ m) : Bt m x := bt_mono (bt_iff.mpr h) k
theorem rt_val {α : Type} {g : Spc α} {x : α} {d : D} {h : Hh} (p : pureD d = true) (q : g.res x (.val d)) : (endP g x).rt d h := Dn.outOk_val p q
theorem nx_val {α : Type} {g : Spc α} {x : α} {e : En} {h : Hh} (q : g.res x (.val .non)) : (endP g x).nx e h := show outOk (g.res x) .non h from ⟨rfl, q⟩
theorem rtD_val {α : Type} {g : SpcD α} {x : α} {c : List Int} {d : D} {h : Hh} (s' : DrS) (hc : s'.c = c) (h0 : h[0]? = some (.lst (drD 1 s'))) (h1 : h[1]? = some (.lst (c.map .int))) (p : pureD d = true) (q : g.res x (.val d) s') : (endD g x c).rt d h := ⟨s', hc, h0, h1, outOk2_val p q⟩
end Dn


namespace Dn
open PySem PySem.Spec PyProof.Rows L2
/-! ### x is True -/
def isBF : D → D → Hh → Rs
  | .bl a, .bl b, h => .ok (.bl (decide (a = b))) h
  | _, _, _ => .no
def notBF : D → D → Hh → Rs
  | .bl a, .bl b, h => .ok (.bl (!decide (a = b))) h
  | _, _, _ => .no
section
variable {K : PySem.W.Frag}
theorem od_isB : OpD K isBF rIsB := by
  intro z ι h e H σ x y a b Q r da db q
  unfold isBF at q
  split at q
  · have := den_bl da; have := den_bl db; subst_vars
    exact ⟨_, _, rfl, rfl, q ι H _ Kp.refl r (.bl _)⟩
  · exact q.elim
theorem od_notB : OpD K notBF rNotB := by
  intro z ι h e H σ x y a b Q r da db q
  unfold notBF at q
  split at q
  · have := den_bl da; have := den_bl db; subst_vars
    exact ⟨_, _, rfl, rfl, q ι H _ Kp.refl r (.bl _)⟩
  · exact q.elim
end
section
variable {X : Cx} {z : Zs} {W : WX} {a b : Expr} {ta tb : dE} {pos : Pos}
theorem de_isB (ha : DE X z W a ta) (hb : DE X z W b tb) : DE X z W (.Compare a [.Is] [b] pos) (dOp isBF ta tb) := de_cmp op_isBl od_isB ha hb (nomark _)
theorem de_notB (ha : DE X z W a ta) (hb : DE X z W b tb) : DE X z W (.Compare a [.IsNot] [b] pos) (dOp notBF ta tb) := de_cmp op_notBl od_notB ha hb (nomark _)
end
/-! ### zip of two tuples, of two borrowed lists -/
def zipD (as bs : List D) : List D := List.zipWith (fun a b => .tup [a, b]) as bs
def srcZip (ta : dA) : dSrc := fun e h Q E => ta e h (fun ds h1 => match ds with
  | [.tup as, .tup bs] => Q (zipD as bs) (fun _ => True) h1
  | [.lst as, .lst bs] => Q (zipD as bs) (fun _ => True) h1
  | _ => False) E
theorem zipD_get {as bs : List D} {i : Nat} (h1 : i < as.length) (h2 : i < bs.length) : (zipD as bs)[i]? = some (.tup [as[i], bs[i]]) := by
  unfold zipD
  rw [List.getElem?_zipWith, List.getElem?_eq_getElem h1, List.getElem?_eq_getElem h2]
theorem zipD_len (as bs : List D) : (zipD as bs).length = min as.length bs.length := by unfold zipD; simp
section
variable {K : PySem.W.Frag} {z : Zs} {ι : List Addr} {h : Hh} {H : Hp} {p q : Addr}
theorem itok_zipT {xs ys : List V} {as bs : List D} (hp : SqT K H p xs) (hq : SqT K H q ys) (hx : Dens K z ι H xs as) (hy : Dens K z ι H ys bs) (G : Hh → Prop) : ItOk K z ι H (RZ.ItzT K p q) (zipD as bs) G := by
  intro ι' h' H' k r _ i
  have hp' := k.tup _ _ hp
  have hq' := k.tup _ _ hq
  have hx' := Dens.keep k hx
  have hy' := Dens.keep k hy
  rw [zipD_len]
  refine ⟨fun hi => ⟨xs, ys, hp', hq', by rw [hx'.length, hy'.length]; omega⟩, fun hi => ?_⟩
  have i1 : i < as.length := by omega
  have i2 : i < bs.length := by omega
  obtain ⟨v, h1, h2⟩ := hx'.get (List.getElem?_eq_getElem i1)
  obtain ⟨u, h3, h4⟩ := hy'.get (List.getElem?_eq_getElem i2)
  refine ⟨⟨xs, ys, v, u, hp', hq', h1, h3⟩, fun x H'' y => ?_⟩
  obtain ⟨T, a, b, rfl, hT, rfl, ya, yb⟩ := y
  have ea : a = v := Option.some.inj ((ya xs hp').symm.trans h1)
  have eb : b = u := Option.some.inj ((yb ys hq').symm.trans h3)
  subst ea eb
  have kk : Kp K ι' ι' H' (upd H' T (.tup [a, b])) := Kp.laid hT _
  exact ⟨_, zipD_get i1 i2, kk, r.laid hT _, .tup (.inl (.inl upd_same)) (.cons (h2.keep kk) (.cons (h4.keep kk) .nil))⟩
theorem itok_zipL {xs ys : List V} {as bs : List D} (hp : FL K z p xs) (hq : FL K z q ys) (hx : Dens K z ι H xs as) (hy : Dens K z ι H ys bs) (G : Hh → Prop) : ItOk K z ι H (Itz K p q) (zipD as bs) G := by
  intro ι' h' H' k r _ i
  have hp' := fl_stay r hp
  have hq' := fl_stay r hq
  have hx' := Dens.keep k hx
  have hy' := Dens.keep k hy
  rw [zipD_len]
  refine ⟨fun hi => ⟨xs, ys, hp', hq', by rw [hx'.length, hy'.length]; omega⟩, fun hi => ?_⟩
  have i1 : i < as.length := by omega
  have i2 : i < bs.length := by omega
  obtain ⟨v, h1, h2⟩ := hx'.get (List.getElem?_eq_getElem i1)
  obtain ⟨u, h3, h4⟩ := hy'.get (List.getElem?_eq_getElem i2)
  refine ⟨⟨xs, ys, v, u, hp', hq', h1, h3⟩, fun x H'' y => ?_⟩
  obtain ⟨T, a, b, rfl, hT, rfl, ya, yb⟩ := y
  have ea : a = v := Option.some.inj ((ya xs hp').symm.trans h1)
  have eb : b = u := Option.some.inj ((yb ys hq').symm.trans h3)
  subst ea eb
  have kk : Kp K ι' ι' H' (upd H' T (.tup [a, b])) := Kp.laid hT _
  exact ⟨_, zipD_get i1 i2, kk, r.laid hT _, .tup (.inl (.inl upd_same)) (.cons (h2.keep kk) (.cons (h4.keep kk) .nil))⟩
end
section
variable {X : Cx} {z : Zs} {W : WX} {elts : List Expr} {kk : Nat} {a b : Expr} {ta : dA} {p pos tpos : Pos}
theorem di_zip (hg : Gl X "zip") (hm : X.mg "zip" = none) (ha : DA X z W [a, b] ta 2) (hs : starEach [a, b] X.env = (false, eval a X.env) :: starEach [b] X.env) (hpl : (backTo pos (starEach [b] X.env)).any (·.1) = false) :
    DI X z W (.Tuple elts kk tpos) (.Call (.Name "zip" p) [a, b] [] pos) (srcZip ta) := by
  refine ⟨pi_imp (RZ.pi_zipA hg hm ha.run hs hpl) fun σ H RR ⟨ι, h, e, r, q⟩ => liftA_of ha.mono r q (fun ds h1 ι1 H1 vs q1 k1 r1 d1 => ?_) fun _ _ q => q, fun e h Q Q' E E' hQ hE q => ha.mono _ _ _ _ _ _ (fun x h1 q1 => ?_) hE q⟩
  · split at q1
    · obtain ⟨v, u, rfl, dv, du⟩ := dens2 d1
      obtain ⟨p1, xs, rfl, hp, hx⟩ := den_tup dv
      obtain ⟨p2, ys, rfl, hq, hy⟩ := den_tup du
      exact ⟨p1, p2, xs, ys, rfl, .inr ⟨hp, hq, q1 ι1 H1 _ k1 r1 trivial (itok_zipT hp hq hx hy _)⟩⟩
    · obtain ⟨v, u, rfl, dv, du⟩ := dens2 d1
      cases dv with
      | lst hp hx => cases du with
        | lst hq hy => exact ⟨_, _, _, _, rfl, .inl ⟨fl_stay r1.hp hp, fl_stay r1.hp hq, q1 ι1 H1 _ k1 r1 trivial (itok_zipL hp hq hx hy _)⟩⟩
    · exact q1.elim
  · split at q1
    · exact hQ _ _ _ q1
    · exact hQ _ _ _ q1
    · exact q1.elim
end
end Dn


namespace Dn
open PySem PySem.Spec PyProof.Rows L2
/-! ### a tuple times 1, times 0 or less -/
theorem tup_mul1 (l : Addr) (items : Array Value) (n : Nat) (dd : Option Addr) (sl : Array (Option Value)) (u : Tok) :
    Meets (Builtin.«tuple.__mul__» ⟨[.ref l, .int 1 u], []⟩) (fun _ R s => s.heap.get? l = some { cls := .type "tuple", dict := dd, data := .seq items n, slots := sl } ∧ R (.ok (.ret (Value.ref l))) s) :=
  .of_wp fun prog w A R s h => by
    obtain ⟨hp, g, d, tk, os⟩ := s
    obtain ⟨hl, h⟩ := h
    have f1 := AutoSeq1.idx_int
    wp_walk using wpAny_loadPart' hl
    exact ⟨_, rfl, h⟩
theorem tup_mul0 (l : Addr) (items : Array Value) (n : Nat) (dd : Option Addr) (sl : Array (Option Value)) (x : Int) (u : Tok) (c0 : (decide (x < -(2 ^ 63)) || decide (x ≥ 2 ^ 63)) = false) (c1 : (items.isEmpty || x == 1) = false) (c2 : (decide (x ≤ 0) || items.isEmpty) = true) :
    Meets (Builtin.«tuple.__mul__» ⟨[.ref l, .int x u], []⟩) (fun _ R s => s.heap.get? l = some { cls := .type "tuple", dict := dd, data := .seq items n, slots := sl } ∧
      R (.ok (.ret (Value.ref s.heap.objs.size))) { s with heap := s.heap.push { cls := Value.type "tuple", data := Data.seq #[] }, toks := s.toks }) :=
  .of_wp fun prog w A R s h => by
    obtain ⟨hp, g, d, tk, os⟩ := s
    obtain ⟨hl, h⟩ := h
    have f1 := AutoSeq1.idx_int
    wp_walk using wpAny_loadPart' hl
    repeat (first
      | (refine wpAny_ite_false (decide_eq_false (by rw [c0]; exact Bool.false_ne_true)) ?_; wp_walk using wpAny_loadPart' hl)
      | (refine wpAny_ite_false (decide_eq_false (by rw [c1]; exact Bool.false_ne_true)) ?_; wp_walk using wpAny_loadPart' hl)
      | (refine wpAny_ite_true (decide_eq_true (by rw [c2])) ?_; wp_walk using wpAny_loadPart' hl))
    exact ⟨_, rfl, h⟩
def rRep1 (K : PySem.W.Frag) : R2 := fun x y H Q => ∃ l xs, x = .ref l ∧ y = .int 1 ∧ SqT K H l xs ∧ Q (.ref l) H
def rRep0 (K : PySem.W.Frag) : R2 := fun x y H Q => ∃ l k xs, x = .ref l ∧ y = .int k ∧ SqT K H l xs ∧ xs ≠ [] ∧ k ≤ 0 ∧ -(2 ^ 63) ≤ k ∧ ∀ p, H p = none → Q (.ref p) (upd H p (.tup []))
section
variable {X : Cx}
theorem op_rep1 : OpR X (binaryOp .Mult) (rRep1 X.K) := by
  intro pins s σ H x y v u Q I rx ry h
  obtain ⟨l, xs, rfl, rfl, hT, q⟩ := h
  cases rx
  obtain ⟨t, rfl⟩ := ry
  obtain ⟨its, r, ⟨⟨cls, dd, data, sl⟩, ho, hc, n, hd⟩, hs⟩ := I.tuple hT
  simp only at hc hd
  subst hc hd
  refine wpAny_binaryOp_repeat_ref (T := "tuple") (U := "int") (by decide) ⟨_, ho, rfl⟩ (fun s' => typeIs_int s' 1 t) noFill_tuple_mul F.fills_int_mul F.slot_int_rmul repeat_tuple F.slot_int_index.lookup
    (call_meets F.slot_int_rmul (typeIs_int s 1 t) F.entry_int_rmul (F.args_int_rmul_2 _ _) (int_rmul_tuple 1 t l its.toArray n dd sl)
      ⟨ho, rfl, ⟨_, ho, rfl⟩, call_meets F.slot_tuple_mul ⟨_, ho, rfl⟩ F.entry_tuple_mul (F.args_tuple_mul_2 _ _) (tup_mul1 l its.toArray n dd sl t) ⟨ho, ?_⟩⟩)
  exact ⟨.ref l, H, I, rfl, q⟩
theorem op_rep0 : OpR X (binaryOp .Mult) (rRep0 X.K) := by
  intro pins s σ H x y v u Q I rx ry h
  obtain ⟨l, k, xs, rfl, rfl, hT, hne, h1, h2, q⟩ := h
  cases rx
  obtain ⟨t, rfl⟩ := ry
  obtain ⟨its, r, ⟨⟨cls, dd, data, sl⟩, ho, hc, n, hd⟩, hs⟩ := I.tuple hT
  simp only at hc hd
  subst hc hd
  have hle : its.length = xs.length := r.length.symm
  have hn : its ≠ [] := fun e => hne (by
    rw [e] at hle
    exact List.eq_nil_of_length_eq_zero hle.symm)
  have hi : its.toArray.isEmpty = false := by
    cases its with
    | nil => exact absurd rfl hn
    | cons a b => rfl
  have c0 : (decide (k < -(2 ^ 63)) || decide (k ≥ 2 ^ 63)) = false := by
    rw [decide_eq_false (by omega), decide_eq_false (by omega)] <;> rfl
  have c1 : (its.toArray.isEmpty || k == 1) = false := by
    rw [hi, Bool.false_or]
    exact beq_eq_false_iff_ne.mpr (by omega)
  have c2 : (decide (k ≤ 0) || its.toArray.isEmpty) = true := by
    rw [decide_eq_true h1]; rfl
  refine wpAny_binaryOp_repeat_ref (T := "tuple") (U := "int") (by decide) ⟨_, ho, rfl⟩ (fun s' => typeIs_int s' k t) noFill_tuple_mul F.fills_int_mul F.slot_int_rmul repeat_tuple F.slot_int_index.lookup
    (call_meets F.slot_int_rmul (typeIs_int s k t) F.entry_int_rmul (F.args_int_rmul_2 _ _) (int_rmul_tuple k t l its.toArray n dd sl)
      ⟨ho, rfl, ⟨_, ho, rfl⟩, call_meets F.slot_tuple_mul ⟨_, ho, rfl⟩ F.entry_tuple_mul (F.args_tuple_mul_2 _ _) (tup_mul0 l its.toArray n dd sl k t c0 c1 c2) ⟨ho, ?_⟩⟩)
  refine ⟨.ref s.heap.objs.size, _, I.laid (t' := s.toks) (o := .tup []) (fun b ob q => Heap.get?_push_of_some _ q) (Nat.le_refl _) ?_, rfl, q _ (I.hok.fresh (Nat.le_refl _))⟩
  exact ⟨Nat.zero_le _, [], .nil, IsTup.new _ _⟩
end
/-- a tuple that is not empty, times a small number -/
def repF : D → D → Hh → Rs
  | .tup ds, .int k, h => .cond (ds ≠ [] ∧ ds.length ≤ 1000 ∧ -1000 ≤ k ∧ k ≤ 1000) (.tup (List.replicate k.toNat ds).flatten) h
  | _, _, _ => .no
def rRepA (K : PySem.W.Frag) : R2 := fun x y H Q => rRep1 K x y H Q ∨ rRep0 K x y H Q ∨ rRepT K x y H Q
theorem op_repA {X : Cx} : OpR X (binaryOp .Mult) (rRepA X.K) := OpR.or op_rep1 (OpR.or op_rep0 op_repT)
theorem od_rep {K : PySem.W.Frag} : OpD K repF (rRepA K) := by
  intro z ι h e H σ x y a b Q r da db q
  unfold repF at q
  split at q
  · rename_i ds k
    obtain ⟨p, xs, rfl, hp, hx⟩ := den_tup da
    have := den_int db; subst_vars
    obtain ⟨⟨c1, c2, c3, c4⟩, q⟩ := q
    have hne : xs ≠ [] := fun e => c1 (by subst e; cases hx; rfl)
    by_cases k1 : k = 1
    · subst k1
      refine .inl ⟨p, xs, rfl, rfl, hp, q ι H _ Kp.refl r ?_⟩
      have e : (List.replicate (1 : Int).toNat ds).flatten = ds := by simp
      rw [e]; exact .tup hp hx
    · by_cases k0 : k ≤ 0
      · refine .inr (.inl ⟨p, k, xs, rfl, rfl, hp, hne, k0, by omega, fun t ht => ?_⟩)
        have e : (List.replicate k.toNat ds).flatten = [] := by rw [show k.toNat = 0 by omega]; rfl
        rw [e] at q
        exact new_tup r .nil q t ht
      · refine .inr (.inr ⟨p, k, xs, rfl, rfl, hp, hne, by omega, c4, by rw [hx.length]; exact c2, fun t ht => ?_⟩)
        exact new_tup r (hx.rep _) q t ht
  · exact q.elim
theorem de_rep {X : Cx} {z : Zs} {W : WX} {a b : Expr} {ta tb : dE} {pos : Pos} (ha : DE X z W a ta) (hb : DE X z W b tb) : DE X z W (.BinOp a .Mult b pos) (dOp repF ta tb) := de_bin op_repA od_rep ha hb
/-! ### sum, all, any of an owned list -/
def intsOf : List D → Option (List Int)
  | [] => some []
  | .int i :: r => (intsOf r).map fun l => i :: l
  | _ :: _ => none
def blsOf : List D → Option (List Bool)
  | [] => some []
  | .bl i :: r => (blsOf r).map fun l => i :: l
  | _ :: _ => none
theorem intsOf_map : ∀ l : List Int, intsOf (l.map .int) = some l
  | [] => rfl
  | x :: r => by rw [List.map_cons]; unfold intsOf; rw [intsOf_map r]; rfl
theorem blsOf_map : ∀ l : List Bool, blsOf (l.map .bl) = some l
  | [] => rfl
  | x :: r => by rw [List.map_cons]; unfold blsOf; rw [blsOf_map r]; rfl
theorem intsOf_eq : ∀ {ds : List D} {l : List Int}, intsOf ds = some l → ds = l.map .int
  | [], l, h => by unfold intsOf at h; injection h with h; subst h; rfl
  | .int i :: r, l, h => by
    unfold intsOf at h
    cases e : intsOf r with
    | none => rw [e] at h; cases h
    | some q => rw [e] at h; injection h with h; subst h; rw [intsOf_eq e]; rfl
theorem blsOf_eq : ∀ {ds : List D} {l : List Bool}, blsOf ds = some l → ds = l.map .bl
  | [], l, h => by unfold blsOf at h; injection h with h; subst h; rfl
  | .bl i :: r, l, h => by
    unfold blsOf at h
    cases e : blsOf r with
    | none => rw [e] at h; cases h
    | some q => rw [e] at h; injection h with h; subst h; rw [blsOf_eq e]; rfl
theorem dens_bls {K : PySem.W.Frag} {z : Zs} {ι : List Addr} {H : Hp} : ∀ {xs : List V} {c : List Bool}, Dens K z ι H xs (c.map .bl) → xs = c.map V.bl
  | _, [], q => by cases q; rfl
  | _, b :: c, q => by
    rw [List.map_cons] at q
    cases q with
    | cons a q => rw [den_bl a, dens_bls q]; rfl
def sumF : List D → Hh → Rs
  | [.ref n], h => match h[n]? with
    | some (.lst ds) => match intsOf ds with
      | some l => .ok (.int l.sum) h
      | none => .no
    | none => .no
  | _, _ => .no
def allF : List D → Hh → Rs
  | [.ref n], h => match h[n]? with
    | some (.lst ds) => match blsOf ds with
      | some l => .ok (.bl (l.all id)) h
      | none => .no
    | none => .no
  | _, _ => .no
def anyF : List D → Hh → Rs
  | [.ref n], h => match h[n]? with
    | some (.lst ds) => match blsOf ds with
      | some l => .ok (.bl (l.any id)) h
      | none => .no
    | none => .no
  | _, _ => .no
section
variable {K : PySem.W.Frag}
theorem cd_sum : CallD K sumF (rSum K) := by
  intro z ι h e H σ xs ds Q r d q
  unfold sumF at q
  split at q
  · split at q
    · rename_i h1
      split at q
      · rename_i l hl
        obtain ⟨v, rfl, dv⟩ := dens1 d
        obtain ⟨p, ys, rfl, _, hp, hx, _⟩ := r.hp.list dv h1
        rw [intsOf_eq hl] at hx
        rw [dens_ints hx] at hp
        exact ⟨p, l, rfl, .inl (.inl hp), q ι H _ Kp.refl r (.int _)⟩
      · exact q.elim
    · exact q.elim
  · exact q.elim
theorem cd_all : CallD K allF (rAll K) := by
  intro z ι h e H σ xs ds Q r d q
  unfold allF at q
  split at q
  · split at q
    · rename_i h1
      split at q
      · rename_i l hl
        obtain ⟨v, rfl, dv⟩ := dens1 d
        obtain ⟨p, ys, rfl, _, hp, hx, _⟩ := r.hp.list dv h1
        rw [blsOf_eq hl] at hx
        rw [dens_bls hx] at hp
        exact ⟨p, l, rfl, .inl (.inl hp), q ι H _ Kp.refl r (.bl _)⟩
      · exact q.elim
    · exact q.elim
  · exact q.elim
theorem cd_any : CallD K anyF (rAny K) := by
  intro z ι h e H σ xs ds Q r d q
  unfold anyF at q
  split at q
  · split at q
    · rename_i h1
      split at q
      · rename_i l hl
        obtain ⟨v, rfl, dv⟩ := dens1 d
        obtain ⟨p, ys, rfl, _, hp, hx, _⟩ := r.hp.list dv h1
        rw [blsOf_eq hl] at hx
        rw [dens_bls hx] at hp
        exact ⟨p, l, rfl, .inl (.inl hp), q ι H _ Kp.refl r (.bl _)⟩
      · exact q.elim
    · exact q.elim
  · exact q.elim
end
end Dn


namespace Law
open PySem PySem.Spec PyProof.Rows L2 Dn

local macro_rules | `(tactic| walk_at "vis") => `(tactic| first | exact Or.inl rfl | exact Or.inr (Or.inl rfl) | exact Or.inr (Or.inr rfl))
local macro_rules | `(tactic| walk_at "locs") => `(tactic| first | exact Or.inl rfl | exact Or.inr rfl)
local macro_rules | `(tactic| walk_at "fnn") => `(tactic| first | exact Or.inl rfl | exact Or.inr rfl)
def topS (i : Nat) : Stmt := PySem.Challenge.pw_lastchip_k20_bodies_in_time.main.body.getD i (.Pass ⟨0, 0, 0, 0⟩)
abbrev s__law_gcd : Stmt := topS 13
abbrev nm__law_gcd : List Str := ["a", "b"]
theorem sc__law_gcd : FnScope nm__law_gcd ["a", "b"] (defScope s__law_gcd) := ⟨rfl, rfl, rfl, by decide +kernel, rfl, by decide +kernel, by decide +kernel⟩
abbrev s__law_draws : Stmt := topS 9
abbrev nm__law_draws : List Str := ["script"]
theorem sc__law_draws : FnScope nm__law_draws ["script"] (defScope s__law_draws) := ⟨rfl, rfl, rfl, by decide +kernel, rfl, by decide +kernel, by decide +kernel⟩
abbrev s__law_draw : Stmt := topS 10
abbrev nm__law_draw : List Str := ["draws", "limit", "cell", "value"]
theorem sc__law_draw : FnScope nm__law_draw ["draws", "limit"] (defScope s__law_draw) := ⟨rfl, rfl, rfl, by decide +kernel, rfl, by decide +kernel, by decide +kernel⟩
abbrev s__law_same : Stmt := topS 12
abbrev nm__law_same : List Str := ["actual", "expected", "k"]
theorem sc__law_same : FnScope nm__law_same ["actual", "expected"] (defScope s__law_same) := ⟨rfl, rfl, rfl, by decide +kernel, rfl, by decide +kernel, by decide +kernel⟩
abbrev s_weight : Stmt := topS 1
abbrev nm_weight : List Str := ["form", "place", "total", "a", "x"]
theorem sc_weight : FnScope nm_weight ["form", "place"] (defScope s_weight) := ⟨rfl, rfl, rfl, by decide +kernel, rfl, by decide +kernel, by decide +kernel⟩
abbrev s_keeps : Stmt := topS 3
abbrev nm_keeps : List Str := ["clause", "place", "form", "kind", "found"]
theorem sc_keeps : FnScope nm_keeps ["clause", "place"] (defScope s_keeps) := ⟨rfl, rfl, rfl, by decide +kernel, rfl, by decide +kernel, by decide +kernel⟩
abbrev s__law_near : Stmt := topS 11
abbrev nm__law_near : List Str := ["draws", "most"]
theorem sc__law_near : FnScope nm__law_near ["draws", "most"] (defScope s__law_near) := ⟨rfl, rfl, rfl, by decide +kernel, rfl, by decide +kernel, by decide +kernel⟩
abbrev s__law_weight : Stmt := topS 16
abbrev nm__law_weight : List Str := ["form", "place", "total", "k"]
theorem sc__law_weight : FnScope nm__law_weight ["form", "place"] (defScope s__law_weight) := ⟨rfl, rfl, rfl, by decide +kernel, rfl, by decide +kernel, by decide +kernel⟩
abbrev s__law_low : Stmt := topS 15
abbrev nm__law_low : List Str := ["numbers", "part", "number"]
theorem sc__law_low : FnScope nm__law_low ["numbers"] (defScope s__law_low) := ⟨rfl, rfl, rfl, by decide +kernel, rfl, by decide +kernel, by decide +kernel⟩
abbrev s_holds : Stmt := topS 4
abbrev nm_holds : List Str := ["cell", "place", "clause"]
theorem sc_holds : FnScope nm_holds ["cell", "place"] (defScope s_holds) := ⟨rfl, rfl, rfl, by decide +kernel, rfl, by decide +kernel, by decide +kernel⟩
abbrev s_moving : Stmt := topS 6
abbrev nm_moving : List Str := ["form", "start", "vector", "w", "u", "row", "speed", "rest", "a"]
theorem sc_moving : FnScope nm_moving ["form", "start", "vector"] (defScope s_moving) := ⟨rfl, rfl, rfl, by decide +kernel, rfl, by decide +kernel, by decide +kernel⟩
abbrev s_in_time : Stmt := topS 7
abbrev nm_in_time : List Str := ["forms", "start", "vector", "size", "row", "form"]
theorem sc_in_time : FnScope nm_in_time ["forms", "start", "vector", "size"] (defScope s_in_time) := ⟨rfl, rfl, rfl, by decide +kernel, rfl, by decide +kernel, by decide +kernel⟩
abbrev s__law_ratio : Stmt := topS 14
abbrev nm__law_ratio : List Str := ["n", "d", "part"]
theorem sc__law_ratio : FnScope nm__law_ratio ["n", "d"] (defScope s__law_ratio) := ⟨rfl, rfl, rfl, by decide +kernel, rfl, by decide +kernel, by decide +kernel⟩
abbrev s__law_moving : Stmt := topS 17
abbrev nm__law_moving : List Str := ["form", "start", "vector", "w", "u", "speed", "a"]
theorem sc__law_moving : FnScope nm__law_moving ["form", "start", "vector"] (defScope s__law_moving) := ⟨rfl, rfl, rfl, by decide +kernel, rfl, by decide +kernel, by decide +kernel⟩
abbrev s__law_vector : Stmt := topS 18
abbrev nm__law_vector : List Str := ["draws", "size", "way", "k"]
theorem sc__law_vector : FnScope nm__law_vector ["draws", "size"] (defScope s__law_vector) := ⟨rfl, rfl, rfl, by decide +kernel, rfl, by decide +kernel, by decide +kernel⟩
abbrev s__law_tip : Stmt := topS 19
abbrev nm__law_tip : List Str := ["draws", "size", "k"]
theorem sc__law_tip : FnScope nm__law_tip ["draws", "size"] (defScope s__law_tip) := ⟨rfl, rfl, rfl, by decide +kernel, rfl, by decide +kernel, by decide +kernel⟩
abbrev s__law_gap : Stmt := topS 22
abbrev nm__law_gap : List Str := ["place", "tip", "k"]
theorem sc__law_gap : FnScope nm__law_gap ["place", "tip"] (defScope s__law_gap) := ⟨rfl, rfl, rfl, by decide +kernel, rfl, by decide +kernel, by decide +kernel⟩
abbrev s__law_tool : Stmt := topS 20
abbrev nm__law_tool : List Str := ["draws", "size", "kind", "off", "forms", "k", "j"]
theorem sc__law_tool : FnScope nm__law_tool ["draws", "size"] (defScope s__law_tool) := ⟨rfl, rfl, rfl, by decide +kernel, rfl, by decide +kernel, by decide +kernel⟩
abbrev s__law_tip_at : Stmt := topS 23
abbrev nm__law_tip_at : List Str := ["start", "vector", "time", "w", "u", "row", "k"]
theorem sc__law_tip_at : FnScope nm__law_tip_at ["start", "vector", "time"] (defScope s__law_tip_at) := ⟨rfl, rfl, rfl, by decide +kernel, rfl, by decide +kernel, by decide +kernel⟩
abbrev s_law : Stmt := topS 24
abbrev nm_law : List Str := ["script", "draws", "size", "turn", "forms", "start", "vector", "told", "due", "k", "time", "tip", "place", "gap", "here", "spot", "form", "number"]
theorem sc_law : FnScope nm_law ["script"] (defScope s_law) := ⟨rfl, rfl, rfl, by decide +kernel, rfl, by decide +kernel, by decide +kernel⟩
def cat0 : Str → Str → Option Bool := catL []
structure Txt (K : PySem.W.Frag) (mg : Str → Option Value) : Prop where
  d__law_gcd : DefAt K mg "_law_gcd" s__law_gcd ["a", "b"]
  d__law_draws : DefAt K mg "_law_draws" s__law_draws ["script"]
  d__law_draw : DefAt K mg "_law_draw" s__law_draw ["draws", "limit"]
  d__law_same : DefAt K mg "_law_same" s__law_same ["actual", "expected"]
  d_weight : DefAt K mg "weight" s_weight ["form", "place"]
  d_keeps : DefAt K mg "keeps" s_keeps ["clause", "place"]
  d__law_near : DefAt K mg "_law_near" s__law_near ["draws", "most"]
  d__law_weight : DefAt K mg "_law_weight" s__law_weight ["form", "place"]
  d__law_low : DefAt K mg "_law_low" s__law_low ["numbers"]
  d_holds : DefAt K mg "holds" s_holds ["cell", "place"]
  d_moving : DefAt K mg "moving" s_moving ["form", "start", "vector"]
  d_in_time : DefAt K mg "in_time" s_in_time ["forms", "start", "vector", "size"]
  d__law_ratio : DefAt K mg "_law_ratio" s__law_ratio ["n", "d"]
  d__law_moving : DefAt K mg "_law_moving" s__law_moving ["form", "start", "vector"]
  d__law_vector : DefAt K mg "_law_vector" s__law_vector ["draws", "size"]
  d__law_tip : DefAt K mg "_law_tip" s__law_tip ["draws", "size"]
  d__law_gap : DefAt K mg "_law_gap" s__law_gap ["place", "tip"]
  d__law_tool : DefAt K mg "_law_tool" s__law_tool ["draws", "size"]
  d__law_tip_at : DefAt K mg "_law_tip_at" s__law_tip_at ["start", "vector", "time"]
  d_law : DefAt K mg "law" s_law ["script"]
  b_abs : mg "abs" = none
  b_bool : mg "bool" = none
  b_int : mg "int" = none
  b_isinstance : mg "isinstance" = none
  b_len : mg "len" = none
  b_list : mg "list" = none
  b_range : mg "range" = none
  b_str : mg "str" = none
  b_sum : mg "sum" = none
  b_tuple : mg "tuple" = none
  b_zip : mg "zip" = none
variable {P : Program} {w : World} {K : PySem.W.Frag} {mg : Str → Option Value} {base : Heap}
theorem pure1 {ds : List D} (h : pureDs ds = true) {hh : Hh} {ok : Nat → Prop} : Views hh ok ds ds := Views.pures h
theorem fm_lt {a b : Int} (h : 0 < b) : 0 ≤ a.fmod b ∧ a.fmod b < b := ⟨Int.fmod_nonneg_of_pos _ h, Int.fmod_lt_of_pos _ h⟩
theorem bt_mulr' {a b : Int} (hb : a.natAbs < 1073741824) : MulOk a b := IntMulOk.of_left (Nat.le_trans ((bt_iff (m := 30)).mpr (by omega)) (by decide))
theorem cpow9 : CPow 10 9 := ⟨by decide, by decide, by decide⟩
theorem cpow6 : CPow 10 6 := ⟨by decide, by decide, by decide⟩
abbrev HH (c : List Int) (s : DrS) (rows : List D) (junk : Hh) : Hh := .lst (c.map .int) :: .lst (drD 0 s) :: .lst rows :: junk
abbrev H2 (c : List Int) (s : DrS) (junk : Hh) : Hh := .lst (c.map .int) :: .lst (drD 0 s) :: junk
/-- bits of a sum of products -/
theorem get_mid {α : Type} {l r : List α} {a : α} : ((l ++ [a]) ++ r)[l.length]? = some a := by
  rw [List.append_assoc, List.getElem?_append_right (Nat.le_refl _), Nat.sub_self]; rfl
theorem get_mid2 {α : Type} {l r q : List α} {a : α} : (((l ++ [a]) ++ r) ++ q)[l.length]? = some a := by
  rw [List.append_assoc (l ++ [a])]; exact get_mid
theorem set_last {α : Type} {l : List α} {x y : α} : (l ++ [x]).set l.length y = l ++ [y] := by
  induction l with
  | nil => rfl
  | cons a r ih => rw [List.cons_append, List.length_cons, List.set_cons_succ, ih, List.cons_append]
abbrev tI (l : List Int) : D := .tup (l.map .int)
def dotN (a b : List Int) : Nat → Int
  | 0 => 0
  | n + 1 => dotN a b n + a.getD n 0 * b.getD n 0
def Lb (m : Nat) (l : List Int) : Prop := l.length ≤ 100 ∧ ∀ x ∈ l, Bt m x
theorem Lb.getD {m : Nat} {l : List Int} (h : Lb m l) (i : Nat) : Bt m (l.getD i 0) := by
  by_cases hi : i < l.length
  · rw [List.getD_eq_getElem?_getD, List.getElem?_eq_getElem hi]; exact h.2 _ (List.getElem_mem hi)
  · rw [List.getD_eq_getElem?_getD, List.getElem?_eq_none (by omega)]; exact bt0
theorem mapi_at {l : List Int} {i : Nat} {x : D} (h : (l.map D.int)[i]? = some x) : i < l.length ∧ x = .int (l.getD i 0) := by
  by_cases hi : i < l.length
  · rw [List.getElem?_map, List.getElem?_eq_getElem hi] at h
    rw [List.getD_eq_getElem?_getD, List.getElem?_eq_getElem hi]
    simp at h
    exact ⟨hi, h.symm⟩
  · rw [List.getElem?_eq_none (by simp; omega)] at h; cases h
theorem zip_at {a b : List Int} {i : Nat} {x : D} (h : (zipD (a.map D.int) (b.map D.int))[i]? = some x) : i < a.length ∧ i < b.length ∧ x = .tup [.int (a.getD i 0), .int (b.getD i 0)] := by
  have hl : i < (zipD (a.map D.int) (b.map D.int)).length := by
    by_cases hl : i < (zipD (a.map D.int) (b.map D.int)).length
    · exact hl
    · rw [List.getElem?_eq_none (by omega)] at h; cases h
  rw [zipD_len, List.length_map, List.length_map] at hl
  have h1 : i < a.length := by omega
  have h2 : i < b.length := by omega
  rw [zipD_get (by simpa using h1) (by simpa using h2)] at h
  injection h with h
  refine ⟨h1, h2, ?_⟩
  rw [← h, List.getD_eq_getElem?_getD, List.getElem?_eq_getElem h1, List.getD_eq_getElem?_getD, List.getElem?_eq_getElem h2]
  simp
theorem at_map {l : List Int} {k : Int} (h : 0 ≤ k) (h2 : k < l.length) : atI (l.map D.int) k = some (.int (l.getD k.toNat 0)) := by
  have hk : k.toNat < l.length := by omega
  rw [atN k h (by simpa using h2), List.getElem?_map, List.getElem?_eq_getElem hk, List.getD_eq_getElem?_getD, List.getElem?_eq_getElem hk]
  rfl
theorem take_at {l : List Int} {i : Nat} (h : i < l.length) : l.take (i + 1) = l.take i ++ [l.getD i 0] := by
  rw [List.take_add_one, List.getElem?_eq_getElem h, List.getD_eq_getElem?_getD, List.getElem?_eq_getElem h]; rfl
theorem sl2 {n : Nat} (h : n ≤ 1000) : n < sizeLine := Nat.lt_of_le_of_lt h (by decide)
abbrev WP := List Int × List Int
def preW (x : WP) (ds : List D) : Prop := ds = [tI x.1, tI x.2] ∧ x.1.length ≤ x.2.length ∧ Lb 2000 x.1 ∧ Lb 2000 x.2
theorem cut_last {l : List Int} {c : Int} : cutD ((l ++ [c]).map D.int) none (some (-1)) = l.map D.int := by
  unfold Dn.cutD HT.sIx
  simp
  rw [show (-1 + ((l.length : Int) + 1)).toNat = (l.map D.int).length by rw [List.length_map]; omega]
  exact List.take_left ..
theorem at_last {l : List D} {d : D} : atI (l ++ [d]) (-1) = some d := by
  unfold atI ixN
  rw [if_neg (by omega), if_pos (by simp; omega)]
  simp only [Option.bind, List.length_append, List.length_cons, List.length_nil]
  rw [show (-1 + ((l.length + (0 + 1) : Nat) : Int)).toNat = l.length by omega]
  simp
theorem at_lasti {l : List Int} {c : Int} : atI ((l ++ [c]).map D.int) (-1) = some (.int c) := by rw [List.map_append]; exact at_last
theorem dotN_bt {a b : List Int} {m k : Nat} (ha : Lb m a) (hb : Lb k b) : ∀ n, Bt (m + k + n) (dotN a b n)
  | 0 => bt0
  | n + 1 => by
    unfold dotN
    exact bt_mono (bits_add (dotN_bt ha hb n) (bits_mul (ha.getD n) (hb.getD n))) (by omega)
theorem dotN_app {a b c : List Int} : ∀ n, n ≤ b.length → dotN a (b ++ c) n = dotN a b n
  | 0, _ => rfl
  | n + 1, h => by
    unfold dotN
    rw [dotN_app n (by omega)]
    rw [List.getD_eq_getElem?_getD (l := b ++ c), List.getElem?_append_left (by omega), ← List.getD_eq_getElem?_getD]
theorem dotN_appL {a b c : List Int} : ∀ n, n ≤ a.length → dotN (a ++ c) b n = dotN a b n
  | 0, _ => rfl
  | n + 1, h => by
    unfold dotN
    rw [dotN_appL n (by omega)]
    rw [List.getD_eq_getElem?_getD (l := a ++ c), List.getElem?_append_left (by omega), ← List.getD_eq_getElem?_getD]
theorem getD_last {l : List Int} {c : Int} {n : Nat} (h : l.length = n) : (l ++ [c]).getD n 0 = c := by
  rw [List.getD_eq_getElem?_getD, ← h, List.getElem?_concat_length]; rfl
theorem Lb.app {m : Nat} {l : List Int} {c : Int} (h : Lb m (l ++ [c])) : Lb m l ∧ Bt m c := ⟨⟨by have := h.1; simp at this; omega, fun x hx => h.2 x (List.mem_append_left _ hx)⟩, h.2 c (by simp)⟩
theorem Lb.mk' {m : Nat} {l : List Int} {c : Int} (h : Lb m l) (hl : l.length < 100) (hc : Bt m c) : Lb m (l ++ [c]) := ⟨by simp; omega, fun x hx => by
  rcases List.mem_append.mp hx with q | q
  · exact h.2 x q
  · rw [List.mem_singleton] at q; rw [q]; exact hc⟩
theorem Lb.mono {m n : Nat} {l : List Int} (h : Lb m l) (k : m ≤ n) : Lb n l := ⟨h.1, fun x hx => bt_mono (h.2 x hx) k⟩
theorem getD_range {F : Nat → Int} {n k : Nat} (h : k < n) : ((List.range n).map F).getD k 0 = F k := by
  rw [List.getD_eq_getElem?_getD, List.getElem?_map, List.getElem?_range h]; rfl
theorem range_at {F : Nat → Int} {i : Nat} : (List.range (i + 1)).map F = (List.range i).map F ++ [F i] := by
  rw [List.range_succ, List.map_append]; rfl
theorem getD_map0 {f : Int → Int} (h : f 0 = 0) (l : List Int) (n : Nat) : (l.map f).getD n 0 = f (l.getD n 0) := by
  rw [List.getD_eq_getElem?_getD, List.getD_eq_getElem?_getD, List.getElem?_map]
  cases l[n]? with
  | none => exact h.symm
  | some x => rfl
theorem getD_app {l : List Int} {c : Int} {k : Nat} (h : k < l.length) : (l ++ [c]).getD k 0 = l.getD k 0 := by
  rw [List.getD_eq_getElem?_getD, List.getElem?_append_left h, ← List.getD_eq_getElem?_getD]
theorem at_app {l : List Int} {c : Int} {k : Int} (h : 0 ≤ k) (h2 : k < l.length) : atI ((l ++ [c]).map D.int) k = some (.int (l.getD k.toNat 0)) := by
  rw [at_map h (by simp; omega), getD_app (by omega)]
theorem bt60 {x : Int} (h : x.natAbs < 2 ^ 60) : Bt 100 x := bt_mono ((bt_iff (m := 60)).mpr h) (by decide)
theorem bt20 {x : Int} (h : x.natAbs < 2 ^ 20) : Bt 50 x := bt_mono ((bt_iff (m := 20)).mpr h) (by decide)

/-! ### _law_gcd -/
def sp__law_gcd : Spc (Int × Int) where
  pre := fun x ds => ds = [.int x.1, .int x.2]
  res := fun x o => o = .val (.int ((Nat.gcd x.1.natAbs x.2.natAbs : Nat) : Int))
  exc := fun _ _ => False

def l1__law_gcd_0 : dS :=
  (sPar 0 1 (dCons (dVar 1) (dCons (dOp modF (dCB intF (dCons (dVar 0) dNil)) (dVar 1)) dNil)))
def r__law_gcd_3 : dS :=
  (sRet (dVar 0))
def r__law_gcd_2 : dS :=
  (sSeq (sWhile (dtB (dOp gtF (dVar 1) (dC (.int 0)))) (l1__law_gcd_0)) (r__law_gcd_3))
def r__law_gcd_1 : dS :=
  (sSeq (sAsg (dCB absF (dCons (dVar 1) dNil)) (gN 1)) (r__law_gcd_2))
def r__law_gcd_0 : dS :=
  (sSeq (sAsg (dCB absF (dCons (dVar 0) dNil)) (gN 0)) (r__law_gcd_1))
def t__law_gcd : dS :=
  (r__law_gcd_0)
theorem len__law_gcd : ∀ x ds, sp__law_gcd.pre x ds → ds.length = 2 := fun x ds h => by rw [h]; rfl
theorem absE (i : Int) : (if i < 0 then -i else i) = (i.natAbs : Int) := by split <;> omega
theorem w__law_gcd : ∀ x ds, sp__law_gcd.pre x ds → t__law_gcd (endP sp__law_gcd x) (startE nm__law_gcd.length ds) [] := by
  rintro ⟨a, b⟩ ds rfl
  simp only [t__law_gcd, nm__law_gcd, r__law_gcd_0, r__law_gcd_1, r__law_gcd_2, r__law_gcd_3, l1__law_gcd_0, dOp, dUn, dVar, dC, slot, startE, List.map, List.length, List.replicate, List.append, List.cons_append, List.nil_append, List.set, dAnd, dOr, dNot, dtB, dtAnd, dtOr, dtNot, dIf, dtTru, truF, dNil, dCons, dTup, dLst, dCB, sNil, sSeq, sRet, sRetN, sExpr, sIf, sAsg, gN, gT, gsNil, gsCons, gS, sPar, sAug, sWhile, sFor, sBrk, sCont, sNo, sRaise, dCallP, dCallD, eqF, neF, ltF, leF, gtF, geF, isF, notF, addF, subF, mulF, fdivF, modF, powF, negF, ixF, lenF, tupF, lstF, absF, intF, gcdF, maxF, minF, Rs.to, dIsi, dIsi2, dIsE, tyN, D.isNon, dM1, dM0, srcSeq, srcRng1, srcRng2, dLc, tYesD, iaddF, isBF, notBF, srcZip, repF, sumF, allF, anyF, intsOf_map, blsOf_map, dSl, dPart, dNoPart, sliceF, drD, at0, at1, at2, at3, at4, ix0, ix1, ix2, ix3, Dn.g0, Dn.g1, Dn.g2, Dn.g3, Dn.g4, ex_some, decide_true, decide_false, Bool.not_true, Bool.not_false, ite_true, ite_false, if_true, if_false, List.reverse_cons, List.reverse_nil, outPost, wipeE, CTg.set, setAll, appF, extF, revF, popF, Nat.zero_add, Nat.reduceAdd, is_NoneType_int, is_NoneType_bool, is_NoneType_str, is_NoneType_tuple, is_NoneType_list, is_bool_int, is_bool_bool, is_bool_str, is_bool_tuple, is_bool_list, is_int_int, is_int_bool, is_int_str, is_int_tuple, is_int_list, is_str_int, is_str_bool, is_str_str, is_str_tuple, is_str_list, is_tuple_int, is_tuple_bool, is_tuple_str, is_tuple_tuple, is_tuple_list, is_list_int, is_list_bool, is_list_str, is_list_tuple, is_list_list]
  refine ⟨fun m e h => ∃ p q : Nat, m = q ∧ e = [some (.int p), some (.int q)] ∧ h = [] ∧ Nat.gcd p q = Nat.gcd a.natAbs b.natAbs, ⟨_, a.natAbs, b.natAbs, rfl, by simp [absE], rfl, rfl⟩, ?_⟩
  rintro m e h ⟨p, q, hm, rfl, rfl, hg⟩; subst hm
  simp only [dOp, dUn, dVar, dC, slot, startE, List.map, List.length, List.replicate, List.append, List.cons_append, List.nil_append, List.set, dAnd, dOr, dNot, dtB, dtAnd, dtOr, dtNot, dIf, dtTru, truF, dNil, dCons, dTup, dLst, dCB, sNil, sSeq, sRet, sRetN, sExpr, sIf, sAsg, gN, gT, gsNil, gsCons, gS, sPar, sAug, sWhile, sFor, sBrk, sCont, sNo, sRaise, dCallP, dCallD, eqF, neF, ltF, leF, gtF, geF, isF, notF, addF, subF, mulF, fdivF, modF, powF, negF, ixF, lenF, tupF, lstF, absF, intF, gcdF, maxF, minF, Rs.to, dIsi, dIsi2, dIsE, tyN, D.isNon, dM1, dM0, srcSeq, srcRng1, srcRng2, dLc, tYesD, iaddF, isBF, notBF, srcZip, repF, sumF, allF, anyF, intsOf_map, blsOf_map, dSl, dPart, dNoPart, sliceF, drD, at0, at1, at2, at3, at4, ix0, ix1, ix2, ix3, Dn.g0, Dn.g1, Dn.g2, Dn.g3, Dn.g4, ex_some, decide_true, decide_false, Bool.not_true, Bool.not_false, ite_true, ite_false, if_true, if_false, List.reverse_cons, List.reverse_nil, outPost, wipeE, CTg.set, setAll, appF, extF, revF, popF, Nat.zero_add, Nat.reduceAdd, is_NoneType_int, is_NoneType_bool, is_NoneType_str, is_NoneType_tuple, is_NoneType_list, is_bool_int, is_bool_bool, is_bool_str, is_bool_tuple, is_bool_list, is_int_int, is_int_bool, is_int_str, is_int_tuple, is_int_list, is_str_int, is_str_bool, is_str_str, is_str_tuple, is_str_list, is_tuple_int, is_tuple_bool, is_tuple_str, is_tuple_tuple, is_tuple_list, is_list_int, is_list_bool, is_list_str, is_list_tuple, is_list_list]
  by_cases hq : (0 : Int) < m
  · simp only [hq, decide_true]
    refine ⟨?_, p % m, ?_, m, p % m, rfl, ?_, by trivial, ?_⟩
    · simp; omega
    · exact Nat.mod_lt _ (by omega)
    · simp [Int.fmod_eq_emod_of_nonneg]
    · rw [← hg, Nat.gcd_comm p m, Nat.gcd_rec m p, Nat.gcd_comm]
  · have : m = 0 := by omega
    subst this
    simp only [hq, decide_false]
    refine rt_val rfl ?_
    rw [Nat.gcd_zero_right] at hg
    simp [sp__law_gcd, hg]

theorem ok__law_gcd (T : Txt K mg) : Ok P w K mg base 1 "_law_gcd" ["a", "b"] (spP K mg sp__law_gcd) :=
  okOf T.d__law_gcd fun f fd F => fnP (k := 0) sp__law_gcd t__law_gcd F sc__law_gcd (fun x ds hp => len__law_gcd x ds hp) (fun cdv A outer s H E hr z => by
    have hu := hr.units; have hnd := sc__law_gcd.nd
    unfold t__law_gcd r__law_gcd_0 r__law_gcd_1 r__law_gcd_2 r__law_gcd_3 l1__law_gcd_0
    exact (dss_cons (ds_set 0 hnd rfl (by walk_at "locs") (de_callB (f := absF) call_abs cd_abs rfl T.b_abs (by decide +kernel) (da_cons (de_var 0 rfl (by walk_at "vis") (by decide) (by decide)) da_nil rfl) (by decide) (by decide) rfl rfl) rfl (by walk_at "fnn"))
    (dss_cons (ds_set 1 hnd rfl (by walk_at "locs") (de_callB (f := absF) call_abs cd_abs rfl T.b_abs (by decide +kernel) (da_cons (de_var 1 rfl (by walk_at "vis") (by decide) (by decide)) da_nil rfl) (by decide) (by decide) rfl rfl) rfl (by walk_at "fnn"))
    (dss_cons (ds_while (passes_of (K := fun e s'' => L2.CX P w outer H s E e s'') (E₁ := fun e s'' => L2.CX P w outer H s E e s'') rfl) (dt_cmp op_gt od_gt (de_var 1 rfl (by walk_at "vis") (by decide) (by decide)) de_int (nomark _)) (dss_one (ds_par 0 1 rfl hnd rfl rfl (by decide) rfl rfl (da_cons (de_var 1 rfl (by walk_at "vis") (by decide) (by decide)) (da_cons (de_mod (de_callTy (f := intF) call_int1 cd_int rfl T.b_int (by decide +kernel) (da_cons (de_var 0 rfl (by walk_at "vis") (by decide) (by decide)) da_nil rfl) (by decide) (by decide) rfl rfl) (de_var 1 rfl (by walk_at "vis") (by decide) (by decide))) da_nil rfl) rfl) (by rfl) rfl)))
    (dss_one (ds_ret (de_var 0 rfl (by walk_at "vis") (by decide) (by decide)))))))) w__law_gcd
/-! ### _law_draws -/
def sp__law_draws : Spc (List Int) where
  pre := fun x ds => ds = [.lst (x.map .int)]
  res := fun x o => o = .drw x 0 0 1
  exc := fun _ _ => False

def r__law_draws_0 : dS :=
  (sRet (dLst (dCons (dCB lstF (dCons (dVar 0) dNil)) (dCons (dC (.int 0)) (dCons (dC (.int 0)) (dCons (dC (.int 1)) dNil))))))
def t__law_draws : dS :=
  (r__law_draws_0)
theorem len__law_draws : ∀ x ds, sp__law_draws.pre x ds → ds.length = 1 := fun x ds h => by rw [h]; rfl
theorem w__law_draws : ∀ x ds, sp__law_draws.pre x ds → t__law_draws (endP sp__law_draws x) (startE nm__law_draws.length ds) [] := by
  rintro c ds rfl
  simp only [t__law_draws, nm__law_draws, r__law_draws_0, dOp, dUn, dVar, dC, slot, startE, List.map, List.length, List.replicate, List.append, List.cons_append, List.nil_append, List.set, dAnd, dOr, dNot, dtB, dtAnd, dtOr, dtNot, dIf, dtTru, truF, dNil, dCons, dTup, dLst, dCB, sNil, sSeq, sRet, sRetN, sExpr, sIf, sAsg, gN, gT, gsNil, gsCons, gS, sPar, sAug, sWhile, sFor, sBrk, sCont, sNo, sRaise, dCallP, dCallD, eqF, neF, ltF, leF, gtF, geF, isF, notF, addF, subF, mulF, fdivF, modF, powF, negF, ixF, lenF, tupF, lstF, absF, intF, gcdF, maxF, minF, Rs.to, dIsi, dIsi2, dIsE, tyN, D.isNon, dM1, dM0, srcSeq, srcRng1, srcRng2, dLc, tYesD, iaddF, isBF, notBF, srcZip, repF, sumF, allF, anyF, intsOf_map, blsOf_map, dSl, dPart, dNoPart, sliceF, drD, at0, at1, at2, at3, at4, ix0, ix1, ix2, ix3, Dn.g0, Dn.g1, Dn.g2, Dn.g3, Dn.g4, ex_some, decide_true, decide_false, Bool.not_true, Bool.not_false, ite_true, ite_false, if_true, if_false, List.reverse_cons, List.reverse_nil, outPost, wipeE, CTg.set, setAll, appF, extF, revF, popF, Nat.zero_add, Nat.reduceAdd, is_NoneType_int, is_NoneType_bool, is_NoneType_str, is_NoneType_tuple, is_NoneType_list, is_bool_int, is_bool_bool, is_bool_str, is_bool_tuple, is_bool_list, is_int_int, is_int_bool, is_int_str, is_int_tuple, is_int_list, is_str_int, is_str_bool, is_str_str, is_str_tuple, is_str_list, is_tuple_int, is_tuple_bool, is_tuple_str, is_tuple_tuple, is_tuple_list, is_list_int, is_list_bool, is_list_str, is_list_tuple, is_list_list]
  show outOk (sp__law_draws.res c) (.ref 1) [.lst (c.map .int), .lst [.ref 0, .int 0, .int 0, .int 1]]
  exact .inr ⟨0, 0, 0, 1, c, rfl, by decide, rfl, rfl⟩

theorem ok__law_draws (T : Txt K mg) : Ok P w K mg base 1 "_law_draws" ["script"] (spP K mg sp__law_draws) :=
  okOf T.d__law_draws fun f fd F => fnP (k := 0) sp__law_draws t__law_draws F sc__law_draws (fun x ds hp => len__law_draws x ds hp) (fun cdv A outer s H E hr z => by
    have hu := hr.units; have hnd := sc__law_draws.nd
    unfold t__law_draws r__law_draws_0
    exact (dss_one (ds_ret (de_lst (da_cons (de_callTy (f := lstF) call_list_of cd_lst rfl T.b_list (by decide +kernel) (da_cons (de_var 0 rfl (by walk_at "vis") (by decide) (by decide)) da_nil rfl) (by decide) (by decide) rfl rfl) (da_cons de_int (da_cons de_int (da_cons de_int da_nil rfl) rfl) rfl) rfl) (by decide))))) w__law_draws
/-! ### _law_draw -/
def sp__law_draw : SpcD Int where
  pre := fun x ds s => ds = [.int x] ∧ 0 < x ∧ Bt 3000 x ∧ 0 ≤ s.a
  res := fun x o s' => ∃ v : Int, o = .val (.int v) ∧ 0 ≤ v ∧ v < x ∧ 0 ≤ s'.a

def r__law_draw_3 : dS :=
  (sRet (dOp modF (dCB intF (dCons (dOp fdivF (dOp ixF (dVar 0) (dC (.int 3))) (dC (.int 11))) dNil)) (dVar 1)))
def r__law_draw_2 : dS :=
  (sSeq (sAsg (dOp modF (dCB intF (dCons (dOp addF (dOp mulF (dOp ixF (dVar 0) (dC (.int 3))) (dC (.int 69621))) (dC (.int 7))) dNil)) (dC (.int 2147483629))) (gS (dVar 0) (dC (.int 3)))) (r__law_draw_3))
def r__law_draw_1 : dS :=
  (sSeq (sIf (dtB (dOp gtF (dOp ixF (dVar 0) (dC (.int 2))) (dC (.int 0)))) (sSeq (sAsg (dOp modF (dCB intF (dCons (dOp ixF (dVar 0) (dC (.int 2))) dNil)) (dVar 1)) (gN 3))
    (sSeq (sAsg (dOp fdivF (dOp ixF (dVar 0) (dC (.int 2))) (dVar 1)) (gS (dVar 0) (dC (.int 2))))
    (sRet (dVar 3)))) sNil) (r__law_draw_2))
def r__law_draw_0 : dS :=
  (sSeq (sIf (dtAnd (dtB (dOp eqF (dOp ixF (dVar 0) (dC (.int 2))) (dC (.int 0)))) (dtB (dOp ltF (dOp ixF (dVar 0) (dC (.int 1))) (dCB lenF (dCons (dOp ixF (dVar 0) (dC (.int 0))) dNil))))) (sSeq (sAsg (dOp ixF (dOp ixF (dVar 0) (dC (.int 0))) (dOp ixF (dVar 0) (dC (.int 1)))) (gN 2))
    (sSeq (sAsg (dOp addF (dOp ixF (dVar 0) (dC (.int 1))) (dC (.int 1))) (gS (dVar 0) (dC (.int 1))))
    (sSeq (sIf (dtB (dOp geF (dVar 2) (dOp powF (dC (.int 10)) (dC (.int 18))))) (sAsg (dVar 2) (gS (dVar 0) (dC (.int 2)))) sNil)
    (sAsg (dOp modF (dCB intF (dCons (dOp addF (dOp addF (dOp mulF (dOp ixF (dVar 0) (dC (.int 3))) (dC (.int 48271))) (dVar 2)) (dC (.int 13))) dNil)) (dC (.int 2147483647))) (gS (dVar 0) (dC (.int 3))))))) sNil) (r__law_draw_1))
def t__law_draw : dS :=
  (r__law_draw_0)
theorem len__law_draw : ∀ x ds s, sp__law_draw.pre x ds s → ds.length + 1 = 2 := fun x ds s h => by rw [h.1]; rfl
theorem div_lim {a b : Int} (h : 0 < b) (k : Bt 3000 b) : DivOk a b := bt_div (bt_mono k (by decide)) (by omega)
theorem cpow18 : CPow 10 18 := ⟨by decide, by decide, by decide⟩
theorem draw_tail {x : Int} {c : List Int} {u v : Option D} (h1 : 0 < x) (h2 : Bt 3000 x) {a z y : Int} (ha : 0 ≤ a) : r__law_draw_1 (endD sp__law_draw x c) [some (.ref 0), some (.int x), u, v] [.lst (drD 1 ⟨c, a, z, y⟩), .lst (c.map .int)] := by
  simp only [r__law_draw_1, r__law_draw_2, r__law_draw_3, dOp, dUn, dVar, dC, slot, startE, List.map, List.length, List.replicate, List.append, List.cons_append, List.nil_append, List.set, dAnd, dOr, dNot, dtB, dtAnd, dtOr, dtNot, dIf, dtTru, truF, dNil, dCons, dTup, dLst, dCB, sNil, sSeq, sRet, sRetN, sExpr, sIf, sAsg, gN, gT, gsNil, gsCons, gS, sPar, sAug, sWhile, sFor, sBrk, sCont, sNo, sRaise, dCallP, dCallD, eqF, neF, ltF, leF, gtF, geF, isF, notF, addF, subF, mulF, fdivF, modF, powF, negF, ixF, lenF, tupF, lstF, absF, intF, gcdF, maxF, minF, Rs.to, dIsi, dIsi2, dIsE, tyN, D.isNon, dM1, dM0, srcSeq, srcRng1, srcRng2, dLc, tYesD, iaddF, isBF, notBF, srcZip, repF, sumF, allF, anyF, intsOf_map, blsOf_map, dSl, dPart, dNoPart, sliceF, drD, at0, at1, at2, at3, at4, ix0, ix1, ix2, ix3, Dn.g0, Dn.g1, Dn.g2, Dn.g3, Dn.g4, ex_some, decide_true, decide_false, Bool.not_true, Bool.not_false, ite_true, ite_false, if_true, if_false, List.reverse_cons, List.reverse_nil, outPost, wipeE, CTg.set, setAll, appF, extF, revF, popF, Nat.zero_add, Nat.reduceAdd, is_NoneType_int, is_NoneType_bool, is_NoneType_str, is_NoneType_tuple, is_NoneType_list, is_bool_int, is_bool_bool, is_bool_str, is_bool_tuple, is_bool_list, is_int_int, is_int_bool, is_int_str, is_int_tuple, is_int_list, is_str_int, is_str_bool, is_str_str, is_str_tuple, is_str_list, is_tuple_int, is_tuple_bool, is_tuple_str, is_tuple_tuple, is_tuple_list, is_list_int, is_list_bool, is_list_str, is_list_tuple, is_list_list]
  by_cases hz : 0 < z
  · simp only [hz, dOp, dUn, dVar, dC, slot, startE, List.map, List.length, List.replicate, List.append, List.cons_append, List.nil_append, List.set, dAnd, dOr, dNot, dtB, dtAnd, dtOr, dtNot, dIf, dtTru, truF, dNil, dCons, dTup, dLst, dCB, sNil, sSeq, sRet, sRetN, sExpr, sIf, sAsg, gN, gT, gsNil, gsCons, gS, sPar, sAug, sWhile, sFor, sBrk, sCont, sNo, sRaise, dCallP, dCallD, eqF, neF, ltF, leF, gtF, geF, isF, notF, addF, subF, mulF, fdivF, modF, powF, negF, ixF, lenF, tupF, lstF, absF, intF, gcdF, maxF, minF, Rs.to, dIsi, dIsi2, dIsE, tyN, D.isNon, dM1, dM0, srcSeq, srcRng1, srcRng2, dLc, tYesD, iaddF, isBF, notBF, srcZip, repF, sumF, allF, anyF, intsOf_map, blsOf_map, dSl, dPart, dNoPart, sliceF, drD, at0, at1, at2, at3, at4, ix0, ix1, ix2, ix3, Dn.g0, Dn.g1, Dn.g2, Dn.g3, Dn.g4, ex_some, decide_true, decide_false, Bool.not_true, Bool.not_false, ite_true, ite_false, if_true, if_false, List.reverse_cons, List.reverse_nil, outPost, wipeE, CTg.set, setAll, appF, extF, revF, popF, Nat.zero_add, Nat.reduceAdd, is_NoneType_int, is_NoneType_bool, is_NoneType_str, is_NoneType_tuple, is_NoneType_list, is_bool_int, is_bool_bool, is_bool_str, is_bool_tuple, is_bool_list, is_int_int, is_int_bool, is_int_str, is_int_tuple, is_int_list, is_str_int, is_str_bool, is_str_str, is_str_tuple, is_str_list, is_tuple_int, is_tuple_bool, is_tuple_str, is_tuple_tuple, is_tuple_list, is_list_int, is_list_bool, is_list_str, is_list_tuple, is_list_list]
    refine ⟨by omega, div_lim h1 h2, ?_⟩
    exact rtD_val ⟨c, a, _, y⟩ rfl rfl rfl rfl ⟨_, rfl, (fm_lt h1).1, (fm_lt h1).2, ha⟩
  · simp only [hz, dOp, dUn, dVar, dC, slot, startE, List.map, List.length, List.replicate, List.append, List.cons_append, List.nil_append, List.set, dAnd, dOr, dNot, dtB, dtAnd, dtOr, dtNot, dIf, dtTru, truF, dNil, dCons, dTup, dLst, dCB, sNil, sSeq, sRet, sRetN, sExpr, sIf, sAsg, gN, gT, gsNil, gsCons, gS, sPar, sAug, sWhile, sFor, sBrk, sCont, sNo, sRaise, dCallP, dCallD, eqF, neF, ltF, leF, gtF, geF, isF, notF, addF, subF, mulF, fdivF, modF, powF, negF, ixF, lenF, tupF, lstF, absF, intF, gcdF, maxF, minF, Rs.to, dIsi, dIsi2, dIsE, tyN, D.isNon, dM1, dM0, srcSeq, srcRng1, srcRng2, dLc, tYesD, iaddF, isBF, notBF, srcZip, repF, sumF, allF, anyF, intsOf_map, blsOf_map, dSl, dPart, dNoPart, sliceF, drD, at0, at1, at2, at3, at4, ix0, ix1, ix2, ix3, Dn.g0, Dn.g1, Dn.g2, Dn.g3, Dn.g4, ex_some, decide_true, decide_false, Bool.not_true, Bool.not_false, ite_true, ite_false, if_true, if_false, List.reverse_cons, List.reverse_nil, outPost, wipeE, CTg.set, setAll, appF, extF, revF, popF, Nat.zero_add, Nat.reduceAdd, is_NoneType_int, is_NoneType_bool, is_NoneType_str, is_NoneType_tuple, is_NoneType_list, is_bool_int, is_bool_bool, is_bool_str, is_bool_tuple, is_bool_list, is_int_int, is_int_bool, is_int_str, is_int_tuple, is_int_list, is_str_int, is_str_bool, is_str_str, is_str_tuple, is_str_list, is_tuple_int, is_tuple_bool, is_tuple_str, is_tuple_tuple, is_tuple_list, is_list_int, is_list_bool, is_list_str, is_list_tuple, is_list_list]
    refine ⟨bt_mulr (by decide), by decide, bt_small (by decide) (by decide), by omega, ?_⟩
    exact rtD_val ⟨c, a, z, _⟩ rfl rfl rfl rfl ⟨_, rfl, (fm_lt h1).1, (fm_lt h1).2, ha⟩
theorem w__law_draw : ∀ x ds s, sp__law_draw.pre x ds s → t__law_draw (endD sp__law_draw x s.c) (startE nm__law_draw.length (.ref 0 :: ds)) [.lst (drD 1 s), .lst (s.c.map .int)] := by
  rintro x ds s ⟨rfl, h1, h2, h3⟩
  obtain ⟨c, a, z, y⟩ := s
  simp only at h3
  simp only [t__law_draw, r__law_draw_0, startE, List.length, List.map, nm__law_draw, dOp, dUn, dVar, dC, slot, startE, List.map, List.length, List.replicate, List.append, List.cons_append, List.nil_append, List.set, dAnd, dOr, dNot, dtB, dtAnd, dtOr, dtNot, dIf, dtTru, truF, dNil, dCons, dTup, dLst, dCB, sNil, sSeq, sRet, sRetN, sExpr, sIf, sAsg, gN, gT, gsNil, gsCons, gS, sPar, sAug, sWhile, sFor, sBrk, sCont, sNo, sRaise, dCallP, dCallD, eqF, neF, ltF, leF, gtF, geF, isF, notF, addF, subF, mulF, fdivF, modF, powF, negF, ixF, lenF, tupF, lstF, absF, intF, gcdF, maxF, minF, Rs.to, dIsi, dIsi2, dIsE, tyN, D.isNon, dM1, dM0, srcSeq, srcRng1, srcRng2, dLc, tYesD, iaddF, isBF, notBF, srcZip, repF, sumF, allF, anyF, intsOf_map, blsOf_map, dSl, dPart, dNoPart, sliceF, drD, at0, at1, at2, at3, at4, ix0, ix1, ix2, ix3, Dn.g0, Dn.g1, Dn.g2, Dn.g3, Dn.g4, ex_some, decide_true, decide_false, Bool.not_true, Bool.not_false, ite_true, ite_false, if_true, if_false, List.reverse_cons, List.reverse_nil, outPost, wipeE, CTg.set, setAll, appF, extF, revF, popF, Nat.zero_add, Nat.reduceAdd, is_NoneType_int, is_NoneType_bool, is_NoneType_str, is_NoneType_tuple, is_NoneType_list, is_bool_int, is_bool_bool, is_bool_str, is_bool_tuple, is_bool_list, is_int_int, is_int_bool, is_int_str, is_int_tuple, is_int_list, is_str_int, is_str_bool, is_str_str, is_str_tuple, is_str_list, is_tuple_int, is_tuple_bool, is_tuple_str, is_tuple_tuple, is_tuple_list, is_list_int, is_list_bool, is_list_str, is_list_tuple, is_list_list]
  by_cases hz : z = 0
  · by_cases ha : a < (c.map D.int).length
    · have hc : a.toNat < c.length := by rw [List.length_map] at ha; omega
      have e1 : atI (c.map D.int) a = some (.int c[a.toNat]) := by
        rw [atN a h3 ha, List.getElem?_map, List.getElem?_eq_getElem hc]; rfl
      simp only [hz, ha, e1, dOp, dUn, dVar, dC, slot, startE, List.map, List.length, List.replicate, List.append, List.cons_append, List.nil_append, List.set, dAnd, dOr, dNot, dtB, dtAnd, dtOr, dtNot, dIf, dtTru, truF, dNil, dCons, dTup, dLst, dCB, sNil, sSeq, sRet, sRetN, sExpr, sIf, sAsg, gN, gT, gsNil, gsCons, gS, sPar, sAug, sWhile, sFor, sBrk, sCont, sNo, sRaise, dCallP, dCallD, eqF, neF, ltF, leF, gtF, geF, isF, notF, addF, subF, mulF, fdivF, modF, powF, negF, ixF, lenF, tupF, lstF, absF, intF, gcdF, maxF, minF, Rs.to, dIsi, dIsi2, dIsE, tyN, D.isNon, dM1, dM0, srcSeq, srcRng1, srcRng2, dLc, tYesD, iaddF, isBF, notBF, srcZip, repF, sumF, allF, anyF, intsOf_map, blsOf_map, dSl, dPart, dNoPart, sliceF, drD, at0, at1, at2, at3, at4, ix0, ix1, ix2, ix3, Dn.g0, Dn.g1, Dn.g2, Dn.g3, Dn.g4, ex_some, decide_true, decide_false, Bool.not_true, Bool.not_false, ite_true, ite_false, if_true, if_false, List.reverse_cons, List.reverse_nil, outPost, wipeE, CTg.set, setAll, appF, extF, revF, popF, Nat.zero_add, Nat.reduceAdd, is_NoneType_int, is_NoneType_bool, is_NoneType_str, is_NoneType_tuple, is_NoneType_list, is_bool_int, is_bool_bool, is_bool_str, is_bool_tuple, is_bool_list, is_int_int, is_int_bool, is_int_str, is_int_tuple, is_int_list, is_str_int, is_str_bool, is_str_str, is_str_tuple, is_str_list, is_tuple_int, is_tuple_bool, is_tuple_str, is_tuple_tuple, is_tuple_list, is_list_int, is_list_bool, is_list_str, is_list_tuple, is_list_list]
      refine ⟨cpow18, ?_⟩
      by_cases hb : (10 : Int) ^ (18 : Int).toNat ≤ c[a.toNat]
      · simp only [hb, dOp, dUn, dVar, dC, slot, startE, List.map, List.length, List.replicate, List.append, List.cons_append, List.nil_append, List.set, dAnd, dOr, dNot, dtB, dtAnd, dtOr, dtNot, dIf, dtTru, truF, dNil, dCons, dTup, dLst, dCB, sNil, sSeq, sRet, sRetN, sExpr, sIf, sAsg, gN, gT, gsNil, gsCons, gS, sPar, sAug, sWhile, sFor, sBrk, sCont, sNo, sRaise, dCallP, dCallD, eqF, neF, ltF, leF, gtF, geF, isF, notF, addF, subF, mulF, fdivF, modF, powF, negF, ixF, lenF, tupF, lstF, absF, intF, gcdF, maxF, minF, Rs.to, dIsi, dIsi2, dIsE, tyN, D.isNon, dM1, dM0, srcSeq, srcRng1, srcRng2, dLc, tYesD, iaddF, isBF, notBF, srcZip, repF, sumF, allF, anyF, intsOf_map, blsOf_map, dSl, dPart, dNoPart, sliceF, drD, at0, at1, at2, at3, at4, ix0, ix1, ix2, ix3, Dn.g0, Dn.g1, Dn.g2, Dn.g3, Dn.g4, ex_some, decide_true, decide_false, Bool.not_true, Bool.not_false, ite_true, ite_false, if_true, if_false, List.reverse_cons, List.reverse_nil, outPost, wipeE, CTg.set, setAll, appF, extF, revF, popF, Nat.zero_add, Nat.reduceAdd, is_NoneType_int, is_NoneType_bool, is_NoneType_str, is_NoneType_tuple, is_NoneType_list, is_bool_int, is_bool_bool, is_bool_str, is_bool_tuple, is_bool_list, is_int_int, is_int_bool, is_int_str, is_int_tuple, is_int_list, is_str_int, is_str_bool, is_str_str, is_str_tuple, is_str_list, is_tuple_int, is_tuple_bool, is_tuple_str, is_tuple_tuple, is_tuple_list, is_list_int, is_list_bool, is_list_str, is_list_tuple, is_list_list]
        exact ⟨bt_mulr (by decide), by decide, draw_tail h1 h2 (by omega)⟩
      · simp only [hb, dOp, dUn, dVar, dC, slot, startE, List.map, List.length, List.replicate, List.append, List.cons_append, List.nil_append, List.set, dAnd, dOr, dNot, dtB, dtAnd, dtOr, dtNot, dIf, dtTru, truF, dNil, dCons, dTup, dLst, dCB, sNil, sSeq, sRet, sRetN, sExpr, sIf, sAsg, gN, gT, gsNil, gsCons, gS, sPar, sAug, sWhile, sFor, sBrk, sCont, sNo, sRaise, dCallP, dCallD, eqF, neF, ltF, leF, gtF, geF, isF, notF, addF, subF, mulF, fdivF, modF, powF, negF, ixF, lenF, tupF, lstF, absF, intF, gcdF, maxF, minF, Rs.to, dIsi, dIsi2, dIsE, tyN, D.isNon, dM1, dM0, srcSeq, srcRng1, srcRng2, dLc, tYesD, iaddF, isBF, notBF, srcZip, repF, sumF, allF, anyF, intsOf_map, blsOf_map, dSl, dPart, dNoPart, sliceF, drD, at0, at1, at2, at3, at4, ix0, ix1, ix2, ix3, Dn.g0, Dn.g1, Dn.g2, Dn.g3, Dn.g4, ex_some, decide_true, decide_false, Bool.not_true, Bool.not_false, ite_true, ite_false, if_true, if_false, List.reverse_cons, List.reverse_nil, outPost, wipeE, CTg.set, setAll, appF, extF, revF, popF, Nat.zero_add, Nat.reduceAdd, is_NoneType_int, is_NoneType_bool, is_NoneType_str, is_NoneType_tuple, is_NoneType_list, is_bool_int, is_bool_bool, is_bool_str, is_bool_tuple, is_bool_list, is_int_int, is_int_bool, is_int_str, is_int_tuple, is_int_list, is_str_int, is_str_bool, is_str_str, is_str_tuple, is_str_list, is_tuple_int, is_tuple_bool, is_tuple_str, is_tuple_tuple, is_tuple_list, is_list_int, is_list_bool, is_list_str, is_list_tuple, is_list_list]
        exact ⟨bt_mulr (by decide), by decide, draw_tail h1 h2 (by omega)⟩
    · simp only [hz, ha, dOp, dUn, dVar, dC, slot, startE, List.map, List.length, List.replicate, List.append, List.cons_append, List.nil_append, List.set, dAnd, dOr, dNot, dtB, dtAnd, dtOr, dtNot, dIf, dtTru, truF, dNil, dCons, dTup, dLst, dCB, sNil, sSeq, sRet, sRetN, sExpr, sIf, sAsg, gN, gT, gsNil, gsCons, gS, sPar, sAug, sWhile, sFor, sBrk, sCont, sNo, sRaise, dCallP, dCallD, eqF, neF, ltF, leF, gtF, geF, isF, notF, addF, subF, mulF, fdivF, modF, powF, negF, ixF, lenF, tupF, lstF, absF, intF, gcdF, maxF, minF, Rs.to, dIsi, dIsi2, dIsE, tyN, D.isNon, dM1, dM0, srcSeq, srcRng1, srcRng2, dLc, tYesD, iaddF, isBF, notBF, srcZip, repF, sumF, allF, anyF, intsOf_map, blsOf_map, dSl, dPart, dNoPart, sliceF, drD, at0, at1, at2, at3, at4, ix0, ix1, ix2, ix3, Dn.g0, Dn.g1, Dn.g2, Dn.g3, Dn.g4, ex_some, decide_true, decide_false, Bool.not_true, Bool.not_false, ite_true, ite_false, if_true, if_false, List.reverse_cons, List.reverse_nil, outPost, wipeE, CTg.set, setAll, appF, extF, revF, popF, Nat.zero_add, Nat.reduceAdd, is_NoneType_int, is_NoneType_bool, is_NoneType_str, is_NoneType_tuple, is_NoneType_list, is_bool_int, is_bool_bool, is_bool_str, is_bool_tuple, is_bool_list, is_int_int, is_int_bool, is_int_str, is_int_tuple, is_int_list, is_str_int, is_str_bool, is_str_str, is_str_tuple, is_str_list, is_tuple_int, is_tuple_bool, is_tuple_str, is_tuple_tuple, is_tuple_list, is_list_int, is_list_bool, is_list_str, is_list_tuple, is_list_list]
      exact draw_tail h1 h2 h3
  · simp only [hz, dOp, dUn, dVar, dC, slot, startE, List.map, List.length, List.replicate, List.append, List.cons_append, List.nil_append, List.set, dAnd, dOr, dNot, dtB, dtAnd, dtOr, dtNot, dIf, dtTru, truF, dNil, dCons, dTup, dLst, dCB, sNil, sSeq, sRet, sRetN, sExpr, sIf, sAsg, gN, gT, gsNil, gsCons, gS, sPar, sAug, sWhile, sFor, sBrk, sCont, sNo, sRaise, dCallP, dCallD, eqF, neF, ltF, leF, gtF, geF, isF, notF, addF, subF, mulF, fdivF, modF, powF, negF, ixF, lenF, tupF, lstF, absF, intF, gcdF, maxF, minF, Rs.to, dIsi, dIsi2, dIsE, tyN, D.isNon, dM1, dM0, srcSeq, srcRng1, srcRng2, dLc, tYesD, iaddF, isBF, notBF, srcZip, repF, sumF, allF, anyF, intsOf_map, blsOf_map, dSl, dPart, dNoPart, sliceF, drD, at0, at1, at2, at3, at4, ix0, ix1, ix2, ix3, Dn.g0, Dn.g1, Dn.g2, Dn.g3, Dn.g4, ex_some, decide_true, decide_false, Bool.not_true, Bool.not_false, ite_true, ite_false, if_true, if_false, List.reverse_cons, List.reverse_nil, outPost, wipeE, CTg.set, setAll, appF, extF, revF, popF, Nat.zero_add, Nat.reduceAdd, is_NoneType_int, is_NoneType_bool, is_NoneType_str, is_NoneType_tuple, is_NoneType_list, is_bool_int, is_bool_bool, is_bool_str, is_bool_tuple, is_bool_list, is_int_int, is_int_bool, is_int_str, is_int_tuple, is_int_list, is_str_int, is_str_bool, is_str_str, is_str_tuple, is_str_list, is_tuple_int, is_tuple_bool, is_tuple_str, is_tuple_tuple, is_tuple_list, is_list_int, is_list_bool, is_list_str, is_list_tuple, is_list_list]
    exact draw_tail h1 h2 h3

theorem ok__law_draw (T : Txt K mg) : Ok P w K mg base 1 "_law_draw" ["draws", "limit"] (spD K sp__law_draw) :=
  okOf T.d__law_draw fun f fd F => fnD (k := 0) sp__law_draw t__law_draw F sc__law_draw (fun x ds s hp => len__law_draw x ds s hp) (fun cdv A outer s H E hr z => by
    have hu := hr.units; have hnd := sc__law_draw.nd
    unfold t__law_draw r__law_draw_0 r__law_draw_1 r__law_draw_2 r__law_draw_3
    exact (dss_cons (ds_if (dw_pt (dw_and (dt_cmp (op_eqA hu) od_eq (de_ix (de_var 0 rfl (by walk_at "vis") (by decide) (by decide)) de_int (fun _ _ => rfl)) de_int (nomark _)) (dw_and1 (dt_cmp op_lt od_lt (de_ix (de_var 0 rfl (by walk_at "vis") (by decide) (by decide)) de_int (fun _ _ => rfl)) (de_callB (f := lenF) call_len_seq cd_len rfl T.b_len (by decide +kernel) (da_cons (de_ix (de_var 0 rfl (by walk_at "vis") (by decide) (by decide)) de_int (fun _ _ => rfl)) da_nil rfl) (by decide) (by decide) rfl rfl) (nomark _))))) (dss_cons (ds_set 2 hnd rfl (by walk_at "locs") (de_ix (de_ix (de_var 0 rfl (by walk_at "vis") (by decide) (by decide)) de_int (fun _ _ => rfl)) (de_ix (de_var 0 rfl (by walk_at "vis") (by decide) (by decide)) de_int (fun _ _ => rfl)) (fun _ _ => rfl)) rfl (by walk_at "fnn"))
    (dss_cons (ds_asg (de_add (de_ix (de_var 0 rfl (by walk_at "vis") (by decide) (by decide)) de_int (fun _ _ => rfl)) de_int) (dg_sub (de_var 0 rfl (by walk_at "vis") (by decide) (by decide)) de_int (fun _ => rfl)) rfl rfl rfl)
    (dss_cons (ds_if (dt_cmp op_ge od_ge (de_var 2 rfl (by walk_at "vis") (by decide) (by decide)) (de_pow de_int de_int) (nomark _)) (dss_one (ds_asg (de_var 2 rfl (by walk_at "vis") (by decide) (by decide)) (dg_sub (de_var 0 rfl (by walk_at "vis") (by decide) (by decide)) de_int (fun _ => rfl)) rfl rfl rfl)) dss_nil)
    (dss_one (ds_asg (de_mod (de_callTy (f := intF) call_int1 cd_int rfl T.b_int (by decide +kernel) (da_cons (de_add (de_add (de_mul (de_ix (de_var 0 rfl (by walk_at "vis") (by decide) (by decide)) de_int (fun _ _ => rfl)) de_int) (de_var 2 rfl (by walk_at "vis") (by decide) (by decide))) de_int) da_nil rfl) (by decide) (by decide) rfl rfl) de_int) (dg_sub (de_var 0 rfl (by walk_at "vis") (by decide) (by decide)) de_int (fun _ => rfl)) rfl rfl rfl))))) dss_nil)
    (dss_cons (ds_if (dt_cmp op_gt od_gt (de_ix (de_var 0 rfl (by walk_at "vis") (by decide) (by decide)) de_int (fun _ _ => rfl)) de_int (nomark _)) (dss_cons (ds_set 3 hnd rfl (by walk_at "locs") (de_mod (de_callTy (f := intF) call_int1 cd_int rfl T.b_int (by decide +kernel) (da_cons (de_ix (de_var 0 rfl (by walk_at "vis") (by decide) (by decide)) de_int (fun _ _ => rfl)) da_nil rfl) (by decide) (by decide) rfl rfl) (de_var 1 rfl (by walk_at "vis") (by decide) (by decide))) rfl (by walk_at "fnn"))
    (dss_cons (ds_asg (de_fdiv (de_ix (de_var 0 rfl (by walk_at "vis") (by decide) (by decide)) de_int (fun _ _ => rfl)) (de_var 1 rfl (by walk_at "vis") (by decide) (by decide))) (dg_sub (de_var 0 rfl (by walk_at "vis") (by decide) (by decide)) de_int (fun _ => rfl)) rfl rfl rfl)
    (dss_one (ds_ret (de_var 3 rfl (by walk_at "vis") (by decide) (by decide)))))) dss_nil)
    (dss_cons (ds_asg (de_mod (de_callTy (f := intF) call_int1 cd_int rfl T.b_int (by decide +kernel) (da_cons (de_add (de_mul (de_ix (de_var 0 rfl (by walk_at "vis") (by decide) (by decide)) de_int (fun _ _ => rfl)) de_int) de_int) da_nil rfl) (by decide) (by decide) rfl rfl) de_int) (dg_sub (de_var 0 rfl (by walk_at "vis") (by decide) (by decide)) de_int (fun _ => rfl)) rfl rfl rfl)
    (dss_one (ds_ret (de_mod (de_callTy (f := intF) call_int1 cd_int rfl T.b_int (by decide +kernel) (da_cons (de_fdiv (de_ix (de_var 0 rfl (by walk_at "vis") (by decide) (by decide)) de_int (fun _ _ => rfl)) de_int) da_nil rfl) (by decide) (by decide) rfl rfl) (de_var 1 rfl (by walk_at "vis") (by decide) (by decide))))))))) w__law_draw
/-! ### _law_same -/
def leafB : D → Bool
  | .non => true
  | .bl _ => true
  | .int _ => true
  | .str _ => true
  | _ => false
mutual
def flatB : Nat → D → Bool
  | n + 1, .tup ds => decide (ds.length < 4611686018427387904) && flatsB n ds
  | _, d => leafB d
def flatsB : Nat → List D → Bool
  | _, [] => true
  | n, d :: ds => flatB n d && flatsB n ds
end
def sp__law_same (n : Nat) : Spc D where
  pre := fun d ds => ds = [d, d] ∧ flatB n d = true
  res := fun _ o => o = .val (.bl true)
  exc := fun _ _ => False

def r__law_same_4 {α : Type} (sp_prev : Spc α) : dS :=
  (sRet (dAnd (dIsi "int" (dVar 0)) (dAnd (dIsi "int" (dVar 1)) (dOp eqF (dVar 0) (dVar 1)))))
def r__law_same_3 {α : Type} (sp_prev : Spc α) : dS :=
  (sSeq (sIf (dtOr (dtTru (dIsi "bool" (dVar 1))) (dtTru (dIsi "bool" (dVar 0)))) (sRet (dAnd (dIsi "bool" (dVar 1)) (dAnd (dIsi "bool" (dVar 0)) (dOp eqF (dVar 0) (dVar 1))))) sNil) (r__law_same_4 sp_prev))
def r__law_same_2 {α : Type} (sp_prev : Spc α) : dS :=
  (sSeq (sIf (dtB (dOp isF (dVar 1) (dC .non))) (sRet (dOp isF (dVar 0) (dC .non))) sNil) (r__law_same_3 sp_prev))
def r__law_same_1 {α : Type} (sp_prev : Spc α) : dS :=
  (sSeq (sIf (dtTru (dIsi "str" (dVar 1))) (sRet (dAnd (dIsi "str" (dVar 0)) (dOp eqF (dVar 0) (dVar 1)))) sNil) (r__law_same_2 sp_prev))
def r__law_same_0 {α : Type} (sp_prev : Spc α) : dS :=
  (sSeq (sIf (dtTru (dIsi "tuple" (dVar 1))) (sSeq (sIf (dtOr (dtNot (dtTru (dIsi "tuple" (dVar 0)))) (dtB (dOp neF (dCB lenF (dCons (dVar 0) dNil)) (dCB lenF (dCons (dVar 1) dNil))))) (sRet (dC (.bl false))) sNil)
    (sSeq (sFor (srcRng1 (dCons (dCB lenF (dCons (dVar 1) dNil)) dNil)) (gN 2) (sIf (dtNot (dtTru (dCallP sp_prev (dCons (dOp ixF (dVar 0) (dVar 2)) (dCons (dOp ixF (dVar 1) (dVar 2)) dNil))))) (sRet (dC (.bl false))) sNil))
    (sRet (dC (.bl true))))) sNil) (r__law_same_1 sp_prev))
def t__law_same {α : Type} (sp_prev : Spc α) : dS :=
  (r__law_same_0 sp_prev)
theorem flats_get : ∀ {n : Nat} {ds : List D} {i : Nat} {d : D}, flatsB n ds = true → ds[i]? = some d → flatB n d = true
  | n, a :: r, 0, d, h, e => by
    unfold flatsB at h; rw [Bool.and_eq_true] at h
    simp at e; subst e; exact h.1
  | n, a :: r, i + 1, d, h, e => by
    unfold flatsB at h; rw [Bool.and_eq_true] at h
    exact flats_get h.2 (by simpa using e)
  | n, [], i, d, h, e => by simp at e
mutual
theorem flat_pure : ∀ {n : Nat} {d : D}, flatB n d = true → pureD d = true
  | n + 1, .tup ds, h => by unfold flatB at h; rw [Bool.and_eq_true] at h; unfold pureD; exact flats_pure h.2
  | 0, .tup ds, h => by unfold flatB leafB at h; cases h
  | _, .non, _ => rfl
  | _, .bl _, _ => rfl
  | _, .int _, _ => rfl
  | _, .str _, _ => rfl
  | 0, .lst _, h => by unfold flatB leafB at h; cases h
  | n + 1, .lst _, h => by unfold flatB leafB at h; cases h
  | 0, .ref _, h => by unfold flatB leafB at h; cases h
  | n + 1, .ref _, h => by unfold flatB leafB at h; cases h
  | 0, .adr _, h => by unfold flatB leafB at h; cases h
  | n + 1, .adr _, h => by unfold flatB leafB at h; cases h
theorem flats_pure : ∀ {n : Nat} {ds : List D}, flatsB n ds = true → pureDs ds = true
  | _, [], _ => rfl
  | n, d :: ds, h => by
    unfold flatsB at h; rw [Bool.and_eq_true] at h
    unfold pureDs; rw [flat_pure h.1, flats_pure h.2]; rfl
end
theorem same_step (n : Nat) (m : Spc D) (hP : ∀ k, n = k + 1 → m = sp__law_same k) : ∀ x ds, (sp__law_same n).pre x ds → t__law_same m (endP (sp__law_same n) x) (startE nm__law_same.length ds) [] := by
  rintro d ds ⟨rfl, hd⟩
  cases d with
  | non =>
    simp only [t__law_same, nm__law_same, r__law_same_0, r__law_same_1, r__law_same_2, r__law_same_3, r__law_same_4, dOp, dUn, dVar, dC, slot, startE, List.map, List.length, List.replicate, List.append, List.cons_append, List.nil_append, List.set, dAnd, dOr, dNot, dtB, dtAnd, dtOr, dtNot, dIf, dtTru, truF, dNil, dCons, dTup, dLst, dCB, sNil, sSeq, sRet, sRetN, sExpr, sIf, sAsg, gN, gT, gsNil, gsCons, gS, sPar, sAug, sWhile, sFor, sBrk, sCont, sNo, sRaise, dCallP, dCallD, eqF, neF, ltF, leF, gtF, geF, isF, notF, addF, subF, mulF, fdivF, modF, powF, negF, ixF, lenF, tupF, lstF, absF, intF, gcdF, maxF, minF, Rs.to, dIsi, dIsi2, dIsE, tyN, D.isNon, dM1, dM0, srcSeq, srcRng1, srcRng2, dLc, tYesD, iaddF, isBF, notBF, srcZip, repF, sumF, allF, anyF, intsOf_map, blsOf_map, dSl, dPart, dNoPart, sliceF, drD, at0, at1, at2, at3, at4, ix0, ix1, ix2, ix3, Dn.g0, Dn.g1, Dn.g2, Dn.g3, Dn.g4, ex_some, decide_true, decide_false, Bool.not_true, Bool.not_false, ite_true, ite_false, if_true, if_false, List.reverse_cons, List.reverse_nil, outPost, wipeE, CTg.set, setAll, appF, extF, revF, popF, Nat.zero_add, Nat.reduceAdd, is_NoneType_int, is_NoneType_bool, is_NoneType_str, is_NoneType_tuple, is_NoneType_list, is_bool_int, is_bool_bool, is_bool_str, is_bool_tuple, is_bool_list, is_int_int, is_int_bool, is_int_str, is_int_tuple, is_int_list, is_str_int, is_str_bool, is_str_str, is_str_tuple, is_str_list, is_tuple_int, is_tuple_bool, is_tuple_str, is_tuple_tuple, is_tuple_list, is_list_int, is_list_bool, is_list_str, is_list_tuple, is_list_list]
    exact rt_val rfl rfl
  | bl b =>
    simp only [t__law_same, nm__law_same, r__law_same_0, r__law_same_1, r__law_same_2, r__law_same_3, r__law_same_4, dOp, dUn, dVar, dC, slot, startE, List.map, List.length, List.replicate, List.append, List.cons_append, List.nil_append, List.set, dAnd, dOr, dNot, dtB, dtAnd, dtOr, dtNot, dIf, dtTru, truF, dNil, dCons, dTup, dLst, dCB, sNil, sSeq, sRet, sRetN, sExpr, sIf, sAsg, gN, gT, gsNil, gsCons, gS, sPar, sAug, sWhile, sFor, sBrk, sCont, sNo, sRaise, dCallP, dCallD, eqF, neF, ltF, leF, gtF, geF, isF, notF, addF, subF, mulF, fdivF, modF, powF, negF, ixF, lenF, tupF, lstF, absF, intF, gcdF, maxF, minF, Rs.to, dIsi, dIsi2, dIsE, tyN, D.isNon, dM1, dM0, srcSeq, srcRng1, srcRng2, dLc, tYesD, iaddF, isBF, notBF, srcZip, repF, sumF, allF, anyF, intsOf_map, blsOf_map, dSl, dPart, dNoPart, sliceF, drD, at0, at1, at2, at3, at4, ix0, ix1, ix2, ix3, Dn.g0, Dn.g1, Dn.g2, Dn.g3, Dn.g4, ex_some, decide_true, decide_false, Bool.not_true, Bool.not_false, ite_true, ite_false, if_true, if_false, List.reverse_cons, List.reverse_nil, outPost, wipeE, CTg.set, setAll, appF, extF, revF, popF, Nat.zero_add, Nat.reduceAdd, is_NoneType_int, is_NoneType_bool, is_NoneType_str, is_NoneType_tuple, is_NoneType_list, is_bool_int, is_bool_bool, is_bool_str, is_bool_tuple, is_bool_list, is_int_int, is_int_bool, is_int_str, is_int_tuple, is_int_list, is_str_int, is_str_bool, is_str_str, is_str_tuple, is_str_list, is_tuple_int, is_tuple_bool, is_tuple_str, is_tuple_tuple, is_tuple_list, is_list_int, is_list_bool, is_list_str, is_list_tuple, is_list_list]
    exact rt_val rfl rfl
  | int i =>
    simp only [t__law_same, nm__law_same, r__law_same_0, r__law_same_1, r__law_same_2, r__law_same_3, r__law_same_4, dOp, dUn, dVar, dC, slot, startE, List.map, List.length, List.replicate, List.append, List.cons_append, List.nil_append, List.set, dAnd, dOr, dNot, dtB, dtAnd, dtOr, dtNot, dIf, dtTru, truF, dNil, dCons, dTup, dLst, dCB, sNil, sSeq, sRet, sRetN, sExpr, sIf, sAsg, gN, gT, gsNil, gsCons, gS, sPar, sAug, sWhile, sFor, sBrk, sCont, sNo, sRaise, dCallP, dCallD, eqF, neF, ltF, leF, gtF, geF, isF, notF, addF, subF, mulF, fdivF, modF, powF, negF, ixF, lenF, tupF, lstF, absF, intF, gcdF, maxF, minF, Rs.to, dIsi, dIsi2, dIsE, tyN, D.isNon, dM1, dM0, srcSeq, srcRng1, srcRng2, dLc, tYesD, iaddF, isBF, notBF, srcZip, repF, sumF, allF, anyF, intsOf_map, blsOf_map, dSl, dPart, dNoPart, sliceF, drD, at0, at1, at2, at3, at4, ix0, ix1, ix2, ix3, Dn.g0, Dn.g1, Dn.g2, Dn.g3, Dn.g4, ex_some, decide_true, decide_false, Bool.not_true, Bool.not_false, ite_true, ite_false, if_true, if_false, List.reverse_cons, List.reverse_nil, outPost, wipeE, CTg.set, setAll, appF, extF, revF, popF, Nat.zero_add, Nat.reduceAdd, is_NoneType_int, is_NoneType_bool, is_NoneType_str, is_NoneType_tuple, is_NoneType_list, is_bool_int, is_bool_bool, is_bool_str, is_bool_tuple, is_bool_list, is_int_int, is_int_bool, is_int_str, is_int_tuple, is_int_list, is_str_int, is_str_bool, is_str_str, is_str_tuple, is_str_list, is_tuple_int, is_tuple_bool, is_tuple_str, is_tuple_tuple, is_tuple_list, is_list_int, is_list_bool, is_list_str, is_list_tuple, is_list_list]
    exact rt_val rfl rfl
  | str x =>
    simp only [t__law_same, nm__law_same, r__law_same_0, r__law_same_1, r__law_same_2, r__law_same_3, r__law_same_4, dOp, dUn, dVar, dC, slot, startE, List.map, List.length, List.replicate, List.append, List.cons_append, List.nil_append, List.set, dAnd, dOr, dNot, dtB, dtAnd, dtOr, dtNot, dIf, dtTru, truF, dNil, dCons, dTup, dLst, dCB, sNil, sSeq, sRet, sRetN, sExpr, sIf, sAsg, gN, gT, gsNil, gsCons, gS, sPar, sAug, sWhile, sFor, sBrk, sCont, sNo, sRaise, dCallP, dCallD, eqF, neF, ltF, leF, gtF, geF, isF, notF, addF, subF, mulF, fdivF, modF, powF, negF, ixF, lenF, tupF, lstF, absF, intF, gcdF, maxF, minF, Rs.to, dIsi, dIsi2, dIsE, tyN, D.isNon, dM1, dM0, srcSeq, srcRng1, srcRng2, dLc, tYesD, iaddF, isBF, notBF, srcZip, repF, sumF, allF, anyF, intsOf_map, blsOf_map, dSl, dPart, dNoPart, sliceF, drD, at0, at1, at2, at3, at4, ix0, ix1, ix2, ix3, Dn.g0, Dn.g1, Dn.g2, Dn.g3, Dn.g4, ex_some, decide_true, decide_false, Bool.not_true, Bool.not_false, ite_true, ite_false, if_true, if_false, List.reverse_cons, List.reverse_nil, outPost, wipeE, CTg.set, setAll, appF, extF, revF, popF, Nat.zero_add, Nat.reduceAdd, is_NoneType_int, is_NoneType_bool, is_NoneType_str, is_NoneType_tuple, is_NoneType_list, is_bool_int, is_bool_bool, is_bool_str, is_bool_tuple, is_bool_list, is_int_int, is_int_bool, is_int_str, is_int_tuple, is_int_list, is_str_int, is_str_bool, is_str_str, is_str_tuple, is_str_list, is_tuple_int, is_tuple_bool, is_tuple_str, is_tuple_tuple, is_tuple_list, is_list_int, is_list_bool, is_list_str, is_list_tuple, is_list_list]
    exact rt_val rfl rfl
  | tup ds =>
    cases n with
    | zero => unfold flatB leafB at hd; cases hd
    | succ k =>
      have hm := hP k rfl; subst hm
      unfold flatB at hd; rw [Bool.and_eq_true] at hd
      obtain ⟨hl, hd⟩ := hd
      have hl := of_decide_eq_true hl
      simp only [t__law_same, nm__law_same, r__law_same_0, r__law_same_1, r__law_same_2, r__law_same_3, r__law_same_4, dOp, dUn, dVar, dC, slot, startE, List.map, List.length, List.replicate, List.append, List.cons_append, List.nil_append, List.set, dAnd, dOr, dNot, dtB, dtAnd, dtOr, dtNot, dIf, dtTru, truF, dNil, dCons, dTup, dLst, dCB, sNil, sSeq, sRet, sRetN, sExpr, sIf, sAsg, gN, gT, gsNil, gsCons, gS, sPar, sAug, sWhile, sFor, sBrk, sCont, sNo, sRaise, dCallP, dCallD, eqF, neF, ltF, leF, gtF, geF, isF, notF, addF, subF, mulF, fdivF, modF, powF, negF, ixF, lenF, tupF, lstF, absF, intF, gcdF, maxF, minF, Rs.to, dIsi, dIsi2, dIsE, tyN, D.isNon, dM1, dM0, srcSeq, srcRng1, srcRng2, dLc, tYesD, iaddF, isBF, notBF, srcZip, repF, sumF, allF, anyF, intsOf_map, blsOf_map, dSl, dPart, dNoPart, sliceF, drD, at0, at1, at2, at3, at4, ix0, ix1, ix2, ix3, Dn.g0, Dn.g1, Dn.g2, Dn.g3, Dn.g4, ex_some, decide_true, decide_false, Bool.not_true, Bool.not_false, ite_true, ite_false, if_true, if_false, List.reverse_cons, List.reverse_nil, outPost, wipeE, CTg.set, setAll, appF, extF, revF, popF, Nat.zero_add, Nat.reduceAdd, is_NoneType_int, is_NoneType_bool, is_NoneType_str, is_NoneType_tuple, is_NoneType_list, is_bool_int, is_bool_bool, is_bool_str, is_bool_tuple, is_bool_list, is_int_int, is_int_bool, is_int_str, is_int_tuple, is_int_list, is_str_int, is_str_bool, is_str_str, is_str_tuple, is_str_list, is_tuple_int, is_tuple_bool, is_tuple_str, is_tuple_tuple, is_tuple_list, is_list_int, is_list_bool, is_list_str, is_list_tuple, is_list_list]
      refine ⟨⟨by omega, by omega⟩, fun i e h => (∃ u, e = [some (.tup ds), some (.tup ds), u]) ∧ h = [], ⟨⟨_, rfl⟩, rfl⟩, fun _ _ _ _ _ => trivial, ?_, ?_⟩
      · rintro i x e h hx ⟨⟨u, rfl⟩, rfl⟩
        obtain ⟨hi, rfl⟩ := ints_at hx
        have hi : i < ds.length := by omega
        have e1 : atI ds (0 + (i : Int)) = some ds[i] := by
          rw [atN _ (by omega) (by omega), show (0 + (i : Int)).toNat = i by omega, List.getElem?_eq_getElem hi]
        have f1 := flats_get hd (List.getElem?_eq_getElem hi)
        simp only [e1, dOp, dUn, dVar, dC, slot, startE, List.map, List.length, List.replicate, List.append, List.cons_append, List.nil_append, List.set, dAnd, dOr, dNot, dtB, dtAnd, dtOr, dtNot, dIf, dtTru, truF, dNil, dCons, dTup, dLst, dCB, sNil, sSeq, sRet, sRetN, sExpr, sIf, sAsg, gN, gT, gsNil, gsCons, gS, sPar, sAug, sWhile, sFor, sBrk, sCont, sNo, sRaise, dCallP, dCallD, eqF, neF, ltF, leF, gtF, geF, isF, notF, addF, subF, mulF, fdivF, modF, powF, negF, ixF, lenF, tupF, lstF, absF, intF, gcdF, maxF, minF, Rs.to, dIsi, dIsi2, dIsE, tyN, D.isNon, dM1, dM0, srcSeq, srcRng1, srcRng2, dLc, tYesD, iaddF, isBF, notBF, srcZip, repF, sumF, allF, anyF, intsOf_map, blsOf_map, dSl, dPart, dNoPart, sliceF, drD, at0, at1, at2, at3, at4, ix0, ix1, ix2, ix3, Dn.g0, Dn.g1, Dn.g2, Dn.g3, Dn.g4, ex_some, decide_true, decide_false, Bool.not_true, Bool.not_false, ite_true, ite_false, if_true, if_false, List.reverse_cons, List.reverse_nil, outPost, wipeE, CTg.set, setAll, appF, extF, revF, popF, Nat.zero_add, Nat.reduceAdd, is_NoneType_int, is_NoneType_bool, is_NoneType_str, is_NoneType_tuple, is_NoneType_list, is_bool_int, is_bool_bool, is_bool_str, is_bool_tuple, is_bool_list, is_int_int, is_int_bool, is_int_str, is_int_tuple, is_int_list, is_str_int, is_str_bool, is_str_str, is_str_tuple, is_str_list, is_tuple_int, is_tuple_bool, is_tuple_str, is_tuple_tuple, is_tuple_list, is_list_int, is_list_bool, is_list_str, is_list_tuple, is_list_list]
        refine ⟨ds[i], [ds[i], ds[i]], pure1 (by simp [pureDs, flat_pure f1]), ⟨rfl, f1⟩, ?_, fun _ q => q.elim⟩
        rintro o rfl -
        simp only [dOp, dUn, dVar, dC, slot, startE, List.map, List.length, List.replicate, List.append, List.cons_append, List.nil_append, List.set, dAnd, dOr, dNot, dtB, dtAnd, dtOr, dtNot, dIf, dtTru, truF, dNil, dCons, dTup, dLst, dCB, sNil, sSeq, sRet, sRetN, sExpr, sIf, sAsg, gN, gT, gsNil, gsCons, gS, sPar, sAug, sWhile, sFor, sBrk, sCont, sNo, sRaise, dCallP, dCallD, eqF, neF, ltF, leF, gtF, geF, isF, notF, addF, subF, mulF, fdivF, modF, powF, negF, ixF, lenF, tupF, lstF, absF, intF, gcdF, maxF, minF, Rs.to, dIsi, dIsi2, dIsE, tyN, D.isNon, dM1, dM0, srcSeq, srcRng1, srcRng2, dLc, tYesD, iaddF, isBF, notBF, srcZip, repF, sumF, allF, anyF, intsOf_map, blsOf_map, dSl, dPart, dNoPart, sliceF, drD, at0, at1, at2, at3, at4, ix0, ix1, ix2, ix3, Dn.g0, Dn.g1, Dn.g2, Dn.g3, Dn.g4, ex_some, decide_true, decide_false, Bool.not_true, Bool.not_false, ite_true, ite_false, if_true, if_false, List.reverse_cons, List.reverse_nil, outPost, wipeE, CTg.set, setAll, appF, extF, revF, popF, Nat.zero_add, Nat.reduceAdd, is_NoneType_int, is_NoneType_bool, is_NoneType_str, is_NoneType_tuple, is_NoneType_list, is_bool_int, is_bool_bool, is_bool_str, is_bool_tuple, is_bool_list, is_int_int, is_int_bool, is_int_str, is_int_tuple, is_int_list, is_str_int, is_str_bool, is_str_str, is_str_tuple, is_str_list, is_tuple_int, is_tuple_bool, is_tuple_str, is_tuple_tuple, is_tuple_list, is_list_int, is_list_bool, is_list_str, is_list_tuple, is_list_list]
        exact ⟨⟨_, rfl⟩, trivial⟩
      · rintro e h ⟨⟨u, rfl⟩, rfl⟩
        exact rt_val rfl rfl
  | lst ds => cases n <;> (unfold flatB leafB at hd; cases hd)
  | ref m => cases n <;> (unfold flatB leafB at hd; cases hd)
  | adr m => cases n <;> (unfold flatB leafB at hd; cases hd)
theorem len__law_same (n : Nat) : ∀ x ds, (sp__law_same n).pre x ds → ds.length = 2 := fun x ds h => by rw [h.1]; rfl

theorem go__law_same (T : Txt K mg) {α β : Type} (sp_prev : Spc α) (sp_here : Spc β) {j : Nat} (hj : 0 ≤ j) (G0 : Ok P w K mg base j "_law_same" ["actual", "expected"] (spP K mg sp_prev)) (hlen : ∀ x ds, sp_here.pre x ds → ds.length = 2) (hw : ∀ x ds, sp_here.pre x ds → t__law_same sp_prev (endP sp_here x) (startE nm__law_same.length ds) []) : Ok P w K mg base (j + 1) "_law_same" ["actual", "expected"] (spP K mg sp_here) :=
  okOf T.d__law_same fun f fd F => fnP (k := j) sp_here (t__law_same sp_prev) F sc__law_same hlen (fun cdv A outer s H E hr z => by
    have hu := hr.units; have hnd := sc__law_same.nd
    unfold t__law_same r__law_same_0 r__law_same_1 r__law_same_2 r__law_same_3 r__law_same_4
    exact (dss_cons (ds_if (dt_tru (de_isi kit_tuple rfl T.b_isinstance rfl T.b_tuple (by decide +kernel) (by decide) (by decide) (de_var 1 rfl (by walk_at "vis") (by decide) (by decide)) rfl rfl rfl) (fun _ => rfl)) (dss_cons (ds_if (dw_pt (dw_or (dt_not (dt_tru (de_isi kit_tuple rfl T.b_isinstance rfl T.b_tuple (by decide +kernel) (by decide) (by decide) (de_var 0 rfl (by walk_at "vis") (by decide) (by decide)) rfl rfl rfl) (fun _ => rfl))) (dw_or1 (dt_cmp (op_neA hu) od_ne (de_callB (f := lenF) call_len_seq cd_len rfl T.b_len (by decide +kernel) (da_cons (de_var 0 rfl (by walk_at "vis") (by decide) (by decide)) da_nil rfl) (by decide) (by decide) rfl rfl) (de_callB (f := lenF) call_len_seq cd_len rfl T.b_len (by decide +kernel) (da_cons (de_var 1 rfl (by walk_at "vis") (by decide) (by decide)) da_nil rfl) (by decide) (by decide) rfl rfl) (nomark _))))) (dss_one (ds_ret de_bl)) dss_nil)
    (dss_cons (ds_for (passes_of (K := fun e s'' => L2.CX P w outer H s E e s'') (E₁ := fun e s'' => L2.CX P w outer H s E e s'') rfl) rfl (di_rng1 rfl T.b_range (da_cons (de_callB (f := lenF) call_len_seq cd_len rfl T.b_len (by decide +kernel) (da_cons (de_var 1 rfl (by walk_at "vis") (by decide) (by decide)) da_nil rfl) (by decide) (by decide) rfl rfl) da_nil rfl) rfl) (dg_name 2 hnd rfl (by walk_at "locs") (by walk_at "fnn")) (dss_one (ds_if (dt_not (dt_tru (dn_callP G0 hr (takes_of rfl rfl rfl rfl) rfl (by decide) (da_cons (de_ix (de_var 0 rfl (by walk_at "vis") (by decide) (by decide)) (de_var 2 rfl (by walk_at "vis") (by decide) (by decide)) (fun _ _ => rfl)) (da_cons (de_ix (de_var 1 rfl (by walk_at "vis") (by decide) (by decide)) (de_var 2 rfl (by walk_at "vis") (by decide) (by decide)) (fun _ _ => rfl)) da_nil rfl) rfl) rfl rfl) (fun _ => rfl))) (dss_one (ds_ret de_bl)) dss_nil)) (fun _ => rfl))
    (dss_one (ds_ret de_bl)))) dss_nil)
    (dss_cons (ds_if (dt_tru (de_isi kit_str rfl T.b_isinstance rfl T.b_str (by decide +kernel) (by decide) (by decide) (de_var 1 rfl (by walk_at "vis") (by decide) (by decide)) rfl rfl rfl) (fun _ => rfl)) (dss_one (ds_ret (de_and (de_isi kit_str rfl T.b_isinstance rfl T.b_str (by decide +kernel) (by decide) (by decide) (de_var 0 rfl (by walk_at "vis") (by decide) (by decide)) rfl rfl rfl) (de_one (de_eq hu (de_var 0 rfl (by walk_at "vis") (by decide) (by decide)) (de_var 1 rfl (by walk_at "vis") (by decide) (by decide))))))) dss_nil)
    (dss_cons (ds_if (dt_cmp op_isN od_is (de_var 1 rfl (by walk_at "vis") (by decide) (by decide)) de_non (nomark _)) (dss_one (ds_ret (de_is (de_var 0 rfl (by walk_at "vis") (by decide) (by decide)) de_non))) dss_nil)
    (dss_cons (ds_if (dw_pt (dw_or (dt_tru (de_isi kit_bool rfl T.b_isinstance rfl T.b_bool (by decide +kernel) (by decide) (by decide) (de_var 1 rfl (by walk_at "vis") (by decide) (by decide)) rfl rfl rfl) (fun _ => rfl)) (dw_or1 (dt_tru (de_isi kit_bool rfl T.b_isinstance rfl T.b_bool (by decide +kernel) (by decide) (by decide) (de_var 0 rfl (by walk_at "vis") (by decide) (by decide)) rfl rfl rfl) (fun _ => rfl))))) (dss_one (ds_ret (de_and (de_isi kit_bool rfl T.b_isinstance rfl T.b_bool (by decide +kernel) (by decide) (by decide) (de_var 1 rfl (by walk_at "vis") (by decide) (by decide)) rfl rfl rfl) (de_and (de_isi kit_bool rfl T.b_isinstance rfl T.b_bool (by decide +kernel) (by decide) (by decide) (de_var 0 rfl (by walk_at "vis") (by decide) (by decide)) rfl rfl rfl) (de_one (de_eq hu (de_var 0 rfl (by walk_at "vis") (by decide) (by decide)) (de_var 1 rfl (by walk_at "vis") (by decide) (by decide)))))))) dss_nil)
    (dss_one (ds_ret (de_and (de_isi kit_int rfl T.b_isinstance rfl T.b_int (by decide +kernel) (by decide) (by decide) (de_var 0 rfl (by walk_at "vis") (by decide) (by decide)) rfl rfl rfl) (de_and (de_isi kit_int rfl T.b_isinstance rfl T.b_int (by decide +kernel) (by decide) (by decide) (de_var 1 rfl (by walk_at "vis") (by decide) (by decide)) rfl rfl rfl) (de_one (de_eq hu (de_var 0 rfl (by walk_at "vis") (by decide) (by decide)) (de_var 1 rfl (by walk_at "vis") (by decide) (by decide))))))))))))) hw
def noSpc : Spc D where
  pre := fun _ _ => False
  res := fun _ _ => False
  exc := fun _ _ => False
theorem ok_no {x : Str} {st : Stmt} {ps : List Str} (A : DefAt K mg x st ps) : Ok P w K mg base 0 x ps (spP K mg noSpc) :=
  okOf A fun f fd F => ⟨fun vs H Q E ⟨_, _, _, h, _⟩ => h.elim, fun _ _ _ _ _ _ _ _ _ _ _ _ _ ⟨_, _, _, h, _⟩ => h.elim⟩
theorem ok__law_same (T : Txt K mg) : ∀ n : Nat, Ok P w K mg base (n + 1) "_law_same" ["actual", "expected"] (spP K mg (sp__law_same n))
  | 0 => go__law_same T noSpc (sp__law_same 0) (Nat.zero_le _) (ok_no T.d__law_same) (len__law_same 0) (same_step 0 noSpc fun k h => by cases h)
  | n + 1 => go__law_same T (sp__law_same n) (sp__law_same (n + 1)) (Nat.zero_le _) (ok__law_same T n) (len__law_same (n + 1)) (same_step (n + 1) _ fun k h => by injection h with h; rw [h])

/-! ### weight -/
def sp_weight : Spc WP where
  pre := preW
  res := fun x o => o = .val (.int (dotN x.1 x.2 x.1.length))
  exc := fun _ _ => False

def l1_weight_0 : dS :=
  (sAsg (dOp addF (dVar 2) (dOp mulF (dVar 3) (dVar 4))) (gN 2))
def r_weight_2 : dS :=
  (sRet (dVar 2))
def r_weight_1 : dS :=
  (sSeq (sFor (srcZip (dCons (dVar 0) (dCons (dVar 1) dNil))) (gT 2 (gsCons (gN 3) (gsCons (gN 4) gsNil))) (l1_weight_0)) (r_weight_2))
def r_weight_0 : dS :=
  (sSeq (sAsg (dC (.int 0)) (gN 2)) (r_weight_1))
def t_weight : dS :=
  (r_weight_0)
theorem len_weight : ∀ x ds, sp_weight.pre x ds → ds.length = 2 := fun x ds h => by rw [h.1]; rfl
theorem w_weight : ∀ x ds, sp_weight.pre x ds → t_weight (endP sp_weight x) (startE nm_weight.length ds) [] := by
  rintro ⟨a, b⟩ ds ⟨rfl, hl, ha, hb⟩
  simp only at hl ha hb
  simp only [t_weight , r_weight_0, r_weight_1, nm_weight, dOp, dUn, dVar, dC, slot, startE, List.map, List.length, List.replicate, List.append, List.cons_append, List.nil_append, List.set, dAnd, dOr, dNot, dtB, dtAnd, dtOr, dtNot, dIf, dtTru, truF, dNil, dCons, dTup, dLst, dCB, sNil, sSeq, sRet, sRetN, sExpr, sIf, sAsg, gN, gT, gsNil, gsCons, gS, sPar, sAug, sWhile, sFor, sBrk, sCont, sNo, sRaise, dCallP_eq, dCallD_eq, List.length_map, List.getElem?_cons_succ, List.getElem?_concat_length, set_last, get_mid, get_mid2, eqF, neF, ltF, leF, gtF, geF, isF, notF, addF, subF, mulF, fdivF, modF, powF, negF, ixF, lenF, tupF, lstF, absF, intF, gcdF, maxF, minF, Rs.to, dIsi, dIsi2, dIsE, tyN, D.isNon, dM1, dM0, srcSeq, srcRng1, srcRng2, dLc, tYesD, iaddF, isBF, notBF, srcZip, repF, sumF, allF, anyF, intsOf_map, blsOf_map, dSl, dPart, dNoPart, sliceF, at0, at1, at2, at3, at4, ix0, ix1, ix2, ix3, Dn.g0, Dn.g1, Dn.g2, Dn.g3, Dn.g4, ex_some, decide_true, decide_false, Bool.not_true, Bool.not_false, ite_true, ite_false, if_true, if_false, List.reverse_cons, List.reverse_nil, outPost, wipeE, CTg.set, setAll, appF, extF, revF, popF, Nat.zero_add, Nat.reduceAdd, is_NoneType_int, is_NoneType_bool, is_NoneType_str, is_NoneType_tuple, is_NoneType_list, is_bool_int, is_bool_bool, is_bool_str, is_bool_tuple, is_bool_list, is_int_int, is_int_bool, is_int_str, is_int_tuple, is_int_list, is_str_int, is_str_bool, is_str_str, is_str_tuple, is_str_list, is_tuple_int, is_tuple_bool, is_tuple_str, is_tuple_tuple, is_tuple_list, is_list_int, is_list_bool, is_list_str, is_list_tuple, is_list_list]
  refine ⟨fun i e h => (∃ u v, e = [some (tI a), some (tI b), some (.int (dotN a b i)), u, v]) ∧ h = [], ⟨⟨_, _, rfl⟩, rfl⟩, fun _ _ _ _ _ => trivial, ?_, ?_⟩
  · rintro i x e h hx ⟨⟨u, v, rfl⟩, rfl⟩
    obtain ⟨h1, h2, rfl⟩ := zip_at hx
    simp only [l1_weight_0, dOp, dUn, dVar, dC, slot, startE, List.map, List.length, List.replicate, List.append, List.cons_append, List.nil_append, List.set, dAnd, dOr, dNot, dtB, dtAnd, dtOr, dtNot, dIf, dtTru, truF, dNil, dCons, dTup, dLst, dCB, sNil, sSeq, sRet, sRetN, sExpr, sIf, sAsg, gN, gT, gsNil, gsCons, gS, sPar, sAug, sWhile, sFor, sBrk, sCont, sNo, sRaise, dCallP_eq, dCallD_eq, List.length_map, List.getElem?_cons_succ, List.getElem?_concat_length, set_last, get_mid, get_mid2, eqF, neF, ltF, leF, gtF, geF, isF, notF, addF, subF, mulF, fdivF, modF, powF, negF, ixF, lenF, tupF, lstF, absF, intF, gcdF, maxF, minF, Rs.to, dIsi, dIsi2, dIsE, tyN, D.isNon, dM1, dM0, srcSeq, srcRng1, srcRng2, dLc, tYesD, iaddF, isBF, notBF, srcZip, repF, sumF, allF, anyF, intsOf_map, blsOf_map, dSl, dPart, dNoPart, sliceF, at0, at1, at2, at3, at4, ix0, ix1, ix2, ix3, Dn.g0, Dn.g1, Dn.g2, Dn.g3, Dn.g4, ex_some, decide_true, decide_false, Bool.not_true, Bool.not_false, ite_true, ite_false, if_true, if_false, List.reverse_cons, List.reverse_nil, outPost, wipeE, CTg.set, setAll, appF, extF, revF, popF, Nat.zero_add, Nat.reduceAdd, is_NoneType_int, is_NoneType_bool, is_NoneType_str, is_NoneType_tuple, is_NoneType_list, is_bool_int, is_bool_bool, is_bool_str, is_bool_tuple, is_bool_list, is_int_int, is_int_bool, is_int_str, is_int_tuple, is_int_list, is_str_int, is_str_bool, is_str_str, is_str_tuple, is_str_list, is_tuple_int, is_tuple_bool, is_tuple_str, is_tuple_tuple, is_tuple_list, is_list_int, is_list_bool, is_list_str, is_list_tuple, is_list_list]
    exact ⟨trivial, bt_mul (ha.getD i) (hb.getD i) (by decide), ⟨_, _, rfl⟩, trivial⟩
  · rintro e h ⟨⟨u, v, rfl⟩, rfl⟩
    rw [zipD_len, List.length_map, List.length_map, Nat.min_eq_left hl]
    simp only [r_weight_2, dOp, dUn, dVar, dC, slot, startE, List.map, List.length, List.replicate, List.append, List.cons_append, List.nil_append, List.set, dAnd, dOr, dNot, dtB, dtAnd, dtOr, dtNot, dIf, dtTru, truF, dNil, dCons, dTup, dLst, dCB, sNil, sSeq, sRet, sRetN, sExpr, sIf, sAsg, gN, gT, gsNil, gsCons, gS, sPar, sAug, sWhile, sFor, sBrk, sCont, sNo, sRaise, dCallP_eq, dCallD_eq, List.length_map, List.getElem?_cons_succ, List.getElem?_concat_length, set_last, get_mid, get_mid2, eqF, neF, ltF, leF, gtF, geF, isF, notF, addF, subF, mulF, fdivF, modF, powF, negF, ixF, lenF, tupF, lstF, absF, intF, gcdF, maxF, minF, Rs.to, dIsi, dIsi2, dIsE, tyN, D.isNon, dM1, dM0, srcSeq, srcRng1, srcRng2, dLc, tYesD, iaddF, isBF, notBF, srcZip, repF, sumF, allF, anyF, intsOf_map, blsOf_map, dSl, dPart, dNoPart, sliceF, at0, at1, at2, at3, at4, ix0, ix1, ix2, ix3, Dn.g0, Dn.g1, Dn.g2, Dn.g3, Dn.g4, ex_some, decide_true, decide_false, Bool.not_true, Bool.not_false, ite_true, ite_false, if_true, if_false, List.reverse_cons, List.reverse_nil, outPost, wipeE, CTg.set, setAll, appF, extF, revF, popF, Nat.zero_add, Nat.reduceAdd, is_NoneType_int, is_NoneType_bool, is_NoneType_str, is_NoneType_tuple, is_NoneType_list, is_bool_int, is_bool_bool, is_bool_str, is_bool_tuple, is_bool_list, is_int_int, is_int_bool, is_int_str, is_int_tuple, is_int_list, is_str_int, is_str_bool, is_str_str, is_str_tuple, is_str_list, is_tuple_int, is_tuple_bool, is_tuple_str, is_tuple_tuple, is_tuple_list, is_list_int, is_list_bool, is_list_str, is_list_tuple, is_list_list]
    exact rt_val rfl rfl

theorem ok_weight (T : Txt K mg) : Ok P w K mg base 1 "weight" ["form", "place"] (spP K mg sp_weight) :=
  okOf T.d_weight fun f fd F => fnP (k := 0) sp_weight t_weight F sc_weight (fun x ds hp => len_weight x ds hp) (fun cdv A outer s H E hr z => by
    have hu := hr.units; have hnd := sc_weight.nd
    unfold t_weight r_weight_0 r_weight_1 r_weight_2 l1_weight_0
    exact (dss_cons (ds_set 2 hnd rfl (by walk_at "locs") de_int rfl (by walk_at "fnn"))
    (dss_cons (ds_for (passes_of (K := fun e s'' => L2.CX P w outer H s E e s'') (E₁ := fun e s'' => L2.CX P w outer H s E e s'') rfl) rfl (di_zip rfl T.b_zip (da_cons (de_var 0 rfl (by walk_at "vis") (by decide) (by decide)) (da_cons (de_var 1 rfl (by walk_at "vis") (by decide) (by decide)) da_nil rfl) rfl) rfl rfl) (dg_tup rfl (dgs_cons (dg_name 3 hnd rfl (by walk_at "locs") (by walk_at "fnn")) (dgs_cons (dg_name 4 hnd rfl (by walk_at "locs") (by walk_at "fnn")) dgs_nil rfl) rfl) rfl rfl) (dss_one (ds_set 2 hnd rfl (by walk_at "locs") (de_add (de_var 2 rfl (by walk_at "vis") (by decide) (by decide)) (de_mul (de_var 3 rfl (by walk_at "vis") (by decide) (by decide)) (de_var 4 rfl (by walk_at "vis") (by decide) (by decide)))) rfl (by walk_at "fnn"))) (fun _ => rfl))
    (dss_one (ds_ret (de_var 2 rfl (by walk_at "vis") (by decide) (by decide))))))) w_weight
/-! ### keeps -/
def kpt (k : Int) (w : Int) : Bool := if k = 0 then decide (w = 0) else if k = 1 then decide (0 ≤ w) else decide (0 < w)
structure CP where
  f : List Int
  k : Int
  p : List Int
def cl (f : List Int) (k : Int) : D := .tup [tI f, .int k]
def preC (x : CP) (ds : List D) : Prop := ds = [cl x.f x.k, tI x.p] ∧ x.f.length ≤ x.p.length ∧ Lb 2000 x.f ∧ Lb 2000 x.p
def sp_keeps : Spc CP where
  pre := preC
  res := fun x o => o = .val (.bl (kpt x.k (dotN x.f x.p x.f.length)))
  exc := fun _ _ => False

def r_keeps_4 : dS :=
  (sRet (dOp gtF (dVar 4) (dC (.int 0))))
def r_keeps_3 : dS :=
  (sSeq (sIf (dtB (dOp eqF (dVar 3) (dC (.int 1)))) (sRet (dOp geF (dVar 4) (dC (.int 0)))) sNil) (r_keeps_4))
def r_keeps_2 : dS :=
  (sSeq (sIf (dtB (dOp eqF (dVar 3) (dC (.int 0)))) (sRet (dOp eqF (dVar 4) (dC (.int 0)))) sNil) (r_keeps_3))
def r_keeps_1 : dS :=
  (sSeq (sAsg (dCallP sp_weight (dCons (dVar 2) (dCons (dVar 1) dNil))) (gN 4)) (r_keeps_2))
def r_keeps_0 : dS :=
  (sSeq (sAsg (dVar 0) (gT 2 (gsCons (gN 2) (gsCons (gN 3) gsNil)))) (r_keeps_1))
def t_keeps : dS :=
  (r_keeps_0)
theorem len_keeps : ∀ x ds, sp_keeps.pre x ds → ds.length = 2 := fun x ds h => by rw [h.1]; rfl
theorem w_keeps : ∀ x ds, sp_keeps.pre x ds → t_keeps (endP sp_keeps x) (startE nm_keeps.length ds) [] := by
  rintro ⟨f, k, p⟩ ds ⟨rfl, hl, hf, hp⟩
  simp only at hl hf hp
  simp only [t_keeps , r_keeps_0, nm_keeps, cl, dOp, dUn, dVar, dC, slot, startE, List.map, List.length, List.replicate, List.append, List.cons_append, List.nil_append, List.set, dAnd, dOr, dNot, dtB, dtAnd, dtOr, dtNot, dIf, dtTru, truF, dNil, dCons, dTup, dLst, dCB, sNil, sSeq, sRet, sRetN, sExpr, sIf, sAsg, gN, gT, gsNil, gsCons, gS, sPar, sAug, sWhile, sFor, sBrk, sCont, sNo, sRaise, dCallP_eq, dCallD_eq, List.length_map, List.getElem?_cons_succ, List.getElem?_concat_length, set_last, get_mid, get_mid2, eqF, neF, ltF, leF, gtF, geF, isF, notF, addF, subF, mulF, fdivF, modF, powF, negF, ixF, lenF, tupF, lstF, absF, intF, gcdF, maxF, minF, Rs.to, dIsi, dIsi2, dIsE, tyN, D.isNon, dM1, dM0, srcSeq, srcRng1, srcRng2, dLc, tYesD, iaddF, isBF, notBF, srcZip, repF, sumF, allF, anyF, intsOf_map, blsOf_map, dSl, dPart, dNoPart, sliceF, at0, at1, at2, at3, at4, ix0, ix1, ix2, ix3, Dn.g0, Dn.g1, Dn.g2, Dn.g3, Dn.g4, ex_some, decide_true, decide_false, Bool.not_true, Bool.not_false, ite_true, ite_false, if_true, if_false, List.reverse_cons, List.reverse_nil, outPost, wipeE, CTg.set, setAll, appF, extF, revF, popF, Nat.zero_add, Nat.reduceAdd, is_NoneType_int, is_NoneType_bool, is_NoneType_str, is_NoneType_tuple, is_NoneType_list, is_bool_int, is_bool_bool, is_bool_str, is_bool_tuple, is_bool_list, is_int_int, is_int_bool, is_int_str, is_int_tuple, is_int_list, is_str_int, is_str_bool, is_str_str, is_str_tuple, is_str_list, is_tuple_int, is_tuple_bool, is_tuple_str, is_tuple_tuple, is_tuple_list, is_list_int, is_list_bool, is_list_str, is_list_tuple, is_list_list]
  refine ⟨trivial, ?_⟩
  simp only [r_keeps_1, dOp, dUn, dVar, dC, slot, startE, List.map, List.length, List.replicate, List.append, List.cons_append, List.nil_append, List.set, dAnd, dOr, dNot, dtB, dtAnd, dtOr, dtNot, dIf, dtTru, truF, dNil, dCons, dTup, dLst, dCB, sNil, sSeq, sRet, sRetN, sExpr, sIf, sAsg, gN, gT, gsNil, gsCons, gS, sPar, sAug, sWhile, sFor, sBrk, sCont, sNo, sRaise, dCallP_eq, dCallD_eq, List.length_map, List.getElem?_cons_succ, List.getElem?_concat_length, set_last, get_mid, get_mid2, eqF, neF, ltF, leF, gtF, geF, isF, notF, addF, subF, mulF, fdivF, modF, powF, negF, ixF, lenF, tupF, lstF, absF, intF, gcdF, maxF, minF, Rs.to, dIsi, dIsi2, dIsE, tyN, D.isNon, dM1, dM0, srcSeq, srcRng1, srcRng2, dLc, tYesD, iaddF, isBF, notBF, srcZip, repF, sumF, allF, anyF, intsOf_map, blsOf_map, dSl, dPart, dNoPart, sliceF, at0, at1, at2, at3, at4, ix0, ix1, ix2, ix3, Dn.g0, Dn.g1, Dn.g2, Dn.g3, Dn.g4, ex_some, decide_true, decide_false, Bool.not_true, Bool.not_false, ite_true, ite_false, if_true, if_false, List.reverse_cons, List.reverse_nil, outPost, wipeE, CTg.set, setAll, appF, extF, revF, popF, Nat.zero_add, Nat.reduceAdd, is_NoneType_int, is_NoneType_bool, is_NoneType_str, is_NoneType_tuple, is_NoneType_list, is_bool_int, is_bool_bool, is_bool_str, is_bool_tuple, is_bool_list, is_int_int, is_int_bool, is_int_str, is_int_tuple, is_int_list, is_str_int, is_str_bool, is_str_str, is_str_tuple, is_str_list, is_tuple_int, is_tuple_bool, is_tuple_str, is_tuple_tuple, is_tuple_list, is_list_int, is_list_bool, is_list_str, is_list_tuple, is_list_list]
  refine useP_val (f, p) _ (by simp only [pureDs, pureD, ints_pure]; rfl) ⟨rfl, hl, hf, hp⟩ (fun o q => q) (fun ex q => q) ?_
  by_cases k0 : k = 0
  · simp only [r_keeps_2, r_keeps_3, r_keeps_4, k0, dOp, dUn, dVar, dC, slot, startE, List.map, List.length, List.replicate, List.append, List.cons_append, List.nil_append, List.set, dAnd, dOr, dNot, dtB, dtAnd, dtOr, dtNot, dIf, dtTru, truF, dNil, dCons, dTup, dLst, dCB, sNil, sSeq, sRet, sRetN, sExpr, sIf, sAsg, gN, gT, gsNil, gsCons, gS, sPar, sAug, sWhile, sFor, sBrk, sCont, sNo, sRaise, dCallP_eq, dCallD_eq, List.length_map, List.getElem?_cons_succ, List.getElem?_concat_length, set_last, get_mid, get_mid2, eqF, neF, ltF, leF, gtF, geF, isF, notF, addF, subF, mulF, fdivF, modF, powF, negF, ixF, lenF, tupF, lstF, absF, intF, gcdF, maxF, minF, Rs.to, dIsi, dIsi2, dIsE, tyN, D.isNon, dM1, dM0, srcSeq, srcRng1, srcRng2, dLc, tYesD, iaddF, isBF, notBF, srcZip, repF, sumF, allF, anyF, intsOf_map, blsOf_map, dSl, dPart, dNoPart, sliceF, at0, at1, at2, at3, at4, ix0, ix1, ix2, ix3, Dn.g0, Dn.g1, Dn.g2, Dn.g3, Dn.g4, ex_some, decide_true, decide_false, Bool.not_true, Bool.not_false, ite_true, ite_false, if_true, if_false, List.reverse_cons, List.reverse_nil, outPost, wipeE, CTg.set, setAll, appF, extF, revF, popF, Nat.zero_add, Nat.reduceAdd, is_NoneType_int, is_NoneType_bool, is_NoneType_str, is_NoneType_tuple, is_NoneType_list, is_bool_int, is_bool_bool, is_bool_str, is_bool_tuple, is_bool_list, is_int_int, is_int_bool, is_int_str, is_int_tuple, is_int_list, is_str_int, is_str_bool, is_str_str, is_str_tuple, is_str_list, is_tuple_int, is_tuple_bool, is_tuple_str, is_tuple_tuple, is_tuple_list, is_list_int, is_list_bool, is_list_str, is_list_tuple, is_list_list]
    exact rt_val rfl (by simp [sp_keeps, kpt, k0])
  · by_cases k1 : k = 1
    · simp only [r_keeps_2, r_keeps_3, r_keeps_4, k0, k1, dOp, dUn, dVar, dC, slot, startE, List.map, List.length, List.replicate, List.append, List.cons_append, List.nil_append, List.set, dAnd, dOr, dNot, dtB, dtAnd, dtOr, dtNot, dIf, dtTru, truF, dNil, dCons, dTup, dLst, dCB, sNil, sSeq, sRet, sRetN, sExpr, sIf, sAsg, gN, gT, gsNil, gsCons, gS, sPar, sAug, sWhile, sFor, sBrk, sCont, sNo, sRaise, dCallP_eq, dCallD_eq, List.length_map, List.getElem?_cons_succ, List.getElem?_concat_length, set_last, get_mid, get_mid2, eqF, neF, ltF, leF, gtF, geF, isF, notF, addF, subF, mulF, fdivF, modF, powF, negF, ixF, lenF, tupF, lstF, absF, intF, gcdF, maxF, minF, Rs.to, dIsi, dIsi2, dIsE, tyN, D.isNon, dM1, dM0, srcSeq, srcRng1, srcRng2, dLc, tYesD, iaddF, isBF, notBF, srcZip, repF, sumF, allF, anyF, intsOf_map, blsOf_map, dSl, dPart, dNoPart, sliceF, at0, at1, at2, at3, at4, ix0, ix1, ix2, ix3, Dn.g0, Dn.g1, Dn.g2, Dn.g3, Dn.g4, ex_some, decide_true, decide_false, Bool.not_true, Bool.not_false, ite_true, ite_false, if_true, if_false, List.reverse_cons, List.reverse_nil, outPost, wipeE, CTg.set, setAll, appF, extF, revF, popF, Nat.zero_add, Nat.reduceAdd, is_NoneType_int, is_NoneType_bool, is_NoneType_str, is_NoneType_tuple, is_NoneType_list, is_bool_int, is_bool_bool, is_bool_str, is_bool_tuple, is_bool_list, is_int_int, is_int_bool, is_int_str, is_int_tuple, is_int_list, is_str_int, is_str_bool, is_str_str, is_str_tuple, is_str_list, is_tuple_int, is_tuple_bool, is_tuple_str, is_tuple_tuple, is_tuple_list, is_list_int, is_list_bool, is_list_str, is_list_tuple, is_list_list]
      exact rt_val rfl (by simp [sp_keeps, kpt, k1])
    · simp only [r_keeps_2, r_keeps_3, r_keeps_4, k0, k1, dOp, dUn, dVar, dC, slot, startE, List.map, List.length, List.replicate, List.append, List.cons_append, List.nil_append, List.set, dAnd, dOr, dNot, dtB, dtAnd, dtOr, dtNot, dIf, dtTru, truF, dNil, dCons, dTup, dLst, dCB, sNil, sSeq, sRet, sRetN, sExpr, sIf, sAsg, gN, gT, gsNil, gsCons, gS, sPar, sAug, sWhile, sFor, sBrk, sCont, sNo, sRaise, dCallP_eq, dCallD_eq, List.length_map, List.getElem?_cons_succ, List.getElem?_concat_length, set_last, get_mid, get_mid2, eqF, neF, ltF, leF, gtF, geF, isF, notF, addF, subF, mulF, fdivF, modF, powF, negF, ixF, lenF, tupF, lstF, absF, intF, gcdF, maxF, minF, Rs.to, dIsi, dIsi2, dIsE, tyN, D.isNon, dM1, dM0, srcSeq, srcRng1, srcRng2, dLc, tYesD, iaddF, isBF, notBF, srcZip, repF, sumF, allF, anyF, intsOf_map, blsOf_map, dSl, dPart, dNoPart, sliceF, at0, at1, at2, at3, at4, ix0, ix1, ix2, ix3, Dn.g0, Dn.g1, Dn.g2, Dn.g3, Dn.g4, ex_some, decide_true, decide_false, Bool.not_true, Bool.not_false, ite_true, ite_false, if_true, if_false, List.reverse_cons, List.reverse_nil, outPost, wipeE, CTg.set, setAll, appF, extF, revF, popF, Nat.zero_add, Nat.reduceAdd, is_NoneType_int, is_NoneType_bool, is_NoneType_str, is_NoneType_tuple, is_NoneType_list, is_bool_int, is_bool_bool, is_bool_str, is_bool_tuple, is_bool_list, is_int_int, is_int_bool, is_int_str, is_int_tuple, is_int_list, is_str_int, is_str_bool, is_str_str, is_str_tuple, is_str_list, is_tuple_int, is_tuple_bool, is_tuple_str, is_tuple_tuple, is_tuple_list, is_list_int, is_list_bool, is_list_str, is_list_tuple, is_list_list]
      exact rt_val rfl (by simp [sp_keeps, kpt, k0, k1])

theorem ok_keeps (T : Txt K mg) : Ok P w K mg base 2 "keeps" ["clause", "place"] (spP K mg sp_keeps) :=
  okOf T.d_keeps fun f fd F => fnP (k := 1) sp_keeps t_keeps F sc_keeps (fun x ds hp => len_keeps x ds hp) (fun cdv A outer s H E hr z => by
    have hu := hr.units; have hnd := sc_keeps.nd
    unfold t_keeps r_keeps_0 r_keeps_1 r_keeps_2 r_keeps_3 r_keeps_4
    exact (dss_cons (ds_asg (de_var 0 rfl (by walk_at "vis") (by decide) (by decide)) (dg_tup rfl (dgs_cons (dg_name 2 hnd rfl (by walk_at "locs") (by walk_at "fnn")) (dgs_cons (dg_name 3 hnd rfl (by walk_at "locs") (by walk_at "fnn")) dgs_nil rfl) rfl) rfl rfl) rfl rfl rfl)
    (dss_cons (ds_set 4 hnd rfl (by walk_at "locs") (dn_callP ((ok_weight (P := P) (w := w) (base := base) T).mono (by decide)) hr (takes_of rfl rfl rfl rfl) rfl (by decide) (da_cons (de_var 2 rfl (by walk_at "vis") (by decide) (by decide)) (da_cons (de_var 1 rfl (by walk_at "vis") (by decide) (by decide)) da_nil rfl) rfl) rfl rfl) rfl (by walk_at "fnn"))
    (dss_cons (ds_if (dt_cmp (op_eqA hu) od_eq (de_var 3 rfl (by walk_at "vis") (by decide) (by decide)) de_int (nomark _)) (dss_one (ds_ret (de_eq hu (de_var 4 rfl (by walk_at "vis") (by decide) (by decide)) de_int))) dss_nil)
    (dss_cons (ds_if (dt_cmp (op_eqA hu) od_eq (de_var 3 rfl (by walk_at "vis") (by decide) (by decide)) de_int (nomark _)) (dss_one (ds_ret (de_ge (de_var 4 rfl (by walk_at "vis") (by decide) (by decide)) de_int))) dss_nil)
    (dss_one (ds_ret (de_gt (de_var 4 rfl (by walk_at "vis") (by decide) (by decide)) de_int)))))))) w_keeps
/-! ### _law_near -/
def sp__law_near : SpcD Int where
  pre := fun x ds s => ds = [.int x] ∧ 0 ≤ x ∧ x ≤ 10 ^ 9 ∧ 0 ≤ s.a
  res := fun x o s' => ∃ v : Int, o = .val (.int v) ∧ -x ≤ v ∧ v ≤ x ∧ 0 ≤ s'.a

def r__law_near_0 : dS :=
  (sRet (dOp subF (dCallD sp__law_draw (dCons (dVar 0) (dCons (dOp addF (dOp mulF (dC (.int 2)) (dVar 1)) (dC (.int 1))) dNil))) (dVar 1)))
def t__law_near : dS :=
  (r__law_near_0)
theorem len__law_near : ∀ x ds s, sp__law_near.pre x ds s → ds.length + 1 = 2 := fun x ds s h => by rw [h.1]; rfl
/-- the draws at 0, their cells at 1, as at the entry -/
theorem useD_01 {α : Type} {g : SpcD α} {ds : List D} {c : List Int} {s : DrS} {r : Hh} {Q : D → Hh → Prop} (x : α) (hc : s.c = c) (v : pureDs ds = true) (p : g.pre x ds s) (w : ∀ o s', g.res x o s' → s'.c = c → ∃ d, o = .val d ∧ Q d (.lst (drD 1 s') :: .lst (c.map .int) :: r)) : useD g (.ref 0 :: ds) (.lst (drD 1 s) :: .lst (c.map .int) :: r) Q :=
  ⟨x, ds, s, 1, by decide, rfl, by rw [hc]; rfl, Views.pures v, p, fun o s' ho hs _ => by
    obtain ⟨d, rfl, q⟩ := w o s' ho (hs.trans hc)
    exact q⟩
theorem w__law_near : ∀ x ds s, sp__law_near.pre x ds s → t__law_near (endD sp__law_near x s.c) (startE nm__law_near.length (.ref 0 :: ds)) [.lst (drD 1 s), .lst (s.c.map .int)] := by
  rintro x ds s ⟨rfl, h1, h2, h3⟩
  simp only [t__law_near, nm__law_near, r__law_near_0, dOp, dUn, dVar, dC, slot, startE, List.map, List.length, List.replicate, List.append, List.cons_append, List.nil_append, List.set, dAnd, dOr, dNot, dtB, dtAnd, dtOr, dtNot, dIf, dtTru, truF, dNil, dCons, dTup, dLst, dCB, sNil, sSeq, sRet, sRetN, sExpr, sIf, sAsg, gN, gT, gsNil, gsCons, gS, sPar, sAug, sWhile, sFor, sBrk, sCont, sNo, sRaise, dCallP_eq, dCallD_eq, List.length_map, List.getElem?_cons_succ, List.getElem?_concat_length, set_last, get_mid, get_mid2, eqF, neF, ltF, leF, gtF, geF, isF, notF, addF, subF, mulF, fdivF, modF, powF, negF, ixF, lenF, tupF, lstF, absF, intF, gcdF, maxF, minF, Rs.to, dIsi, dIsi2, dIsE, tyN, D.isNon, dM1, dM0, srcSeq, srcRng1, srcRng2, dLc, tYesD, iaddF, isBF, notBF, srcZip, repF, sumF, allF, anyF, intsOf_map, blsOf_map, dSl, dPart, dNoPart, sliceF, at0, at1, at2, at3, at4, ix0, ix1, ix2, ix3, Dn.g0, Dn.g1, Dn.g2, Dn.g3, Dn.g4, ex_some, decide_true, decide_false, Bool.not_true, Bool.not_false, ite_true, ite_false, if_true, if_false, List.reverse_cons, List.reverse_nil, outPost, wipeE, CTg.set, setAll, appF, extF, revF, popF, Nat.zero_add, Nat.reduceAdd, is_NoneType_int, is_NoneType_bool, is_NoneType_str, is_NoneType_tuple, is_NoneType_list, is_bool_int, is_bool_bool, is_bool_str, is_bool_tuple, is_bool_list, is_int_int, is_int_bool, is_int_str, is_int_tuple, is_int_list, is_str_int, is_str_bool, is_str_str, is_str_tuple, is_str_list, is_tuple_int, is_tuple_bool, is_tuple_str, is_tuple_tuple, is_tuple_list, is_list_int, is_list_bool, is_list_str, is_list_tuple, is_list_list]
  refine ⟨bt_mulr' (by decide), ?_⟩
  refine useD_01 (2 * x + 1) rfl rfl ⟨rfl, by omega, bt_mono (bt60 (by omega)) (by decide), h3⟩ ?_
  rintro o s1 ⟨v, rfl, v0, v1, a1⟩ hc1
  refine ⟨_, rfl, ?_⟩
  simp only [dOp, dUn, dVar, dC, slot, startE, List.map, List.length, List.replicate, List.append, List.cons_append, List.nil_append, List.set, dAnd, dOr, dNot, dtB, dtAnd, dtOr, dtNot, dIf, dtTru, truF, dNil, dCons, dTup, dLst, dCB, sNil, sSeq, sRet, sRetN, sExpr, sIf, sAsg, gN, gT, gsNil, gsCons, gS, sPar, sAug, sWhile, sFor, sBrk, sCont, sNo, sRaise, dCallP_eq, dCallD_eq, List.length_map, List.getElem?_cons_succ, List.getElem?_concat_length, set_last, get_mid, get_mid2, eqF, neF, ltF, leF, gtF, geF, isF, notF, addF, subF, mulF, fdivF, modF, powF, negF, ixF, lenF, tupF, lstF, absF, intF, gcdF, maxF, minF, Rs.to, dIsi, dIsi2, dIsE, tyN, D.isNon, dM1, dM0, srcSeq, srcRng1, srcRng2, dLc, tYesD, iaddF, isBF, notBF, srcZip, repF, sumF, allF, anyF, intsOf_map, blsOf_map, dSl, dPart, dNoPart, sliceF, at0, at1, at2, at3, at4, ix0, ix1, ix2, ix3, Dn.g0, Dn.g1, Dn.g2, Dn.g3, Dn.g4, ex_some, decide_true, decide_false, Bool.not_true, Bool.not_false, ite_true, ite_false, if_true, if_false, List.reverse_cons, List.reverse_nil, outPost, wipeE, CTg.set, setAll, appF, extF, revF, popF, Nat.zero_add, Nat.reduceAdd, is_NoneType_int, is_NoneType_bool, is_NoneType_str, is_NoneType_tuple, is_NoneType_list, is_bool_int, is_bool_bool, is_bool_str, is_bool_tuple, is_bool_list, is_int_int, is_int_bool, is_int_str, is_int_tuple, is_int_list, is_str_int, is_str_bool, is_str_str, is_str_tuple, is_str_list, is_tuple_int, is_tuple_bool, is_tuple_str, is_tuple_tuple, is_tuple_list, is_list_int, is_list_bool, is_list_str, is_list_tuple, is_list_list]
  exact rtD_val s1 hc1 rfl rfl rfl ⟨_, rfl, by omega, by omega, a1⟩

theorem ok__law_near (T : Txt K mg) : Ok P w K mg base 2 "_law_near" ["draws", "most"] (spD K sp__law_near) :=
  okOf T.d__law_near fun f fd F => fnD (k := 1) sp__law_near t__law_near F sc__law_near (fun x ds s hp => len__law_near x ds s hp) (fun cdv A outer s H E hr z => by
    have hu := hr.units; have hnd := sc__law_near.nd
    unfold t__law_near r__law_near_0
    exact (dss_one (ds_ret (de_minus (dn_callD ((ok__law_draw (P := P) (w := w) (base := base) T).mono (by decide)) hr (takes_of rfl rfl rfl rfl) rfl (by decide) (da_cons (de_var 0 rfl (by walk_at "vis") (by decide) (by decide)) (da_cons (de_add (de_mul de_int (de_var 1 rfl (by walk_at "vis") (by decide) (by decide))) de_int) da_nil rfl) rfl) rfl rfl) (de_var 1 rfl (by walk_at "vis") (by decide) (by decide)))))) w__law_near
/-! ### _law_weight -/
def sp__law_weight : Spc WP where
  pre := preW
  res := fun x o => o = .val (.int (dotN x.1 x.2 x.1.length))
  exc := fun _ _ => False

def l1__law_weight_0 : dS :=
  (sAsg (dOp addF (dVar 2) (dOp mulF (dOp ixF (dVar 0) (dVar 3)) (dOp ixF (dVar 1) (dVar 3)))) (gN 2))
def r__law_weight_2 : dS :=
  (sRet (dVar 2))
def r__law_weight_1 : dS :=
  (sSeq (sFor (srcRng1 (dCons (dCB lenF (dCons (dVar 0) dNil)) dNil)) (gN 3) (l1__law_weight_0)) (r__law_weight_2))
def r__law_weight_0 : dS :=
  (sSeq (sAsg (dC (.int 0)) (gN 2)) (r__law_weight_1))
def t__law_weight : dS :=
  (r__law_weight_0)
theorem len__law_weight : ∀ x ds, sp__law_weight.pre x ds → ds.length = 2 := fun x ds h => by rw [h.1]; rfl
theorem w__law_weight : ∀ x ds, sp__law_weight.pre x ds → t__law_weight (endP sp__law_weight x) (startE nm__law_weight.length ds) [] := by
  rintro ⟨a, b⟩ ds ⟨rfl, hl, ha, hb⟩
  simp only at hl ha hb
  have := ha.1
  simp only [t__law_weight , r__law_weight_0, r__law_weight_1, nm__law_weight, dOp, dUn, dVar, dC, slot, startE, List.map, List.length, List.replicate, List.append, List.cons_append, List.nil_append, List.set, dAnd, dOr, dNot, dtB, dtAnd, dtOr, dtNot, dIf, dtTru, truF, dNil, dCons, dTup, dLst, dCB, sNil, sSeq, sRet, sRetN, sExpr, sIf, sAsg, gN, gT, gsNil, gsCons, gS, sPar, sAug, sWhile, sFor, sBrk, sCont, sNo, sRaise, dCallP_eq, dCallD_eq, List.length_map, List.getElem?_cons_succ, List.getElem?_concat_length, set_last, get_mid, get_mid2, eqF, neF, ltF, leF, gtF, geF, isF, notF, addF, subF, mulF, fdivF, modF, powF, negF, ixF, lenF, tupF, lstF, absF, intF, gcdF, maxF, minF, Rs.to, dIsi, dIsi2, dIsE, tyN, D.isNon, dM1, dM0, srcSeq, srcRng1, srcRng2, dLc, tYesD, iaddF, isBF, notBF, srcZip, repF, sumF, allF, anyF, intsOf_map, blsOf_map, dSl, dPart, dNoPart, sliceF, at0, at1, at2, at3, at4, ix0, ix1, ix2, ix3, Dn.g0, Dn.g1, Dn.g2, Dn.g3, Dn.g4, ex_some, decide_true, decide_false, Bool.not_true, Bool.not_false, ite_true, ite_false, if_true, if_false, List.reverse_cons, List.reverse_nil, outPost, wipeE, CTg.set, setAll, appF, extF, revF, popF, Nat.zero_add, Nat.reduceAdd, is_NoneType_int, is_NoneType_bool, is_NoneType_str, is_NoneType_tuple, is_NoneType_list, is_bool_int, is_bool_bool, is_bool_str, is_bool_tuple, is_bool_list, is_int_int, is_int_bool, is_int_str, is_int_tuple, is_int_list, is_str_int, is_str_bool, is_str_str, is_str_tuple, is_str_list, is_tuple_int, is_tuple_bool, is_tuple_str, is_tuple_tuple, is_tuple_list, is_list_int, is_list_bool, is_list_str, is_list_tuple, is_list_list]
  refine ⟨⟨by omega, by omega⟩, fun i e h => (∃ u, e = [some (tI a), some (tI b), some (.int (dotN a b i)), u]) ∧ h = [], ⟨⟨_, rfl⟩, rfl⟩, fun _ _ _ _ _ => trivial, ?_, ?_⟩
  · rintro i x e h hx ⟨⟨u, rfl⟩, rfl⟩
    obtain ⟨hi, rfl⟩ := ints_at hx
    have hi : i < a.length := by omega
    have e1 := at_map (l := a) (k := 0 + (i : Int)) (by omega) (by omega)
    have e2 := at_map (l := b) (k := 0 + (i : Int)) (by omega) (by omega)
    rw [show (0 + (i : Int)).toNat = i by omega] at e1 e2
    simp only [l1__law_weight_0, e1, e2, dOp, dUn, dVar, dC, slot, startE, List.map, List.length, List.replicate, List.append, List.cons_append, List.nil_append, List.set, dAnd, dOr, dNot, dtB, dtAnd, dtOr, dtNot, dIf, dtTru, truF, dNil, dCons, dTup, dLst, dCB, sNil, sSeq, sRet, sRetN, sExpr, sIf, sAsg, gN, gT, gsNil, gsCons, gS, sPar, sAug, sWhile, sFor, sBrk, sCont, sNo, sRaise, dCallP_eq, dCallD_eq, List.length_map, List.getElem?_cons_succ, List.getElem?_concat_length, set_last, get_mid, get_mid2, eqF, neF, ltF, leF, gtF, geF, isF, notF, addF, subF, mulF, fdivF, modF, powF, negF, ixF, lenF, tupF, lstF, absF, intF, gcdF, maxF, minF, Rs.to, dIsi, dIsi2, dIsE, tyN, D.isNon, dM1, dM0, srcSeq, srcRng1, srcRng2, dLc, tYesD, iaddF, isBF, notBF, srcZip, repF, sumF, allF, anyF, intsOf_map, blsOf_map, dSl, dPart, dNoPart, sliceF, at0, at1, at2, at3, at4, ix0, ix1, ix2, ix3, Dn.g0, Dn.g1, Dn.g2, Dn.g3, Dn.g4, ex_some, decide_true, decide_false, Bool.not_true, Bool.not_false, ite_true, ite_false, if_true, if_false, List.reverse_cons, List.reverse_nil, outPost, wipeE, CTg.set, setAll, appF, extF, revF, popF, Nat.zero_add, Nat.reduceAdd, is_NoneType_int, is_NoneType_bool, is_NoneType_str, is_NoneType_tuple, is_NoneType_list, is_bool_int, is_bool_bool, is_bool_str, is_bool_tuple, is_bool_list, is_int_int, is_int_bool, is_int_str, is_int_tuple, is_int_list, is_str_int, is_str_bool, is_str_str, is_str_tuple, is_str_list, is_tuple_int, is_tuple_bool, is_tuple_str, is_tuple_tuple, is_tuple_list, is_list_int, is_list_bool, is_list_str, is_list_tuple, is_list_list]
    exact ⟨bt_mul (ha.getD i) (hb.getD i) (by decide), ⟨_, rfl⟩, trivial⟩
  · rintro e h ⟨⟨u, rfl⟩, rfl⟩
    rw [intsUp_len, Int.toNat_natCast]
    simp only [r__law_weight_2, dOp, dUn, dVar, dC, slot, startE, List.map, List.length, List.replicate, List.append, List.cons_append, List.nil_append, List.set, dAnd, dOr, dNot, dtB, dtAnd, dtOr, dtNot, dIf, dtTru, truF, dNil, dCons, dTup, dLst, dCB, sNil, sSeq, sRet, sRetN, sExpr, sIf, sAsg, gN, gT, gsNil, gsCons, gS, sPar, sAug, sWhile, sFor, sBrk, sCont, sNo, sRaise, dCallP_eq, dCallD_eq, List.length_map, List.getElem?_cons_succ, List.getElem?_concat_length, set_last, get_mid, get_mid2, eqF, neF, ltF, leF, gtF, geF, isF, notF, addF, subF, mulF, fdivF, modF, powF, negF, ixF, lenF, tupF, lstF, absF, intF, gcdF, maxF, minF, Rs.to, dIsi, dIsi2, dIsE, tyN, D.isNon, dM1, dM0, srcSeq, srcRng1, srcRng2, dLc, tYesD, iaddF, isBF, notBF, srcZip, repF, sumF, allF, anyF, intsOf_map, blsOf_map, dSl, dPart, dNoPart, sliceF, at0, at1, at2, at3, at4, ix0, ix1, ix2, ix3, Dn.g0, Dn.g1, Dn.g2, Dn.g3, Dn.g4, ex_some, decide_true, decide_false, Bool.not_true, Bool.not_false, ite_true, ite_false, if_true, if_false, List.reverse_cons, List.reverse_nil, outPost, wipeE, CTg.set, setAll, appF, extF, revF, popF, Nat.zero_add, Nat.reduceAdd, is_NoneType_int, is_NoneType_bool, is_NoneType_str, is_NoneType_tuple, is_NoneType_list, is_bool_int, is_bool_bool, is_bool_str, is_bool_tuple, is_bool_list, is_int_int, is_int_bool, is_int_str, is_int_tuple, is_int_list, is_str_int, is_str_bool, is_str_str, is_str_tuple, is_str_list, is_tuple_int, is_tuple_bool, is_tuple_str, is_tuple_tuple, is_tuple_list, is_list_int, is_list_bool, is_list_str, is_list_tuple, is_list_list]
    exact rt_val rfl rfl

theorem ok__law_weight (T : Txt K mg) : Ok P w K mg base 1 "_law_weight" ["form", "place"] (spP K mg sp__law_weight) :=
  okOf T.d__law_weight fun f fd F => fnP (k := 0) sp__law_weight t__law_weight F sc__law_weight (fun x ds hp => len__law_weight x ds hp) (fun cdv A outer s H E hr z => by
    have hu := hr.units; have hnd := sc__law_weight.nd
    unfold t__law_weight r__law_weight_0 r__law_weight_1 r__law_weight_2 l1__law_weight_0
    exact (dss_cons (ds_set 2 hnd rfl (by walk_at "locs") de_int rfl (by walk_at "fnn"))
    (dss_cons (ds_for (passes_of (K := fun e s'' => L2.CX P w outer H s E e s'') (E₁ := fun e s'' => L2.CX P w outer H s E e s'') rfl) rfl (di_rng1 rfl T.b_range (da_cons (de_callB (f := lenF) call_len_seq cd_len rfl T.b_len (by decide +kernel) (da_cons (de_var 0 rfl (by walk_at "vis") (by decide) (by decide)) da_nil rfl) (by decide) (by decide) rfl rfl) da_nil rfl) rfl) (dg_name 3 hnd rfl (by walk_at "locs") (by walk_at "fnn")) (dss_one (ds_set 2 hnd rfl (by walk_at "locs") (de_add (de_var 2 rfl (by walk_at "vis") (by decide) (by decide)) (de_mul (de_ix (de_var 0 rfl (by walk_at "vis") (by decide) (by decide)) (de_var 3 rfl (by walk_at "vis") (by decide) (by decide)) (fun _ _ => rfl)) (de_ix (de_var 1 rfl (by walk_at "vis") (by decide) (by decide)) (de_var 3 rfl (by walk_at "vis") (by decide) (by decide)) (fun _ _ => rfl)))) rfl (by walk_at "fnn"))) (fun _ => rfl))
    (dss_one (ds_ret (de_var 2 rfl (by walk_at "vis") (by decide) (by decide))))))) w__law_weight
/-! ### _law_low -/
def gcdL (a : List Int) : Nat := a.foldl (fun g x => Nat.gcd g x.natAbs) 0
theorem gcdL_at {l : List Int} {i : Nat} (h : i < l.length) : gcdL (l.take (i + 1)) = Nat.gcd (gcdL (l.take i)) (l.getD i 0).natAbs := by
  rw [take_at h]; unfold gcdL; rw [List.foldl_append]; rfl
theorem gcdL_bt {m : Nat} {a : List Int} (h : ∀ x ∈ a, Bt m x) : Bt m (gcdL a : Int) := by
  have key : ∀ (l : List Int) (g : Nat), (∀ x ∈ l, Bt m x) → Bt m (g : Int) → Bt m ((l.foldl (fun g x => Nat.gcd g x.natAbs) g : Nat) : Int) := by
    intro l
    induction l with
    | nil => intro g _ h; exact h
    | cons x l ih =>
      intro g hl hg
      rw [List.foldl_cons]
      refine ih _ (fun y hy => hl y (List.mem_cons_of_mem _ hy)) ?_
      by_cases hx : x = 0
      · subst hx; simpa using hg
      · have := Nat.gcd_le_right (m := g) (n := x.natAbs) (by omega)
        exact bits_of_natAbs_le (by omega) (hl x List.mem_cons_self)
  exact key a 0 h bt0
theorem foldg_dvd : ∀ (l : List Int) (g : Nat), l.foldl (fun g x => Nat.gcd g x.natAbs) g ∣ g ∧ ∀ x ∈ l, l.foldl (fun g x => Nat.gcd g x.natAbs) g ∣ x.natAbs
  | [], g => ⟨Nat.dvd_refl _, fun _ h => by cases h⟩
  | x :: l, g => by
    rw [List.foldl_cons]
    obtain ⟨h1, h2⟩ := foldg_dvd l (Nat.gcd g x.natAbs)
    refine ⟨Nat.dvd_trans h1 (Nat.gcd_dvd_left _ _), fun y hy => ?_⟩
    rcases List.mem_cons.mp hy with rfl | hy
    · exact Nat.dvd_trans h1 (Nat.gcd_dvd_right _ _)
    · exact h2 y hy
theorem back_map {l : List Int} {g : Int} (hg : g ≠ 0) (h : ∀ x ∈ l, g ∣ x) : (l.map fun x => x.fdiv g).map (fun x => x * g) = l := by
  rw [List.map_map]
  conv => rhs; rw [← List.map_id l]
  refine List.map_congr_left fun x hx => ?_
  obtain ⟨q, hq⟩ := h x hx
  show x.fdiv g * g = x
  rw [hq, Int.mul_fdiv_cancel_left _ hg, Int.mul_comm]
def sp__law_low : Spc (List Int × Int) where
  pre := fun x ds => ds = [tI (x.1 ++ [x.2])] ∧ Lb 4000 (x.1 ++ [x.2]) ∧ 0 < x.2
  res := fun x o => ∃ (l : List Int) (r g : Int), o = .val (tI (l ++ [r])) ∧ 0 < g ∧ x.1 = l.map (fun y => y * g) ∧ x.2 = r * g ∧ 0 < r ∧ ∀ m, Lb m (x.1 ++ [x.2]) → Lb m (l ++ [r])
  exc := fun _ _ => False

def l1__law_low_0 : dS :=
  (sAsg (dCallP sp__law_gcd (dCons (dVar 1) (dCons (dVar 2) dNil))) (gN 1))
def r__law_low_3 : dS :=
  (sRet (dCB tupF (dCons (dLc (srcSeq (dVar 0)) (.one 2) [2] tYesD (dOp fdivF (dVar 2) (dVar 1))) dNil)))
def r__law_low_2 : dS :=
  (sSeq (sIf (dtB (dOp ltF (dOp ixF (dVar 0) (dUn negF (dC (.int 1)))) (dC (.int 0)))) (sAsg (dUn negF (dVar 1)) (gN 1)) sNil) (r__law_low_3))
def r__law_low_1 : dS :=
  (sSeq (sFor (srcSeq (dVar 0)) (gN 2) (l1__law_low_0)) (r__law_low_2))
def r__law_low_0 : dS :=
  (sSeq (sAsg (dC (.int 0)) (gN 1)) (r__law_low_1))
def t__law_low : dS :=
  (r__law_low_0)
theorem len__law_low : ∀ x ds, sp__law_low.pre x ds → ds.length = 1 := fun x ds h => by rw [h.1]; rfl
theorem w__law_low : ∀ x ds, sp__law_low.pre x ds → t__law_low (endP sp__law_low x) (startE nm__law_low.length ds) [] := by
  rintro ⟨l, r⟩ ds ⟨rfl, ha, hr⟩
  simp only at ha hr
  show t__law_low (endP sp__law_low (l, r)) (startE nm__law_low.length [tI (l ++ [r])]) []
  generalize hx : l ++ [r] = a at ha ⊢
  have hg : gcdL a ≠ 0 := by
    rw [← hx]; unfold gcdL; rw [List.foldl_append]
    have := Nat.gcd_pos_of_pos_right (l.foldl (fun g x => Nat.gcd g x.natAbs) 0) (show 0 < r.natAbs by omega)
    show Nat.gcd _ r.natAbs ≠ 0
    omega
  have hdv : ∀ x ∈ a, ((gcdL a : Nat) : Int) ∣ x := fun x hx => Int.ofNat_dvd_left.mpr ((foldg_dvd a 0).2 x hx)
  simp only [t__law_low , r__law_low_0, r__law_low_1, nm__law_low, dOp, dUn, dVar, dC, slot, startE, List.map, List.length, List.replicate, List.append, List.cons_append, List.nil_append, List.set, dAnd, dOr, dNot, dtB, dtAnd, dtOr, dtNot, dIf, dtTru, truF, dNil, dCons, dTup, dLst, dCB, sNil, sSeq, sRet, sRetN, sExpr, sIf, sAsg, gN, gT, gsNil, gsCons, gS, sPar, sAug, sWhile, sFor, sBrk, sCont, sNo, sRaise, dCallP_eq, dCallD_eq, List.length_map, List.getElem?_cons_succ, List.getElem?_concat_length, set_last, get_mid, get_mid2, eqF, neF, ltF, leF, gtF, geF, isF, notF, addF, subF, mulF, fdivF, modF, powF, negF, ixF, lenF, tupF, lstF, absF, intF, gcdF, maxF, minF, Rs.to, dIsi, dIsi2, dIsE, tyN, D.isNon, dM1, dM0, srcSeq, srcRng1, srcRng2, dLc, tYesD, iaddF, isBF, notBF, srcZip, repF, sumF, allF, anyF, intsOf_map, blsOf_map, dSl, dPart, dNoPart, sliceF, at0, at1, at2, at3, at4, ix0, ix1, ix2, ix3, Dn.g0, Dn.g1, Dn.g2, Dn.g3, Dn.g4, ex_some, decide_true, decide_false, Bool.not_true, Bool.not_false, ite_true, ite_false, if_true, if_false, List.reverse_cons, List.reverse_nil, outPost, wipeE, CTg.set, setAll, appF, extF, revF, popF, Nat.zero_add, Nat.reduceAdd, is_NoneType_int, is_NoneType_bool, is_NoneType_str, is_NoneType_tuple, is_NoneType_list, is_bool_int, is_bool_bool, is_bool_str, is_bool_tuple, is_bool_list, is_int_int, is_int_bool, is_int_str, is_int_tuple, is_int_list, is_str_int, is_str_bool, is_str_str, is_str_tuple, is_str_list, is_tuple_int, is_tuple_bool, is_tuple_str, is_tuple_tuple, is_tuple_list, is_list_int, is_list_bool, is_list_str, is_list_tuple, is_list_list]
  refine ⟨fun i e h => (∃ u, e = [some (tI a), some (.int (gcdL (a.take i))), u]) ∧ h = [], ⟨⟨_, rfl⟩, rfl⟩, fun _ _ _ _ _ => trivial, ?_, ?_⟩
  · rintro i x e h hx ⟨⟨u, rfl⟩, rfl⟩
    obtain ⟨hi, rfl⟩ := mapi_at hx
    simp only [l1__law_low_0, dOp, dUn, dVar, dC, slot, startE, List.map, List.length, List.replicate, List.append, List.cons_append, List.nil_append, List.set, dAnd, dOr, dNot, dtB, dtAnd, dtOr, dtNot, dIf, dtTru, truF, dNil, dCons, dTup, dLst, dCB, sNil, sSeq, sRet, sRetN, sExpr, sIf, sAsg, gN, gT, gsNil, gsCons, gS, sPar, sAug, sWhile, sFor, sBrk, sCont, sNo, sRaise, dCallP_eq, dCallD_eq, List.length_map, List.getElem?_cons_succ, List.getElem?_concat_length, set_last, get_mid, get_mid2, eqF, neF, ltF, leF, gtF, geF, isF, notF, addF, subF, mulF, fdivF, modF, powF, negF, ixF, lenF, tupF, lstF, absF, intF, gcdF, maxF, minF, Rs.to, dIsi, dIsi2, dIsE, tyN, D.isNon, dM1, dM0, srcSeq, srcRng1, srcRng2, dLc, tYesD, iaddF, isBF, notBF, srcZip, repF, sumF, allF, anyF, intsOf_map, blsOf_map, dSl, dPart, dNoPart, sliceF, at0, at1, at2, at3, at4, ix0, ix1, ix2, ix3, Dn.g0, Dn.g1, Dn.g2, Dn.g3, Dn.g4, ex_some, decide_true, decide_false, Bool.not_true, Bool.not_false, ite_true, ite_false, if_true, if_false, List.reverse_cons, List.reverse_nil, outPost, wipeE, CTg.set, setAll, appF, extF, revF, popF, Nat.zero_add, Nat.reduceAdd, is_NoneType_int, is_NoneType_bool, is_NoneType_str, is_NoneType_tuple, is_NoneType_list, is_bool_int, is_bool_bool, is_bool_str, is_bool_tuple, is_bool_list, is_int_int, is_int_bool, is_int_str, is_int_tuple, is_int_list, is_str_int, is_str_bool, is_str_str, is_str_tuple, is_str_list, is_tuple_int, is_tuple_bool, is_tuple_str, is_tuple_tuple, is_tuple_list, is_list_int, is_list_bool, is_list_str, is_list_tuple, is_list_list]
    refine useP_val (_, _) _ rfl rfl (fun o q => q) (fun ex q => q) ?_
    refine ⟨⟨some (.int (a.getD i 0)), ?_⟩, rfl⟩
    rw [gcdL_at hi]; rfl
  · rintro e h ⟨⟨u, rfl⟩, rfl⟩
    have e1 : atI (a.map D.int) (-1) = some (.int r) := by rw [← hx]; exact at_lasti
    have hn : ¬ r < 0 := by omega
    rw [List.take_length]
    simp only [r__law_low_2, r__law_low_3, e1, hn, dOp, dUn, dVar, dC, slot, startE, List.map, List.length, List.replicate, List.append, List.cons_append, List.nil_append, List.set, dAnd, dOr, dNot, dtB, dtAnd, dtOr, dtNot, dIf, dtTru, truF, dNil, dCons, dTup, dLst, dCB, sNil, sSeq, sRet, sRetN, sExpr, sIf, sAsg, gN, gT, gsNil, gsCons, gS, sPar, sAug, sWhile, sFor, sBrk, sCont, sNo, sRaise, dCallP_eq, dCallD_eq, List.length_map, List.getElem?_cons_succ, List.getElem?_concat_length, set_last, get_mid, get_mid2, eqF, neF, ltF, leF, gtF, geF, isF, notF, addF, subF, mulF, fdivF, modF, powF, negF, ixF, lenF, tupF, lstF, absF, intF, gcdF, maxF, minF, Rs.to, dIsi, dIsi2, dIsE, tyN, D.isNon, dM1, dM0, srcSeq, srcRng1, srcRng2, dLc, tYesD, iaddF, isBF, notBF, srcZip, repF, sumF, allF, anyF, intsOf_map, blsOf_map, dSl, dPart, dNoPart, sliceF, at0, at1, at2, at3, at4, ix0, ix1, ix2, ix3, Dn.g0, Dn.g1, Dn.g2, Dn.g3, Dn.g4, ex_some, decide_true, decide_false, Bool.not_true, Bool.not_false, ite_true, ite_false, if_true, if_false, List.reverse_cons, List.reverse_nil, outPost, wipeE, CTg.set, setAll, appF, extF, revF, popF, Nat.zero_add, Nat.reduceAdd, is_NoneType_int, is_NoneType_bool, is_NoneType_str, is_NoneType_tuple, is_NoneType_list, is_bool_int, is_bool_bool, is_bool_str, is_bool_tuple, is_bool_list, is_int_int, is_int_bool, is_int_str, is_int_tuple, is_int_list, is_str_int, is_str_bool, is_str_str, is_str_tuple, is_str_list, is_tuple_int, is_tuple_bool, is_tuple_str, is_tuple_tuple, is_tuple_list, is_list_int, is_list_bool, is_list_str, is_list_tuple, is_list_list]
    have gb := gcdL_bt (m := 4000) ha.2
    refine ⟨fun i acc h => acc = ((a.take i).map fun x => x.fdiv (gcdL a : Int)).map .int ∧ h = [], ⟨rfl, rfl⟩, fun _ _ _ _ _ => trivial, ?_, ?_⟩
    · rintro i x acc h hx ⟨rfl, rfl⟩
      obtain ⟨hi, rfl⟩ := mapi_at hx
      simp only [dOp, dUn, dVar, dC, slot, startE, List.map, List.length, List.replicate, List.append, List.cons_append, List.nil_append, List.set, dAnd, dOr, dNot, dtB, dtAnd, dtOr, dtNot, dIf, dtTru, truF, dNil, dCons, dTup, dLst, dCB, sNil, sSeq, sRet, sRetN, sExpr, sIf, sAsg, gN, gT, gsNil, gsCons, gS, sPar, sAug, sWhile, sFor, sBrk, sCont, sNo, sRaise, dCallP_eq, dCallD_eq, List.length_map, List.getElem?_cons_succ, List.getElem?_concat_length, set_last, get_mid, get_mid2, eqF, neF, ltF, leF, gtF, geF, isF, notF, addF, subF, mulF, fdivF, modF, powF, negF, ixF, lenF, tupF, lstF, absF, intF, gcdF, maxF, minF, Rs.to, dIsi, dIsi2, dIsE, tyN, D.isNon, dM1, dM0, srcSeq, srcRng1, srcRng2, dLc, tYesD, iaddF, isBF, notBF, srcZip, repF, sumF, allF, anyF, intsOf_map, blsOf_map, dSl, dPart, dNoPart, sliceF, at0, at1, at2, at3, at4, ix0, ix1, ix2, ix3, Dn.g0, Dn.g1, Dn.g2, Dn.g3, Dn.g4, ex_some, decide_true, decide_false, Bool.not_true, Bool.not_false, ite_true, ite_false, if_true, if_false, List.reverse_cons, List.reverse_nil, outPost, wipeE, CTg.set, setAll, appF, extF, revF, popF, Nat.zero_add, Nat.reduceAdd, is_NoneType_int, is_NoneType_bool, is_NoneType_str, is_NoneType_tuple, is_NoneType_list, is_bool_int, is_bool_bool, is_bool_str, is_bool_tuple, is_bool_list, is_int_int, is_int_bool, is_int_str, is_int_tuple, is_int_list, is_str_int, is_str_bool, is_str_str, is_str_tuple, is_str_list, is_tuple_int, is_tuple_bool, is_tuple_str, is_tuple_tuple, is_tuple_list, is_list_int, is_list_bool, is_list_str, is_list_tuple, is_list_list]
      refine ⟨bt_div (bt_mono gb (by decide)) (by omega), sl2 (by have := ha.1; simp; omega), ?_, trivial⟩
      rw [take_at hi]; simp
    · rintro acc h ⟨rfl, rfl⟩
      simp only [List.take_length, dOp, dUn, dVar, dC, slot, startE, List.map, List.length, List.replicate, List.append, List.cons_append, List.nil_append, List.set, dAnd, dOr, dNot, dtB, dtAnd, dtOr, dtNot, dIf, dtTru, truF, dNil, dCons, dTup, dLst, dCB, sNil, sSeq, sRet, sRetN, sExpr, sIf, sAsg, gN, gT, gsNil, gsCons, gS, sPar, sAug, sWhile, sFor, sBrk, sCont, sNo, sRaise, dCallP_eq, dCallD_eq, List.length_map, List.getElem?_cons_succ, List.getElem?_concat_length, set_last, get_mid, get_mid2, eqF, neF, ltF, leF, gtF, geF, isF, notF, addF, subF, mulF, fdivF, modF, powF, negF, ixF, lenF, tupF, lstF, absF, intF, gcdF, maxF, minF, Rs.to, dIsi, dIsi2, dIsE, tyN, D.isNon, dM1, dM0, srcSeq, srcRng1, srcRng2, dLc, tYesD, iaddF, isBF, notBF, srcZip, repF, sumF, allF, anyF, intsOf_map, blsOf_map, dSl, dPart, dNoPart, sliceF, at0, at1, at2, at3, at4, ix0, ix1, ix2, ix3, Dn.g0, Dn.g1, Dn.g2, Dn.g3, Dn.g4, ex_some, decide_true, decide_false, Bool.not_true, Bool.not_false, ite_true, ite_false, if_true, if_false, List.reverse_cons, List.reverse_nil, outPost, wipeE, CTg.set, setAll, appF, extF, revF, popF, Nat.zero_add, Nat.reduceAdd, is_NoneType_int, is_NoneType_bool, is_NoneType_str, is_NoneType_tuple, is_NoneType_list, is_bool_int, is_bool_bool, is_bool_str, is_bool_tuple, is_bool_list, is_int_int, is_int_bool, is_int_str, is_int_tuple, is_int_list, is_str_int, is_str_bool, is_str_str, is_str_tuple, is_str_list, is_tuple_int, is_tuple_bool, is_tuple_str, is_tuple_tuple, is_tuple_list, is_list_int, is_list_bool, is_list_str, is_list_tuple, is_list_list]
      have hg0 : ((gcdL a : Nat) : Int) ≠ 0 := by omega
      have bk := back_map hg0 hdv
      have el : (a.map fun x => x.fdiv (gcdL a : Int)) = (l.map fun x => x.fdiv (gcdL a : Int)) ++ [r.fdiv (gcdL a : Int)] := by
        have hz : ∀ q : Int, a.map (fun x => x.fdiv q) = l.map (fun x => x.fdiv q) ++ [r.fdiv q] := fun q => by rw [← hx, List.map_append]; rfl
        exact hz _
      have br : r = r.fdiv (gcdL a : Int) * (gcdL a : Int) := by
        obtain ⟨q, hq⟩ := hdv r (by rw [← hx]; simp)
        conv => rhs; rw [hq, Int.mul_fdiv_cancel_left _ hg0, Int.mul_comm]
        exact hq
      have bl : l = (l.map fun x => x.fdiv (gcdL a : Int)).map fun y => y * (gcdL a : Int) := (back_map hg0 fun x hx' => hdv x (by rw [← hx]; exact List.mem_append_left _ hx')).symm
      refine rt_val (ints_pure _) ⟨_, r.fdiv (gcdL a : Int), (gcdL a : Int), by rw [el], by omega, bl, br, ?_, fun m hm => ?_⟩
      · rcases Int.lt_trichotomy (r.fdiv (gcdL a : Int)) 0 with z | z | z
        · have := Int.mul_neg_of_neg_of_pos z (show 0 < ((gcdL a : Nat) : Int) by omega); omega
        · rw [z, Int.zero_mul] at br; omega
        · exact z
      · rw [← el]
        have hm' : Lb m a := by rw [← hx]; exact hm
        refine ⟨by rw [List.length_map]; exact hm'.1, fun y hy => ?_⟩
        obtain ⟨x, hx', rfl⟩ := List.mem_map.mp hy
        exact bits_fdiv (hm'.2 x hx')

theorem ok__law_low (T : Txt K mg) : Ok P w K mg base 2 "_law_low" ["numbers"] (spP K mg sp__law_low) :=
  okOf T.d__law_low fun f fd F => fnP (k := 1) sp__law_low t__law_low F sc__law_low (fun x ds hp => len__law_low x ds hp) (fun cdv A outer s H E hr z => by
    have hu := hr.units; have hnd := sc__law_low.nd
    unfold t__law_low r__law_low_0 r__law_low_1 r__law_low_2 r__law_low_3 l1__law_low_0
    exact (dss_cons (ds_set 1 hnd rfl (by walk_at "locs") de_int rfl (by walk_at "fnn"))
    (dss_cons (ds_for (passes_of (K := fun e s'' => L2.CX P w outer H s E e s'') (E₁ := fun e s'' => L2.CX P w outer H s E e s'') rfl) rfl (di_seq (de_var 0 rfl (by walk_at "vis") (by decide) (by decide))) (dg_name 2 hnd rfl (by walk_at "locs") (by walk_at "fnn")) (dss_one (ds_set 1 hnd rfl (by walk_at "locs") (dn_callP ((ok__law_gcd (P := P) (w := w) (base := base) T).mono (by decide)) hr (takes_of rfl rfl rfl rfl) rfl (by decide) (da_cons (de_var 1 rfl (by walk_at "vis") (by decide) (by decide)) (da_cons (de_var 2 rfl (by walk_at "vis") (by decide) (by decide)) da_nil rfl) rfl) rfl rfl) rfl (by walk_at "fnn"))) (fun _ => rfl))
    (dss_cons (ds_if (dt_cmp op_lt od_lt (de_ix (de_var 0 rfl (by walk_at "vis") (by decide) (by decide)) (de_neg de_int) (fun _ _ => rfl)) de_int (nomark _)) (dss_one (ds_set 1 hnd rfl (by walk_at "locs") (de_neg (de_var 1 rfl (by walk_at "vis") (by decide) (by decide))) rfl (by walk_at "fnn"))) dss_nil)
    (dss_one (ds_ret (de_callTy (f := tupF) call_tuple_of cd_tup rfl T.b_tuple (by decide +kernel) (da_cons (de_lc (own := [("number", 2)]) (c := (.one 2)) (tt := tYesD) (te := (dOp fdivF (dVar 2) (dVar 1))) rfl hnd (di_seq (de_var 0 rfl (by walk_at "vis") (by decide) (by decide))) (blkOk_by (N := nm__law_low) (sc := defScope s__law_low) (by decide +kernel)) (by decide) (fun _ _ _ _ _ => pg_name (i := 2) hnd rfl (by walk_at "locs") (by walk_at "fnn")) (fun _ _ _ _ _ => dts_nil) (fun _ _ _ _ _ => (de_fdiv (de_var 2 rfl (by walk_at "vis") (by decide) (by decide)) (de_var 1 rfl (by walk_at "vis") (by decide) (by decide)))) (fun _ => rfl)) da_nil rfl) (by decide) (by decide) rfl rfl))))))) w__law_low
/-! ### holds -/
def clk (w : List Int × Int) : D := cl w.1 w.2
def allK (C : List (List Int × Int)) (p : List Int) : Bool := C.all fun w => kpt w.2 (dotN w.1 p w.1.length)
def sp_holds : Spc (List (List Int × Int) × List Int) where
  pre := fun x ds => ds = [.tup (x.1.map clk), tI x.2] ∧ (∀ w ∈ x.1, w.1.length ≤ x.2.length ∧ Lb 2000 w.1) ∧ Lb 2000 x.2
  res := fun x o => o = .val (.bl (allK x.1 x.2))
  exc := fun _ _ => False

def l1_holds_0 : dS :=
  (sIf (dtNot (dtTru (dCallP sp_keeps (dCons (dVar 2) (dCons (dVar 1) dNil))))) (sRet (dC (.bl false))) sNil)
def r_holds_1 : dS :=
  (sRet (dC (.bl true)))
def r_holds_0 : dS :=
  (sSeq (sFor (srcSeq (dVar 0)) (gN 2) (l1_holds_0)) (r_holds_1))
def t_holds : dS :=
  (r_holds_0)
theorem len_holds : ∀ x ds, sp_holds.pre x ds → ds.length = 2 := fun x ds h => by rw [h.1]; rfl
theorem mapk_at {C : List (List Int × Int)} {i : Nat} {x : D} (h : (C.map clk)[i]? = some x) : ∃ w, C[i]? = some w ∧ x = clk w := by
  rw [List.getElem?_map] at h
  cases hw : C[i]? with
  | none => rw [hw] at h; cases h
  | some w => rw [hw] at h; injection h with h; exact ⟨w, rfl, h.symm⟩
theorem useP_keeps {f p : List Int} {k : Int} {h : Hh} {Q : D → Hh → Prop} {E : XK'} (hl : f.length ≤ p.length) (hf : Lb 2000 f) (hp : Lb 2000 p) (q : Q (.bl (kpt k (dotN f p f.length))) h) : useP sp_keeps [cl f k, tI p] h Q E :=
  useP_val ⟨f, k, p⟩ _ (by simp only [pureDs, cl, pureD, ints_pure]; rfl) ⟨rfl, hl, hf, hp⟩ (fun o q => q) (fun ex q => q) q
theorem w_holds : ∀ x ds, sp_holds.pre x ds → t_holds (endP sp_holds x) (startE nm_holds.length ds) [] := by
  rintro ⟨C, p⟩ ds ⟨rfl, hC, hp⟩
  simp only at hC hp
  simp only [t_holds , r_holds_0, nm_holds, dOp, dUn, dVar, dC, slot, startE, List.map, List.length, List.replicate, List.append, List.cons_append, List.nil_append, List.set, dAnd, dOr, dNot, dtB, dtAnd, dtOr, dtNot, dIf, dtTru, truF, dNil, dCons, dTup, dLst, dCB, sNil, sSeq, sRet, sRetN, sExpr, sIf, sAsg, gN, gT, gsNil, gsCons, gS, sPar, sAug, sWhile, sFor, sBrk, sCont, sNo, sRaise, dCallP_eq, dCallD_eq, List.length_map, List.getElem?_cons_succ, List.getElem?_concat_length, set_last, get_mid, get_mid2, eqF, neF, ltF, leF, gtF, geF, isF, notF, addF, subF, mulF, fdivF, modF, powF, negF, ixF, lenF, tupF, lstF, absF, intF, gcdF, maxF, minF, Rs.to, dIsi, dIsi2, dIsE, tyN, D.isNon, dM1, dM0, srcSeq, srcRng1, srcRng2, dLc, tYesD, iaddF, isBF, notBF, srcZip, repF, sumF, allF, anyF, intsOf_map, blsOf_map, dSl, dPart, dNoPart, sliceF, at0, at1, at2, at3, at4, ix0, ix1, ix2, ix3, Dn.g0, Dn.g1, Dn.g2, Dn.g3, Dn.g4, ex_some, decide_true, decide_false, Bool.not_true, Bool.not_false, ite_true, ite_false, if_true, if_false, List.reverse_cons, List.reverse_nil, outPost, wipeE, CTg.set, setAll, appF, extF, revF, popF, Nat.zero_add, Nat.reduceAdd, is_NoneType_int, is_NoneType_bool, is_NoneType_str, is_NoneType_tuple, is_NoneType_list, is_bool_int, is_bool_bool, is_bool_str, is_bool_tuple, is_bool_list, is_int_int, is_int_bool, is_int_str, is_int_tuple, is_int_list, is_str_int, is_str_bool, is_str_str, is_str_tuple, is_str_list, is_tuple_int, is_tuple_bool, is_tuple_str, is_tuple_tuple, is_tuple_list, is_list_int, is_list_bool, is_list_str, is_list_tuple, is_list_list]
  refine ⟨fun i e h => (∃ u, e = [some (.tup (C.map clk)), some (tI p), u]) ∧ h = [] ∧ allK (C.take i) p = true, ⟨⟨_, rfl⟩, rfl, rfl⟩, fun _ _ _ _ _ => trivial, ?_, ?_⟩
  · rintro i x e h hx ⟨⟨u, rfl⟩, rfl, ha⟩
    obtain ⟨w, hw, rfl⟩ := mapk_at hx
    obtain ⟨w1, w2⟩ := hC w (List.mem_of_getElem? hw)
    have wt : C.take (i + 1) = C.take i ++ [w] := by rw [List.take_add_one, hw]; rfl
    simp only [l1_holds_0, dOp, dUn, dVar, dC, slot, startE, List.map, List.length, List.replicate, List.append, List.cons_append, List.nil_append, List.set, dAnd, dOr, dNot, dtB, dtAnd, dtOr, dtNot, dIf, dtTru, truF, dNil, dCons, dTup, dLst, dCB, sNil, sSeq, sRet, sRetN, sExpr, sIf, sAsg, gN, gT, gsNil, gsCons, gS, sPar, sAug, sWhile, sFor, sBrk, sCont, sNo, sRaise, dCallP_eq, dCallD_eq, List.length_map, List.getElem?_cons_succ, List.getElem?_concat_length, set_last, get_mid, get_mid2, eqF, neF, ltF, leF, gtF, geF, isF, notF, addF, subF, mulF, fdivF, modF, powF, negF, ixF, lenF, tupF, lstF, absF, intF, gcdF, maxF, minF, Rs.to, dIsi, dIsi2, dIsE, tyN, D.isNon, dM1, dM0, srcSeq, srcRng1, srcRng2, dLc, tYesD, iaddF, isBF, notBF, srcZip, repF, sumF, allF, anyF, intsOf_map, blsOf_map, dSl, dPart, dNoPart, sliceF, at0, at1, at2, at3, at4, ix0, ix1, ix2, ix3, Dn.g0, Dn.g1, Dn.g2, Dn.g3, Dn.g4, ex_some, decide_true, decide_false, Bool.not_true, Bool.not_false, ite_true, ite_false, if_true, if_false, List.reverse_cons, List.reverse_nil, outPost, wipeE, CTg.set, setAll, appF, extF, revF, popF, Nat.zero_add, Nat.reduceAdd, is_NoneType_int, is_NoneType_bool, is_NoneType_str, is_NoneType_tuple, is_NoneType_list, is_bool_int, is_bool_bool, is_bool_str, is_bool_tuple, is_bool_list, is_int_int, is_int_bool, is_int_str, is_int_tuple, is_int_list, is_str_int, is_str_bool, is_str_str, is_str_tuple, is_str_list, is_tuple_int, is_tuple_bool, is_tuple_str, is_tuple_tuple, is_tuple_list, is_list_int, is_list_bool, is_list_str, is_list_tuple, is_list_list]
    refine useP_keeps w1 w2 hp ?_
    cases hk : kpt w.2 (dotN w.1 p w.1.length) with
    | true =>
      simp only [dOp, dUn, dVar, dC, slot, startE, List.map, List.length, List.replicate, List.append, List.cons_append, List.nil_append, List.set, dAnd, dOr, dNot, dtB, dtAnd, dtOr, dtNot, dIf, dtTru, truF, dNil, dCons, dTup, dLst, dCB, sNil, sSeq, sRet, sRetN, sExpr, sIf, sAsg, gN, gT, gsNil, gsCons, gS, sPar, sAug, sWhile, sFor, sBrk, sCont, sNo, sRaise, dCallP_eq, dCallD_eq, List.length_map, List.getElem?_cons_succ, List.getElem?_concat_length, set_last, get_mid, get_mid2, eqF, neF, ltF, leF, gtF, geF, isF, notF, addF, subF, mulF, fdivF, modF, powF, negF, ixF, lenF, tupF, lstF, absF, intF, gcdF, maxF, minF, Rs.to, dIsi, dIsi2, dIsE, tyN, D.isNon, dM1, dM0, srcSeq, srcRng1, srcRng2, dLc, tYesD, iaddF, isBF, notBF, srcZip, repF, sumF, allF, anyF, intsOf_map, blsOf_map, dSl, dPart, dNoPart, sliceF, at0, at1, at2, at3, at4, ix0, ix1, ix2, ix3, Dn.g0, Dn.g1, Dn.g2, Dn.g3, Dn.g4, ex_some, decide_true, decide_false, Bool.not_true, Bool.not_false, ite_true, ite_false, if_true, if_false, List.reverse_cons, List.reverse_nil, outPost, wipeE, CTg.set, setAll, appF, extF, revF, popF, Nat.zero_add, Nat.reduceAdd, is_NoneType_int, is_NoneType_bool, is_NoneType_str, is_NoneType_tuple, is_NoneType_list, is_bool_int, is_bool_bool, is_bool_str, is_bool_tuple, is_bool_list, is_int_int, is_int_bool, is_int_str, is_int_tuple, is_int_list, is_str_int, is_str_bool, is_str_str, is_str_tuple, is_str_list, is_tuple_int, is_tuple_bool, is_tuple_str, is_tuple_tuple, is_tuple_list, is_list_int, is_list_bool, is_list_str, is_list_tuple, is_list_list]
      refine ⟨⟨_, rfl⟩, trivial, ?_⟩
      rw [wt]; unfold allK at ha ⊢
      rw [List.all_append, ha, List.all_cons, hk]; rfl
    | false =>
      simp only [dOp, dUn, dVar, dC, slot, startE, List.map, List.length, List.replicate, List.append, List.cons_append, List.nil_append, List.set, dAnd, dOr, dNot, dtB, dtAnd, dtOr, dtNot, dIf, dtTru, truF, dNil, dCons, dTup, dLst, dCB, sNil, sSeq, sRet, sRetN, sExpr, sIf, sAsg, gN, gT, gsNil, gsCons, gS, sPar, sAug, sWhile, sFor, sBrk, sCont, sNo, sRaise, dCallP_eq, dCallD_eq, List.length_map, List.getElem?_cons_succ, List.getElem?_concat_length, set_last, get_mid, get_mid2, eqF, neF, ltF, leF, gtF, geF, isF, notF, addF, subF, mulF, fdivF, modF, powF, negF, ixF, lenF, tupF, lstF, absF, intF, gcdF, maxF, minF, Rs.to, dIsi, dIsi2, dIsE, tyN, D.isNon, dM1, dM0, srcSeq, srcRng1, srcRng2, dLc, tYesD, iaddF, isBF, notBF, srcZip, repF, sumF, allF, anyF, intsOf_map, blsOf_map, dSl, dPart, dNoPart, sliceF, at0, at1, at2, at3, at4, ix0, ix1, ix2, ix3, Dn.g0, Dn.g1, Dn.g2, Dn.g3, Dn.g4, ex_some, decide_true, decide_false, Bool.not_true, Bool.not_false, ite_true, ite_false, if_true, if_false, List.reverse_cons, List.reverse_nil, outPost, wipeE, CTg.set, setAll, appF, extF, revF, popF, Nat.zero_add, Nat.reduceAdd, is_NoneType_int, is_NoneType_bool, is_NoneType_str, is_NoneType_tuple, is_NoneType_list, is_bool_int, is_bool_bool, is_bool_str, is_bool_tuple, is_bool_list, is_int_int, is_int_bool, is_int_str, is_int_tuple, is_int_list, is_str_int, is_str_bool, is_str_str, is_str_tuple, is_str_list, is_tuple_int, is_tuple_bool, is_tuple_str, is_tuple_tuple, is_tuple_list, is_list_int, is_list_bool, is_list_str, is_list_tuple, is_list_list]
      refine rt_val rfl ?_
      have : allK C p = false := by
        unfold allK
        rw [List.all_eq_false]
        exact ⟨w, List.mem_of_getElem? hw, by simp [hk]⟩
      simp [sp_holds, this]
  · rintro e h ⟨⟨u, rfl⟩, rfl, ha⟩
    rw [List.take_length] at ha
    simp only [r_holds_1, dOp, dUn, dVar, dC, slot, startE, List.map, List.length, List.replicate, List.append, List.cons_append, List.nil_append, List.set, dAnd, dOr, dNot, dtB, dtAnd, dtOr, dtNot, dIf, dtTru, truF, dNil, dCons, dTup, dLst, dCB, sNil, sSeq, sRet, sRetN, sExpr, sIf, sAsg, gN, gT, gsNil, gsCons, gS, sPar, sAug, sWhile, sFor, sBrk, sCont, sNo, sRaise, dCallP_eq, dCallD_eq, List.length_map, List.getElem?_cons_succ, List.getElem?_concat_length, set_last, get_mid, get_mid2, eqF, neF, ltF, leF, gtF, geF, isF, notF, addF, subF, mulF, fdivF, modF, powF, negF, ixF, lenF, tupF, lstF, absF, intF, gcdF, maxF, minF, Rs.to, dIsi, dIsi2, dIsE, tyN, D.isNon, dM1, dM0, srcSeq, srcRng1, srcRng2, dLc, tYesD, iaddF, isBF, notBF, srcZip, repF, sumF, allF, anyF, intsOf_map, blsOf_map, dSl, dPart, dNoPart, sliceF, at0, at1, at2, at3, at4, ix0, ix1, ix2, ix3, Dn.g0, Dn.g1, Dn.g2, Dn.g3, Dn.g4, ex_some, decide_true, decide_false, Bool.not_true, Bool.not_false, ite_true, ite_false, if_true, if_false, List.reverse_cons, List.reverse_nil, outPost, wipeE, CTg.set, setAll, appF, extF, revF, popF, Nat.zero_add, Nat.reduceAdd, is_NoneType_int, is_NoneType_bool, is_NoneType_str, is_NoneType_tuple, is_NoneType_list, is_bool_int, is_bool_bool, is_bool_str, is_bool_tuple, is_bool_list, is_int_int, is_int_bool, is_int_str, is_int_tuple, is_int_list, is_str_int, is_str_bool, is_str_str, is_str_tuple, is_str_list, is_tuple_int, is_tuple_bool, is_tuple_str, is_tuple_tuple, is_tuple_list, is_list_int, is_list_bool, is_list_str, is_list_tuple, is_list_list]
    exact rt_val rfl (by simp [sp_holds, ha])

theorem ok_holds (T : Txt K mg) : Ok P w K mg base 3 "holds" ["cell", "place"] (spP K mg sp_holds) :=
  okOf T.d_holds fun f fd F => fnP (k := 2) sp_holds t_holds F sc_holds (fun x ds hp => len_holds x ds hp) (fun cdv A outer s H E hr z => by
    have hu := hr.units; have hnd := sc_holds.nd
    unfold t_holds r_holds_0 r_holds_1 l1_holds_0
    exact (dss_cons (ds_for (passes_of (K := fun e s'' => L2.CX P w outer H s E e s'') (E₁ := fun e s'' => L2.CX P w outer H s E e s'') rfl) rfl (di_seq (de_var 0 rfl (by walk_at "vis") (by decide) (by decide))) (dg_name 2 hnd rfl (by walk_at "locs") (by walk_at "fnn")) (dss_one (ds_if (dt_not (dt_tru (dn_callP ((ok_keeps (P := P) (w := w) (base := base) T).mono (by decide)) hr (takes_of rfl rfl rfl rfl) rfl (by decide) (da_cons (de_var 2 rfl (by walk_at "vis") (by decide) (by decide)) (da_cons (de_var 1 rfl (by walk_at "vis") (by decide) (by decide)) da_nil rfl) rfl) rfl rfl) (fun _ => rfl))) (dss_one (ds_ret de_bl)) dss_nil)) (fun _ => rfl))
    (dss_one (ds_ret de_bl)))) w_holds
/-! ### moving -/
/-- a form, a start, a vector: the last number apart -/
structure FSV where
  f : List Int
  c : Int
  s : List Int
  w : Int
  v : List Int
  u : Int
def movR (x : FSV) : List Int := x.f.map fun a => a * x.w * x.u
def mov (x : FSV) : List Int := movR x ++ [-x.w * dotN x.f x.v x.f.length, x.c * x.w * x.u - x.u * dotN x.f x.s x.f.length]
def preF (x : FSV) (ds : List D) : Prop := ds = [tI (x.f ++ [x.c]), tI (x.s ++ [x.w]), tI (x.v ++ [x.u])] ∧ x.f.length = x.s.length ∧ x.f.length = x.v.length ∧ x.f.length ≤ 10 ∧ Lb 50 (x.f ++ [x.c]) ∧ Lb 50 (x.s ++ [x.w]) ∧ Lb 50 (x.v ++ [x.u])
def sp_moving : Spc FSV where
  pre := preF
  res := fun x o => o = .val (tI (mov x))
  exc := fun _ _ => False

def r_moving_5 : dS :=
  (sRet (dCB tupF (dCons (dOp addF (dVar 5) (dLst (dCons (dVar 6) (dCons (dVar 7) dNil)))) dNil)))
def r_moving_4 : dS :=
  (sSeq (sAsg (dOp subF (dOp mulF (dOp mulF (dOp ixF (dVar 0) (dUn negF (dC (.int 1)))) (dVar 3)) (dVar 4)) (dOp mulF (dVar 4) (dCallP sp_weight (dCons (dSl (dVar 0) dNoPart (dPart (dUn negF (dC (.int 1))))) (dCons (dVar 1) dNil))))) (gN 7)) (r_moving_5))
def r_moving_3 : dS :=
  (sSeq (sAsg (dOp mulF (dUn negF (dVar 3)) (dCallP sp_weight (dCons (dSl (dVar 0) dNoPart (dPart (dUn negF (dC (.int 1))))) (dCons (dVar 2) dNil)))) (gN 6)) (r_moving_4))
def r_moving_2 : dS :=
  (sSeq (sAsg (dLc (srcSeq (dSl (dVar 0) dNoPart (dPart (dUn negF (dC (.int 1)))))) (.one 8) [8] tYesD (dOp mulF (dOp mulF (dVar 8) (dVar 3)) (dVar 4))) (gN 5)) (r_moving_3))
def r_moving_1 : dS :=
  (sSeq (sAsg (dOp ixF (dVar 2) (dUn negF (dC (.int 1)))) (gN 4)) (r_moving_2))
def r_moving_0 : dS :=
  (sSeq (sAsg (dOp ixF (dVar 1) (dUn negF (dC (.int 1)))) (gN 3)) (r_moving_1))
def t_moving : dS :=
  (r_moving_0)
theorem len_moving : ∀ x ds, sp_moving.pre x ds → ds.length = 3 := fun x ds h => by rw [h.1]; rfl
theorem useP_weight {g : Spc WP} (hg : g = sp_weight ∨ g = sp__law_weight) {a b : List Int} {h : Hh} {Q : D → Hh → Prop} {E : XK'} (hl : a.length ≤ b.length) (ha : Lb 2000 a) (hb : Lb 2000 b) (q : Q (.int (dotN a b a.length)) h) : useP g [tI a, tI b] h Q E := by
  rcases hg with rfl | rfl
  · exact useP_val (a, b) _ (by simp only [pureDs, pureD, ints_pure]; rfl) ⟨rfl, hl, ha, hb⟩ (fun o q => q) (fun ex q => q) q
  · exact useP_val (a, b) _ (by simp only [pureDs, pureD, ints_pure]; rfl) ⟨rfl, hl, ha, hb⟩ (fun o q => q) (fun ex q => q) q
theorem w_moving : ∀ x ds, sp_moving.pre x ds → t_moving (endP sp_moving x) (startE nm_moving.length ds) [] := by
  rintro ⟨f, c, s, w, v, u⟩ ds ⟨rfl, hs, hv, hn, hf, hS, hV⟩
  simp only at hs hv hn hf hS hV
  simp only [t_moving , r_moving_0, r_moving_1, r_moving_2, nm_moving, at_lasti, cut_last, dOp, dUn, dVar, dC, slot, startE, List.map, List.length, List.replicate, List.append, List.cons_append, List.nil_append, List.set, dAnd, dOr, dNot, dtB, dtAnd, dtOr, dtNot, dIf, dtTru, truF, dNil, dCons, dTup, dLst, dCB, sNil, sSeq, sRet, sRetN, sExpr, sIf, sAsg, gN, gT, gsNil, gsCons, gS, sPar, sAug, sWhile, sFor, sBrk, sCont, sNo, sRaise, dCallP_eq, dCallD_eq, List.length_map, List.getElem?_cons_succ, List.getElem?_concat_length, set_last, get_mid, get_mid2, eqF, neF, ltF, leF, gtF, geF, isF, notF, addF, subF, mulF, fdivF, modF, powF, negF, ixF, lenF, tupF, lstF, absF, intF, gcdF, maxF, minF, Rs.to, dIsi, dIsi2, dIsE, tyN, D.isNon, dM1, dM0, srcSeq, srcRng1, srcRng2, dLc, tYesD, iaddF, isBF, notBF, srcZip, repF, sumF, allF, anyF, intsOf_map, blsOf_map, dSl, dPart, dNoPart, sliceF, at0, at1, at2, at3, at4, ix0, ix1, ix2, ix3, Dn.g0, Dn.g1, Dn.g2, Dn.g3, Dn.g4, ex_some, decide_true, decide_false, Bool.not_true, Bool.not_false, ite_true, ite_false, if_true, if_false, List.reverse_cons, List.reverse_nil, outPost, wipeE, CTg.set, setAll, appF, extF, revF, popF, Nat.zero_add, Nat.reduceAdd, is_NoneType_int, is_NoneType_bool, is_NoneType_str, is_NoneType_tuple, is_NoneType_list, is_bool_int, is_bool_bool, is_bool_str, is_bool_tuple, is_bool_list, is_int_int, is_int_bool, is_int_str, is_int_tuple, is_int_list, is_str_int, is_str_bool, is_str_str, is_str_tuple, is_str_list, is_tuple_int, is_tuple_bool, is_tuple_str, is_tuple_tuple, is_tuple_list, is_list_int, is_list_bool, is_list_str, is_list_tuple, is_list_list]
  have f0 := hf.app
  have s0 := hS.app
  have v0 := hV.app
  refine ⟨fun i acc h => acc = ((f.take i).map fun a => a * w * u).map .int ∧ h = [], ⟨rfl, rfl⟩, fun _ _ _ _ _ => trivial, ?_, ?_⟩
  · rintro i x acc h hx ⟨rfl, rfl⟩
    obtain ⟨hi, rfl⟩ := mapi_at hx
    simp only [dOp, dUn, dVar, dC, slot, startE, List.map, List.length, List.replicate, List.append, List.cons_append, List.nil_append, List.set, dAnd, dOr, dNot, dtB, dtAnd, dtOr, dtNot, dIf, dtTru, truF, dNil, dCons, dTup, dLst, dCB, sNil, sSeq, sRet, sRetN, sExpr, sIf, sAsg, gN, gT, gsNil, gsCons, gS, sPar, sAug, sWhile, sFor, sBrk, sCont, sNo, sRaise, dCallP_eq, dCallD_eq, List.length_map, List.getElem?_cons_succ, List.getElem?_concat_length, set_last, get_mid, get_mid2, eqF, neF, ltF, leF, gtF, geF, isF, notF, addF, subF, mulF, fdivF, modF, powF, negF, ixF, lenF, tupF, lstF, absF, intF, gcdF, maxF, minF, Rs.to, dIsi, dIsi2, dIsE, tyN, D.isNon, dM1, dM0, srcSeq, srcRng1, srcRng2, dLc, tYesD, iaddF, isBF, notBF, srcZip, repF, sumF, allF, anyF, intsOf_map, blsOf_map, dSl, dPart, dNoPart, sliceF, at0, at1, at2, at3, at4, ix0, ix1, ix2, ix3, Dn.g0, Dn.g1, Dn.g2, Dn.g3, Dn.g4, ex_some, decide_true, decide_false, Bool.not_true, Bool.not_false, ite_true, ite_false, if_true, if_false, List.reverse_cons, List.reverse_nil, outPost, wipeE, CTg.set, setAll, appF, extF, revF, popF, Nat.zero_add, Nat.reduceAdd, is_NoneType_int, is_NoneType_bool, is_NoneType_str, is_NoneType_tuple, is_NoneType_list, is_bool_int, is_bool_bool, is_bool_str, is_bool_tuple, is_bool_list, is_int_int, is_int_bool, is_int_str, is_int_tuple, is_int_list, is_str_int, is_str_bool, is_str_str, is_str_tuple, is_str_list, is_tuple_int, is_tuple_bool, is_tuple_str, is_tuple_tuple, is_tuple_list, is_list_int, is_list_bool, is_list_str, is_list_tuple, is_list_list]
    refine ⟨bt_mul (f0.1.getD i) s0.2 (by decide), bt_mul (bt_mono (bits_mul (f0.1.getD i) s0.2) (by decide : _ ≤ 100)) (bt_mono v0.2 (by decide)) (by decide), sl2 (by simp; omega), ?_, trivial⟩
    rw [take_at hi]; simp
  · rintro acc h ⟨rfl, rfl⟩
    simp only [r_moving_3, List.take_length, at_lasti, cut_last, dOp, dUn, dVar, dC, slot, startE, List.map, List.length, List.replicate, List.append, List.cons_append, List.nil_append, List.set, dAnd, dOr, dNot, dtB, dtAnd, dtOr, dtNot, dIf, dtTru, truF, dNil, dCons, dTup, dLst, dCB, sNil, sSeq, sRet, sRetN, sExpr, sIf, sAsg, gN, gT, gsNil, gsCons, gS, sPar, sAug, sWhile, sFor, sBrk, sCont, sNo, sRaise, dCallP_eq, dCallD_eq, List.length_map, List.getElem?_cons_succ, List.getElem?_concat_length, set_last, get_mid, get_mid2, eqF, neF, ltF, leF, gtF, geF, isF, notF, addF, subF, mulF, fdivF, modF, powF, negF, ixF, lenF, tupF, lstF, absF, intF, gcdF, maxF, minF, Rs.to, dIsi, dIsi2, dIsE, tyN, D.isNon, dM1, dM0, srcSeq, srcRng1, srcRng2, dLc, tYesD, iaddF, isBF, notBF, srcZip, repF, sumF, allF, anyF, intsOf_map, blsOf_map, dSl, dPart, dNoPart, sliceF, at0, at1, at2, at3, at4, ix0, ix1, ix2, ix3, Dn.g0, Dn.g1, Dn.g2, Dn.g3, Dn.g4, ex_some, decide_true, decide_false, Bool.not_true, Bool.not_false, ite_true, ite_false, if_true, if_false, List.reverse_cons, List.reverse_nil, outPost, wipeE, CTg.set, setAll, appF, extF, revF, popF, Nat.zero_add, Nat.reduceAdd, is_NoneType_int, is_NoneType_bool, is_NoneType_str, is_NoneType_tuple, is_NoneType_list, is_bool_int, is_bool_bool, is_bool_str, is_bool_tuple, is_bool_list, is_int_int, is_int_bool, is_int_str, is_int_tuple, is_int_list, is_str_int, is_str_bool, is_str_str, is_str_tuple, is_str_list, is_tuple_int, is_tuple_bool, is_tuple_str, is_tuple_tuple, is_tuple_list, is_list_int, is_list_bool, is_list_str, is_list_tuple, is_list_list]
    refine useP_weight (.inl rfl) (by simp; omega) (f0.1.mono (by decide)) (hV.mono (by decide)) ?_
    rw [dotN_app _ (by omega)]
    simp only [dOp, dUn, dVar, dC, slot, startE, List.map, List.length, List.replicate, List.append, List.cons_append, List.nil_append, List.set, dAnd, dOr, dNot, dtB, dtAnd, dtOr, dtNot, dIf, dtTru, truF, dNil, dCons, dTup, dLst, dCB, sNil, sSeq, sRet, sRetN, sExpr, sIf, sAsg, gN, gT, gsNil, gsCons, gS, sPar, sAug, sWhile, sFor, sBrk, sCont, sNo, sRaise, dCallP_eq, dCallD_eq, List.length_map, List.getElem?_cons_succ, List.getElem?_concat_length, set_last, get_mid, get_mid2, eqF, neF, ltF, leF, gtF, geF, isF, notF, addF, subF, mulF, fdivF, modF, powF, negF, ixF, lenF, tupF, lstF, absF, intF, gcdF, maxF, minF, Rs.to, dIsi, dIsi2, dIsE, tyN, D.isNon, dM1, dM0, srcSeq, srcRng1, srcRng2, dLc, tYesD, iaddF, isBF, notBF, srcZip, repF, sumF, allF, anyF, intsOf_map, blsOf_map, dSl, dPart, dNoPart, sliceF, at0, at1, at2, at3, at4, ix0, ix1, ix2, ix3, Dn.g0, Dn.g1, Dn.g2, Dn.g3, Dn.g4, ex_some, decide_true, decide_false, Bool.not_true, Bool.not_false, ite_true, ite_false, if_true, if_false, List.reverse_cons, List.reverse_nil, outPost, wipeE, CTg.set, setAll, appF, extF, revF, popF, Nat.zero_add, Nat.reduceAdd, is_NoneType_int, is_NoneType_bool, is_NoneType_str, is_NoneType_tuple, is_NoneType_list, is_bool_int, is_bool_bool, is_bool_str, is_bool_tuple, is_bool_list, is_int_int, is_int_bool, is_int_str, is_int_tuple, is_int_list, is_str_int, is_str_bool, is_str_str, is_str_tuple, is_str_list, is_tuple_int, is_tuple_bool, is_tuple_str, is_tuple_tuple, is_tuple_list, is_list_int, is_list_bool, is_list_str, is_list_tuple, is_list_list]
    refine ⟨bt_mul (bt_mono (bits_neg s0.2) (by decide : 50 ≤ 200)) (bt_mono (dotN_bt f0.1 v0.1 _) (by omega)) (by decide), ?_⟩
    simp only [r_moving_4, r_moving_5, at_lasti, cut_last, dOp, dUn, dVar, dC, slot, startE, List.map, List.length, List.replicate, List.append, List.cons_append, List.nil_append, List.set, dAnd, dOr, dNot, dtB, dtAnd, dtOr, dtNot, dIf, dtTru, truF, dNil, dCons, dTup, dLst, dCB, sNil, sSeq, sRet, sRetN, sExpr, sIf, sAsg, gN, gT, gsNil, gsCons, gS, sPar, sAug, sWhile, sFor, sBrk, sCont, sNo, sRaise, dCallP_eq, dCallD_eq, List.length_map, List.getElem?_cons_succ, List.getElem?_concat_length, set_last, get_mid, get_mid2, eqF, neF, ltF, leF, gtF, geF, isF, notF, addF, subF, mulF, fdivF, modF, powF, negF, ixF, lenF, tupF, lstF, absF, intF, gcdF, maxF, minF, Rs.to, dIsi, dIsi2, dIsE, tyN, D.isNon, dM1, dM0, srcSeq, srcRng1, srcRng2, dLc, tYesD, iaddF, isBF, notBF, srcZip, repF, sumF, allF, anyF, intsOf_map, blsOf_map, dSl, dPart, dNoPart, sliceF, at0, at1, at2, at3, at4, ix0, ix1, ix2, ix3, Dn.g0, Dn.g1, Dn.g2, Dn.g3, Dn.g4, ex_some, decide_true, decide_false, Bool.not_true, Bool.not_false, ite_true, ite_false, if_true, if_false, List.reverse_cons, List.reverse_nil, outPost, wipeE, CTg.set, setAll, appF, extF, revF, popF, Nat.zero_add, Nat.reduceAdd, is_NoneType_int, is_NoneType_bool, is_NoneType_str, is_NoneType_tuple, is_NoneType_list, is_bool_int, is_bool_bool, is_bool_str, is_bool_tuple, is_bool_list, is_int_int, is_int_bool, is_int_str, is_int_tuple, is_int_list, is_str_int, is_str_bool, is_str_str, is_str_tuple, is_str_list, is_tuple_int, is_tuple_bool, is_tuple_str, is_tuple_tuple, is_tuple_list, is_list_int, is_list_bool, is_list_str, is_list_tuple, is_list_list]
    refine ⟨bt_mul f0.2 s0.2 (by decide), bt_mul (bt_mono (bits_mul f0.2 s0.2) (by decide : _ ≤ 100)) (bt_mono v0.2 (by decide)) (by decide), ?_⟩
    refine useP_weight (.inl rfl) (by simp; omega) (f0.1.mono (by decide)) (hS.mono (by decide)) ?_
    rw [dotN_app _ (by omega)]
    simp only [dOp, dUn, dVar, dC, slot, startE, List.map, List.length, List.replicate, List.append, List.cons_append, List.nil_append, List.set, dAnd, dOr, dNot, dtB, dtAnd, dtOr, dtNot, dIf, dtTru, truF, dNil, dCons, dTup, dLst, dCB, sNil, sSeq, sRet, sRetN, sExpr, sIf, sAsg, gN, gT, gsNil, gsCons, gS, sPar, sAug, sWhile, sFor, sBrk, sCont, sNo, sRaise, dCallP_eq, dCallD_eq, List.length_map, List.getElem?_cons_succ, List.getElem?_concat_length, set_last, get_mid, get_mid2, eqF, neF, ltF, leF, gtF, geF, isF, notF, addF, subF, mulF, fdivF, modF, powF, negF, ixF, lenF, tupF, lstF, absF, intF, gcdF, maxF, minF, Rs.to, dIsi, dIsi2, dIsE, tyN, D.isNon, dM1, dM0, srcSeq, srcRng1, srcRng2, dLc, tYesD, iaddF, isBF, notBF, srcZip, repF, sumF, allF, anyF, intsOf_map, blsOf_map, dSl, dPart, dNoPart, sliceF, at0, at1, at2, at3, at4, ix0, ix1, ix2, ix3, Dn.g0, Dn.g1, Dn.g2, Dn.g3, Dn.g4, ex_some, decide_true, decide_false, Bool.not_true, Bool.not_false, ite_true, ite_false, if_true, if_false, List.reverse_cons, List.reverse_nil, outPost, wipeE, CTg.set, setAll, appF, extF, revF, popF, Nat.zero_add, Nat.reduceAdd, is_NoneType_int, is_NoneType_bool, is_NoneType_str, is_NoneType_tuple, is_NoneType_list, is_bool_int, is_bool_bool, is_bool_str, is_bool_tuple, is_bool_list, is_int_int, is_int_bool, is_int_str, is_int_tuple, is_int_list, is_str_int, is_str_bool, is_str_str, is_str_tuple, is_str_list, is_tuple_int, is_tuple_bool, is_tuple_str, is_tuple_tuple, is_tuple_list, is_list_int, is_list_bool, is_list_str, is_list_tuple, is_list_list]
    refine ⟨bt_mul (bt_mono v0.2 (by decide : 50 ≤ 200)) (bt_mono (dotN_bt f0.1 s0.1 _) (by omega)) (by decide), ?_⟩
    have e : List.map D.int (List.map (fun a => a * w * u) f) ++ [D.int (-w * dotN f v f.length), D.int (c * w * u - u * dotN f s f.length)] = (mov ⟨f, c, s, w, v, u⟩).map .int := by simp [mov, movR]
    rw [e]
    exact ⟨Nat.le_of_lt (sl2 (by omega)), rt_val (ints_pure _) rfl⟩

theorem ok_moving (T : Txt K mg) : Ok P w K mg base 2 "moving" ["form", "start", "vector"] (spP K mg sp_moving) :=
  okOf T.d_moving fun f fd F => fnP (k := 1) sp_moving t_moving F sc_moving (fun x ds hp => len_moving x ds hp) (fun cdv A outer s H E hr z => by
    have hu := hr.units; have hnd := sc_moving.nd
    unfold t_moving r_moving_0 r_moving_1 r_moving_2 r_moving_3 r_moving_4 r_moving_5
    exact (dss_cons (ds_set 3 hnd rfl (by walk_at "locs") (de_ix (de_var 1 rfl (by walk_at "vis") (by decide) (by decide)) (de_neg de_int) (fun _ _ => rfl)) rfl (by walk_at "fnn"))
    (dss_cons (ds_set 4 hnd rfl (by walk_at "locs") (de_ix (de_var 2 rfl (by walk_at "vis") (by decide) (by decide)) (de_neg de_int) (fun _ _ => rfl)) rfl (by walk_at "fnn"))
    (dss_cons (ds_setLc 5 (own := [("a", 8)]) (c := (.one 8)) (tt := tYesD) (te := (dOp mulF (dOp mulF (dVar 8) (dVar 3)) (dVar 4))) rfl hnd rfl rfl (sw_true rfl rfl rfl (by decide +kernel)) (di_seq (de_slice (de_var 0 rfl (by walk_at "vis") (by decide) (by decide)) do_none (do_some (de_neg de_int)))) (blkOk_by (N := nm_moving) (sc := defScope s_moving) (by decide +kernel)) (by decide) (fun _ _ _ _ _ => pg_name (i := 8) hnd rfl (by walk_at "locs") (by walk_at "fnn")) (fun _ _ _ _ _ => dts_nil) (fun _ _ _ _ _ => (de_mul (de_mul (de_var 8 rfl (by walk_at "vis") (by decide) (by decide)) (de_var 3 rfl (by walk_at "vis") (by decide) (by decide))) (de_var 4 rfl (by walk_at "vis") (by decide) (by decide)))) (fun _ => rfl))
    (dss_cons (ds_set 6 hnd rfl (by walk_at "locs") (de_mul (de_neg (de_var 3 rfl (by walk_at "vis") (by decide) (by decide))) (dn_callP ((ok_weight (P := P) (w := w) (base := base) T).mono (by decide)) hr (takes_of rfl rfl rfl rfl) rfl (by decide) (da_cons (de_slice (de_var 0 rfl (by walk_at "vis") (by decide) (by decide)) do_none (do_some (de_neg de_int))) (da_cons (de_var 2 rfl (by walk_at "vis") (by decide) (by decide)) da_nil rfl) rfl) rfl rfl)) rfl (by walk_at "fnn"))
    (dss_cons (ds_set 7 hnd rfl (by walk_at "locs") (de_minus (de_mul (de_mul (de_ix (de_var 0 rfl (by walk_at "vis") (by decide) (by decide)) (de_neg de_int) (fun _ _ => rfl)) (de_var 3 rfl (by walk_at "vis") (by decide) (by decide))) (de_var 4 rfl (by walk_at "vis") (by decide) (by decide))) (de_mul (de_var 4 rfl (by walk_at "vis") (by decide) (by decide)) (dn_callP ((ok_weight (P := P) (w := w) (base := base) T).mono (by decide)) hr (takes_of rfl rfl rfl rfl) rfl (by decide) (da_cons (de_slice (de_var 0 rfl (by walk_at "vis") (by decide) (by decide)) do_none (do_some (de_neg de_int))) (da_cons (de_var 1 rfl (by walk_at "vis") (by decide) (by decide)) da_nil rfl) rfl) rfl rfl))) rfl (by walk_at "fnn"))
    (dss_one (ds_ret (de_callTy (f := tupF) call_tuple_of cd_tup rfl T.b_tuple (by decide +kernel) (da_cons (de_add (de_var 5 rfl (by walk_at "vis") (by decide) (by decide)) (de_lst (da_cons (de_var 6 rfl (by walk_at "vis") (by decide) (by decide)) (da_cons (de_var 7 rfl (by walk_at "vis") (by decide) (by decide)) da_nil rfl) rfl) (by decide))) da_nil rfl) (by decide) (by decide) rfl rfl))))))))) w_moving
/-! ### in_time -/
structure ITm where
  F : List (List Int × Int)
  s : List Int
  w : Int
  v : List Int
  u : Int
def fmD (F : List Int × Int) : D := tI (F.1 ++ [F.2])
def zer (n : Nat) : List Int := List.replicate n 0
def movC (x : ITm) (F : List Int × Int) : List Int × Int := (mov ⟨F.1, F.2, x.s, x.w, x.v, x.u⟩, 2)
def itC (x : ITm) : List (List Int × Int) := x.F.map (movC x) ++ [(zer x.s.length ++ [1, 0], 1), (zer x.s.length ++ [-1, 1], 1)]
def preIT (x : ITm) : Prop := x.F.length ≤ 50 ∧ x.s.length = x.v.length ∧ x.s.length ≤ 10 ∧ Lb 50 (x.s ++ [x.w]) ∧ Lb 50 (x.v ++ [x.u]) ∧ ∀ F ∈ x.F, F.1.length = x.s.length ∧ Lb 50 (F.1 ++ [F.2])
def sp_in_time : Spc ITm where
  pre := fun x ds => ds = [.tup (x.F.map fmD), tI (x.s ++ [x.w]), tI (x.v ++ [x.u]), .int x.s.length] ∧ preIT x
  res := fun x o => o = .val (.tup ((itC x).map clk))
  exc := fun _ _ => False

def r_in_time_3 : dS :=
  (sRet (dCB tupF (dCons (dVar 4) dNil)))
def r_in_time_2 : dS :=
  (sSeq (sExpr (dM1 appF (dVar 4) (dTup (dCons (dOp addF (dOp repF (dTup (dCons (dC (.int 0)) dNil)) (dVar 3)) (dTup (dCons (dUn negF (dC (.int 1))) (dCons (dC (.int 1)) dNil)))) (dCons (dC (.int 1)) dNil))))) (r_in_time_3))
def r_in_time_1 : dS :=
  (sSeq (sExpr (dM1 appF (dVar 4) (dTup (dCons (dOp addF (dOp repF (dTup (dCons (dC (.int 0)) dNil)) (dVar 3)) (dTup (dCons (dC (.int 1)) (dCons (dC (.int 0)) dNil)))) (dCons (dC (.int 1)) dNil))))) (r_in_time_2))
def r_in_time_0 : dS :=
  (sSeq (sAsg (dLc (srcSeq (dVar 0)) (.one 5) [5] tYesD (dTup (dCons (dCallP sp_moving (dCons (dVar 5) (dCons (dVar 1) (dCons (dVar 2) dNil)))) (dCons (dC (.int 2)) dNil)))) (gN 4)) (r_in_time_1))
def t_in_time : dS :=
  (r_in_time_0)
theorem len_in_time : ∀ x ds, sp_in_time.pre x ds → ds.length = 4 := fun x ds h => by rw [h.1]; rfl
theorem clks_pure : ∀ C : List (List Int × Int), pureDs (C.map clk) = true
  | [] => rfl
  | w :: r => by rw [List.map_cons]; unfold pureDs; rw [clks_pure r]; simp only [clk, cl, pureD, pureDs, ints_pure]; rfl
theorem mapf_at {C : List (List Int × Int)} {i : Nat} {x : D} (h : (C.map fmD)[i]? = some x) : ∃ w, C[i]? = some w ∧ x = fmD w := by
  rw [List.getElem?_map] at h
  cases hw : C[i]? with
  | none => rw [hw] at h; cases h
  | some w => rw [hw] at h; injection h with h; exact ⟨w, rfl, h.symm⟩
theorem rep_int (n : Nat) (k : Int) : (List.replicate ((n : Int)).toNat [D.int k]).flatten = (List.replicate n k).map .int := by
  rw [Int.toNat_natCast, List.map_replicate, List.flatten_replicate_singleton]
theorem take_succ' {α : Type} {C : List α} {i : Nat} {w : α} (hw : C[i]? = some w) : C.take (i + 1) = C.take i ++ [w] := by rw [List.take_add_one, hw]; rfl
theorem w_in_time : ∀ x ds, sp_in_time.pre x ds → t_in_time (endP sp_in_time x) (startE nm_in_time.length ds) [] := by
  rintro ⟨F, s, w, v, u⟩ ds ⟨rfl, hF, hsv, hs, hS, hV, hFF⟩
  simp only at hF hsv hs hS hV hFF
  simp only [t_in_time , r_in_time_0, nm_in_time, dOp, dUn, dVar, dC, slot, startE, List.map, List.length, List.replicate, List.append, List.cons_append, List.nil_append, List.set, dAnd, dOr, dNot, dtB, dtAnd, dtOr, dtNot, dIf, dtTru, truF, dNil, dCons, dTup, dLst, dCB, sNil, sSeq, sRet, sRetN, sExpr, sIf, sAsg, gN, gT, gsNil, gsCons, gS, sPar, sAug, sWhile, sFor, sBrk, sCont, sNo, sRaise, dCallP_eq, dCallD_eq, List.length_map, List.getElem?_cons_succ, List.getElem?_concat_length, set_last, get_mid, get_mid2, eqF, neF, ltF, leF, gtF, geF, isF, notF, addF, subF, mulF, fdivF, modF, powF, negF, ixF, lenF, tupF, lstF, absF, intF, gcdF, maxF, minF, Rs.to, dIsi, dIsi2, dIsE, tyN, D.isNon, dM1, dM0, srcSeq, srcRng1, srcRng2, dLc, tYesD, iaddF, isBF, notBF, srcZip, repF, sumF, allF, anyF, intsOf_map, blsOf_map, dSl, dPart, dNoPart, sliceF, at0, at1, at2, at3, at4, ix0, ix1, ix2, ix3, Dn.g0, Dn.g1, Dn.g2, Dn.g3, Dn.g4, ex_some, decide_true, decide_false, Bool.not_true, Bool.not_false, ite_true, ite_false, if_true, if_false, List.reverse_cons, List.reverse_nil, outPost, wipeE, CTg.set, setAll, appF, extF, revF, popF, Nat.zero_add, Nat.reduceAdd, is_NoneType_int, is_NoneType_bool, is_NoneType_str, is_NoneType_tuple, is_NoneType_list, is_bool_int, is_bool_bool, is_bool_str, is_bool_tuple, is_bool_list, is_int_int, is_int_bool, is_int_str, is_int_tuple, is_int_list, is_str_int, is_str_bool, is_str_str, is_str_tuple, is_str_list, is_tuple_int, is_tuple_bool, is_tuple_str, is_tuple_tuple, is_tuple_list, is_list_int, is_list_bool, is_list_str, is_list_tuple, is_list_list]
  refine ⟨fun i acc h => acc = ((F.take i).map (movC ⟨F, s, w, v, u⟩)).map clk ∧ h = [], ⟨rfl, rfl⟩, fun _ _ _ _ _ => trivial, ?_, ?_⟩
  · rintro i x acc h hx ⟨rfl, rfl⟩
    obtain ⟨G, hG, rfl⟩ := mapf_at hx
    obtain ⟨g1, g2⟩ := hFF G (List.mem_of_getElem? hG)
    refine useP_val (g := sp_moving) ⟨G.1, G.2, s, w, v, u⟩ _ (by simp only [fmD, pureDs, pureD, ints_pure]; rfl) ⟨rfl, g1, g1.trans hsv, (show G.1.length ≤ 10 by omega), g2, hS, hV⟩ (fun o q => q) (fun ex q => q) ?_
    refine ⟨sl2 (by simp; omega), ?_, rfl⟩
    rw [take_succ' hG]; simp [movC, clk, cl]
  · rintro acc h ⟨rfl, rfl⟩
    rw [List.take_length]
    simp only [r_in_time_1, r_in_time_2, r_in_time_3, dOp, dUn, dVar, dC, slot, startE, List.map, List.length, List.replicate, List.append, List.cons_append, List.nil_append, List.set, dAnd, dOr, dNot, dtB, dtAnd, dtOr, dtNot, dIf, dtTru, truF, dNil, dCons, dTup, dLst, dCB, sNil, sSeq, sRet, sRetN, sExpr, sIf, sAsg, gN, gT, gsNil, gsCons, gS, sPar, sAug, sWhile, sFor, sBrk, sCont, sNo, sRaise, dCallP_eq, dCallD_eq, List.length_map, List.getElem?_cons_succ, List.getElem?_concat_length, set_last, get_mid, get_mid2, eqF, neF, ltF, leF, gtF, geF, isF, notF, addF, subF, mulF, fdivF, modF, powF, negF, ixF, lenF, tupF, lstF, absF, intF, gcdF, maxF, minF, Rs.to, dIsi, dIsi2, dIsE, tyN, D.isNon, dM1, dM0, srcSeq, srcRng1, srcRng2, dLc, tYesD, iaddF, isBF, notBF, srcZip, repF, sumF, allF, anyF, intsOf_map, blsOf_map, dSl, dPart, dNoPart, sliceF, at0, at1, at2, at3, at4, ix0, ix1, ix2, ix3, Dn.g0, Dn.g1, Dn.g2, Dn.g3, Dn.g4, ex_some, decide_true, decide_false, Bool.not_true, Bool.not_false, ite_true, ite_false, if_true, if_false, List.reverse_cons, List.reverse_nil, outPost, wipeE, CTg.set, setAll, appF, extF, revF, popF, Nat.zero_add, Nat.reduceAdd, is_NoneType_int, is_NoneType_bool, is_NoneType_str, is_NoneType_tuple, is_NoneType_list, is_bool_int, is_bool_bool, is_bool_str, is_bool_tuple, is_bool_list, is_int_int, is_int_bool, is_int_str, is_int_tuple, is_int_list, is_str_int, is_str_bool, is_str_str, is_str_tuple, is_str_list, is_tuple_int, is_tuple_bool, is_tuple_str, is_tuple_tuple, is_tuple_list, is_list_int, is_list_bool, is_list_str, is_list_tuple, is_list_list]
    simp only [rep_int, dOp, dUn, dVar, dC, slot, startE, List.map, List.length, List.replicate, List.append, List.cons_append, List.nil_append, List.set, dAnd, dOr, dNot, dtB, dtAnd, dtOr, dtNot, dIf, dtTru, truF, dNil, dCons, dTup, dLst, dCB, sNil, sSeq, sRet, sRetN, sExpr, sIf, sAsg, gN, gT, gsNil, gsCons, gS, sPar, sAug, sWhile, sFor, sBrk, sCont, sNo, sRaise, dCallP_eq, dCallD_eq, List.length_map, List.getElem?_cons_succ, List.getElem?_concat_length, set_last, get_mid, get_mid2, eqF, neF, ltF, leF, gtF, geF, isF, notF, addF, subF, mulF, fdivF, modF, powF, negF, ixF, lenF, tupF, lstF, absF, intF, gcdF, maxF, minF, Rs.to, dIsi, dIsi2, dIsE, tyN, D.isNon, dM1, dM0, srcSeq, srcRng1, srcRng2, dLc, tYesD, iaddF, isBF, notBF, srcZip, repF, sumF, allF, anyF, intsOf_map, blsOf_map, dSl, dPart, dNoPart, sliceF, at0, at1, at2, at3, at4, ix0, ix1, ix2, ix3, Dn.g0, Dn.g1, Dn.g2, Dn.g3, Dn.g4, ex_some, decide_true, decide_false, Bool.not_true, Bool.not_false, ite_true, ite_false, if_true, if_false, List.reverse_cons, List.reverse_nil, outPost, wipeE, CTg.set, setAll, appF, extF, revF, popF, Nat.zero_add, Nat.reduceAdd, is_NoneType_int, is_NoneType_bool, is_NoneType_str, is_NoneType_tuple, is_NoneType_list, is_bool_int, is_bool_bool, is_bool_str, is_bool_tuple, is_bool_list, is_int_int, is_int_bool, is_int_str, is_int_tuple, is_int_list, is_str_int, is_str_bool, is_str_str, is_str_tuple, is_str_list, is_tuple_int, is_tuple_bool, is_tuple_str, is_tuple_tuple, is_tuple_list, is_list_int, is_list_bool, is_list_str, is_list_tuple, is_list_list]
    have c1 : (D.int 0 :: ([] : List D)) ≠ [] ∧ 1 ≤ 1000 ∧ -1000 ≤ (s.length : Int) ∧ (s.length : Int) ≤ 1000 := ⟨by simp, by decide, by omega, by omega⟩
    have c2 : (List.replicate s.length (0 : Int)).length + 2 ≤ sizeLine := Nat.le_of_lt (sl2 (by simp; omega))
    refine ⟨c1, c2, sl2 (by omega), c1, c2, sl2 (by simp; omega), ?_⟩
    have e : List.map clk (List.map (movC ⟨F, s, w, v, u⟩) F) ++ [D.tup [D.tup (List.map D.int (List.replicate s.length 0) ++ [D.int 1, D.int 0]), D.int 1]] ++ [D.tup [D.tup (List.map D.int (List.replicate s.length 0) ++ [D.int (-1), D.int 1]), D.int 1]] = (itC ⟨F, s, w, v, u⟩).map clk := by
      simp [itC, clk, cl, zer]
    rw [e]
    exact rt_val (clks_pure _) rfl

theorem ok_in_time (T : Txt K mg) : Ok P w K mg base 3 "in_time" ["forms", "start", "vector", "size"] (spP K mg sp_in_time) :=
  okOf T.d_in_time fun f fd F => fnP (k := 2) sp_in_time t_in_time F sc_in_time (fun x ds hp => len_in_time x ds hp) (fun cdv A outer s H E hr z => by
    have hu := hr.units; have hnd := sc_in_time.nd
    unfold t_in_time r_in_time_0 r_in_time_1 r_in_time_2 r_in_time_3
    exact (dss_cons (ds_setLc 4 (own := [("form", 5)]) (c := (.one 5)) (tt := tYesD) (te := (dTup (dCons (dCallP sp_moving (dCons (dVar 5) (dCons (dVar 1) (dCons (dVar 2) dNil)))) (dCons (dC (.int 2)) dNil)))) rfl hnd rfl rfl (sw_true rfl rfl rfl (by decide +kernel)) (di_seq (de_var 0 rfl (by walk_at "vis") (by decide) (by decide))) (blkOk_by (N := nm_in_time) (sc := defScope s_in_time) (by decide +kernel)) (by decide) (fun _ _ _ _ _ => pg_name (i := 5) hnd rfl (by walk_at "locs") (by walk_at "fnn")) (fun _ _ _ _ _ => dts_nil) (fun _ _ _ _ _ => (de_tup (da_cons (dn_callP ((ok_moving (P := P) (w := w) (base := base) T).mono (by decide)) hr takes0 rfl (by decide) (da_cons (de_var 5 rfl (by walk_at "vis") (by decide) (by decide)) (da_cons (de_var 1 rfl (by walk_at "vis") (by decide) (by decide)) (da_cons (de_var 2 rfl (by walk_at "vis") (by decide) (by decide)) da_nil rfl) rfl) rfl) rfl rfl) (da_cons de_int da_nil rfl) rfl) (by decide))) (fun _ => rfl))
    (dss_cons (ds_expr (de_m1 (f := appF) PySem.F.slot_list_append PySem.F.type_list_append mt_append m1_app (de_var 4 rfl (by walk_at "vis") (by decide) (by decide)) (de_tup (da_cons (de_add (de_rep (de_tup (da_cons de_int da_nil rfl) (by decide)) (de_var 3 rfl (by walk_at "vis") (by decide) (by decide))) (de_tup (da_cons de_int (da_cons de_int da_nil rfl) rfl) (by decide))) (da_cons de_int da_nil rfl) rfl) (by decide)) rfl rfl rfl rfl rfl) rfl)
    (dss_cons (ds_expr (de_m1 (f := appF) PySem.F.slot_list_append PySem.F.type_list_append mt_append m1_app (de_var 4 rfl (by walk_at "vis") (by decide) (by decide)) (de_tup (da_cons (de_add (de_rep (de_tup (da_cons de_int da_nil rfl) (by decide)) (de_var 3 rfl (by walk_at "vis") (by decide) (by decide))) (de_tup (da_cons (de_neg de_int) (da_cons de_int da_nil rfl) rfl) (by decide))) (da_cons de_int da_nil rfl) rfl) (by decide)) rfl rfl rfl rfl rfl) rfl)
    (dss_one (ds_ret (de_callTy (f := tupF) call_tuple_of cd_tup rfl T.b_tuple (by decide +kernel) (da_cons (de_var 4 rfl (by walk_at "vis") (by decide) (by decide)) da_nil rfl) (by decide) (by decide) rfl rfl))))))) w_in_time
/-! ### _law_ratio -/
def sp__law_ratio : Spc (Int × Int) where
  pre := fun x ds => ds = [.int x.1, .int x.2] ∧ 0 < x.2 ∧ Bt 50 x.1 ∧ Bt 50 x.2
  res := fun _ o => ∃ a b : Int, o = .val (.tup [.int a, .int b]) ∧ 0 < b ∧ Bt 50 a ∧ Bt 50 b
  exc := fun _ _ => False

def r__law_ratio_2 : dS :=
  (sRet (dTup (dCons (dOp fdivF (dVar 0) (dVar 2)) (dCons (dOp fdivF (dVar 1) (dVar 2)) dNil))))
def r__law_ratio_1 : dS :=
  (sSeq (sIf (dtB (dOp ltF (dVar 1) (dC (.int 0)))) (sAsg (dUn negF (dVar 2)) (gN 2)) sNil) (r__law_ratio_2))
def r__law_ratio_0 : dS :=
  (sSeq (sAsg (dCallP sp__law_gcd (dCons (dVar 0) (dCons (dVar 1) dNil))) (gN 2)) (r__law_ratio_1))
def t__law_ratio : dS :=
  (r__law_ratio_0)
theorem len__law_ratio : ∀ x ds, sp__law_ratio.pre x ds → ds.length = 2 := fun x ds h => by rw [h.1]; rfl
theorem w__law_ratio : ∀ x ds, sp__law_ratio.pre x ds → t__law_ratio (endP sp__law_ratio x) (startE nm__law_ratio.length ds) [] := by
  rintro ⟨n, d⟩ ds ⟨rfl, h0, h1, h2⟩
  simp only at h0 h1 h2
  have hn : ¬ d < 0 := by omega
  have g2 : ((Nat.gcd n.natAbs d.natAbs : Nat) : Int) ≠ 0 := by
    have := Nat.gcd_pos_of_pos_right n.natAbs (show 0 < d.natAbs by omega)
    omega
  have g1 : Bt 50 ((Nat.gcd n.natAbs d.natAbs : Nat) : Int) := by
    have := Nat.gcd_le_right (m := n.natAbs) (n := d.natAbs) (by omega)
    exact bits_of_natAbs_le (by omega) h2
  simp only [t__law_ratio, nm__law_ratio, r__law_ratio_0, r__law_ratio_1, r__law_ratio_2, dOp, dUn, dVar, dC, slot, startE, List.map, List.length, List.replicate, List.append, List.cons_append, List.nil_append, List.set, dAnd, dOr, dNot, dtB, dtAnd, dtOr, dtNot, dIf, dtTru, truF, dNil, dCons, dTup, dLst, dCB, sNil, sSeq, sRet, sRetN, sExpr, sIf, sAsg, gN, gT, gsNil, gsCons, gS, sPar, sAug, sWhile, sFor, sBrk, sCont, sNo, sRaise, dCallP_eq, dCallD_eq, List.length_map, List.getElem?_cons_succ, List.getElem?_concat_length, set_last, get_mid, get_mid2, eqF, neF, ltF, leF, gtF, geF, isF, notF, addF, subF, mulF, fdivF, modF, powF, negF, ixF, lenF, tupF, lstF, absF, intF, gcdF, maxF, minF, Rs.to, dIsi, dIsi2, dIsE, tyN, D.isNon, dM1, dM0, srcSeq, srcRng1, srcRng2, dLc, tYesD, iaddF, isBF, notBF, srcZip, repF, sumF, allF, anyF, intsOf_map, blsOf_map, dSl, dPart, dNoPart, sliceF, at0, at1, at2, at3, at4, ix0, ix1, ix2, ix3, Dn.g0, Dn.g1, Dn.g2, Dn.g3, Dn.g4, ex_some, decide_true, decide_false, Bool.not_true, Bool.not_false, ite_true, ite_false, if_true, if_false, List.reverse_cons, List.reverse_nil, outPost, wipeE, CTg.set, setAll, appF, extF, revF, popF, Nat.zero_add, Nat.reduceAdd, is_NoneType_int, is_NoneType_bool, is_NoneType_str, is_NoneType_tuple, is_NoneType_list, is_bool_int, is_bool_bool, is_bool_str, is_bool_tuple, is_bool_list, is_int_int, is_int_bool, is_int_str, is_int_tuple, is_int_list, is_str_int, is_str_bool, is_str_str, is_str_tuple, is_str_list, is_tuple_int, is_tuple_bool, is_tuple_str, is_tuple_tuple, is_tuple_list, is_list_int, is_list_bool, is_list_str, is_list_tuple, is_list_list]
  refine useP_val (n, d) _ rfl rfl (fun o q => q) (fun ex q => q) ?_
  simp only [hn, dOp, dUn, dVar, dC, slot, startE, List.map, List.length, List.replicate, List.append, List.cons_append, List.nil_append, List.set, dAnd, dOr, dNot, dtB, dtAnd, dtOr, dtNot, dIf, dtTru, truF, dNil, dCons, dTup, dLst, dCB, sNil, sSeq, sRet, sRetN, sExpr, sIf, sAsg, gN, gT, gsNil, gsCons, gS, sPar, sAug, sWhile, sFor, sBrk, sCont, sNo, sRaise, dCallP_eq, dCallD_eq, List.length_map, List.getElem?_cons_succ, List.getElem?_concat_length, set_last, get_mid, get_mid2, eqF, neF, ltF, leF, gtF, geF, isF, notF, addF, subF, mulF, fdivF, modF, powF, negF, ixF, lenF, tupF, lstF, absF, intF, gcdF, maxF, minF, Rs.to, dIsi, dIsi2, dIsE, tyN, D.isNon, dM1, dM0, srcSeq, srcRng1, srcRng2, dLc, tYesD, iaddF, isBF, notBF, srcZip, repF, sumF, allF, anyF, intsOf_map, blsOf_map, dSl, dPart, dNoPart, sliceF, at0, at1, at2, at3, at4, ix0, ix1, ix2, ix3, Dn.g0, Dn.g1, Dn.g2, Dn.g3, Dn.g4, ex_some, decide_true, decide_false, Bool.not_true, Bool.not_false, ite_true, ite_false, if_true, if_false, List.reverse_cons, List.reverse_nil, outPost, wipeE, CTg.set, setAll, appF, extF, revF, popF, Nat.zero_add, Nat.reduceAdd, is_NoneType_int, is_NoneType_bool, is_NoneType_str, is_NoneType_tuple, is_NoneType_list, is_bool_int, is_bool_bool, is_bool_str, is_bool_tuple, is_bool_list, is_int_int, is_int_bool, is_int_str, is_int_tuple, is_int_list, is_str_int, is_str_bool, is_str_str, is_str_tuple, is_str_list, is_tuple_int, is_tuple_bool, is_tuple_str, is_tuple_tuple, is_tuple_list, is_list_int, is_list_bool, is_list_str, is_list_tuple, is_list_list]
  refine ⟨bt_div (bt_mono g1 (by decide)) g2, bt_div (bt_mono g1 (by decide)) g2, rt_val rfl ⟨_, _, rfl, ?_, bits_fdiv h1, bits_fdiv h2⟩⟩
  have hd : ((Nat.gcd n.natAbs d.natAbs : Nat) : Int) ∣ d := Int.ofNat_dvd_left.mpr (Nat.gcd_dvd_right _ _)
  obtain ⟨q, hq⟩ := hd
  have e : d.fdiv ((Nat.gcd n.natAbs d.natAbs : Nat) : Int) = q := by
    conv => lhs; arg 1; rw [hq]
    exact Int.mul_fdiv_cancel_left _ g2
  rw [e]
  rcases Int.lt_trichotomy q 0 with z | z | z
  · have := Int.mul_neg_of_pos_of_neg (show 0 < ((Nat.gcd n.natAbs d.natAbs : Nat) : Int) by omega) z; omega
  · rw [z, Int.mul_zero] at hq; omega
  · exact z

theorem ok__law_ratio (T : Txt K mg) : Ok P w K mg base 2 "_law_ratio" ["n", "d"] (spP K mg sp__law_ratio) :=
  okOf T.d__law_ratio fun f fd F => fnP (k := 1) sp__law_ratio t__law_ratio F sc__law_ratio (fun x ds hp => len__law_ratio x ds hp) (fun cdv A outer s H E hr z => by
    have hu := hr.units; have hnd := sc__law_ratio.nd
    unfold t__law_ratio r__law_ratio_0 r__law_ratio_1 r__law_ratio_2
    exact (dss_cons (ds_set 2 hnd rfl (by walk_at "locs") (dn_callP ((ok__law_gcd (P := P) (w := w) (base := base) T).mono (by decide)) hr (takes_of rfl rfl rfl rfl) rfl (by decide) (da_cons (de_var 0 rfl (by walk_at "vis") (by decide) (by decide)) (da_cons (de_var 1 rfl (by walk_at "vis") (by decide) (by decide)) da_nil rfl) rfl) rfl rfl) rfl (by walk_at "fnn"))
    (dss_cons (ds_if (dt_cmp op_lt od_lt (de_var 1 rfl (by walk_at "vis") (by decide) (by decide)) de_int (nomark _)) (dss_one (ds_set 2 hnd rfl (by walk_at "locs") (de_neg (de_var 2 rfl (by walk_at "vis") (by decide) (by decide))) rfl (by walk_at "fnn"))) dss_nil)
    (dss_one (ds_ret (de_tup (da_cons (de_fdiv (de_var 0 rfl (by walk_at "vis") (by decide) (by decide)) (de_var 2 rfl (by walk_at "vis") (by decide) (by decide))) (da_cons (de_fdiv (de_var 1 rfl (by walk_at "vis") (by decide) (by decide)) (de_var 2 rfl (by walk_at "vis") (by decide) (by decide))) da_nil rfl) rfl) (by decide))))))) w__law_ratio
/-! ### _law_moving -/
def sp__law_moving : Spc FSV where
  pre := preF
  res := fun x o => o = .val (tI (mov x))
  exc := fun _ _ => False

def r__law_moving_3 : dS :=
  (sRet (dCB tupF (dCons (dOp addF (dLc (srcSeq (dSl (dVar 0) dNoPart (dPart (dUn negF (dC (.int 1)))))) (.one 6) [6] tYesD (dOp mulF (dOp mulF (dVar 6) (dVar 3)) (dVar 4))) (dLst (dCons (dVar 5) (dCons (dOp subF (dOp mulF (dOp mulF (dOp ixF (dVar 0) (dUn negF (dC (.int 1)))) (dVar 3)) (dVar 4)) (dOp mulF (dVar 4) (dCallP sp__law_weight (dCons (dSl (dVar 0) dNoPart (dPart (dUn negF (dC (.int 1))))) (dCons (dVar 1) dNil))))) dNil)))) dNil)))
def r__law_moving_2 : dS :=
  (sSeq (sAsg (dOp mulF (dUn negF (dVar 3)) (dCallP sp__law_weight (dCons (dSl (dVar 0) dNoPart (dPart (dUn negF (dC (.int 1))))) (dCons (dVar 2) dNil)))) (gN 5)) (r__law_moving_3))
def r__law_moving_1 : dS :=
  (sSeq (sAsg (dOp ixF (dVar 2) (dUn negF (dC (.int 1)))) (gN 4)) (r__law_moving_2))
def r__law_moving_0 : dS :=
  (sSeq (sAsg (dOp ixF (dVar 1) (dUn negF (dC (.int 1)))) (gN 3)) (r__law_moving_1))
def t__law_moving : dS :=
  (r__law_moving_0)
theorem len__law_moving : ∀ x ds, sp__law_moving.pre x ds → ds.length = 3 := fun x ds h => by rw [h.1]; rfl
theorem w__law_moving : ∀ x ds, sp__law_moving.pre x ds → t__law_moving (endP sp__law_moving x) (startE nm__law_moving.length ds) [] := by
  rintro ⟨f, c, s, w, v, u⟩ ds ⟨rfl, hs, hv, hn, hf, hS, hV⟩
  simp only at hs hv hn hf hS hV
  have f0 := hf.app
  have s0 := hS.app
  have v0 := hV.app
  simp only [t__law_moving , r__law_moving_0, r__law_moving_1, r__law_moving_2, nm__law_moving, at_lasti, cut_last, dOp, dUn, dVar, dC, slot, startE, List.map, List.length, List.replicate, List.append, List.cons_append, List.nil_append, List.set, dAnd, dOr, dNot, dtB, dtAnd, dtOr, dtNot, dIf, dtTru, truF, dNil, dCons, dTup, dLst, dCB, sNil, sSeq, sRet, sRetN, sExpr, sIf, sAsg, gN, gT, gsNil, gsCons, gS, sPar, sAug, sWhile, sFor, sBrk, sCont, sNo, sRaise, dCallP_eq, dCallD_eq, List.length_map, List.getElem?_cons_succ, List.getElem?_concat_length, set_last, get_mid, get_mid2, eqF, neF, ltF, leF, gtF, geF, isF, notF, addF, subF, mulF, fdivF, modF, powF, negF, ixF, lenF, tupF, lstF, absF, intF, gcdF, maxF, minF, Rs.to, dIsi, dIsi2, dIsE, tyN, D.isNon, dM1, dM0, srcSeq, srcRng1, srcRng2, dLc, tYesD, iaddF, isBF, notBF, srcZip, repF, sumF, allF, anyF, intsOf_map, blsOf_map, dSl, dPart, dNoPart, sliceF, at0, at1, at2, at3, at4, ix0, ix1, ix2, ix3, Dn.g0, Dn.g1, Dn.g2, Dn.g3, Dn.g4, ex_some, decide_true, decide_false, Bool.not_true, Bool.not_false, ite_true, ite_false, if_true, if_false, List.reverse_cons, List.reverse_nil, outPost, wipeE, CTg.set, setAll, appF, extF, revF, popF, Nat.zero_add, Nat.reduceAdd, is_NoneType_int, is_NoneType_bool, is_NoneType_str, is_NoneType_tuple, is_NoneType_list, is_bool_int, is_bool_bool, is_bool_str, is_bool_tuple, is_bool_list, is_int_int, is_int_bool, is_int_str, is_int_tuple, is_int_list, is_str_int, is_str_bool, is_str_str, is_str_tuple, is_str_list, is_tuple_int, is_tuple_bool, is_tuple_str, is_tuple_tuple, is_tuple_list, is_list_int, is_list_bool, is_list_str, is_list_tuple, is_list_list]
  refine useP_weight (.inr rfl) (by simp; omega) (f0.1.mono (by decide)) (hV.mono (by decide)) ?_
  rw [dotN_app _ (by omega)]
  simp only [dOp, dUn, dVar, dC, slot, startE, List.map, List.length, List.replicate, List.append, List.cons_append, List.nil_append, List.set, dAnd, dOr, dNot, dtB, dtAnd, dtOr, dtNot, dIf, dtTru, truF, dNil, dCons, dTup, dLst, dCB, sNil, sSeq, sRet, sRetN, sExpr, sIf, sAsg, gN, gT, gsNil, gsCons, gS, sPar, sAug, sWhile, sFor, sBrk, sCont, sNo, sRaise, dCallP_eq, dCallD_eq, List.length_map, List.getElem?_cons_succ, List.getElem?_concat_length, set_last, get_mid, get_mid2, eqF, neF, ltF, leF, gtF, geF, isF, notF, addF, subF, mulF, fdivF, modF, powF, negF, ixF, lenF, tupF, lstF, absF, intF, gcdF, maxF, minF, Rs.to, dIsi, dIsi2, dIsE, tyN, D.isNon, dM1, dM0, srcSeq, srcRng1, srcRng2, dLc, tYesD, iaddF, isBF, notBF, srcZip, repF, sumF, allF, anyF, intsOf_map, blsOf_map, dSl, dPart, dNoPart, sliceF, at0, at1, at2, at3, at4, ix0, ix1, ix2, ix3, Dn.g0, Dn.g1, Dn.g2, Dn.g3, Dn.g4, ex_some, decide_true, decide_false, Bool.not_true, Bool.not_false, ite_true, ite_false, if_true, if_false, List.reverse_cons, List.reverse_nil, outPost, wipeE, CTg.set, setAll, appF, extF, revF, popF, Nat.zero_add, Nat.reduceAdd, is_NoneType_int, is_NoneType_bool, is_NoneType_str, is_NoneType_tuple, is_NoneType_list, is_bool_int, is_bool_bool, is_bool_str, is_bool_tuple, is_bool_list, is_int_int, is_int_bool, is_int_str, is_int_tuple, is_int_list, is_str_int, is_str_bool, is_str_str, is_str_tuple, is_str_list, is_tuple_int, is_tuple_bool, is_tuple_str, is_tuple_tuple, is_tuple_list, is_list_int, is_list_bool, is_list_str, is_list_tuple, is_list_list]
  refine ⟨bt_mul (bt_mono (bits_neg s0.2) (by decide : 50 ≤ 200)) (bt_mono (dotN_bt f0.1 v0.1 _) (by omega)) (by decide), ?_⟩
  simp only [r__law_moving_3, at_lasti, cut_last, dOp, dUn, dVar, dC, slot, startE, List.map, List.length, List.replicate, List.append, List.cons_append, List.nil_append, List.set, dAnd, dOr, dNot, dtB, dtAnd, dtOr, dtNot, dIf, dtTru, truF, dNil, dCons, dTup, dLst, dCB, sNil, sSeq, sRet, sRetN, sExpr, sIf, sAsg, gN, gT, gsNil, gsCons, gS, sPar, sAug, sWhile, sFor, sBrk, sCont, sNo, sRaise, dCallP_eq, dCallD_eq, List.length_map, List.getElem?_cons_succ, List.getElem?_concat_length, set_last, get_mid, get_mid2, eqF, neF, ltF, leF, gtF, geF, isF, notF, addF, subF, mulF, fdivF, modF, powF, negF, ixF, lenF, tupF, lstF, absF, intF, gcdF, maxF, minF, Rs.to, dIsi, dIsi2, dIsE, tyN, D.isNon, dM1, dM0, srcSeq, srcRng1, srcRng2, dLc, tYesD, iaddF, isBF, notBF, srcZip, repF, sumF, allF, anyF, intsOf_map, blsOf_map, dSl, dPart, dNoPart, sliceF, at0, at1, at2, at3, at4, ix0, ix1, ix2, ix3, Dn.g0, Dn.g1, Dn.g2, Dn.g3, Dn.g4, ex_some, decide_true, decide_false, Bool.not_true, Bool.not_false, ite_true, ite_false, if_true, if_false, List.reverse_cons, List.reverse_nil, outPost, wipeE, CTg.set, setAll, appF, extF, revF, popF, Nat.zero_add, Nat.reduceAdd, is_NoneType_int, is_NoneType_bool, is_NoneType_str, is_NoneType_tuple, is_NoneType_list, is_bool_int, is_bool_bool, is_bool_str, is_bool_tuple, is_bool_list, is_int_int, is_int_bool, is_int_str, is_int_tuple, is_int_list, is_str_int, is_str_bool, is_str_str, is_str_tuple, is_str_list, is_tuple_int, is_tuple_bool, is_tuple_str, is_tuple_tuple, is_tuple_list, is_list_int, is_list_bool, is_list_str, is_list_tuple, is_list_list]
  refine ⟨fun i acc h => acc = ((f.take i).map fun a => a * w * u).map .int ∧ h = [], ⟨rfl, rfl⟩, fun _ _ _ _ _ => trivial, ?_, ?_⟩
  · rintro i x acc h hx ⟨rfl, rfl⟩
    obtain ⟨hi, rfl⟩ := mapi_at hx
    simp only [dOp, dUn, dVar, dC, slot, startE, List.map, List.length, List.replicate, List.append, List.cons_append, List.nil_append, List.set, dAnd, dOr, dNot, dtB, dtAnd, dtOr, dtNot, dIf, dtTru, truF, dNil, dCons, dTup, dLst, dCB, sNil, sSeq, sRet, sRetN, sExpr, sIf, sAsg, gN, gT, gsNil, gsCons, gS, sPar, sAug, sWhile, sFor, sBrk, sCont, sNo, sRaise, dCallP_eq, dCallD_eq, List.length_map, List.getElem?_cons_succ, List.getElem?_concat_length, set_last, get_mid, get_mid2, eqF, neF, ltF, leF, gtF, geF, isF, notF, addF, subF, mulF, fdivF, modF, powF, negF, ixF, lenF, tupF, lstF, absF, intF, gcdF, maxF, minF, Rs.to, dIsi, dIsi2, dIsE, tyN, D.isNon, dM1, dM0, srcSeq, srcRng1, srcRng2, dLc, tYesD, iaddF, isBF, notBF, srcZip, repF, sumF, allF, anyF, intsOf_map, blsOf_map, dSl, dPart, dNoPart, sliceF, at0, at1, at2, at3, at4, ix0, ix1, ix2, ix3, Dn.g0, Dn.g1, Dn.g2, Dn.g3, Dn.g4, ex_some, decide_true, decide_false, Bool.not_true, Bool.not_false, ite_true, ite_false, if_true, if_false, List.reverse_cons, List.reverse_nil, outPost, wipeE, CTg.set, setAll, appF, extF, revF, popF, Nat.zero_add, Nat.reduceAdd, is_NoneType_int, is_NoneType_bool, is_NoneType_str, is_NoneType_tuple, is_NoneType_list, is_bool_int, is_bool_bool, is_bool_str, is_bool_tuple, is_bool_list, is_int_int, is_int_bool, is_int_str, is_int_tuple, is_int_list, is_str_int, is_str_bool, is_str_str, is_str_tuple, is_str_list, is_tuple_int, is_tuple_bool, is_tuple_str, is_tuple_tuple, is_tuple_list, is_list_int, is_list_bool, is_list_str, is_list_tuple, is_list_list]
    refine ⟨bt_mul (f0.1.getD i) s0.2 (by decide), bt_mul (bt_mono (bits_mul (f0.1.getD i) s0.2) (by decide : _ ≤ 100)) (bt_mono v0.2 (by decide)) (by decide), sl2 (by simp; omega), ?_, trivial⟩
    rw [take_at hi]; simp
  · rintro acc h ⟨rfl, rfl⟩
    simp only [List.take_length, at_lasti, cut_last, dOp, dUn, dVar, dC, slot, startE, List.map, List.length, List.replicate, List.append, List.cons_append, List.nil_append, List.set, dAnd, dOr, dNot, dtB, dtAnd, dtOr, dtNot, dIf, dtTru, truF, dNil, dCons, dTup, dLst, dCB, sNil, sSeq, sRet, sRetN, sExpr, sIf, sAsg, gN, gT, gsNil, gsCons, gS, sPar, sAug, sWhile, sFor, sBrk, sCont, sNo, sRaise, dCallP_eq, dCallD_eq, List.length_map, List.getElem?_cons_succ, List.getElem?_concat_length, set_last, get_mid, get_mid2, eqF, neF, ltF, leF, gtF, geF, isF, notF, addF, subF, mulF, fdivF, modF, powF, negF, ixF, lenF, tupF, lstF, absF, intF, gcdF, maxF, minF, Rs.to, dIsi, dIsi2, dIsE, tyN, D.isNon, dM1, dM0, srcSeq, srcRng1, srcRng2, dLc, tYesD, iaddF, isBF, notBF, srcZip, repF, sumF, allF, anyF, intsOf_map, blsOf_map, dSl, dPart, dNoPart, sliceF, at0, at1, at2, at3, at4, ix0, ix1, ix2, ix3, Dn.g0, Dn.g1, Dn.g2, Dn.g3, Dn.g4, ex_some, decide_true, decide_false, Bool.not_true, Bool.not_false, ite_true, ite_false, if_true, if_false, List.reverse_cons, List.reverse_nil, outPost, wipeE, CTg.set, setAll, appF, extF, revF, popF, Nat.zero_add, Nat.reduceAdd, is_NoneType_int, is_NoneType_bool, is_NoneType_str, is_NoneType_tuple, is_NoneType_list, is_bool_int, is_bool_bool, is_bool_str, is_bool_tuple, is_bool_list, is_int_int, is_int_bool, is_int_str, is_int_tuple, is_int_list, is_str_int, is_str_bool, is_str_str, is_str_tuple, is_str_list, is_tuple_int, is_tuple_bool, is_tuple_str, is_tuple_tuple, is_tuple_list, is_list_int, is_list_bool, is_list_str, is_list_tuple, is_list_list]
    refine ⟨bt_mul f0.2 s0.2 (by decide), bt_mul (bt_mono (bits_mul f0.2 s0.2) (by decide : _ ≤ 100)) (bt_mono v0.2 (by decide)) (by decide), ?_⟩
    refine useP_weight (.inr rfl) (by simp; omega) (f0.1.mono (by decide)) (hS.mono (by decide)) ?_
    rw [dotN_app _ (by omega)]
    simp only [dOp, dUn, dVar, dC, slot, startE, List.map, List.length, List.replicate, List.append, List.cons_append, List.nil_append, List.set, dAnd, dOr, dNot, dtB, dtAnd, dtOr, dtNot, dIf, dtTru, truF, dNil, dCons, dTup, dLst, dCB, sNil, sSeq, sRet, sRetN, sExpr, sIf, sAsg, gN, gT, gsNil, gsCons, gS, sPar, sAug, sWhile, sFor, sBrk, sCont, sNo, sRaise, dCallP_eq, dCallD_eq, List.length_map, List.getElem?_cons_succ, List.getElem?_concat_length, set_last, get_mid, get_mid2, eqF, neF, ltF, leF, gtF, geF, isF, notF, addF, subF, mulF, fdivF, modF, powF, negF, ixF, lenF, tupF, lstF, absF, intF, gcdF, maxF, minF, Rs.to, dIsi, dIsi2, dIsE, tyN, D.isNon, dM1, dM0, srcSeq, srcRng1, srcRng2, dLc, tYesD, iaddF, isBF, notBF, srcZip, repF, sumF, allF, anyF, intsOf_map, blsOf_map, dSl, dPart, dNoPart, sliceF, at0, at1, at2, at3, at4, ix0, ix1, ix2, ix3, Dn.g0, Dn.g1, Dn.g2, Dn.g3, Dn.g4, ex_some, decide_true, decide_false, Bool.not_true, Bool.not_false, ite_true, ite_false, if_true, if_false, List.reverse_cons, List.reverse_nil, outPost, wipeE, CTg.set, setAll, appF, extF, revF, popF, Nat.zero_add, Nat.reduceAdd, is_NoneType_int, is_NoneType_bool, is_NoneType_str, is_NoneType_tuple, is_NoneType_list, is_bool_int, is_bool_bool, is_bool_str, is_bool_tuple, is_bool_list, is_int_int, is_int_bool, is_int_str, is_int_tuple, is_int_list, is_str_int, is_str_bool, is_str_str, is_str_tuple, is_str_list, is_tuple_int, is_tuple_bool, is_tuple_str, is_tuple_tuple, is_tuple_list, is_list_int, is_list_bool, is_list_str, is_list_tuple, is_list_list]
    have e : List.map D.int (List.map (fun a => a * w * u) f) ++ [D.int (-w * dotN f v f.length), D.int (c * w * u - u * dotN f s f.length)] = (mov ⟨f, c, s, w, v, u⟩).map .int := by simp [mov, movR]
    rw [e]
    exact ⟨bt_mul (bt_mono v0.2 (by decide : 50 ≤ 200)) (bt_mono (dotN_bt f0.1 s0.1 _) (by omega)) (by decide), Nat.le_of_lt (sl2 (by omega)), rt_val (ints_pure _) rfl⟩

theorem ok__law_moving (T : Txt K mg) : Ok P w K mg base 2 "_law_moving" ["form", "start", "vector"] (spP K mg sp__law_moving) :=
  okOf T.d__law_moving fun f fd F => fnP (k := 1) sp__law_moving t__law_moving F sc__law_moving (fun x ds hp => len__law_moving x ds hp) (fun cdv A outer s H E hr z => by
    have hu := hr.units; have hnd := sc__law_moving.nd
    unfold t__law_moving r__law_moving_0 r__law_moving_1 r__law_moving_2 r__law_moving_3
    exact (dss_cons (ds_set 3 hnd rfl (by walk_at "locs") (de_ix (de_var 1 rfl (by walk_at "vis") (by decide) (by decide)) (de_neg de_int) (fun _ _ => rfl)) rfl (by walk_at "fnn"))
    (dss_cons (ds_set 4 hnd rfl (by walk_at "locs") (de_ix (de_var 2 rfl (by walk_at "vis") (by decide) (by decide)) (de_neg de_int) (fun _ _ => rfl)) rfl (by walk_at "fnn"))
    (dss_cons (ds_set 5 hnd rfl (by walk_at "locs") (de_mul (de_neg (de_var 3 rfl (by walk_at "vis") (by decide) (by decide))) (dn_callP ((ok__law_weight (P := P) (w := w) (base := base) T).mono (by decide)) hr (takes_of rfl rfl rfl rfl) rfl (by decide) (da_cons (de_slice (de_var 0 rfl (by walk_at "vis") (by decide) (by decide)) do_none (do_some (de_neg de_int))) (da_cons (de_var 2 rfl (by walk_at "vis") (by decide) (by decide)) da_nil rfl) rfl) rfl rfl)) rfl (by walk_at "fnn"))
    (dss_one (ds_ret (de_callTy (f := tupF) call_tuple_of cd_tup rfl T.b_tuple (by decide +kernel) (da_cons (de_add (de_lc (own := [("a", 6)]) (c := (.one 6)) (tt := tYesD) (te := (dOp mulF (dOp mulF (dVar 6) (dVar 3)) (dVar 4))) rfl hnd (di_seq (de_slice (de_var 0 rfl (by walk_at "vis") (by decide) (by decide)) do_none (do_some (de_neg de_int)))) (blkOk_by (N := nm__law_moving) (sc := defScope s__law_moving) (by decide +kernel)) (by decide) (fun _ _ _ _ _ => pg_name (i := 6) hnd rfl (by walk_at "locs") (by walk_at "fnn")) (fun _ _ _ _ _ => dts_nil) (fun _ _ _ _ _ => (de_mul (de_mul (de_var 6 rfl (by walk_at "vis") (by decide) (by decide)) (de_var 3 rfl (by walk_at "vis") (by decide) (by decide))) (de_var 4 rfl (by walk_at "vis") (by decide) (by decide)))) (fun _ => rfl)) (de_lst (da_cons (de_var 5 rfl (by walk_at "vis") (by decide) (by decide)) (da_cons (de_minus (de_mul (de_mul (de_ix (de_var 0 rfl (by walk_at "vis") (by decide) (by decide)) (de_neg de_int) (fun _ _ => rfl)) (de_var 3 rfl (by walk_at "vis") (by decide) (by decide))) (de_var 4 rfl (by walk_at "vis") (by decide) (by decide))) (de_mul (de_var 4 rfl (by walk_at "vis") (by decide) (by decide)) (dn_callP ((ok__law_weight (P := P) (w := w) (base := base) T).mono (by decide)) hr (takes_of rfl rfl rfl rfl) rfl (by decide) (da_cons (de_slice (de_var 0 rfl (by walk_at "vis") (by decide) (by decide)) do_none (do_some (de_neg de_int))) (da_cons (de_var 1 rfl (by walk_at "vis") (by decide) (by decide)) da_nil rfl) rfl) rfl rfl))) da_nil rfl) rfl) (by decide))) da_nil rfl) (by decide) (by decide) rfl rfl))))))) w__law_moving
/-! ### _law_vector -/
def preV (x : Int) (ds : List D) (s : DrS) : Prop := ds = [.int x] ∧ 1 ≤ x ∧ x ≤ 5 ∧ 0 ≤ s.a
def resV (x : Int) (o : Out) (s' : DrS) : Prop := ∃ (v : List Int) (u : Int), o = .val (tI (v ++ [u])) ∧ (v.length : Int) = x ∧ 0 < u ∧ Lb 50 (v ++ [u]) ∧ 0 ≤ s'.a
def sp__law_vector : SpcD Int where
  pre := preV
  res := resV

def r__law_vector_1 : dS :=
  (sRet (dCallP sp__law_low (dCons (dCB tupF (dCons (dOp addF (dVar 2) (dLst (dCons (dOp ixF (dLst (dCons (dC (.int 1)) (dCons (dC (.int 1)) (dCons (dC (.int 2)) (dCons (dC (.int 7)) dNil))))) (dCallD sp__law_draw (dCons (dVar 0) (dCons (dC (.int 4)) dNil)))) dNil))) dNil)) dNil)))
def r__law_vector_0 : dS :=
  (sSeq (sAsg (dLc (srcRng1 (dCons (dVar 1) dNil)) (.one 3) [3] tYesD (dCallD sp__law_near (dCons (dVar 0) (dCons (dOp ixF (dLst (dCons (dC (.int 0)) (dCons (dC (.int 1)) (dCons (dC (.int 6)) (dCons (dC (.int 20)) dNil))))) (dCallD sp__law_draw (dCons (dVar 0) (dCons (dC (.int 4)) dNil)))) dNil)))) (gN 2)) (r__law_vector_1))
def t__law_vector : dS :=
  (r__law_vector_0)
theorem len__law_vector : ∀ x ds s, sp__law_vector.pre x ds s → ds.length + 1 = 2 := fun x ds s h => by rw [h.1]; rfl
theorem lb50 {L : List Int} (hl : L.length ≤ 100) (h : ∀ x ∈ L, x.natAbs ≤ 1000) : Lb 50 L := ⟨hl, fun x hx => bt20 (by have := h x hx; omega)⟩
theorem low_use {L : List Int} {r : Int} {h : Hh} {Q : D → Hh → Prop} {E : XK'} (hL : Lb 4000 (L ++ [r])) (hr : 0 < r) (w : ∀ (l : List Int) (q g : Int), 0 < g → L = l.map (fun y => y * g) → r = q * g → 0 < q → (∀ m, Lb m (L ++ [r]) → Lb m (l ++ [q])) → Q (tI (l ++ [q])) h) : useP sp__law_low [tI (L ++ [r])] h Q E :=
  useP_mk (L, r) _ (Views.pures (by simp only [pureDs, pureD, ints_pure]; rfl)) ⟨rfl, hL, hr⟩ (fun o ⟨l, q, g, e, a, b, c, d, f⟩ _ => by subst e; exact w l q g a b c d f) (fun _ q => q)
theorem app_int (L : List Int) (k : Int) : List.map D.int L ++ [D.int k] = (L ++ [k]).map .int := by simp
theorem w__law_vector : ∀ x ds s, sp__law_vector.pre x ds s → t__law_vector (endD sp__law_vector x s.c) (startE nm__law_vector.length (.ref 0 :: ds)) [.lst (drD 1 s), .lst (s.c.map .int)] := by
  rintro x ds s ⟨rfl, hx1, hx2, h3⟩
  simp only [t__law_vector , r__law_vector_0, nm__law_vector, dOp, dUn, dVar, dC, slot, startE, List.map, List.length, List.replicate, List.append, List.cons_append, List.nil_append, List.set, dAnd, dOr, dNot, dtB, dtAnd, dtOr, dtNot, dIf, dtTru, truF, dNil, dCons, dTup, dLst, dCB, sNil, sSeq, sRet, sRetN, sExpr, sIf, sAsg, gN, gT, gsNil, gsCons, gS, sPar, sAug, sWhile, sFor, sBrk, sCont, sNo, sRaise, dCallP_eq, dCallD_eq, List.length_map, List.getElem?_cons_succ, List.getElem?_concat_length, set_last, get_mid, get_mid2, eqF, neF, ltF, leF, gtF, geF, isF, notF, addF, subF, mulF, fdivF, modF, powF, negF, ixF, lenF, tupF, lstF, absF, intF, gcdF, maxF, minF, Rs.to, dIsi, dIsi2, dIsE, tyN, D.isNon, dM1, dM0, srcSeq, srcRng1, srcRng2, dLc, tYesD, iaddF, isBF, notBF, srcZip, repF, sumF, allF, anyF, intsOf_map, blsOf_map, dSl, dPart, dNoPart, sliceF, at0, at1, at2, at3, at4, ix0, ix1, ix2, ix3, Dn.g0, Dn.g1, Dn.g2, Dn.g3, Dn.g4, ex_some, decide_true, decide_false, Bool.not_true, Bool.not_false, ite_true, ite_false, if_true, if_false, List.reverse_cons, List.reverse_nil, outPost, wipeE, CTg.set, setAll, appF, extF, revF, popF, Nat.zero_add, Nat.reduceAdd, is_NoneType_int, is_NoneType_bool, is_NoneType_str, is_NoneType_tuple, is_NoneType_list, is_bool_int, is_bool_bool, is_bool_str, is_bool_tuple, is_bool_list, is_int_int, is_int_bool, is_int_str, is_int_tuple, is_int_list, is_str_int, is_str_bool, is_str_str, is_str_tuple, is_str_list, is_tuple_int, is_tuple_bool, is_tuple_str, is_tuple_tuple, is_tuple_list, is_list_int, is_list_bool, is_list_str, is_list_tuple, is_list_list]
  refine ⟨⟨by omega, by omega⟩, fun i acc h => ∃ (L : List Int) (s' : DrS) (j : Hh), acc = L.map .int ∧ h = .lst (drD 1 s') :: .lst (s.c.map .int) :: j ∧ s'.c = s.c ∧ 0 ≤ s'.a ∧ L.length = i ∧ ∀ y ∈ L, y.natAbs ≤ 1000, ⟨[], s, [], rfl, rfl, rfl, h3, rfl, fun _ h => by cases h⟩, fun _ _ _ _ _ => trivial, ?_, ?_⟩
  · rintro i y acc h hy ⟨L, s', j, rfl, rfl, hc', ha', hL, hb⟩
    obtain ⟨hi, rfl⟩ := ints_at hy
    simp only [dOp, dUn, dVar, dC, slot, startE, List.map, List.length, List.replicate, List.append, List.cons_append, List.nil_append, List.set, dAnd, dOr, dNot, dtB, dtAnd, dtOr, dtNot, dIf, dtTru, truF, dNil, dCons, dTup, dLst, dCB, sNil, sSeq, sRet, sRetN, sExpr, sIf, sAsg, gN, gT, gsNil, gsCons, gS, sPar, sAug, sWhile, sFor, sBrk, sCont, sNo, sRaise, dCallP_eq, dCallD_eq, List.length_map, List.getElem?_cons_succ, List.getElem?_concat_length, set_last, get_mid, get_mid2, eqF, neF, ltF, leF, gtF, geF, isF, notF, addF, subF, mulF, fdivF, modF, powF, negF, ixF, lenF, tupF, lstF, absF, intF, gcdF, maxF, minF, Rs.to, dIsi, dIsi2, dIsE, tyN, D.isNon, dM1, dM0, srcSeq, srcRng1, srcRng2, dLc, tYesD, iaddF, isBF, notBF, srcZip, repF, sumF, allF, anyF, intsOf_map, blsOf_map, dSl, dPart, dNoPart, sliceF, at0, at1, at2, at3, at4, ix0, ix1, ix2, ix3, Dn.g0, Dn.g1, Dn.g2, Dn.g3, Dn.g4, ex_some, decide_true, decide_false, Bool.not_true, Bool.not_false, ite_true, ite_false, if_true, if_false, List.reverse_cons, List.reverse_nil, outPost, wipeE, CTg.set, setAll, appF, extF, revF, popF, Nat.zero_add, Nat.reduceAdd, is_NoneType_int, is_NoneType_bool, is_NoneType_str, is_NoneType_tuple, is_NoneType_list, is_bool_int, is_bool_bool, is_bool_str, is_bool_tuple, is_bool_list, is_int_int, is_int_bool, is_int_str, is_int_tuple, is_int_list, is_str_int, is_str_bool, is_str_str, is_str_tuple, is_str_list, is_tuple_int, is_tuple_bool, is_tuple_str, is_tuple_tuple, is_tuple_list, is_list_int, is_list_bool, is_list_str, is_list_tuple, is_list_list]
    refine useD_01 4 hc' rfl ⟨rfl, by decide, bt_lit (by decide) (by decide), ha'⟩ ?_
    rintro o s2 ⟨v, rfl, v0, v1, a2⟩ hc2
    refine ⟨_, rfl, ?_⟩
    obtain ⟨d, hd, e⟩ := at_mem (l := [D.int 0, D.int 1, D.int 6, D.int 20]) v0 v1
    have hm : ∃ m : Int, d = .int m ∧ 0 ≤ m ∧ m ≤ 20 := by
      simp only [List.mem_cons, List.not_mem_nil, or_false] at hd
      rcases hd with rfl | rfl | rfl | rfl <;> exact ⟨_, rfl, by decide, by decide⟩
    obtain ⟨m, rfl, m1, m2⟩ := hm
    simp only [e, dOp, dUn, dVar, dC, slot, startE, List.map, List.length, List.replicate, List.append, List.cons_append, List.nil_append, List.set, dAnd, dOr, dNot, dtB, dtAnd, dtOr, dtNot, dIf, dtTru, truF, dNil, dCons, dTup, dLst, dCB, sNil, sSeq, sRet, sRetN, sExpr, sIf, sAsg, gN, gT, gsNil, gsCons, gS, sPar, sAug, sWhile, sFor, sBrk, sCont, sNo, sRaise, dCallP_eq, dCallD_eq, List.length_map, List.getElem?_cons_succ, List.getElem?_concat_length, set_last, get_mid, get_mid2, eqF, neF, ltF, leF, gtF, geF, isF, notF, addF, subF, mulF, fdivF, modF, powF, negF, ixF, lenF, tupF, lstF, absF, intF, gcdF, maxF, minF, Rs.to, dIsi, dIsi2, dIsE, tyN, D.isNon, dM1, dM0, srcSeq, srcRng1, srcRng2, dLc, tYesD, iaddF, isBF, notBF, srcZip, repF, sumF, allF, anyF, intsOf_map, blsOf_map, dSl, dPart, dNoPart, sliceF, at0, at1, at2, at3, at4, ix0, ix1, ix2, ix3, Dn.g0, Dn.g1, Dn.g2, Dn.g3, Dn.g4, ex_some, decide_true, decide_false, Bool.not_true, Bool.not_false, ite_true, ite_false, if_true, if_false, List.reverse_cons, List.reverse_nil, outPost, wipeE, CTg.set, setAll, appF, extF, revF, popF, Nat.zero_add, Nat.reduceAdd, is_NoneType_int, is_NoneType_bool, is_NoneType_str, is_NoneType_tuple, is_NoneType_list, is_bool_int, is_bool_bool, is_bool_str, is_bool_tuple, is_bool_list, is_int_int, is_int_bool, is_int_str, is_int_tuple, is_int_list, is_str_int, is_str_bool, is_str_str, is_str_tuple, is_str_list, is_tuple_int, is_tuple_bool, is_tuple_str, is_tuple_tuple, is_tuple_list, is_list_int, is_list_bool, is_list_str, is_list_tuple, is_list_list]
    refine useD_01 m hc2 rfl ⟨rfl, m1, by omega, a2⟩ ?_
    rintro o s4 ⟨q, rfl, w0, w1, a4⟩ hc4
    refine ⟨_, rfl, sl2 (by first | omega | (simp; omega)), L ++ [q], s4, _, app_int _ _, rfl, hc4, a4, by simp [hL], fun y hy => ?_⟩
    rcases List.mem_append.mp hy with z | z
    · exact hb y z
    · rw [List.mem_singleton] at z; rw [z]; omega
  · rintro acc h ⟨L, s', j, rfl, rfl, hc', ha', hL, hb⟩
    rw [intsUp_len] at hL
    simp only [r__law_vector_1, dOp, dUn, dVar, dC, slot, startE, List.map, List.length, List.replicate, List.append, List.cons_append, List.nil_append, List.set, dAnd, dOr, dNot, dtB, dtAnd, dtOr, dtNot, dIf, dtTru, truF, dNil, dCons, dTup, dLst, dCB, sNil, sSeq, sRet, sRetN, sExpr, sIf, sAsg, gN, gT, gsNil, gsCons, gS, sPar, sAug, sWhile, sFor, sBrk, sCont, sNo, sRaise, dCallP_eq, dCallD_eq, List.length_map, List.getElem?_cons_succ, List.getElem?_concat_length, set_last, get_mid, get_mid2, eqF, neF, ltF, leF, gtF, geF, isF, notF, addF, subF, mulF, fdivF, modF, powF, negF, ixF, lenF, tupF, lstF, absF, intF, gcdF, maxF, minF, Rs.to, dIsi, dIsi2, dIsE, tyN, D.isNon, dM1, dM0, srcSeq, srcRng1, srcRng2, dLc, tYesD, iaddF, isBF, notBF, srcZip, repF, sumF, allF, anyF, intsOf_map, blsOf_map, dSl, dPart, dNoPart, sliceF, at0, at1, at2, at3, at4, ix0, ix1, ix2, ix3, Dn.g0, Dn.g1, Dn.g2, Dn.g3, Dn.g4, ex_some, decide_true, decide_false, Bool.not_true, Bool.not_false, ite_true, ite_false, if_true, if_false, List.reverse_cons, List.reverse_nil, outPost, wipeE, CTg.set, setAll, appF, extF, revF, popF, Nat.zero_add, Nat.reduceAdd, is_NoneType_int, is_NoneType_bool, is_NoneType_str, is_NoneType_tuple, is_NoneType_list, is_bool_int, is_bool_bool, is_bool_str, is_bool_tuple, is_bool_list, is_int_int, is_int_bool, is_int_str, is_int_tuple, is_int_list, is_str_int, is_str_bool, is_str_str, is_str_tuple, is_str_list, is_tuple_int, is_tuple_bool, is_tuple_str, is_tuple_tuple, is_tuple_list, is_list_int, is_list_bool, is_list_str, is_list_tuple, is_list_list]
    refine useD_01 4 hc' rfl ⟨rfl, by decide, bt_lit (by decide) (by decide), ha'⟩ ?_
    rintro o s2 ⟨v, rfl, v0, v1, a2⟩ hc2
    refine ⟨_, rfl, ?_⟩
    obtain ⟨d, hd, e⟩ := at_mem (l := [D.int 1, D.int 1, D.int 2, D.int 7]) v0 v1
    have hm : ∃ m : Int, d = .int m ∧ 0 < m ∧ m ≤ 20 := by
      simp only [List.mem_cons, List.not_mem_nil, or_false] at hd
      rcases hd with rfl | rfl | rfl | rfl <;> exact ⟨_, rfl, by decide, by decide⟩
    obtain ⟨m, rfl, m1, m2⟩ := hm
    simp only [e, dOp, dUn, dVar, dC, slot, startE, List.map, List.length, List.replicate, List.append, List.cons_append, List.nil_append, List.set, dAnd, dOr, dNot, dtB, dtAnd, dtOr, dtNot, dIf, dtTru, truF, dNil, dCons, dTup, dLst, dCB, sNil, sSeq, sRet, sRetN, sExpr, sIf, sAsg, gN, gT, gsNil, gsCons, gS, sPar, sAug, sWhile, sFor, sBrk, sCont, sNo, sRaise, dCallP_eq, dCallD_eq, List.length_map, List.getElem?_cons_succ, List.getElem?_concat_length, set_last, get_mid, get_mid2, eqF, neF, ltF, leF, gtF, geF, isF, notF, addF, subF, mulF, fdivF, modF, powF, negF, ixF, lenF, tupF, lstF, absF, intF, gcdF, maxF, minF, Rs.to, dIsi, dIsi2, dIsE, tyN, D.isNon, dM1, dM0, srcSeq, srcRng1, srcRng2, dLc, tYesD, iaddF, isBF, notBF, srcZip, repF, sumF, allF, anyF, intsOf_map, blsOf_map, dSl, dPart, dNoPart, sliceF, at0, at1, at2, at3, at4, ix0, ix1, ix2, ix3, Dn.g0, Dn.g1, Dn.g2, Dn.g3, Dn.g4, ex_some, decide_true, decide_false, Bool.not_true, Bool.not_false, ite_true, ite_false, if_true, if_false, List.reverse_cons, List.reverse_nil, outPost, wipeE, CTg.set, setAll, appF, extF, revF, popF, Nat.zero_add, Nat.reduceAdd, is_NoneType_int, is_NoneType_bool, is_NoneType_str, is_NoneType_tuple, is_NoneType_list, is_bool_int, is_bool_bool, is_bool_str, is_bool_tuple, is_bool_list, is_int_int, is_int_bool, is_int_str, is_int_tuple, is_int_list, is_str_int, is_str_bool, is_str_str, is_str_tuple, is_str_list, is_tuple_int, is_tuple_bool, is_tuple_str, is_tuple_tuple, is_tuple_list, is_list_int, is_list_bool, is_list_str, is_list_tuple, is_list_list]
    refine ⟨Nat.le_of_lt (sl2 (by omega)), ?_⟩
    rw [app_int]
    have lb := (lb50 (L := L) (by omega) hb).mk' (by omega) (c := m) (bt20 (by omega))
    refine low_use (lb.mono (by decide)) m1 fun l q g g0 hl hq q0 hb' => ?_
    refine rtD_val s2 hc2 rfl rfl (ints_pure _) ⟨l, q, rfl, ?_, q0, hb' _ lb, a2⟩
    have := congrArg List.length hl
    rw [List.length_map] at this
    omega

theorem ok__law_vector (T : Txt K mg) : Ok P w K mg base 3 "_law_vector" ["draws", "size"] (spD K sp__law_vector) :=
  okOf T.d__law_vector fun f fd F => fnD (k := 2) sp__law_vector t__law_vector F sc__law_vector (fun x ds s hp => len__law_vector x ds s hp) (fun cdv A outer s H E hr z => by
    have hu := hr.units; have hnd := sc__law_vector.nd
    unfold t__law_vector r__law_vector_0 r__law_vector_1
    exact (dss_cons (ds_setLc 2 (own := [("k", 3)]) (c := (.one 3)) (tt := tYesD) (te := (dCallD sp__law_near (dCons (dVar 0) (dCons (dOp ixF (dLst (dCons (dC (.int 0)) (dCons (dC (.int 1)) (dCons (dC (.int 6)) (dCons (dC (.int 20)) dNil))))) (dCallD sp__law_draw (dCons (dVar 0) (dCons (dC (.int 4)) dNil)))) dNil)))) rfl hnd rfl rfl (sw_true rfl rfl rfl (by decide +kernel)) (di_rng1 rfl T.b_range (da_cons (de_var 1 rfl (by walk_at "vis") (by decide) (by decide)) da_nil rfl) rfl) (blkOk_by (N := nm__law_vector) (sc := defScope s__law_vector) (by decide +kernel)) (by decide) (fun _ _ _ _ _ => pg_name (i := 3) hnd rfl (by walk_at "locs") (by walk_at "fnn")) (fun _ _ _ _ _ => dts_nil) (fun _ _ _ _ _ => (dn_callD ((ok__law_near (P := P) (w := w) (base := base) T).mono (by decide)) hr takes0 rfl (by decide) (da_cons (de_var 0 rfl (by walk_at "vis") (by decide) (by decide)) (da_cons (de_ix (de_lst (da_cons de_int (da_cons de_int (da_cons de_int (da_cons de_int da_nil rfl) rfl) rfl) rfl) (by decide)) (dn_callD ((ok__law_draw (P := P) (w := w) (base := base) T).mono (by decide)) hr takes0 rfl (by decide) (da_cons (de_var 0 rfl (by walk_at "vis") (by decide) (by decide)) (da_cons de_int da_nil rfl) rfl) rfl rfl) (fun _ _ => rfl)) da_nil rfl) rfl) rfl rfl)) (fun _ => rfl))
    (dss_one (ds_ret (dn_callP ((ok__law_low (P := P) (w := w) (base := base) T).mono (by decide)) hr (takes_of rfl rfl rfl rfl) rfl (by decide) (da_cons (de_callTy (f := tupF) call_tuple_of cd_tup rfl T.b_tuple (by decide +kernel) (da_cons (de_add (de_var 2 rfl (by walk_at "vis") (by decide) (by decide)) (de_lst (da_cons (de_ix (de_lst (da_cons de_int (da_cons de_int (da_cons de_int (da_cons de_int da_nil rfl) rfl) rfl) rfl) (by decide)) (dn_callD ((ok__law_draw (P := P) (w := w) (base := base) T).mono (by decide)) hr (takes_of rfl rfl rfl rfl) rfl (by decide) (da_cons (de_var 0 rfl (by walk_at "vis") (by decide) (by decide)) (da_cons de_int da_nil rfl) rfl) rfl rfl) (fun _ _ => rfl)) da_nil rfl) (by decide))) da_nil rfl) (by decide) (by decide) rfl rfl) da_nil rfl) rfl rfl))))) w__law_vector
/-! ### _law_tip -/
def sp__law_tip : SpcD Int where
  pre := preV
  res := resV

def r__law_tip_0 : dS :=
  (sRet (dCallP sp__law_low (dCons (dCB tupF (dCons (dOp addF (dLc (srcRng1 (dCons (dVar 1) dNil)) (.one 2) [2] tYesD (dCallD sp__law_near (dCons (dVar 0) (dCons (dC (.int 12)) dNil)))) (dLst (dCons (dOp ixF (dLst (dCons (dC (.int 1)) (dCons (dC (.int 1)) (dCons (dC (.int 2)) (dCons (dC (.int 5)) dNil))))) (dCallD sp__law_draw (dCons (dVar 0) (dCons (dC (.int 4)) dNil)))) dNil))) dNil)) dNil)))
def t__law_tip : dS :=
  (r__law_tip_0)
theorem len__law_tip : ∀ x ds s, sp__law_tip.pre x ds s → ds.length + 1 = 2 := fun x ds s h => by rw [h.1]; rfl
theorem w__law_tip : ∀ x ds s, sp__law_tip.pre x ds s → t__law_tip (endD sp__law_tip x s.c) (startE nm__law_tip.length (.ref 0 :: ds)) [.lst (drD 1 s), .lst (s.c.map .int)] := by
  rintro x ds s ⟨rfl, hx1, hx2, h3⟩
  simp only [t__law_tip , r__law_tip_0, nm__law_tip, dOp, dUn, dVar, dC, slot, startE, List.map, List.length, List.replicate, List.append, List.cons_append, List.nil_append, List.set, dAnd, dOr, dNot, dtB, dtAnd, dtOr, dtNot, dIf, dtTru, truF, dNil, dCons, dTup, dLst, dCB, sNil, sSeq, sRet, sRetN, sExpr, sIf, sAsg, gN, gT, gsNil, gsCons, gS, sPar, sAug, sWhile, sFor, sBrk, sCont, sNo, sRaise, dCallP_eq, dCallD_eq, List.length_map, List.getElem?_cons_succ, List.getElem?_concat_length, set_last, get_mid, get_mid2, eqF, neF, ltF, leF, gtF, geF, isF, notF, addF, subF, mulF, fdivF, modF, powF, negF, ixF, lenF, tupF, lstF, absF, intF, gcdF, maxF, minF, Rs.to, dIsi, dIsi2, dIsE, tyN, D.isNon, dM1, dM0, srcSeq, srcRng1, srcRng2, dLc, tYesD, iaddF, isBF, notBF, srcZip, repF, sumF, allF, anyF, intsOf_map, blsOf_map, dSl, dPart, dNoPart, sliceF, at0, at1, at2, at3, at4, ix0, ix1, ix2, ix3, Dn.g0, Dn.g1, Dn.g2, Dn.g3, Dn.g4, ex_some, decide_true, decide_false, Bool.not_true, Bool.not_false, ite_true, ite_false, if_true, if_false, List.reverse_cons, List.reverse_nil, outPost, wipeE, CTg.set, setAll, appF, extF, revF, popF, Nat.zero_add, Nat.reduceAdd, is_NoneType_int, is_NoneType_bool, is_NoneType_str, is_NoneType_tuple, is_NoneType_list, is_bool_int, is_bool_bool, is_bool_str, is_bool_tuple, is_bool_list, is_int_int, is_int_bool, is_int_str, is_int_tuple, is_int_list, is_str_int, is_str_bool, is_str_str, is_str_tuple, is_str_list, is_tuple_int, is_tuple_bool, is_tuple_str, is_tuple_tuple, is_tuple_list, is_list_int, is_list_bool, is_list_str, is_list_tuple, is_list_list]
  refine ⟨⟨by omega, by omega⟩, fun i acc h => ∃ (L : List Int) (s' : DrS) (j : Hh), acc = L.map .int ∧ h = .lst (drD 1 s') :: .lst (s.c.map .int) :: j ∧ s'.c = s.c ∧ 0 ≤ s'.a ∧ L.length = i ∧ ∀ y ∈ L, y.natAbs ≤ 1000, ⟨[], s, [], rfl, rfl, rfl, h3, rfl, fun _ h => by cases h⟩, fun _ _ _ _ _ => trivial, ?_, ?_⟩
  · rintro i y acc h hy ⟨L, s', j, rfl, rfl, hc', ha', hL, hb⟩
    obtain ⟨hi, rfl⟩ := ints_at hy
    refine useD_01 12 hc' rfl ⟨rfl, by decide, by decide, ha'⟩ ?_
    rintro o s4 ⟨q, rfl, w0, w1, a4⟩ hc4
    refine ⟨_, rfl, sl2 (by first | omega | (simp; omega)), L ++ [q], s4, _, app_int _ _, rfl, hc4, a4, by simp [hL], fun y hy => ?_⟩
    rcases List.mem_append.mp hy with z | z
    · exact hb y z
    · rw [List.mem_singleton] at z; rw [z]; omega
  · rintro acc h ⟨L, s', j, rfl, rfl, hc', ha', hL, hb⟩
    rw [intsUp_len] at hL
    simp only [dOp, dUn, dVar, dC, slot, startE, List.map, List.length, List.replicate, List.append, List.cons_append, List.nil_append, List.set, dAnd, dOr, dNot, dtB, dtAnd, dtOr, dtNot, dIf, dtTru, truF, dNil, dCons, dTup, dLst, dCB, sNil, sSeq, sRet, sRetN, sExpr, sIf, sAsg, gN, gT, gsNil, gsCons, gS, sPar, sAug, sWhile, sFor, sBrk, sCont, sNo, sRaise, dCallP_eq, dCallD_eq, List.length_map, List.getElem?_cons_succ, List.getElem?_concat_length, set_last, get_mid, get_mid2, eqF, neF, ltF, leF, gtF, geF, isF, notF, addF, subF, mulF, fdivF, modF, powF, negF, ixF, lenF, tupF, lstF, absF, intF, gcdF, maxF, minF, Rs.to, dIsi, dIsi2, dIsE, tyN, D.isNon, dM1, dM0, srcSeq, srcRng1, srcRng2, dLc, tYesD, iaddF, isBF, notBF, srcZip, repF, sumF, allF, anyF, intsOf_map, blsOf_map, dSl, dPart, dNoPart, sliceF, at0, at1, at2, at3, at4, ix0, ix1, ix2, ix3, Dn.g0, Dn.g1, Dn.g2, Dn.g3, Dn.g4, ex_some, decide_true, decide_false, Bool.not_true, Bool.not_false, ite_true, ite_false, if_true, if_false, List.reverse_cons, List.reverse_nil, outPost, wipeE, CTg.set, setAll, appF, extF, revF, popF, Nat.zero_add, Nat.reduceAdd, is_NoneType_int, is_NoneType_bool, is_NoneType_str, is_NoneType_tuple, is_NoneType_list, is_bool_int, is_bool_bool, is_bool_str, is_bool_tuple, is_bool_list, is_int_int, is_int_bool, is_int_str, is_int_tuple, is_int_list, is_str_int, is_str_bool, is_str_str, is_str_tuple, is_str_list, is_tuple_int, is_tuple_bool, is_tuple_str, is_tuple_tuple, is_tuple_list, is_list_int, is_list_bool, is_list_str, is_list_tuple, is_list_list]
    refine useD_01 4 hc' rfl ⟨rfl, by decide, bt_lit (by decide) (by decide), ha'⟩ ?_
    rintro o s2 ⟨v, rfl, v0, v1, a2⟩ hc2
    refine ⟨_, rfl, ?_⟩
    obtain ⟨d, hd, e⟩ := at_mem (l := [D.int 1, D.int 1, D.int 2, D.int 5]) v0 v1
    have hm : ∃ m : Int, d = .int m ∧ 0 < m ∧ m ≤ 20 := by
      simp only [List.mem_cons, List.not_mem_nil, or_false] at hd
      rcases hd with rfl | rfl | rfl | rfl <;> exact ⟨_, rfl, by decide, by decide⟩
    obtain ⟨m, rfl, m1, m2⟩ := hm
    simp only [e, dOp, dUn, dVar, dC, slot, startE, List.map, List.length, List.replicate, List.append, List.cons_append, List.nil_append, List.set, dAnd, dOr, dNot, dtB, dtAnd, dtOr, dtNot, dIf, dtTru, truF, dNil, dCons, dTup, dLst, dCB, sNil, sSeq, sRet, sRetN, sExpr, sIf, sAsg, gN, gT, gsNil, gsCons, gS, sPar, sAug, sWhile, sFor, sBrk, sCont, sNo, sRaise, dCallP_eq, dCallD_eq, List.length_map, List.getElem?_cons_succ, List.getElem?_concat_length, set_last, get_mid, get_mid2, eqF, neF, ltF, leF, gtF, geF, isF, notF, addF, subF, mulF, fdivF, modF, powF, negF, ixF, lenF, tupF, lstF, absF, intF, gcdF, maxF, minF, Rs.to, dIsi, dIsi2, dIsE, tyN, D.isNon, dM1, dM0, srcSeq, srcRng1, srcRng2, dLc, tYesD, iaddF, isBF, notBF, srcZip, repF, sumF, allF, anyF, intsOf_map, blsOf_map, dSl, dPart, dNoPart, sliceF, at0, at1, at2, at3, at4, ix0, ix1, ix2, ix3, Dn.g0, Dn.g1, Dn.g2, Dn.g3, Dn.g4, ex_some, decide_true, decide_false, Bool.not_true, Bool.not_false, ite_true, ite_false, if_true, if_false, List.reverse_cons, List.reverse_nil, outPost, wipeE, CTg.set, setAll, appF, extF, revF, popF, Nat.zero_add, Nat.reduceAdd, is_NoneType_int, is_NoneType_bool, is_NoneType_str, is_NoneType_tuple, is_NoneType_list, is_bool_int, is_bool_bool, is_bool_str, is_bool_tuple, is_bool_list, is_int_int, is_int_bool, is_int_str, is_int_tuple, is_int_list, is_str_int, is_str_bool, is_str_str, is_str_tuple, is_str_list, is_tuple_int, is_tuple_bool, is_tuple_str, is_tuple_tuple, is_tuple_list, is_list_int, is_list_bool, is_list_str, is_list_tuple, is_list_list]
    refine ⟨Nat.le_of_lt (sl2 (by omega)), ?_⟩
    rw [app_int]
    have lb := (lb50 (L := L) (by omega) hb).mk' (by omega) (c := m) (bt20 (by omega))
    refine low_use (lb.mono (by decide)) m1 fun l q g g0 hl hq q0 hb' => ?_
    refine rtD_val s2 hc2 rfl rfl (ints_pure _) ⟨l, q, rfl, ?_, q0, hb' _ lb, a2⟩
    have := congrArg List.length hl
    rw [List.length_map] at this
    omega

theorem ok__law_tip (T : Txt K mg) : Ok P w K mg base 3 "_law_tip" ["draws", "size"] (spD K sp__law_tip) :=
  okOf T.d__law_tip fun f fd F => fnD (k := 2) sp__law_tip t__law_tip F sc__law_tip (fun x ds s hp => len__law_tip x ds s hp) (fun cdv A outer s H E hr z => by
    have hu := hr.units; have hnd := sc__law_tip.nd
    unfold t__law_tip r__law_tip_0
    exact (dss_one (ds_ret (dn_callP ((ok__law_low (P := P) (w := w) (base := base) T).mono (by decide)) hr (takes_of rfl rfl rfl rfl) rfl (by decide) (da_cons (de_callTy (f := tupF) call_tuple_of cd_tup rfl T.b_tuple (by decide +kernel) (da_cons (de_add (de_lc (own := [("k", 2)]) (c := (.one 2)) (tt := tYesD) (te := (dCallD sp__law_near (dCons (dVar 0) (dCons (dC (.int 12)) dNil)))) rfl hnd (di_rng1 rfl T.b_range (da_cons (de_var 1 rfl (by walk_at "vis") (by decide) (by decide)) da_nil rfl) rfl) (blkOk_by (N := nm__law_tip) (sc := defScope s__law_tip) (by decide +kernel)) (by decide) (fun _ _ _ _ _ => pg_name (i := 2) hnd rfl (by walk_at "locs") (by walk_at "fnn")) (fun _ _ _ _ _ => dts_nil) (fun _ _ _ _ _ => (dn_callD ((ok__law_near (P := P) (w := w) (base := base) T).mono (by decide)) hr takes0 rfl (by decide) (da_cons (de_var 0 rfl (by walk_at "vis") (by decide) (by decide)) (da_cons de_int da_nil rfl) rfl) rfl rfl)) (fun _ => rfl)) (de_lst (da_cons (de_ix (de_lst (da_cons de_int (da_cons de_int (da_cons de_int (da_cons de_int da_nil rfl) rfl) rfl) rfl) (by decide)) (dn_callD ((ok__law_draw (P := P) (w := w) (base := base) T).mono (by decide)) hr (takes_of rfl rfl rfl rfl) rfl (by decide) (da_cons (de_var 0 rfl (by walk_at "vis") (by decide) (by decide)) (da_cons de_int da_nil rfl) rfl) rfl rfl) (fun _ _ => rfl)) da_nil rfl) (by decide))) da_nil rfl) (by decide) (by decide) rfl rfl) da_nil rfl) rfl rfl)))) w__law_tip
/-! ### _law_gap -/
structure PT where
  p : List Int
  a : Int
  t : List Int
  b : Int
def sp__law_gap : Spc PT where
  pre := fun x ds => ds = [tI (x.p ++ [x.a]), tI (x.t ++ [x.b])] ∧ x.p.length = x.t.length ∧ x.t.length ≤ 10 ∧ Lb 300 (x.p ++ [x.a]) ∧ Lb 300 (x.t ++ [x.b]) ∧ 0 < x.a ∧ 0 < x.b
  res := fun x o => ∃ (l : List Int) (r g : Int), o = .val (tI (l ++ [r])) ∧ 0 < g ∧ 0 < r ∧ l.length = x.t.length ∧ r * g = x.a * x.b ∧ (∀ k, k < x.t.length → l.getD k 0 * g = x.p.getD k 0 * x.b - x.t.getD k 0 * x.a) ∧ Lb 1000 (l ++ [r])
  exc := fun _ _ => False

def r__law_gap_0 : dS :=
  (sRet (dCallP sp__law_low (dCons (dCB tupF (dCons (dOp addF (dLc (srcRng1 (dCons (dOp subF (dCB lenF (dCons (dVar 1) dNil)) (dC (.int 1))) dNil)) (.one 2) [2] tYesD (dOp subF (dOp mulF (dOp ixF (dVar 0) (dVar 2)) (dOp ixF (dVar 1) (dUn negF (dC (.int 1))))) (dOp mulF (dOp ixF (dVar 1) (dVar 2)) (dOp ixF (dVar 0) (dUn negF (dC (.int 1))))))) (dLst (dCons (dOp mulF (dOp ixF (dVar 0) (dUn negF (dC (.int 1)))) (dOp ixF (dVar 1) (dUn negF (dC (.int 1))))) dNil))) dNil)) dNil)))
def t__law_gap : dS :=
  (r__law_gap_0)
theorem len__law_gap : ∀ x ds, sp__law_gap.pre x ds → ds.length = 2 := fun x ds h => by rw [h.1]; rfl
theorem len1 {α : Type} (l : List α) (a : α) : ((l ++ [a]).length : Int) - 1 = l.length := by simp
theorem low_range {F : Nat → Int} {n : Nat} {r : Int} {m : Nat} {h : Hh} {Q : D → Hh → Prop} {E : XK'} (hn : n ≤ 50) (hF : ∀ k, k < n → Bt m (F k)) (hm : Bt m r) (hm4 : m ≤ 4000) (hr : 0 < r) (w : ∀ (l : List Int) (q g : Int), 0 < g → 0 < q → l.length = n → q * g = r → (∀ k, k < n → l.getD k 0 * g = F k) → Lb m (l ++ [q]) → Q (tI (l ++ [q])) h) : useP sp__law_low [tI ((List.range n).map F ++ [r])] h Q E := by
  have lb : Lb m ((List.range n).map F ++ [r]) := Lb.mk' ⟨by simp; omega, fun x hx => by
    obtain ⟨k, hk, rfl⟩ := List.mem_map.mp hx
    exact hF k (List.mem_range.mp hk)⟩ (by simp; omega) hm
  refine low_use (lb.mono hm4) hr fun l q g g0 hl hq q0 hb => ?_
  have hll : l.length = n := by
    have := congrArg List.length hl
    rw [List.length_map, List.length_map, List.length_range] at this
    exact this.symm
  refine w l q g g0 q0 hll hq.symm (fun k hk => ?_) (hb m lb)
  have e := getD_range (F := F) hk
  rw [hl, getD_map0 (by simp)] at e
  exact e
theorem w__law_gap : ∀ x ds, sp__law_gap.pre x ds → t__law_gap (endP sp__law_gap x) (startE nm__law_gap.length ds) [] := by
  rintro ⟨p, a, t, b⟩ ds ⟨rfl, hpt, ht, hp, hT, ha, hb⟩
  simp only at hpt ht hp hT ha hb
  have p0 := hp.app
  have t0 := hT.app
  simp only [t__law_gap , r__law_gap_0, nm__law_gap, len1, at_lasti, dOp, dUn, dVar, dC, slot, startE, List.map, List.length, List.replicate, List.append, List.cons_append, List.nil_append, List.set, dAnd, dOr, dNot, dtB, dtAnd, dtOr, dtNot, dIf, dtTru, truF, dNil, dCons, dTup, dLst, dCB, sNil, sSeq, sRet, sRetN, sExpr, sIf, sAsg, gN, gT, gsNil, gsCons, gS, sPar, sAug, sWhile, sFor, sBrk, sCont, sNo, sRaise, dCallP_eq, dCallD_eq, List.length_map, List.getElem?_cons_succ, List.getElem?_concat_length, set_last, get_mid, get_mid2, eqF, neF, ltF, leF, gtF, geF, isF, notF, addF, subF, mulF, fdivF, modF, powF, negF, ixF, lenF, tupF, lstF, absF, intF, gcdF, maxF, minF, Rs.to, dIsi, dIsi2, dIsE, tyN, D.isNon, dM1, dM0, srcSeq, srcRng1, srcRng2, dLc, tYesD, iaddF, isBF, notBF, srcZip, repF, sumF, allF, anyF, intsOf_map, blsOf_map, dSl, dPart, dNoPart, sliceF, at0, at1, at2, at3, at4, ix0, ix1, ix2, ix3, Dn.g0, Dn.g1, Dn.g2, Dn.g3, Dn.g4, ex_some, decide_true, decide_false, Bool.not_true, Bool.not_false, ite_true, ite_false, if_true, if_false, List.reverse_cons, List.reverse_nil, outPost, wipeE, CTg.set, setAll, appF, extF, revF, popF, Nat.zero_add, Nat.reduceAdd, is_NoneType_int, is_NoneType_bool, is_NoneType_str, is_NoneType_tuple, is_NoneType_list, is_bool_int, is_bool_bool, is_bool_str, is_bool_tuple, is_bool_list, is_int_int, is_int_bool, is_int_str, is_int_tuple, is_int_list, is_str_int, is_str_bool, is_str_str, is_str_tuple, is_str_list, is_tuple_int, is_tuple_bool, is_tuple_str, is_tuple_tuple, is_tuple_list, is_list_int, is_list_bool, is_list_str, is_list_tuple, is_list_list]
  refine ⟨⟨by omega, by omega⟩, fun i acc h => acc = ((List.range i).map fun k => p.getD k 0 * b - t.getD k 0 * a).map .int ∧ h = [], ⟨rfl, rfl⟩, fun _ _ _ _ _ => trivial, ?_, ?_⟩
  · rintro i y acc h hy ⟨rfl, rfl⟩
    obtain ⟨hi, rfl⟩ := ints_at hy
    have e1 := at_app (l := p) (c := a) (k := 0 + (i : Int)) (by omega) (by omega)
    have e2 := at_app (l := t) (c := b) (k := 0 + (i : Int)) (by omega) (by omega)
    rw [show (0 + (i : Int)).toNat = i by omega] at e1 e2
    simp only [e1, e2, dOp, dUn, dVar, dC, slot, startE, List.map, List.length, List.replicate, List.append, List.cons_append, List.nil_append, List.set, dAnd, dOr, dNot, dtB, dtAnd, dtOr, dtNot, dIf, dtTru, truF, dNil, dCons, dTup, dLst, dCB, sNil, sSeq, sRet, sRetN, sExpr, sIf, sAsg, gN, gT, gsNil, gsCons, gS, sPar, sAug, sWhile, sFor, sBrk, sCont, sNo, sRaise, dCallP_eq, dCallD_eq, List.length_map, List.getElem?_cons_succ, List.getElem?_concat_length, set_last, get_mid, get_mid2, eqF, neF, ltF, leF, gtF, geF, isF, notF, addF, subF, mulF, fdivF, modF, powF, negF, ixF, lenF, tupF, lstF, absF, intF, gcdF, maxF, minF, Rs.to, dIsi, dIsi2, dIsE, tyN, D.isNon, dM1, dM0, srcSeq, srcRng1, srcRng2, dLc, tYesD, iaddF, isBF, notBF, srcZip, repF, sumF, allF, anyF, intsOf_map, blsOf_map, dSl, dPart, dNoPart, sliceF, at0, at1, at2, at3, at4, ix0, ix1, ix2, ix3, Dn.g0, Dn.g1, Dn.g2, Dn.g3, Dn.g4, ex_some, decide_true, decide_false, Bool.not_true, Bool.not_false, ite_true, ite_false, if_true, if_false, List.reverse_cons, List.reverse_nil, outPost, wipeE, CTg.set, setAll, appF, extF, revF, popF, Nat.zero_add, Nat.reduceAdd, is_NoneType_int, is_NoneType_bool, is_NoneType_str, is_NoneType_tuple, is_NoneType_list, is_bool_int, is_bool_bool, is_bool_str, is_bool_tuple, is_bool_list, is_int_int, is_int_bool, is_int_str, is_int_tuple, is_int_list, is_str_int, is_str_bool, is_str_str, is_str_tuple, is_str_list, is_tuple_int, is_tuple_bool, is_tuple_str, is_tuple_tuple, is_tuple_list, is_list_int, is_list_bool, is_list_str, is_list_tuple, is_list_list]
    refine ⟨bt_mul (p0.1.getD i) t0.2 (by decide), bt_mul (t0.1.getD i) p0.2 (by decide), sl2 (by simp; omega), ?_, trivial⟩
    rw [range_at]; simp
  · rintro acc h ⟨rfl, rfl⟩
    rw [intsUp_len, Int.toNat_natCast]
    simp only [dOp, dUn, dVar, dC, slot, startE, List.map, List.length, List.replicate, List.append, List.cons_append, List.nil_append, List.set, dAnd, dOr, dNot, dtB, dtAnd, dtOr, dtNot, dIf, dtTru, truF, dNil, dCons, dTup, dLst, dCB, sNil, sSeq, sRet, sRetN, sExpr, sIf, sAsg, gN, gT, gsNil, gsCons, gS, sPar, sAug, sWhile, sFor, sBrk, sCont, sNo, sRaise, dCallP_eq, dCallD_eq, List.length_map, List.getElem?_cons_succ, List.getElem?_concat_length, set_last, get_mid, get_mid2, eqF, neF, ltF, leF, gtF, geF, isF, notF, addF, subF, mulF, fdivF, modF, powF, negF, ixF, lenF, tupF, lstF, absF, intF, gcdF, maxF, minF, Rs.to, dIsi, dIsi2, dIsE, tyN, D.isNon, dM1, dM0, srcSeq, srcRng1, srcRng2, dLc, tYesD, iaddF, isBF, notBF, srcZip, repF, sumF, allF, anyF, intsOf_map, blsOf_map, dSl, dPart, dNoPart, sliceF, at0, at1, at2, at3, at4, ix0, ix1, ix2, ix3, Dn.g0, Dn.g1, Dn.g2, Dn.g3, Dn.g4, ex_some, decide_true, decide_false, Bool.not_true, Bool.not_false, ite_true, ite_false, if_true, if_false, List.reverse_cons, List.reverse_nil, outPost, wipeE, CTg.set, setAll, appF, extF, revF, popF, Nat.zero_add, Nat.reduceAdd, is_NoneType_int, is_NoneType_bool, is_NoneType_str, is_NoneType_tuple, is_NoneType_list, is_bool_int, is_bool_bool, is_bool_str, is_bool_tuple, is_bool_list, is_int_int, is_int_bool, is_int_str, is_int_tuple, is_int_list, is_str_int, is_str_bool, is_str_str, is_str_tuple, is_str_list, is_tuple_int, is_tuple_bool, is_tuple_str, is_tuple_tuple, is_tuple_list, is_list_int, is_list_bool, is_list_str, is_list_tuple, is_list_list]
    refine ⟨bt_mul p0.2 t0.2 (by decide), Nat.le_of_lt (sl2 (by simp; omega)), ?_⟩
    rw [app_int]
    refine low_range (m := 601) (by omega) (fun k _ => bits_sub (bits_mul (p0.1.getD k) t0.2) (bits_mul (t0.1.getD k) p0.2)) (bt_mono (bits_mul p0.2 t0.2) (by decide)) (by decide) (Int.mul_pos ha hb) fun l q g g0 q0 hl hq hF hb' => ?_
    exact rt_val (ints_pure _) ⟨l, q, g, rfl, g0, q0, hl, hq, hF, hb'.mono (by decide)⟩

theorem ok__law_gap (T : Txt K mg) : Ok P w K mg base 3 "_law_gap" ["place", "tip"] (spP K mg sp__law_gap) :=
  okOf T.d__law_gap fun f fd F => fnP (k := 2) sp__law_gap t__law_gap F sc__law_gap (fun x ds hp => len__law_gap x ds hp) (fun cdv A outer s H E hr z => by
    have hu := hr.units; have hnd := sc__law_gap.nd
    unfold t__law_gap r__law_gap_0
    exact (dss_one (ds_ret (dn_callP ((ok__law_low (P := P) (w := w) (base := base) T).mono (by decide)) hr (takes_of rfl rfl rfl rfl) rfl (by decide) (da_cons (de_callTy (f := tupF) call_tuple_of cd_tup rfl T.b_tuple (by decide +kernel) (da_cons (de_add (de_lc (own := [("k", 2)]) (c := (.one 2)) (tt := tYesD) (te := (dOp subF (dOp mulF (dOp ixF (dVar 0) (dVar 2)) (dOp ixF (dVar 1) (dUn negF (dC (.int 1))))) (dOp mulF (dOp ixF (dVar 1) (dVar 2)) (dOp ixF (dVar 0) (dUn negF (dC (.int 1))))))) rfl hnd (di_rng1 rfl T.b_range (da_cons (de_minus (de_callB (f := lenF) call_len_seq cd_len rfl T.b_len (by decide +kernel) (da_cons (de_var 1 rfl (by walk_at "vis") (by decide) (by decide)) da_nil rfl) (by decide) (by decide) rfl rfl) de_int) da_nil rfl) rfl) (blkOk_by (N := nm__law_gap) (sc := defScope s__law_gap) (by decide +kernel)) (by decide) (fun _ _ _ _ _ => pg_name (i := 2) hnd rfl (by walk_at "locs") (by walk_at "fnn")) (fun _ _ _ _ _ => dts_nil) (fun _ _ _ _ _ => (de_minus (de_mul (de_ix (de_var 0 rfl (by walk_at "vis") (by decide) (by decide)) (de_var 2 rfl (by walk_at "vis") (by decide) (by decide)) (fun _ _ => rfl)) (de_ix (de_var 1 rfl (by walk_at "vis") (by decide) (by decide)) (de_neg de_int) (fun _ _ => rfl))) (de_mul (de_ix (de_var 1 rfl (by walk_at "vis") (by decide) (by decide)) (de_var 2 rfl (by walk_at "vis") (by decide) (by decide)) (fun _ _ => rfl)) (de_ix (de_var 0 rfl (by walk_at "vis") (by decide) (by decide)) (de_neg de_int) (fun _ _ => rfl))))) (fun _ => rfl)) (de_lst (da_cons (de_mul (de_ix (de_var 0 rfl (by walk_at "vis") (by decide) (by decide)) (de_neg de_int) (fun _ _ => rfl)) (de_ix (de_var 1 rfl (by walk_at "vis") (by decide) (by decide)) (de_neg de_int) (fun _ _ => rfl))) da_nil rfl) (by decide))) da_nil rfl) (by decide) (by decide) rfl rfl) da_nil rfl) rfl rfl)))) w__law_gap
/-! ### _law_tool -/
def FI (n : Int) (m : Nat) (FS : List (List Int × Int)) : Prop := FS.length ≤ m ∧ ∀ F ∈ FS, (F.1.length : Int) = n ∧ Lb 50 (F.1 ++ [F.2])
def sp__law_tool : SpcD Int where
  pre := preV
  res := fun x o s' => ∃ FS, o = .val (.tup (FS.map fmD)) ∧ FI x 50 FS ∧ 0 ≤ s'.a

def l1__law_tool_1 : dS :=
  (sIf (dtB (dOp ltF (dVar 2) (dC (.int 2)))) (sExpr (dM1 appF (dVar 4) (dOp addF (dOp addF (dOp addF (dOp repF (dTup (dCons (dC (.int 0)) dNil)) (dVar 5)) (dTup (dCons (dUn negF (dC (.int 1))) dNil))) (dOp repF (dTup (dCons (dC (.int 0)) dNil)) (dOp subF (dOp subF (dVar 1) (dVar 5)) (dC (.int 1))))) (dTup (dCons (dOp addF (dOp addF (dC (.int 1)) (dCallD sp__law_draw (dCons (dVar 0) (dCons (dC (.int 4)) dNil)))) (dOp ixF (dVar 3) (dVar 5))) dNil))))) sNil)
def l1__law_tool_0 : dS :=
  (sSeq (sExpr (dM1 appF (dVar 4) (dOp addF (dOp addF (dOp addF (dOp repF (dTup (dCons (dC (.int 0)) dNil)) (dVar 5)) (dTup (dCons (dC (.int 1)) dNil))) (dOp repF (dTup (dCons (dC (.int 0)) dNil)) (dOp subF (dOp subF (dVar 1) (dVar 5)) (dC (.int 1))))) (dTup (dCons (dOp subF (dOp addF (dC (.int 1)) (dCallD sp__law_draw (dCons (dVar 0) (dCons (dC (.int 4)) dNil)))) (dOp ixF (dVar 3) (dVar 5))) dNil))))) (l1__law_tool_1))
def l2__law_tool_0 : dS :=
  (sExpr (dM1 appF (dVar 4) (dCB tupF (dCons (dOp addF (dLc (srcRng1 (dCons (dVar 1) dNil)) (.one 6) [6] tYesD (dCallD sp__law_near (dCons (dVar 0) (dCons (dC (.int 4)) dNil)))) (dLst (dCons (dOp addF (dCallD sp__law_near (dCons (dVar 0) (dCons (dC (.int 12)) dNil))) (dC (.int 4))) dNil))) dNil))))
def r__law_tool_6 : dS :=
  (sRet (dCB tupF (dCons (dVar 4) dNil)))
def r__law_tool_5 : dS :=
  (sSeq (sIf (dtB (dOp eqF (dVar 2) (dC (.int 3)))) (sFor (srcRng1 (dCons (dOp addF (dC (.int 1)) (dCallD sp__law_draw (dCons (dVar 0) (dCons (dOp addF (dVar 1) (dC (.int 3))) dNil)))) dNil)) (gN 5) (l2__law_tool_0)) sNil) (r__law_tool_6))
def r__law_tool_4 : dS :=
  (sSeq (sIf (dtOr (dtB (dOp eqF (dVar 2) (dC (.int 1)))) (dtB (dOp eqF (dVar 2) (dC (.int 2))))) (sExpr (dM1 appF (dVar 4) (dOp addF (dOp repF (dTup (dCons (dUn negF (dC (.int 1))) dNil)) (dVar 1)) (dTup (dCons (dOp addF (dOp addF (dC (.int 1)) (dCallD sp__law_draw (dCons (dVar 0) (dCons (dC (.int 9)) dNil)))) (dCB sumF (dCons (dVar 3) dNil))) dNil))))) sNil) (r__law_tool_5))
def r__law_tool_3 : dS :=
  (sSeq (sIf (dtB (dOp ltF (dVar 2) (dC (.int 3)))) (sFor (srcRng1 (dCons (dVar 1) dNil)) (gN 5) (l1__law_tool_0)) sNil) (r__law_tool_4))
def r__law_tool_2 : dS :=
  (sSeq (sAsg (dLst dNil) (gN 4)) (r__law_tool_3))
def r__law_tool_1 : dS :=
  (sSeq (sAsg (dLc (srcRng1 (dCons (dVar 1) dNil)) (.one 5) [5] tYesD (dCallD sp__law_near (dCons (dVar 0) (dCons (dC (.int 3)) dNil)))) (gN 3)) (r__law_tool_2))
def r__law_tool_0 : dS :=
  (sSeq (sAsg (dCallD sp__law_draw (dCons (dVar 0) (dCons (dC (.int 4)) dNil))) (gN 2)) (r__law_tool_1))
def t__law_tool : dS :=
  (r__law_tool_0)
theorem len__law_tool : ∀ x ds s, sp__law_tool.pre x ds s → ds.length + 1 = 2 := fun x ds s h => by rw [h.1]; rfl
theorem fmD_pure : ∀ FS : List (List Int × Int), pureDs (FS.map fmD) = true
  | [] => rfl
  | w :: r => by rw [List.map_cons]; unfold pureDs; rw [fmD_pure r]; simp only [fmD, pureD, ints_pure]; rfl
theorem FI.add {n : Int} {m k : Nat} {FS : List (List Int × Int)} (h : FI n m FS) (hk : m + 1 ≤ k) {f : List Int} {c : Int} (hf : (f.length : Int) = n) (hl : Lb 50 (f ++ [c])) : FI n k (FS ++ [(f, c)]) := ⟨by have := h.1; simp; omega, fun F hF => by
  rcases List.mem_append.mp hF with q | q
  · exact h.2 F q
  · rw [List.mem_singleton] at q; subst q; exact ⟨hf, hl⟩⟩
theorem FI.mono {n : Int} {m k : Nat} {FS : List (List Int × Int)} (h : FI n m FS) (hk : m ≤ k) : FI n k FS := ⟨Nat.le_trans h.1 hk, h.2⟩
abbrev H4 (c : List Int) (s : DrS) (L : List Int) (FS : List (List Int × Int)) (j : Hh) : Hh := .lst (drD 1 s) :: .lst (c.map .int) :: .lst (L.map .int) :: .lst (FS.map fmD) :: j
theorem rep_z {k a : Int} : (List.replicate k.toNat [D.int a]).flatten = (List.replicate k.toNat a).map .int := by
  rw [List.map_replicate, List.flatten_replicate_singleton]
theorem sum_bd : ∀ L : List Int, (∀ x ∈ L, x.natAbs ≤ 3) → L.sum.natAbs ≤ 3 * L.length
  | [], _ => by simp
  | x :: r, h => by
    have h1 := sum_bd r fun y hy => h y (List.mem_cons_of_mem _ hy)
    have h2 := h x List.mem_cons_self
    rw [List.sum_cons, List.length_cons]
    omega
theorem lb_rep {n : Nat} {a : Int} (hn : n ≤ 50) (ha : a.natAbs ≤ 1000) : Lb 50 (List.replicate n a) := lb50 (by simp; omega) fun x hx => by rw [List.eq_of_mem_replicate hx]; exact ha
theorem lb_app {m : Nat} {a b : List Int} (h1 : Lb m a) (h2 : Lb m b) (h : a.length + b.length ≤ 100) : Lb m (a ++ b) := ⟨by simp; omega, fun x hx => by
  rcases List.mem_append.mp hx with q | q
  · exact h1.2 x q
  · exact h2.2 x q⟩
theorem tool6 {x : Int} {c : List Int} {s' : DrS} {L : List Int} {FS : List (List Int × Int)} {j : Hh} {k u5 u6 : Option D} (hc : s'.c = c) (ha : 0 ≤ s'.a) (hF : FI x 50 FS) :
    r__law_tool_6 (endD sp__law_tool x c) [some (.ref 0), some (.int x), k, some (.ref 2), some (.ref 3), u5, u6] (H4 c s' L FS j) := by
  simp only [r__law_tool_6, H4, dOp, dUn, dVar, dC, slot, startE, List.map, List.length, List.replicate, List.append, List.cons_append, List.nil_append, List.set, dAnd, dOr, dNot, dtB, dtAnd, dtOr, dtNot, dIf, dtTru, truF, dNil, dCons, dTup, dLst, dCB, sNil, sSeq, sRet, sRetN, sExpr, sIf, sAsg, gN, gT, gsNil, gsCons, gS, sPar, sAug, sWhile, sFor, sBrk, sCont, sNo, sRaise, dCallP_eq, dCallD_eq, List.length_map, List.getElem?_cons_succ, List.getElem?_concat_length, set_last, get_mid, get_mid2, eqF, neF, ltF, leF, gtF, geF, isF, notF, addF, subF, mulF, fdivF, modF, powF, negF, ixF, lenF, tupF, lstF, absF, intF, gcdF, maxF, minF, Rs.to, dIsi, dIsi2, dIsE, tyN, D.isNon, dM1, dM0, srcSeq, srcRng1, srcRng2, dLc, tYesD, iaddF, isBF, notBF, srcZip, repF, sumF, allF, anyF, intsOf_map, blsOf_map, dSl, dPart, dNoPart, sliceF, at0, at1, at2, at3, at4, ix0, ix1, ix2, ix3, Dn.g0, Dn.g1, Dn.g2, Dn.g3, Dn.g4, ex_some, decide_true, decide_false, Bool.not_true, Bool.not_false, ite_true, ite_false, if_true, if_false, List.reverse_cons, List.reverse_nil, outPost, wipeE, CTg.set, setAll, appF, extF, revF, popF, Nat.zero_add, Nat.reduceAdd, is_NoneType_int, is_NoneType_bool, is_NoneType_str, is_NoneType_tuple, is_NoneType_list, is_bool_int, is_bool_bool, is_bool_str, is_bool_tuple, is_bool_list, is_int_int, is_int_bool, is_int_str, is_int_tuple, is_int_list, is_str_int, is_str_bool, is_str_str, is_str_tuple, is_str_list, is_tuple_int, is_tuple_bool, is_tuple_str, is_tuple_tuple, is_tuple_list, is_list_int, is_list_bool, is_list_str, is_list_tuple, is_list_list]
  exact rtD_val s' hc rfl rfl (fmD_pure _) ⟨FS, rfl, hF, ha⟩
theorem tool5 {x : Int} {c : List Int} {s : DrS} {L : List Int} {FS : List (List Int × Int)} {j : Hh} {k : Int} {u5 u6 : Option D} (hx1 : 1 ≤ x) (hx2 : x ≤ 5) (hc : s.c = c) (ha : 0 ≤ s.a) (hF : FI x 20 FS) :
    r__law_tool_5 (endD sp__law_tool x c) [some (.ref 0), some (.int x), some (.int k), some (.ref 2), some (.ref 3), u5, u6] (H4 c s L FS j) := by
  by_cases hk : k = 3
  · simp only [r__law_tool_5, hk, H4, dOp, dUn, dVar, dC, slot, startE, List.map, List.length, List.replicate, List.append, List.cons_append, List.nil_append, List.set, dAnd, dOr, dNot, dtB, dtAnd, dtOr, dtNot, dIf, dtTru, truF, dNil, dCons, dTup, dLst, dCB, sNil, sSeq, sRet, sRetN, sExpr, sIf, sAsg, gN, gT, gsNil, gsCons, gS, sPar, sAug, sWhile, sFor, sBrk, sCont, sNo, sRaise, dCallP_eq, dCallD_eq, List.length_map, List.getElem?_cons_succ, List.getElem?_concat_length, set_last, get_mid, get_mid2, eqF, neF, ltF, leF, gtF, geF, isF, notF, addF, subF, mulF, fdivF, modF, powF, negF, ixF, lenF, tupF, lstF, absF, intF, gcdF, maxF, minF, Rs.to, dIsi, dIsi2, dIsE, tyN, D.isNon, dM1, dM0, srcSeq, srcRng1, srcRng2, dLc, tYesD, iaddF, isBF, notBF, srcZip, repF, sumF, allF, anyF, intsOf_map, blsOf_map, dSl, dPart, dNoPart, sliceF, at0, at1, at2, at3, at4, ix0, ix1, ix2, ix3, Dn.g0, Dn.g1, Dn.g2, Dn.g3, Dn.g4, ex_some, decide_true, decide_false, Bool.not_true, Bool.not_false, ite_true, ite_false, if_true, if_false, List.reverse_cons, List.reverse_nil, outPost, wipeE, CTg.set, setAll, appF, extF, revF, popF, Nat.zero_add, Nat.reduceAdd, is_NoneType_int, is_NoneType_bool, is_NoneType_str, is_NoneType_tuple, is_NoneType_list, is_bool_int, is_bool_bool, is_bool_str, is_bool_tuple, is_bool_list, is_int_int, is_int_bool, is_int_str, is_int_tuple, is_int_list, is_str_int, is_str_bool, is_str_str, is_str_tuple, is_str_list, is_tuple_int, is_tuple_bool, is_tuple_str, is_tuple_tuple, is_tuple_list, is_list_int, is_list_bool, is_list_str, is_list_tuple, is_list_list]
    refine useD_01 (x + 3) hc rfl ⟨rfl, by omega, bt_mono (bt60 (by omega)) (by decide), ha⟩ ?_
    rintro o s1 ⟨v, rfl, v0, v1, a1⟩ hc1
    refine ⟨_, rfl, ?_⟩
    simp only [dOp, dUn, dVar, dC, slot, startE, List.map, List.length, List.replicate, List.append, List.cons_append, List.nil_append, List.set, dAnd, dOr, dNot, dtB, dtAnd, dtOr, dtNot, dIf, dtTru, truF, dNil, dCons, dTup, dLst, dCB, sNil, sSeq, sRet, sRetN, sExpr, sIf, sAsg, gN, gT, gsNil, gsCons, gS, sPar, sAug, sWhile, sFor, sBrk, sCont, sNo, sRaise, dCallP_eq, dCallD_eq, List.length_map, List.getElem?_cons_succ, List.getElem?_concat_length, set_last, get_mid, get_mid2, eqF, neF, ltF, leF, gtF, geF, isF, notF, addF, subF, mulF, fdivF, modF, powF, negF, ixF, lenF, tupF, lstF, absF, intF, gcdF, maxF, minF, Rs.to, dIsi, dIsi2, dIsE, tyN, D.isNon, dM1, dM0, srcSeq, srcRng1, srcRng2, dLc, tYesD, iaddF, isBF, notBF, srcZip, repF, sumF, allF, anyF, intsOf_map, blsOf_map, dSl, dPart, dNoPart, sliceF, at0, at1, at2, at3, at4, ix0, ix1, ix2, ix3, Dn.g0, Dn.g1, Dn.g2, Dn.g3, Dn.g4, ex_some, decide_true, decide_false, Bool.not_true, Bool.not_false, ite_true, ite_false, if_true, if_false, List.reverse_cons, List.reverse_nil, outPost, wipeE, CTg.set, setAll, appF, extF, revF, popF, Nat.zero_add, Nat.reduceAdd, is_NoneType_int, is_NoneType_bool, is_NoneType_str, is_NoneType_tuple, is_NoneType_list, is_bool_int, is_bool_bool, is_bool_str, is_bool_tuple, is_bool_list, is_int_int, is_int_bool, is_int_str, is_int_tuple, is_int_list, is_str_int, is_str_bool, is_str_str, is_str_tuple, is_str_list, is_tuple_int, is_tuple_bool, is_tuple_str, is_tuple_tuple, is_tuple_list, is_list_int, is_list_bool, is_list_str, is_list_tuple, is_list_list]
    refine ⟨⟨by omega, by omega⟩, fun i e h => (∃ u5, e = [some (.ref 0), some (.int x), some (.int 3), some (.ref 2), some (.ref 3), u5, u6]) ∧ ∃ s' FS' j', h = H4 c s' L FS' j' ∧ s'.c = c ∧ 0 ≤ s'.a ∧ FI x (20 + i) FS', ⟨⟨_, rfl⟩, s1, FS, j, rfl, hc1, a1, hF⟩, fun _ _ _ _ _ => trivial, ?_, ?_⟩
    · rintro i y e h hy ⟨⟨u5, rfl⟩, s', FS', j', rfl, hc', ha', hF'⟩
      obtain ⟨hi, rfl⟩ := ints_at hy
      simp only [l2__law_tool_0, H4, dOp, dUn, dVar, dC, slot, startE, List.map, List.length, List.replicate, List.append, List.cons_append, List.nil_append, List.set, dAnd, dOr, dNot, dtB, dtAnd, dtOr, dtNot, dIf, dtTru, truF, dNil, dCons, dTup, dLst, dCB, sNil, sSeq, sRet, sRetN, sExpr, sIf, sAsg, gN, gT, gsNil, gsCons, gS, sPar, sAug, sWhile, sFor, sBrk, sCont, sNo, sRaise, dCallP_eq, dCallD_eq, List.length_map, List.getElem?_cons_succ, List.getElem?_concat_length, set_last, get_mid, get_mid2, eqF, neF, ltF, leF, gtF, geF, isF, notF, addF, subF, mulF, fdivF, modF, powF, negF, ixF, lenF, tupF, lstF, absF, intF, gcdF, maxF, minF, Rs.to, dIsi, dIsi2, dIsE, tyN, D.isNon, dM1, dM0, srcSeq, srcRng1, srcRng2, dLc, tYesD, iaddF, isBF, notBF, srcZip, repF, sumF, allF, anyF, intsOf_map, blsOf_map, dSl, dPart, dNoPart, sliceF, at0, at1, at2, at3, at4, ix0, ix1, ix2, ix3, Dn.g0, Dn.g1, Dn.g2, Dn.g3, Dn.g4, ex_some, decide_true, decide_false, Bool.not_true, Bool.not_false, ite_true, ite_false, if_true, if_false, List.reverse_cons, List.reverse_nil, outPost, wipeE, CTg.set, setAll, appF, extF, revF, popF, Nat.zero_add, Nat.reduceAdd, is_NoneType_int, is_NoneType_bool, is_NoneType_str, is_NoneType_tuple, is_NoneType_list, is_bool_int, is_bool_bool, is_bool_str, is_bool_tuple, is_bool_list, is_int_int, is_int_bool, is_int_str, is_int_tuple, is_int_list, is_str_int, is_str_bool, is_str_str, is_str_tuple, is_str_list, is_tuple_int, is_tuple_bool, is_tuple_str, is_tuple_tuple, is_tuple_list, is_list_int, is_list_bool, is_list_str, is_list_tuple, is_list_list]
      refine ⟨⟨by omega, by omega⟩, fun i acc h => ∃ (M : List Int) (s2 : DrS), acc = M.map .int ∧ h = H4 c s2 L FS' j' ∧ s2.c = c ∧ 0 ≤ s2.a ∧ M.length = i ∧ ∀ y ∈ M, y.natAbs ≤ 1000, ⟨[], s', rfl, rfl, hc', ha', rfl, fun _ h => by cases h⟩, fun _ _ _ _ _ => trivial, ?_, ?_⟩
      · rintro i2 y acc h hy ⟨M, s2, rfl, rfl, hc2, ha2, hM, hb⟩
        obtain ⟨hi2, rfl⟩ := ints_at hy
        refine useD_01 4 hc2 rfl ⟨rfl, by decide, by decide, ha2⟩ ?_
        rintro o s4 ⟨q, rfl, w0, w1, a4⟩ hc4
        refine ⟨_, rfl, sl2 (by first | omega | (simp; omega)), M ++ [q], s4, app_int _ _, rfl, hc4, a4, by simp [hM], fun y hy => ?_⟩
        rcases List.mem_append.mp hy with z | z
        · exact hb y z
        · rw [List.mem_singleton] at z; rw [z]; omega
      · rintro acc h ⟨M, s2, rfl, rfl, hc2, ha2, hM, hb⟩
        rw [intsUp_len] at hM
        simp only [H4, dOp, dUn, dVar, dC, slot, startE, List.map, List.length, List.replicate, List.append, List.cons_append, List.nil_append, List.set, dAnd, dOr, dNot, dtB, dtAnd, dtOr, dtNot, dIf, dtTru, truF, dNil, dCons, dTup, dLst, dCB, sNil, sSeq, sRet, sRetN, sExpr, sIf, sAsg, gN, gT, gsNil, gsCons, gS, sPar, sAug, sWhile, sFor, sBrk, sCont, sNo, sRaise, dCallP_eq, dCallD_eq, List.length_map, List.getElem?_cons_succ, List.getElem?_concat_length, set_last, get_mid, get_mid2, eqF, neF, ltF, leF, gtF, geF, isF, notF, addF, subF, mulF, fdivF, modF, powF, negF, ixF, lenF, tupF, lstF, absF, intF, gcdF, maxF, minF, Rs.to, dIsi, dIsi2, dIsE, tyN, D.isNon, dM1, dM0, srcSeq, srcRng1, srcRng2, dLc, tYesD, iaddF, isBF, notBF, srcZip, repF, sumF, allF, anyF, intsOf_map, blsOf_map, dSl, dPart, dNoPart, sliceF, at0, at1, at2, at3, at4, ix0, ix1, ix2, ix3, Dn.g0, Dn.g1, Dn.g2, Dn.g3, Dn.g4, ex_some, decide_true, decide_false, Bool.not_true, Bool.not_false, ite_true, ite_false, if_true, if_false, List.reverse_cons, List.reverse_nil, outPost, wipeE, CTg.set, setAll, appF, extF, revF, popF, Nat.zero_add, Nat.reduceAdd, is_NoneType_int, is_NoneType_bool, is_NoneType_str, is_NoneType_tuple, is_NoneType_list, is_bool_int, is_bool_bool, is_bool_str, is_bool_tuple, is_bool_list, is_int_int, is_int_bool, is_int_str, is_int_tuple, is_int_list, is_str_int, is_str_bool, is_str_str, is_str_tuple, is_str_list, is_tuple_int, is_tuple_bool, is_tuple_str, is_tuple_tuple, is_tuple_list, is_list_int, is_list_bool, is_list_str, is_list_tuple, is_list_list]
        refine useD_01 12 hc2 rfl ⟨rfl, by decide, by decide, ha2⟩ ?_
        rintro o s4 ⟨q, rfl, w0, w1, a4⟩ hc4
        refine ⟨_, rfl, ?_⟩
        simp only [dOp, dUn, dVar, dC, slot, startE, List.map, List.length, List.replicate, List.append, List.cons_append, List.nil_append, List.set, dAnd, dOr, dNot, dtB, dtAnd, dtOr, dtNot, dIf, dtTru, truF, dNil, dCons, dTup, dLst, dCB, sNil, sSeq, sRet, sRetN, sExpr, sIf, sAsg, gN, gT, gsNil, gsCons, gS, sPar, sAug, sWhile, sFor, sBrk, sCont, sNo, sRaise, dCallP_eq, dCallD_eq, List.length_map, List.getElem?_cons_succ, List.getElem?_concat_length, set_last, get_mid, get_mid2, eqF, neF, ltF, leF, gtF, geF, isF, notF, addF, subF, mulF, fdivF, modF, powF, negF, ixF, lenF, tupF, lstF, absF, intF, gcdF, maxF, minF, Rs.to, dIsi, dIsi2, dIsE, tyN, D.isNon, dM1, dM0, srcSeq, srcRng1, srcRng2, dLc, tYesD, iaddF, isBF, notBF, srcZip, repF, sumF, allF, anyF, intsOf_map, blsOf_map, dSl, dPart, dNoPart, sliceF, at0, at1, at2, at3, at4, ix0, ix1, ix2, ix3, Dn.g0, Dn.g1, Dn.g2, Dn.g3, Dn.g4, ex_some, decide_true, decide_false, Bool.not_true, Bool.not_false, ite_true, ite_false, if_true, if_false, List.reverse_cons, List.reverse_nil, outPost, wipeE, CTg.set, setAll, appF, extF, revF, popF, Nat.zero_add, Nat.reduceAdd, is_NoneType_int, is_NoneType_bool, is_NoneType_str, is_NoneType_tuple, is_NoneType_list, is_bool_int, is_bool_bool, is_bool_str, is_bool_tuple, is_bool_list, is_int_int, is_int_bool, is_int_str, is_int_tuple, is_int_list, is_str_int, is_str_bool, is_str_str, is_str_tuple, is_str_list, is_tuple_int, is_tuple_bool, is_tuple_str, is_tuple_tuple, is_tuple_list, is_list_int, is_list_bool, is_list_str, is_list_tuple, is_list_list]
        have e : List.map fmD FS' ++ [D.tup (List.map D.int M ++ [D.int (q + 4)])] = (FS' ++ [(M, q + 4)]).map fmD := by simp [fmD]
        have lb := (lb50 (L := M) (by omega) hb).mk' (by omega) (c := q + 4) (bt20 (by omega))
        rw [e]
        exact ⟨Nat.le_of_lt (sl2 (by omega)), sl2 (by have := hF'.1; omega), ⟨_, rfl⟩, s4, FS' ++ [(M, q + 4)], _, rfl, hc4, a4, hF'.add (by omega) (by omega) lb⟩
    · rintro e h ⟨⟨u5, rfl⟩, s', FS', j', rfl, hc', ha', hF'⟩
      rw [intsUp_len] at hF'
      exact tool6 hc' ha' (hF'.mono (by omega))
  · simp only [r__law_tool_5, hk, dOp, dUn, dVar, dC, slot, startE, List.map, List.length, List.replicate, List.append, List.cons_append, List.nil_append, List.set, dAnd, dOr, dNot, dtB, dtAnd, dtOr, dtNot, dIf, dtTru, truF, dNil, dCons, dTup, dLst, dCB, sNil, sSeq, sRet, sRetN, sExpr, sIf, sAsg, gN, gT, gsNil, gsCons, gS, sPar, sAug, sWhile, sFor, sBrk, sCont, sNo, sRaise, dCallP_eq, dCallD_eq, List.length_map, List.getElem?_cons_succ, List.getElem?_concat_length, set_last, get_mid, get_mid2, eqF, neF, ltF, leF, gtF, geF, isF, notF, addF, subF, mulF, fdivF, modF, powF, negF, ixF, lenF, tupF, lstF, absF, intF, gcdF, maxF, minF, Rs.to, dIsi, dIsi2, dIsE, tyN, D.isNon, dM1, dM0, srcSeq, srcRng1, srcRng2, dLc, tYesD, iaddF, isBF, notBF, srcZip, repF, sumF, allF, anyF, intsOf_map, blsOf_map, dSl, dPart, dNoPart, sliceF, at0, at1, at2, at3, at4, ix0, ix1, ix2, ix3, Dn.g0, Dn.g1, Dn.g2, Dn.g3, Dn.g4, ex_some, decide_true, decide_false, Bool.not_true, Bool.not_false, ite_true, ite_false, if_true, if_false, List.reverse_cons, List.reverse_nil, outPost, wipeE, CTg.set, setAll, appF, extF, revF, popF, Nat.zero_add, Nat.reduceAdd, is_NoneType_int, is_NoneType_bool, is_NoneType_str, is_NoneType_tuple, is_NoneType_list, is_bool_int, is_bool_bool, is_bool_str, is_bool_tuple, is_bool_list, is_int_int, is_int_bool, is_int_str, is_int_tuple, is_int_list, is_str_int, is_str_bool, is_str_str, is_str_tuple, is_str_list, is_tuple_int, is_tuple_bool, is_tuple_str, is_tuple_tuple, is_tuple_list, is_list_int, is_list_bool, is_list_str, is_list_tuple, is_list_list]
    exact tool6 hc ha (hF.mono (by decide))
theorem tool4 {x : Int} {c : List Int} {s : DrS} {L : List Int} {FS : List (List Int × Int)} {j : Hh} {k : Int} {u5 u6 : Option D} (hx1 : 1 ≤ x) (hx2 : x ≤ 5) (hc : s.c = c) (ha : 0 ≤ s.a) (hF : FI x 15 FS) (hL : (L.length : Int) = x) (hb : ∀ y ∈ L, y.natAbs ≤ 3) :
    r__law_tool_4 (endD sp__law_tool x c) [some (.ref 0), some (.int x), some (.int k), some (.ref 2), some (.ref 3), u5, u6] (H4 c s L FS j) := by
  have go : ∀ (s : DrS) , s.c = c → 0 ≤ s.a → useD sp__law_draw [.ref 0, .int 9] (H4 c s L FS j) (fun d h => ∃ (v : Int) (s1 : DrS), d = .int v ∧ 0 ≤ v ∧ v < 9 ∧ 0 ≤ s1.a ∧ s1.c = c ∧ h = H4 c s1 L FS j) := fun s hc ha => by
    refine useD_01 9 hc rfl ⟨rfl, by decide, bt_lit (by decide) (by decide), ha⟩ ?_
    rintro o s1 ⟨v, rfl, v0, v1, a1⟩ hc1
    exact ⟨_, rfl, v, s1, rfl, v0, v1, a1, hc1, rfl⟩
  have fin : ∀ (v : Int) (s1 : DrS), 0 ≤ v → v < 9 → s1.c = c → 0 ≤ s1.a → r__law_tool_5 (endD sp__law_tool x c) [some (.ref 0), some (.int x), some (.int k), some (.ref 2), some (.ref 3), u5, u6] (H4 c s1 L (FS ++ [(List.replicate x.toNat (-1), 1 + v + L.sum)]) j) := fun v s1 v0 v1 hc1 a1 => by
    have sb := sum_bd L hb
    exact tool5 hx1 hx2 hc1 a1 (hF.add (by omega) (by simp; omega) ((lb_rep (by omega) (by decide)).mk' (by simp; omega) (bt20 (by omega))))
  have c1 : (D.int (-1) :: ([] : List D)) ≠ [] ∧ 1 ≤ 1000 ∧ -1000 ≤ x ∧ x ≤ 1000 := ⟨by simp, by decide, by omega, by omega⟩
  by_cases k1 : k = 1
  · simp only [r__law_tool_4, k1, H4, dOp, dUn, dVar, dC, slot, startE, List.map, List.length, List.replicate, List.append, List.cons_append, List.nil_append, List.set, dAnd, dOr, dNot, dtB, dtAnd, dtOr, dtNot, dIf, dtTru, truF, dNil, dCons, dTup, dLst, dCB, sNil, sSeq, sRet, sRetN, sExpr, sIf, sAsg, gN, gT, gsNil, gsCons, gS, sPar, sAug, sWhile, sFor, sBrk, sCont, sNo, sRaise, dCallP_eq, dCallD_eq, List.length_map, List.getElem?_cons_succ, List.getElem?_concat_length, set_last, get_mid, get_mid2, eqF, neF, ltF, leF, gtF, geF, isF, notF, addF, subF, mulF, fdivF, modF, powF, negF, ixF, lenF, tupF, lstF, absF, intF, gcdF, maxF, minF, Rs.to, dIsi, dIsi2, dIsE, tyN, D.isNon, dM1, dM0, srcSeq, srcRng1, srcRng2, dLc, tYesD, iaddF, isBF, notBF, srcZip, repF, sumF, allF, anyF, intsOf_map, blsOf_map, dSl, dPart, dNoPart, sliceF, at0, at1, at2, at3, at4, ix0, ix1, ix2, ix3, Dn.g0, Dn.g1, Dn.g2, Dn.g3, Dn.g4, ex_some, decide_true, decide_false, Bool.not_true, Bool.not_false, ite_true, ite_false, if_true, if_false, List.reverse_cons, List.reverse_nil, outPost, wipeE, CTg.set, setAll, appF, extF, revF, popF, Nat.zero_add, Nat.reduceAdd, is_NoneType_int, is_NoneType_bool, is_NoneType_str, is_NoneType_tuple, is_NoneType_list, is_bool_int, is_bool_bool, is_bool_str, is_bool_tuple, is_bool_list, is_int_int, is_int_bool, is_int_str, is_int_tuple, is_int_list, is_str_int, is_str_bool, is_str_str, is_str_tuple, is_str_list, is_tuple_int, is_tuple_bool, is_tuple_str, is_tuple_tuple, is_tuple_list, is_list_int, is_list_bool, is_list_str, is_list_tuple, is_list_list]
    refine ⟨c1, ?_⟩
    refine useD_01 9 hc rfl ⟨rfl, by decide, bt_lit (by decide) (by decide), ha⟩ ?_
    rintro o s1 ⟨v, rfl, v0, v1, a1⟩ hc1
    refine ⟨_, rfl, ?_⟩
    simp only [rep_z, dOp, dUn, dVar, dC, slot, startE, List.map, List.length, List.replicate, List.append, List.cons_append, List.nil_append, List.set, dAnd, dOr, dNot, dtB, dtAnd, dtOr, dtNot, dIf, dtTru, truF, dNil, dCons, dTup, dLst, dCB, sNil, sSeq, sRet, sRetN, sExpr, sIf, sAsg, gN, gT, gsNil, gsCons, gS, sPar, sAug, sWhile, sFor, sBrk, sCont, sNo, sRaise, dCallP_eq, dCallD_eq, List.length_map, List.getElem?_cons_succ, List.getElem?_concat_length, set_last, get_mid, get_mid2, eqF, neF, ltF, leF, gtF, geF, isF, notF, addF, subF, mulF, fdivF, modF, powF, negF, ixF, lenF, tupF, lstF, absF, intF, gcdF, maxF, minF, Rs.to, dIsi, dIsi2, dIsE, tyN, D.isNon, dM1, dM0, srcSeq, srcRng1, srcRng2, dLc, tYesD, iaddF, isBF, notBF, srcZip, repF, sumF, allF, anyF, intsOf_map, blsOf_map, dSl, dPart, dNoPart, sliceF, at0, at1, at2, at3, at4, ix0, ix1, ix2, ix3, Dn.g0, Dn.g1, Dn.g2, Dn.g3, Dn.g4, ex_some, decide_true, decide_false, Bool.not_true, Bool.not_false, ite_true, ite_false, if_true, if_false, List.reverse_cons, List.reverse_nil, outPost, wipeE, CTg.set, setAll, appF, extF, revF, popF, Nat.zero_add, Nat.reduceAdd, is_NoneType_int, is_NoneType_bool, is_NoneType_str, is_NoneType_tuple, is_NoneType_list, is_bool_int, is_bool_bool, is_bool_str, is_bool_tuple, is_bool_list, is_int_int, is_int_bool, is_int_str, is_int_tuple, is_int_list, is_str_int, is_str_bool, is_str_str, is_str_tuple, is_str_list, is_tuple_int, is_tuple_bool, is_tuple_str, is_tuple_tuple, is_tuple_list, is_list_int, is_list_bool, is_list_str, is_list_tuple, is_list_list]
    refine ⟨Nat.le_of_lt (sl2 (by simp; omega)), sl2 (by have := hF.1; omega), ?_⟩
    have e : List.map fmD FS ++ [D.tup (List.map D.int (List.replicate x.toNat (-1)) ++ [D.int (1 + v + L.sum)])] = (FS ++ [(List.replicate x.toNat (-1), 1 + v + L.sum)]).map fmD := by simp [fmD]
    rw [e]
    subst k1
    exact fin v s1 v0 v1 hc1 a1
  · by_cases k2 : k = 2
    · simp only [r__law_tool_4, k1, k2, H4, dOp, dUn, dVar, dC, slot, startE, List.map, List.length, List.replicate, List.append, List.cons_append, List.nil_append, List.set, dAnd, dOr, dNot, dtB, dtAnd, dtOr, dtNot, dIf, dtTru, truF, dNil, dCons, dTup, dLst, dCB, sNil, sSeq, sRet, sRetN, sExpr, sIf, sAsg, gN, gT, gsNil, gsCons, gS, sPar, sAug, sWhile, sFor, sBrk, sCont, sNo, sRaise, dCallP_eq, dCallD_eq, List.length_map, List.getElem?_cons_succ, List.getElem?_concat_length, set_last, get_mid, get_mid2, eqF, neF, ltF, leF, gtF, geF, isF, notF, addF, subF, mulF, fdivF, modF, powF, negF, ixF, lenF, tupF, lstF, absF, intF, gcdF, maxF, minF, Rs.to, dIsi, dIsi2, dIsE, tyN, D.isNon, dM1, dM0, srcSeq, srcRng1, srcRng2, dLc, tYesD, iaddF, isBF, notBF, srcZip, repF, sumF, allF, anyF, intsOf_map, blsOf_map, dSl, dPart, dNoPart, sliceF, at0, at1, at2, at3, at4, ix0, ix1, ix2, ix3, Dn.g0, Dn.g1, Dn.g2, Dn.g3, Dn.g4, ex_some, decide_true, decide_false, Bool.not_true, Bool.not_false, ite_true, ite_false, if_true, if_false, List.reverse_cons, List.reverse_nil, outPost, wipeE, CTg.set, setAll, appF, extF, revF, popF, Nat.zero_add, Nat.reduceAdd, is_NoneType_int, is_NoneType_bool, is_NoneType_str, is_NoneType_tuple, is_NoneType_list, is_bool_int, is_bool_bool, is_bool_str, is_bool_tuple, is_bool_list, is_int_int, is_int_bool, is_int_str, is_int_tuple, is_int_list, is_str_int, is_str_bool, is_str_str, is_str_tuple, is_str_list, is_tuple_int, is_tuple_bool, is_tuple_str, is_tuple_tuple, is_tuple_list, is_list_int, is_list_bool, is_list_str, is_list_tuple, is_list_list]
      refine ⟨c1, ?_⟩
      refine useD_01 9 hc rfl ⟨rfl, by decide, bt_lit (by decide) (by decide), ha⟩ ?_
      rintro o s1 ⟨v, rfl, v0, v1, a1⟩ hc1
      refine ⟨_, rfl, ?_⟩
      simp only [rep_z, dOp, dUn, dVar, dC, slot, startE, List.map, List.length, List.replicate, List.append, List.cons_append, List.nil_append, List.set, dAnd, dOr, dNot, dtB, dtAnd, dtOr, dtNot, dIf, dtTru, truF, dNil, dCons, dTup, dLst, dCB, sNil, sSeq, sRet, sRetN, sExpr, sIf, sAsg, gN, gT, gsNil, gsCons, gS, sPar, sAug, sWhile, sFor, sBrk, sCont, sNo, sRaise, dCallP_eq, dCallD_eq, List.length_map, List.getElem?_cons_succ, List.getElem?_concat_length, set_last, get_mid, get_mid2, eqF, neF, ltF, leF, gtF, geF, isF, notF, addF, subF, mulF, fdivF, modF, powF, negF, ixF, lenF, tupF, lstF, absF, intF, gcdF, maxF, minF, Rs.to, dIsi, dIsi2, dIsE, tyN, D.isNon, dM1, dM0, srcSeq, srcRng1, srcRng2, dLc, tYesD, iaddF, isBF, notBF, srcZip, repF, sumF, allF, anyF, intsOf_map, blsOf_map, dSl, dPart, dNoPart, sliceF, at0, at1, at2, at3, at4, ix0, ix1, ix2, ix3, Dn.g0, Dn.g1, Dn.g2, Dn.g3, Dn.g4, ex_some, decide_true, decide_false, Bool.not_true, Bool.not_false, ite_true, ite_false, if_true, if_false, List.reverse_cons, List.reverse_nil, outPost, wipeE, CTg.set, setAll, appF, extF, revF, popF, Nat.zero_add, Nat.reduceAdd, is_NoneType_int, is_NoneType_bool, is_NoneType_str, is_NoneType_tuple, is_NoneType_list, is_bool_int, is_bool_bool, is_bool_str, is_bool_tuple, is_bool_list, is_int_int, is_int_bool, is_int_str, is_int_tuple, is_int_list, is_str_int, is_str_bool, is_str_str, is_str_tuple, is_str_list, is_tuple_int, is_tuple_bool, is_tuple_str, is_tuple_tuple, is_tuple_list, is_list_int, is_list_bool, is_list_str, is_list_tuple, is_list_list]
      refine ⟨Nat.le_of_lt (sl2 (by simp; omega)), sl2 (by have := hF.1; omega), ?_⟩
      have e : List.map fmD FS ++ [D.tup (List.map D.int (List.replicate x.toNat (-1)) ++ [D.int (1 + v + L.sum)])] = (FS ++ [(List.replicate x.toNat (-1), 1 + v + L.sum)]).map fmD := by simp [fmD]
      rw [e]
      subst k2
      exact fin v s1 v0 v1 hc1 a1
    · simp only [r__law_tool_4, k1, k2, dOp, dUn, dVar, dC, slot, startE, List.map, List.length, List.replicate, List.append, List.cons_append, List.nil_append, List.set, dAnd, dOr, dNot, dtB, dtAnd, dtOr, dtNot, dIf, dtTru, truF, dNil, dCons, dTup, dLst, dCB, sNil, sSeq, sRet, sRetN, sExpr, sIf, sAsg, gN, gT, gsNil, gsCons, gS, sPar, sAug, sWhile, sFor, sBrk, sCont, sNo, sRaise, dCallP_eq, dCallD_eq, List.length_map, List.getElem?_cons_succ, List.getElem?_concat_length, set_last, get_mid, get_mid2, eqF, neF, ltF, leF, gtF, geF, isF, notF, addF, subF, mulF, fdivF, modF, powF, negF, ixF, lenF, tupF, lstF, absF, intF, gcdF, maxF, minF, Rs.to, dIsi, dIsi2, dIsE, tyN, D.isNon, dM1, dM0, srcSeq, srcRng1, srcRng2, dLc, tYesD, iaddF, isBF, notBF, srcZip, repF, sumF, allF, anyF, intsOf_map, blsOf_map, dSl, dPart, dNoPart, sliceF, at0, at1, at2, at3, at4, ix0, ix1, ix2, ix3, Dn.g0, Dn.g1, Dn.g2, Dn.g3, Dn.g4, ex_some, decide_true, decide_false, Bool.not_true, Bool.not_false, ite_true, ite_false, if_true, if_false, List.reverse_cons, List.reverse_nil, outPost, wipeE, CTg.set, setAll, appF, extF, revF, popF, Nat.zero_add, Nat.reduceAdd, is_NoneType_int, is_NoneType_bool, is_NoneType_str, is_NoneType_tuple, is_NoneType_list, is_bool_int, is_bool_bool, is_bool_str, is_bool_tuple, is_bool_list, is_int_int, is_int_bool, is_int_str, is_int_tuple, is_int_list, is_str_int, is_str_bool, is_str_str, is_str_tuple, is_str_list, is_tuple_int, is_tuple_bool, is_tuple_str, is_tuple_tuple, is_tuple_list, is_list_int, is_list_bool, is_list_str, is_list_tuple, is_list_list]
      exact tool5 hx1 hx2 hc ha (hF.mono (by decide))
theorem w__law_tool : ∀ x ds s, sp__law_tool.pre x ds s → t__law_tool (endD sp__law_tool x s.c) (startE nm__law_tool.length (.ref 0 :: ds)) [.lst (drD 1 s), .lst (s.c.map .int)] := by
  rintro x ds s ⟨rfl, hx1, hx2, h3⟩
  simp only [t__law_tool , r__law_tool_0, nm__law_tool, dOp, dUn, dVar, dC, slot, startE, List.map, List.length, List.replicate, List.append, List.cons_append, List.nil_append, List.set, dAnd, dOr, dNot, dtB, dtAnd, dtOr, dtNot, dIf, dtTru, truF, dNil, dCons, dTup, dLst, dCB, sNil, sSeq, sRet, sRetN, sExpr, sIf, sAsg, gN, gT, gsNil, gsCons, gS, sPar, sAug, sWhile, sFor, sBrk, sCont, sNo, sRaise, dCallP_eq, dCallD_eq, List.length_map, List.getElem?_cons_succ, List.getElem?_concat_length, set_last, get_mid, get_mid2, eqF, neF, ltF, leF, gtF, geF, isF, notF, addF, subF, mulF, fdivF, modF, powF, negF, ixF, lenF, tupF, lstF, absF, intF, gcdF, maxF, minF, Rs.to, dIsi, dIsi2, dIsE, tyN, D.isNon, dM1, dM0, srcSeq, srcRng1, srcRng2, dLc, tYesD, iaddF, isBF, notBF, srcZip, repF, sumF, allF, anyF, intsOf_map, blsOf_map, dSl, dPart, dNoPart, sliceF, at0, at1, at2, at3, at4, ix0, ix1, ix2, ix3, Dn.g0, Dn.g1, Dn.g2, Dn.g3, Dn.g4, ex_some, decide_true, decide_false, Bool.not_true, Bool.not_false, ite_true, ite_false, if_true, if_false, List.reverse_cons, List.reverse_nil, outPost, wipeE, CTg.set, setAll, appF, extF, revF, popF, Nat.zero_add, Nat.reduceAdd, is_NoneType_int, is_NoneType_bool, is_NoneType_str, is_NoneType_tuple, is_NoneType_list, is_bool_int, is_bool_bool, is_bool_str, is_bool_tuple, is_bool_list, is_int_int, is_int_bool, is_int_str, is_int_tuple, is_int_list, is_str_int, is_str_bool, is_str_str, is_str_tuple, is_str_list, is_tuple_int, is_tuple_bool, is_tuple_str, is_tuple_tuple, is_tuple_list, is_list_int, is_list_bool, is_list_str, is_list_tuple, is_list_list]
  refine useD_01 4 rfl rfl ⟨rfl, by decide, bt_lit (by decide) (by decide), h3⟩ ?_
  rintro o s1 ⟨k, rfl, k0, k1, a1⟩ hc1
  refine ⟨_, rfl, ?_⟩
  simp only [r__law_tool_1, dOp, dUn, dVar, dC, slot, startE, List.map, List.length, List.replicate, List.append, List.cons_append, List.nil_append, List.set, dAnd, dOr, dNot, dtB, dtAnd, dtOr, dtNot, dIf, dtTru, truF, dNil, dCons, dTup, dLst, dCB, sNil, sSeq, sRet, sRetN, sExpr, sIf, sAsg, gN, gT, gsNil, gsCons, gS, sPar, sAug, sWhile, sFor, sBrk, sCont, sNo, sRaise, dCallP_eq, dCallD_eq, List.length_map, List.getElem?_cons_succ, List.getElem?_concat_length, set_last, get_mid, get_mid2, eqF, neF, ltF, leF, gtF, geF, isF, notF, addF, subF, mulF, fdivF, modF, powF, negF, ixF, lenF, tupF, lstF, absF, intF, gcdF, maxF, minF, Rs.to, dIsi, dIsi2, dIsE, tyN, D.isNon, dM1, dM0, srcSeq, srcRng1, srcRng2, dLc, tYesD, iaddF, isBF, notBF, srcZip, repF, sumF, allF, anyF, intsOf_map, blsOf_map, dSl, dPart, dNoPart, sliceF, at0, at1, at2, at3, at4, ix0, ix1, ix2, ix3, Dn.g0, Dn.g1, Dn.g2, Dn.g3, Dn.g4, ex_some, decide_true, decide_false, Bool.not_true, Bool.not_false, ite_true, ite_false, if_true, if_false, List.reverse_cons, List.reverse_nil, outPost, wipeE, CTg.set, setAll, appF, extF, revF, popF, Nat.zero_add, Nat.reduceAdd, is_NoneType_int, is_NoneType_bool, is_NoneType_str, is_NoneType_tuple, is_NoneType_list, is_bool_int, is_bool_bool, is_bool_str, is_bool_tuple, is_bool_list, is_int_int, is_int_bool, is_int_str, is_int_tuple, is_int_list, is_str_int, is_str_bool, is_str_str, is_str_tuple, is_str_list, is_tuple_int, is_tuple_bool, is_tuple_str, is_tuple_tuple, is_tuple_list, is_list_int, is_list_bool, is_list_str, is_list_tuple, is_list_list]
  refine ⟨⟨by omega, by omega⟩, fun i acc h => ∃ (M : List Int) (s2 : DrS), acc = M.map .int ∧ h = [.lst (drD 1 s2), .lst (s.c.map .int)] ∧ s2.c = s.c ∧ 0 ≤ s2.a ∧ M.length = i ∧ ∀ y ∈ M, y.natAbs ≤ 3, ⟨[], s1, rfl, rfl, hc1, a1, rfl, fun _ h => by cases h⟩, fun _ _ _ _ _ => trivial, ?_, ?_⟩
  · rintro i2 y acc h hy ⟨M, s2, rfl, rfl, hc2, ha2, hM, hb⟩
    obtain ⟨hi2, rfl⟩ := ints_at hy
    refine useD_01 3 hc2 rfl ⟨rfl, by decide, by decide, ha2⟩ ?_
    rintro o s4 ⟨q, rfl, w0, w1, a4⟩ hc4
    refine ⟨_, rfl, sl2 (by first | omega | (simp; omega)), M ++ [q], s4, app_int _ _, rfl, hc4, a4, by simp [hM], fun y hy => ?_⟩
    rcases List.mem_append.mp hy with z | z
    · exact hb y z
    · rw [List.mem_singleton] at z; rw [z]; omega
  · rintro acc h ⟨L, s2, rfl, rfl, hc2, ha2, hM, hb⟩
    rw [intsUp_len] at hM
    simp only [r__law_tool_2, dOp, dUn, dVar, dC, slot, startE, List.map, List.length, List.replicate, List.append, List.cons_append, List.nil_append, List.set, dAnd, dOr, dNot, dtB, dtAnd, dtOr, dtNot, dIf, dtTru, truF, dNil, dCons, dTup, dLst, dCB, sNil, sSeq, sRet, sRetN, sExpr, sIf, sAsg, gN, gT, gsNil, gsCons, gS, sPar, sAug, sWhile, sFor, sBrk, sCont, sNo, sRaise, dCallP_eq, dCallD_eq, List.length_map, List.getElem?_cons_succ, List.getElem?_concat_length, set_last, get_mid, get_mid2, eqF, neF, ltF, leF, gtF, geF, isF, notF, addF, subF, mulF, fdivF, modF, powF, negF, ixF, lenF, tupF, lstF, absF, intF, gcdF, maxF, minF, Rs.to, dIsi, dIsi2, dIsE, tyN, D.isNon, dM1, dM0, srcSeq, srcRng1, srcRng2, dLc, tYesD, iaddF, isBF, notBF, srcZip, repF, sumF, allF, anyF, intsOf_map, blsOf_map, dSl, dPart, dNoPart, sliceF, at0, at1, at2, at3, at4, ix0, ix1, ix2, ix3, Dn.g0, Dn.g1, Dn.g2, Dn.g3, Dn.g4, ex_some, decide_true, decide_false, Bool.not_true, Bool.not_false, ite_true, ite_false, if_true, if_false, List.reverse_cons, List.reverse_nil, outPost, wipeE, CTg.set, setAll, appF, extF, revF, popF, Nat.zero_add, Nat.reduceAdd, is_NoneType_int, is_NoneType_bool, is_NoneType_str, is_NoneType_tuple, is_NoneType_list, is_bool_int, is_bool_bool, is_bool_str, is_bool_tuple, is_bool_list, is_int_int, is_int_bool, is_int_str, is_int_tuple, is_int_list, is_str_int, is_str_bool, is_str_str, is_str_tuple, is_str_list, is_tuple_int, is_tuple_bool, is_tuple_str, is_tuple_tuple, is_tuple_list, is_list_int, is_list_bool, is_list_str, is_list_tuple, is_list_list]
    by_cases hk : k < 3
    · simp only [r__law_tool_3, hk, dOp, dUn, dVar, dC, slot, startE, List.map, List.length, List.replicate, List.append, List.cons_append, List.nil_append, List.set, dAnd, dOr, dNot, dtB, dtAnd, dtOr, dtNot, dIf, dtTru, truF, dNil, dCons, dTup, dLst, dCB, sNil, sSeq, sRet, sRetN, sExpr, sIf, sAsg, gN, gT, gsNil, gsCons, gS, sPar, sAug, sWhile, sFor, sBrk, sCont, sNo, sRaise, dCallP_eq, dCallD_eq, List.length_map, List.getElem?_cons_succ, List.getElem?_concat_length, set_last, get_mid, get_mid2, eqF, neF, ltF, leF, gtF, geF, isF, notF, addF, subF, mulF, fdivF, modF, powF, negF, ixF, lenF, tupF, lstF, absF, intF, gcdF, maxF, minF, Rs.to, dIsi, dIsi2, dIsE, tyN, D.isNon, dM1, dM0, srcSeq, srcRng1, srcRng2, dLc, tYesD, iaddF, isBF, notBF, srcZip, repF, sumF, allF, anyF, intsOf_map, blsOf_map, dSl, dPart, dNoPart, sliceF, at0, at1, at2, at3, at4, ix0, ix1, ix2, ix3, Dn.g0, Dn.g1, Dn.g2, Dn.g3, Dn.g4, ex_some, decide_true, decide_false, Bool.not_true, Bool.not_false, ite_true, ite_false, if_true, if_false, List.reverse_cons, List.reverse_nil, outPost, wipeE, CTg.set, setAll, appF, extF, revF, popF, Nat.zero_add, Nat.reduceAdd, is_NoneType_int, is_NoneType_bool, is_NoneType_str, is_NoneType_tuple, is_NoneType_list, is_bool_int, is_bool_bool, is_bool_str, is_bool_tuple, is_bool_list, is_int_int, is_int_bool, is_int_str, is_int_tuple, is_int_list, is_str_int, is_str_bool, is_str_str, is_str_tuple, is_str_list, is_tuple_int, is_tuple_bool, is_tuple_str, is_tuple_tuple, is_tuple_list, is_list_int, is_list_bool, is_list_str, is_list_tuple, is_list_list]
      refine ⟨⟨by omega, by omega⟩, fun i e h => (∃ u5 u6, e = [some (.ref 0), some (.int x), some (.int k), some (.ref 2), some (.ref 3), u5, u6]) ∧ ∃ s' FS' j', h = H4 s.c s' L FS' j' ∧ s'.c = s.c ∧ 0 ≤ s'.a ∧ FI x (2 * i) FS', ⟨⟨_, _, rfl⟩, s2, [], [], rfl, hc2, ha2, Nat.zero_le _, fun _ h => by cases h⟩, fun _ _ _ _ _ => trivial, ?_, ?_⟩
      · rintro i y e h hy ⟨⟨u5, u6, rfl⟩, s', FS', j', rfl, hc', ha', hF'⟩
        obtain ⟨hi, rfl⟩ := ints_at hy
        have c1 : (D.int 0 :: ([] : List D)) ≠ [] ∧ 1 ≤ 1000 ∧ -1000 ≤ 0 + (i : Int) ∧ 0 + (i : Int) ≤ 1000 := ⟨by simp, by decide, by omega, by omega⟩
        have c2 : (D.int 0 :: ([] : List D)) ≠ [] ∧ 1 ≤ 1000 ∧ -1000 ≤ x - (0 + (i : Int)) - 1 ∧ x - (0 + (i : Int)) - 1 ≤ 1000 := ⟨by simp, by decide, by omega, by omega⟩
        have e1 := at_map (l := L) (k := 0 + (i : Int)) (by omega) (by omega)
        rw [show (0 + (i : Int)).toNat = i by omega] at e1
        have hLi : (L.getD i 0).natAbs ≤ 3 := by
          have hi : i < L.length := by omega
          rw [List.getD_eq_getElem?_getD, List.getElem?_eq_getElem hi]; exact hb _ (List.getElem_mem hi)
        have eu : ∀ (a b : Int) (G : List (List Int × Int)), List.map fmD G ++ [D.tup (List.map D.int (List.replicate (0 + (i : Int)).toNat 0) ++ [D.int a] ++ List.map D.int (List.replicate (x - (0 + (i : Int)) - 1).toNat 0) ++ [D.int b])] = (G ++ [(List.replicate (0 + (i : Int)).toNat 0 ++ [a] ++ List.replicate (x - (0 + (i : Int)) - 1).toNat 0, b)]).map fmD := fun a b G => by simp [fmD]
        have lu : ∀ a b : Int, a.natAbs ≤ 1000 → b.natAbs ≤ 1000 → Lb 50 ((List.replicate (0 + (i : Int)).toNat 0 ++ [a] ++ List.replicate (x - (0 + (i : Int)) - 1).toNat 0) ++ [b]) := fun a b ha hb => by
          refine lb50 (by simp; omega) fun y hy => ?_
          simp only [List.mem_append, List.mem_singleton] at hy
          rcases hy with ((hy | hy) | hy) | hy
          · rw [List.eq_of_mem_replicate hy]; decide
          · rw [hy]; exact ha
          · rw [List.eq_of_mem_replicate hy]; decide
          · rw [hy]; exact hb
        have ln : ∀ a : Int, ((List.replicate (0 + (i : Int)).toNat 0 ++ [a] ++ List.replicate (x - (0 + (i : Int)) - 1).toNat 0).length : Int) = x := fun a => by simp; omega
        have sz1 : (List.replicate (0 + (i : Int)).toNat (0 : Int)).length + 1 ≤ sizeLine := Nat.le_of_lt (sl2 (by simp; omega))
        simp only [l1__law_tool_0, rep_z, H4, dOp, dUn, dVar, dC, slot, startE, List.map, List.length, List.replicate, List.append, List.cons_append, List.nil_append, List.set, dAnd, dOr, dNot, dtB, dtAnd, dtOr, dtNot, dIf, dtTru, truF, dNil, dCons, dTup, dLst, dCB, sNil, sSeq, sRet, sRetN, sExpr, sIf, sAsg, gN, gT, gsNil, gsCons, gS, sPar, sAug, sWhile, sFor, sBrk, sCont, sNo, sRaise, dCallP_eq, dCallD_eq, List.length_map, List.getElem?_cons_succ, List.getElem?_concat_length, set_last, get_mid, get_mid2, eqF, neF, ltF, leF, gtF, geF, isF, notF, addF, subF, mulF, fdivF, modF, powF, negF, ixF, lenF, tupF, lstF, absF, intF, gcdF, maxF, minF, Rs.to, dIsi, dIsi2, dIsE, tyN, D.isNon, dM1, dM0, srcSeq, srcRng1, srcRng2, dLc, tYesD, iaddF, isBF, notBF, srcZip, repF, sumF, allF, anyF, intsOf_map, blsOf_map, dSl, dPart, dNoPart, sliceF, at0, at1, at2, at3, at4, ix0, ix1, ix2, ix3, Dn.g0, Dn.g1, Dn.g2, Dn.g3, Dn.g4, ex_some, decide_true, decide_false, Bool.not_true, Bool.not_false, ite_true, ite_false, if_true, if_false, List.reverse_cons, List.reverse_nil, outPost, wipeE, CTg.set, setAll, appF, extF, revF, popF, Nat.zero_add, Nat.reduceAdd, is_NoneType_int, is_NoneType_bool, is_NoneType_str, is_NoneType_tuple, is_NoneType_list, is_bool_int, is_bool_bool, is_bool_str, is_bool_tuple, is_bool_list, is_int_int, is_int_bool, is_int_str, is_int_tuple, is_int_list, is_str_int, is_str_bool, is_str_str, is_str_tuple, is_str_list, is_tuple_int, is_tuple_bool, is_tuple_str, is_tuple_tuple, is_tuple_list, is_list_int, is_list_bool, is_list_str, is_list_tuple, is_list_list]
        refine ⟨c1, sz1, c2, Nat.le_of_lt (sl2 (by simp; omega)), ?_⟩
        refine useD_01 4 hc' rfl ⟨rfl, by decide, bt_lit (by decide) (by decide), ha'⟩ ?_
        rintro o s3 ⟨v, rfl, v0, v1, a3⟩ hc3
        refine ⟨_, rfl, ?_⟩
        simp only [e1, dOp, dUn, dVar, dC, slot, startE, List.map, List.length, List.replicate, List.append, List.cons_append, List.nil_append, List.set, dAnd, dOr, dNot, dtB, dtAnd, dtOr, dtNot, dIf, dtTru, truF, dNil, dCons, dTup, dLst, dCB, sNil, sSeq, sRet, sRetN, sExpr, sIf, sAsg, gN, gT, gsNil, gsCons, gS, sPar, sAug, sWhile, sFor, sBrk, sCont, sNo, sRaise, dCallP_eq, dCallD_eq, List.length_map, List.getElem?_cons_succ, List.getElem?_concat_length, set_last, get_mid, get_mid2, eqF, neF, ltF, leF, gtF, geF, isF, notF, addF, subF, mulF, fdivF, modF, powF, negF, ixF, lenF, tupF, lstF, absF, intF, gcdF, maxF, minF, Rs.to, dIsi, dIsi2, dIsE, tyN, D.isNon, dM1, dM0, srcSeq, srcRng1, srcRng2, dLc, tYesD, iaddF, isBF, notBF, srcZip, repF, sumF, allF, anyF, intsOf_map, blsOf_map, dSl, dPart, dNoPart, sliceF, at0, at1, at2, at3, at4, ix0, ix1, ix2, ix3, Dn.g0, Dn.g1, Dn.g2, Dn.g3, Dn.g4, ex_some, decide_true, decide_false, Bool.not_true, Bool.not_false, ite_true, ite_false, if_true, if_false, List.reverse_cons, List.reverse_nil, outPost, wipeE, CTg.set, setAll, appF, extF, revF, popF, Nat.zero_add, Nat.reduceAdd, is_NoneType_int, is_NoneType_bool, is_NoneType_str, is_NoneType_tuple, is_NoneType_list, is_bool_int, is_bool_bool, is_bool_str, is_bool_tuple, is_bool_list, is_int_int, is_int_bool, is_int_str, is_int_tuple, is_int_list, is_str_int, is_str_bool, is_str_str, is_str_tuple, is_str_list, is_tuple_int, is_tuple_bool, is_tuple_str, is_tuple_tuple, is_tuple_list, is_list_int, is_list_bool, is_list_str, is_list_tuple, is_list_list]
        refine ⟨Nat.le_of_lt (sl2 (by simp; omega)), sl2 (by have := hF'.1; omega), ?_⟩
        rw [eu]
        have F1 := hF'.add (k := 2 * i + 1) (Nat.le_refl _) (ln 1) (lu 1 (1 + v - L.getD i 0) (by decide) (by omega))
        by_cases k2 : k < 2
        · simp only [l1__law_tool_1, k2, rep_z, dOp, dUn, dVar, dC, slot, startE, List.map, List.length, List.replicate, List.append, List.cons_append, List.nil_append, List.set, dAnd, dOr, dNot, dtB, dtAnd, dtOr, dtNot, dIf, dtTru, truF, dNil, dCons, dTup, dLst, dCB, sNil, sSeq, sRet, sRetN, sExpr, sIf, sAsg, gN, gT, gsNil, gsCons, gS, sPar, sAug, sWhile, sFor, sBrk, sCont, sNo, sRaise, dCallP_eq, dCallD_eq, List.length_map, List.getElem?_cons_succ, List.getElem?_concat_length, set_last, get_mid, get_mid2, eqF, neF, ltF, leF, gtF, geF, isF, notF, addF, subF, mulF, fdivF, modF, powF, negF, ixF, lenF, tupF, lstF, absF, intF, gcdF, maxF, minF, Rs.to, dIsi, dIsi2, dIsE, tyN, D.isNon, dM1, dM0, srcSeq, srcRng1, srcRng2, dLc, tYesD, iaddF, isBF, notBF, srcZip, repF, sumF, allF, anyF, intsOf_map, blsOf_map, dSl, dPart, dNoPart, sliceF, at0, at1, at2, at3, at4, ix0, ix1, ix2, ix3, Dn.g0, Dn.g1, Dn.g2, Dn.g3, Dn.g4, ex_some, decide_true, decide_false, Bool.not_true, Bool.not_false, ite_true, ite_false, if_true, if_false, List.reverse_cons, List.reverse_nil, outPost, wipeE, CTg.set, setAll, appF, extF, revF, popF, Nat.zero_add, Nat.reduceAdd, is_NoneType_int, is_NoneType_bool, is_NoneType_str, is_NoneType_tuple, is_NoneType_list, is_bool_int, is_bool_bool, is_bool_str, is_bool_tuple, is_bool_list, is_int_int, is_int_bool, is_int_str, is_int_tuple, is_int_list, is_str_int, is_str_bool, is_str_str, is_str_tuple, is_str_list, is_tuple_int, is_tuple_bool, is_tuple_str, is_tuple_tuple, is_tuple_list, is_list_int, is_list_bool, is_list_str, is_list_tuple, is_list_list]
          refine ⟨c1, sz1, c2, Nat.le_of_lt (sl2 (by simp; omega)), ?_⟩
          refine useD_01 4 hc3 rfl ⟨rfl, by decide, bt_lit (by decide) (by decide), a3⟩ ?_
          rintro o s4 ⟨v', rfl, v0', v1', a4⟩ hc4
          refine ⟨_, rfl, ?_⟩
          simp only [e1, dOp, dUn, dVar, dC, slot, startE, List.map, List.length, List.replicate, List.append, List.cons_append, List.nil_append, List.set, dAnd, dOr, dNot, dtB, dtAnd, dtOr, dtNot, dIf, dtTru, truF, dNil, dCons, dTup, dLst, dCB, sNil, sSeq, sRet, sRetN, sExpr, sIf, sAsg, gN, gT, gsNil, gsCons, gS, sPar, sAug, sWhile, sFor, sBrk, sCont, sNo, sRaise, dCallP_eq, dCallD_eq, List.length_map, List.getElem?_cons_succ, List.getElem?_concat_length, set_last, get_mid, get_mid2, eqF, neF, ltF, leF, gtF, geF, isF, notF, addF, subF, mulF, fdivF, modF, powF, negF, ixF, lenF, tupF, lstF, absF, intF, gcdF, maxF, minF, Rs.to, dIsi, dIsi2, dIsE, tyN, D.isNon, dM1, dM0, srcSeq, srcRng1, srcRng2, dLc, tYesD, iaddF, isBF, notBF, srcZip, repF, sumF, allF, anyF, intsOf_map, blsOf_map, dSl, dPart, dNoPart, sliceF, at0, at1, at2, at3, at4, ix0, ix1, ix2, ix3, Dn.g0, Dn.g1, Dn.g2, Dn.g3, Dn.g4, ex_some, decide_true, decide_false, Bool.not_true, Bool.not_false, ite_true, ite_false, if_true, if_false, List.reverse_cons, List.reverse_nil, outPost, wipeE, CTg.set, setAll, appF, extF, revF, popF, Nat.zero_add, Nat.reduceAdd, is_NoneType_int, is_NoneType_bool, is_NoneType_str, is_NoneType_tuple, is_NoneType_list, is_bool_int, is_bool_bool, is_bool_str, is_bool_tuple, is_bool_list, is_int_int, is_int_bool, is_int_str, is_int_tuple, is_int_list, is_str_int, is_str_bool, is_str_str, is_str_tuple, is_str_list, is_tuple_int, is_tuple_bool, is_tuple_str, is_tuple_tuple, is_tuple_list, is_list_int, is_list_bool, is_list_str, is_list_tuple, is_list_list]
          refine ⟨Nat.le_of_lt (sl2 (by simp; omega)), sl2 (by have := F1.1; simp at this ⊢; omega), ?_⟩
          rw [eu]
          exact ⟨⟨_, _, rfl⟩, s4, _, _, rfl, hc4, a4, F1.add (k := 2 * (i + 1)) (by omega) (ln (-1)) (lu (-1) (1 + v' + L.getD i 0) (by decide) (by omega))⟩
        · simp only [l1__law_tool_1, k2, dOp, dUn, dVar, dC, slot, startE, List.map, List.length, List.replicate, List.append, List.cons_append, List.nil_append, List.set, dAnd, dOr, dNot, dtB, dtAnd, dtOr, dtNot, dIf, dtTru, truF, dNil, dCons, dTup, dLst, dCB, sNil, sSeq, sRet, sRetN, sExpr, sIf, sAsg, gN, gT, gsNil, gsCons, gS, sPar, sAug, sWhile, sFor, sBrk, sCont, sNo, sRaise, dCallP_eq, dCallD_eq, List.length_map, List.getElem?_cons_succ, List.getElem?_concat_length, set_last, get_mid, get_mid2, eqF, neF, ltF, leF, gtF, geF, isF, notF, addF, subF, mulF, fdivF, modF, powF, negF, ixF, lenF, tupF, lstF, absF, intF, gcdF, maxF, minF, Rs.to, dIsi, dIsi2, dIsE, tyN, D.isNon, dM1, dM0, srcSeq, srcRng1, srcRng2, dLc, tYesD, iaddF, isBF, notBF, srcZip, repF, sumF, allF, anyF, intsOf_map, blsOf_map, dSl, dPart, dNoPart, sliceF, at0, at1, at2, at3, at4, ix0, ix1, ix2, ix3, Dn.g0, Dn.g1, Dn.g2, Dn.g3, Dn.g4, ex_some, decide_true, decide_false, Bool.not_true, Bool.not_false, ite_true, ite_false, if_true, if_false, List.reverse_cons, List.reverse_nil, outPost, wipeE, CTg.set, setAll, appF, extF, revF, popF, Nat.zero_add, Nat.reduceAdd, is_NoneType_int, is_NoneType_bool, is_NoneType_str, is_NoneType_tuple, is_NoneType_list, is_bool_int, is_bool_bool, is_bool_str, is_bool_tuple, is_bool_list, is_int_int, is_int_bool, is_int_str, is_int_tuple, is_int_list, is_str_int, is_str_bool, is_str_str, is_str_tuple, is_str_list, is_tuple_int, is_tuple_bool, is_tuple_str, is_tuple_tuple, is_tuple_list, is_list_int, is_list_bool, is_list_str, is_list_tuple, is_list_list]
          exact ⟨⟨_, _, rfl⟩, s3, _, _, rfl, hc3, a3, F1.mono (by omega)⟩
      · rintro e h ⟨⟨u5, u6, rfl⟩, s', FS', j', rfl, hc', ha', hF'⟩
        rw [intsUp_len] at hF'
        exact tool4 hx1 hx2 hc' ha' (hF'.mono (by omega)) (by omega) hb
    · simp only [r__law_tool_3, hk, dOp, dUn, dVar, dC, slot, startE, List.map, List.length, List.replicate, List.append, List.cons_append, List.nil_append, List.set, dAnd, dOr, dNot, dtB, dtAnd, dtOr, dtNot, dIf, dtTru, truF, dNil, dCons, dTup, dLst, dCB, sNil, sSeq, sRet, sRetN, sExpr, sIf, sAsg, gN, gT, gsNil, gsCons, gS, sPar, sAug, sWhile, sFor, sBrk, sCont, sNo, sRaise, dCallP_eq, dCallD_eq, List.length_map, List.getElem?_cons_succ, List.getElem?_concat_length, set_last, get_mid, get_mid2, eqF, neF, ltF, leF, gtF, geF, isF, notF, addF, subF, mulF, fdivF, modF, powF, negF, ixF, lenF, tupF, lstF, absF, intF, gcdF, maxF, minF, Rs.to, dIsi, dIsi2, dIsE, tyN, D.isNon, dM1, dM0, srcSeq, srcRng1, srcRng2, dLc, tYesD, iaddF, isBF, notBF, srcZip, repF, sumF, allF, anyF, intsOf_map, blsOf_map, dSl, dPart, dNoPart, sliceF, at0, at1, at2, at3, at4, ix0, ix1, ix2, ix3, Dn.g0, Dn.g1, Dn.g2, Dn.g3, Dn.g4, ex_some, decide_true, decide_false, Bool.not_true, Bool.not_false, ite_true, ite_false, if_true, if_false, List.reverse_cons, List.reverse_nil, outPost, wipeE, CTg.set, setAll, appF, extF, revF, popF, Nat.zero_add, Nat.reduceAdd, is_NoneType_int, is_NoneType_bool, is_NoneType_str, is_NoneType_tuple, is_NoneType_list, is_bool_int, is_bool_bool, is_bool_str, is_bool_tuple, is_bool_list, is_int_int, is_int_bool, is_int_str, is_int_tuple, is_int_list, is_str_int, is_str_bool, is_str_str, is_str_tuple, is_str_list, is_tuple_int, is_tuple_bool, is_tuple_str, is_tuple_tuple, is_tuple_list, is_list_int, is_list_bool, is_list_str, is_list_tuple, is_list_list]
      exact tool4 (FS := []) (j := []) hx1 hx2 hc2 ha2 ⟨Nat.zero_le _, fun _ h => by cases h⟩ (by omega) hb

theorem ok__law_tool (T : Txt K mg) : Ok P w K mg base 3 "_law_tool" ["draws", "size"] (spD K sp__law_tool) :=
  okOf T.d__law_tool fun f fd F => fnD (k := 2) sp__law_tool t__law_tool F sc__law_tool (fun x ds s hp => len__law_tool x ds s hp) (fun cdv A outer s H E hr z => by
    have hu := hr.units; have hnd := sc__law_tool.nd
    unfold t__law_tool r__law_tool_0 r__law_tool_1 r__law_tool_2 r__law_tool_3 r__law_tool_4 r__law_tool_5 r__law_tool_6 l2__law_tool_0 l1__law_tool_0 l1__law_tool_1
    exact (dss_cons (ds_set 2 hnd rfl (by walk_at "locs") (dn_callD ((ok__law_draw (P := P) (w := w) (base := base) T).mono (by decide)) hr (takes_of rfl rfl rfl rfl) rfl (by decide) (da_cons (de_var 0 rfl (by walk_at "vis") (by decide) (by decide)) (da_cons de_int da_nil rfl) rfl) rfl rfl) rfl (by walk_at "fnn"))
    (dss_cons (ds_setLc 3 (own := [("k", 5)]) (c := (.one 5)) (tt := tYesD) (te := (dCallD sp__law_near (dCons (dVar 0) (dCons (dC (.int 3)) dNil)))) rfl hnd rfl rfl (sw_true rfl rfl rfl (by decide +kernel)) (di_rng1 rfl T.b_range (da_cons (de_var 1 rfl (by walk_at "vis") (by decide) (by decide)) da_nil rfl) rfl) (blkOk_by (N := nm__law_tool) (sc := defScope s__law_tool) (by decide +kernel)) (by decide) (fun _ _ _ _ _ => pg_name (i := 5) hnd rfl (by walk_at "locs") (by walk_at "fnn")) (fun _ _ _ _ _ => dts_nil) (fun _ _ _ _ _ => (dn_callD ((ok__law_near (P := P) (w := w) (base := base) T).mono (by decide)) hr takes0 rfl (by decide) (da_cons (de_var 0 rfl (by walk_at "vis") (by decide) (by decide)) (da_cons de_int da_nil rfl) rfl) rfl rfl)) (fun _ => rfl))
    (dss_cons (ds_set 4 hnd rfl (by walk_at "locs") (de_lst da_nil (by decide)) rfl (by walk_at "fnn"))
    (dss_cons (ds_if (dt_cmp op_lt od_lt (de_var 2 rfl (by walk_at "vis") (by decide) (by decide)) de_int (nomark _)) (dss_one (ds_for (passes_of (K := fun e s'' => L2.CX P w outer H s E e s'') (E₁ := fun e s'' => L2.CX P w outer H s E e s'') rfl) rfl (di_rng1 rfl T.b_range (da_cons (de_var 1 rfl (by walk_at "vis") (by decide) (by decide)) da_nil rfl) rfl) (dg_name 5 hnd rfl (by walk_at "locs") (by walk_at "fnn")) (dss_cons (ds_expr (de_m1 (f := appF) PySem.F.slot_list_append PySem.F.type_list_append mt_append m1_app (de_var 4 rfl (by walk_at "vis") (by decide) (by decide)) (de_add (de_add (de_add (de_rep (de_tup (da_cons de_int da_nil rfl) (by decide)) (de_var 5 rfl (by walk_at "vis") (by decide) (by decide))) (de_tup (da_cons de_int da_nil rfl) (by decide))) (de_rep (de_tup (da_cons de_int da_nil rfl) (by decide)) (de_minus (de_minus (de_var 1 rfl (by walk_at "vis") (by decide) (by decide)) (de_var 5 rfl (by walk_at "vis") (by decide) (by decide))) de_int))) (de_tup (da_cons (de_minus (de_add de_int (dn_callD ((ok__law_draw (P := P) (w := w) (base := base) T).mono (by decide)) hr (takes_of rfl rfl rfl rfl) rfl (by decide) (da_cons (de_var 0 rfl (by walk_at "vis") (by decide) (by decide)) (da_cons de_int da_nil rfl) rfl) rfl rfl)) (de_ix (de_var 3 rfl (by walk_at "vis") (by decide) (by decide)) (de_var 5 rfl (by walk_at "vis") (by decide) (by decide)) (fun _ _ => rfl))) da_nil rfl) (by decide))) rfl rfl rfl rfl rfl) rfl)
    (dss_one (ds_if (dt_cmp op_lt od_lt (de_var 2 rfl (by walk_at "vis") (by decide) (by decide)) de_int (nomark _)) (dss_one (ds_expr (de_m1 (f := appF) PySem.F.slot_list_append PySem.F.type_list_append mt_append m1_app (de_var 4 rfl (by walk_at "vis") (by decide) (by decide)) (de_add (de_add (de_add (de_rep (de_tup (da_cons de_int da_nil rfl) (by decide)) (de_var 5 rfl (by walk_at "vis") (by decide) (by decide))) (de_tup (da_cons (de_neg de_int) da_nil rfl) (by decide))) (de_rep (de_tup (da_cons de_int da_nil rfl) (by decide)) (de_minus (de_minus (de_var 1 rfl (by walk_at "vis") (by decide) (by decide)) (de_var 5 rfl (by walk_at "vis") (by decide) (by decide))) de_int))) (de_tup (da_cons (de_add (de_add de_int (dn_callD ((ok__law_draw (P := P) (w := w) (base := base) T).mono (by decide)) hr (takes_of rfl rfl rfl rfl) rfl (by decide) (da_cons (de_var 0 rfl (by walk_at "vis") (by decide) (by decide)) (da_cons de_int da_nil rfl) rfl) rfl rfl)) (de_ix (de_var 3 rfl (by walk_at "vis") (by decide) (by decide)) (de_var 5 rfl (by walk_at "vis") (by decide) (by decide)) (fun _ _ => rfl))) da_nil rfl) (by decide))) rfl rfl rfl rfl rfl) rfl)) dss_nil))) (fun _ => rfl))) dss_nil)
    (dss_cons (ds_if (dw_pt (dw_or (dt_cmp (op_eqA hu) od_eq (de_var 2 rfl (by walk_at "vis") (by decide) (by decide)) de_int (nomark _)) (dw_or1 (dt_cmp (op_eqA hu) od_eq (de_var 2 rfl (by walk_at "vis") (by decide) (by decide)) de_int (nomark _))))) (dss_one (ds_expr (de_m1 (f := appF) PySem.F.slot_list_append PySem.F.type_list_append mt_append m1_app (de_var 4 rfl (by walk_at "vis") (by decide) (by decide)) (de_add (de_rep (de_tup (da_cons (de_neg de_int) da_nil rfl) (by decide)) (de_var 1 rfl (by walk_at "vis") (by decide) (by decide))) (de_tup (da_cons (de_add (de_add de_int (dn_callD ((ok__law_draw (P := P) (w := w) (base := base) T).mono (by decide)) hr (takes_of rfl rfl rfl rfl) rfl (by decide) (da_cons (de_var 0 rfl (by walk_at "vis") (by decide) (by decide)) (da_cons de_int da_nil rfl) rfl) rfl rfl)) (de_callB (f := sumF) (cr_sum rfl) cd_sum rfl T.b_sum (by decide +kernel) (da_cons (de_var 3 rfl (by walk_at "vis") (by decide) (by decide)) da_nil rfl) (by decide) (by decide) rfl rfl)) da_nil rfl) (by decide))) rfl rfl rfl rfl rfl) rfl)) dss_nil)
    (dss_cons (ds_if (dt_cmp (op_eqA hu) od_eq (de_var 2 rfl (by walk_at "vis") (by decide) (by decide)) de_int (nomark _)) (dss_one (ds_for (passes_of (K := fun e s'' => L2.CX P w outer H s E e s'') (E₁ := fun e s'' => L2.CX P w outer H s E e s'') rfl) rfl (di_rng1 rfl T.b_range (da_cons (de_add de_int (dn_callD ((ok__law_draw (P := P) (w := w) (base := base) T).mono (by decide)) hr (takes_of rfl rfl rfl rfl) rfl (by decide) (da_cons (de_var 0 rfl (by walk_at "vis") (by decide) (by decide)) (da_cons (de_add (de_var 1 rfl (by walk_at "vis") (by decide) (by decide)) de_int) da_nil rfl) rfl) rfl rfl)) da_nil rfl) rfl) (dg_name 5 hnd rfl (by walk_at "locs") (by walk_at "fnn")) (dss_one (ds_expr (de_m1 (f := appF) PySem.F.slot_list_append PySem.F.type_list_append mt_append m1_app (de_var 4 rfl (by walk_at "vis") (by decide) (by decide)) (de_callTy (f := tupF) call_tuple_of cd_tup rfl T.b_tuple (by decide +kernel) (da_cons (de_add (de_lc (own := [("j", 6)]) (c := (.one 6)) (tt := tYesD) (te := (dCallD sp__law_near (dCons (dVar 0) (dCons (dC (.int 4)) dNil)))) rfl hnd (di_rng1 rfl T.b_range (da_cons (de_var 1 rfl (by walk_at "vis") (by decide) (by decide)) da_nil rfl) rfl) (blkOk_by (N := nm__law_tool) (sc := defScope s__law_tool) (by decide +kernel)) (by decide) (fun _ _ _ _ _ => pg_name (i := 6) hnd rfl (by walk_at "locs") (by walk_at "fnn")) (fun _ _ _ _ _ => dts_nil) (fun _ _ _ _ _ => (dn_callD ((ok__law_near (P := P) (w := w) (base := base) T).mono (by decide)) hr takes0 rfl (by decide) (da_cons (de_var 0 rfl (by walk_at "vis") (by decide) (by decide)) (da_cons de_int da_nil rfl) rfl) rfl rfl)) (fun _ => rfl)) (de_lst (da_cons (de_add (dn_callD ((ok__law_near (P := P) (w := w) (base := base) T).mono (by decide)) hr (takes_of rfl rfl rfl rfl) rfl (by decide) (da_cons (de_var 0 rfl (by walk_at "vis") (by decide) (by decide)) (da_cons de_int da_nil rfl) rfl) rfl rfl) de_int) da_nil rfl) (by decide))) da_nil rfl) (by decide) (by decide) rfl rfl) rfl rfl rfl rfl rfl) rfl)) (fun _ => rfl))) dss_nil)
    (dss_one (ds_ret (de_callTy (f := tupF) call_tuple_of cd_tup rfl T.b_tuple (by decide +kernel) (da_cons (de_var 4 rfl (by walk_at "vis") (by decide) (by decide)) da_nil rfl) (by decide) (by decide) rfl rfl)))))))))) w__law_tool
/-! ### _law_tip_at -/
structure SVT where
  s : List Int
  w : Int
  v : List Int
  u : Int
  a : Int
  b : Int
def sp__law_tip_at : Spc SVT where
  pre := fun x ds => ds = [tI (x.s ++ [x.w]), tI (x.v ++ [x.u]), .tup [.int x.a, .int x.b]] ∧ x.s.length = x.v.length ∧ x.s.length ≤ 10 ∧ Lb 50 (x.s ++ [x.w]) ∧ Lb 50 (x.v ++ [x.u]) ∧ 0 < x.w ∧ 0 < x.u ∧ 0 < x.b ∧ Bt 50 x.a ∧ Bt 50 x.b
  res := fun x o => ∃ (l : List Int) (r g : Int), o = .val (tI (l ++ [r])) ∧ 0 < g ∧ 0 < r ∧ l.length = x.s.length ∧ r * g = x.w * x.u * x.b ∧ (∀ k, k < x.s.length → l.getD k 0 * g = x.s.getD k 0 * x.u * x.b + x.v.getD k 0 * x.w * x.a) ∧ Lb 151 (l ++ [r])
  exc := fun _ _ => False

def r__law_tip_at_3 : dS :=
  (sRet (dCallP sp__law_low (dCons (dCB tupF (dCons (dOp addF (dVar 5) (dLst (dCons (dOp mulF (dOp mulF (dVar 3) (dVar 4)) (dOp ixF (dVar 2) (dC (.int 1)))) dNil))) dNil)) dNil)))
def r__law_tip_at_2 : dS :=
  (sSeq (sAsg (dLc (srcRng1 (dCons (dOp subF (dCB lenF (dCons (dVar 0) dNil)) (dC (.int 1))) dNil)) (.one 6) [6] tYesD (dOp addF (dOp mulF (dOp mulF (dOp ixF (dVar 0) (dVar 6)) (dVar 4)) (dOp ixF (dVar 2) (dC (.int 1)))) (dOp mulF (dOp mulF (dOp ixF (dVar 1) (dVar 6)) (dVar 3)) (dOp ixF (dVar 2) (dC (.int 0)))))) (gN 5)) (r__law_tip_at_3))
def r__law_tip_at_1 : dS :=
  (sSeq (sAsg (dOp ixF (dVar 1) (dUn negF (dC (.int 1)))) (gN 4)) (r__law_tip_at_2))
def r__law_tip_at_0 : dS :=
  (sSeq (sAsg (dOp ixF (dVar 0) (dUn negF (dC (.int 1)))) (gN 3)) (r__law_tip_at_1))
def t__law_tip_at : dS :=
  (r__law_tip_at_0)
theorem len__law_tip_at : ∀ x ds, sp__law_tip_at.pre x ds → ds.length = 3 := fun x ds h => by rw [h.1]; rfl
theorem w__law_tip_at : ∀ x ds, sp__law_tip_at.pre x ds → t__law_tip_at (endP sp__law_tip_at x) (startE nm__law_tip_at.length ds) [] := by
  rintro ⟨s, w, v, u, a, b⟩ ds ⟨rfl, hsv, hs, hS, hV, hw, hu, hb, ba, bb⟩
  simp only at hsv hs hS hV hw hu hb ba bb
  have s0 := hS.app
  have v0 := hV.app
  simp only [t__law_tip_at , r__law_tip_at_0, r__law_tip_at_1, r__law_tip_at_2, nm__law_tip_at, len1, at_lasti, dOp, dUn, dVar, dC, slot, startE, List.map, List.length, List.replicate, List.append, List.cons_append, List.nil_append, List.set, dAnd, dOr, dNot, dtB, dtAnd, dtOr, dtNot, dIf, dtTru, truF, dNil, dCons, dTup, dLst, dCB, sNil, sSeq, sRet, sRetN, sExpr, sIf, sAsg, gN, gT, gsNil, gsCons, gS, sPar, sAug, sWhile, sFor, sBrk, sCont, sNo, sRaise, dCallP_eq, dCallD_eq, List.length_map, List.getElem?_cons_succ, List.getElem?_concat_length, set_last, get_mid, get_mid2, eqF, neF, ltF, leF, gtF, geF, isF, notF, addF, subF, mulF, fdivF, modF, powF, negF, ixF, lenF, tupF, lstF, absF, intF, gcdF, maxF, minF, Rs.to, dIsi, dIsi2, dIsE, tyN, D.isNon, dM1, dM0, srcSeq, srcRng1, srcRng2, dLc, tYesD, iaddF, isBF, notBF, srcZip, repF, sumF, allF, anyF, intsOf_map, blsOf_map, dSl, dPart, dNoPart, sliceF, at0, at1, at2, at3, at4, ix0, ix1, ix2, ix3, Dn.g0, Dn.g1, Dn.g2, Dn.g3, Dn.g4, ex_some, decide_true, decide_false, Bool.not_true, Bool.not_false, ite_true, ite_false, if_true, if_false, List.reverse_cons, List.reverse_nil, outPost, wipeE, CTg.set, setAll, appF, extF, revF, popF, Nat.zero_add, Nat.reduceAdd, is_NoneType_int, is_NoneType_bool, is_NoneType_str, is_NoneType_tuple, is_NoneType_list, is_bool_int, is_bool_bool, is_bool_str, is_bool_tuple, is_bool_list, is_int_int, is_int_bool, is_int_str, is_int_tuple, is_int_list, is_str_int, is_str_bool, is_str_str, is_str_tuple, is_str_list, is_tuple_int, is_tuple_bool, is_tuple_str, is_tuple_tuple, is_tuple_list, is_list_int, is_list_bool, is_list_str, is_list_tuple, is_list_list]
  refine ⟨⟨by omega, by omega⟩, fun i acc h => acc = ((List.range i).map fun k => s.getD k 0 * u * b + v.getD k 0 * w * a).map .int ∧ h = [], ⟨rfl, rfl⟩, fun _ _ _ _ _ => trivial, ?_, ?_⟩
  · rintro i y acc h hy ⟨rfl, rfl⟩
    obtain ⟨hi, rfl⟩ := ints_at hy
    have e1 := at_app (l := s) (c := w) (k := 0 + (i : Int)) (by omega) (by omega)
    have e2 := at_app (l := v) (c := u) (k := 0 + (i : Int)) (by omega) (by omega)
    rw [show (0 + (i : Int)).toNat = i by omega] at e1 e2
    simp only [e1, e2, dOp, dUn, dVar, dC, slot, startE, List.map, List.length, List.replicate, List.append, List.cons_append, List.nil_append, List.set, dAnd, dOr, dNot, dtB, dtAnd, dtOr, dtNot, dIf, dtTru, truF, dNil, dCons, dTup, dLst, dCB, sNil, sSeq, sRet, sRetN, sExpr, sIf, sAsg, gN, gT, gsNil, gsCons, gS, sPar, sAug, sWhile, sFor, sBrk, sCont, sNo, sRaise, dCallP_eq, dCallD_eq, List.length_map, List.getElem?_cons_succ, List.getElem?_concat_length, set_last, get_mid, get_mid2, eqF, neF, ltF, leF, gtF, geF, isF, notF, addF, subF, mulF, fdivF, modF, powF, negF, ixF, lenF, tupF, lstF, absF, intF, gcdF, maxF, minF, Rs.to, dIsi, dIsi2, dIsE, tyN, D.isNon, dM1, dM0, srcSeq, srcRng1, srcRng2, dLc, tYesD, iaddF, isBF, notBF, srcZip, repF, sumF, allF, anyF, intsOf_map, blsOf_map, dSl, dPart, dNoPart, sliceF, at0, at1, at2, at3, at4, ix0, ix1, ix2, ix3, Dn.g0, Dn.g1, Dn.g2, Dn.g3, Dn.g4, ex_some, decide_true, decide_false, Bool.not_true, Bool.not_false, ite_true, ite_false, if_true, if_false, List.reverse_cons, List.reverse_nil, outPost, wipeE, CTg.set, setAll, appF, extF, revF, popF, Nat.zero_add, Nat.reduceAdd, is_NoneType_int, is_NoneType_bool, is_NoneType_str, is_NoneType_tuple, is_NoneType_list, is_bool_int, is_bool_bool, is_bool_str, is_bool_tuple, is_bool_list, is_int_int, is_int_bool, is_int_str, is_int_tuple, is_int_list, is_str_int, is_str_bool, is_str_str, is_str_tuple, is_str_list, is_tuple_int, is_tuple_bool, is_tuple_str, is_tuple_tuple, is_tuple_list, is_list_int, is_list_bool, is_list_str, is_list_tuple, is_list_list]
    refine ⟨bt_mul (s0.1.getD i) v0.2 (by decide), bt_mul (bits_mul (s0.1.getD i) v0.2) (bt_mono bb (by decide)) (by decide), bt_mul (v0.1.getD i) s0.2 (by decide), bt_mul (bits_mul (v0.1.getD i) s0.2) (bt_mono ba (by decide)) (by decide), sl2 (by simp; omega), ?_, trivial⟩
    rw [range_at]; simp
  · rintro acc h ⟨rfl, rfl⟩
    rw [intsUp_len, Int.toNat_natCast]
    simp only [r__law_tip_at_3, at_lasti, dOp, dUn, dVar, dC, slot, startE, List.map, List.length, List.replicate, List.append, List.cons_append, List.nil_append, List.set, dAnd, dOr, dNot, dtB, dtAnd, dtOr, dtNot, dIf, dtTru, truF, dNil, dCons, dTup, dLst, dCB, sNil, sSeq, sRet, sRetN, sExpr, sIf, sAsg, gN, gT, gsNil, gsCons, gS, sPar, sAug, sWhile, sFor, sBrk, sCont, sNo, sRaise, dCallP_eq, dCallD_eq, List.length_map, List.getElem?_cons_succ, List.getElem?_concat_length, set_last, get_mid, get_mid2, eqF, neF, ltF, leF, gtF, geF, isF, notF, addF, subF, mulF, fdivF, modF, powF, negF, ixF, lenF, tupF, lstF, absF, intF, gcdF, maxF, minF, Rs.to, dIsi, dIsi2, dIsE, tyN, D.isNon, dM1, dM0, srcSeq, srcRng1, srcRng2, dLc, tYesD, iaddF, isBF, notBF, srcZip, repF, sumF, allF, anyF, intsOf_map, blsOf_map, dSl, dPart, dNoPart, sliceF, at0, at1, at2, at3, at4, ix0, ix1, ix2, ix3, Dn.g0, Dn.g1, Dn.g2, Dn.g3, Dn.g4, ex_some, decide_true, decide_false, Bool.not_true, Bool.not_false, ite_true, ite_false, if_true, if_false, List.reverse_cons, List.reverse_nil, outPost, wipeE, CTg.set, setAll, appF, extF, revF, popF, Nat.zero_add, Nat.reduceAdd, is_NoneType_int, is_NoneType_bool, is_NoneType_str, is_NoneType_tuple, is_NoneType_list, is_bool_int, is_bool_bool, is_bool_str, is_bool_tuple, is_bool_list, is_int_int, is_int_bool, is_int_str, is_int_tuple, is_int_list, is_str_int, is_str_bool, is_str_str, is_str_tuple, is_str_list, is_tuple_int, is_tuple_bool, is_tuple_str, is_tuple_tuple, is_tuple_list, is_list_int, is_list_bool, is_list_str, is_list_tuple, is_list_list]
    refine ⟨bt_mul s0.2 v0.2 (by decide), bt_mul (bits_mul s0.2 v0.2) (bt_mono bb (by decide)) (by decide), Nat.le_of_lt (sl2 (by simp; omega)), ?_⟩
    rw [app_int]
    refine low_range (m := 151) (by omega) (fun k _ => bits_add (bits_mul (bits_mul (s0.1.getD k) v0.2) bb) (bits_mul (bits_mul (v0.1.getD k) s0.2) ba)) (bt_mono (bits_mul (bits_mul s0.2 v0.2) bb) (by decide)) (by decide) (Int.mul_pos (Int.mul_pos hw hu) hb) fun l q g g0 q0 hl hq hF hb' => ?_
    exact rt_val (ints_pure _) ⟨l, q, g, rfl, g0, q0, hl, hq, hF, hb'⟩

theorem ok__law_tip_at (T : Txt K mg) : Ok P w K mg base 3 "_law_tip_at" ["start", "vector", "time"] (spP K mg sp__law_tip_at) :=
  okOf T.d__law_tip_at fun f fd F => fnP (k := 2) sp__law_tip_at t__law_tip_at F sc__law_tip_at (fun x ds hp => len__law_tip_at x ds hp) (fun cdv A outer s H E hr z => by
    have hu := hr.units; have hnd := sc__law_tip_at.nd
    unfold t__law_tip_at r__law_tip_at_0 r__law_tip_at_1 r__law_tip_at_2 r__law_tip_at_3
    exact (dss_cons (ds_set 3 hnd rfl (by walk_at "locs") (de_ix (de_var 0 rfl (by walk_at "vis") (by decide) (by decide)) (de_neg de_int) (fun _ _ => rfl)) rfl (by walk_at "fnn"))
    (dss_cons (ds_set 4 hnd rfl (by walk_at "locs") (de_ix (de_var 1 rfl (by walk_at "vis") (by decide) (by decide)) (de_neg de_int) (fun _ _ => rfl)) rfl (by walk_at "fnn"))
    (dss_cons (ds_setLc 5 (own := [("k", 6)]) (c := (.one 6)) (tt := tYesD) (te := (dOp addF (dOp mulF (dOp mulF (dOp ixF (dVar 0) (dVar 6)) (dVar 4)) (dOp ixF (dVar 2) (dC (.int 1)))) (dOp mulF (dOp mulF (dOp ixF (dVar 1) (dVar 6)) (dVar 3)) (dOp ixF (dVar 2) (dC (.int 0)))))) rfl hnd rfl rfl (sw_true rfl rfl rfl (by decide +kernel)) (di_rng1 rfl T.b_range (da_cons (de_minus (de_callB (f := lenF) call_len_seq cd_len rfl T.b_len (by decide +kernel) (da_cons (de_var 0 rfl (by walk_at "vis") (by decide) (by decide)) da_nil rfl) (by decide) (by decide) rfl rfl) de_int) da_nil rfl) rfl) (blkOk_by (N := nm__law_tip_at) (sc := defScope s__law_tip_at) (by decide +kernel)) (by decide) (fun _ _ _ _ _ => pg_name (i := 6) hnd rfl (by walk_at "locs") (by walk_at "fnn")) (fun _ _ _ _ _ => dts_nil) (fun _ _ _ _ _ => (de_add (de_mul (de_mul (de_ix (de_var 0 rfl (by walk_at "vis") (by decide) (by decide)) (de_var 6 rfl (by walk_at "vis") (by decide) (by decide)) (fun _ _ => rfl)) (de_var 4 rfl (by walk_at "vis") (by decide) (by decide))) (de_ix (de_var 2 rfl (by walk_at "vis") (by decide) (by decide)) de_int (fun _ _ => rfl))) (de_mul (de_mul (de_ix (de_var 1 rfl (by walk_at "vis") (by decide) (by decide)) (de_var 6 rfl (by walk_at "vis") (by decide) (by decide)) (fun _ _ => rfl)) (de_var 3 rfl (by walk_at "vis") (by decide) (by decide))) (de_ix (de_var 2 rfl (by walk_at "vis") (by decide) (by decide)) de_int (fun _ _ => rfl))))) (fun _ => rfl))
    (dss_one (ds_ret (dn_callP ((ok__law_low (P := P) (w := w) (base := base) T).mono (by decide)) hr (takes_of rfl rfl rfl rfl) rfl (by decide) (da_cons (de_callTy (f := tupF) call_tuple_of cd_tup rfl T.b_tuple (by decide +kernel) (da_cons (de_add (de_var 5 rfl (by walk_at "vis") (by decide) (by decide)) (de_lst (da_cons (de_mul (de_mul (de_var 3 rfl (by walk_at "vis") (by decide) (by decide)) (de_var 4 rfl (by walk_at "vis") (by decide) (by decide))) (de_ix (de_var 2 rfl (by walk_at "vis") (by decide) (by decide)) de_int (fun _ _ => rfl))) da_nil rfl) (by decide))) da_nil rfl) (by decide) (by decide) rfl rfl) da_nil rfl) rfl rfl))))))) w__law_tip_at
/-! ### law -/
abbrev sp_law : Spc (List Int) := lawSpc 63

def l2_law_7 : dS :=
  (sIf (dtNot (dtTru (dCallP (sp__law_same 3) (dCons (dCallP sp_holds (dCons (dVar 7) (dCons (dCallP sp__law_low (dCons (dVar 15) dNil)) dNil))) (dCons (dVar 14) dNil))))) (sRet (dC (.bl false))) sNil)
def l2_law_6 : dS :=
  (sSeq (sAsg (dCB tupF (dCons (dOp addF (dLc (srcSeq (dSl (dVar 12) dNoPart (dPart (dUn negF (dC (.int 1)))))) (.one 17) [17] tYesD (dOp mulF (dVar 17) (dOp ixF (dVar 10) (dC (.int 1))))) (dLst (dCons (dOp mulF (dOp ixF (dVar 10) (dC (.int 0))) (dOp ixF (dVar 12) (dUn negF (dC (.int 1))))) (dCons (dOp mulF (dOp ixF (dVar 10) (dC (.int 1))) (dOp ixF (dVar 12) (dUn negF (dC (.int 1))))) dNil)))) dNil)) (gN 15)) (l2_law_7))
def l2_law_5 : dS :=
  (sSeq (sAsg (dAnd (dVar 14) (dOp eqF (dCB lenF (dCons (dLc (srcSeq (dVar 4)) (.one 16) [16] (dtB (dOp leF (dCallP sp__law_weight (dCons (dVar 16) (dCons (dVar 13) dNil))) (dC (.int 0)))) (dVar 16)) dNil)) (dC (.int 0)))) (gN 14)) (l2_law_6))
def l2_law_4 : dS :=
  (sSeq (sAsg (dAnd (dOp geF (dOp ixF (dVar 10) (dC (.int 0))) (dC (.int 0))) (dOp leF (dOp ixF (dVar 10) (dC (.int 0))) (dOp ixF (dVar 10) (dC (.int 1))))) (gN 14)) (l2_law_5))
def l2_law_3 : dS :=
  (sSeq (sAsg (dCallP sp__law_gap (dCons (dVar 12) (dCons (dVar 11) dNil))) (gN 13)) (l2_law_4))
def l2_law_2 : dS :=
  (sSeq (sAsg (dCallP sp__law_low (dCons (dCB tupF (dCons (dOp addF (dLc (srcSeq (dSl (dVar 11) dNoPart (dPart (dUn negF (dC (.int 1)))))) (.one 17) [17] tYesD (dOp addF (dVar 17) (dOp mulF (dCallD sp__law_near (dCons (dVar 1) (dCons (dC (.int 5)) dNil))) (dOp ixF (dVar 11) (dUn negF (dC (.int 1))))))) (dLst (dCons (dOp ixF (dVar 11) (dUn negF (dC (.int 1)))) dNil))) dNil)) dNil)) (gN 12)) (l2_law_3))
def l2_law_1 : dS :=
  (sSeq (sAsg (dCallP sp__law_tip_at (dCons (dVar 5) (dCons (dVar 6) (dCons (dVar 10) dNil)))) (gN 11)) (l2_law_2))
def l2_law_0 : dS :=
  (sSeq (sAsg (dCallP sp__law_ratio (dCons (dOp subF (dCallD sp__law_draw (dCons (dVar 1) (dCons (dC (.int 9)) dNil))) (dC (.int 2))) (dCons (dOp addF (dC (.int 1)) (dCallD sp__law_draw (dCons (dVar 1) (dCons (dC (.int 6)) dNil)))) dNil))) (gN 10)) (l2_law_1))
def l1_law_7 : dS :=
  (sFor (srcRng1 (dCons (dC (.int 4)) dNil)) (gN 9) (l2_law_0))
def l1_law_6 : dS :=
  (sSeq (sIf (dtNot (dtTru (dCallP (sp__law_same 3) (dCons (dVar 7) (dCons (dCB tupF (dCons (dVar 8) dNil)) dNil))))) (sRet (dC (.bl false))) sNil) (l1_law_7))
def l1_law_5 : dS :=
  (sSeq (sAsg (dOp addF (dVar 8) (dLst (dCons (dTup (dCons (dOp addF (dOp repF (dTup (dCons (dC (.int 0)) dNil)) (dVar 2)) (dTup (dCons (dC (.int 1)) (dCons (dC (.int 0)) dNil)))) (dCons (dC (.int 1)) dNil))) (dCons (dTup (dCons (dOp addF (dOp repF (dTup (dCons (dC (.int 0)) dNil)) (dVar 2)) (dTup (dCons (dUn negF (dC (.int 1))) (dCons (dC (.int 1)) dNil)))) (dCons (dC (.int 1)) dNil))) dNil)))) (gN 8)) (l1_law_6))
def l1_law_4 : dS :=
  (sSeq (sAsg (dLc (srcSeq (dVar 4)) (.one 16) [16] tYesD (dTup (dCons (dCallP sp__law_moving (dCons (dVar 16) (dCons (dVar 5) (dCons (dVar 6) dNil)))) (dCons (dC (.int 2)) dNil)))) (gN 8)) (l1_law_5))
def l1_law_3 : dS :=
  (sSeq (sAsg (dCallP sp_in_time (dCons (dVar 4) (dCons (dVar 5) (dCons (dVar 6) (dCons (dVar 2) dNil))))) (gN 7)) (l1_law_4))
def l1_law_2 : dS :=
  (sSeq (sAsg (dCallD sp__law_vector (dCons (dVar 1) (dCons (dVar 2) dNil))) (gN 6)) (l1_law_3))
def l1_law_1 : dS :=
  (sSeq (sAsg (dCallD sp__law_tip (dCons (dVar 1) (dCons (dVar 2) dNil))) (gN 5)) (l1_law_2))
def l1_law_0 : dS :=
  (sSeq (sAsg (dCallD sp__law_tool (dCons (dVar 1) (dCons (dVar 2) dNil))) (gN 4)) (l1_law_1))
def r_law_3 : dS :=
  (sRet (dC (.bl true)))
def r_law_2 : dS :=
  (sSeq (sFor (srcRng1 (dCons (dC (.int 3)) dNil)) (gN 3) (l1_law_0)) (r_law_3))
def r_law_1 : dS :=
  (sSeq (sAsg (dOp addF (dC (.int 1)) (dCallD sp__law_draw (dCons (dVar 1) (dCons (dC (.int 3)) dNil)))) (gN 2)) (r_law_2))
def r_law_0 : dS :=
  (sSeq (sAsg (dCallP sp__law_draws (dCons (dVar 0) dNil)) (gN 1)) (r_law_1))
def t_law : dS :=
  (r_law_0)
theorem len_law : ∀ x ds, sp_law.pre x ds → ds.length = 1 := fun x ds h => by rw [h.1]; rfl
def dotF (a : List Int) (h : Nat → Int) : Nat → Int
  | 0 => 0
  | n + 1 => dotF a h n + a.getD n 0 * h n
theorem dotN_F (a b : List Int) : ∀ n, dotN a b n = dotF a (fun k => b.getD k 0) n
  | 0 => rfl
  | n + 1 => by unfold dotN dotF; rw [dotN_F a b n]
theorem dotF_congr {a : List Int} {h g : Nat → Int} : ∀ n, (∀ k, k < n → h k = g k) → dotF a h n = dotF a g n
  | 0, _ => rfl
  | n + 1, e => by unfold dotF; rw [dotF_congr n fun k hk => e k (by omega), e n (by omega)]
theorem dotF_lin (a : List Int) (p q r : Nat → Int) (x y z : Int) : ∀ n, dotF a (fun k => x * p k + y * q k + z * r k) n = x * dotF a p n + y * dotF a q n + z * dotF a r n
  | 0 => by simp [dotF]
  | n + 1 => by unfold dotF; rw [dotF_lin a p q r x y z n]; grind
theorem dotF_mul (a : List Int) (p : Nat → Int) (x : Int) : ∀ n, dotF a (fun k => p k * x) n = dotF a p n * x
  | 0 => by simp [dotF]
  | n + 1 => by unfold dotF; rw [dotF_mul a p x n]; grind
theorem dotF_mapL (a : List Int) (p : Nat → Int) (x y : Int) : ∀ n, dotF (a.map fun i => i * x * y) p n = dotF a p n * (x * y)
  | 0 => by simp [dotF]
  | n + 1 => by unfold dotF; rw [dotF_mapL a p x y n, getD_map0 (by simp)]; grind
theorem dotN_succ {a b : List Int} {n : Nat} : dotN a b (n + 1) = dotN a b n + a.getD n 0 * b.getD n 0 := rfl
theorem dotN_step2 {a b : List Int} {x y x' y' : Int} {n : Nat} (ha : a.length = n) (hb : b.length = n) : dotN (a ++ [x, y]) (b ++ [x'] ++ [y']) (n + 2) = dotN a b n + x * x' + y * y' := by
  have e1 : a ++ [x, y] = (a ++ [x]) ++ [y] := by simp
  rw [e1, dotN_succ, getD_last (by simp; omega), getD_last (by simp; omega), dotN_succ]
  rw [getD_app (l := a ++ [x]) (by simp; omega), getD_app (l := b ++ [x']) (by simp; omega), getD_last ha, getD_last hb, dotN_app _ (by simp; omega), dotN_app _ (by omega), dotN_appL _ (by simp; omega), dotN_appL _ (by omega)]
theorem dotN_step1 {a b : List Int} {x x' : Int} {n : Nat} (ha : a.length = n) (hb : b.length = n) : dotN (a ++ [x]) (b ++ [x']) (n + 1) = dotN a b n + x * x' := by
  rw [dotN_succ, getD_last ha, getD_last hb, dotN_app _ (by omega), dotN_appL _ (by omega)]
theorem scale_at {p q : List Int} {a b pl y g2 : Int} {n : Nat} (hq1 : (p.map fun i => i * b) ++ [a * pl] = q.map fun i => i * g2) (hq2 : b * pl = y * g2) (M : List Int) : dotN M (q ++ [y]) (n + 2) * g2 = dotN M ((p.map fun i => i * b) ++ [a * pl] ++ [b * pl]) (n + 2) := by
  have ee : (q ++ [y]).map (fun i => i * g2) = (p.map fun i => i * b) ++ [a * pl] ++ [b * pl] := by
    rw [List.map_append, ← hq1, hq2]; rfl
  rw [← ee, dotN_F, dotN_F, ← dotF_mul]
  exact dotF_congr (n + 2) fun k hk => (getD_map0 (f := fun i => i * g2) (by simp) (q ++ [y]) k).symm
theorem dotN_zer {b : List Int} {m : Nat} : ∀ n, dotN (zer m) b n = 0
  | 0 => rfl
  | n + 1 => by
    rw [dotN_succ, dotN_zer n]
    have : (zer m).getD n 0 = 0 := by
      unfold zer
      rw [List.getD_eq_getElem?_getD, List.getElem?_replicate]
      split <;> rfl
    rw [this]; simp
theorem nn_eq {A x a y : Int} (hx : 0 < x) (hy : 0 < y) (h : A * x = a * y) : (0 ≤ A) ↔ (0 ≤ a) := by
  constructor
  · intro q
    have h1 := Int.mul_nonneg q (Int.le_of_lt hx)
    rw [h] at h1
    exact Int.nonneg_of_mul_nonneg_left h1 hy
  · intro q
    have h1 := Int.mul_nonneg q (Int.le_of_lt hy)
    rw [← h] at h1
    exact Int.nonneg_of_mul_nonneg_left h1 hx
/-- the sign of the moving form at the spot is the form's at the gap -/
theorem meet {f p l gp q : List Int} {s v : List Int} {c w u a b pl r gr g g2 g3 y : Int} {n : Nat} (hf : f.length = n) (hq : q.length = n + 1) (hg' : gp.length = n)
    (htip : ∀ k, k < n → l.getD k 0 * g = s.getD k 0 * u * b + v.getD k 0 * w * a) (hr : r * g = w * u * b)
    (hgap : ∀ k, k < n → gp.getD k 0 * g3 = p.getD k 0 * r - l.getD k 0 * pl) (hgr : gr * g3 = pl * r)
    (hp : p.length = n) (hq1 : (p.map fun i => i * b) ++ [a * pl] = q.map fun i => i * g2) (hq2 : b * pl = y * g2) :
    dotN ((f.map fun i => i * w * u) ++ [-w * dotN f v n, c * w * u - u * dotN f s n]) (q ++ [y]) (n + 2) * g2 = dotN (f ++ [c]) (gp ++ [gr]) (n + 1) * (g3 * g) := by
  have key : ∀ M : List Int, dotN M (q ++ [y]) (n + 2) * g2 = dotN M ((q ++ [y]).map fun i => i * g2) (n + 2) := fun M => by
    rw [dotN_F, dotN_F, ← dotF_mul]
    exact dotF_congr (n + 2) fun k hk => (getD_map0 (f := fun i => i * g2) (by simp) (q ++ [y]) k).symm
  have ee : (q ++ [y]).map (fun i => i * g2) = (p.map fun i => i * b) ++ [a * pl] ++ [b * pl] := by
    rw [List.map_append, ← hq1, hq2]; rfl
  rw [key, ee, dotN_step2 (by simp; omega) (by simp; omega), dotN_step1 hf hg']
  have e1 : dotN (f.map fun i => i * w * u) (p.map fun i => i * b) n = dotF f (fun k => p.getD k 0) n * b * (w * u) := by
    have e : dotF f (fun k => (p.map fun i => i * b).getD k 0) n = dotF f (fun k => p.getD k 0) n * b := by
      rw [← dotF_mul]
      exact dotF_congr n fun k hk => getD_map0 (f := fun i => i * b) (by simp) p k
    rw [dotN_F, dotF_mapL, e]
  have e2 : dotN f gp n * (g3 * g) = (w * u * b) * dotF f (fun k => p.getD k 0) n + (-(u * b * pl)) * dotF f (fun k => s.getD k 0) n + (-(w * a * pl)) * dotF f (fun k => v.getD k 0) n := by
    rw [dotN_F, ← dotF_mul, ← dotF_lin]
    refine dotF_congr _ fun k hk => ?_
    have h1 := hgap k hk
    have h2 := htip k hk
    show gp.getD k 0 * (g3 * g) = _
    generalize gp.getD k 0 = G at *
    generalize p.getD k 0 = P at *
    generalize l.getD k 0 = L at *
    generalize s.getD k 0 = S at *
    generalize v.getD k 0 = V at *
    grind
  rw [e1, dotN_F f v, dotN_F f s, Int.add_mul, e2]
  generalize dotF f (fun k => p.getD k 0) n = X
  generalize dotF f (fun k => s.getD k 0) n = Y
  generalize dotF f (fun k => v.getD k 0) n = Z
  grind
theorem sign_eq {A G x y : Int} (hx : 0 < x) (hy : 0 < y) (h : A * x = G * y) : (0 < A) ↔ (0 < G) := by
  constructor
  · intro q
    have h1 := Int.mul_pos q hx
    rw [h] at h1
    exact Int.pos_of_mul_pos_left h1 hy
  · intro q
    have h1 := Int.mul_pos q hy
    rw [← h] at h1
    exact Int.pos_of_mul_pos_left h1 hx
theorem mov_lb {x : FSV} (hs : x.f.length = x.s.length) (hv : x.f.length = x.v.length) (hn : x.f.length ≤ 10) (hf : Lb 50 (x.f ++ [x.c])) (hS : Lb 50 (x.s ++ [x.w])) (hV : Lb 50 (x.v ++ [x.u])) : Lb 300 (mov x) := by
  have f0 := hf.app
  have s0 := hS.app
  have v0 := hV.app
  refine ⟨by simp [mov, movR]; omega, fun y hy => ?_⟩
  unfold mov movR at hy
  simp only [List.mem_append, List.mem_cons, List.not_mem_nil, or_false] at hy
  rcases hy with hy | rfl | rfl
  · obtain ⟨z, hz, rfl⟩ := List.mem_map.mp hy
    exact bt_mono (bits_mul (bits_mul (f0.1.2 z hz) s0.2) v0.2) (by decide)
  · exact bt_mono (bits_mul (bits_neg s0.2) (dotN_bt f0.1 v0.1 _)) (by omega)
  · exact bt_mono (bits_sub (bits_mul (bits_mul f0.2 s0.2) v0.2) (bits_mul v0.2 (dotN_bt f0.1 s0.1 _))) (by omega)
theorem mov_len (x : FSV) : (mov x).length = x.f.length + 2 := by simp [mov, movR]
theorem itC_ok {x : ITm} (h : preIT x) : ∀ w ∈ itC x, w.1.length = x.s.length + 2 ∧ Lb 300 w.1 := by
  obtain ⟨h1, h2, h3, h4, h5, h6⟩ := h
  intro w hw
  unfold itC at hw
  rcases List.mem_append.mp hw with q | q
  · obtain ⟨F, hF, rfl⟩ := List.mem_map.mp q
    obtain ⟨f1, f2⟩ := h6 F hF
    exact ⟨by show (mov _).length = _; rw [mov_len]; show F.1.length + 2 = _; omega, mov_lb f1 (f1.trans h2) (show F.1.length ≤ 10 by omega) f2 h4 h5⟩
  · have lz : ∀ a b : Int, a.natAbs ≤ 1000 → b.natAbs ≤ 1000 → Lb 300 (zer x.s.length ++ [a, b]) := fun a b ha hb => (lb50 (by simp [zer]; omega) fun y hy => by
      simp only [zer, List.mem_append, List.mem_cons, List.not_mem_nil, or_false] at hy
      rcases hy with hy | rfl | rfl
      · rw [List.eq_of_mem_replicate hy]; decide
      · exact ha
      · exact hb).mono (by decide)
    rcases List.mem_cons.mp q with rfl | q
    · exact ⟨by simp [zer], lz 1 0 (by decide) (by decide)⟩
    · rw [List.mem_singleton] at q; subst q; exact ⟨by simp [zer], lz (-1) 1 (by decide) (by decide)⟩
theorem flats_ints : ∀ (n : Nat) (l : List Int), flatsB n (l.map D.int) = true
  | _, [] => by unfold flatsB; rfl
  | n, x :: l => by
    rw [List.map_cons]; unfold flatsB; rw [flats_ints n l]
    cases n <;> rfl
theorem flat_cl (n : Nat) {f : List Int} (k : Int) (h : f.length ≤ 100) : flatB (n + 2) (cl f k) = true := by
  unfold cl flatB flatsB flatsB flatsB
  unfold flatB
  rw [flats_ints, List.length_map, decide_eq_true (show f.length < 4611686018427387904 by omega)]
  rfl
theorem flat_clks : ∀ {C : List (List Int × Int)}, (∀ w ∈ C, w.1.length ≤ 100) → flatsB 2 (C.map clk) = true
  | [], _ => by unfold flatsB; rfl
  | w :: r, h => by
    rw [List.map_cons]; unfold flatsB
    rw [flat_clks fun z hz => h z (List.mem_cons_of_mem _ hz)]
    have := flat_cl 0 w.2 (h w List.mem_cons_self)
    show (flatB 2 (cl w.1 w.2) && true) = true
    rw [this]; rfl
theorem useP_same {d : D} {h : Hh} {Q : D → Hh → Prop} {E : XK'} (hf : flatB 3 d = true) (q : Q (.bl true) h) : useP (sp__law_same 3) [d, d] h Q E :=
  useP_val d _ (by have := flat_pure hf; simp only [pureDs, this]; rfl) ⟨rfl, hf⟩ (fun o q => q) (fun ex q => q) q
theorem all_congr' {α : Type} {f g : α → Bool} : ∀ {l : List α}, (∀ x ∈ l, f x = g x) → l.all f = l.all g
  | [], _ => rfl
  | x :: r, h => by rw [List.all_cons, List.all_cons, h x List.mem_cons_self, all_congr' fun y hy => h y (List.mem_cons_of_mem _ hy)]
def okB (FS : List (List Int × Int)) (a b : Int) (gp : List Int) (gr : Int) (n : Nat) : Bool := decide (0 ≤ a) && decide (a ≤ b) && FS.all fun F => decide (0 < dotN (F.1 ++ [F.2]) (gp ++ [gr]) (n + 1))
/-- what is drawn and found for a time, a place -/
structure Meet where
  x : ITm
  a : Int
  b : Int
  l : List Int
  r : Int
  g : Int
  p : List Int
  pl : Int
  gp : List Int
  gr : Int
  g3 : Int
structure Meets (m : Meet) : Prop where
  it : preIT m.x
  b0 : 0 < m.b
  g0 : 0 < m.g
  g30 : 0 < m.g3
  pl0 : 0 < m.pl
  hp : m.p.length = m.x.s.length
  hgp : m.gp.length = m.x.s.length
  hr : m.r * m.g = m.x.w * m.x.u * m.b
  htip : ∀ k, k < m.x.s.length → m.l.getD k 0 * m.g = m.x.s.getD k 0 * m.x.u * m.b + m.x.v.getD k 0 * m.x.w * m.a
  hgr : m.gr * m.g3 = m.pl * m.r
  hgap : ∀ k, k < m.x.s.length → m.gp.getD k 0 * m.g3 = m.p.getD k 0 * m.r - m.l.getD k 0 * m.pl
theorem all_ok {m : Meet} (H : Meets m) {q : List Int} {y g2 : Int} (g20 : 0 < g2) (hq1 : (m.p.map fun i => i * m.b) ++ [m.a * m.pl] = q.map fun i => i * g2) (hq2 : m.b * m.pl = y * g2) : allK (itC m.x) (q ++ [y]) = okB m.x.F m.a m.b m.gp m.gr m.x.s.length := by
  obtain ⟨it, b0, g0, g30, pl0, hp, hgp, hr, htip, hgr, hgap⟩ := H
  obtain ⟨h1, h2, h3, h4, h5, h6⟩ := it
  have hql : q.length = m.x.s.length + 1 := by
    have := congrArg List.length hq1
    simp at this; omega
  have pm : (m.p.map fun i => i * m.b).length = m.x.s.length := by simp [hp]
  have z1 : dotN (zer m.x.s.length ++ [1, 0]) (q ++ [y]) (m.x.s.length + 2) * g2 = m.a * m.pl := by
    rw [scale_at hq1 hq2, dotN_step2 (by simp [zer]) pm, dotN_zer]; omega
  have z2 : dotN (zer m.x.s.length ++ [-1, 1]) (q ++ [y]) (m.x.s.length + 2) * g2 = (m.b - m.a) * m.pl := by
    rw [scale_at hq1 hq2, dotN_step2 (by simp [zer]) pm, dotN_zer, Int.sub_mul]; omega
  have n1 := nn_eq g20 pl0 z1
  have n2 := nn_eq g20 pl0 z2
  have k1 : kpt 1 (dotN (zer m.x.s.length ++ [1, 0]) (q ++ [y]) (zer m.x.s.length ++ [1, 0]).length) = decide (0 ≤ m.a) := by
    rw [show (zer m.x.s.length ++ [1, 0] : List Int).length = m.x.s.length + 2 by simp [zer]]
    show decide (0 ≤ _) = _
    exact decide_eq_decide.mpr n1
  have k2 : kpt 1 (dotN (zer m.x.s.length ++ [-1, 1]) (q ++ [y]) (zer m.x.s.length ++ [-1, 1]).length) = decide (m.a ≤ m.b) := by
    rw [show (zer m.x.s.length ++ [-1, 1] : List Int).length = m.x.s.length + 2 by simp [zer]]
    show decide (0 ≤ _) = _
    exact decide_eq_decide.mpr (by rw [n2]; omega)
  have k3 : (m.x.F.map (movC m.x)).all (fun w => kpt w.2 (dotN w.1 (q ++ [y]) w.1.length)) = m.x.F.all fun F => decide (0 < dotN (F.1 ++ [F.2]) (m.gp ++ [m.gr]) (m.x.s.length + 1)) := by
    rw [List.all_map]
    refine all_congr' fun F hF => ?_
    obtain ⟨f1, f2⟩ := h6 F hF
    have ms := meet (f := F.1) (c := F.2) (s := m.x.s) (v := m.x.v) (w := m.x.w) (u := m.x.u) f1 hql hgp htip hr hgap hgr hp hq1 hq2
    show kpt 2 (dotN (mov ⟨F.1, F.2, m.x.s, m.x.w, m.x.v, m.x.u⟩) (q ++ [y]) (mov ⟨F.1, F.2, m.x.s, m.x.w, m.x.v, m.x.u⟩).length) = _
    rw [mov_len]
    show decide (0 < _) = _
    refine decide_eq_decide.mpr ?_
    have e : mov ⟨F.1, F.2, m.x.s, m.x.w, m.x.v, m.x.u⟩ = (F.1.map fun i => i * m.x.w * m.x.u) ++ [-m.x.w * dotN F.1 m.x.v m.x.s.length, F.2 * m.x.w * m.x.u - m.x.u * dotN F.1 m.x.s m.x.s.length] := by
      simp only [mov, movR, f1]
    rw [e]
    show (0 < dotN _ _ (F.1.length + 2)) ↔ _
    rw [f1]
    exact sign_eq g20 (Int.mul_pos g30 g0) ms
  unfold allK okB itC
  rw [List.all_append, k3, List.all_cons, List.all_cons, List.all_nil, k1, k2]
  cases decide (0 ≤ m.a) <;> cases decide (m.a ≤ m.b) <;> simp
abbrev E2 (sc : Option D) (sz : Int) (t : Option D) (x : ITm) (r : List (Option D)) : En := sc :: some (.ref 1) :: some (.int sz) :: t :: some (.tup (x.F.map fmD)) :: some (tI (x.s ++ [x.w])) :: some (tI (x.v ++ [x.u])) :: some (.tup ((itC x).map clk)) :: r
structure Bds (m : Meet) : Prop where
  ba : Bt 50 m.a
  bb : Bt 50 m.b
  bl : Lb 151 (m.l ++ [m.r])
  bp : Lb 160 (m.p ++ [m.pl])
  bg : Lb 1000 (m.gp ++ [m.gr])
theorem tail6 {A : Dx} {c : List Int} {s : DrS} {j : Hh} {sc t u8 u9 u15 u16 u17 : Option D} {sz : Int} {m : Meet} (H : Meets m) (B : Bds m) (nx : ∀ u15 j', A.nx (E2 sc sz t m.x [u8, u9, some (.tup [.int m.a, .int m.b]), some (tI (m.l ++ [m.r])), some (tI (m.p ++ [m.pl])), some (tI (m.gp ++ [m.gr])), some (.bl (okB m.x.F m.a m.b m.gp m.gr m.x.s.length)), u15, u16, u17]) (H2 c s j')) :
    l2_law_6 A (E2 sc sz t m.x [u8, u9, some (.tup [.int m.a, .int m.b]), some (tI (m.l ++ [m.r])), some (tI (m.p ++ [m.pl])), some (tI (m.gp ++ [m.gr])), some (.bl (okB m.x.F m.a m.b m.gp m.gr m.x.s.length)), u15, u16, u17]) (H2 c s j) := by
  have p0 := B.bp.app
  have hn := H.it.2.2.1
  have hpl := H.hp
  simp only [l2_law_6, E2, cut_last, at_lasti, dOp, dUn, dVar, dC, slot, startE, List.map, List.length, List.replicate, List.append, List.cons_append, List.nil_append, List.set, dAnd, dOr, dNot, dtB, dtAnd, dtOr, dtNot, dIf, dtTru, truF, dNil, dCons, dTup, dLst, dCB, sNil, sSeq, sRet, sRetN, sExpr, sIf, sAsg, gN, gT, gsNil, gsCons, gS, sPar, sAug, sWhile, sFor, sBrk, sCont, sNo, sRaise, dCallP_eq, dCallD_eq, List.length_map, List.getElem?_cons_succ, List.getElem?_concat_length, set_last, get_mid, get_mid2, eqF, neF, ltF, leF, gtF, geF, isF, notF, addF, subF, mulF, fdivF, modF, powF, negF, ixF, lenF, tupF, lstF, absF, intF, gcdF, maxF, minF, Rs.to, dIsi, dIsi2, dIsE, tyN, D.isNon, dM1, dM0, srcSeq, srcRng1, srcRng2, dLc, tYesD, iaddF, isBF, notBF, srcZip, repF, sumF, allF, anyF, intsOf_map, blsOf_map, dSl, dPart, dNoPart, sliceF, at0, at1, at2, at3, at4, ix0, ix1, ix2, ix3, Dn.g0, Dn.g1, Dn.g2, Dn.g3, Dn.g4, ex_some, decide_true, decide_false, Bool.not_true, Bool.not_false, ite_true, ite_false, if_true, if_false, List.reverse_cons, List.reverse_nil, outPost, wipeE, CTg.set, setAll, appF, extF, revF, popF, Nat.zero_add, Nat.reduceAdd, is_NoneType_int, is_NoneType_bool, is_NoneType_str, is_NoneType_tuple, is_NoneType_list, is_bool_int, is_bool_bool, is_bool_str, is_bool_tuple, is_bool_list, is_int_int, is_int_bool, is_int_str, is_int_tuple, is_int_list, is_str_int, is_str_bool, is_str_str, is_str_tuple, is_str_list, is_tuple_int, is_tuple_bool, is_tuple_str, is_tuple_tuple, is_tuple_list, is_list_int, is_list_bool, is_list_str, is_list_tuple, is_list_list]
  refine ⟨fun i acc h => acc = ((m.p.take i).map fun k => k * m.b).map .int ∧ h = H2 c s j, ⟨rfl, rfl⟩, fun _ _ _ _ _ => trivial, ?_, ?_⟩
  · rintro i x acc h hx ⟨rfl, rfl⟩
    obtain ⟨hi, rfl⟩ := mapi_at hx
    simp only [dOp, dUn, dVar, dC, slot, startE, List.map, List.length, List.replicate, List.append, List.cons_append, List.nil_append, List.set, dAnd, dOr, dNot, dtB, dtAnd, dtOr, dtNot, dIf, dtTru, truF, dNil, dCons, dTup, dLst, dCB, sNil, sSeq, sRet, sRetN, sExpr, sIf, sAsg, gN, gT, gsNil, gsCons, gS, sPar, sAug, sWhile, sFor, sBrk, sCont, sNo, sRaise, dCallP_eq, dCallD_eq, List.length_map, List.getElem?_cons_succ, List.getElem?_concat_length, set_last, get_mid, get_mid2, eqF, neF, ltF, leF, gtF, geF, isF, notF, addF, subF, mulF, fdivF, modF, powF, negF, ixF, lenF, tupF, lstF, absF, intF, gcdF, maxF, minF, Rs.to, dIsi, dIsi2, dIsE, tyN, D.isNon, dM1, dM0, srcSeq, srcRng1, srcRng2, dLc, tYesD, iaddF, isBF, notBF, srcZip, repF, sumF, allF, anyF, intsOf_map, blsOf_map, dSl, dPart, dNoPart, sliceF, at0, at1, at2, at3, at4, ix0, ix1, ix2, ix3, Dn.g0, Dn.g1, Dn.g2, Dn.g3, Dn.g4, ex_some, decide_true, decide_false, Bool.not_true, Bool.not_false, ite_true, ite_false, if_true, if_false, List.reverse_cons, List.reverse_nil, outPost, wipeE, CTg.set, setAll, appF, extF, revF, popF, Nat.zero_add, Nat.reduceAdd, is_NoneType_int, is_NoneType_bool, is_NoneType_str, is_NoneType_tuple, is_NoneType_list, is_bool_int, is_bool_bool, is_bool_str, is_bool_tuple, is_bool_list, is_int_int, is_int_bool, is_int_str, is_int_tuple, is_int_list, is_str_int, is_str_bool, is_str_str, is_str_tuple, is_str_list, is_tuple_int, is_tuple_bool, is_tuple_str, is_tuple_tuple, is_tuple_list, is_list_int, is_list_bool, is_list_str, is_list_tuple, is_list_list]
    refine ⟨bt_mul (p0.1.getD i) (bt_mono B.bb (by decide)) (by decide), sl2 (by simp; omega), ?_, trivial⟩
    rw [take_at hi]; simp
  · rintro acc h ⟨rfl, rfl⟩
    simp only [List.take_length, at_lasti, H2, dOp, dUn, dVar, dC, slot, startE, List.map, List.length, List.replicate, List.append, List.cons_append, List.nil_append, List.set, dAnd, dOr, dNot, dtB, dtAnd, dtOr, dtNot, dIf, dtTru, truF, dNil, dCons, dTup, dLst, dCB, sNil, sSeq, sRet, sRetN, sExpr, sIf, sAsg, gN, gT, gsNil, gsCons, gS, sPar, sAug, sWhile, sFor, sBrk, sCont, sNo, sRaise, dCallP_eq, dCallD_eq, List.length_map, List.getElem?_cons_succ, List.getElem?_concat_length, set_last, get_mid, get_mid2, eqF, neF, ltF, leF, gtF, geF, isF, notF, addF, subF, mulF, fdivF, modF, powF, negF, ixF, lenF, tupF, lstF, absF, intF, gcdF, maxF, minF, Rs.to, dIsi, dIsi2, dIsE, tyN, D.isNon, dM1, dM0, srcSeq, srcRng1, srcRng2, dLc, tYesD, iaddF, isBF, notBF, srcZip, repF, sumF, allF, anyF, intsOf_map, blsOf_map, dSl, dPart, dNoPart, sliceF, at0, at1, at2, at3, at4, ix0, ix1, ix2, ix3, Dn.g0, Dn.g1, Dn.g2, Dn.g3, Dn.g4, ex_some, decide_true, decide_false, Bool.not_true, Bool.not_false, ite_true, ite_false, if_true, if_false, List.reverse_cons, List.reverse_nil, outPost, wipeE, CTg.set, setAll, appF, extF, revF, popF, Nat.zero_add, Nat.reduceAdd, is_NoneType_int, is_NoneType_bool, is_NoneType_str, is_NoneType_tuple, is_NoneType_list, is_bool_int, is_bool_bool, is_bool_str, is_bool_tuple, is_bool_list, is_int_int, is_int_bool, is_int_str, is_int_tuple, is_int_list, is_str_int, is_str_bool, is_str_str, is_str_tuple, is_str_list, is_tuple_int, is_tuple_bool, is_tuple_str, is_tuple_tuple, is_tuple_list, is_list_int, is_list_bool, is_list_str, is_list_tuple, is_list_list]
    have e : List.map D.int (List.map (fun k => k * m.b) m.p) ++ [D.int (m.a * m.pl), D.int (m.b * m.pl)] = (((m.p.map fun k => k * m.b) ++ [m.a * m.pl]) ++ [m.b * m.pl]).map .int := by simp
    have lb : Lb 210 (((m.p.map fun k => k * m.b) ++ [m.a * m.pl]) ++ [m.b * m.pl]) := by
      refine Lb.mk' (Lb.mk' ⟨by simp; omega, fun y hy => ?_⟩ (by simp; omega) (bt_mono (bits_mul B.ba p0.2) (by decide))) (by simp; omega) (bt_mono (bits_mul B.bb p0.2) (by decide))
      obtain ⟨z, hz, rfl⟩ := List.mem_map.mp hy
      exact bits_mul (p0.1.2 z hz) B.bb
    rw [e]
    refine ⟨bt_mul (bt_mono B.ba (by decide)) p0.2 (by decide), bt_mul (bt_mono B.bb (by decide)) p0.2 (by decide), Nat.le_of_lt (sl2 (by simp; omega)), ?_⟩
    simp only [l2_law_7, dOp, dUn, dVar, dC, slot, startE, List.map, List.length, List.replicate, List.append, List.cons_append, List.nil_append, List.set, dAnd, dOr, dNot, dtB, dtAnd, dtOr, dtNot, dIf, dtTru, truF, dNil, dCons, dTup, dLst, dCB, sNil, sSeq, sRet, sRetN, sExpr, sIf, sAsg, gN, gT, gsNil, gsCons, gS, sPar, sAug, sWhile, sFor, sBrk, sCont, sNo, sRaise, dCallP_eq, dCallD_eq, List.length_map, List.getElem?_cons_succ, List.getElem?_concat_length, set_last, get_mid, get_mid2, eqF, neF, ltF, leF, gtF, geF, isF, notF, addF, subF, mulF, fdivF, modF, powF, negF, ixF, lenF, tupF, lstF, absF, intF, gcdF, maxF, minF, Rs.to, dIsi, dIsi2, dIsE, tyN, D.isNon, dM1, dM0, srcSeq, srcRng1, srcRng2, dLc, tYesD, iaddF, isBF, notBF, srcZip, repF, sumF, allF, anyF, intsOf_map, blsOf_map, dSl, dPart, dNoPart, sliceF, at0, at1, at2, at3, at4, ix0, ix1, ix2, ix3, Dn.g0, Dn.g1, Dn.g2, Dn.g3, Dn.g4, ex_some, decide_true, decide_false, Bool.not_true, Bool.not_false, ite_true, ite_false, if_true, if_false, List.reverse_cons, List.reverse_nil, outPost, wipeE, CTg.set, setAll, appF, extF, revF, popF, Nat.zero_add, Nat.reduceAdd, is_NoneType_int, is_NoneType_bool, is_NoneType_str, is_NoneType_tuple, is_NoneType_list, is_bool_int, is_bool_bool, is_bool_str, is_bool_tuple, is_bool_list, is_int_int, is_int_bool, is_int_str, is_int_tuple, is_int_list, is_str_int, is_str_bool, is_str_str, is_str_tuple, is_str_list, is_tuple_int, is_tuple_bool, is_tuple_str, is_tuple_tuple, is_tuple_list, is_list_int, is_list_bool, is_list_str, is_list_tuple, is_list_list]
    refine low_use (lb.mono (by decide)) (Int.mul_pos H.b0 H.pl0) fun q y g2 g20 hq1 hq2 y0 hb' => ?_
    have hb2 := hb' _ lb
    have hql : q.length = m.x.s.length + 1 := by
      have := congrArg List.length hq1
      simp at this; omega
    refine useP_val (itC m.x, q ++ [y]) _ (by simp only [pureDs, pureD, clks_pure, ints_pure]; rfl) ⟨rfl, fun w hw => ?_, hb2.mono (by decide)⟩ (fun o q => q) (fun ex q => q) ?_
    · obtain ⟨w1, w2⟩ := itC_ok H.it w hw
      exact ⟨by rw [w1]; simp; omega, w2.mono (by decide)⟩
    rw [all_ok H g20 hq1 hq2]
    refine useP_same rfl ?_
    simp only [dOp, dUn, dVar, dC, slot, startE, List.map, List.length, List.replicate, List.append, List.cons_append, List.nil_append, List.set, dAnd, dOr, dNot, dtB, dtAnd, dtOr, dtNot, dIf, dtTru, truF, dNil, dCons, dTup, dLst, dCB, sNil, sSeq, sRet, sRetN, sExpr, sIf, sAsg, gN, gT, gsNil, gsCons, gS, sPar, sAug, sWhile, sFor, sBrk, sCont, sNo, sRaise, dCallP_eq, dCallD_eq, List.length_map, List.getElem?_cons_succ, List.getElem?_concat_length, set_last, get_mid, get_mid2, eqF, neF, ltF, leF, gtF, geF, isF, notF, addF, subF, mulF, fdivF, modF, powF, negF, ixF, lenF, tupF, lstF, absF, intF, gcdF, maxF, minF, Rs.to, dIsi, dIsi2, dIsE, tyN, D.isNon, dM1, dM0, srcSeq, srcRng1, srcRng2, dLc, tYesD, iaddF, isBF, notBF, srcZip, repF, sumF, allF, anyF, intsOf_map, blsOf_map, dSl, dPart, dNoPart, sliceF, at0, at1, at2, at3, at4, ix0, ix1, ix2, ix3, Dn.g0, Dn.g1, Dn.g2, Dn.g3, Dn.g4, ex_some, decide_true, decide_false, Bool.not_true, Bool.not_false, ite_true, ite_false, if_true, if_false, List.reverse_cons, List.reverse_nil, outPost, wipeE, CTg.set, setAll, appF, extF, revF, popF, Nat.zero_add, Nat.reduceAdd, is_NoneType_int, is_NoneType_bool, is_NoneType_str, is_NoneType_tuple, is_NoneType_list, is_bool_int, is_bool_bool, is_bool_str, is_bool_tuple, is_bool_list, is_int_int, is_int_bool, is_int_str, is_int_tuple, is_int_list, is_str_int, is_str_bool, is_str_str, is_str_tuple, is_str_list, is_tuple_int, is_tuple_bool, is_tuple_str, is_tuple_tuple, is_tuple_list, is_list_int, is_list_bool, is_list_str, is_list_tuple, is_list_list]
    exact nx _ _
theorem all_count {α : Type} (f : α → Int) (l : List α) : (l.all fun F => decide (0 < f F)) = decide (((l.countP fun F => decide (f F ≤ 0) : Nat) : Int) = 0) := by
  rw [Bool.eq_iff_iff, List.all_eq_true, decide_eq_true_eq]
  constructor
  · intro h
    have : l.countP (fun F => decide (f F ≤ 0)) = 0 := List.countP_eq_zero.mpr fun a ha => by
      have := h a ha
      simp at this ⊢; omega
    omega
  · intro h a ha
    have h0 : l.countP (fun F => decide (f F ≤ 0)) = 0 := by omega
    have := List.countP_eq_zero.mp h0 a ha
    simp at this ⊢; omega
theorem tail5 {A : Dx} {c : List Int} {s : DrS} {j : Hh} {sc t u8 u9 u15 u16 u17 : Option D} {sz : Int} {m : Meet} (H : Meets m) (B : Bds m) (nx : ∀ u15 j', A.nx (E2 sc sz t m.x [u8, u9, some (.tup [.int m.a, .int m.b]), some (tI (m.l ++ [m.r])), some (tI (m.p ++ [m.pl])), some (tI (m.gp ++ [m.gr])), some (.bl (okB m.x.F m.a m.b m.gp m.gr m.x.s.length)), u15, u16, u17]) (H2 c s j')) :
    l2_law_5 A (E2 sc sz t m.x [u8, u9, some (.tup [.int m.a, .int m.b]), some (tI (m.l ++ [m.r])), some (tI (m.p ++ [m.pl])), some (tI (m.gp ++ [m.gr])), some (.bl (decide (0 ≤ m.a) && decide (m.a ≤ m.b))), u15, u16, u17]) (H2 c s j) := by
  have t6 := fun j => tail6 (j := j) (u15 := u15) H B nx
  cases hB : (decide (0 ≤ m.a) && decide (m.a ≤ m.b)) with
  | false =>
    have ek : okB m.x.F m.a m.b m.gp m.gr m.x.s.length = false := by unfold okB; rw [hB]; rfl
    rw [ek] at t6
    simp only [l2_law_5, E2, dOp, dUn, dVar, dC, slot, startE, List.map, List.length, List.replicate, List.append, List.cons_append, List.nil_append, List.set, dAnd, dOr, dNot, dtB, dtAnd, dtOr, dtNot, dIf, dtTru, truF, dNil, dCons, dTup, dLst, dCB, sNil, sSeq, sRet, sRetN, sExpr, sIf, sAsg, gN, gT, gsNil, gsCons, gS, sPar, sAug, sWhile, sFor, sBrk, sCont, sNo, sRaise, dCallP_eq, dCallD_eq, List.length_map, List.getElem?_cons_succ, List.getElem?_concat_length, set_last, get_mid, get_mid2, eqF, neF, ltF, leF, gtF, geF, isF, notF, addF, subF, mulF, fdivF, modF, powF, negF, ixF, lenF, tupF, lstF, absF, intF, gcdF, maxF, minF, Rs.to, dIsi, dIsi2, dIsE, tyN, D.isNon, dM1, dM0, srcSeq, srcRng1, srcRng2, dLc, tYesD, iaddF, isBF, notBF, srcZip, repF, sumF, allF, anyF, intsOf_map, blsOf_map, dSl, dPart, dNoPart, sliceF, at0, at1, at2, at3, at4, ix0, ix1, ix2, ix3, Dn.g0, Dn.g1, Dn.g2, Dn.g3, Dn.g4, ex_some, decide_true, decide_false, Bool.not_true, Bool.not_false, ite_true, ite_false, if_true, if_false, List.reverse_cons, List.reverse_nil, outPost, wipeE, CTg.set, setAll, appF, extF, revF, popF, Nat.zero_add, Nat.reduceAdd, is_NoneType_int, is_NoneType_bool, is_NoneType_str, is_NoneType_tuple, is_NoneType_list, is_bool_int, is_bool_bool, is_bool_str, is_bool_tuple, is_bool_list, is_int_int, is_int_bool, is_int_str, is_int_tuple, is_int_list, is_str_int, is_str_bool, is_str_str, is_str_tuple, is_str_list, is_tuple_int, is_tuple_bool, is_tuple_str, is_tuple_tuple, is_tuple_list, is_list_int, is_list_bool, is_list_str, is_list_tuple, is_list_list]
    exact t6 j
  | true =>
    have ek : okB m.x.F m.a m.b m.gp m.gr m.x.s.length = decide (((m.x.F.countP fun F => decide (dotN (F.1 ++ [F.2]) (m.gp ++ [m.gr]) (m.x.s.length + 1) ≤ 0) : Nat) : Int) = 0) := by
      unfold okB; rw [hB, Bool.true_and]; exact all_count (fun F : List Int × Int => dotN (F.1 ++ [F.2]) (m.gp ++ [m.gr]) (m.x.s.length + 1)) m.x.F
    have hFl := H.it.1
    simp only [l2_law_5, E2, dOp, dUn, dVar, dC, slot, startE, List.map, List.length, List.replicate, List.append, List.cons_append, List.nil_append, List.set, dAnd, dOr, dNot, dtB, dtAnd, dtOr, dtNot, dIf, dtTru, truF, dNil, dCons, dTup, dLst, dCB, sNil, sSeq, sRet, sRetN, sExpr, sIf, sAsg, gN, gT, gsNil, gsCons, gS, sPar, sAug, sWhile, sFor, sBrk, sCont, sNo, sRaise, dCallP_eq, dCallD_eq, List.length_map, List.getElem?_cons_succ, List.getElem?_concat_length, set_last, get_mid, get_mid2, eqF, neF, ltF, leF, gtF, geF, isF, notF, addF, subF, mulF, fdivF, modF, powF, negF, ixF, lenF, tupF, lstF, absF, intF, gcdF, maxF, minF, Rs.to, dIsi, dIsi2, dIsE, tyN, D.isNon, dM1, dM0, srcSeq, srcRng1, srcRng2, dLc, tYesD, iaddF, isBF, notBF, srcZip, repF, sumF, allF, anyF, intsOf_map, blsOf_map, dSl, dPart, dNoPart, sliceF, at0, at1, at2, at3, at4, ix0, ix1, ix2, ix3, Dn.g0, Dn.g1, Dn.g2, Dn.g3, Dn.g4, ex_some, decide_true, decide_false, Bool.not_true, Bool.not_false, ite_true, ite_false, if_true, if_false, List.reverse_cons, List.reverse_nil, outPost, wipeE, CTg.set, setAll, appF, extF, revF, popF, Nat.zero_add, Nat.reduceAdd, is_NoneType_int, is_NoneType_bool, is_NoneType_str, is_NoneType_tuple, is_NoneType_list, is_bool_int, is_bool_bool, is_bool_str, is_bool_tuple, is_bool_list, is_int_int, is_int_bool, is_int_str, is_int_tuple, is_int_list, is_str_int, is_str_bool, is_str_str, is_str_tuple, is_str_list, is_tuple_int, is_tuple_bool, is_tuple_str, is_tuple_tuple, is_tuple_list, is_list_int, is_list_bool, is_list_str, is_list_tuple, is_list_list]
    refine ⟨fun i acc h => acc.length = ((m.x.F.take i).countP fun F => decide (dotN (F.1 ++ [F.2]) (m.gp ++ [m.gr]) (m.x.s.length + 1) ≤ 0)) ∧ acc.length ≤ i ∧ h = H2 c s j, ⟨rfl, Nat.le_refl _, rfl⟩, fun _ _ _ _ _ => trivial, ?_, ?_⟩
    · rintro i x acc h hx ⟨hacc, hle, rfl⟩
      obtain ⟨F, hF, rfl⟩ := mapf_at hx
      obtain ⟨f1, f2⟩ := H.it.2.2.2.2.2 F (List.mem_of_getElem? hF)
      have hi : i < m.x.F.length := (List.getElem?_eq_some_iff.mp hF).1
      show useP sp__law_weight [tI (F.1 ++ [F.2]), tI (m.gp ++ [m.gr])] _ _ _
      refine useP_weight (.inr rfl) (by simp [f1, H.hgp]) (f2.mono (by decide)) (B.bg.mono (by decide)) ?_
      rw [show (F.1 ++ [F.2]).length = m.x.s.length + 1 by simp [f1]]
      by_cases hd : dotN (F.1 ++ [F.2]) (m.gp ++ [m.gr]) (m.x.s.length + 1) ≤ 0
      · simp only [hd, dOp, dUn, dVar, dC, slot, startE, List.map, List.length, List.replicate, List.append, List.cons_append, List.nil_append, List.set, dAnd, dOr, dNot, dtB, dtAnd, dtOr, dtNot, dIf, dtTru, truF, dNil, dCons, dTup, dLst, dCB, sNil, sSeq, sRet, sRetN, sExpr, sIf, sAsg, gN, gT, gsNil, gsCons, gS, sPar, sAug, sWhile, sFor, sBrk, sCont, sNo, sRaise, dCallP_eq, dCallD_eq, List.length_map, List.getElem?_cons_succ, List.getElem?_concat_length, set_last, get_mid, get_mid2, eqF, neF, ltF, leF, gtF, geF, isF, notF, addF, subF, mulF, fdivF, modF, powF, negF, ixF, lenF, tupF, lstF, absF, intF, gcdF, maxF, minF, Rs.to, dIsi, dIsi2, dIsE, tyN, D.isNon, dM1, dM0, srcSeq, srcRng1, srcRng2, dLc, tYesD, iaddF, isBF, notBF, srcZip, repF, sumF, allF, anyF, intsOf_map, blsOf_map, dSl, dPart, dNoPart, sliceF, at0, at1, at2, at3, at4, ix0, ix1, ix2, ix3, Dn.g0, Dn.g1, Dn.g2, Dn.g3, Dn.g4, ex_some, decide_true, decide_false, Bool.not_true, Bool.not_false, ite_true, ite_false, if_true, if_false, List.reverse_cons, List.reverse_nil, outPost, wipeE, CTg.set, setAll, appF, extF, revF, popF, Nat.zero_add, Nat.reduceAdd, is_NoneType_int, is_NoneType_bool, is_NoneType_str, is_NoneType_tuple, is_NoneType_list, is_bool_int, is_bool_bool, is_bool_str, is_bool_tuple, is_bool_list, is_int_int, is_int_bool, is_int_str, is_int_tuple, is_int_list, is_str_int, is_str_bool, is_str_str, is_str_tuple, is_str_list, is_tuple_int, is_tuple_bool, is_tuple_str, is_tuple_tuple, is_tuple_list, is_list_int, is_list_bool, is_list_str, is_list_tuple, is_list_list]
        refine ⟨sl2 (by omega), ?_, by simp; omega, trivial⟩
        rw [take_succ' hF, List.countP_append, ← hacc, List.length_append, List.countP_cons, List.countP_nil]
        simp [hd]
      · simp only [hd, dOp, dUn, dVar, dC, slot, startE, List.map, List.length, List.replicate, List.append, List.cons_append, List.nil_append, List.set, dAnd, dOr, dNot, dtB, dtAnd, dtOr, dtNot, dIf, dtTru, truF, dNil, dCons, dTup, dLst, dCB, sNil, sSeq, sRet, sRetN, sExpr, sIf, sAsg, gN, gT, gsNil, gsCons, gS, sPar, sAug, sWhile, sFor, sBrk, sCont, sNo, sRaise, dCallP_eq, dCallD_eq, List.length_map, List.getElem?_cons_succ, List.getElem?_concat_length, set_last, get_mid, get_mid2, eqF, neF, ltF, leF, gtF, geF, isF, notF, addF, subF, mulF, fdivF, modF, powF, negF, ixF, lenF, tupF, lstF, absF, intF, gcdF, maxF, minF, Rs.to, dIsi, dIsi2, dIsE, tyN, D.isNon, dM1, dM0, srcSeq, srcRng1, srcRng2, dLc, tYesD, iaddF, isBF, notBF, srcZip, repF, sumF, allF, anyF, intsOf_map, blsOf_map, dSl, dPart, dNoPart, sliceF, at0, at1, at2, at3, at4, ix0, ix1, ix2, ix3, Dn.g0, Dn.g1, Dn.g2, Dn.g3, Dn.g4, ex_some, decide_true, decide_false, Bool.not_true, Bool.not_false, ite_true, ite_false, if_true, if_false, List.reverse_cons, List.reverse_nil, outPost, wipeE, CTg.set, setAll, appF, extF, revF, popF, Nat.zero_add, Nat.reduceAdd, is_NoneType_int, is_NoneType_bool, is_NoneType_str, is_NoneType_tuple, is_NoneType_list, is_bool_int, is_bool_bool, is_bool_str, is_bool_tuple, is_bool_list, is_int_int, is_int_bool, is_int_str, is_int_tuple, is_int_list, is_str_int, is_str_bool, is_str_str, is_str_tuple, is_str_list, is_tuple_int, is_tuple_bool, is_tuple_str, is_tuple_tuple, is_tuple_list, is_list_int, is_list_bool, is_list_str, is_list_tuple, is_list_list]
        refine ⟨?_, by omega, trivial⟩
        rw [take_succ' hF, List.countP_append, ← hacc, List.countP_cons, List.countP_nil]
        simp [hd]
    · rintro acc h ⟨hacc, hle, rfl⟩
      rw [List.take_length] at hacc
      simp only [dOp, dUn, dVar, dC, slot, startE, List.map, List.length, List.replicate, List.append, List.cons_append, List.nil_append, List.set, dAnd, dOr, dNot, dtB, dtAnd, dtOr, dtNot, dIf, dtTru, truF, dNil, dCons, dTup, dLst, dCB, sNil, sSeq, sRet, sRetN, sExpr, sIf, sAsg, gN, gT, gsNil, gsCons, gS, sPar, sAug, sWhile, sFor, sBrk, sCont, sNo, sRaise, dCallP_eq, dCallD_eq, List.length_map, List.getElem?_cons_succ, List.getElem?_concat_length, set_last, get_mid, get_mid2, eqF, neF, ltF, leF, gtF, geF, isF, notF, addF, subF, mulF, fdivF, modF, powF, negF, ixF, lenF, tupF, lstF, absF, intF, gcdF, maxF, minF, Rs.to, dIsi, dIsi2, dIsE, tyN, D.isNon, dM1, dM0, srcSeq, srcRng1, srcRng2, dLc, tYesD, iaddF, isBF, notBF, srcZip, repF, sumF, allF, anyF, intsOf_map, blsOf_map, dSl, dPart, dNoPart, sliceF, at0, at1, at2, at3, at4, ix0, ix1, ix2, ix3, Dn.g0, Dn.g1, Dn.g2, Dn.g3, Dn.g4, ex_some, decide_true, decide_false, Bool.not_true, Bool.not_false, ite_true, ite_false, if_true, if_false, List.reverse_cons, List.reverse_nil, outPost, wipeE, CTg.set, setAll, appF, extF, revF, popF, Nat.zero_add, Nat.reduceAdd, is_NoneType_int, is_NoneType_bool, is_NoneType_str, is_NoneType_tuple, is_NoneType_list, is_bool_int, is_bool_bool, is_bool_str, is_bool_tuple, is_bool_list, is_int_int, is_int_bool, is_int_str, is_int_tuple, is_int_list, is_str_int, is_str_bool, is_str_str, is_str_tuple, is_str_list, is_tuple_int, is_tuple_bool, is_tuple_str, is_tuple_tuple, is_tuple_list, is_list_int, is_list_bool, is_list_str, is_list_tuple, is_list_list]
      rw [hacc, ← ek]
      exact t6 _
theorem tail0 {A : Dx} {c : List Int} {s : DrS} {j : Hh} {sc t u8 u9 u10 u11 u12 u13 u14 u15 u16 u17 : Option D} {sz : Int} {x : ITm} (I : preIT x) (hw : 0 < x.w) (hu : 0 < x.u) (hc : s.c = c) (ha : 0 ≤ s.a) (nx : ∀ u10 u11 u12 u13 u14 u15 s' j', s'.c = c → 0 ≤ s'.a → A.nx (E2 sc sz t x [u8, u9, u10, u11, u12, u13, u14, u15, u16, u17]) (H2 c s' j')) :
    l2_law_0 A (E2 sc sz t x [u8, u9, u10, u11, u12, u13, u14, u15, u16, u17]) (H2 c s j) := by
  obtain ⟨i1, i2, i3, i4, i5, i6⟩ := id I
  simp only [l2_law_0, E2, H2, dOp, dUn, dVar, dC, slot, startE, List.map, List.length, List.replicate, List.append, List.cons_append, List.nil_append, List.set, dAnd, dOr, dNot, dtB, dtAnd, dtOr, dtNot, dIf, dtTru, truF, dNil, dCons, dTup, dLst, dCB, sNil, sSeq, sRet, sRetN, sExpr, sIf, sAsg, gN, gT, gsNil, gsCons, gS, sPar, sAug, sWhile, sFor, sBrk, sCont, sNo, sRaise, dCallP_eq, dCallD_eq, List.length_map, List.getElem?_cons_succ, List.getElem?_concat_length, set_last, get_mid, get_mid2, eqF, neF, ltF, leF, gtF, geF, isF, notF, addF, subF, mulF, fdivF, modF, powF, negF, ixF, lenF, tupF, lstF, absF, intF, gcdF, maxF, minF, Rs.to, dIsi, dIsi2, dIsE, tyN, D.isNon, dM1, dM0, srcSeq, srcRng1, srcRng2, dLc, tYesD, iaddF, isBF, notBF, srcZip, repF, sumF, allF, anyF, intsOf_map, blsOf_map, dSl, dPart, dNoPart, sliceF, at0, at1, at2, at3, at4, ix0, ix1, ix2, ix3, Dn.g0, Dn.g1, Dn.g2, Dn.g3, Dn.g4, ex_some, decide_true, decide_false, Bool.not_true, Bool.not_false, ite_true, ite_false, if_true, if_false, List.reverse_cons, List.reverse_nil, outPost, wipeE, CTg.set, setAll, appF, extF, revF, popF, Nat.zero_add, Nat.reduceAdd, is_NoneType_int, is_NoneType_bool, is_NoneType_str, is_NoneType_tuple, is_NoneType_list, is_bool_int, is_bool_bool, is_bool_str, is_bool_tuple, is_bool_list, is_int_int, is_int_bool, is_int_str, is_int_tuple, is_int_list, is_str_int, is_str_bool, is_str_str, is_str_tuple, is_str_list, is_tuple_int, is_tuple_bool, is_tuple_str, is_tuple_tuple, is_tuple_list, is_list_int, is_list_bool, is_list_str, is_list_tuple, is_list_list]
  refine useD_10 9 hc rfl ⟨rfl, by decide, bt_lit (by decide) (by decide), ha⟩ ?_
  rintro o s1 ⟨v1, rfl, v10, v11, a1⟩ hc1
  refine ⟨_, rfl, ?_⟩
  simp only [dOp, dUn, dVar, dC, slot, startE, List.map, List.length, List.replicate, List.append, List.cons_append, List.nil_append, List.set, dAnd, dOr, dNot, dtB, dtAnd, dtOr, dtNot, dIf, dtTru, truF, dNil, dCons, dTup, dLst, dCB, sNil, sSeq, sRet, sRetN, sExpr, sIf, sAsg, gN, gT, gsNil, gsCons, gS, sPar, sAug, sWhile, sFor, sBrk, sCont, sNo, sRaise, dCallP_eq, dCallD_eq, List.length_map, List.getElem?_cons_succ, List.getElem?_concat_length, set_last, get_mid, get_mid2, eqF, neF, ltF, leF, gtF, geF, isF, notF, addF, subF, mulF, fdivF, modF, powF, negF, ixF, lenF, tupF, lstF, absF, intF, gcdF, maxF, minF, Rs.to, dIsi, dIsi2, dIsE, tyN, D.isNon, dM1, dM0, srcSeq, srcRng1, srcRng2, dLc, tYesD, iaddF, isBF, notBF, srcZip, repF, sumF, allF, anyF, intsOf_map, blsOf_map, dSl, dPart, dNoPart, sliceF, at0, at1, at2, at3, at4, ix0, ix1, ix2, ix3, Dn.g0, Dn.g1, Dn.g2, Dn.g3, Dn.g4, ex_some, decide_true, decide_false, Bool.not_true, Bool.not_false, ite_true, ite_false, if_true, if_false, List.reverse_cons, List.reverse_nil, outPost, wipeE, CTg.set, setAll, appF, extF, revF, popF, Nat.zero_add, Nat.reduceAdd, is_NoneType_int, is_NoneType_bool, is_NoneType_str, is_NoneType_tuple, is_NoneType_list, is_bool_int, is_bool_bool, is_bool_str, is_bool_tuple, is_bool_list, is_int_int, is_int_bool, is_int_str, is_int_tuple, is_int_list, is_str_int, is_str_bool, is_str_str, is_str_tuple, is_str_list, is_tuple_int, is_tuple_bool, is_tuple_str, is_tuple_tuple, is_tuple_list, is_list_int, is_list_bool, is_list_str, is_list_tuple, is_list_list]
  refine useD_10 6 hc1 rfl ⟨rfl, by decide, bt_lit (by decide) (by decide), a1⟩ ?_
  rintro o s2 ⟨v2, rfl, v20, v21, a2⟩ hc2
  refine ⟨_, rfl, ?_⟩
  simp only [dOp, dUn, dVar, dC, slot, startE, List.map, List.length, List.replicate, List.append, List.cons_append, List.nil_append, List.set, dAnd, dOr, dNot, dtB, dtAnd, dtOr, dtNot, dIf, dtTru, truF, dNil, dCons, dTup, dLst, dCB, sNil, sSeq, sRet, sRetN, sExpr, sIf, sAsg, gN, gT, gsNil, gsCons, gS, sPar, sAug, sWhile, sFor, sBrk, sCont, sNo, sRaise, dCallP_eq, dCallD_eq, List.length_map, List.getElem?_cons_succ, List.getElem?_concat_length, set_last, get_mid, get_mid2, eqF, neF, ltF, leF, gtF, geF, isF, notF, addF, subF, mulF, fdivF, modF, powF, negF, ixF, lenF, tupF, lstF, absF, intF, gcdF, maxF, minF, Rs.to, dIsi, dIsi2, dIsE, tyN, D.isNon, dM1, dM0, srcSeq, srcRng1, srcRng2, dLc, tYesD, iaddF, isBF, notBF, srcZip, repF, sumF, allF, anyF, intsOf_map, blsOf_map, dSl, dPart, dNoPart, sliceF, at0, at1, at2, at3, at4, ix0, ix1, ix2, ix3, Dn.g0, Dn.g1, Dn.g2, Dn.g3, Dn.g4, ex_some, decide_true, decide_false, Bool.not_true, Bool.not_false, ite_true, ite_false, if_true, if_false, List.reverse_cons, List.reverse_nil, outPost, wipeE, CTg.set, setAll, appF, extF, revF, popF, Nat.zero_add, Nat.reduceAdd, is_NoneType_int, is_NoneType_bool, is_NoneType_str, is_NoneType_tuple, is_NoneType_list, is_bool_int, is_bool_bool, is_bool_str, is_bool_tuple, is_bool_list, is_int_int, is_int_bool, is_int_str, is_int_tuple, is_int_list, is_str_int, is_str_bool, is_str_str, is_str_tuple, is_str_list, is_tuple_int, is_tuple_bool, is_tuple_str, is_tuple_tuple, is_tuple_list, is_list_int, is_list_bool, is_list_str, is_list_tuple, is_list_list]
  refine useP_mk (v1 - 2, 1 + v2) _ (Views.pures rfl) ⟨rfl, by show 0 < 1 + v2; omega, bt20 (by show (v1 - 2).natAbs < _; omega), bt20 (by show (1 + v2).natAbs < _; omega)⟩ ?_ (fun _ q => q)
  rintro o ⟨a, b, rfl, b0, ba, bb⟩ -
  simp only [l2_law_1, dOp, dUn, dVar, dC, slot, startE, List.map, List.length, List.replicate, List.append, List.cons_append, List.nil_append, List.set, dAnd, dOr, dNot, dtB, dtAnd, dtOr, dtNot, dIf, dtTru, truF, dNil, dCons, dTup, dLst, dCB, sNil, sSeq, sRet, sRetN, sExpr, sIf, sAsg, gN, gT, gsNil, gsCons, gS, sPar, sAug, sWhile, sFor, sBrk, sCont, sNo, sRaise, dCallP_eq, dCallD_eq, List.length_map, List.getElem?_cons_succ, List.getElem?_concat_length, set_last, get_mid, get_mid2, eqF, neF, ltF, leF, gtF, geF, isF, notF, addF, subF, mulF, fdivF, modF, powF, negF, ixF, lenF, tupF, lstF, absF, intF, gcdF, maxF, minF, Rs.to, dIsi, dIsi2, dIsE, tyN, D.isNon, dM1, dM0, srcSeq, srcRng1, srcRng2, dLc, tYesD, iaddF, isBF, notBF, srcZip, repF, sumF, allF, anyF, intsOf_map, blsOf_map, dSl, dPart, dNoPart, sliceF, at0, at1, at2, at3, at4, ix0, ix1, ix2, ix3, Dn.g0, Dn.g1, Dn.g2, Dn.g3, Dn.g4, ex_some, decide_true, decide_false, Bool.not_true, Bool.not_false, ite_true, ite_false, if_true, if_false, List.reverse_cons, List.reverse_nil, outPost, wipeE, CTg.set, setAll, appF, extF, revF, popF, Nat.zero_add, Nat.reduceAdd, is_NoneType_int, is_NoneType_bool, is_NoneType_str, is_NoneType_tuple, is_NoneType_list, is_bool_int, is_bool_bool, is_bool_str, is_bool_tuple, is_bool_list, is_int_int, is_int_bool, is_int_str, is_int_tuple, is_int_list, is_str_int, is_str_bool, is_str_str, is_str_tuple, is_str_list, is_tuple_int, is_tuple_bool, is_tuple_str, is_tuple_tuple, is_tuple_list, is_list_int, is_list_bool, is_list_str, is_list_tuple, is_list_list]
  refine useP_mk ⟨x.s, x.w, x.v, x.u, a, b⟩ _ (Views.pures (by simp only [pureDs, pureD, ints_pure]; rfl)) ⟨rfl, i2, i3, i4, i5, hw, hu, b0, ba, bb⟩ ?_ (fun _ q => q)
  rintro o ⟨l, r, g, rfl, g0, r0, hll, hr, htip, lb⟩ -
  have l0 := lb.app
  have hll : l.length = x.s.length := hll
  simp only [l2_law_2, cut_last, at_lasti, dOp, dUn, dVar, dC, slot, startE, List.map, List.length, List.replicate, List.append, List.cons_append, List.nil_append, List.set, dAnd, dOr, dNot, dtB, dtAnd, dtOr, dtNot, dIf, dtTru, truF, dNil, dCons, dTup, dLst, dCB, sNil, sSeq, sRet, sRetN, sExpr, sIf, sAsg, gN, gT, gsNil, gsCons, gS, sPar, sAug, sWhile, sFor, sBrk, sCont, sNo, sRaise, dCallP_eq, dCallD_eq, List.length_map, List.getElem?_cons_succ, List.getElem?_concat_length, set_last, get_mid, get_mid2, eqF, neF, ltF, leF, gtF, geF, isF, notF, addF, subF, mulF, fdivF, modF, powF, negF, ixF, lenF, tupF, lstF, absF, intF, gcdF, maxF, minF, Rs.to, dIsi, dIsi2, dIsE, tyN, D.isNon, dM1, dM0, srcSeq, srcRng1, srcRng2, dLc, tYesD, iaddF, isBF, notBF, srcZip, repF, sumF, allF, anyF, intsOf_map, blsOf_map, dSl, dPart, dNoPart, sliceF, at0, at1, at2, at3, at4, ix0, ix1, ix2, ix3, Dn.g0, Dn.g1, Dn.g2, Dn.g3, Dn.g4, ex_some, decide_true, decide_false, Bool.not_true, Bool.not_false, ite_true, ite_false, if_true, if_false, List.reverse_cons, List.reverse_nil, outPost, wipeE, CTg.set, setAll, appF, extF, revF, popF, Nat.zero_add, Nat.reduceAdd, is_NoneType_int, is_NoneType_bool, is_NoneType_str, is_NoneType_tuple, is_NoneType_list, is_bool_int, is_bool_bool, is_bool_str, is_bool_tuple, is_bool_list, is_int_int, is_int_bool, is_int_str, is_int_tuple, is_int_list, is_str_int, is_str_bool, is_str_str, is_str_tuple, is_str_list, is_tuple_int, is_tuple_bool, is_tuple_str, is_tuple_tuple, is_tuple_list, is_list_int, is_list_bool, is_list_str, is_list_tuple, is_list_list]
  refine ⟨fun i acc h => ∃ (M : List Int) (s' : DrS), acc = M.map .int ∧ h = H2 c s' j ∧ s'.c = c ∧ 0 ≤ s'.a ∧ M.length = i ∧ ∀ y ∈ M, Bt 160 y, ⟨[], s2, rfl, rfl, hc2, a2, rfl, fun _ h => by cases h⟩, fun _ _ _ _ _ => trivial, ?_, ?_⟩
  · rintro i y acc h hy ⟨M, s', rfl, rfl, hc', ha', hM, hb⟩
    obtain ⟨hi, rfl⟩ := mapi_at hy
    simp only [dOp, dUn, dVar, dC, slot, startE, List.map, List.length, List.replicate, List.append, List.cons_append, List.nil_append, List.set, dAnd, dOr, dNot, dtB, dtAnd, dtOr, dtNot, dIf, dtTru, truF, dNil, dCons, dTup, dLst, dCB, sNil, sSeq, sRet, sRetN, sExpr, sIf, sAsg, gN, gT, gsNil, gsCons, gS, sPar, sAug, sWhile, sFor, sBrk, sCont, sNo, sRaise, dCallP_eq, dCallD_eq, List.length_map, List.getElem?_cons_succ, List.getElem?_concat_length, set_last, get_mid, get_mid2, eqF, neF, ltF, leF, gtF, geF, isF, notF, addF, subF, mulF, fdivF, modF, powF, negF, ixF, lenF, tupF, lstF, absF, intF, gcdF, maxF, minF, Rs.to, dIsi, dIsi2, dIsE, tyN, D.isNon, dM1, dM0, srcSeq, srcRng1, srcRng2, dLc, tYesD, iaddF, isBF, notBF, srcZip, repF, sumF, allF, anyF, intsOf_map, blsOf_map, dSl, dPart, dNoPart, sliceF, at0, at1, at2, at3, at4, ix0, ix1, ix2, ix3, Dn.g0, Dn.g1, Dn.g2, Dn.g3, Dn.g4, ex_some, decide_true, decide_false, Bool.not_true, Bool.not_false, ite_true, ite_false, if_true, if_false, List.reverse_cons, List.reverse_nil, outPost, wipeE, CTg.set, setAll, appF, extF, revF, popF, Nat.zero_add, Nat.reduceAdd, is_NoneType_int, is_NoneType_bool, is_NoneType_str, is_NoneType_tuple, is_NoneType_list, is_bool_int, is_bool_bool, is_bool_str, is_bool_tuple, is_bool_list, is_int_int, is_int_bool, is_int_str, is_int_tuple, is_int_list, is_str_int, is_str_bool, is_str_str, is_str_tuple, is_str_list, is_tuple_int, is_tuple_bool, is_tuple_str, is_tuple_tuple, is_tuple_list, is_list_int, is_list_bool, is_list_str, is_list_tuple, is_list_list]
    refine useD_10 5 hc' rfl ⟨rfl, by decide, by decide, ha'⟩ ?_
    rintro o s4 ⟨q, rfl, w0, w1, a4⟩ hc4
    refine ⟨_, rfl, ?_⟩
    simp only [at_lasti, dOp, dUn, dVar, dC, slot, startE, List.map, List.length, List.replicate, List.append, List.cons_append, List.nil_append, List.set, dAnd, dOr, dNot, dtB, dtAnd, dtOr, dtNot, dIf, dtTru, truF, dNil, dCons, dTup, dLst, dCB, sNil, sSeq, sRet, sRetN, sExpr, sIf, sAsg, gN, gT, gsNil, gsCons, gS, sPar, sAug, sWhile, sFor, sBrk, sCont, sNo, sRaise, dCallP_eq, dCallD_eq, List.length_map, List.getElem?_cons_succ, List.getElem?_concat_length, set_last, get_mid, get_mid2, eqF, neF, ltF, leF, gtF, geF, isF, notF, addF, subF, mulF, fdivF, modF, powF, negF, ixF, lenF, tupF, lstF, absF, intF, gcdF, maxF, minF, Rs.to, dIsi, dIsi2, dIsE, tyN, D.isNon, dM1, dM0, srcSeq, srcRng1, srcRng2, dLc, tYesD, iaddF, isBF, notBF, srcZip, repF, sumF, allF, anyF, intsOf_map, blsOf_map, dSl, dPart, dNoPart, sliceF, at0, at1, at2, at3, at4, ix0, ix1, ix2, ix3, Dn.g0, Dn.g1, Dn.g2, Dn.g3, Dn.g4, ex_some, decide_true, decide_false, Bool.not_true, Bool.not_false, ite_true, ite_false, if_true, if_false, List.reverse_cons, List.reverse_nil, outPost, wipeE, CTg.set, setAll, appF, extF, revF, popF, Nat.zero_add, Nat.reduceAdd, is_NoneType_int, is_NoneType_bool, is_NoneType_str, is_NoneType_tuple, is_NoneType_list, is_bool_int, is_bool_bool, is_bool_str, is_bool_tuple, is_bool_list, is_int_int, is_int_bool, is_int_str, is_int_tuple, is_int_list, is_str_int, is_str_bool, is_str_str, is_str_tuple, is_str_list, is_tuple_int, is_tuple_bool, is_tuple_str, is_tuple_tuple, is_tuple_list, is_list_int, is_list_bool, is_list_str, is_list_tuple, is_list_list]
    have bq : Bt 3 q := bt_iff.mpr (by omega)
    refine ⟨bt_mul (bt_mono bq (by decide : 3 ≤ 151)) l0.2 (by decide), sl2 (by first | omega | (simp; omega)), M ++ [l.getD i 0 + q * r], s4, app_int _ _, rfl, hc4, a4, by simp [hM], fun y hy => ?_⟩
    rcases List.mem_append.mp hy with z | z
    · exact hb y z
    · rw [List.mem_singleton] at z; rw [z]
      exact bt_mono (bits_add (l0.1.getD i) (bits_mul bq l0.2)) (by decide)
  · rintro acc h ⟨M, s', rfl, rfl, hc', ha', hM, hb⟩
    have hM : M.length = l.length := hM
    simp only [at_lasti, H2, dOp, dUn, dVar, dC, slot, startE, List.map, List.length, List.replicate, List.append, List.cons_append, List.nil_append, List.set, dAnd, dOr, dNot, dtB, dtAnd, dtOr, dtNot, dIf, dtTru, truF, dNil, dCons, dTup, dLst, dCB, sNil, sSeq, sRet, sRetN, sExpr, sIf, sAsg, gN, gT, gsNil, gsCons, gS, sPar, sAug, sWhile, sFor, sBrk, sCont, sNo, sRaise, dCallP_eq, dCallD_eq, List.length_map, List.getElem?_cons_succ, List.getElem?_concat_length, set_last, get_mid, get_mid2, eqF, neF, ltF, leF, gtF, geF, isF, notF, addF, subF, mulF, fdivF, modF, powF, negF, ixF, lenF, tupF, lstF, absF, intF, gcdF, maxF, minF, Rs.to, dIsi, dIsi2, dIsE, tyN, D.isNon, dM1, dM0, srcSeq, srcRng1, srcRng2, dLc, tYesD, iaddF, isBF, notBF, srcZip, repF, sumF, allF, anyF, intsOf_map, blsOf_map, dSl, dPart, dNoPart, sliceF, at0, at1, at2, at3, at4, ix0, ix1, ix2, ix3, Dn.g0, Dn.g1, Dn.g2, Dn.g3, Dn.g4, ex_some, decide_true, decide_false, Bool.not_true, Bool.not_false, ite_true, ite_false, if_true, if_false, List.reverse_cons, List.reverse_nil, outPost, wipeE, CTg.set, setAll, appF, extF, revF, popF, Nat.zero_add, Nat.reduceAdd, is_NoneType_int, is_NoneType_bool, is_NoneType_str, is_NoneType_tuple, is_NoneType_list, is_bool_int, is_bool_bool, is_bool_str, is_bool_tuple, is_bool_list, is_int_int, is_int_bool, is_int_str, is_int_tuple, is_int_list, is_str_int, is_str_bool, is_str_str, is_str_tuple, is_str_list, is_tuple_int, is_tuple_bool, is_tuple_str, is_tuple_tuple, is_tuple_list, is_list_int, is_list_bool, is_list_str, is_list_tuple, is_list_list]
    refine ⟨Nat.le_of_lt (sl2 (by omega)), ?_⟩
    rw [app_int]
    have lbM : Lb 160 (M ++ [r]) := Lb.mk' ⟨by omega, hb⟩ (by omega) (bt_mono l0.2 (by decide))
    refine low_use (lbM.mono (by decide)) r0 fun p pl g4 g40 hp1 hp2 pl0 hb' => ?_
    have bp := hb' _ lbM
    have hpl : p.length = x.s.length := by
      have := congrArg List.length hp1
      rw [List.length_map] at this; omega
    simp only [l2_law_3, dOp, dUn, dVar, dC, slot, startE, List.map, List.length, List.replicate, List.append, List.cons_append, List.nil_append, List.set, dAnd, dOr, dNot, dtB, dtAnd, dtOr, dtNot, dIf, dtTru, truF, dNil, dCons, dTup, dLst, dCB, sNil, sSeq, sRet, sRetN, sExpr, sIf, sAsg, gN, gT, gsNil, gsCons, gS, sPar, sAug, sWhile, sFor, sBrk, sCont, sNo, sRaise, dCallP_eq, dCallD_eq, List.length_map, List.getElem?_cons_succ, List.getElem?_concat_length, set_last, get_mid, get_mid2, eqF, neF, ltF, leF, gtF, geF, isF, notF, addF, subF, mulF, fdivF, modF, powF, negF, ixF, lenF, tupF, lstF, absF, intF, gcdF, maxF, minF, Rs.to, dIsi, dIsi2, dIsE, tyN, D.isNon, dM1, dM0, srcSeq, srcRng1, srcRng2, dLc, tYesD, iaddF, isBF, notBF, srcZip, repF, sumF, allF, anyF, intsOf_map, blsOf_map, dSl, dPart, dNoPart, sliceF, at0, at1, at2, at3, at4, ix0, ix1, ix2, ix3, Dn.g0, Dn.g1, Dn.g2, Dn.g3, Dn.g4, ex_some, decide_true, decide_false, Bool.not_true, Bool.not_false, ite_true, ite_false, if_true, if_false, List.reverse_cons, List.reverse_nil, outPost, wipeE, CTg.set, setAll, appF, extF, revF, popF, Nat.zero_add, Nat.reduceAdd, is_NoneType_int, is_NoneType_bool, is_NoneType_str, is_NoneType_tuple, is_NoneType_list, is_bool_int, is_bool_bool, is_bool_str, is_bool_tuple, is_bool_list, is_int_int, is_int_bool, is_int_str, is_int_tuple, is_int_list, is_str_int, is_str_bool, is_str_str, is_str_tuple, is_str_list, is_tuple_int, is_tuple_bool, is_tuple_str, is_tuple_tuple, is_tuple_list, is_list_int, is_list_bool, is_list_str, is_list_tuple, is_list_list]
    refine useP_mk ⟨p, pl, l, r⟩ _ (Views.pures (by simp only [pureDs, pureD, ints_pure]; rfl)) ⟨rfl, hpl.trans hll.symm, (show l.length ≤ 10 by omega), bp.mono (by decide), lb.mono (by decide), pl0, r0⟩ ?_ (fun _ q => q)
    rintro o ⟨gp, gr, g3, rfl, g30, gr0, hgl, hgr, hgap, bg⟩ -
    have hgl : gp.length = l.length := hgl
    have MM : Meets ⟨x, a, b, l, r, g, p, pl, gp, gr, g3⟩ := ⟨I, b0, g0, g30, pl0, hpl, hgl.trans hll, hr, htip, hgr, fun k hk => hgap k (by show k < l.length; rw [hll]; exact hk)⟩
    have BB : Bds ⟨x, a, b, l, r, g, p, pl, gp, gr, g3⟩ := ⟨ba, bb, lb, bp, bg⟩
    have t5 := fun j => tail5 (A := A) (s := s') (c := c) (j := j) (sc := sc) (t := t) (sz := sz) (u8 := u8) (u9 := u9) (u15 := u15) (u16 := u16) (u17 := u17) MM BB fun _ _ => nx _ _ _ _ _ _ s' _ hc' ha'
    by_cases h0 : 0 ≤ a
    · by_cases h1 : a ≤ b
      · simp only [h0, h1, decide_true, Bool.and_self] at t5
        simp only [l2_law_4, h0, h1, dOp, dUn, dVar, dC, slot, startE, List.map, List.length, List.replicate, List.append, List.cons_append, List.nil_append, List.set, dAnd, dOr, dNot, dtB, dtAnd, dtOr, dtNot, dIf, dtTru, truF, dNil, dCons, dTup, dLst, dCB, sNil, sSeq, sRet, sRetN, sExpr, sIf, sAsg, gN, gT, gsNil, gsCons, gS, sPar, sAug, sWhile, sFor, sBrk, sCont, sNo, sRaise, dCallP_eq, dCallD_eq, List.length_map, List.getElem?_cons_succ, List.getElem?_concat_length, set_last, get_mid, get_mid2, eqF, neF, ltF, leF, gtF, geF, isF, notF, addF, subF, mulF, fdivF, modF, powF, negF, ixF, lenF, tupF, lstF, absF, intF, gcdF, maxF, minF, Rs.to, dIsi, dIsi2, dIsE, tyN, D.isNon, dM1, dM0, srcSeq, srcRng1, srcRng2, dLc, tYesD, iaddF, isBF, notBF, srcZip, repF, sumF, allF, anyF, intsOf_map, blsOf_map, dSl, dPart, dNoPart, sliceF, at0, at1, at2, at3, at4, ix0, ix1, ix2, ix3, Dn.g0, Dn.g1, Dn.g2, Dn.g3, Dn.g4, ex_some, decide_true, decide_false, Bool.not_true, Bool.not_false, ite_true, ite_false, if_true, if_false, List.reverse_cons, List.reverse_nil, outPost, wipeE, CTg.set, setAll, appF, extF, revF, popF, Nat.zero_add, Nat.reduceAdd, is_NoneType_int, is_NoneType_bool, is_NoneType_str, is_NoneType_tuple, is_NoneType_list, is_bool_int, is_bool_bool, is_bool_str, is_bool_tuple, is_bool_list, is_int_int, is_int_bool, is_int_str, is_int_tuple, is_int_list, is_str_int, is_str_bool, is_str_str, is_str_tuple, is_str_list, is_tuple_int, is_tuple_bool, is_tuple_str, is_tuple_tuple, is_tuple_list, is_list_int, is_list_bool, is_list_str, is_list_tuple, is_list_list]
        exact t5 _
      · simp only [h0, h1, decide_true, decide_false, Bool.true_and] at t5
        simp only [l2_law_4, h0, h1, dOp, dUn, dVar, dC, slot, startE, List.map, List.length, List.replicate, List.append, List.cons_append, List.nil_append, List.set, dAnd, dOr, dNot, dtB, dtAnd, dtOr, dtNot, dIf, dtTru, truF, dNil, dCons, dTup, dLst, dCB, sNil, sSeq, sRet, sRetN, sExpr, sIf, sAsg, gN, gT, gsNil, gsCons, gS, sPar, sAug, sWhile, sFor, sBrk, sCont, sNo, sRaise, dCallP_eq, dCallD_eq, List.length_map, List.getElem?_cons_succ, List.getElem?_concat_length, set_last, get_mid, get_mid2, eqF, neF, ltF, leF, gtF, geF, isF, notF, addF, subF, mulF, fdivF, modF, powF, negF, ixF, lenF, tupF, lstF, absF, intF, gcdF, maxF, minF, Rs.to, dIsi, dIsi2, dIsE, tyN, D.isNon, dM1, dM0, srcSeq, srcRng1, srcRng2, dLc, tYesD, iaddF, isBF, notBF, srcZip, repF, sumF, allF, anyF, intsOf_map, blsOf_map, dSl, dPart, dNoPart, sliceF, at0, at1, at2, at3, at4, ix0, ix1, ix2, ix3, Dn.g0, Dn.g1, Dn.g2, Dn.g3, Dn.g4, ex_some, decide_true, decide_false, Bool.not_true, Bool.not_false, ite_true, ite_false, if_true, if_false, List.reverse_cons, List.reverse_nil, outPost, wipeE, CTg.set, setAll, appF, extF, revF, popF, Nat.zero_add, Nat.reduceAdd, is_NoneType_int, is_NoneType_bool, is_NoneType_str, is_NoneType_tuple, is_NoneType_list, is_bool_int, is_bool_bool, is_bool_str, is_bool_tuple, is_bool_list, is_int_int, is_int_bool, is_int_str, is_int_tuple, is_int_list, is_str_int, is_str_bool, is_str_str, is_str_tuple, is_str_list, is_tuple_int, is_tuple_bool, is_tuple_str, is_tuple_tuple, is_tuple_list, is_list_int, is_list_bool, is_list_str, is_list_tuple, is_list_list]
        exact t5 _
    · simp only [h0, decide_false, Bool.false_and] at t5
      simp only [l2_law_4, h0, dOp, dUn, dVar, dC, slot, startE, List.map, List.length, List.replicate, List.append, List.cons_append, List.nil_append, List.set, dAnd, dOr, dNot, dtB, dtAnd, dtOr, dtNot, dIf, dtTru, truF, dNil, dCons, dTup, dLst, dCB, sNil, sSeq, sRet, sRetN, sExpr, sIf, sAsg, gN, gT, gsNil, gsCons, gS, sPar, sAug, sWhile, sFor, sBrk, sCont, sNo, sRaise, dCallP_eq, dCallD_eq, List.length_map, List.getElem?_cons_succ, List.getElem?_concat_length, set_last, get_mid, get_mid2, eqF, neF, ltF, leF, gtF, geF, isF, notF, addF, subF, mulF, fdivF, modF, powF, negF, ixF, lenF, tupF, lstF, absF, intF, gcdF, maxF, minF, Rs.to, dIsi, dIsi2, dIsE, tyN, D.isNon, dM1, dM0, srcSeq, srcRng1, srcRng2, dLc, tYesD, iaddF, isBF, notBF, srcZip, repF, sumF, allF, anyF, intsOf_map, blsOf_map, dSl, dPart, dNoPart, sliceF, at0, at1, at2, at3, at4, ix0, ix1, ix2, ix3, Dn.g0, Dn.g1, Dn.g2, Dn.g3, Dn.g4, ex_some, decide_true, decide_false, Bool.not_true, Bool.not_false, ite_true, ite_false, if_true, if_false, List.reverse_cons, List.reverse_nil, outPost, wipeE, CTg.set, setAll, appF, extF, revF, popF, Nat.zero_add, Nat.reduceAdd, is_NoneType_int, is_NoneType_bool, is_NoneType_str, is_NoneType_tuple, is_NoneType_list, is_bool_int, is_bool_bool, is_bool_str, is_bool_tuple, is_bool_list, is_int_int, is_int_bool, is_int_str, is_int_tuple, is_int_list, is_str_int, is_str_bool, is_str_str, is_str_tuple, is_str_list, is_tuple_int, is_tuple_bool, is_tuple_str, is_tuple_tuple, is_tuple_list, is_list_int, is_list_bool, is_list_str, is_list_tuple, is_list_list]
      exact t5 _
theorem body {A : Dx} {c : List Int} {s : DrS} {j : Hh} {sc t u4 u5 u6 u7 u8 u9 u10 u11 u12 u13 u14 u15 u16 u17 : Option D} {sz : Int} (z1 : 1 ≤ sz) (z3 : sz ≤ 5) (hc : s.c = c) (ha : 0 ≤ s.a) (nx : ∀ l s' j', l.length = 15 → s'.c = c → 0 ≤ s'.a → A.nx (sc :: some (.ref 1) :: some (.int sz) :: l) (H2 c s' j')) :
    l1_law_0 A [sc, some (.ref 1), some (.int sz), t, u4, u5, u6, u7, u8, u9, u10, u11, u12, u13, u14, u15, u16, u17] (H2 c s j) := by
  simp only [l1_law_0, H2, dOp, dUn, dVar, dC, slot, startE, List.map, List.length, List.replicate, List.append, List.cons_append, List.nil_append, List.set, dAnd, dOr, dNot, dtB, dtAnd, dtOr, dtNot, dIf, dtTru, truF, dNil, dCons, dTup, dLst, dCB, sNil, sSeq, sRet, sRetN, sExpr, sIf, sAsg, gN, gT, gsNil, gsCons, gS, sPar, sAug, sWhile, sFor, sBrk, sCont, sNo, sRaise, dCallP_eq, dCallD_eq, List.length_map, List.getElem?_cons_succ, List.getElem?_concat_length, set_last, get_mid, get_mid2, eqF, neF, ltF, leF, gtF, geF, isF, notF, addF, subF, mulF, fdivF, modF, powF, negF, ixF, lenF, tupF, lstF, absF, intF, gcdF, maxF, minF, Rs.to, dIsi, dIsi2, dIsE, tyN, D.isNon, dM1, dM0, srcSeq, srcRng1, srcRng2, dLc, tYesD, iaddF, isBF, notBF, srcZip, repF, sumF, allF, anyF, intsOf_map, blsOf_map, dSl, dPart, dNoPart, sliceF, at0, at1, at2, at3, at4, ix0, ix1, ix2, ix3, Dn.g0, Dn.g1, Dn.g2, Dn.g3, Dn.g4, ex_some, decide_true, decide_false, Bool.not_true, Bool.not_false, ite_true, ite_false, if_true, if_false, List.reverse_cons, List.reverse_nil, outPost, wipeE, CTg.set, setAll, appF, extF, revF, popF, Nat.zero_add, Nat.reduceAdd, is_NoneType_int, is_NoneType_bool, is_NoneType_str, is_NoneType_tuple, is_NoneType_list, is_bool_int, is_bool_bool, is_bool_str, is_bool_tuple, is_bool_list, is_int_int, is_int_bool, is_int_str, is_int_tuple, is_int_list, is_str_int, is_str_bool, is_str_str, is_str_tuple, is_str_list, is_tuple_int, is_tuple_bool, is_tuple_str, is_tuple_tuple, is_tuple_list, is_list_int, is_list_bool, is_list_str, is_list_tuple, is_list_list]
  refine useD_10 sz hc rfl ⟨rfl, z1, z3, ha⟩ ?_
  rintro o s1 ⟨FS, rfl, hF, a1⟩ hc1
  refine ⟨_, rfl, ?_⟩
  simp only [l1_law_1, dOp, dUn, dVar, dC, slot, startE, List.map, List.length, List.replicate, List.append, List.cons_append, List.nil_append, List.set, dAnd, dOr, dNot, dtB, dtAnd, dtOr, dtNot, dIf, dtTru, truF, dNil, dCons, dTup, dLst, dCB, sNil, sSeq, sRet, sRetN, sExpr, sIf, sAsg, gN, gT, gsNil, gsCons, gS, sPar, sAug, sWhile, sFor, sBrk, sCont, sNo, sRaise, dCallP_eq, dCallD_eq, List.length_map, List.getElem?_cons_succ, List.getElem?_concat_length, set_last, get_mid, get_mid2, eqF, neF, ltF, leF, gtF, geF, isF, notF, addF, subF, mulF, fdivF, modF, powF, negF, ixF, lenF, tupF, lstF, absF, intF, gcdF, maxF, minF, Rs.to, dIsi, dIsi2, dIsE, tyN, D.isNon, dM1, dM0, srcSeq, srcRng1, srcRng2, dLc, tYesD, iaddF, isBF, notBF, srcZip, repF, sumF, allF, anyF, intsOf_map, blsOf_map, dSl, dPart, dNoPart, sliceF, at0, at1, at2, at3, at4, ix0, ix1, ix2, ix3, Dn.g0, Dn.g1, Dn.g2, Dn.g3, Dn.g4, ex_some, decide_true, decide_false, Bool.not_true, Bool.not_false, ite_true, ite_false, if_true, if_false, List.reverse_cons, List.reverse_nil, outPost, wipeE, CTg.set, setAll, appF, extF, revF, popF, Nat.zero_add, Nat.reduceAdd, is_NoneType_int, is_NoneType_bool, is_NoneType_str, is_NoneType_tuple, is_NoneType_list, is_bool_int, is_bool_bool, is_bool_str, is_bool_tuple, is_bool_list, is_int_int, is_int_bool, is_int_str, is_int_tuple, is_int_list, is_str_int, is_str_bool, is_str_str, is_str_tuple, is_str_list, is_tuple_int, is_tuple_bool, is_tuple_str, is_tuple_tuple, is_tuple_list, is_list_int, is_list_bool, is_list_str, is_list_tuple, is_list_list]
  refine useD_10 sz hc1 rfl ⟨rfl, z1, z3, a1⟩ ?_
  rintro o s2 ⟨st, w, rfl, hs, w0, bs, a2⟩ hc2
  refine ⟨_, rfl, ?_⟩
  simp only [l1_law_2, dOp, dUn, dVar, dC, slot, startE, List.map, List.length, List.replicate, List.append, List.cons_append, List.nil_append, List.set, dAnd, dOr, dNot, dtB, dtAnd, dtOr, dtNot, dIf, dtTru, truF, dNil, dCons, dTup, dLst, dCB, sNil, sSeq, sRet, sRetN, sExpr, sIf, sAsg, gN, gT, gsNil, gsCons, gS, sPar, sAug, sWhile, sFor, sBrk, sCont, sNo, sRaise, dCallP_eq, dCallD_eq, List.length_map, List.getElem?_cons_succ, List.getElem?_concat_length, set_last, get_mid, get_mid2, eqF, neF, ltF, leF, gtF, geF, isF, notF, addF, subF, mulF, fdivF, modF, powF, negF, ixF, lenF, tupF, lstF, absF, intF, gcdF, maxF, minF, Rs.to, dIsi, dIsi2, dIsE, tyN, D.isNon, dM1, dM0, srcSeq, srcRng1, srcRng2, dLc, tYesD, iaddF, isBF, notBF, srcZip, repF, sumF, allF, anyF, intsOf_map, blsOf_map, dSl, dPart, dNoPart, sliceF, at0, at1, at2, at3, at4, ix0, ix1, ix2, ix3, Dn.g0, Dn.g1, Dn.g2, Dn.g3, Dn.g4, ex_some, decide_true, decide_false, Bool.not_true, Bool.not_false, ite_true, ite_false, if_true, if_false, List.reverse_cons, List.reverse_nil, outPost, wipeE, CTg.set, setAll, appF, extF, revF, popF, Nat.zero_add, Nat.reduceAdd, is_NoneType_int, is_NoneType_bool, is_NoneType_str, is_NoneType_tuple, is_NoneType_list, is_bool_int, is_bool_bool, is_bool_str, is_bool_tuple, is_bool_list, is_int_int, is_int_bool, is_int_str, is_int_tuple, is_int_list, is_str_int, is_str_bool, is_str_str, is_str_tuple, is_str_list, is_tuple_int, is_tuple_bool, is_tuple_str, is_tuple_tuple, is_tuple_list, is_list_int, is_list_bool, is_list_str, is_list_tuple, is_list_list]
  refine useD_10 sz hc2 rfl ⟨rfl, z1, z3, a2⟩ ?_
  rintro o s3 ⟨v, u, rfl, hv, u0, bv, a3⟩ hc3
  refine ⟨_, rfl, ?_⟩
  have I : preIT ⟨FS, st, w, v, u⟩ := ⟨hF.1, (show st.length = v.length by omega), (show st.length ≤ 10 by omega), bs, bv, fun F hF' => ⟨(show F.1.length = st.length by have := (hF.2 F hF').1; omega), (hF.2 F hF').2⟩⟩
  subst hs
  simp only [l1_law_3, dOp, dUn, dVar, dC, slot, startE, List.map, List.length, List.replicate, List.append, List.cons_append, List.nil_append, List.set, dAnd, dOr, dNot, dtB, dtAnd, dtOr, dtNot, dIf, dtTru, truF, dNil, dCons, dTup, dLst, dCB, sNil, sSeq, sRet, sRetN, sExpr, sIf, sAsg, gN, gT, gsNil, gsCons, gS, sPar, sAug, sWhile, sFor, sBrk, sCont, sNo, sRaise, dCallP_eq, dCallD_eq, List.length_map, List.getElem?_cons_succ, List.getElem?_concat_length, set_last, get_mid, get_mid2, eqF, neF, ltF, leF, gtF, geF, isF, notF, addF, subF, mulF, fdivF, modF, powF, negF, ixF, lenF, tupF, lstF, absF, intF, gcdF, maxF, minF, Rs.to, dIsi, dIsi2, dIsE, tyN, D.isNon, dM1, dM0, srcSeq, srcRng1, srcRng2, dLc, tYesD, iaddF, isBF, notBF, srcZip, repF, sumF, allF, anyF, intsOf_map, blsOf_map, dSl, dPart, dNoPart, sliceF, at0, at1, at2, at3, at4, ix0, ix1, ix2, ix3, Dn.g0, Dn.g1, Dn.g2, Dn.g3, Dn.g4, ex_some, decide_true, decide_false, Bool.not_true, Bool.not_false, ite_true, ite_false, if_true, if_false, List.reverse_cons, List.reverse_nil, outPost, wipeE, CTg.set, setAll, appF, extF, revF, popF, Nat.zero_add, Nat.reduceAdd, is_NoneType_int, is_NoneType_bool, is_NoneType_str, is_NoneType_tuple, is_NoneType_list, is_bool_int, is_bool_bool, is_bool_str, is_bool_tuple, is_bool_list, is_int_int, is_int_bool, is_int_str, is_int_tuple, is_int_list, is_str_int, is_str_bool, is_str_str, is_str_tuple, is_str_list, is_tuple_int, is_tuple_bool, is_tuple_str, is_tuple_tuple, is_tuple_list, is_list_int, is_list_bool, is_list_str, is_list_tuple, is_list_list]
  refine useP_val ⟨FS, st, w, v, u⟩ _ (by simp only [pureDs, pureD, fmD_pure, ints_pure]; rfl) ⟨rfl, I⟩ (fun o q => q) (fun ex q => q) ?_
  simp only [l1_law_4, dOp, dUn, dVar, dC, slot, startE, List.map, List.length, List.replicate, List.append, List.cons_append, List.nil_append, List.set, dAnd, dOr, dNot, dtB, dtAnd, dtOr, dtNot, dIf, dtTru, truF, dNil, dCons, dTup, dLst, dCB, sNil, sSeq, sRet, sRetN, sExpr, sIf, sAsg, gN, gT, gsNil, gsCons, gS, sPar, sAug, sWhile, sFor, sBrk, sCont, sNo, sRaise, dCallP_eq, dCallD_eq, List.length_map, List.getElem?_cons_succ, List.getElem?_concat_length, set_last, get_mid, get_mid2, eqF, neF, ltF, leF, gtF, geF, isF, notF, addF, subF, mulF, fdivF, modF, powF, negF, ixF, lenF, tupF, lstF, absF, intF, gcdF, maxF, minF, Rs.to, dIsi, dIsi2, dIsE, tyN, D.isNon, dM1, dM0, srcSeq, srcRng1, srcRng2, dLc, tYesD, iaddF, isBF, notBF, srcZip, repF, sumF, allF, anyF, intsOf_map, blsOf_map, dSl, dPart, dNoPart, sliceF, at0, at1, at2, at3, at4, ix0, ix1, ix2, ix3, Dn.g0, Dn.g1, Dn.g2, Dn.g3, Dn.g4, ex_some, decide_true, decide_false, Bool.not_true, Bool.not_false, ite_true, ite_false, if_true, if_false, List.reverse_cons, List.reverse_nil, outPost, wipeE, CTg.set, setAll, appF, extF, revF, popF, Nat.zero_add, Nat.reduceAdd, is_NoneType_int, is_NoneType_bool, is_NoneType_str, is_NoneType_tuple, is_NoneType_list, is_bool_int, is_bool_bool, is_bool_str, is_bool_tuple, is_bool_list, is_int_int, is_int_bool, is_int_str, is_int_tuple, is_int_list, is_str_int, is_str_bool, is_str_str, is_str_tuple, is_str_list, is_tuple_int, is_tuple_bool, is_tuple_str, is_tuple_tuple, is_tuple_list, is_list_int, is_list_bool, is_list_str, is_list_tuple, is_list_list]
  refine ⟨fun i acc h => acc = ((FS.take i).map (movC ⟨FS, st, w, v, u⟩)).map clk ∧ h = H2 c s3 j, ⟨rfl, rfl⟩, fun _ _ _ _ _ => trivial, ?_, ?_⟩
  · rintro i x acc h hx ⟨rfl, rfl⟩
    obtain ⟨G, hG, rfl⟩ := mapf_at hx
    obtain ⟨g1, g2⟩ := I.2.2.2.2.2 G (List.mem_of_getElem? hG)
    have hi : i < FS.length := (List.getElem?_eq_some_iff.mp hG).1
    have hFS : FS.length ≤ 50 := I.1
    refine useP_val (g := sp__law_moving) ⟨G.1, G.2, st, w, v, u⟩ _ (by simp only [fmD, pureDs, pureD, ints_pure]; rfl) ⟨rfl, g1, g1.trans I.2.1, (show G.1.length ≤ 10 by have := I.2.2.1; omega), g2, bs, bv⟩ (fun o q => q) (fun ex q => q) ?_
    refine ⟨sl2 (by simp; omega), ?_, rfl⟩
    rw [take_succ' hG]; simp [movC, clk, cl]
  · rintro acc h ⟨rfl, rfl⟩
    rw [List.take_length]
    simp only [l1_law_5, H2, dOp, dUn, dVar, dC, slot, startE, List.map, List.length, List.replicate, List.append, List.cons_append, List.nil_append, List.set, dAnd, dOr, dNot, dtB, dtAnd, dtOr, dtNot, dIf, dtTru, truF, dNil, dCons, dTup, dLst, dCB, sNil, sSeq, sRet, sRetN, sExpr, sIf, sAsg, gN, gT, gsNil, gsCons, gS, sPar, sAug, sWhile, sFor, sBrk, sCont, sNo, sRaise, dCallP_eq, dCallD_eq, List.length_map, List.getElem?_cons_succ, List.getElem?_concat_length, set_last, get_mid, get_mid2, eqF, neF, ltF, leF, gtF, geF, isF, notF, addF, subF, mulF, fdivF, modF, powF, negF, ixF, lenF, tupF, lstF, absF, intF, gcdF, maxF, minF, Rs.to, dIsi, dIsi2, dIsE, tyN, D.isNon, dM1, dM0, srcSeq, srcRng1, srcRng2, dLc, tYesD, iaddF, isBF, notBF, srcZip, repF, sumF, allF, anyF, intsOf_map, blsOf_map, dSl, dPart, dNoPart, sliceF, at0, at1, at2, at3, at4, ix0, ix1, ix2, ix3, Dn.g0, Dn.g1, Dn.g2, Dn.g3, Dn.g4, ex_some, decide_true, decide_false, Bool.not_true, Bool.not_false, ite_true, ite_false, if_true, if_false, List.reverse_cons, List.reverse_nil, outPost, wipeE, CTg.set, setAll, appF, extF, revF, popF, Nat.zero_add, Nat.reduceAdd, is_NoneType_int, is_NoneType_bool, is_NoneType_str, is_NoneType_tuple, is_NoneType_list, is_bool_int, is_bool_bool, is_bool_str, is_bool_tuple, is_bool_list, is_int_int, is_int_bool, is_int_str, is_int_tuple, is_int_list, is_str_int, is_str_bool, is_str_str, is_str_tuple, is_str_list, is_tuple_int, is_tuple_bool, is_tuple_str, is_tuple_tuple, is_tuple_list, is_list_int, is_list_bool, is_list_str, is_list_tuple, is_list_list]
    simp only [rep_int, dOp, dUn, dVar, dC, slot, startE, List.map, List.length, List.replicate, List.append, List.cons_append, List.nil_append, List.set, dAnd, dOr, dNot, dtB, dtAnd, dtOr, dtNot, dIf, dtTru, truF, dNil, dCons, dTup, dLst, dCB, sNil, sSeq, sRet, sRetN, sExpr, sIf, sAsg, gN, gT, gsNil, gsCons, gS, sPar, sAug, sWhile, sFor, sBrk, sCont, sNo, sRaise, dCallP_eq, dCallD_eq, List.length_map, List.getElem?_cons_succ, List.getElem?_concat_length, set_last, get_mid, get_mid2, eqF, neF, ltF, leF, gtF, geF, isF, notF, addF, subF, mulF, fdivF, modF, powF, negF, ixF, lenF, tupF, lstF, absF, intF, gcdF, maxF, minF, Rs.to, dIsi, dIsi2, dIsE, tyN, D.isNon, dM1, dM0, srcSeq, srcRng1, srcRng2, dLc, tYesD, iaddF, isBF, notBF, srcZip, repF, sumF, allF, anyF, intsOf_map, blsOf_map, dSl, dPart, dNoPart, sliceF, at0, at1, at2, at3, at4, ix0, ix1, ix2, ix3, Dn.g0, Dn.g1, Dn.g2, Dn.g3, Dn.g4, ex_some, decide_true, decide_false, Bool.not_true, Bool.not_false, ite_true, ite_false, if_true, if_false, List.reverse_cons, List.reverse_nil, outPost, wipeE, CTg.set, setAll, appF, extF, revF, popF, Nat.zero_add, Nat.reduceAdd, is_NoneType_int, is_NoneType_bool, is_NoneType_str, is_NoneType_tuple, is_NoneType_list, is_bool_int, is_bool_bool, is_bool_str, is_bool_tuple, is_bool_list, is_int_int, is_int_bool, is_int_str, is_int_tuple, is_int_list, is_str_int, is_str_bool, is_str_str, is_str_tuple, is_str_list, is_tuple_int, is_tuple_bool, is_tuple_str, is_tuple_tuple, is_tuple_list, is_list_int, is_list_bool, is_list_str, is_list_tuple, is_list_list]
    have hst : st.length ≤ 10 := I.2.2.1
    have hFl : FS.length ≤ 50 := I.1
    have c1 : (D.int 0 :: ([] : List D)) ≠ [] ∧ 1 ≤ 1000 ∧ -1000 ≤ (st.length : Int) ∧ (st.length : Int) ≤ 1000 := ⟨by simp, by decide, by omega, by omega⟩
    have c2 : (List.replicate st.length (0 : Int)).length + 2 ≤ sizeLine := Nat.le_of_lt (sl2 (by simp; omega))
    refine ⟨c1, c2, c1, c2, Nat.le_of_lt (sl2 (by first | omega | (simp; omega))), ?_⟩
    have e : List.map clk (List.map (movC ⟨FS, st, w, v, u⟩) FS) ++ [D.tup [D.tup (List.map D.int (List.replicate st.length 0) ++ [D.int 1, D.int 0]), D.int 1], D.tup [D.tup (List.map D.int (List.replicate st.length 0) ++ [D.int (-1), D.int 1]), D.int 1]] = (itC ⟨FS, st, w, v, u⟩).map clk := by
      simp [itC, clk, cl, zer]
    rw [e]
    have hfl : flatB 3 (.tup ((itC ⟨FS, st, w, v, u⟩).map clk)) = true := by
      unfold flatB
      rw [flat_clks fun w hw => by have := (itC_ok I w hw).2.1; omega, List.length_map, decide_eq_true (by simp [itC]; omega)]
      rfl
    simp only [l1_law_6, dOp, dUn, dVar, dC, slot, startE, List.map, List.length, List.replicate, List.append, List.cons_append, List.nil_append, List.set, dAnd, dOr, dNot, dtB, dtAnd, dtOr, dtNot, dIf, dtTru, truF, dNil, dCons, dTup, dLst, dCB, sNil, sSeq, sRet, sRetN, sExpr, sIf, sAsg, gN, gT, gsNil, gsCons, gS, sPar, sAug, sWhile, sFor, sBrk, sCont, sNo, sRaise, dCallP_eq, dCallD_eq, List.length_map, List.getElem?_cons_succ, List.getElem?_concat_length, set_last, get_mid, get_mid2, eqF, neF, ltF, leF, gtF, geF, isF, notF, addF, subF, mulF, fdivF, modF, powF, negF, ixF, lenF, tupF, lstF, absF, intF, gcdF, maxF, minF, Rs.to, dIsi, dIsi2, dIsE, tyN, D.isNon, dM1, dM0, srcSeq, srcRng1, srcRng2, dLc, tYesD, iaddF, isBF, notBF, srcZip, repF, sumF, allF, anyF, intsOf_map, blsOf_map, dSl, dPart, dNoPart, sliceF, at0, at1, at2, at3, at4, ix0, ix1, ix2, ix3, Dn.g0, Dn.g1, Dn.g2, Dn.g3, Dn.g4, ex_some, decide_true, decide_false, Bool.not_true, Bool.not_false, ite_true, ite_false, if_true, if_false, List.reverse_cons, List.reverse_nil, outPost, wipeE, CTg.set, setAll, appF, extF, revF, popF, Nat.zero_add, Nat.reduceAdd, is_NoneType_int, is_NoneType_bool, is_NoneType_str, is_NoneType_tuple, is_NoneType_list, is_bool_int, is_bool_bool, is_bool_str, is_bool_tuple, is_bool_list, is_int_int, is_int_bool, is_int_str, is_int_tuple, is_int_list, is_str_int, is_str_bool, is_str_str, is_str_tuple, is_str_list, is_tuple_int, is_tuple_bool, is_tuple_str, is_tuple_tuple, is_tuple_list, is_list_int, is_list_bool, is_list_str, is_list_tuple, is_list_list]
    refine useP_same hfl ?_
    simp only [l1_law_7, dOp, dUn, dVar, dC, slot, startE, List.map, List.length, List.replicate, List.append, List.cons_append, List.nil_append, List.set, dAnd, dOr, dNot, dtB, dtAnd, dtOr, dtNot, dIf, dtTru, truF, dNil, dCons, dTup, dLst, dCB, sNil, sSeq, sRet, sRetN, sExpr, sIf, sAsg, gN, gT, gsNil, gsCons, gS, sPar, sAug, sWhile, sFor, sBrk, sCont, sNo, sRaise, dCallP_eq, dCallD_eq, List.length_map, List.getElem?_cons_succ, List.getElem?_concat_length, set_last, get_mid, get_mid2, eqF, neF, ltF, leF, gtF, geF, isF, notF, addF, subF, mulF, fdivF, modF, powF, negF, ixF, lenF, tupF, lstF, absF, intF, gcdF, maxF, minF, Rs.to, dIsi, dIsi2, dIsE, tyN, D.isNon, dM1, dM0, srcSeq, srcRng1, srcRng2, dLc, tYesD, iaddF, isBF, notBF, srcZip, repF, sumF, allF, anyF, intsOf_map, blsOf_map, dSl, dPart, dNoPart, sliceF, at0, at1, at2, at3, at4, ix0, ix1, ix2, ix3, Dn.g0, Dn.g1, Dn.g2, Dn.g3, Dn.g4, ex_some, decide_true, decide_false, Bool.not_true, Bool.not_false, ite_true, ite_false, if_true, if_false, List.reverse_cons, List.reverse_nil, outPost, wipeE, CTg.set, setAll, appF, extF, revF, popF, Nat.zero_add, Nat.reduceAdd, is_NoneType_int, is_NoneType_bool, is_NoneType_str, is_NoneType_tuple, is_NoneType_list, is_bool_int, is_bool_bool, is_bool_str, is_bool_tuple, is_bool_list, is_int_int, is_int_bool, is_int_str, is_int_tuple, is_int_list, is_str_int, is_str_bool, is_str_str, is_str_tuple, is_str_list, is_tuple_int, is_tuple_bool, is_tuple_str, is_tuple_tuple, is_tuple_list, is_list_int, is_list_bool, is_list_str, is_list_tuple, is_list_list]
    refine ⟨by decide, fun i e h => (∃ u8 u9 u10 u11 u12 u13 u14 u15 u16 u17, e = E2 sc st.length t ⟨FS, st, w, v, u⟩ [u8, u9, u10, u11, u12, u13, u14, u15, u16, u17]) ∧ ∃ s' j', h = H2 c s' j' ∧ s'.c = c ∧ 0 ≤ s'.a, ⟨⟨_, _, _, _, _, _, _, _, _, _, rfl⟩, s3, _, rfl, hc3, a3⟩, fun _ _ _ _ _ => trivial, ?_, ?_⟩
    · rintro i x e h hx ⟨⟨u8, u9, u10, u11, u12, u13, u14, u15, u16, u17, rfl⟩, s', j', rfl, hc', ha'⟩
      simp only [E2, dOp, dUn, dVar, dC, slot, startE, List.map, List.length, List.replicate, List.append, List.cons_append, List.nil_append, List.set, dAnd, dOr, dNot, dtB, dtAnd, dtOr, dtNot, dIf, dtTru, truF, dNil, dCons, dTup, dLst, dCB, sNil, sSeq, sRet, sRetN, sExpr, sIf, sAsg, gN, gT, gsNil, gsCons, gS, sPar, sAug, sWhile, sFor, sBrk, sCont, sNo, sRaise, dCallP_eq, dCallD_eq, List.length_map, List.getElem?_cons_succ, List.getElem?_concat_length, set_last, get_mid, get_mid2, eqF, neF, ltF, leF, gtF, geF, isF, notF, addF, subF, mulF, fdivF, modF, powF, negF, ixF, lenF, tupF, lstF, absF, intF, gcdF, maxF, minF, Rs.to, dIsi, dIsi2, dIsE, tyN, D.isNon, dM1, dM0, srcSeq, srcRng1, srcRng2, dLc, tYesD, iaddF, isBF, notBF, srcZip, repF, sumF, allF, anyF, intsOf_map, blsOf_map, dSl, dPart, dNoPart, sliceF, at0, at1, at2, at3, at4, ix0, ix1, ix2, ix3, Dn.g0, Dn.g1, Dn.g2, Dn.g3, Dn.g4, ex_some, decide_true, decide_false, Bool.not_true, Bool.not_false, ite_true, ite_false, if_true, if_false, List.reverse_cons, List.reverse_nil, outPost, wipeE, CTg.set, setAll, appF, extF, revF, popF, Nat.zero_add, Nat.reduceAdd, is_NoneType_int, is_NoneType_bool, is_NoneType_str, is_NoneType_tuple, is_NoneType_list, is_bool_int, is_bool_bool, is_bool_str, is_bool_tuple, is_bool_list, is_int_int, is_int_bool, is_int_str, is_int_tuple, is_int_list, is_str_int, is_str_bool, is_str_str, is_str_tuple, is_str_list, is_tuple_int, is_tuple_bool, is_tuple_str, is_tuple_tuple, is_tuple_list, is_list_int, is_list_bool, is_list_str, is_list_tuple, is_list_list]
      exact tail0 I w0 u0 hc' ha' fun _ _ _ _ _ _ s'' j'' h1 h2 => ⟨⟨_, _, _, _, _, _, _, _, _, _, rfl⟩, s'', j'', rfl, h1, h2⟩
    · rintro e h ⟨⟨u8, u9, u10, u11, u12, u13, u14, u15, u16, u17, rfl⟩, s', j', rfl, hc', ha'⟩
      exact nx _ s' j' rfl hc' ha'
theorem w_law : ∀ x ds, sp_law.pre x ds → t_law (endP sp_law x) (startE nm_law.length ds) [] := by
  rintro c ds ⟨rfl, hl⟩
  simp only [t_law , r_law_0, nm_law, dOp, dUn, dVar, dC, slot, startE, List.map, List.length, List.replicate, List.append, List.cons_append, List.nil_append, List.set, dAnd, dOr, dNot, dtB, dtAnd, dtOr, dtNot, dIf, dtTru, truF, dNil, dCons, dTup, dLst, dCB, sNil, sSeq, sRet, sRetN, sExpr, sIf, sAsg, gN, gT, gsNil, gsCons, gS, sPar, sAug, sWhile, sFor, sBrk, sCont, sNo, sRaise, dCallP_eq, dCallD_eq, List.length_map, List.getElem?_cons_succ, List.getElem?_concat_length, set_last, get_mid, get_mid2, eqF, neF, ltF, leF, gtF, geF, isF, notF, addF, subF, mulF, fdivF, modF, powF, negF, ixF, lenF, tupF, lstF, absF, intF, gcdF, maxF, minF, Rs.to, dIsi, dIsi2, dIsE, tyN, D.isNon, dM1, dM0, srcSeq, srcRng1, srcRng2, dLc, tYesD, iaddF, isBF, notBF, srcZip, repF, sumF, allF, anyF, intsOf_map, blsOf_map, dSl, dPart, dNoPart, sliceF, at0, at1, at2, at3, at4, ix0, ix1, ix2, ix3, Dn.g0, Dn.g1, Dn.g2, Dn.g3, Dn.g4, ex_some, decide_true, decide_false, Bool.not_true, Bool.not_false, ite_true, ite_false, if_true, if_false, List.reverse_cons, List.reverse_nil, outPost, wipeE, CTg.set, setAll, appF, extF, revF, popF, Nat.zero_add, Nat.reduceAdd, is_NoneType_int, is_NoneType_bool, is_NoneType_str, is_NoneType_tuple, is_NoneType_list, is_bool_int, is_bool_bool, is_bool_str, is_bool_tuple, is_bool_list, is_int_int, is_int_bool, is_int_str, is_int_tuple, is_int_list, is_str_int, is_str_bool, is_str_str, is_str_tuple, is_str_list, is_tuple_int, is_tuple_bool, is_tuple_str, is_tuple_tuple, is_tuple_list, is_list_int, is_list_bool, is_list_str, is_list_tuple, is_list_list]
  refine useP_mk c [.lst (c.map .int)] (.cons (.lst (Views.pures (ints_pure c))) .nil) rfl ?_ (fun _ q => q)
  rintro o rfl -
  simp only [r_law_1, dOp, dUn, dVar, dC, slot, startE, List.map, List.length, List.replicate, List.append, List.cons_append, List.nil_append, List.set, dAnd, dOr, dNot, dtB, dtAnd, dtOr, dtNot, dIf, dtTru, truF, dNil, dCons, dTup, dLst, dCB, sNil, sSeq, sRet, sRetN, sExpr, sIf, sAsg, gN, gT, gsNil, gsCons, gS, sPar, sAug, sWhile, sFor, sBrk, sCont, sNo, sRaise, dCallP_eq, dCallD_eq, List.length_map, List.getElem?_cons_succ, List.getElem?_concat_length, set_last, get_mid, get_mid2, eqF, neF, ltF, leF, gtF, geF, isF, notF, addF, subF, mulF, fdivF, modF, powF, negF, ixF, lenF, tupF, lstF, absF, intF, gcdF, maxF, minF, Rs.to, dIsi, dIsi2, dIsE, tyN, D.isNon, dM1, dM0, srcSeq, srcRng1, srcRng2, dLc, tYesD, iaddF, isBF, notBF, srcZip, repF, sumF, allF, anyF, intsOf_map, blsOf_map, dSl, dPart, dNoPart, sliceF, at0, at1, at2, at3, at4, ix0, ix1, ix2, ix3, Dn.g0, Dn.g1, Dn.g2, Dn.g3, Dn.g4, ex_some, decide_true, decide_false, Bool.not_true, Bool.not_false, ite_true, ite_false, if_true, if_false, List.reverse_cons, List.reverse_nil, outPost, wipeE, CTg.set, setAll, appF, extF, revF, popF, Nat.zero_add, Nat.reduceAdd, is_NoneType_int, is_NoneType_bool, is_NoneType_str, is_NoneType_tuple, is_NoneType_list, is_bool_int, is_bool_bool, is_bool_str, is_bool_tuple, is_bool_list, is_int_int, is_int_bool, is_int_str, is_int_tuple, is_int_list, is_str_int, is_str_bool, is_str_str, is_str_tuple, is_str_list, is_tuple_int, is_tuple_bool, is_tuple_str, is_tuple_tuple, is_tuple_list, is_list_int, is_list_bool, is_list_str, is_list_tuple, is_list_list]
  refine useD_10 (c := c) (s := ⟨c, 0, 0, 1⟩) 3 rfl rfl ⟨rfl, by decide, bt_lit (by decide) (by decide), Int.le_refl 0⟩ ?_
  rintro o s1 ⟨v, rfl, v0, v1, a1⟩ hc1
  refine ⟨_, rfl, ?_⟩
  simp only [r_law_2, dOp, dUn, dVar, dC, slot, startE, List.map, List.length, List.replicate, List.append, List.cons_append, List.nil_append, List.set, dAnd, dOr, dNot, dtB, dtAnd, dtOr, dtNot, dIf, dtTru, truF, dNil, dCons, dTup, dLst, dCB, sNil, sSeq, sRet, sRetN, sExpr, sIf, sAsg, gN, gT, gsNil, gsCons, gS, sPar, sAug, sWhile, sFor, sBrk, sCont, sNo, sRaise, dCallP_eq, dCallD_eq, List.length_map, List.getElem?_cons_succ, List.getElem?_concat_length, set_last, get_mid, get_mid2, eqF, neF, ltF, leF, gtF, geF, isF, notF, addF, subF, mulF, fdivF, modF, powF, negF, ixF, lenF, tupF, lstF, absF, intF, gcdF, maxF, minF, Rs.to, dIsi, dIsi2, dIsE, tyN, D.isNon, dM1, dM0, srcSeq, srcRng1, srcRng2, dLc, tYesD, iaddF, isBF, notBF, srcZip, repF, sumF, allF, anyF, intsOf_map, blsOf_map, dSl, dPart, dNoPart, sliceF, at0, at1, at2, at3, at4, ix0, ix1, ix2, ix3, Dn.g0, Dn.g1, Dn.g2, Dn.g3, Dn.g4, ex_some, decide_true, decide_false, Bool.not_true, Bool.not_false, ite_true, ite_false, if_true, if_false, List.reverse_cons, List.reverse_nil, outPost, wipeE, CTg.set, setAll, appF, extF, revF, popF, Nat.zero_add, Nat.reduceAdd, is_NoneType_int, is_NoneType_bool, is_NoneType_str, is_NoneType_tuple, is_NoneType_list, is_bool_int, is_bool_bool, is_bool_str, is_bool_tuple, is_bool_list, is_int_int, is_int_bool, is_int_str, is_int_tuple, is_int_list, is_str_int, is_str_bool, is_str_str, is_str_tuple, is_str_list, is_tuple_int, is_tuple_bool, is_tuple_str, is_tuple_tuple, is_tuple_list, is_list_int, is_list_bool, is_list_str, is_list_tuple, is_list_list]
  refine ⟨by decide, fun i e h => (∃ l, l.length = 15 ∧ e = some (.lst (c.map .int)) :: some (.ref 1) :: some (.int (1 + v)) :: l) ∧ ∃ s j, h = H2 c s j ∧ s.c = c ∧ 0 ≤ s.a, ⟨⟨_, rfl, rfl⟩, s1, _, rfl, hc1, a1⟩, fun _ _ _ _ _ => trivial, ?_, ?_⟩
  · rintro i x e h hx ⟨⟨l, hl, rfl⟩, s, j, rfl, hc, ha⟩
    match l, hl with
    | [u3, u4, u5, u6, u7, u8, u9, u10, u11, u12, u13, u14, u15, u16, u17], _ =>
      simp only [dOp, dUn, dVar, dC, slot, startE, List.map, List.length, List.replicate, List.append, List.cons_append, List.nil_append, List.set, dAnd, dOr, dNot, dtB, dtAnd, dtOr, dtNot, dIf, dtTru, truF, dNil, dCons, dTup, dLst, dCB, sNil, sSeq, sRet, sRetN, sExpr, sIf, sAsg, gN, gT, gsNil, gsCons, gS, sPar, sAug, sWhile, sFor, sBrk, sCont, sNo, sRaise, dCallP_eq, dCallD_eq, List.length_map, List.getElem?_cons_succ, List.getElem?_concat_length, set_last, get_mid, get_mid2, eqF, neF, ltF, leF, gtF, geF, isF, notF, addF, subF, mulF, fdivF, modF, powF, negF, ixF, lenF, tupF, lstF, absF, intF, gcdF, maxF, minF, Rs.to, dIsi, dIsi2, dIsE, tyN, D.isNon, dM1, dM0, srcSeq, srcRng1, srcRng2, dLc, tYesD, iaddF, isBF, notBF, srcZip, repF, sumF, allF, anyF, intsOf_map, blsOf_map, dSl, dPart, dNoPart, sliceF, at0, at1, at2, at3, at4, ix0, ix1, ix2, ix3, Dn.g0, Dn.g1, Dn.g2, Dn.g3, Dn.g4, ex_some, decide_true, decide_false, Bool.not_true, Bool.not_false, ite_true, ite_false, if_true, if_false, List.reverse_cons, List.reverse_nil, outPost, wipeE, CTg.set, setAll, appF, extF, revF, popF, Nat.zero_add, Nat.reduceAdd, is_NoneType_int, is_NoneType_bool, is_NoneType_str, is_NoneType_tuple, is_NoneType_list, is_bool_int, is_bool_bool, is_bool_str, is_bool_tuple, is_bool_list, is_int_int, is_int_bool, is_int_str, is_int_tuple, is_int_list, is_str_int, is_str_bool, is_str_str, is_str_tuple, is_str_list, is_tuple_int, is_tuple_bool, is_tuple_str, is_tuple_tuple, is_tuple_list, is_list_int, is_list_bool, is_list_str, is_list_tuple, is_list_list]
      exact body (by omega) (by omega) hc ha (fun l s' j' hl h1 h2 => ⟨⟨l, hl, rfl⟩, s', j', rfl, h1, h2⟩)
  · rintro e h ⟨⟨l, hl, rfl⟩, s, j, rfl, hc, ha⟩
    simp only [r_law_3, dOp, dUn, dVar, dC, slot, startE, List.map, List.length, List.replicate, List.append, List.cons_append, List.nil_append, List.set, dAnd, dOr, dNot, dtB, dtAnd, dtOr, dtNot, dIf, dtTru, truF, dNil, dCons, dTup, dLst, dCB, sNil, sSeq, sRet, sRetN, sExpr, sIf, sAsg, gN, gT, gsNil, gsCons, gS, sPar, sAug, sWhile, sFor, sBrk, sCont, sNo, sRaise, dCallP_eq, dCallD_eq, List.length_map, List.getElem?_cons_succ, List.getElem?_concat_length, set_last, get_mid, get_mid2, eqF, neF, ltF, leF, gtF, geF, isF, notF, addF, subF, mulF, fdivF, modF, powF, negF, ixF, lenF, tupF, lstF, absF, intF, gcdF, maxF, minF, Rs.to, dIsi, dIsi2, dIsE, tyN, D.isNon, dM1, dM0, srcSeq, srcRng1, srcRng2, dLc, tYesD, iaddF, isBF, notBF, srcZip, repF, sumF, allF, anyF, intsOf_map, blsOf_map, dSl, dPart, dNoPart, sliceF, at0, at1, at2, at3, at4, ix0, ix1, ix2, ix3, Dn.g0, Dn.g1, Dn.g2, Dn.g3, Dn.g4, ex_some, decide_true, decide_false, Bool.not_true, Bool.not_false, ite_true, ite_false, if_true, if_false, List.reverse_cons, List.reverse_nil, outPost, wipeE, CTg.set, setAll, appF, extF, revF, popF, Nat.zero_add, Nat.reduceAdd, is_NoneType_int, is_NoneType_bool, is_NoneType_str, is_NoneType_tuple, is_NoneType_list, is_bool_int, is_bool_bool, is_bool_str, is_bool_tuple, is_bool_list, is_int_int, is_int_bool, is_int_str, is_int_tuple, is_int_list, is_str_int, is_str_bool, is_str_str, is_str_tuple, is_str_list, is_tuple_int, is_tuple_bool, is_tuple_str, is_tuple_tuple, is_tuple_list, is_list_int, is_list_bool, is_list_str, is_list_tuple, is_list_list]
    exact rt_val rfl rfl

theorem lawF (T : Txt K mg) {f : Addr} {fd : FuncData} (F : Fun K "law" "law" s_law f fd) : FnOk P w K mg base (L2.CX P w) 5 f fd ["script"] (spP K mg (lawSpc 63)) :=
  fnP (k := 4) (lawSpc 63) t_law F sc_law (fun x ds hp => len_law x ds hp) (fun cdv A outer s H E hr z => by
    have hu := hr.units; have hnd := sc_law.nd
    unfold t_law r_law_0 r_law_1 r_law_2 r_law_3 l1_law_0 l1_law_1 l1_law_2 l1_law_3 l1_law_4 l1_law_5 l1_law_6 l1_law_7 l2_law_0 l2_law_1 l2_law_2 l2_law_3 l2_law_4 l2_law_5 l2_law_6 l2_law_7
    exact (dss_cons (ds_set 1 hnd rfl (by walk_at "locs") (dn_callP ((ok__law_draws (P := P) (w := w) (base := base) T).mono (by decide)) hr (takes_of rfl rfl rfl rfl) rfl (by decide) (da_cons (de_var 0 rfl (by walk_at "vis") (by decide) (by decide)) da_nil rfl) rfl rfl) rfl (by walk_at "fnn"))
    (dss_cons (ds_set 2 hnd rfl (by walk_at "locs") (de_add de_int (dn_callD ((ok__law_draw (P := P) (w := w) (base := base) T).mono (by decide)) hr (takes_of rfl rfl rfl rfl) rfl (by decide) (da_cons (de_var 1 rfl (by walk_at "vis") (by decide) (by decide)) (da_cons de_int da_nil rfl) rfl) rfl rfl)) rfl (by walk_at "fnn"))
    (dss_cons (ds_for (passes_of (K := fun e s'' => L2.CX P w outer H s E e s'') (E₁ := fun e s'' => L2.CX P w outer H s E e s'') rfl) rfl (di_rng1 rfl T.b_range (da_cons de_int da_nil rfl) rfl) (dg_name 3 hnd rfl (by walk_at "locs") (by walk_at "fnn")) (dss_cons (ds_set 4 hnd rfl (by walk_at "locs") (dn_callD ((ok__law_tool (P := P) (w := w) (base := base) T).mono (by decide)) hr (takes_of rfl rfl rfl rfl) rfl (by decide) (da_cons (de_var 1 rfl (by walk_at "vis") (by decide) (by decide)) (da_cons (de_var 2 rfl (by walk_at "vis") (by decide) (by decide)) da_nil rfl) rfl) rfl rfl) rfl (by walk_at "fnn"))
    (dss_cons (ds_set 5 hnd rfl (by walk_at "locs") (dn_callD ((ok__law_tip (P := P) (w := w) (base := base) T).mono (by decide)) hr (takes_of rfl rfl rfl rfl) rfl (by decide) (da_cons (de_var 1 rfl (by walk_at "vis") (by decide) (by decide)) (da_cons (de_var 2 rfl (by walk_at "vis") (by decide) (by decide)) da_nil rfl) rfl) rfl rfl) rfl (by walk_at "fnn"))
    (dss_cons (ds_set 6 hnd rfl (by walk_at "locs") (dn_callD ((ok__law_vector (P := P) (w := w) (base := base) T).mono (by decide)) hr (takes_of rfl rfl rfl rfl) rfl (by decide) (da_cons (de_var 1 rfl (by walk_at "vis") (by decide) (by decide)) (da_cons (de_var 2 rfl (by walk_at "vis") (by decide) (by decide)) da_nil rfl) rfl) rfl rfl) rfl (by walk_at "fnn"))
    (dss_cons (ds_set 7 hnd rfl (by walk_at "locs") (dn_callP ((ok_in_time (P := P) (w := w) (base := base) T).mono (by decide)) hr (takes_of rfl rfl rfl rfl) rfl (by decide) (da_cons (de_var 4 rfl (by walk_at "vis") (by decide) (by decide)) (da_cons (de_var 5 rfl (by walk_at "vis") (by decide) (by decide)) (da_cons (de_var 6 rfl (by walk_at "vis") (by decide) (by decide)) (da_cons (de_var 2 rfl (by walk_at "vis") (by decide) (by decide)) da_nil rfl) rfl) rfl) rfl) rfl rfl) rfl (by walk_at "fnn"))
    (dss_cons (ds_setLc 8 (own := [("form", 16)]) (c := (.one 16)) (tt := tYesD) (te := (dTup (dCons (dCallP sp__law_moving (dCons (dVar 16) (dCons (dVar 5) (dCons (dVar 6) dNil)))) (dCons (dC (.int 2)) dNil)))) rfl hnd rfl rfl (sw_true rfl rfl rfl (by decide +kernel)) (di_seq (de_var 4 rfl (by walk_at "vis") (by decide) (by decide))) (blkOk_by (N := nm_law) (sc := defScope s_law) (by decide +kernel)) (by decide) (fun _ _ _ _ _ => pg_name (i := 16) hnd rfl (by walk_at "locs") (by walk_at "fnn")) (fun _ _ _ _ _ => dts_nil) (fun _ _ _ _ _ => (de_tup (da_cons (dn_callP ((ok__law_moving (P := P) (w := w) (base := base) T).mono (by decide)) hr takes0 rfl (by decide) (da_cons (de_var 16 rfl (by walk_at "vis") (by decide) (by decide)) (da_cons (de_var 5 rfl (by walk_at "vis") (by decide) (by decide)) (da_cons (de_var 6 rfl (by walk_at "vis") (by decide) (by decide)) da_nil rfl) rfl) rfl) rfl rfl) (da_cons de_int da_nil rfl) rfl) (by decide))) (fun _ => rfl))
    (dss_cons (ds_set 8 hnd rfl (by walk_at "locs") (de_add (de_var 8 rfl (by walk_at "vis") (by decide) (by decide)) (de_lst (da_cons (de_tup (da_cons (de_add (de_rep (de_tup (da_cons de_int da_nil rfl) (by decide)) (de_var 2 rfl (by walk_at "vis") (by decide) (by decide))) (de_tup (da_cons de_int (da_cons de_int da_nil rfl) rfl) (by decide))) (da_cons de_int da_nil rfl) rfl) (by decide)) (da_cons (de_tup (da_cons (de_add (de_rep (de_tup (da_cons de_int da_nil rfl) (by decide)) (de_var 2 rfl (by walk_at "vis") (by decide) (by decide))) (de_tup (da_cons (de_neg de_int) (da_cons de_int da_nil rfl) rfl) (by decide))) (da_cons de_int da_nil rfl) rfl) (by decide)) da_nil rfl) rfl) (by decide))) rfl (by walk_at "fnn"))
    (dss_cons (ds_if (dt_not (dt_tru (dn_callP ((ok__law_same (P := P) (w := w) (base := base) T 3).mono (by decide)) hr (takes_of rfl rfl rfl rfl) rfl (by decide) (da_cons (de_var 7 rfl (by walk_at "vis") (by decide) (by decide)) (da_cons (de_callTy (f := tupF) call_tuple_of cd_tup rfl T.b_tuple (by decide +kernel) (da_cons (de_var 8 rfl (by walk_at "vis") (by decide) (by decide)) da_nil rfl) (by decide) (by decide) rfl rfl) da_nil rfl) rfl) rfl rfl) (fun _ => rfl))) (dss_one (ds_ret de_bl)) dss_nil)
    (dss_one (ds_for (passes_of (K := fun e s'' => L2.CX P w outer H s E e s'') (E₁ := fun e s'' => L2.CX P w outer H s E e s'') rfl) rfl (di_rng1 rfl T.b_range (da_cons de_int da_nil rfl) rfl) (dg_name 9 hnd rfl (by walk_at "locs") (by walk_at "fnn")) (dss_cons (ds_set 10 hnd rfl (by walk_at "locs") (dn_callP ((ok__law_ratio (P := P) (w := w) (base := base) T).mono (by decide)) hr (takes_of rfl rfl rfl rfl) rfl (by decide) (da_cons (de_minus (dn_callD ((ok__law_draw (P := P) (w := w) (base := base) T).mono (by decide)) hr (takes_of rfl rfl rfl rfl) rfl (by decide) (da_cons (de_var 1 rfl (by walk_at "vis") (by decide) (by decide)) (da_cons de_int da_nil rfl) rfl) rfl rfl) de_int) (da_cons (de_add de_int (dn_callD ((ok__law_draw (P := P) (w := w) (base := base) T).mono (by decide)) hr (takes_of rfl rfl rfl rfl) rfl (by decide) (da_cons (de_var 1 rfl (by walk_at "vis") (by decide) (by decide)) (da_cons de_int da_nil rfl) rfl) rfl rfl)) da_nil rfl) rfl) rfl rfl) rfl (by walk_at "fnn"))
    (dss_cons (ds_set 11 hnd rfl (by walk_at "locs") (dn_callP ((ok__law_tip_at (P := P) (w := w) (base := base) T).mono (by decide)) hr (takes_of rfl rfl rfl rfl) rfl (by decide) (da_cons (de_var 5 rfl (by walk_at "vis") (by decide) (by decide)) (da_cons (de_var 6 rfl (by walk_at "vis") (by decide) (by decide)) (da_cons (de_var 10 rfl (by walk_at "vis") (by decide) (by decide)) da_nil rfl) rfl) rfl) rfl rfl) rfl (by walk_at "fnn"))
    (dss_cons (ds_set 12 hnd rfl (by walk_at "locs") (dn_callP ((ok__law_low (P := P) (w := w) (base := base) T).mono (by decide)) hr (takes_of rfl rfl rfl rfl) rfl (by decide) (da_cons (de_callTy (f := tupF) call_tuple_of cd_tup rfl T.b_tuple (by decide +kernel) (da_cons (de_add (de_lc (own := [("number", 17)]) (c := (.one 17)) (tt := tYesD) (te := (dOp addF (dVar 17) (dOp mulF (dCallD sp__law_near (dCons (dVar 1) (dCons (dC (.int 5)) dNil))) (dOp ixF (dVar 11) (dUn negF (dC (.int 1))))))) rfl hnd (di_seq (de_slice (de_var 11 rfl (by walk_at "vis") (by decide) (by decide)) do_none (do_some (de_neg de_int)))) (blkOk_by (N := nm_law) (sc := defScope s_law) (by decide +kernel)) (by decide) (fun _ _ _ _ _ => pg_name (i := 17) hnd rfl (by walk_at "locs") (by walk_at "fnn")) (fun _ _ _ _ _ => dts_nil) (fun _ _ _ _ _ => (de_add (de_var 17 rfl (by walk_at "vis") (by decide) (by decide)) (de_mul (dn_callD ((ok__law_near (P := P) (w := w) (base := base) T).mono (by decide)) hr takes0 rfl (by decide) (da_cons (de_var 1 rfl (by walk_at "vis") (by decide) (by decide)) (da_cons de_int da_nil rfl) rfl) rfl rfl) (de_ix (de_var 11 rfl (by walk_at "vis") (by decide) (by decide)) (de_neg de_int) (fun _ _ => rfl))))) (fun _ => rfl)) (de_lst (da_cons (de_ix (de_var 11 rfl (by walk_at "vis") (by decide) (by decide)) (de_neg de_int) (fun _ _ => rfl)) da_nil rfl) (by decide))) da_nil rfl) (by decide) (by decide) rfl rfl) da_nil rfl) rfl rfl) rfl (by walk_at "fnn"))
    (dss_cons (ds_set 13 hnd rfl (by walk_at "locs") (dn_callP ((ok__law_gap (P := P) (w := w) (base := base) T).mono (by decide)) hr (takes_of rfl rfl rfl rfl) rfl (by decide) (da_cons (de_var 12 rfl (by walk_at "vis") (by decide) (by decide)) (da_cons (de_var 11 rfl (by walk_at "vis") (by decide) (by decide)) da_nil rfl) rfl) rfl rfl) rfl (by walk_at "fnn"))
    (dss_cons (ds_set 14 hnd rfl (by walk_at "locs") (de_and (de_ge (de_ix (de_var 10 rfl (by walk_at "vis") (by decide) (by decide)) de_int (fun _ _ => rfl)) de_int) (de_one (de_le (de_ix (de_var 10 rfl (by walk_at "vis") (by decide) (by decide)) de_int (fun _ _ => rfl)) (de_ix (de_var 10 rfl (by walk_at "vis") (by decide) (by decide)) de_int (fun _ _ => rfl))))) rfl (by walk_at "fnn"))
    (dss_cons (ds_set 14 hnd rfl (by walk_at "locs") (de_and (de_var 14 rfl (by walk_at "vis") (by decide) (by decide)) (de_one (de_eq hu (de_callB (f := lenF) call_len_seq cd_len rfl T.b_len (by decide +kernel) (da_cons (de_lc (own := [("form", 16)]) (c := (.one 16)) (tt := (dtB (dOp leF (dCallP sp__law_weight (dCons (dVar 16) (dCons (dVar 13) dNil))) (dC (.int 0))))) (te := (dVar 16)) rfl hnd (di_seq (de_var 4 rfl (by walk_at "vis") (by decide) (by decide))) (blkOk_by (N := nm_law) (sc := defScope s_law) (by decide +kernel)) (by decide) (fun _ _ _ _ _ => pg_name (i := 16) hnd rfl (by walk_at "locs") (by walk_at "fnn")) (fun _ _ _ _ _ => (dts_one (dt_cmp op_le od_le (dn_callP ((ok__law_weight (P := P) (w := w) (base := base) T).mono (by decide)) hr takes0 rfl (by decide) (da_cons (de_var 16 rfl (by walk_at "vis") (by decide) (by decide)) (da_cons (de_var 13 rfl (by walk_at "vis") (by decide) (by decide)) da_nil rfl) rfl) rfl rfl) de_int (nomark _)))) (fun _ _ _ _ _ => (de_var 16 rfl (by walk_at "vis") (by decide) (by decide))) (fun _ => rfl)) da_nil rfl) (by decide) (by decide) rfl rfl) de_int))) rfl (by walk_at "fnn"))
    (dss_cons (ds_set 15 hnd rfl (by walk_at "locs") (de_callTy (f := tupF) call_tuple_of cd_tup rfl T.b_tuple (by decide +kernel) (da_cons (de_add (de_lc (own := [("number", 17)]) (c := (.one 17)) (tt := tYesD) (te := (dOp mulF (dVar 17) (dOp ixF (dVar 10) (dC (.int 1))))) rfl hnd (di_seq (de_slice (de_var 12 rfl (by walk_at "vis") (by decide) (by decide)) do_none (do_some (de_neg de_int)))) (blkOk_by (N := nm_law) (sc := defScope s_law) (by decide +kernel)) (by decide) (fun _ _ _ _ _ => pg_name (i := 17) hnd rfl (by walk_at "locs") (by walk_at "fnn")) (fun _ _ _ _ _ => dts_nil) (fun _ _ _ _ _ => (de_mul (de_var 17 rfl (by walk_at "vis") (by decide) (by decide)) (de_ix (de_var 10 rfl (by walk_at "vis") (by decide) (by decide)) de_int (fun _ _ => rfl)))) (fun _ => rfl)) (de_lst (da_cons (de_mul (de_ix (de_var 10 rfl (by walk_at "vis") (by decide) (by decide)) de_int (fun _ _ => rfl)) (de_ix (de_var 12 rfl (by walk_at "vis") (by decide) (by decide)) (de_neg de_int) (fun _ _ => rfl))) (da_cons (de_mul (de_ix (de_var 10 rfl (by walk_at "vis") (by decide) (by decide)) de_int (fun _ _ => rfl)) (de_ix (de_var 12 rfl (by walk_at "vis") (by decide) (by decide)) (de_neg de_int) (fun _ _ => rfl))) da_nil rfl) rfl) (by decide))) da_nil rfl) (by decide) (by decide) rfl rfl) rfl (by walk_at "fnn"))
    (dss_one (ds_if (dt_not (dt_tru (dn_callP ((ok__law_same (P := P) (w := w) (base := base) T 3).mono (by decide)) hr (takes_of rfl rfl rfl rfl) rfl (by decide) (da_cons (dn_callP ((ok_holds (P := P) (w := w) (base := base) T).mono (by decide)) hr (takes_of rfl rfl rfl rfl) rfl (by decide) (da_cons (de_var 7 rfl (by walk_at "vis") (by decide) (by decide)) (da_cons (dn_callP ((ok__law_low (P := P) (w := w) (base := base) T).mono (by decide)) hr (takes_of rfl rfl rfl rfl) rfl (by decide) (da_cons (de_var 15 rfl (by walk_at "vis") (by decide) (by decide)) da_nil rfl) rfl rfl) da_nil rfl) rfl) rfl rfl) (da_cons (de_var 14 rfl (by walk_at "vis") (by decide) (by decide)) da_nil rfl) rfl) rfl rfl) (fun _ => rfl))) (dss_one (ds_ret de_bl)) dss_nil))))))))) (fun _ => rfl)))))))))) (fun _ => rfl))
    (dss_one (ds_ret de_bl)))))) w_law
theorem txt_of {hp : Heap} (X : K.In hp) (G : hp.Ns mainGlobals mg) {f0 : Addr} {od0 an0 : Option Addr} {sl0 : Array (Option Value)} {oc0 kV0 dc0 pm0 cd0 ct0 : Value} {f1 : Addr} {od1 an1 : Option Addr} {sl1 : Array (Option Value)} {oc1 kV1 dc1 pm1 cd1 ct1 : Value} {f2 : Addr} {od2 an2 : Option Addr} {sl2 : Array (Option Value)} {oc2 kV2 dc2 pm2 cd2 ct2 : Value} {f3 : Addr} {od3 an3 : Option Addr} {sl3 : Array (Option Value)} {oc3 kV3 dc3 pm3 cd3 ct3 : Value} {f4 : Addr} {od4 an4 : Option Addr} {sl4 : Array (Option Value)} {oc4 kV4 dc4 pm4 cd4 ct4 : Value} {f5 : Addr} {od5 an5 : Option Addr} {sl5 : Array (Option Value)} {oc5 kV5 dc5 pm5 cd5 ct5 : Value} {f6 : Addr} {od6 an6 : Option Addr} {sl6 : Array (Option Value)} {oc6 kV6 dc6 pm6 cd6 ct6 : Value} {f7 : Addr} {od7 an7 : Option Addr} {sl7 : Array (Option Value)} {oc7 kV7 dc7 pm7 cd7 ct7 : Value} {f8 : Addr} {od8 an8 : Option Addr} {sl8 : Array (Option Value)} {oc8 kV8 dc8 pm8 cd8 ct8 : Value} {f9 : Addr} {od9 an9 : Option Addr} {sl9 : Array (Option Value)} {oc9 kV9 dc9 pm9 cd9 ct9 : Value} {f10 : Addr} {od10 an10 : Option Addr} {sl10 : Array (Option Value)} {oc10 kV10 dc10 pm10 cd10 ct10 : Value} {f11 : Addr} {od11 an11 : Option Addr} {sl11 : Array (Option Value)} {oc11 kV11 dc11 pm11 cd11 ct11 : Value} {f12 : Addr} {od12 an12 : Option Addr} {sl12 : Array (Option Value)} {oc12 kV12 dc12 pm12 cd12 ct12 : Value} {f13 : Addr} {od13 an13 : Option Addr} {sl13 : Array (Option Value)} {oc13 kV13 dc13 pm13 cd13 ct13 : Value} {f14 : Addr} {od14 an14 : Option Addr} {sl14 : Array (Option Value)} {oc14 kV14 dc14 pm14 cd14 ct14 : Value} {f15 : Addr} {od15 an15 : Option Addr} {sl15 : Array (Option Value)} {oc15 kV15 dc15 pm15 cd15 ct15 : Value} {f16 : Addr} {od16 an16 : Option Addr} {sl16 : Array (Option Value)} {oc16 kV16 dc16 pm16 cd16 ct16 : Value} {f17 : Addr} {od17 an17 : Option Addr} {sl17 : Array (Option Value)} {oc17 kV17 dc17 pm17 cd17 ct17 : Value} {f18 : Addr} {od18 an18 : Option Addr} {sl18 : Array (Option Value)} {oc18 kV18 dc18 pm18 cd18 ct18 : Value} {f19 : Addr} {od19 an19 : Option Addr} {sl19 : Array (Option Value)} {oc19 kV19 dc19 pm19 cd19 ct19 : Value}
  (a0 : PySem.W.nsIn K mainGlobals "_law_gcd" = some (some (.ref f0)))
  (l0 : K.lookup f0 = some ⟨oc0, od0, .func (PySem.W.fnOf "_law_gcd" "_law_gcd" (defArgs s__law_gcd) (defBody s__law_gcd) (defScope s__law_gcd) .none kV0 dc0 pm0 an0 cd0 ct0), sl0⟩)
  (c0 : PySem.W.codeIn K cd0 "_law_gcd" = true)
  (k0 : PySem.W.keepIn K (.ref f0) = true)
  (a1 : PySem.W.nsIn K mainGlobals "_law_draws" = some (some (.ref f1)))
  (l1 : K.lookup f1 = some ⟨oc1, od1, .func (PySem.W.fnOf "_law_draws" "_law_draws" (defArgs s__law_draws) (defBody s__law_draws) (defScope s__law_draws) .none kV1 dc1 pm1 an1 cd1 ct1), sl1⟩)
  (c1 : PySem.W.codeIn K cd1 "_law_draws" = true)
  (k1 : PySem.W.keepIn K (.ref f1) = true)
  (a2 : PySem.W.nsIn K mainGlobals "_law_draw" = some (some (.ref f2)))
  (l2 : K.lookup f2 = some ⟨oc2, od2, .func (PySem.W.fnOf "_law_draw" "_law_draw" (defArgs s__law_draw) (defBody s__law_draw) (defScope s__law_draw) .none kV2 dc2 pm2 an2 cd2 ct2), sl2⟩)
  (c2 : PySem.W.codeIn K cd2 "_law_draw" = true)
  (k2 : PySem.W.keepIn K (.ref f2) = true)
  (a3 : PySem.W.nsIn K mainGlobals "_law_same" = some (some (.ref f3)))
  (l3 : K.lookup f3 = some ⟨oc3, od3, .func (PySem.W.fnOf "_law_same" "_law_same" (defArgs s__law_same) (defBody s__law_same) (defScope s__law_same) .none kV3 dc3 pm3 an3 cd3 ct3), sl3⟩)
  (c3 : PySem.W.codeIn K cd3 "_law_same" = true)
  (k3 : PySem.W.keepIn K (.ref f3) = true)
  (a4 : PySem.W.nsIn K mainGlobals "weight" = some (some (.ref f4)))
  (l4 : K.lookup f4 = some ⟨oc4, od4, .func (PySem.W.fnOf "weight" "weight" (defArgs s_weight) (defBody s_weight) (defScope s_weight) .none kV4 dc4 pm4 an4 cd4 ct4), sl4⟩)
  (c4 : PySem.W.codeIn K cd4 "weight" = true)
  (k4 : PySem.W.keepIn K (.ref f4) = true)
  (a5 : PySem.W.nsIn K mainGlobals "keeps" = some (some (.ref f5)))
  (l5 : K.lookup f5 = some ⟨oc5, od5, .func (PySem.W.fnOf "keeps" "keeps" (defArgs s_keeps) (defBody s_keeps) (defScope s_keeps) .none kV5 dc5 pm5 an5 cd5 ct5), sl5⟩)
  (c5 : PySem.W.codeIn K cd5 "keeps" = true)
  (k5 : PySem.W.keepIn K (.ref f5) = true)
  (a6 : PySem.W.nsIn K mainGlobals "_law_near" = some (some (.ref f6)))
  (l6 : K.lookup f6 = some ⟨oc6, od6, .func (PySem.W.fnOf "_law_near" "_law_near" (defArgs s__law_near) (defBody s__law_near) (defScope s__law_near) .none kV6 dc6 pm6 an6 cd6 ct6), sl6⟩)
  (c6 : PySem.W.codeIn K cd6 "_law_near" = true)
  (k6 : PySem.W.keepIn K (.ref f6) = true)
  (a7 : PySem.W.nsIn K mainGlobals "_law_weight" = some (some (.ref f7)))
  (l7 : K.lookup f7 = some ⟨oc7, od7, .func (PySem.W.fnOf "_law_weight" "_law_weight" (defArgs s__law_weight) (defBody s__law_weight) (defScope s__law_weight) .none kV7 dc7 pm7 an7 cd7 ct7), sl7⟩)
  (c7 : PySem.W.codeIn K cd7 "_law_weight" = true)
  (k7 : PySem.W.keepIn K (.ref f7) = true)
  (a8 : PySem.W.nsIn K mainGlobals "_law_low" = some (some (.ref f8)))
  (l8 : K.lookup f8 = some ⟨oc8, od8, .func (PySem.W.fnOf "_law_low" "_law_low" (defArgs s__law_low) (defBody s__law_low) (defScope s__law_low) .none kV8 dc8 pm8 an8 cd8 ct8), sl8⟩)
  (c8 : PySem.W.codeIn K cd8 "_law_low" = true)
  (k8 : PySem.W.keepIn K (.ref f8) = true)
  (a9 : PySem.W.nsIn K mainGlobals "holds" = some (some (.ref f9)))
  (l9 : K.lookup f9 = some ⟨oc9, od9, .func (PySem.W.fnOf "holds" "holds" (defArgs s_holds) (defBody s_holds) (defScope s_holds) .none kV9 dc9 pm9 an9 cd9 ct9), sl9⟩)
  (c9 : PySem.W.codeIn K cd9 "holds" = true)
  (k9 : PySem.W.keepIn K (.ref f9) = true)
  (a10 : PySem.W.nsIn K mainGlobals "moving" = some (some (.ref f10)))
  (l10 : K.lookup f10 = some ⟨oc10, od10, .func (PySem.W.fnOf "moving" "moving" (defArgs s_moving) (defBody s_moving) (defScope s_moving) .none kV10 dc10 pm10 an10 cd10 ct10), sl10⟩)
  (c10 : PySem.W.codeIn K cd10 "moving" = true)
  (k10 : PySem.W.keepIn K (.ref f10) = true)
  (a11 : PySem.W.nsIn K mainGlobals "in_time" = some (some (.ref f11)))
  (l11 : K.lookup f11 = some ⟨oc11, od11, .func (PySem.W.fnOf "in_time" "in_time" (defArgs s_in_time) (defBody s_in_time) (defScope s_in_time) .none kV11 dc11 pm11 an11 cd11 ct11), sl11⟩)
  (c11 : PySem.W.codeIn K cd11 "in_time" = true)
  (k11 : PySem.W.keepIn K (.ref f11) = true)
  (a12 : PySem.W.nsIn K mainGlobals "_law_ratio" = some (some (.ref f12)))
  (l12 : K.lookup f12 = some ⟨oc12, od12, .func (PySem.W.fnOf "_law_ratio" "_law_ratio" (defArgs s__law_ratio) (defBody s__law_ratio) (defScope s__law_ratio) .none kV12 dc12 pm12 an12 cd12 ct12), sl12⟩)
  (c12 : PySem.W.codeIn K cd12 "_law_ratio" = true)
  (k12 : PySem.W.keepIn K (.ref f12) = true)
  (a13 : PySem.W.nsIn K mainGlobals "_law_moving" = some (some (.ref f13)))
  (l13 : K.lookup f13 = some ⟨oc13, od13, .func (PySem.W.fnOf "_law_moving" "_law_moving" (defArgs s__law_moving) (defBody s__law_moving) (defScope s__law_moving) .none kV13 dc13 pm13 an13 cd13 ct13), sl13⟩)
  (c13 : PySem.W.codeIn K cd13 "_law_moving" = true)
  (k13 : PySem.W.keepIn K (.ref f13) = true)
  (a14 : PySem.W.nsIn K mainGlobals "_law_vector" = some (some (.ref f14)))
  (l14 : K.lookup f14 = some ⟨oc14, od14, .func (PySem.W.fnOf "_law_vector" "_law_vector" (defArgs s__law_vector) (defBody s__law_vector) (defScope s__law_vector) .none kV14 dc14 pm14 an14 cd14 ct14), sl14⟩)
  (c14 : PySem.W.codeIn K cd14 "_law_vector" = true)
  (k14 : PySem.W.keepIn K (.ref f14) = true)
  (a15 : PySem.W.nsIn K mainGlobals "_law_tip" = some (some (.ref f15)))
  (l15 : K.lookup f15 = some ⟨oc15, od15, .func (PySem.W.fnOf "_law_tip" "_law_tip" (defArgs s__law_tip) (defBody s__law_tip) (defScope s__law_tip) .none kV15 dc15 pm15 an15 cd15 ct15), sl15⟩)
  (c15 : PySem.W.codeIn K cd15 "_law_tip" = true)
  (k15 : PySem.W.keepIn K (.ref f15) = true)
  (a16 : PySem.W.nsIn K mainGlobals "_law_gap" = some (some (.ref f16)))
  (l16 : K.lookup f16 = some ⟨oc16, od16, .func (PySem.W.fnOf "_law_gap" "_law_gap" (defArgs s__law_gap) (defBody s__law_gap) (defScope s__law_gap) .none kV16 dc16 pm16 an16 cd16 ct16), sl16⟩)
  (c16 : PySem.W.codeIn K cd16 "_law_gap" = true)
  (k16 : PySem.W.keepIn K (.ref f16) = true)
  (a17 : PySem.W.nsIn K mainGlobals "_law_tool" = some (some (.ref f17)))
  (l17 : K.lookup f17 = some ⟨oc17, od17, .func (PySem.W.fnOf "_law_tool" "_law_tool" (defArgs s__law_tool) (defBody s__law_tool) (defScope s__law_tool) .none kV17 dc17 pm17 an17 cd17 ct17), sl17⟩)
  (c17 : PySem.W.codeIn K cd17 "_law_tool" = true)
  (k17 : PySem.W.keepIn K (.ref f17) = true)
  (a18 : PySem.W.nsIn K mainGlobals "_law_tip_at" = some (some (.ref f18)))
  (l18 : K.lookup f18 = some ⟨oc18, od18, .func (PySem.W.fnOf "_law_tip_at" "_law_tip_at" (defArgs s__law_tip_at) (defBody s__law_tip_at) (defScope s__law_tip_at) .none kV18 dc18 pm18 an18 cd18 ct18), sl18⟩)
  (c18 : PySem.W.codeIn K cd18 "_law_tip_at" = true)
  (k18 : PySem.W.keepIn K (.ref f18) = true)
  (a19 : PySem.W.nsIn K mainGlobals "law" = some (some (.ref f19)))
  (l19 : K.lookup f19 = some ⟨oc19, od19, .func (PySem.W.fnOf "law" "law" (defArgs s_law) (defBody s_law) (defScope s_law) .none kV19 dc19 pm19 an19 cd19 ct19), sl19⟩)
  (c19 : PySem.W.codeIn K cd19 "law" = true)
  (k19 : PySem.W.keepIn K (.ref f19) = true)
  (z_abs : PySem.W.nsIn K mainGlobals "abs" = some none)
  (z_bool : PySem.W.nsIn K mainGlobals "bool" = some none)
  (z_int : PySem.W.nsIn K mainGlobals "int" = some none)
  (z_isinstance : PySem.W.nsIn K mainGlobals "isinstance" = some none)
  (z_len : PySem.W.nsIn K mainGlobals "len" = some none)
  (z_list : PySem.W.nsIn K mainGlobals "list" = some none)
  (z_range : PySem.W.nsIn K mainGlobals "range" = some none)
  (z_str : PySem.W.nsIn K mainGlobals "str" = some none)
  (z_sum : PySem.W.nsIn K mainGlobals "sum" = some none)
  (z_tuple : PySem.W.nsIn K mainGlobals "tuple" = some none)
  (z_zip : PySem.W.nsIn K mainGlobals "zip" = some none) : Txt K mg :=
  { d__law_gcd := def_at X G a0 l0 c0 k0 fun _ _ _ _ _ _ us hl => match us, hl with | [_, _], _ => rfl,
    d__law_draws := def_at X G a1 l1 c1 k1 fun _ _ _ _ _ _ us hl => match us, hl with | [_], _ => rfl,
    d__law_draw := def_at X G a2 l2 c2 k2 fun _ _ _ _ _ _ us hl => match us, hl with | [_, _], _ => rfl,
    d__law_same := def_at X G a3 l3 c3 k3 fun _ _ _ _ _ _ us hl => match us, hl with | [_, _], _ => rfl,
    d_weight := def_at X G a4 l4 c4 k4 fun _ _ _ _ _ _ us hl => match us, hl with | [_, _], _ => rfl,
    d_keeps := def_at X G a5 l5 c5 k5 fun _ _ _ _ _ _ us hl => match us, hl with | [_, _], _ => rfl,
    d__law_near := def_at X G a6 l6 c6 k6 fun _ _ _ _ _ _ us hl => match us, hl with | [_, _], _ => rfl,
    d__law_weight := def_at X G a7 l7 c7 k7 fun _ _ _ _ _ _ us hl => match us, hl with | [_, _], _ => rfl,
    d__law_low := def_at X G a8 l8 c8 k8 fun _ _ _ _ _ _ us hl => match us, hl with | [_], _ => rfl,
    d_holds := def_at X G a9 l9 c9 k9 fun _ _ _ _ _ _ us hl => match us, hl with | [_, _], _ => rfl,
    d_moving := def_at X G a10 l10 c10 k10 fun _ _ _ _ _ _ us hl => match us, hl with | [_, _, _], _ => rfl,
    d_in_time := def_at X G a11 l11 c11 k11 fun _ _ _ _ _ _ us hl => match us, hl with | [_, _, _, _], _ => rfl,
    d__law_ratio := def_at X G a12 l12 c12 k12 fun _ _ _ _ _ _ us hl => match us, hl with | [_, _], _ => rfl,
    d__law_moving := def_at X G a13 l13 c13 k13 fun _ _ _ _ _ _ us hl => match us, hl with | [_, _, _], _ => rfl,
    d__law_vector := def_at X G a14 l14 c14 k14 fun _ _ _ _ _ _ us hl => match us, hl with | [_, _], _ => rfl,
    d__law_tip := def_at X G a15 l15 c15 k15 fun _ _ _ _ _ _ us hl => match us, hl with | [_, _], _ => rfl,
    d__law_gap := def_at X G a16 l16 c16 k16 fun _ _ _ _ _ _ us hl => match us, hl with | [_, _], _ => rfl,
    d__law_tool := def_at X G a17 l17 c17 k17 fun _ _ _ _ _ _ us hl => match us, hl with | [_, _], _ => rfl,
    d__law_tip_at := def_at X G a18 l18 c18 k18 fun _ _ _ _ _ _ us hl => match us, hl with | [_, _, _], _ => rfl,
    d_law := def_at X G a19 l19 c19 k19 fun _ _ _ _ _ _ us hl => match us, hl with | [_], _ => rfl,
    b_abs := PySem.W.mg_none_of X G z_abs,
    b_bool := PySem.W.mg_none_of X G z_bool,
    b_int := PySem.W.mg_none_of X G z_int,
    b_isinstance := PySem.W.mg_none_of X G z_isinstance,
    b_len := PySem.W.mg_none_of X G z_len,
    b_list := PySem.W.mg_none_of X G z_list,
    b_range := PySem.W.mg_none_of X G z_range,
    b_str := PySem.W.mg_none_of X G z_str,
    b_sum := PySem.W.mg_none_of X G z_sum,
    b_tuple := PySem.W.mg_none_of X G z_tuple,
    b_zip := PySem.W.mg_none_of X G z_zip }
theorem law_fn (T : Txt K mg) {fa : Addr} (hfa : mg "law" = some (.ref fa)) : ∃ fd : FuncData, (∀ (s : Shared) (v : Value), BindsTo s fd ⟨[v], []⟩ [("script", v)]) ∧ ∀ base : Heap, FnOk P w K mg base (L2.CX P w) 5 fa fd ["script"] (spLaw0 63 K) := by
  obtain ⟨f, fd, g, F, b⟩ := T.d_law.ex
  rw [hfa] at g; injection g with g; injection g with g; subst g
  refine ⟨fd, fun s v => ?_, fun base => law_imp (lawF T F)⟩
  obtain ⟨oc, od, kV, doc, pm, an, cdv, ct, osl, rfl, lk, hcd⟩ := F.ex
  exact .of_eq rfl
end Law
open PySem PySem.W PyProof.Rows
set_option maxHeartbeats 0 in
theorem PySem.Challenge.cw_lastchip_k20_bodies_in_time_holds : PySem.Challenge.rw_lastchip_k20_bodies_in_time.Holds := by
  w_on; o_law; k_head; (case hw => w_witness2)
  k_fill
  refine Dn.walk_mine (l := PySem.Challenge.rw_lastchip_k20_bodies_in_time) (k := 5) (x := "script") rfl rfl ⟨rfl, by decide, by decide⟩ (fun w h Y => PySem.W.kIn_of Y) ?F
  case F =>
    intro w mg fa h KX G hmg
    refine' Dn.cutT (fun T => ?main) (Law.txt_of (mg := mg) KX G ?a0 ?l0 ?c0 ?k0 ?a1 ?l1 ?c1 ?k1 ?a2 ?l2 ?c2 ?k2 ?a3 ?l3 ?c3 ?k3 ?a4 ?l4 ?c4 ?k4 ?a5 ?l5 ?c5 ?k5 ?a6 ?l6 ?c6 ?k6 ?a7 ?l7 ?c7 ?k7 ?a8 ?l8 ?c8 ?k8 ?a9 ?l9 ?c9 ?k9 ?a10 ?l10 ?c10 ?k10 ?a11 ?l11 ?c11 ?k11 ?a12 ?l12 ?c12 ?k12 ?a13 ?l13 ?c13 ?k13 ?a14 ?l14 ?c14 ?k14 ?a15 ?l15 ?c15 ?k15 ?a16 ?l16 ?c16 ?k16 ?a17 ?l17 ?c17 ?k17 ?a18 ?l18 ?c18 ?k18 ?a19 ?l19 ?c19 ?k19 ?z_abs ?z_bool ?z_int ?z_isinstance ?z_len ?z_list ?z_range ?z_str ?z_sum ?z_tuple ?z_zip)
    (case a0 => k_is)
    (case l0 => k_is)
    (case c0 => k_is)
    (case k0 => k_is)
    (case a1 => k_is)
    (case l1 => k_is)
    (case c1 => k_is)
    (case k1 => k_is)
    (case a2 => k_is)
    (case l2 => k_is)
    (case c2 => k_is)
    (case k2 => k_is)
    (case a3 => k_is)
    (case l3 => k_is)
    (case c3 => k_is)
    (case k3 => k_is)
    (case a4 => k_is)
    (case l4 => k_is)
    (case c4 => k_is)
    (case k4 => k_is)
    (case a5 => k_is)
    (case l5 => k_is)
    (case c5 => k_is)
    (case k5 => k_is)
    (case a6 => k_is)
    (case l6 => k_is)
    (case c6 => k_is)
    (case k6 => k_is)
    (case a7 => k_is)
    (case l7 => k_is)
    (case c7 => k_is)
    (case k7 => k_is)
    (case a8 => k_is)
    (case l8 => k_is)
    (case c8 => k_is)
    (case k8 => k_is)
    (case a9 => k_is)
    (case l9 => k_is)
    (case c9 => k_is)
    (case k9 => k_is)
    (case a10 => k_is)
    (case l10 => k_is)
    (case c10 => k_is)
    (case k10 => k_is)
    (case a11 => k_is)
    (case l11 => k_is)
    (case c11 => k_is)
    (case k11 => k_is)
    (case a12 => k_is)
    (case l12 => k_is)
    (case c12 => k_is)
    (case k12 => k_is)
    (case a13 => k_is)
    (case l13 => k_is)
    (case c13 => k_is)
    (case k13 => k_is)
    (case a14 => k_is)
    (case l14 => k_is)
    (case c14 => k_is)
    (case k14 => k_is)
    (case a15 => k_is)
    (case l15 => k_is)
    (case c15 => k_is)
    (case k15 => k_is)
    (case a16 => k_is)
    (case l16 => k_is)
    (case c16 => k_is)
    (case k16 => k_is)
    (case a17 => k_is)
    (case l17 => k_is)
    (case c17 => k_is)
    (case k17 => k_is)
    (case a18 => k_is)
    (case l18 => k_is)
    (case c18 => k_is)
    (case k18 => k_is)
    (case a19 => k_is)
    (case l19 => k_is)
    (case c19 => k_is)
    (case k19 => k_is)
    (case z_abs => k_is)
    (case z_bool => k_is)
    (case z_int => k_is)
    (case z_isinstance => k_is)
    (case z_len => k_is)
    (case z_list => k_is)
    (case z_range => k_is)
    (case z_str => k_is)
    (case z_sum => k_is)
    (case z_tuple => k_is)
    (case z_zip => k_is)
    case main =>
      obtain ⟨fd, hb, hF⟩ := Law.law_fn (P := PySem.Challenge.rw_lastchip_k20_bodies_in_time.prog) (w := w) T hmg
      exact ⟨fd, hb, hF⟩
