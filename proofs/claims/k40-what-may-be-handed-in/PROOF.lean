import PyProof.Rows.All
import Wide.All
import OpenK.AllK
import Wide.FinOn
import PyProof.EqAt
import PyProof.EqKinds
import PyProof.TupleCall
import HandS.ForMost
import HandS.Exc
import HandS.TryOnly
import HandS.ExcOwn
import HandS.WordsExc
import HandS.Gcd
import HandS.Wide
import HandS.IsInst
import HandS.Style
import HandS.TupAny
import HandS.ExcIs
import KE.RegMulBits
import KE.IntBitsLaws
import HandS.Zip
import HandS.TupMul
import KE.GoesEnum
import PySem.Challenge.RW_lastchip_k40_what_may_be_handed_in
set_option Elab.async false
set_option linter.all false
set_option maxRecDepth 100000
set_option maxHeartbeats 4000000
/-! Dn: data without addresses. D a value, O an object that is owned, R how they lie in the abstract heap; lift: a reading over data as a reading over the heap. -/
namespace Dn
open PySem PySem.Spec PyProof.Rows L2

/-- what stands at an address and never changes: the empty dict, an instance of the class at C with its fields -/
inductive Tag where
  | dct
  | ins (C : Addr) (fs : List Str)
inductive D where
  | non | bl (b : Bool) | int (i : Int) | str (x : Str) | tup (ds : List D) | lst (ds : List D) | ref (n : Nat) | adr (a : Addr) | box (t : Tag) (ds : List D)
inductive O where
  | lst (ds : List D)
structure Ex where
  cls : Str
  fld : List (Str × D)
abbrev En := List (Option D)
abbrev Hh := List O
/-- the entry: the addresses that are owned there, the heap -/
structure Zs where
  ι : List Addr
  H : Hp

/-- a list of the written part -/
def SqK (K : PySem.W.Frag) (p : Addr) (xs : List V) : Prop :=
  ∃ (ob : Obj) (us : Array Value) (n : Nat), K.lookup p = some ob ∧ ob.cls = .type "list" ∧ ob.dict = none ∧ ob.data = .seq us n ∧ us.size ≤ sizeLine ∧ Vals xs us.toList
/-- a list that stands still while the def runs -/
def FL (K : PySem.W.Frag) (z : Zs) (p : Addr) (xs : List V) : Prop := (Rd z.H p (.lst xs) ∧ p ∉ z.ι) ∨ SqK K p xs
theorem sq_fl {K : PySem.W.Frag} {H : Hp} {p : Addr} {xs : List V} (h : SqL K H p xs) : FL K ⟨[], H⟩ p xs := by
  rcases h with h | h
  · exact .inl ⟨h, by simp⟩
  · exact .inr h
/-- no list -/
def NL (o : HO) : Prop := ∀ xs, o ≠ .lst xs
def BoxOf (H : Hp) (p : Addr) (xs : List V) : Tag → Prop
  | .dct => H p = some (.dK []) ∧ xs = []
  | .ins C fs => ∃ dx, H p = some (.ins C dx (fs.zip xs)) ∧ fs.length = xs.length
theorem BoxOf.keep {H H' : Hp} (k : ∀ p o, NL o → H p = some o → H' p = some o) {p : Addr} {xs : List V} : ∀ {t : Tag}, BoxOf H p xs t → BoxOf H' p xs t
  | .dct, q => ⟨k _ _ (fun _ c => by cases c) q.1, q.2⟩
  | .ins _ _, ⟨dx, q, e⟩ => ⟨dx, k _ _ (fun _ c => by cases c) q, e⟩
theorem fz_upd {H : Hp} {A : Addr} {xs : List V} {u : HO} (e : H A = some (.lst xs)) : ∀ p o, NL o → H p = some o → upd H A u p = some o := fun p o n q => by
  have hne : p ≠ A := fun c => by subst c; rw [e] at q; injection q with q; exact n xs q.symm
  rw [upd_ne hne]; exact q
mutual
inductive Den (K : PySem.W.Frag) (z : Zs) (ι : List Addr) (H : Hp) : V → D → Prop
  | non : Den K z ι H .non .non
  | bl (b : Bool) : Den K z ι H (.bl b) (.bl b)
  | int (i : Int) : Den K z ι H (.int i) (.int i)
  | str (x : Str) : Den K z ι H (.str x) (.str x)
  | tup {p : Addr} {xs : List V} {ds : List D} : SqT K H p xs → Dens K z ι H xs ds → Den K z ι H (.ref p) (.tup ds)
  | lst {p : Addr} {xs : List V} {ds : List D} : FL K z p xs → Dens K z ι H xs ds → Den K z ι H (.ref p) (.lst ds)
  | ref {p : Addr} {n : Nat} : ι[n]? = some p → Den K z ι H (.ref p) (.ref n)
  | adr (a : Addr) : Den K z ι H (.ref a) (.adr a)
  | box {p : Addr} {t : Tag} {xs : List V} {ds : List D} : BoxOf H p xs t → Dens K z ι H xs ds → Den K z ι H (.ref p) (.box t ds)
inductive Dens (K : PySem.W.Frag) (z : Zs) (ι : List Addr) (H : Hp) : List V → List D → Prop
  | nil : Dens K z ι H [] []
  | cons {v : V} {vs : List V} {d : D} {ds : List D} : Den K z ι H v d → Dens K z ι H vs ds → Dens K z ι H (v :: vs) (d :: ds)
end

/-- from (ι, H) to (ι', H'): what is not owned stays, what is newly owned was free -/
structure Kp (K : PySem.W.Frag) (ι ι' : List Addr) (H H' : Hp) : Prop where
  pre : ι <+: ι'
  frame : ∀ a o, a ∉ ι → H a = some o → H' a = some o
  tup : ∀ p xs, SqT K H p xs → SqT K H' p xs
  new : ∀ p ∈ ι', p ∈ ι ∨ H p = none
  fz : ∀ p o, NL o → H p = some o → H' p = some o
theorem Kp.refl {K : PySem.W.Frag} {ι : List Addr} {H : Hp} : Kp K ι ι H H := ⟨List.prefix_refl _, fun _ _ _ h => h, fun _ _ h => h, fun _ h => .inl h, fun _ _ _ h => h⟩
theorem Kp.trans {K : PySem.W.Frag} {ι ι1 ι2 : List Addr} {H H1 H2 : Hp} (a : Kp K ι ι1 H H1) (b : Kp K ι1 ι2 H1 H2) : Kp K ι ι2 H H2 := by
  refine ⟨a.pre.trans b.pre, fun c o hc e => b.frame c o (fun hm => ?_) (a.frame c o hc e), fun p xs h => b.tup p xs (a.tup p xs h), fun p hp => ?_, fun p o n h => b.fz p o n (a.fz p o n h)⟩
  · rcases a.new c hm with q | q
    · exact hc q
    · rw [e] at q; cases q
  · rcases b.new p hp with q | q
    · exact a.new p q
    · by_cases hi : p ∈ ι
      · exact .inl hi
      · refine .inr ?_
        cases e : H p with
        | none => rfl
        | some o => rw [a.frame p o hi e] at q; cases q

mutual
theorem Den.keep {K : PySem.W.Frag} {z : Zs} {ι ι' : List Addr} {H H' : Hp} (k : Kp K ι ι' H H') : ∀ {v : V} {d : D}, Den K z ι H v d → Den K z ι' H' v d
  | _, _, .non => .non
  | _, _, .bl b => .bl b
  | _, _, .int i => .int i
  | _, _, .str x => .str x
  | _, _, .tup h hs => .tup (k.tup _ _ h) (Dens.keep k hs)
  | _, _, .lst h hs => .lst h (Dens.keep k hs)
  | _, _, .ref h => .ref (by
    obtain ⟨r, e⟩ := k.pre
    rw [← e]
    obtain ⟨hl, _⟩ := List.getElem?_eq_some_iff.mp h
    rw [List.getElem?_append_left hl]
    exact h)
  | _, _, .adr a => .adr a
  | _, _, .box h hs => .box (h.keep k.fz) (Dens.keep k hs)
theorem Dens.keep {K : PySem.W.Frag} {z : Zs} {ι ι' : List Addr} {H H' : Hp} (k : Kp K ι ι' H H') : ∀ {vs : List V} {ds : List D}, Dens K z ι H vs ds → Dens K z ι' H' vs ds
  | _, _, .nil => .nil
  | _, _, .cons h t => .cons (Den.keep k h) (Dens.keep k t)
end
theorem Dens.length {K : PySem.W.Frag} {z : Zs} {ι : List Addr} {H : Hp} : ∀ {vs : List V} {ds : List D}, Dens K z ι H vs ds → vs.length = ds.length
  | _, _, .nil => rfl
  | _, _, .cons _ t => by rw [List.length_cons, List.length_cons, Dens.length t]
theorem Dens.get {K : PySem.W.Frag} {z : Zs} {ι : List Addr} {H : Hp} : ∀ {vs : List V} {ds : List D} {i : Nat} {d : D}, Dens K z ι H vs ds → ds[i]? = some d → ∃ v, vs[i]? = some v ∧ Den K z ι H v d
  | _, _, _, _, .nil, e => by simp at e
  | _, _, 0, _, .cons h _, e => by simp at e; subst e; exact ⟨_, rfl, h⟩
  | _, _, i + 1, d, .cons _ t, e => by
    obtain ⟨v, h1, h2⟩ := Dens.get (i := i) (d := d) t (by simpa using e)
    exact ⟨v, by simpa using h1, h2⟩
theorem Dens.getV {K : PySem.W.Frag} {z : Zs} {ι : List Addr} {H : Hp} : ∀ {vs : List V} {ds : List D} {i : Nat} {v : V}, Dens K z ι H vs ds → vs[i]? = some v → ∃ d, ds[i]? = some d ∧ Den K z ι H v d
  | _, _, _, _, .nil, e => by simp at e
  | _, _, 0, _, .cons h _, e => by simp at e; subst e; exact ⟨_, rfl, h⟩
  | _, _, i + 1, v, .cons _ t, e => by
    obtain ⟨d, h1, h2⟩ := Dens.getV (i := i) (v := v) t (by simpa using e)
    exact ⟨d, by simpa using h1, h2⟩
theorem Dens.append {K : PySem.W.Frag} {z : Zs} {ι : List Addr} {H : Hp} : ∀ {vs ws : List V} {ds es : List D}, Dens K z ι H vs ds → Dens K z ι H ws es → Dens K z ι H (vs ++ ws) (ds ++ es)
  | _, _, _, _, .nil, s => s
  | _, _, _, _, .cons h t, s => .cons h (Dens.append t s)
theorem Dens.take {K : PySem.W.Frag} {z : Zs} {ι : List Addr} {H : Hp} : ∀ {vs : List V} {ds : List D} (n : Nat), Dens K z ι H vs ds → Dens K z ι H (vs.take n) (ds.take n)
  | _, _, 0, _ => .nil
  | _, _, _ + 1, .nil => .nil
  | _, _, n + 1, .cons h t => .cons h (Dens.take n t)
theorem Dens.drop {K : PySem.W.Frag} {z : Zs} {ι : List Addr} {H : Hp} : ∀ {vs : List V} {ds : List D} (n : Nat), Dens K z ι H vs ds → Dens K z ι H (vs.drop n) (ds.drop n)
  | _, _, 0, r => r
  | _, _, _ + 1, .nil => .nil
  | _, _, n + 1, .cons _ t => Dens.drop n t
theorem Dens.set {K : PySem.W.Frag} {z : Zs} {ι : List Addr} {H : Hp} {v : V} {d : D} (h : Den K z ι H v d) : ∀ {vs : List V} {ds : List D} (n : Nat), Dens K z ι H vs ds → Dens K z ι H (vs.set n v) (ds.set n d)
  | _, _, _, .nil => .nil
  | _, _, 0, .cons _ t => .cons h t
  | _, _, n + 1, .cons q t => .cons q (Dens.set h n t)

/-- how an owned object lies -/
def ORel (K : PySem.W.Frag) (z : Zs) (ι : List Addr) (H : Hp) (p : Addr) : O → Prop
  | .lst ds => ∃ xs, H p = some (.lst xs) ∧ Dens K z ι H xs ds
structure RH (K : PySem.W.Frag) (z : Zs) (ι : List Addr) (h : Hh) (H : Hp) : Prop where
  base : Kp K z.ι ι z.H H
  len : ι.length = h.length
  nd : ι.Nodup
  obj : ∀ (n : Nat) (o : O), h[n]? = some o → ∃ p, ι[n]? = some p ∧ ORel K z ι H p o
structure RE (K : PySem.W.Frag) (z : Zs) (ι : List Addr) (e : En) (H : Hp) (σ : L2.St) : Prop where
  len : e.length = σ.length
  get : ∀ (i : Nat) (d : D), e[i]? = some (some d) → ∃ v, σ[i]? = some (some v) ∧ Den K z ι H v d
structure R (K : PySem.W.Frag) (z : Zs) (ι : List Addr) (h : Hh) (e : En) (H : Hp) (σ : L2.St) : Prop where
  hp : RH K z ι h H
  en : RE K z ι e H σ
section
variable {K : PySem.W.Frag} {z : Zs} {ι ι' : List Addr} {h : Hh} {e : En} {H H' : Hp} {σ : L2.St} {p : Addr} {n : Nat}
theorem RE.keep (r : RE K z ι e H σ) (k : Kp K ι ι' H H') : RE K z ι' e H' σ := ⟨r.len, fun i d q => let ⟨v, h1, h2⟩ := r.get i d q; ⟨v, h1, h2.keep k⟩⟩
theorem RE.set {v : V} {d : D} (r : RE K z ι e H σ) (i : Nat) (q : Den K z ι H v d) : RE K z ι (e.set i (some d)) H (σ.set i (some v)) := by
  refine ⟨by rw [List.length_set, List.length_set]; exact r.len, fun j c hc => ?_⟩
  by_cases hj : i = j
  · subst hj
    by_cases hl : i < e.length
    · rw [List.getElem?_set_self hl] at hc
      injection hc with hc; injection hc with hc; subst hc
      exact ⟨v, by rw [List.getElem?_set_self (by rw [← r.len]; exact hl)], q⟩
    · rw [List.getElem?_eq_none (by rw [List.length_set]; omega)] at hc; cases hc
  · rw [List.getElem?_set_ne hj] at hc
    obtain ⟨u, h1, h2⟩ := r.get j c hc
    exact ⟨u, by rw [List.getElem?_set_ne hj]; exact h1, h2⟩
theorem RE.unset (r : RE K z ι e H σ) (i : Nat) : RE K z ι (e.set i none) H (σ.set i none) := by
  refine ⟨by rw [List.length_set, List.length_set]; exact r.len, fun j c hc => ?_⟩
  by_cases hj : i = j
  · subst hj
    by_cases hl : i < e.length
    · rw [List.getElem?_set_self hl] at hc; cases hc
    · rw [List.getElem?_eq_none (by rw [List.length_set]; omega)] at hc; cases hc
  · rw [List.getElem?_set_ne hj] at hc
    obtain ⟨u, h1, h2⟩ := r.get j c hc
    exact ⟨u, by rw [List.getElem?_set_ne hj]; exact h1, h2⟩
theorem RH.at_ {o : O} (r : RH K z ι h H) (hn : h[n]? = some o) (hp : ι[n]? = some p) : ORel K z ι H p o := by
  obtain ⟨q, h1, h2⟩ := r.obj n o hn
  rw [hp] at h1; injection h1 with h1; subst h1; exact h2
theorem ORel.some {o : O} (q : ORel K z ι H p o) : ∃ u, H p = some u := by
  cases o with
  | lst ds => obtain ⟨xs, e, _⟩ := q; exact ⟨_, e⟩
theorem RH.tracked (r : RH K z ι h H) (hp : p ∈ ι) : ∃ u, H p = some u := by
  obtain ⟨n, hn⟩ := List.getElem?_of_mem hp
  obtain ⟨hl, _⟩ := List.getElem?_eq_some_iff.mp hn
  have hl' : n < h.length := by rw [← r.len]; exact hl
  exact (r.at_ (List.getElem?_eq_getElem hl') hn).some
theorem RH.notown (r : RH K z ι h H) (hp : H p = none) : p ∉ ι := fun hm => by
  obtain ⟨u, e⟩ := r.tracked hm
  rw [hp] at e; cases e
theorem sqT_upd {xs : List V} {o : HO} {q : Addr} (hp : ∀ ys, ¬ Rd H q (.tup ys)) (h1 : SqT K H p xs) : SqT K (upd H q o) p xs := by
  rcases h1 with (h1 | ⟨u, h1⟩) | h1
  · have hne : p ≠ q := fun e => hp xs (.inl (e ▸ h1))
    exact .inl (.inl (by rw [upd_ne hne]; exact h1))
  · have hne : p ≠ q := fun e => hp xs (.inr ⟨u, e ▸ h1⟩)
    exact .inl (.inr ⟨u, by rw [upd_ne hne]; exact h1⟩)
  · exact .inr h1
/-- an object that is not owned is laid -/
theorem Kp.laid (hp : H p = none) (o : HO) : Kp K ι ι H (upd H p o) :=
  ⟨List.prefix_refl _, fun a u _ q => by rw [upd_ne (ne_of_none q hp)]; exact q, fun a xs q => sqT_upd (fun ys z => by rcases z with z | ⟨u, z⟩ <;> rw [hp] at z <;> cases z) q, fun _ q => .inl q, fun a u _ q => by rw [upd_ne (ne_of_none q hp)]; exact q⟩
theorem RH.laid (r : RH K z ι h H) (hp : H p = none) (o : HO) : RH K z ι h (upd H p o) := by
  have k : Kp K ι ι H (upd H p o) := Kp.laid hp o
  refine ⟨r.base.trans k, r.len, r.nd, fun n u hn => ?_⟩
  obtain ⟨q, h1, h2⟩ := r.obj n u hn
  refine ⟨q, h1, ?_⟩
  cases u with
  | lst ds =>
    obtain ⟨xs, e1, e2⟩ := h2
    exact ⟨xs, by rw [upd_ne (ne_of_none e1 hp)]; exact e1, e2.keep k⟩
theorem R.laid (r : R K z ι h e H σ) (hp : H p = none) (o : HO) : R K z ι h e (upd H p o) σ := ⟨r.hp.laid hp o, r.en.keep (Kp.laid hp o)⟩
/-- a new list is owned from now on -/
theorem Kp.owned (hp : H p = none) (o : HO) : Kp K ι (ι ++ [p]) H (upd H p o) :=
  ⟨List.prefix_append _ _, (Kp.laid (K := K) (ι := ι) hp o).frame, (Kp.laid (K := K) (ι := ι) hp o).tup, fun q hq => by
    rcases List.mem_append.mp hq with m | m
    · exact .inl m
    · rw [List.mem_singleton] at m; subst m; exact .inr hp, (Kp.laid (K := K) (ι := ι) hp o).fz⟩
theorem RH.owned {xs : List V} {ds : List D} (r : RH K z ι h H) (hp : H p = none) (q : Dens K z ι H xs ds) : RH K z (ι ++ [p]) (h ++ [.lst ds]) (upd H p (.lst xs)) := by
  have k : Kp K ι (ι ++ [p]) H (upd H p (.lst xs)) := Kp.owned hp _
  refine ⟨r.base.trans k, by rw [List.length_append, List.length_append, r.len]; rfl, ?_, fun n u hn => ?_⟩
  · rw [List.nodup_append]
    exact ⟨r.nd, by simp, fun a ha b hb => by rw [List.mem_singleton] at hb; subst hb; exact fun e => r.notown hp (e ▸ ha)⟩
  · by_cases hl : n < h.length
    · rw [List.getElem?_append_left hl] at hn
      obtain ⟨q', h1, h2⟩ := r.obj n u hn
      refine ⟨q', by rw [List.getElem?_append_left (by rw [r.len]; exact hl)]; exact h1, ?_⟩
      cases u with
      | lst ds =>
        obtain ⟨xs, e1, e2⟩ := h2
        exact ⟨xs, by rw [upd_ne (ne_of_none e1 hp)]; exact e1, e2.keep k⟩
    · have hl2 : n = h.length := by
        have := (List.getElem?_eq_some_iff.mp hn).1
        rw [List.length_append] at this
        simp at this; omega
      subst hl2
      rw [List.getElem?_append_right (Nat.le_refl _), Nat.sub_self] at hn
      injection hn with hn
      subst hn
      refine ⟨p, by rw [List.getElem?_append_right (by rw [r.len]; exact Nat.le_refl _), r.len, Nat.sub_self]; rfl, xs, upd_same, q.keep k⟩
theorem R.owned {xs : List V} {ds : List D} (r : R K z ι h e H σ) (hp : H p = none) (q : Dens K z ι H xs ds) : R K z (ι ++ [p]) (h ++ [.lst ds]) e (upd H p (.lst xs)) σ := ⟨r.hp.owned hp q, r.en.keep (Kp.owned hp _)⟩
theorem den_new (r : RH K z ι h H) {H' : Hp} : Den K z (ι ++ [p]) H' (.ref p) (.ref h.length) := .ref (by
  rw [List.getElem?_append_right (by rw [r.len]; exact Nat.le_refl _), r.len, Nat.sub_self]; rfl)
/-- an owned list is written -/
theorem RH.notup {xs : List V} (r : RH K z ι h H) (hp : p ∈ ι) : ∀ ys, ¬ Rd H p (.tup ys) := fun ys q => by
  obtain ⟨n, hn⟩ := List.getElem?_of_mem hp
  obtain ⟨hl, _⟩ := List.getElem?_eq_some_iff.mp hn
  have hl' : n < h.length := by rw [← r.len]; exact hl
  have w := r.at_ (List.getElem?_eq_getElem hl') hn
  cases eo : h[n] with
  | lst ds =>
    rw [eo] at w
    obtain ⟨xs, e1, _⟩ := w
    rcases q with q | ⟨u, q⟩ <;> rw [e1] at q <;> cases q
theorem RH.isL (r : RH K z ι h H) (hp : p ∈ ι) : ∃ xs, H p = some (.lst xs) := by
  obtain ⟨n, hn⟩ := List.getElem?_of_mem hp
  obtain ⟨hl, _⟩ := List.getElem?_eq_some_iff.mp hn
  have hl' : n < h.length := by rw [← r.len]; exact hl
  have w := r.at_ (List.getElem?_eq_getElem hl') hn
  cases eo : h[n] with
  | lst ds =>
    rw [eo] at w
    obtain ⟨xs, e1, _⟩ := w
    exact ⟨xs, e1⟩
theorem Kp.wrote (r : RH K z ι h H) (hp : p ∈ ι) (o : HO) : Kp K ι ι H (upd H p o) :=
  ⟨List.prefix_refl _, fun a u ha q => by
    have hne : a ≠ p := fun e => ha (by rw [e]; exact hp)
    rw [upd_ne hne]; exact q, fun a xs q => sqT_upd (r.notup (xs := []) hp) q, fun _ q => .inl q, fz_upd (r.isL hp).choose_spec⟩
theorem RH.wrote {xs : List V} {ds : List D} (r : RH K z ι h H) (hn : ι[n]? = some p) (hl : n < h.length) (q : Dens K z ι H xs ds) : RH K z ι (h.set n (.lst ds)) (upd H p (.lst xs)) := by
  have hm : p ∈ ι := List.mem_of_getElem? hn
  have k : Kp K ι ι H (upd H p (.lst xs)) := Kp.wrote r hm _
  refine ⟨r.base.trans k, by rw [List.length_set]; exact r.len, r.nd, fun m u hu => ?_⟩
  by_cases hmn : n = m
  · subst hmn
    rw [List.getElem?_set_self hl] at hu
    injection hu with hu; subst hu
    exact ⟨p, hn, xs, upd_same, q.keep k⟩
  · rw [List.getElem?_set_ne hmn] at hu
    obtain ⟨q', h1, h2⟩ := r.obj m u hu
    have hne : q' ≠ p := fun e => by
      subst e
      obtain ⟨a1, b1⟩ := List.getElem?_eq_some_iff.mp hn
      obtain ⟨a2, b2⟩ := List.getElem?_eq_some_iff.mp h1
      exact hmn ((List.getElem_inj r.nd).mp (b1.trans b2.symm))
    refine ⟨q', h1, ?_⟩
    cases u with
    | lst ds =>
      obtain ⟨ys, e1, e2⟩ := h2
      exact ⟨ys, by rw [upd_ne hne]; exact e1, e2.keep k⟩
theorem R.wrote {xs : List V} {ds : List D} (r : R K z ι h e H σ) (hn : ι[n]? = some p) (hl : n < h.length) (q : Dens K z ι H xs ds) : R K z ι (h.set n (.lst ds)) e (upd H p (.lst xs)) σ :=
  ⟨r.hp.wrote hn hl q, r.en.keep (Kp.wrote r.hp (List.mem_of_getElem? hn) _)⟩
end
/-- the list at an owned place -/
theorem RH.list {K : PySem.W.Frag} {z : Zs} {ι : List Addr} {h : Hh} {H : Hp} {n : Nat} {v : V} {ds : List D} (r : RH K z ι h H) (q : Den K z ι H v (.ref n)) (hn : h[n]? = some (.lst ds)) : ∃ p xs, v = .ref p ∧ ι[n]? = some p ∧ H p = some (.lst xs) ∧ Dens K z ι H xs ds ∧ n < h.length := by
  cases q with
  | ref hp =>
    obtain ⟨xs, e1, e2⟩ := r.at_ hn hp
    exact ⟨_, xs, rfl, hp, e1, e2, (List.getElem?_eq_some_iff.mp hn).1⟩
/-- a list of the entry stands -/
theorem fl_stay {K : PySem.W.Frag} {z : Zs} {ι : List Addr} {h : Hh} {H : Hp} {p : Addr} {xs : List V} (r : RH K z ι h H) (q : FL K z p xs) : SqL K H p xs := by
  rcases q with ⟨q | ⟨u, q⟩, hm⟩ | q
  · exact .inl (.inl (r.base.frame p _ hm q))
  · exact .inl (.inr ⟨u, r.base.frame p _ hm q⟩)
  · exact .inr q
end Dn


namespace Dn
open PySem PySem.Spec PyProof.Rows L2

abbrev XK' := Ex → Hh → Prop
abbrev dG (α : Type) := En → Hh → (α → Hh → Prop) → XK' → Prop
abbrev dE := dG D
abbrev dT := dG Bool
abbrev dA := dG (List D)
def Mono {α : Type} (t : dG α) : Prop := ∀ e h (Q Q' : α → Hh → Prop) (E E' : XK'), (∀ a h', Q a h' → Q' a h') → (∀ x h', E x h' → E' x h') → t e h Q E → t e h Q' E'

def ExR (K : PySem.W.Frag) (mg : Str → Option Value) (z : Zs) (ι : List Addr) (H : Hp) (cls : Value) (dd : Option Addr) (x : Ex) : Prop :=
  mg x.cls = some cls ∧ ((x.fld = [] ∧ dd = none) ∨ ∃ d fs, x.fld ≠ [] ∧ dd = some d ∧ H d = some (.xd fs) ∧ fs.map (·.1) = x.fld.map (·.1) ∧ Dens K z ι H (fs.map (·.2)) (x.fld.map (·.2)))

/-- what is wanted of a value, of a test, of arguments, of an exception, as the heap has it -/
def PEq (K : PySem.W.Frag) (z : Zs) (ι : List Addr) (e : En) (σ : L2.St) (H : Hp) (Q : VK) : D → Hh → Prop := fun d h' => ∀ ι' H' v, Kp K ι ι' H H' → R K z ι' h' e H' σ → Den K z ι' H' v d → Q v H'
def PTq (K : PySem.W.Frag) (z : Zs) (ι : List Addr) (e : En) (σ : L2.St) (H : Hp) (Q : Bool → Hp → Prop) : Bool → Hh → Prop := fun b h' => ∀ ι' H', Kp K ι ι' H H' → R K z ι' h' e H' σ → Q b H'
def PAq (K : PySem.W.Frag) (z : Zs) (ι : List Addr) (e : En) (σ : L2.St) (H : Hp) (Q : List V → Hp → Prop) : List D → Hh → Prop := fun ds h' => ∀ ι' H' vs, Kp K ι ι' H H' → R K z ι' h' e H' σ → Dens K z ι' H' vs ds → Q vs H'
def PXq (K : PySem.W.Frag) (mg : Str → Option Value) (z : Zs) (ι : List Addr) (e : En) (σ : L2.St) (H : Hp) (W : WX) : XK' := fun x h' => ∀ ι' H' cls dd, Kp K ι ι' H H' → R K z ι' h' e H' σ → ExR K mg z ι' H' cls dd x → W cls dd σ H'
section
variable {K : PySem.W.Frag} {mg : Str → Option Value} {z : Zs} {ι ι' : List Addr} {e : En} {σ : L2.St} {H H' : Hp} {h' : Hh}
theorem PEq.shift {Q : VK} {d : D} (k : Kp K ι ι' H H') (q : PEq K z ι e σ H Q d h') : PEq K z ι' e σ H' Q d h' := fun i2 H2 v k2 r dn => q i2 H2 v (k.trans k2) r dn
theorem PTq.shift {Q : Bool → Hp → Prop} {b : Bool} (k : Kp K ι ι' H H') (q : PTq K z ι e σ H Q b h') : PTq K z ι' e σ H' Q b h' := fun i2 H2 k2 r => q i2 H2 (k.trans k2) r
theorem PAq.shift {Q : List V → Hp → Prop} {ds : List D} (k : Kp K ι ι' H H') (q : PAq K z ι e σ H Q ds h') : PAq K z ι' e σ H' Q ds h' := fun i2 H2 v k2 r dn => q i2 H2 v (k.trans k2) r dn
theorem PXq.shift {W : WX} {x : Ex} (k : Kp K ι ι' H H') (q : PXq K mg z ι e σ H W x h') : PXq K mg z ι' e σ H' W x h' := fun i2 H2 c dd k2 r dn => q i2 H2 c dd (k.trans k2) r dn
end
def lift (K : PySem.W.Frag) (mg : Str → Option Value) (z : Zs) (W : WX) (t : dE) : TE := fun σ H Q => ∃ ι h e, R K z ι h e H σ ∧ t e h (PEq K z ι e σ H Q) (PXq K mg z ι e σ H W)
def liftT (K : PySem.W.Frag) (mg : Str → Option Value) (z : Zs) (W : WX) (t : dT) : TT := fun σ H Q => ∃ ι h e, R K z ι h e H σ ∧ t e h (PTq K z ι e σ H Q) (PXq K mg z ι e σ H W)
def liftA (K : PySem.W.Frag) (mg : Str → Option Value) (z : Zs) (W : WX) (t : dA) : TA := fun σ H Q => ∃ ι h e, R K z ι h e H σ ∧ t e h (PAq K z ι e σ H Q) (PXq K mg z ι e σ H W)
structure DE (X : Cx) (z : Zs) (W : WX) (a : Expr) (t : dE) : Prop where
  run : PE X a (lift X.K X.mg z W t)
  mono : Mono t
structure DT (X : Cx) (z : Zs) (W : WX) (a : Expr) (t : dT) : Prop where
  run : PT X a (liftT X.K X.mg z W t)
  mono : Mono t
/-- an argument list of n expressions -/
structure DA (X : Cx) (z : Zs) (W : WX) (es : List Expr) (t : dA) (n : Nat) : Prop where
  run : PA X es (liftA X.K X.mg z W t)
  mono : Mono t
  len : ∀ e h Q E, t e h Q E → t e h (fun ds h' => ds.length = n ∧ Q ds h') E

theorem pe_imp {X : Cx} {a : Expr} {t t' : TE} (h : PE X a t) (i : ∀ σ H Q, t' σ H Q → t σ H Q) : PE X a t' := ⟨fun pins s σ H Q I w => h.run pins s σ H Q I (i σ H Q w)⟩
theorem pt_imp {X : Cx} {a : Expr} {t t' : TT} (h : PT X a t) (i : ∀ σ H Q, t' σ H Q → t σ H Q) : PT X a t' := ⟨fun pins s σ H Q I w => h.run pins s σ H Q I (i σ H Q w)⟩
theorem pw_imp {X : Cx} {a : Expr} {t t' : TT} (h : PW X a t) (i : ∀ σ H Q, t' σ H Q → t σ H Q) : PW X a t' := ⟨fun wh pins s σ H Q I w => h.run wh pins s σ H Q I (i σ H Q w)⟩
theorem pa_imp {X : Cx} {a : List Expr} {t t' : TA} (h : PA X a t) (i : ∀ σ H Q, t' σ H Q → t σ H Q) : PA X a t' := ⟨fun pos pins s σ H Q I w => h.run pos pins s σ H Q I (i σ H Q w)⟩
theorem ps_imp {X : Cx} {a : Stmt} {t t' : TS} (h : PS X a t) (i : ∀ D σ H, t' D σ H → t D σ H) : PS X a t' := ⟨fun pins s σ H D I w => h.run pins s σ H D I (i D σ H w)⟩
theorem pss_imp {X : Cx} {a : List Stmt} {t t' : TS} (h : PSs X a t) (i : ∀ D σ H, t' D σ H → t D σ H) : PSs X a t' := ⟨fun pins s σ H D I w => h.run pins s σ H D I (i D σ H w)⟩
theorem pi_imp {X : Cx} {tg a : Expr} {t t' : TI} (h : PI X tg a t) (i : ∀ σ H Q, t' σ H Q → t σ H Q) : PI X tg a t' := ⟨fun pins s σ H Q I w => h.run pins s σ H Q I (i σ H Q w)⟩

section
variable {K : PySem.W.Frag} {mg : Str → Option Value} {z : Zs} {W : WX} {ι : List Addr} {h : Hh} {e : En} {H : Hp} {σ : L2.St}
/-- the working lemmas: a reading, then what is done with what it gives -/
theorem lift_of {t : dE} {P : D → Hh → Prop} {E : XK'} {Q : VK} (m : Mono t) (r : R K z ι h e H σ) (q : t e h P E) (hP : ∀ d h1 ι1 H1 v, P d h1 → Kp K ι ι1 H H1 → R K z ι1 h1 e H1 σ → Den K z ι1 H1 v d → Q v H1)
    (hE : ∀ x h1, E x h1 → PXq K mg z ι e σ H W x h1) : lift K mg z W t σ H Q :=
  ⟨ι, h, e, r, m e h _ _ _ _ (fun d h1 p ι1 H1 v k1 r1 dn => hP d h1 ι1 H1 v p k1 r1 dn) hE q⟩
theorem liftT_of {t : dT} {P : Bool → Hh → Prop} {E : XK'} {Q : Bool → Hp → Prop} (m : Mono t) (r : R K z ι h e H σ) (q : t e h P E) (hP : ∀ b h1 ι1 H1, P b h1 → Kp K ι ι1 H H1 → R K z ι1 h1 e H1 σ → Q b H1)
    (hE : ∀ x h1, E x h1 → PXq K mg z ι e σ H W x h1) : liftT K mg z W t σ H Q :=
  ⟨ι, h, e, r, m e h _ _ _ _ (fun d h1 p ι1 H1 k1 r1 => hP d h1 ι1 H1 p k1 r1) hE q⟩
theorem liftA_of {t : dA} {P : List D → Hh → Prop} {E : XK'} {Q : List V → Hp → Prop} (m : Mono t) (r : R K z ι h e H σ) (q : t e h P E) (hP : ∀ d h1 ι1 H1 v, P d h1 → Kp K ι ι1 H H1 → R K z ι1 h1 e H1 σ → Dens K z ι1 H1 v d → Q v H1)
    (hE : ∀ x h1, E x h1 → PXq K mg z ι e σ H W x h1) : liftA K mg z W t σ H Q :=
  ⟨ι, h, e, r, m e h _ _ _ _ (fun d h1 p ι1 H1 v k1 r1 dn => hP d h1 ι1 H1 v p k1 r1 dn) hE q⟩
end

/-! ### names, constants -/
def slot : En → Nat → Option D
  | [], _ => none
  | x :: _, 0 => x
  | _ :: r, n + 1 => slot r n
theorem slot_get : ∀ {e : En} {i : Nat} {d : D}, slot e i = some d → e[i]? = some (some d)
  | [], _, _, h => by cases h
  | x :: _, 0, d, h => by
    have h' : x = some d := h
    subst h'; rfl
  | _ :: r, n + 1, d, h => by
    have := slot_get (e := r) (i := n) h
    simpa using this
def dVar (i : Nat) : dE := fun e h Q _ => match slot e i with
  | some d => Q d h
  | none => False
def dC (d : D) : dE := fun _ h Q _ => Q d h
section
variable {X : Cx} {z : Zs} {W : WX}
theorem de_var (i : Nat) {x : Str} {pos : Pos} (hN : X.N[i]? = some x) (hv : Vis X.env.scope x) (hd : (x == ("__debug__" : Str)) = false) (hcd : (x == ("__classdict__" : Str)) = false) : DE X z W (.Name x pos) (dVar i) := by
  refine ⟨pe_imp (pe_var hN hv hd hcd) fun σ H Q hh => ?_, fun e h Q Q' E E' hQ hE q => ?_⟩
  · obtain ⟨ι, h, e, r, q⟩ := hh
    unfold dVar at q
    cases es : slot e i with
    | none => rw [es] at q; exact q.elim
    | some d =>
      rw [es] at q
      obtain ⟨v, h1, h2⟩ := r.en.get i d (slot_get es)
      exact ⟨v, h1, q ι H v Kp.refl r h2⟩
  · unfold dVar at q ⊢
    cases es : slot e i with
    | none => rw [es] at q; exact q.elim
    | some d => rw [es] at q; exact hQ _ _ q
theorem mono_c (d : D) : Mono (dC d) := fun _ h _ _ _ _ hQ _ q => hQ d h q
theorem de_int {i : Int} {j pos} : DE X z W (.Constant (.int i) j pos) (dC (.int i)) := ⟨pe_imp pe_int fun σ H Q ⟨ι, h, e, r, q⟩ => q ι H _ Kp.refl r (.int i), mono_c _⟩
theorem de_bl {b : Bool} {j pos} : DE X z W (.Constant (.bool b) j pos) (dC (.bl b)) := ⟨pe_imp pe_bl fun σ H Q ⟨ι, h, e, r, q⟩ => q ι H _ Kp.refl r (.bl b), mono_c _⟩
theorem de_non {j pos} : DE X z W (.Constant .none j pos) (dC .non) := ⟨pe_imp pe_non fun σ H Q ⟨ι, h, e, r, q⟩ => q ι H _ Kp.refl r .non, mono_c _⟩
theorem de_str {x : Str} {j pos} : DE X z W (.Constant (.str x) j pos) (dC (.str x)) := ⟨pe_imp pe_str fun σ H Q ⟨ι, h, e, r, q⟩ => q ι H _ Kp.refl r (.str x), mono_c _⟩
end

/-! ### results of operations -/
inductive Rs where
  | ok (d : D) (h : Hh)
  | opt (o : Option D) (h : Hh)
  | cond (c : Prop) (d : D) (h : Hh)
  | no
def Rs.to : Rs → (D → Hh → Prop) → Prop
  | .ok d h, Q => Q d h
  | .opt o h, Q => ∃ d, o = some d ∧ Q d h
  | .cond c d h, Q => c ∧ Q d h
  | .no, _ => False
theorem Rs.mono {r : Rs} {Q Q' : D → Hh → Prop} (hQ : ∀ d h, Q d h → Q' d h) (q : r.to Q) : r.to Q' := by
  cases r with
  | ok d h => exact hQ _ _ q
  | opt o h => obtain ⟨d, e, q⟩ := q; exact ⟨d, e, hQ _ _ q⟩
  | cond c d h => exact ⟨q.1, hQ _ _ q.2⟩
  | no => exact q.elim
def dOp (f : D → D → Hh → Rs) (ta tb : dE) : dE := fun e h Q E => ta e h (fun x h1 => tb e h1 (fun y h2 => (f x y h2).to Q) E) E
def dUn (f : D → Hh → Rs) (ta : dE) : dE := fun e h Q E => ta e h (fun x h1 => (f x h1).to Q) E
theorem mono_op {f : D → D → Hh → Rs} {ta tb : dE} (ma : Mono ta) (mb : Mono tb) : Mono (dOp f ta tb) := fun e h _ _ _ _ hQ hE q =>
  ma e h _ _ _ _ (fun _ h1 q1 => mb e h1 _ _ _ _ (fun _ _ q2 => Rs.mono hQ q2) hE q1) hE q
theorem mono_un {f : D → Hh → Rs} {ta : dE} (ma : Mono ta) : Mono (dUn f ta) := fun e h _ _ _ _ hQ hE q =>
  ma e h _ _ _ _ (fun _ _ q1 => Rs.mono hQ q1) hE q
/-- the operation f over data is the operation rr over values -/
def OpD (K : PySem.W.Frag) (f : D → D → Hh → Rs) (rr : R2) : Prop := ∀ (z : Zs) (ι : List Addr) (h : Hh) (e : En) (H : Hp) (σ : L2.St) (x y : V) (a b : D) (Q : VK),
  R K z ι h e H σ → Den K z ι H x a → Den K z ι H y b → (f a b h).to (PEq K z ι e σ H Q) → rr x y H Q
def UnD (K : PySem.W.Frag) (f : D → Hh → Rs) (rr : V → Hp → VK → Prop) : Prop := ∀ (z : Zs) (ι : List Addr) (h : Hh) (e : En) (H : Hp) (σ : L2.St) (x : V) (a : D) (Q : VK),
  R K z ι h e H σ → Den K z ι H x a → (f a h).to (PEq K z ι e σ H Q) → rr x H Q
section
variable {X : Cx} {z : Zs} {W : WX} {a b : Expr} {ta tb : dE} {f : D → D → Hh → Rs} {rr : R2} {pos : Pos}
theorem op_read (ho : OpD X.K f rr) (ha : DE X z W a ta) (hb : DE X z W b tb) {σ : L2.St} {H : Hp} {Q : VK} (hh : lift X.K X.mg z W (dOp f ta tb) σ H Q) : tOp rr (lift X.K X.mg z W ta) (lift X.K X.mg z W tb) σ H Q := by
  obtain ⟨ι, h, e, r, q⟩ := hh
  refine lift_of ha.mono r q (fun x h1 ι1 H1 v q1 k1 r1 d1 => ?_) fun _ _ q => q
  refine lift_of hb.mono r1 q1 (fun y h2 ι2 H2 u q2 k2 r2 d2 => ?_) fun x h' px => px.shift k1
  exact ho z ι2 h2 e H2 σ v u x y Q r2 (d1.keep k2) d2 (Rs.mono (fun d h' p => PEq.shift (k1.trans k2) p) q2)
theorem de_bin {op : Operator} (hr : OpR X (binaryOp op) rr) (ho : OpD X.K f rr) (ha : DE X z W a ta) (hb : DE X z W b tb) : DE X z W (.BinOp a op b pos) (dOp f ta tb) :=
  ⟨pe_imp (pe_op hr ha.run hb.run) fun _ _ _ hh => op_read ho ha hb hh, mono_op ha.mono hb.mono⟩
theorem de_cmp {op : CmpOp} (hr : OpR X (compareOp op) rr) (ho : OpD X.K f rr) (ha : DE X z W a ta) (hb : DE X z W b tb) (hm : behindInMarks op b = false) : DE X z W (.Compare a [op] [b] pos) (dOp f ta tb) :=
  ⟨pe_imp (pe_cmpR hr ha.run hb.run hm) fun _ _ _ hh => op_read ho ha hb hh, mono_op ha.mono hb.mono⟩
theorem de_sub (hr : IxR X rr) (ho : OpD X.K f rr) (ha : DE X z W a ta) (hb : DE X z W b tb) (hs : PlainIx b) : DE X z W (.Subscript a b pos) (dOp f ta tb) :=
  ⟨pe_imp (pe_ix hr ha.run hb.run hs) fun _ _ _ hh => op_read ho ha hb hh, mono_op ha.mono hb.mono⟩
theorem de_un {op : UnaryOp} {g : D → Hh → Rs} {ru : V → Hp → VK → Prop} (hr : UnR X (unaryOp op) ru) (ho : UnD X.K g ru) (ha : DE X z W a ta) : DE X z W (.UnaryOp op a pos) (dUn g ta) :=
  ⟨pe_imp (pe_un hr ha.run) fun σ H Q ⟨ι, h, e, r, q⟩ => lift_of ha.mono r q (fun x h1 ι1 H1 v q1 k1 r1 d1 => ho z ι1 h1 e H1 σ v x Q r1 d1 (Rs.mono (fun d h' p => PEq.shift k1 p) q1)) fun _ _ q => q, mono_un ha.mono⟩
end

/-! ### arithmetic -/
def addF : D → D → Hh → Rs
  | .int i, .int j, h => .ok (.int (i + j)) h
  | .str i, .str j, h => .cond (i.length + j.length ≤ sizeLine) (.str (i ++ j)) h
  | .tup a, .tup b, h => .cond (a.length + b.length ≤ sizeLine) (.tup (a ++ b)) h
  | .ref m, .ref n, h => match h[m]?, h[n]? with
    | some (.lst a), some (.lst b) => .cond (a.length + b.length ≤ sizeLine) (.ref h.length) (h ++ [.lst (a ++ b)])
    | _, _ => .no
  | _, _, _ => .no
def subF : D → D → Hh → Rs
  | .int i, .int j, h => .ok (.int (i - j)) h
  | _, _, _ => .no
def MulOk (i j : Int) : Prop := IntMulOk i j
def mulF : D → D → Hh → Rs
  | .int i, .int j, h => .cond (MulOk i j) (.int (i * j)) h
  | .ref m, .int k, h => match h[m]? with
    | some (.lst a) => .cond (-(2 ^ 63) ≤ k ∧ k < 2 ^ 63 ∧ a.length * k.toNat ≤ sizeLine) (.ref h.length) (h ++ [.lst (List.replicate k.toNat a).flatten])
    | _ => .no
  | _, _, _ => .no
def DivOk (i j : Int) : Prop := j ≠ 0 ∧ Builtin.divisionGoesByPylong i j = false
def fdivF : D → D → Hh → Rs
  | .int i, .int j, h => .cond (DivOk i j) (.int (i.fdiv j)) h
  | _, _, _ => .no
def modF : D → D → Hh → Rs
  | .int i, .int j, h => .cond (j ≠ 0) (.int (i.fmod j)) h
  | _, _, _ => .no
def powF : D → D → Hh → Rs
  | .int i, .int j, h => .cond (CPow i j) (.int (i ^ j.toNat)) h
  | _, _, _ => .no
def negF : D → Hh → Rs
  | .int i, h => .ok (.int (-i)) h
  | _, _ => .no
section
variable {X : Cx} {K : PySem.W.Frag} {z : Zs} {ι : List Addr} {h : Hh} {e : En} {H : Hp} {σ : L2.St} {Q : VK}
theorem den_int {x : V} {i : Int} (q : Den K z ι H x (.int i)) : x = .int i := by cases q; rfl
theorem den_str {x : V} {i : Str} (q : Den K z ι H x (.str i)) : x = .str i := by cases q; rfl
theorem den_bl {x : V} {i : Bool} (q : Den K z ι H x (.bl i)) : x = .bl i := by cases q; rfl
theorem den_non {x : V} (q : Den K z ι H x .non) : x = .non := by cases q; rfl
theorem den_tup {x : V} {ds : List D} (q : Den K z ι H x (.tup ds)) : ∃ p xs, x = .ref p ∧ SqT K H p xs ∧ Dens K z ι H xs ds := by
  cases q with
  | tup a b => exact ⟨_, _, rfl, a, b⟩
theorem den_lst {x : V} {ds : List D} (r : RH K z ι h H) (q : Den K z ι H x (.lst ds)) : ∃ p xs, x = .ref p ∧ SqL K H p xs ∧ Dens K z ι H xs ds := by
  cases q with
  | lst a b => exact ⟨_, _, rfl, fl_stay r a, b⟩
/-- a new tuple is handed on -/
theorem new_tup {xs : List V} {ds : List D} (r : R K z ι h e H σ) (q : Dens K z ι H xs ds) (w : PEq K z ι e σ H Q (.tup ds) h) (p : Addr) (hp : H p = none) : Q (.ref p) (upd H p (.tup xs)) :=
  w ι _ _ (Kp.laid hp _) (r.laid hp _) (.tup (.inl (.inl upd_same)) (q.keep (Kp.laid hp _)))
theorem new_lst {xs : List V} {ds : List D} (r : R K z ι h e H σ) (q : Dens K z ι H xs ds) (w : PEq K z ι e σ H Q (.ref h.length) (h ++ [.lst ds])) (p : Addr) (hp : H p = none) : Q (.ref p) (upd H p (.lst xs)) :=
  w _ _ _ (Kp.owned hp _) (r.owned hp q) (den_new r.hp)
def rAddA (K : PySem.W.Frag) : R2 := fun x y H Q => ((rI0 fun i j => .int (i + j)) x y H Q ∨ (∃ i j, x = .str i ∧ y = .str j ∧ i.length + j.length ≤ sizeLine ∧ Q (.str (i ++ j)) H)) ∨ rCatA K x y H Q ∨ rCat x y H Q
theorem op_addA : OpR X (binaryOp .Add) (rAddA X.K) := OpR.or (OpR.or op_add op_add_str) (OpR.or op_catA op_cat)
theorem od_add : OpD K addF (rAddA K) := by
  intro z ι h e H σ x y a b Q r da db q
  unfold addF at q
  split at q
  · have := den_int da; have := den_int db; subst_vars
    exact .inl (.inl ⟨_, _, rfl, rfl, q ι H _ Kp.refl r (.int _)⟩)
  · have := den_str da; have := den_str db; subst_vars
    exact .inl (.inr ⟨_, _, rfl, rfl, q.1, q.2 ι H _ Kp.refl r (.str _)⟩)
  · obtain ⟨p, xs, rfl, hp, hx⟩ := den_tup da
    obtain ⟨p', ys, rfl, hp', hy⟩ := den_tup db
    refine .inr (.inl ⟨p, p', xs, ys, rfl, rfl, hp, hp', by rw [hx.length, hy.length]; exact q.1, fun ex => ?_, fun _ ey => ?_, fun _ _ => new_tup r (hx.append hy) q.2⟩)
    · subst ex; cases hx
      exact q.2 ι H _ Kp.refl r (.tup hp' hy)
    · subst ey; cases hy
      rw [List.append_nil] at q
      exact q.2 ι H _ Kp.refl r (.tup hp hx)
  · split at q
    · rename_i h1 h2
      obtain ⟨p, xs, rfl, _, hp, hx, _⟩ := r.hp.list da h1
      obtain ⟨p', ys, rfl, _, hp', hy, _⟩ := r.hp.list db h2
      exact .inr (.inr ⟨p, p', xs, ys, rfl, rfl, hp, hp', by rw [hx.length, hy.length]; exact q.1, new_lst r (hx.append hy) q.2⟩)
    · exact q.elim
  · exact q.elim
theorem od_sub : OpD K subF (rI0 fun i j => .int (i - j)) := by
  intro z ι h e H σ x y a b Q r da db q
  unfold subF at q
  split at q
  · have := den_int da; have := den_int db; subst_vars
    exact ⟨_, _, rfl, rfl, q ι H _ Kp.refl r (.int _)⟩
  · exact q.elim
theorem op_mulK : OpR X (binaryOp .Mult) (rI MulOk fun i j => .int (i * j)) := opI fun _ _ _ _ _ _ _ hc q => mul_int q hc
def rMulA : R2 := fun x y H Q => (rI MulOk fun i j => .int (i * j)) x y H Q ∨ rRep x y H Q
theorem op_mulA : OpR X (binaryOp .Mult) rMulA := OpR.or op_mulK op_rep
theorem Dens.rep {vs : List V} {ds : List D} (q : Dens K z ι H vs ds) : ∀ k : Nat, Dens K z ι H (List.replicate k vs).flatten (List.replicate k ds).flatten
  | 0 => .nil
  | k + 1 => by rw [List.replicate_succ, List.replicate_succ, List.flatten_cons, List.flatten_cons]; exact q.append (Dens.rep q k)
theorem od_mul : OpD K mulF rMulA := by
  intro z ι h e H σ x y a b Q r da db q
  unfold mulF at q
  split at q
  · have := den_int da; have := den_int db; subst_vars
    exact .inl ⟨_, _, rfl, rfl, q.1, q.2 ι H _ Kp.refl r (.int _)⟩
  · split at q
    · rename_i h1
      obtain ⟨p, xs, rfl, _, hp, hx, _⟩ := r.hp.list da h1
      have := den_int db; subst_vars
      obtain ⟨⟨c1, c2, c3⟩, q⟩ := q
      exact .inr ⟨p, _, xs, rfl, rfl, hp, c1, c2, by rw [hx.length]; exact c3, new_lst r (hx.rep _) q⟩
    · exact q.elim
  · exact q.elim
theorem op_fdivK : OpR X (binaryOp .FloorDiv) (rI DivOk fun i j => .int (i.fdiv j)) := opI fun _ _ _ _ _ _ _ hc q => floordiv_int hc.1 q (.inl hc.2)
theorem od_fdiv : OpD K fdivF (rI DivOk fun i j => .int (i.fdiv j)) := by
  intro z ι h e H σ x y a b Q r da db q
  unfold fdivF at q
  split at q
  · have := den_int da; have := den_int db; subst_vars
    exact ⟨_, _, rfl, rfl, q.1, q.2 ι H _ Kp.refl r (.int _)⟩
  · exact q.elim
theorem od_mod : OpD K modF (rI (fun _ j => j ≠ 0) fun i j => .int (i.fmod j)) := by
  intro z ι h e H σ x y a b Q r da db q
  unfold modF at q
  split at q
  · have := den_int da; have := den_int db; subst_vars
    exact ⟨_, _, rfl, rfl, q.1, q.2 ι H _ Kp.refl r (.int _)⟩
  · exact q.elim
theorem od_pow : OpD K powF (rI CPow fun i j => .int (i ^ j.toNat)) := by
  intro z ι h e H σ x y a b Q r da db q
  unfold powF at q
  split at q
  · have := den_int da; have := den_int db; subst_vars
    exact ⟨_, _, rfl, rfl, q.1, q.2 ι H _ Kp.refl r (.int _)⟩
  · exact q.elim
theorem ud_neg : UnD K negF (rU fun i => .int (-i)) := by
  intro z ι h e H σ x a Q r da q
  unfold negF at q
  split at q
  · have := den_int da; subst_vars
    exact ⟨_, rfl, q ι H _ Kp.refl r (.int _)⟩
  · exact q.elim
end
section
variable {X : Cx} {z : Zs} {W : WX} {a b : Expr} {ta tb : dE} {pos : Pos}
theorem de_add (ha : DE X z W a ta) (hb : DE X z W b tb) : DE X z W (.BinOp a .Add b pos) (dOp addF ta tb) := de_bin op_addA od_add ha hb
theorem de_minus (ha : DE X z W a ta) (hb : DE X z W b tb) : DE X z W (.BinOp a .Sub b pos) (dOp subF ta tb) := de_bin op_sub od_sub ha hb
theorem de_mul (ha : DE X z W a ta) (hb : DE X z W b tb) : DE X z W (.BinOp a .Mult b pos) (dOp mulF ta tb) := de_bin op_mulA od_mul ha hb
theorem de_fdiv (ha : DE X z W a ta) (hb : DE X z W b tb) : DE X z W (.BinOp a .FloorDiv b pos) (dOp fdivF ta tb) := de_bin op_fdivK od_fdiv ha hb
theorem de_mod (ha : DE X z W a ta) (hb : DE X z W b tb) : DE X z W (.BinOp a .Mod b pos) (dOp modF ta tb) := de_bin op_modN od_mod ha hb
theorem de_pow (ha : DE X z W a ta) (hb : DE X z W b tb) : DE X z W (.BinOp a .Pow b pos) (dOp powF ta tb) := de_bin op_pow od_pow ha hb
theorem de_neg (ha : DE X z W a ta) : DE X z W (.UnaryOp .USub a pos) (dUn negF ta) := de_un un_neg ud_neg ha
end
end Dn


namespace Dn
open PySem PySem.Spec PyProof.Rows L2

/-! ### data as PyData -/
mutual
def D.py : D → Option PyData
  | .non => some .none
  | .bl b => some (.bool b)
  | .int i => some (.int i)
  | .str x => some (.str x)
  | .tup ds => (D.pys ds).map .tuple
  | .lst ds => (D.pys ds).map .list
  | .ref _ => none
  | .adr _ => none
  | .box _ _ => none
def D.pys : List D → Option (List PyData)
  | [] => some []
  | d :: ds => (D.py d).bind fun a => (D.pys ds).map fun r => a :: r
end
/-- what stands there, a list of plain data too -/
def pyOf (h : Hh) : D → Option PyData
  | .ref n => match h[n]? with
    | some (.lst ds) => (D.pys ds).map .list
    | _ => none
  | d => D.py d
mutual
theorem den_py {K : PySem.W.Frag} {z : Zs} {ι : List Addr} {h : Hh} {H : Hp} (r : RH K z ι h H) : ∀ (d : D) (v : V) (a : PyData), D.py d = some a → Den K z ι H v d → Dp K H v a
  | .non, _, _, e, q => by
    unfold D.py at e; injection e with e; subst e; cases q; exact .non
  | .bl b, _, _, e, q => by
    unfold D.py at e; injection e with e; subst e; cases q; exact .bl b
  | .int b, _, _, e, q => by
    unfold D.py at e; injection e with e; subst e; cases q; exact .int b
  | .str b, _, _, e, q => by
    unfold D.py at e; injection e with e; subst e; cases q; exact .str b
  | .tup ds, _, _, e, q => by
    unfold D.py at e
    cases eq : D.pys ds with
    | none => rw [eq] at e; cases e
    | some as =>
      rw [eq] at e; injection e with e; subst e
      obtain ⟨p, xs, rfl, hp, hx⟩ := den_tup q
      exact .tup hp (dens_py r ds xs as eq hx)
  | .lst ds, _, _, e, q => by
    unfold D.py at e
    cases eq : D.pys ds with
    | none => rw [eq] at e; cases e
    | some as =>
      rw [eq] at e; injection e with e; subst e
      obtain ⟨p, xs, rfl, hp, hx⟩ := den_lst r q
      exact .lst hp (dens_py r ds xs as eq hx)
  | .ref n, _, _, e, q => by
    unfold D.py at e; cases e
  | .adr n, _, _, e, q => by
    unfold D.py at e; cases e
  | .box _ _, _, _, e, q => by
    unfold D.py at e; cases e
theorem dens_py {K : PySem.W.Frag} {z : Zs} {ι : List Addr} {h : Hh} {H : Hp} (r : RH K z ι h H) : ∀ (ds : List D) (vs : List V) (as : List PyData), D.pys ds = some as → Dens K z ι H vs ds → DpAll K H vs as
  | [], _, _, e, q => by
    unfold D.pys at e; injection e with e; subst e; cases q; exact .nil
  | d :: ds, _, _, e, q => by
    unfold D.pys at e
    cases e1 : D.py d with
    | none => rw [e1] at e; cases e
    | some a =>
      rw [e1, Option.bind_some] at e
      cases e2 : D.pys ds with
      | none => rw [e2] at e; cases e
      | some as =>
        rw [e2] at e; injection e with e; subst e
        cases q with
        | cons h1 h2 => exact .cons (den_py r d _ a e1 h1) (dens_py r ds _ as e2 h2)
end
theorem den_pyOf {K : PySem.W.Frag} {z : Zs} {ι : List Addr} {h : Hh} {H : Hp} (r : RH K z ι h H) {d : D} {v : V} {a : PyData} (e : pyOf h d = some a) (q : Den K z ι H v d) : Dp K H v a := by
  cases d with
  | ref n =>
    unfold pyOf at e
    dsimp only at e
    split at e
    · rename_i ds hn
      cases eq : D.pys ds with
      | none => rw [eq] at e; cases e
      | some as =>
        rw [eq] at e; injection e with e; subst e
        obtain ⟨p, xs, rfl, _, hp, hx, _⟩ := r.list q hn
        exact .lst (.inl (.inl hp)) (dens_py r ds xs as eq hx)
    · cases e
  | _ => exact den_py r _ v a e q

/-! ### comparisons -/
def eqF : D → D → Hh → Rs
  | .int i, .int j, h => .ok (.bl (decide (i = j))) h
  | .str i, .str j, h => .ok (.bl (decide (i = j))) h
  | .bl i, .bl j, h => .ok (.bl (decide (i = j))) h
  | .non, .non, h => .ok (.bl true) h
  | x, y, h => match pyOf h x, pyOf h y with
    | some a, some b => .cond (SeqAt.shaped a = true ∧ SeqAt.shaped b = true) (.bl (PyData.eqv a b)) h
    | _, _ => .no
def neF : D → D → Hh → Rs
  | .int i, .int j, h => .ok (.bl (!decide (i = j))) h
  | .str i, .str j, h => .ok (.bl (!decide (i = j))) h
  | .bl i, .bl j, h => .ok (.bl (!decide (i = j))) h
  | .non, .non, h => .ok (.bl false) h
  | x, y, h => match pyOf h x, pyOf h y with
    | some a, some b => .cond (SeqAt.shaped a = true ∧ SeqAt.shaped b = true) (.bl (!PyData.eqv a b)) h
    | _, _ => .no
def ltF : D → D → Hh → Rs
  | .int i, .int j, h => .ok (.bl (decide (i < j))) h
  | _, _, _ => .no
def leF : D → D → Hh → Rs
  | .int i, .int j, h => .ok (.bl (decide (i ≤ j))) h
  | _, _, _ => .no
def gtF : D → D → Hh → Rs
  | .int i, .int j, h => .ok (.bl (decide (j < i))) h
  | _, _, _ => .no
def geF : D → D → Hh → Rs
  | .int i, .int j, h => .ok (.bl (decide (j ≤ i))) h
  | _, _, _ => .no
def D.isNon : D → Bool
  | .non => true
  | _ => false
def isF : D → D → Hh → Rs
  | x, .non, h => .ok (.bl x.isNon) h
  | _, _, _ => .no
def notF : D → D → Hh → Rs
  | x, .non, h => .ok (.bl (!x.isNon)) h
  | _, _, _ => .no
section
variable {X : Cx} {K : PySem.W.Frag} {z : Zs} {ι : List Addr} {h : Hh} {e : En} {H : Hp} {σ : L2.St} {Q : VK}
def rEqA (K : PySem.W.Frag) : R2 := fun x y H Q => rEq x y H Q ∨ rEqD K x y H Q
def rNeA (K : PySem.W.Frag) : R2 := fun x y H Q => rNe x y H Q ∨ rNeD K x y H Q
theorem op_eqA (hu : X.A.units + 64 < cLine) : OpR X (compareOp .Eq) (rEqA X.K) := OpR.or op_eq (op_eqD hu)
theorem op_neA (hu : X.A.units + 64 < cLine) : OpR X (compareOp .NotEq) (rNeA X.K) := OpR.or op_ne (op_neD hu)
theorem bl_is {x y : Bool} {Q : VK} {H : Hp} (e : x = y) (q : Q (.bl x) H) : Q (.bl y) H := e ▸ q
theorem od_eq : OpD K eqF (rEqA K) := by
  intro z ι h e H σ x y a b Q r da db q
  unfold eqF at q
  split at q
  · have := den_int da; have := den_int db; subst_vars
    refine .inl ⟨rfl, bl_is ?_ (q ι H _ Kp.refl r (.bl _))⟩
    simp
  · have := den_str da; have := den_str db; subst_vars
    refine .inl ⟨rfl, bl_is ?_ (q ι H _ Kp.refl r (.bl _))⟩
    simp
  · have := den_bl da; have := den_bl db; subst_vars
    refine .inl ⟨rfl, bl_is ?_ (q ι H _ Kp.refl r (.bl _))⟩
    simp
  · have := den_non da; have := den_non db; subst_vars
    refine .inl ⟨rfl, bl_is ?_ (q ι H _ Kp.refl r (.bl _))⟩
    simp
  · split at q
    · rename_i pa pb e1 e2
      obtain ⟨⟨s1, s2⟩, q⟩ := q
      exact .inr ⟨pa, pb, den_pyOf r.hp e1 da, den_pyOf r.hp e2 db, s1, s2, q ι H _ Kp.refl r (.bl _)⟩
    · exact q.elim
theorem od_ne : OpD K neF (rNeA K) := by
  intro z ι h e H σ x y a b Q r da db q
  unfold neF at q
  split at q
  · have := den_int da; have := den_int db; subst_vars
    refine .inl ⟨rfl, bl_is ?_ (q ι H _ Kp.refl r (.bl _))⟩
    simp
  · have := den_str da; have := den_str db; subst_vars
    refine .inl ⟨rfl, bl_is ?_ (q ι H _ Kp.refl r (.bl _))⟩
    simp
  · have := den_bl da; have := den_bl db; subst_vars
    refine .inl ⟨rfl, bl_is ?_ (q ι H _ Kp.refl r (.bl _))⟩
    simp
  · have := den_non da; have := den_non db; subst_vars
    refine .inl ⟨rfl, bl_is ?_ (q ι H _ Kp.refl r (.bl _))⟩
    simp
  · split at q
    · rename_i pa pb e1 e2
      obtain ⟨⟨s1, s2⟩, q⟩ := q
      exact .inr ⟨pa, pb, den_pyOf r.hp e1 da, den_pyOf r.hp e2 db, s1, s2, q ι H _ Kp.refl r (.bl _)⟩
    · exact q.elim
theorem od_int2 {f : D → D → Hh → Rs} {g : Int → Int → Bool} (hf : ∀ a b h Q, (f a b h).to Q → ∃ i j, a = .int i ∧ b = .int j ∧ Q (.bl (g i j)) h) : OpD K f (rI0 fun i j => .bl (g i j)) := by
  intro z ι h e H σ x y a b Q r da db q
  obtain ⟨i, j, ea, eb, w⟩ := hf _ _ _ _ q
  subst ea; subst eb
  rw [den_int da, den_int db]
  exact ⟨_, _, rfl, rfl, w ι H _ Kp.refl r (.bl _)⟩
theorem od_lt : OpD K ltF (rI0 fun i j => .bl (decide (i < j))) := od_int2 fun a b h Q q => by
  unfold ltF at q; split at q
  · exact ⟨_, _, rfl, rfl, q⟩
  · exact q.elim
theorem od_le : OpD K leF (rI0 fun i j => .bl (decide (i ≤ j))) := od_int2 fun a b h Q q => by
  unfold leF at q; split at q
  · exact ⟨_, _, rfl, rfl, q⟩
  · exact q.elim
theorem od_gt : OpD K gtF (rI0 fun i j => .bl (decide (j < i))) := od_int2 fun a b h Q q => by
  unfold gtF at q; split at q
  · exact ⟨_, _, rfl, rfl, q⟩
  · exact q.elim
theorem od_ge : OpD K geF (rI0 fun i j => .bl (decide (j ≤ i))) := od_int2 fun a b h Q q => by
  unfold geF at q; split at q
  · exact ⟨_, _, rfl, rfl, q⟩
  · exact q.elim
theorem den_isNon {x : V} {a : D} (q : Den K z ι H x a) : decide (x = .non) = a.isNon := by
  cases q <;> rfl
theorem od_is : OpD K isF (fun x y H Q => y = .non ∧ Q (.bl (decide (x = .non))) H) := by
  intro z ι h e H σ x y a b Q r da db q
  unfold isF at q
  split at q
  · have := den_non db; subst_vars
    exact ⟨rfl, bl_is (den_isNon da).symm (q ι H _ Kp.refl r (.bl _))⟩
  · exact q.elim
theorem od_isnot : OpD K notF (fun x y H Q => y = .non ∧ Q (.bl (!decide (x = .non))) H) := by
  intro z ι h e H σ x y a b Q r da db q
  unfold notF at q
  split at q
  · have := den_non db; subst_vars
    exact ⟨rfl, bl_is (congrArg not (den_isNon da).symm) (q ι H _ Kp.refl r (.bl _))⟩
  · exact q.elim
end
section
variable {X : Cx} {z : Zs} {W : WX} {a b : Expr} {ta tb : dE} {pos : Pos}
theorem de_eq (hu : X.A.units + 64 < cLine) (ha : DE X z W a ta) (hb : DE X z W b tb) : DE X z W (.Compare a [.Eq] [b] pos) (dOp eqF ta tb) := de_cmp (op_eqA hu) od_eq ha hb (nomark _)
theorem de_ne (hu : X.A.units + 64 < cLine) (ha : DE X z W a ta) (hb : DE X z W b tb) : DE X z W (.Compare a [.NotEq] [b] pos) (dOp neF ta tb) := de_cmp (op_neA hu) od_ne ha hb (nomark _)
theorem de_lt (ha : DE X z W a ta) (hb : DE X z W b tb) : DE X z W (.Compare a [.Lt] [b] pos) (dOp ltF ta tb) := de_cmp op_lt od_lt ha hb (nomark _)
theorem de_le (ha : DE X z W a ta) (hb : DE X z W b tb) : DE X z W (.Compare a [.LtE] [b] pos) (dOp leF ta tb) := de_cmp op_le od_le ha hb (nomark _)
theorem de_gt (ha : DE X z W a ta) (hb : DE X z W b tb) : DE X z W (.Compare a [.Gt] [b] pos) (dOp gtF ta tb) := de_cmp op_gt od_gt ha hb (nomark _)
theorem de_ge (ha : DE X z W a ta) (hb : DE X z W b tb) : DE X z W (.Compare a [.GtE] [b] pos) (dOp geF ta tb) := de_cmp op_ge od_ge ha hb (nomark _)
theorem de_is (ha : DE X z W a ta) (hb : DE X z W b tb) : DE X z W (.Compare a [.Is] [b] pos) (dOp isF ta tb) := de_cmp op_isN od_is ha hb (nomark _)
theorem de_isnot (ha : DE X z W a ta) (hb : DE X z W b tb) : DE X z W (.Compare a [.IsNot] [b] pos) (dOp notF ta tb) := de_cmp op_notN od_isnot ha hb (nomark _)
end

/-! ### and, or, not, if .. else, as values (bools) and as tests -/
def dAnd (ta tb : dE) : dE := fun e h Q E => ta e h (fun x h1 => match x with
  | .bl true => tb e h1 Q E
  | .bl false => Q (.bl false) h1
  | _ => False) E
def dOr (ta tb : dE) : dE := fun e h Q E => ta e h (fun x h1 => match x with
  | .bl false => tb e h1 Q E
  | .bl true => Q (.bl true) h1
  | _ => False) E
def dNot (ta : dE) : dE := fun e h Q E => ta e h (fun x h1 => match x with
  | .bl b => Q (.bl (!b)) h1
  | _ => False) E
def dtB (t : dE) : dT := fun e h Q E => t e h (fun x h1 => match x with
  | .bl b => Q b h1
  | _ => False) E
def dtAnd (ta tb : dT) : dT := fun e h Q E => ta e h (fun b h1 => match b with
  | true => tb e h1 Q E
  | false => Q false h1) E
def dtOr (ta tb : dT) : dT := fun e h Q E => ta e h (fun b h1 => match b with
  | false => tb e h1 Q E
  | true => Q true h1) E
def dtNot (ta : dT) : dT := fun e h Q E => ta e h (fun b h1 => Q (!b) h1) E
def dIf (c : dT) (ta tb : dE) : dE := fun e h Q E => c e h (fun b h1 => match b with
  | true => ta e h1 Q E
  | false => tb e h1 Q E) E
/-- a test that is known of plain data: xs, not empty .. -/
def truF : D → Hh → Option Bool
  | .non, _ => some false
  | .bl b, _ => some b
  | .int i, _ => some (i != 0)
  | .tup ds, _ => some (!ds.isEmpty)
  | .lst ds, _ => some (!ds.isEmpty)
  | .ref n, h => match h[n]? with
    | some (.lst ds) => some (!ds.isEmpty)
    | none => none
  | .str _, _ => none
  | .adr _, _ => none
  | .box _ _, _ => none
def dtTru (t : dE) : dT := fun e h Q E => t e h (fun x h1 => match truF x h1 with
  | some b => Q b h1
  | none => False) E
section
theorem mono_andV {ta tb : dE} (ma : Mono ta) (mb : Mono tb) : Mono (dAnd ta tb) := fun e h Q Q' E E' hQ hE q => ma e h _ _ _ _ (fun x h1 q1 => by
  split at q1
  · exact mb e h1 _ _ _ _ hQ hE q1
  · exact hQ _ _ q1
  · exact q1.elim) hE q
theorem mono_orV {ta tb : dE} (ma : Mono ta) (mb : Mono tb) : Mono (dOr ta tb) := fun e h Q Q' E E' hQ hE q => ma e h _ _ _ _ (fun x h1 q1 => by
  split at q1
  · exact mb e h1 _ _ _ _ hQ hE q1
  · exact hQ _ _ q1
  · exact q1.elim) hE q
theorem mono_notV {ta : dE} (ma : Mono ta) : Mono (dNot ta) := fun e h Q Q' E E' hQ hE q => ma e h _ _ _ _ (fun x h1 q1 => by
  split at q1
  · exact hQ _ _ q1
  · exact q1.elim) hE q
theorem mono_tB {ta : dE} (ma : Mono ta) : Mono (dtB ta) := fun e h Q Q' E E' hQ hE q => ma e h _ _ _ _ (fun x h1 q1 => by
  split at q1
  · exact hQ _ _ q1
  · exact q1.elim) hE q
theorem mono_tTru {ta : dE} (ma : Mono ta) : Mono (dtTru ta) := fun e h Q Q' E E' hQ hE q => ma e h _ _ _ _ (fun x h1 q1 => by
  split at q1
  · exact hQ _ _ q1
  · exact q1.elim) hE q
theorem mono_tAnd {ta tb : dT} (ma : Mono ta) (mb : Mono tb) : Mono (dtAnd ta tb) := fun e h Q Q' E E' hQ hE q => ma e h _ _ _ _ (fun x h1 q1 => by
  cases x with
  | true => exact mb e h1 _ _ _ _ hQ hE q1
  | false => exact hQ _ _ q1) hE q
theorem mono_tOr {ta tb : dT} (ma : Mono ta) (mb : Mono tb) : Mono (dtOr ta tb) := fun e h Q Q' E E' hQ hE q => ma e h _ _ _ _ (fun x h1 q1 => by
  cases x with
  | false => exact mb e h1 _ _ _ _ hQ hE q1
  | true => exact hQ _ _ q1) hE q
theorem mono_tNot {ta : dT} (ma : Mono ta) : Mono (dtNot ta) := fun e h Q Q' E E' hQ hE q => ma e h _ _ _ _ (fun x h1 q1 => hQ _ _ q1) hE q
theorem mono_if {c : dT} {ta tb : dE} (mc : Mono c) (ma : Mono ta) (mb : Mono tb) : Mono (dIf c ta tb) := fun e h Q Q' E E' hQ hE q => mc e h _ _ _ _ (fun x h1 q1 => by
  cases x with
  | true => exact ma e h1 _ _ _ _ hQ hE q1
  | false => exact mb e h1 _ _ _ _ hQ hE q1) hE q
end
structure DW (X : Cx) (z : Zs) (W : WX) (a : Expr) (t : dT) : Prop where
  run : PW X a (liftT X.K X.mg z W t)
  mono : Mono t
section
variable {X : Cx} {z : Zs} {W : WX} {a b c : Expr} {rest : List Expr} {ta tb : dE} {tc td : dT} {pos : Pos}
theorem de_one {op} (h : DE X z W a ta) : DE X z W (.BoolOp op [a] pos) ta := ⟨pe_one h.run, h.mono⟩
theorem de_and (ha : DE X z W a ta) (hb : DE X z W (.BoolOp .And (b :: rest) pos) tb) : DE X z W (.BoolOp .And (a :: b :: rest) pos) (dAnd ta tb) := by
  refine ⟨pe_imp (pe_and ha.run hb.run) fun σ H Q ⟨ι, h, e, r, q⟩ => lift_of ha.mono r q (fun x h1 ι1 H1 v q1 k1 r1 d1 => ?_) fun _ _ q => q, mono_andV ha.mono hb.mono⟩
  split at q1
  · rw [den_bl d1]
    exact ⟨true, rfl, iteT (lift_of hb.mono r1 q1 (fun y h2 ι2 H2 u q2 k2 r2 d2 => q2 ι2 H2 u (k1.trans k2) r2 d2) fun _ _ q => q.shift k1)⟩
  · rw [den_bl d1]
    exact ⟨false, rfl, iteF (q1 ι1 H1 _ k1 r1 (.bl _))⟩
  · exact q1.elim
theorem de_or (ha : DE X z W a ta) (hb : DE X z W (.BoolOp .Or (b :: rest) pos) tb) : DE X z W (.BoolOp .Or (a :: b :: rest) pos) (dOr ta tb) := by
  refine ⟨pe_imp (pe_or ha.run hb.run) fun σ H Q ⟨ι, h, e, r, q⟩ => lift_of ha.mono r q (fun x h1 ι1 H1 v q1 k1 r1 d1 => ?_) fun _ _ q => q, mono_orV ha.mono hb.mono⟩
  split at q1
  · rw [den_bl d1]
    exact ⟨false, rfl, iteF (lift_of hb.mono r1 q1 (fun y h2 ι2 H2 u q2 k2 r2 d2 => q2 ι2 H2 u (k1.trans k2) r2 d2) fun _ _ q => q.shift k1)⟩
  · rw [den_bl d1]
    exact ⟨true, rfl, iteT (q1 ι1 H1 _ k1 r1 (.bl _))⟩
  · exact q1.elim
theorem de_not (ha : DE X z W a ta) : DE X z W (.UnaryOp .Not a pos) (dNot ta) := by
  refine ⟨pe_imp (pe_not ha.run) fun σ H Q ⟨ι, h, e, r, q⟩ => lift_of ha.mono r q (fun x h1 ι1 H1 v q1 k1 r1 d1 => ?_) fun _ _ q => q, mono_notV ha.mono⟩
  split at q1
  · rw [den_bl d1]
    exact ⟨_, rfl, q1 ι1 H1 _ k1 r1 (.bl _)⟩
  · exact q1.elim
theorem tB_read (ha : DE X z W a ta) {σ : L2.St} {H : Hp} {Q : Bool → Hp → Prop} (hh : liftT X.K X.mg z W (dtB ta) σ H Q) : lift X.K X.mg z W ta σ H fun x H' => ∃ k, x = .bl k ∧ Q k H' := by
  obtain ⟨ι, h, e, r, q⟩ := hh
  refine lift_of ha.mono r q (fun x h1 ι1 H1 v q1 k1 r1 d1 => ?_) fun _ _ q => q
  split at q1
  · rw [den_bl d1]
    exact ⟨_, rfl, q1 ι1 H1 k1 r1⟩
  · exact q1.elim
/-- an expression that gives a bool, as a test -/
theorem dt_val (ha : DE X z W a ta) (he : ∀ whole, isTrue a X.env whole = (do let v ← whole; standAt a.pos; holding [v] (truthy v))) : DT X z W a (dtB ta) := ⟨pt_imp (pt_val ha.run he) fun _ _ _ hh => tB_read ha hh, mono_tB ha.mono⟩
/-- a comparison as a test -/
theorem dt_cmp {op : CmpOp} {f : D → D → Hh → Rs} {rr : R2} (hr : OpR X (compareOp op) rr) (ho : OpD X.K f rr) (ha : DE X z W a ta) (hb : DE X z W b tb) (hm : behindInMarks op b = false) : DT X z W (.Compare a [op] [b] pos) (dtB (dOp f ta tb)) := by
  refine ⟨pt_imp (pt_cmpR hr ha.run hb.run hm) fun σ H Q hh => ?_, mono_tB (mono_op ha.mono hb.mono)⟩
  obtain ⟨ι, h, e, r, q⟩ := hh
  refine op_read (X := X) (z := z) (W := W) ho ha hb ⟨ι, h, e, r, ?_⟩
  refine (mono_op ha.mono hb.mono) e h _ _ _ _ (fun x h1 q1 ι' H' v k r' dn => ?_) (fun _ _ q => q) q
  split at q1
  · rw [den_bl dn]
    exact ⟨_, rfl, q1 ι' H' k r'⟩
  · exact q1.elim
theorem dt_tru (ha : DE X z W a ta) (he : ∀ whole, isTrue a X.env whole = (do let v ← whole; standAt a.pos; holding [v] (truthy v))) : DT X z W a (dtTru ta) := by
  refine ⟨pt_imp (pt_truth ha.run he) fun σ H Q ⟨ι, h, e, r, q⟩ => lift_of ha.mono r q (fun x h1 ι1 H1 v q1 k1 r1 d1 => ?_) fun _ _ q => q, mono_tTru ha.mono⟩
  split at q1
  · rename_i b hb
    refine ⟨b, ?_, q1 ι1 H1 k1 r1⟩
    cases x with
    | non => injection hb with hb; subst hb; rw [den_non d1]; rfl
    | bl _ => injection hb with hb; subst hb; rw [den_bl d1]; rfl
    | int _ => injection hb with hb; subst hb; rw [den_int d1]; rfl
    | str _ => cases hb
    | adr _ => cases hb
    | box _ _ => cases hb
    | tup ds =>
      injection hb with hb; subst hb
      obtain ⟨p, xs, rfl, hp, hx⟩ := den_tup d1
      refine .inr (.inl ⟨xs, hp, ?_⟩)
      cases hx <;> rfl
    | lst ds =>
      injection hb with hb; subst hb
      obtain ⟨p, xs, rfl, hp, hx⟩ := den_lst r1.hp d1
      refine .inl ⟨xs, hp, ?_⟩
      cases hx <;> rfl
    | ref n =>
      unfold truF at hb
      dsimp only at hb
      split at hb
      · rename_i ds hn
        injection hb with hb; subst hb
        obtain ⟨p, xs, rfl, _, hp, hx, _⟩ := r1.hp.list d1 hn
        refine .inl ⟨xs, .inl (.inl hp), ?_⟩
        cases hx <;> rfl
      · cases hb
  · exact q1.elim
theorem dw_pt (h : DW X z W a tc) : DT X z W a tc := ⟨h.run.pt, h.mono⟩
theorem dw_and1 (ha : DT X z W a tc) : DW X z W (.BoolOp .And [a] pos) tc := ⟨pw_and1 ha.run, ha.mono⟩
theorem dw_or1 (ha : DT X z W a tc) : DW X z W (.BoolOp .Or [a] pos) tc := ⟨pw_or1 ha.run, ha.mono⟩
theorem dw_and (ha : DT X z W a tc) (hb : DW X z W (.BoolOp .And (b :: rest) pos) td) : DW X z W (.BoolOp .And (a :: b :: rest) pos) (dtAnd tc td) := by
  refine ⟨pw_imp (pw_and ha.run hb.run) fun σ H Q ⟨ι, h, e, r, q⟩ => liftT_of ha.mono r q (fun x h1 ι1 H1 q1 k1 r1 => ?_) fun _ _ q => q, mono_tAnd ha.mono hb.mono⟩
  cases x with
  | true => exact iteT (liftT_of hb.mono r1 q1 (fun y h2 ι2 H2 q2 k2 r2 => q2 ι2 H2 (k1.trans k2) r2) fun _ _ q => q.shift k1)
  | false => exact iteF (q1 ι1 H1 k1 r1)
theorem dw_or (ha : DT X z W a tc) (hb : DW X z W (.BoolOp .Or (b :: rest) pos) td) : DW X z W (.BoolOp .Or (a :: b :: rest) pos) (dtOr tc td) := by
  refine ⟨pw_imp (pw_or ha.run hb.run) fun σ H Q ⟨ι, h, e, r, q⟩ => liftT_of ha.mono r q (fun x h1 ι1 H1 q1 k1 r1 => ?_) fun _ _ q => q, mono_tOr ha.mono hb.mono⟩
  cases x with
  | true => exact iteT (q1 ι1 H1 k1 r1)
  | false => exact iteF (liftT_of hb.mono r1 q1 (fun y h2 ι2 H2 q2 k2 r2 => q2 ι2 H2 (k1.trans k2) r2) fun _ _ q => q.shift k1)
theorem dt_not (ha : DT X z W a tc) : DT X z W (.UnaryOp .Not a pos) (dtNot tc) :=
  ⟨pt_imp (pt_not ha.run) fun σ H Q ⟨ι, h, e, r, q⟩ => liftT_of ha.mono r q (fun x h1 ι1 H1 q1 k1 r1 => q1 ι1 H1 k1 r1) fun _ _ q => q, mono_tNot ha.mono⟩
theorem de_if (hc : DT X z W c tc) (ha : DE X z W a ta) (hb : DE X z W b tb) : DE X z W (.IfExp c a b pos) (dIf tc ta tb) := by
  refine ⟨pe_imp (pe_ifExp hc.run ha.run hb.run) fun σ H Q ⟨ι, h, e, r, q⟩ => liftT_of hc.mono r q (fun x h1 ι1 H1 q1 k1 r1 => ?_) fun _ _ q => q, mono_if hc.mono ha.mono hb.mono⟩
  cases x with
  | true => exact iteT (lift_of ha.mono r1 q1 (fun y h2 ι2 H2 u q2 k2 r2 d2 => q2 ι2 H2 u (k1.trans k2) r2 d2) fun _ _ q => q.shift k1)
  | false => exact iteF (lift_of hb.mono r1 q1 (fun y h2 ι2 H2 u q2 k2 r2 d2 => q2 ι2 H2 u (k1.trans k2) r2 d2) fun _ _ q => q.shift k1)
end

/-! ### argument lists, displays -/
def dNil : dA := fun _ h Q _ => Q [] h
def dCons (ta : dE) (tr : dA) : dA := fun e h Q E => ta e h (fun x h1 => tr e h1 (fun xs h2 => Q (x :: xs) h2) E) E
def dTup (t : dA) : dE := fun e h Q E => t e h (fun ds h1 => Q (.tup ds) h1) E
def dLst (t : dA) : dE := fun e h Q E => t e h (fun ds h1 => Q (.ref h1.length) (h1 ++ [.lst ds])) E
/-- a call by values -/
def dCB (f : List D → Hh → Rs) (t : dA) : dE := fun e h Q E => t e h (fun ds h1 => (f ds h1).to Q) E
def CallD (K : PySem.W.Frag) (f : List D → Hh → Rs) (rr : List V → Hp → VK → Prop) : Prop := ∀ (z : Zs) (ι : List Addr) (h : Hh) (e : En) (H : Hp) (σ : L2.St) (xs : List V) (ds : List D) (Q : VK),
  R K z ι h e H σ → Dens K z ι H xs ds → (f ds h).to (PEq K z ι e σ H Q) → rr xs H Q
section
variable {X : Cx} {z : Zs} {W : WX} {a : Expr} {es : List Expr} {ta : dE} {tr : dA} {n : Nat} {pos : Pos}
theorem mono_cons (ma : Mono ta) (mr : Mono tr) : Mono (dCons ta tr) := fun e h _ _ _ _ hQ hE q => ma e h _ _ _ _ (fun _ h1 q1 => mr e h1 _ _ _ _ (fun _ _ q2 => hQ _ _ q2) hE q1) hE q
theorem da_nil : DA X z W [] dNil 0 := ⟨pa_imp pa_nil fun σ H Q ⟨ι, h, e, r, q⟩ => q ι H [] Kp.refl r .nil, fun _ _ _ _ _ _ hQ _ q => hQ _ _ q, fun _ _ _ _ q => ⟨rfl, q⟩⟩
theorem da_cons (ha : DE X z W a ta) (hr : DA X z W es tr n) (hs : starEach (a :: es) X.env = (false, eval a X.env) :: starEach es X.env) : DA X z W (a :: es) (dCons ta tr) (n + 1) := by
  refine ⟨pa_imp (pa_cons ha.run hr.run hs) fun σ H Q ⟨ι, h, e, r, q⟩ => lift_of ha.mono r q (fun x h1 ι1 H1 v q1 k1 r1 d1 => ?_) fun _ _ q => q, mono_cons ha.mono hr.mono, fun e h Q E q => ?_⟩
  · exact liftA_of hr.mono r1 q1 (fun y h2 ι2 H2 u q2 k2 r2 d2 => q2 ι2 H2 _ (k1.trans k2) r2 (.cons (d1.keep k2) d2)) fun _ _ q => q.shift k1
  · exact ha.mono e h _ _ _ _ (fun x h1 q1 => hr.mono e h1 _ _ _ _ (fun y h2 q2 => ⟨by rw [List.length_cons, q2.1], q2.2⟩) (fun _ _ q => q) (hr.len _ _ _ _ q1)) (fun _ _ q => q) q
theorem de_tup {x1} (ht : DA X z W es tr n) (hn : n ≤ sizeLine) : DE X z W (.Tuple es x1 pos) (dTup tr) := by
  refine ⟨pe_imp (pe_tup ht.run) fun σ H Q ⟨ι, h, e, r, q⟩ => liftA_of ht.mono r (ht.len _ _ _ _ q) (fun x h1 ι1 H1 v q1 k1 r1 d1 => ?_) fun _ _ q => q, fun e h _ _ _ _ hQ hE q => ht.mono e h _ _ _ _ (fun _ _ q1 => hQ _ _ q1) hE q⟩
  exact ⟨by rw [d1.length, q1.1]; exact hn, new_tup r1 d1 (q1.2.shift k1)⟩
theorem de_lst (ht : DA X z W es tr n) (hn : n ≤ sizeLine) : DE X z W (.List es pos) (dLst tr) := by
  refine ⟨pe_imp (pe_lst ht.run) fun σ H Q ⟨ι, h, e, r, q⟩ => liftA_of ht.mono r (ht.len _ _ _ _ q) (fun x h1 ι1 H1 v q1 k1 r1 d1 => ?_) fun _ _ q => q, fun e h _ _ _ _ hQ hE q => ht.mono e h _ _ _ _ (fun _ _ q1 => hQ _ _ q1) hE q⟩
  exact ⟨by rw [d1.length, q1.1]; exact hn, new_lst r1 d1 (q1.2.shift k1)⟩
theorem mono_cb {f : List D → Hh → Rs} (mr : Mono tr) : Mono (dCB f tr) := fun e h _ _ _ _ hQ hE q => mr e h _ _ _ _ (fun _ _ q1 => Rs.mono hQ q1) hE q
theorem cb_read {f : List D → Hh → Rs} {rr : List V → Hp → VK → Prop} (ho : CallD X.K f rr) (ht : DA X z W es tr n) {σ : L2.St} {H : Hp} {Q : VK} (hh : lift X.K X.mg z W (dCB f tr) σ H Q) : tCB rr (liftA X.K X.mg z W tr) σ H Q := by
  obtain ⟨ι, h, e, r, q⟩ := hh
  exact liftA_of ht.mono r q (fun x h1 ι1 H1 v q1 k1 r1 d1 => ho z ι1 h1 e H1 σ v x Q r1 d1 (Rs.mono (fun d h' p => PEq.shift k1 p) q1)) fun _ _ q => q
/-- f(e, ..), f a built-in function, a built-in class, a module's built-in -/
theorem de_callB {f : List D → Hh → Rs} {rr : List V → Hp → VK → Prop} {id : String} {x : Str} {p : Pos} (hc : CallR X (.builtin id) rr) (ho : CallD X.K f rr) (hg : Gl X x) (hm : X.mg x = none) (hv : bootBuiltins x = some (.builtin id)) (ht : DA X z W (a :: es) tr n) (hn : x ≠ "__name__") (hdb : (x == ("__debug__" : Str)) = false)
    (he : starEach (a :: es) X.env = (false, eval a X.env) :: starEach es X.env) (hpl : (backTo pos (starEach es X.env)).any (·.1) = false) : DE X z W (.Call (.Name x p) (a :: es) [] pos) (dCB f tr) :=
  ⟨pe_imp (pe_callB hc hg hm hv ht.run hn hdb he hpl) fun _ _ _ hh => cb_read ho ht hh, mono_cb ht.mono⟩
theorem de_callTy {f : List D → Hh → Rs} {rr : List V → Hp → VK → Prop} {T : String} {x : Str} {p : Pos} (hc : CallR X (.type T) rr) (ho : CallD X.K f rr) (hg : Gl X x) (hm : X.mg x = none) (hv : bootBuiltins x = some (.type T)) (ht : DA X z W (a :: es) tr n) (hn : x ≠ "__name__") (hdb : (x == ("__debug__" : Str)) = false)
    (he : starEach (a :: es) X.env = (false, eval a X.env) :: starEach es X.env) (hpl : (backTo pos (starEach es X.env)).any (·.1) = false) : DE X z W (.Call (.Name x p) (a :: es) [] pos) (dCB f tr) :=
  ⟨pe_imp (pe_callTy hc hg hm hv ht.run hn hdb he hpl) fun _ _ _ hh => cb_read ho ht hh, mono_cb ht.mono⟩
theorem de_callF {f : List D → Hh → Rs} {rr : List V → Hp → VK → Prop} {id : String} {x : Str} {p : Pos} (hc : CallR X (.builtin id) rr) (ho : CallD X.K f rr) (hg : Gl X x) (hm : X.mg x = some (.builtin id)) (ht : DA X z W (a :: es) tr n) (hdb : (x == ("__debug__" : Str)) = false)
    (he : starEach (a :: es) X.env = (false, eval a X.env) :: starEach es X.env) (hpl : (backTo pos (starEach es X.env)).any (·.1) = false) : DE X z W (.Call (.Name x p) (a :: es) [] pos) (dCB f tr) :=
  ⟨pe_imp (pe_callBfun hc hg hm ht.run hdb he hpl) fun _ _ _ hh => cb_read ho ht hh, mono_cb ht.mono⟩
end

/-! ### subscripts, slices, len, tuple(), list(), abs, int, gcd .. -/
def seqOf : D → Hh → Option (List D)
  | .tup ds, _ => some ds
  | .lst ds, _ => some ds
  | .ref n, h => match h[n]? with
    | some (.lst ds) => some ds
    | none => none
  | _, _ => none
def ixF : D → D → Hh → Rs
  | .tup ds, .int i, h => .opt (atI ds i) h
  | .lst ds, .int i, h => .opt (atI ds i) h
  | .ref n, .int i, h => match h[n]? with
    | some (.lst ds) => .opt (atI ds i) h
    | none => .no
  | _, _, _ => .no
def cutD (xs : List D) (lo hi : Option Int) : List D := (xs.drop (HT.sIx xs.length 0 lo)).take (HT.sIx xs.length xs.length hi - HT.sIx xs.length 0 lo)
def lenF : List D → Hh → Rs
  | [.tup ds], h => .ok (.int ds.length) h
  | [.lst ds], h => .ok (.int ds.length) h
  | [.ref n], h => match h[n]? with
    | some (.lst ds) => .ok (.int ds.length) h
    | none => .no
  | _, _ => .no
def tupF : List D → Hh → Rs
  | [.tup ds], h => .ok (.tup ds) h
  | [.lst ds], h => .ok (.tup ds) h
  | [.ref n], h => match h[n]? with
    | some (.lst ds) => .ok (.tup ds) h
    | none => .no
  | _, _ => .no
def lstF : List D → Hh → Rs
  | [.tup ds], h => .ok (.ref h.length) (h ++ [.lst ds])
  | [.lst ds], h => .ok (.ref h.length) (h ++ [.lst ds])
  | [.ref n], h => match h[n]? with
    | some (.lst ds) => .ok (.ref h.length) (h ++ [.lst ds])
    | none => .no
  | _, _ => .no
def absF : List D → Hh → Rs
  | [.int i], h => .ok (.int (if i < 0 then -i else i)) h
  | _, _ => .no
def intF : List D → Hh → Rs
  | [.int i], h => .ok (.int i) h
  | [.bl b], h => .ok (.int (if b then 1 else 0)) h
  | _, _ => .no
def gcdF : List D → Hh → Rs
  | [.int a, .int b], h => .ok (.int ((Nat.gcd a.natAbs b.natAbs : Nat) : Int)) h
  | _, _ => .no
def maxF : List D → Hh → Rs
  | [.int a, .int b], h => .ok (.int (if b > a then b else a)) h
  | _, _ => .no
def minF : List D → Hh → Rs
  | [.int a, .int b], h => .ok (.int (if b < a then b else a)) h
  | _, _ => .no
section
variable {X : Cx} {K : PySem.W.Frag} {z : Zs} {ι : List Addr} {h : Hh} {e : En} {H : Hp} {σ : L2.St} {Q : VK}
theorem Dens.atI {vs : List V} {ds : List D} {i : Int} {d : D} (q : Dens K z ι H vs ds) (e : L2.atI ds i = some d) : ∃ v, L2.atI vs i = some v ∧ Den K z ι H v d := by
  unfold L2.atI at e ⊢
  rw [q.length]
  cases ej : ixN ds.length i with
  | none => rw [ej] at e; cases e
  | some j =>
    rw [ej] at e
    exact q.get e
theorem Dens.cut {vs : List V} {ds : List D} {lo hi : Option Int} (q : Dens K z ι H vs ds) : Dens K z ι H (cutV vs lo hi) (cutD ds lo hi) := by
  unfold cutV cutD
  rw [q.length]
  exact (q.drop _).take _
theorem dens1 {xs : List V} {d : D} (q : Dens K z ι H xs [d]) : ∃ v, xs = [v] ∧ Den K z ι H v d := by
  cases q with
  | cons a b => cases b; exact ⟨_, rfl, a⟩
theorem dens2 {xs : List V} {d d2 : D} (q : Dens K z ι H xs [d, d2]) : ∃ v u, xs = [v, u] ∧ Den K z ι H v d ∧ Den K z ι H u d2 := by
  cases q with
  | cons a b => cases b with
    | cons b c => cases c; exact ⟨_, _, rfl, a, b⟩
theorem od_ix : OpD K ixF (rIx K) := by
  intro z ι h e H σ x y a b Q r da db q
  unfold ixF at q
  split at q
  · have := den_int db; subst_vars
    obtain ⟨p, xs, rfl, hp, hx⟩ := den_tup da
    obtain ⟨d, hd, q⟩ := q
    obtain ⟨v, h1, h2⟩ := hx.atI hd
    exact .inr (.inl ⟨p, xs, _, v, rfl, rfl, hp, h1, q ι H _ Kp.refl r h2⟩)
  · have := den_int db; subst_vars
    obtain ⟨p, xs, rfl, hp, hx⟩ := den_lst r.hp da
    obtain ⟨d, hd, q⟩ := q
    obtain ⟨v, h1, h2⟩ := hx.atI hd
    exact .inl ⟨p, xs, _, v, rfl, rfl, hp, h1, q ι H _ Kp.refl r h2⟩
  · have := den_int db; subst_vars
    split at q
    · rename_i hn
      obtain ⟨p, xs, rfl, _, hp, hx, _⟩ := r.hp.list da hn
      obtain ⟨d, hd, q⟩ := q
      obtain ⟨v, h1, h2⟩ := hx.atI hd
      exact .inl ⟨p, xs, _, v, rfl, rfl, .inl (.inl hp), h1, q ι H _ Kp.refl r h2⟩
    · exact q.elim
  · exact q.elim
theorem cd_len : CallD K lenF (fun xs H Q => ∃ p ys, xs = [.ref p] ∧ (SqL K H p ys ∨ SqT K H p ys) ∧ Q (.int ys.length) H) := by
  intro z ι h e H σ xs ds Q r dn q
  unfold lenF at q
  split at q
  · obtain ⟨v, rfl, dv⟩ := dens1 dn
    obtain ⟨p, ys, rfl, hp, hx⟩ := den_tup dv
    exact ⟨p, ys, rfl, .inr hp, by rw [hx.length]; exact q ι H _ Kp.refl r (.int _)⟩
  · obtain ⟨v, rfl, dv⟩ := dens1 dn
    obtain ⟨p, ys, rfl, hp, hx⟩ := den_lst r.hp dv
    exact ⟨p, ys, rfl, .inl hp, by rw [hx.length]; exact q ι H _ Kp.refl r (.int _)⟩
  · obtain ⟨v, rfl, dv⟩ := dens1 dn
    split at q
    · rename_i hn
      obtain ⟨p, ys, rfl, _, hp, hx, _⟩ := r.hp.list dv hn
      exact ⟨p, ys, rfl, .inl (.inl (.inl hp)), by rw [hx.length]; exact q ι H _ Kp.refl r (.int _)⟩
    · exact q.elim
  · exact q.elim
theorem cd_tup : CallD K tupF (fun xs H Q => ∃ p ys, xs = [.ref p] ∧ ((SqL K H p ys ∧ ∀ l, H l = none → Q (.ref l) (upd H l (.tup ys))) ∨ (SqT K H p ys ∧ Q (.ref p) H))) := by
  intro z ι h e H σ xs ds Q r dn q
  unfold tupF at q
  split at q
  · obtain ⟨v, rfl, dv⟩ := dens1 dn
    obtain ⟨p, ys, rfl, hp, hx⟩ := den_tup dv
    exact ⟨p, ys, rfl, .inr ⟨hp, q ι H _ Kp.refl r (.tup hp hx)⟩⟩
  · obtain ⟨v, rfl, dv⟩ := dens1 dn
    obtain ⟨p, ys, rfl, hp, hx⟩ := den_lst r.hp dv
    exact ⟨p, ys, rfl, .inl ⟨hp, new_tup r hx q⟩⟩
  · obtain ⟨v, rfl, dv⟩ := dens1 dn
    split at q
    · rename_i hn
      obtain ⟨p, ys, rfl, _, hp, hx, _⟩ := r.hp.list dv hn
      exact ⟨p, ys, rfl, .inl ⟨.inl (.inl hp), new_tup r hx q⟩⟩
    · exact q.elim
  · exact q.elim
theorem cd_lst : CallD K lstF (fun xs H Q => ∃ p ys, xs = [.ref p] ∧ (SqL K H p ys ∨ SqT K H p ys) ∧ ∀ l, H l = none → Q (.ref l) (upd H l (.lst ys))) := by
  intro z ι h e H σ xs ds Q r dn q
  unfold lstF at q
  split at q
  · obtain ⟨v, rfl, dv⟩ := dens1 dn
    obtain ⟨p, ys, rfl, hp, hx⟩ := den_tup dv
    exact ⟨p, ys, rfl, .inr hp, new_lst r hx q⟩
  · obtain ⟨v, rfl, dv⟩ := dens1 dn
    obtain ⟨p, ys, rfl, hp, hx⟩ := den_lst r.hp dv
    exact ⟨p, ys, rfl, .inl hp, new_lst r hx q⟩
  · obtain ⟨v, rfl, dv⟩ := dens1 dn
    split at q
    · rename_i hn
      obtain ⟨p, ys, rfl, _, hp, hx, _⟩ := r.hp.list dv hn
      exact ⟨p, ys, rfl, .inl (.inl (.inl hp)), new_lst r hx q⟩
    · exact q.elim
  · exact q.elim
theorem cd_abs : CallD K absF (fun xs H Q => ∃ i, xs = [.int i] ∧ Q (.int (if i < 0 then -i else i)) H) := by
  intro z ι h e H σ xs ds Q r dn q
  unfold absF at q
  split at q
  · obtain ⟨v, rfl, dv⟩ := dens1 dn
    rw [den_int dv]
    exact ⟨_, rfl, q ι H _ Kp.refl r (.int _)⟩
  · exact q.elim
theorem cd_int : CallD K intF (fun xs H Q => (∃ i, xs = [.int i] ∧ Q (.int i) H) ∨ ∃ k, xs = [.bl k] ∧ Q (.int (if k then 1 else 0)) H) := by
  intro z ι h e H σ xs ds Q r dn q
  unfold intF at q
  split at q
  · obtain ⟨v, rfl, dv⟩ := dens1 dn
    rw [den_int dv]
    exact .inl ⟨_, rfl, q ι H _ Kp.refl r (.int _)⟩
  · obtain ⟨v, rfl, dv⟩ := dens1 dn
    rw [den_bl dv]
    exact .inr ⟨_, rfl, q ι H _ Kp.refl r (.int _)⟩
  · exact q.elim
theorem cd_gcd : CallD K gcdF rGcd := by
  intro z ι h e H σ xs ds Q r dn q
  unfold gcdF at q
  split at q
  · obtain ⟨v, u, rfl, dv, du⟩ := dens2 dn
    rw [den_int dv, den_int du]
    exact ⟨_, _, rfl, q ι H _ Kp.refl r (.int _)⟩
  · exact q.elim
theorem cd_max : CallD K maxF (fun xs H Q => ∃ i j, xs = [.int i, .int j] ∧ Q (.int (if j > i then j else i)) H) := by
  intro z ι h e H σ xs ds Q r dn q
  unfold maxF at q
  split at q
  · obtain ⟨v, u, rfl, dv, du⟩ := dens2 dn
    rw [den_int dv, den_int du]
    exact ⟨_, _, rfl, q ι H _ Kp.refl r (.int _)⟩
  · exact q.elim
theorem cd_min : CallD K minF (fun xs H Q => ∃ i j, xs = [.int i, .int j] ∧ Q (.int (if j < i then j else i)) H) := by
  intro z ι h e H σ xs ds Q r dn q
  unfold minF at q
  split at q
  · obtain ⟨v, u, rfl, dv, du⟩ := dens2 dn
    rw [den_int dv, den_int du]
    exact ⟨_, _, rfl, q ι H _ Kp.refl r (.int _)⟩
  · exact q.elim
end
/-- a slice's parts -/
abbrev dO := dG (Option Int)
def dNoPart : dO := fun _ h Q _ => Q none h
def dPart (t : dE) : dO := fun e h Q E => t e h (fun x h1 => match x with
  | .int i => Q (some i) h1
  | _ => False) E
def POq (K : PySem.W.Frag) (z : Zs) (ι : List Addr) (e : En) (σ : L2.St) (H : Hp) (Q : Option Int → Hp → Prop) : Option Int → Hh → Prop := fun b h' => ∀ ι' H', Kp K ι ι' H H' → R K z ι' h' e H' σ → Q b H'
def liftO (K : PySem.W.Frag) (mg : Str → Option Value) (z : Zs) (W : WX) (t : dO) : TO := fun σ H Q => ∃ ι h e, R K z ι h e H σ ∧ t e h (POq K z ι e σ H Q) (PXq K mg z ι e σ H W)
structure DO (X : Cx) (z : Zs) (W : WX) (a : Option Expr) (t : dO) : Prop where
  run : PO X a (liftO X.K X.mg z W t)
  mono : Mono t
theorem po_imp {X : Cx} {a : Option Expr} {t t' : TO} (h : PO X a t) (i : ∀ σ H Q, t' σ H Q → t σ H Q) : PO X a t' := ⟨fun pins s σ H Q I w => h.run pins s σ H Q I (i σ H Q w)⟩
def sliceF (x : D) (lo hi : Option Int) (h : Hh) : Rs := match x with
  | .tup ds => .ok (.tup (cutD ds lo hi)) h
  | .lst ds => .ok (.ref h.length) (h ++ [.lst (cutD ds lo hi)])
  | .ref n => match h[n]? with
    | some (.lst ds) => .ok (.ref h.length) (h ++ [.lst (cutD ds lo hi)])
    | none => .no
  | _ => .no
def dSl (te : dE) (tl th : dO) : dE := fun e h Q E => te e h (fun x h1 => tl e h1 (fun lo h2 => th e h2 (fun hi h3 => (sliceF x lo hi h3).to Q) E) E) E
section
variable {X : Cx} {z : Zs} {W : WX} {a : Expr} {lo hi : Option Expr} {te : dE} {tl th : dO} {pos p2 : Pos}
theorem do_none : DO X z W none dNoPart := ⟨po_imp po_none fun σ H Q ⟨ι, h, e, r, q⟩ => q ι H Kp.refl r, fun _ _ _ _ _ _ hQ _ q => hQ _ _ q⟩
theorem do_some (ha : DE X z W a te) : DO X z W (some a) (dPart te) := by
  refine ⟨po_imp (po_some ha.run) fun σ H Q ⟨ι, h, e, r, q⟩ => lift_of ha.mono r q (fun x h1 ι1 H1 v q1 k1 r1 d1 => ?_) fun _ _ q => q, fun e h Q Q' E E' hQ hE q => ha.mono e h _ _ _ _ (fun x h1 q1 => ?_) hE q⟩
  · split at q1
    · rw [den_int d1]
      exact ⟨_, rfl, q1 ι1 H1 k1 r1⟩
    · exact q1.elim
  · split at q1
    · exact hQ _ _ q1
    · exact q1.elim
def rSlX (K : PySem.W.Frag) : V → Option Int → Option Int → Hp → VK → Prop := fun x lo hi H Q => rSlA K x lo hi H Q ∨ rSlL K x lo hi H Q
theorem cutV_whole {xs : List V} {lo hi : Option Int} (c : HT.sIx xs.length 0 lo = 0 ∧ HT.sIx xs.length xs.length hi = xs.length) : cutV xs lo hi = xs := by
  unfold cutV
  rw [c.1, c.2]
  simp
theorem de_slice (ha : DE X z W a te) (hl : DO X z W lo tl) (hh : DO X z W hi th) : DE X z W (.Subscript a (.Slice lo hi none p2) pos) (dSl te tl th) := by
  refine ⟨pe_imp (pe_slice (SlR.or sl_tupA sl_list : SlR X (rSlX X.K)) ha.run hl.run hh.run) fun σ H Q ⟨ι, h, e, r, q⟩ => ?_, fun e h _ _ _ _ hQ hE q => ?_⟩
  · refine lift_of ha.mono r q (fun x h1 ι1 H1 v q1 k1 r1 d1 => ?_) fun _ _ q => q
    refine ⟨ι1, h1, e, r1, hl.mono _ _ _ _ _ _ (fun l h2 q2 ι2 H2 k2 r2 => ?_) (fun _ _ q => q.shift k1) q1⟩
    refine ⟨ι2, h2, e, r2, hh.mono _ _ _ _ _ _ (fun u h3 q3 ι3 H3 k3 r3 => ?_) (fun _ _ q => q.shift (k1.trans k2)) q2⟩
    have d3 := d1.keep (k2.trans k3)
    have kk := k1.trans (k2.trans k3)
    unfold sliceF at q3
    split at q3
    · obtain ⟨p, xs, rfl, hp, hx⟩ := den_tup d3
      refine .inl ⟨p, xs, rfl, hp, fun c => ?_, fun _ => new_tup r3 hx.cut (PEq.shift kk q3)⟩
      have hc := hx.cut (lo := l) (hi := u)
      rw [cutV_whole c] at hc
      exact q3 ι3 H3 _ kk r3 (.tup hp hc)
    · obtain ⟨p, xs, rfl, hp, hx⟩ := den_lst r3.hp d3
      exact .inr ⟨p, xs, rfl, hp, new_lst r3 hx.cut (PEq.shift kk q3)⟩
    · split at q3
      · rename_i hn
        obtain ⟨p, xs, rfl, _, hp, hx, _⟩ := r3.hp.list d3 hn
        exact .inr ⟨p, xs, rfl, .inl (.inl hp), new_lst r3 hx.cut (PEq.shift kk q3)⟩
      · exact q3.elim
    · exact q3.elim
  · exact ha.mono _ _ _ _ _ _ (fun x h1 q1 => hl.mono _ _ _ _ _ _ (fun l h2 q2 => hh.mono _ _ _ _ _ _ (fun u h3 q3 => Rs.mono hQ q3) hE q2) hE q1) hE q
end
section
variable {X : Cx} {z : Zs} {W : WX} {a b : Expr} {ta tb : dE} {pos : Pos}
theorem de_ix (ha : DE X z W a ta) (hb : DE X z W b tb) (hs : PlainIx b) : DE X z W (.Subscript a b pos) (dOp ixF ta tb) := de_sub ix_seq od_ix ha hb hs
end
end Dn


namespace Dn
open PySem PySem.Spec PyProof.Rows L2

/-! ### what is wanted behind a statement -/
structure Dx where
  nx : En → Hh → Prop
  rt : D → Hh → Prop
  bk : En → Hh → Prop
  ct : En → Hh → Prop
  ex : Ex → En → Hh → Prop
structure Dx.Le (A B : Dx) : Prop where
  nx : ∀ e h, A.nx e h → B.nx e h
  rt : ∀ d h, A.rt d h → B.rt d h
  bk : ∀ e h, A.bk e h → B.bk e h
  ct : ∀ e h, A.ct e h → B.ct e h
  ex : ∀ x e h, A.ex x e h → B.ex x e h
theorem Dx.Le.refl (A : Dx) : Dx.Le A A := ⟨fun _ _ q => q, fun _ _ q => q, fun _ _ q => q, fun _ _ q => q, fun _ _ _ q => q⟩
abbrev dS := Dx → En → Hh → Prop
def MonoS (t : dS) : Prop := ∀ (A B : Dx) e h, Dx.Le A B → t A e h → t B e h
def absD (K : PySem.W.Frag) (mg : Str → Option Value) (z : Zs) (W : WX) (ι : List Addr) (H : Hp) (D' : Ends) : Dx where
  nx := fun e' h' => ∀ ι' H' σ', Kp K ι ι' H H' → R K z ι' h' e' H' σ' → D'.nx σ' H'
  rt := fun d h' => ∀ ι' H' v, Kp K ι ι' H H' → RH K z ι' h' H' → Den K z ι' H' v d → D'.rt v H'
  bk := fun e' h' => ∀ ι' H' σ', Kp K ι ι' H H' → R K z ι' h' e' H' σ' → D'.bk σ' H'
  ct := fun e' h' => ∀ ι' H' σ', Kp K ι ι' H H' → R K z ι' h' e' H' σ' → D'.ct σ' H'
  ex := fun x e' h' => ∀ ι' H' σ' cls dd, Kp K ι ι' H H' → R K z ι' h' e' H' σ' → ExR K mg z ι' H' cls dd x → W cls dd σ' H'
section
variable {K : PySem.W.Frag} {mg : Str → Option Value} {z : Zs} {W : WX} {ι ι' : List Addr} {H H' : Hp}
theorem absD_shift {D' : Ends} (k : Kp K ι ι' H H') : Dx.Le (absD K mg z W ι H D') (absD K mg z W ι' H' D') :=
  ⟨fun _ _ q i2 H2 s2 k2 r => q i2 H2 s2 (k.trans k2) r, fun _ _ q i2 H2 v k2 r dn => q i2 H2 v (k.trans k2) r dn, fun _ _ q i2 H2 s2 k2 r => q i2 H2 s2 (k.trans k2) r, fun _ _ q i2 H2 s2 k2 r => q i2 H2 s2 (k.trans k2) r, fun _ _ _ q i2 H2 s2 c dd k2 r x => q i2 H2 s2 c dd (k.trans k2) r x⟩
end
def liftS (K : PySem.W.Frag) (mg : Str → Option Value) (z : Zs) (W : WX) (t : dS) : TS := fun D' σ H => ∃ ι h e, R K z ι h e H σ ∧ t (absD K mg z W ι H D') e h
structure DS (X : Cx) (z : Zs) (W : WX) (st : Stmt) (t : dS) : Prop where
  run : PS X st (liftS X.K X.mg z W t)
  mono : MonoS t
structure DSs (X : Cx) (z : Zs) (W : WX) (st : List Stmt) (t : dS) : Prop where
  run : PSs X st (liftS X.K X.mg z W t)
  mono : MonoS t
section
variable {K : PySem.W.Frag} {mg : Str → Option Value} {z : Zs} {W : WX} {ι ι' : List Addr} {h : Hh} {e : En} {H : Hp} {σ : L2.St}
/-- a statement of which A is wanted -/
theorem liftS_of {t : dS} {A : Dx} {D' : Ends} (m : MonoS t) (r : R K z ι h e H σ) (q : t A e h) (le : Dx.Le A (absD K mg z W ι H D')) : liftS K mg z W t D' σ H := ⟨ι, h, e, r, m _ _ _ _ le q⟩
theorem ex_at {A : Ends} (r : R K z ι h e H σ) : ∀ x h', (absD K mg z W ι H A).ex x e h' → PXq K mg z ι e σ H W x h' := fun x h' q ι' H' c dd k r' xr => q ι' H' σ c dd k r' xr
end

/-! ### blocks, small statements -/
def sNil : dS := fun D' e h => D'.nx e h
def sSeq (t u : dS) : dS := fun D' e h => t { D' with nx := u D' } e h
def sRet (te : dE) : dS := fun D' e h => te e h D'.rt (fun x h' => D'.ex x e h')
def sRetN : dS := fun D' _ h => D'.rt .non h
def sExpr (te : dE) : dS := fun D' e h => te e h (fun _ h' => D'.nx e h') (fun x h' => D'.ex x e h')
def sBrk : dS := fun D' e h => D'.bk e h
def sCont : dS := fun D' e h => D'.ct e h
def sIf (c : dT) (t u : dS) : dS := fun D' e h => c e h (fun b h' => match b with
  | true => t D' e h'
  | false => u D' e h') (fun x h' => D'.ex x e h')
/-- a statement that is never reached -/
def sNo : dS := fun _ _ _ => False
section
variable {X : Cx} {z : Zs} {W : WX} {st : Stmt} {rest : List Stmt} {t u : dS} {a : Expr} {te : dE} {pos : Pos}
theorem mono_seq (m1 : MonoS t) (m2 : MonoS u) : MonoS (sSeq t u) := fun A B e h le q => m1 { A with nx := u A } { B with nx := u B } e h ⟨fun e' h' q' => m2 A B e' h' le q', le.rt, le.bk, le.ct, le.ex⟩ q
theorem dss_nil : DSs X z W [] sNil := ⟨pss_imp pss_nil fun D' σ H ⟨ι, h, e, r, q⟩ => q ι H σ Kp.refl r, fun _ _ _ _ le q => le.nx _ _ q⟩
theorem dss_one (h1 : DS X z W st t) : DSs X z W [st] t := ⟨pss_one h1.run, h1.mono⟩
theorem dss_cons (h1 : DS X z W st t) (h2 : DSs X z W rest u) : DSs X z W (st :: rest) (sSeq t u) := by
  refine ⟨pss_imp (pss_cons h1.run h2.run) fun D' σ H ⟨ι, h, e, r, q⟩ => ?_, mono_seq h1.mono h2.mono⟩
  exact liftS_of h1.mono r q ⟨fun e' h' q' ι' H' σ' k r' => liftS_of h2.mono r' q' (absD_shift k), fun _ _ q => q, fun _ _ q => q, fun _ _ q => q, fun _ _ _ q => q⟩
theorem ds_pass : DS X z W (.Pass pos) sNil := ⟨ps_imp ps_pass fun D' σ H ⟨ι, h, e, r, q⟩ => q ι H σ Kp.refl r, fun _ _ _ _ le q => le.nx _ _ q⟩
theorem ds_break : DS X z W (.Break pos) sBrk := ⟨ps_imp ps_break fun D' σ H ⟨ι, h, e, r, q⟩ => q ι H σ Kp.refl r, fun _ _ _ _ le q => le.bk _ _ q⟩
theorem ds_continue : DS X z W (.Continue pos) sCont := ⟨ps_imp ps_continue fun D' σ H ⟨ι, h, e, r, q⟩ => q ι H σ Kp.refl r, fun _ _ _ _ le q => le.ct _ _ q⟩
theorem ds_doc {x : Str} {j pos'} : DS X z W (.Expr (.Constant (.str x) j pos) pos') sNil := ⟨ps_imp ps_doc fun D' σ H ⟨ι, h, e, r, q⟩ => q ι H σ Kp.refl r, fun _ _ _ _ le q => le.nx _ _ q⟩
theorem ds_expr (he : DE X z W a te) (hs : swapsWith a none pos.line X.env = pure false) : DS X z W (.Expr a pos) (sExpr te) :=
  ⟨ps_imp (ps_expr he.run hs) fun D' σ H ⟨ι, h, e, r, q⟩ => lift_of he.mono r q (fun x h1 ι1 H1 v q1 k1 r1 d1 => q1 ι1 H1 σ k1 r1) (ex_at r),
    fun A B e h le q => he.mono _ _ _ _ _ _ (fun _ _ q1 => le.nx _ _ q1) (fun _ _ q1 => le.ex _ _ _ q1) q⟩
theorem ds_ret (he : DE X z W a te) : DS X z W (.Return (some a) pos) (sRet te) :=
  ⟨ps_imp (ps_ret he.run) fun D' σ H ⟨ι, h, e, r, q⟩ => lift_of he.mono r q (fun x h1 ι1 H1 v q1 k1 r1 d1 => q1 ι1 H1 v k1 r1.hp d1) (ex_at r),
    fun A B e h le q => he.mono _ _ _ _ _ _ (fun _ _ q1 => le.rt _ _ q1) (fun _ _ q1 => le.ex _ _ _ q1) q⟩
theorem ds_retN : DS X z W (.Return none pos) sRetN := ⟨ps_imp ps_retN fun D' σ H ⟨ι, h, e, r, q⟩ => q ι H .non Kp.refl r.hp .non, fun _ _ _ _ le q => le.rt _ _ q⟩
theorem mono_ifS {c : dT} (mc : Mono c) (m1 : MonoS t) (m2 : MonoS u) : MonoS (sIf c t u) := fun A B e h le q => mc _ _ _ _ _ _ (fun b h1 q1 => by
  cases b with
  | true => exact m1 _ _ _ _ le q1
  | false => exact m2 _ _ _ _ le q1) (fun _ _ q1 => le.ex _ _ _ q1) q
theorem ds_if {c : Expr} {tc : dT} {b1 b2 : List Stmt} (hc : DT X z W c tc) (h1 : DSs X z W b1 t) (h2 : DSs X z W b2 u) : DS X z W (.If c b1 b2 pos) (sIf tc t u) := by
  refine ⟨ps_imp (ps_if hc.run h1.run h2.run) fun D' σ H ⟨ι, h, e, r, q⟩ => liftT_of hc.mono r q (fun b h' ι1 H1 q1 k1 r1 => ?_) (ex_at r), mono_ifS hc.mono h1.mono h2.mono⟩
  cases b with
  | true => exact iteT (liftS_of h1.mono r1 q1 (absD_shift k1))
  | false => exact iteF (liftS_of h2.mono r1 q1 (absD_shift k1))
theorem ds_never : DS X z W st sNo := ⟨ps_imp ps_never fun D' σ H ⟨ι, h, e, r, q⟩ => q, fun _ _ _ _ _ q => q.elim⟩
end

/-! ### targets -/
abbrev dTg := D → En → Hh → (En → Hh → Prop) → XK' → Prop
def MonoG (t : dTg) : Prop := ∀ d e h (Q Q' : En → Hh → Prop) (E E' : XK'), (∀ e' h', Q e' h' → Q' e' h') → (∀ x h', E x h' → E' x h') → t d e h Q E → t d e h Q' E'
def PGq (K : PySem.W.Frag) (z : Zs) (ι : List Addr) (H : Hp) (Q : L2.St → Hp → Prop) : En → Hh → Prop := fun e' h' => ∀ ι' H' σ', Kp K ι ι' H H' → R K z ι' h' e' H' σ' → Q σ' H'
def liftG (K : PySem.W.Frag) (mg : Str → Option Value) (z : Zs) (W : WX) (t : dTg) : TG := fun v σ H Q => ∃ ι h e d, R K z ι h e H σ ∧ Den K z ι H v d ∧ t d e h (PGq K z ι H Q) (PXq K mg z ι e σ H W)
structure DG (X : Cx) (z : Zs) (W : WX) (tg : Expr) (t : dTg) : Prop where
  run : PG X tg (liftG X.K X.mg z W t)
  mono : MonoG t
abbrev dTgs := List D → En → Hh → (En → Hh → Prop) → XK' → Prop
def MonoGs (t : dTgs) : Prop := ∀ d e h (Q Q' : En → Hh → Prop) (E E' : XK'), (∀ e' h', Q e' h' → Q' e' h') → (∀ x h', E x h' → E' x h') → t d e h Q E → t d e h Q' E'
def liftGs (K : PySem.W.Frag) (mg : Str → Option Value) (z : Zs) (W : WX) (t : dTgs) : TGs := fun vs σ H Q => ∃ ι h e ds, R K z ι h e H σ ∧ Dens K z ι H vs ds ∧ t ds e h (PGq K z ι H Q) (fun _ _ => False)
structure DGs (X : Cx) (z : Zs) (W : WX) (tg : List Expr) (t : dTgs) (n : Nat) : Prop where
  run : PGs X tg (liftGs X.K X.mg z W t)
  mono : MonoGs t
theorem pg_imp {X : Cx} {a : Expr} {t t' : TG} (h : PG X a t) (i : ∀ v σ H Q, t' v σ H Q → t v σ H Q) : PG X a t' := ⟨fun pins s σ H v u Q I r w => h.run pins s σ H v u Q I r (i v σ H Q w)⟩
theorem pgs_imp {X : Cx} {a : List Expr} {t t' : TGs} (h : PGs X a t) (i : ∀ v σ H Q, t' v σ H Q → t v σ H Q) : PGs X a t' := ⟨fun pins s σ H v u Q I r w => h.run pins s σ H v u Q I r (i v σ H Q w)⟩
def gN (i : Nat) : dTg := fun d e h Q _ => Q (e.set i (some d)) h
def gsNil : dTgs := fun ds e h Q _ => match ds with
  | [] => Q e h
  | _ :: _ => False
def gsCons (t : dTg) (u : dTgs) : dTgs := fun ds e h Q E => match ds with
  | [] => False
  | d :: r => t d e h (fun e' h' => u r e' h' Q E) E
/-- a, b, .. = a tuple -/
def gT (n : Nat) (t : dTgs) : dTg := fun d e h Q _ => match d with
  | .tup ds => ds.length = n ∧ t ds e h Q (fun _ _ => False)
  | _ => False
/-- xs[i] = v -/
def gS (to ti : dE) : dTg := fun d e h Q E => to e h (fun o h1 => ti e h1 (fun i h2 => match o, i with
  | .ref n, .int k => match h2[n]? with
    | some (.lst ds) => ∃ j, ixN ds.length k = some j ∧ Q e (h2.set n (.lst (ds.set j d)))
    | none => False
  | _, _ => False) E) E
section
variable {X : Cx} {z : Zs} {W : WX} {pos : Pos}
theorem dg_name (i : Nat) {x : Str} (hN : X.N.Nodup) (hi : X.N[i]? = some x) (hx : Loc X.env.scope x) (hf : X.fn x = true ∨ X.env.scope.names.lookup x = some .local) : DG X z W (.Name x pos) (gN i) :=
  ⟨pg_imp (pg_name hN hi hx hf) fun v σ H Q ⟨ι, h, e, d, r, dn, q⟩ => q ι H _ Kp.refl ⟨r.hp, r.en.set i dn⟩, fun _ _ _ _ _ _ _ hQ _ q => hQ _ _ q⟩
theorem dgs_nil : DGs X z W [] gsNil 0 := by
  refine ⟨pgs_imp pgs_nil fun vs σ H Q ⟨ι, h, e, ds, r, dn, q⟩ => ?_, fun d _ _ _ _ _ _ hQ _ q => ?_⟩
  · cases dn with
    | nil => exact ⟨rfl, q ι H _ Kp.refl r⟩
    | cons a b => exact q.elim
  · cases d with
    | nil => exact hQ _ _ q
    | cons _ _ => exact q.elim
theorem dgs_cons {a : Expr} {es : List Expr} {t : dTg} {u : dTgs} {n : Nat} (h1 : DG X z W a t) (h2 : DGs X z W es u n) (hs : (assignEach (a :: es) X.env).map (·.2) = assign a X.env :: (assignEach es X.env).map (·.2)) : DGs X z W (a :: es) (gsCons t u) (n + 1) := by
  refine ⟨pgs_imp (pgs_cons h1.run h2.run hs) fun vs σ H Q ⟨ι, h, e, ds, r, dn, q⟩ => ?_, fun d _ _ _ _ _ _ hQ hE q => ?_⟩
  · cases dn with
    | nil => exact q.elim
    | cons a b =>
      refine ⟨_, _, rfl, ι, h, e, _, r, a, h1.mono _ _ _ _ _ _ _ (fun e' h' q1 ι' H' σ' k r' => ?_) (fun _ _ x => x.elim) q⟩
      exact ⟨ι', h', e', _, r', b.keep k, h2.mono _ _ _ _ _ _ _ (fun e2 h2 q2 i3 H3 s3 k3 r3 => q2 i3 H3 s3 (k.trans k3) r3) (fun _ _ x => x) q1⟩
  · cases d with
    | nil => exact q.elim
    | cons _ _ => exact h1.mono _ _ _ _ _ _ _ (fun _ _ q1 => h2.mono _ _ _ _ _ _ _ hQ hE q1) hE q
theorem dg_tup {es : List Expr} {k n : Nat} {t : dTgs} (hc : X.calm = true) (h : DGs X z W es t n) (hn : (assignEach es X.env).length = n) (hst : (assignEach es X.env).findIdx? (·.1) = none) : DG X z W (.Tuple es k pos) (gT n t) := by
  refine ⟨pg_imp (pg_tup hc h.run hn hst) fun v σ H Q ⟨ι, h, e, d, r, dn, q⟩ => ?_, fun d _ _ _ _ _ _ hQ _ q => ?_⟩
  · unfold gT at q
    split at q
    · obtain ⟨p, xs, rfl, hp, hx⟩ := den_tup dn
      exact ⟨p, xs, rfl, hp, by rw [hx.length]; exact q.1, ι, _, e, _, r, hx, q.2⟩
    · exact q.elim
  · unfold gT at q ⊢
    split at q
    · exact ⟨q.1, h.mono _ _ _ _ _ _ _ hQ (fun _ _ x => x) q.2⟩
    · exact q.elim
theorem dg_sub {o i : Expr} {to ti : dE} (ho : DE X z W o to) (hi : DE X z W i ti) (ha : ∀ v, assign (.Subscript o i pos) X.env v = (do
      let ov ← holding [v] (eval o X.env)
      let iv ← holding [v, ov] (eval i X.env)
      standAt pos
      holding [v, ov, iv] (setItem ov iv v)
      release [v, ov, iv] [])) : DG X z W (.Subscript o i pos) (gS to ti) := by
  refine ⟨pg_imp (pg_sub ho.run hi.run set_list ha) fun v σ H Q ⟨ι, h, e, d, r, dn, q⟩ => ?_, fun d _ _ _ _ _ _ hQ hE q => ?_⟩
  · refine lift_of ho.mono r q (fun o' h1 ι1 H1 v1 q1 k1 r1 d1 => ?_) fun _ _ q => q
    refine lift_of hi.mono r1 q1 (fun i' h2 ι2 H2 v2 q2 k2 r2 d2 => ?_) fun _ _ q => q.shift k1
    split at q2
    · split at q2
      · rename_i hn
        obtain ⟨j, hj, q2⟩ := q2
        obtain ⟨p, xs, rfl, hp, hl, hx, hlt⟩ := r2.hp.list (d1.keep k2) hn
        refine ⟨p, xs, _, j, rfl, den_int d2, hl, by rw [hx.length]; exact hj, ?_⟩
        exact q2 ι2 _ _ ((k1.trans k2).trans (Kp.wrote r2.hp (List.mem_of_getElem? hp) _)) (r2.wrote hp hlt (Dens.set (dn.keep (k1.trans k2)) j hx))
      · exact q2.elim
    · exact q2.elim
  · refine ho.mono _ _ _ _ _ _ (fun o' h1 q1 => hi.mono _ _ _ _ _ _ (fun i' h2 q2 => ?_) hE q1) hE q
    split at q2
    · split at q2
      · obtain ⟨j, hj, q2⟩ := q2
        exact ⟨j, hj, hQ _ _ q2⟩
      · exact q2.elim
    · exact q2.elim
end
def sAsg (te : dE) (g : dTg) : dS := fun D' e h => te e h (fun d h1 => g d e h1 D'.nx (fun x h' => D'.ex x e h')) (fun x h' => D'.ex x e h')
section
variable {X : Cx} {z : Zs} {W : WX} {a tg : Expr} {te : dE} {g : dTg} {pos : Pos}
theorem mono_asg (me : Mono te) (mg : MonoG g) : MonoS (sAsg te g) := fun A B e h le q => me _ _ _ _ _ _ (fun d h1 q1 => mg _ _ _ _ _ _ _ le.nx (fun _ _ q2 => le.ex _ _ _ q2) q1) (fun _ _ q1 => le.ex _ _ _ q1) q
theorem asg_read (he : DE X z W a te) (hg : DG X z W tg g) {D' : Ends} {σ : L2.St} {H : Hp} (hh : liftS X.K X.mg z W (sAsg te g) D' σ H) : tAsg (lift X.K X.mg z W te) (liftG X.K X.mg z W g) D' σ H := by
  obtain ⟨ι, h, e, r, q⟩ := hh
  refine lift_of he.mono r q (fun d h1 ι1 H1 v q1 k1 r1 d1 => ?_) (ex_at r)
  exact ⟨ι1, h1, e, d, r1, d1, hg.mono _ _ _ _ _ _ _ (fun e' h' q2 i2 H2 s2 k2 r2 => q2 i2 H2 s2 (k1.trans k2) r2) (fun x h' q2 => (ex_at (mg := X.mg) (z := z) (W := W) r x h' q2).shift k1) q1⟩
theorem ds_asg (he : DE X z W a te) (hg : DG X z W tg g) (hs : swapsWithSole [tg] a pos.line X.env = pure false) (hw : swappedStores [tg] a X.env = pure none) (h1 : (assignEach [tg] X.env).map (·.2) = [assign tg X.env]) : DS X z W (.Assign [tg] a pos) (sAsg te g) :=
  ⟨ps_imp (ps_asg he.run hg.run hs hw h1) fun _ _ _ hh => asg_read he hg hh, mono_asg he.mono hg.mono⟩
theorem ds_set (i : Nat) {x : Str} {pos' : Pos} (hN : X.N.Nodup) (hi : X.N[i]? = some x) (hx : Loc X.env.scope x) (he : DE X z W a te) (hs : swapsWith a (some (.Name x pos')) pos.line X.env = pure false) (hf : X.fn x = true ∨ X.env.scope.names.lookup x = some .local) : DS X z W (.Assign [.Name x pos'] a pos) (sAsg te (gN i)) := by
  refine ⟨ps_imp (ps_set hN hi hx he.run hs hf) fun D' σ H hh => ?_, mono_asg he.mono fun _ _ _ _ _ _ _ hQ _ q => hQ _ _ q⟩
  obtain ⟨ι, h, e, r, q⟩ := hh
  exact lift_of he.mono r q (fun d h1 ι1 H1 v q1 k1 r1 d1 => q1 ι1 H1 _ k1 ⟨r1.hp, r1.en.set i d1⟩) (ex_at r)
end
/-- a, b = x, y -/
def sPar (i j : Nat) (ta : dA) : dS := fun D' e h => ta e h (fun ds h1 => match ds with
  | [x, y] => D'.nx ((e.set i (some x)).set j (some y)) h1
  | _ => False) (fun x h' => D'.ex x e h')
/-- x op= e -/
def sAug (f : D → D → Hh → Rs) (i : Nat) (te : dE) : dS := fun D' e h => match slot e i with
  | some x => te e h (fun y h1 => (f x y h1).to fun d h2 => D'.nx (e.set i (some d)) h2) (fun x h' => D'.ex x e h')
  | none => False
section
variable {X : Cx} {z : Zs} {W : WX} {pos : Pos}
theorem ds_par (i j : Nat) {x y : Str} {a b : Expr} {ta : dA} {px py pt : Pos} {kt k2 pt2} (hc : X.calm = true) (hN : X.N.Nodup) (hi : X.N[i]? = some x) (hj : X.N[j]? = some y) (hij : i ≠ j)
    (hx : X.env.scope.names.lookup x = some .local) (hy : X.env.scope.names.lookup y = some .local) (ha : DA X z W [a, b] ta 2)
    (hw : swappedStores [.Tuple [.Name x px, .Name y py] kt pt] (.Tuple [a, b] k2 pt2) X.env = pure (some [x, y]))
    (hs : swapsWithSole [.Tuple [.Name x px, .Name y py] kt pt] (.Tuple [a, b] k2 pt2) pos.line X.env = pure false) :
    DS X z W (.Assign [.Tuple [.Name x px, .Name y py] kt pt] (.Tuple [a, b] k2 pt2) pos) (sPar i j ta) := by
  refine ⟨ps_imp (ps_par hc hN hi hj hij hx hy ha.run hw hs) fun D' σ H ⟨ι, h, e, r, q⟩ => liftA_of ha.mono r q (fun ds h1 ι1 H1 vs q1 k1 r1 dn => ?_) (ex_at r), fun A B e h le q => ha.mono _ _ _ _ _ _ (fun ds h1 q1 => ?_) (fun _ _ q1 => le.ex _ _ _ q1) q⟩
  · split at q1
    · obtain ⟨v, u, rfl, dv, du⟩ := dens2 dn
      exact ⟨v, u, rfl, q1 ι1 H1 _ k1 ⟨r1.hp, (r1.en.set i dv).set j du⟩⟩
    · exact q1.elim
  · split at q1
    · exact le.nx _ _ q1
    · exact q1.elim
/-- an in-place operation by its rule -/
theorem ds_aug {op : Operator} {f : D → D → Hh → Rs} {rr : TIp} (i : Nat) {x : Str} {a : Expr} {te : dE} {pos' : Pos} (hN : X.N.Nodup) (hi : X.N[i]? = some x) (hx : Loc X.env.scope x) (he : DE X z W a te) (ho : PIp X op rr) (hd : OpD X.K f rr) (hf : X.fn x = true ∨ X.env.scope.names.lookup x = some .local) :
    DS X z W (.AugAssign (.Name x pos') op a pos) (sAug f i te) := by
  refine ⟨ps_imp (ps_aug hN hi hx he.run ho hf) fun D' σ H ⟨ι, h, e, r, q⟩ => ?_, fun A B e h le q => ?_⟩
  · unfold sAug at q
    cases es : slot e i with
    | none => rw [es] at q; exact q.elim
    | some d =>
      rw [es] at q
      obtain ⟨v, h1, h2⟩ := r.en.get i d (slot_get es)
      refine ⟨v, h1, lift_of he.mono r q (fun y h1 ι1 H1 u q1 k1 r1 d1 => ?_) (ex_at r)⟩
      refine hd z ι1 h1 e H1 σ v u d y _ r1 (h2.keep k1) d1 (Rs.mono (fun w h2 q2 ι2 H2 x k2 r2 d2 => ?_) q1)
      exact q2 ι2 H2 _ (k1.trans k2) ⟨r2.hp, r2.en.set i d2⟩
  · unfold sAug at q ⊢
    cases es : slot e i with
    | none => rw [es] at q; exact q.elim
    | some d =>
      rw [es] at q
      exact he.mono _ _ _ _ _ _ (fun _ _ q1 => Rs.mono (fun _ _ q2 => le.nx _ _ q2) q1) (fun _ _ q1 => le.ex _ _ _ q1) q
end

/-! ### while -/
def sWhile (c : dT) (tb : dS) : dS := fun D' e h => ∃ P : Nat → En → Hh → Prop, (∃ m, P m e h) ∧ ∀ m e h, P m e h → c e h (fun b h1 => match b with
  | true => tb { D' with nx := fun e' h' => ∃ m', m' < m ∧ P m' e' h', ct := fun e' h' => ∃ m', m' < m ∧ P m' e' h', bk := D'.nx } e h1
  | false => D'.nx e h1) (fun x h' => D'.ex x e h')
section
variable {X : Cx} {z : Zs} {W : WX} {pos : Pos} {c : Expr} {tc : dT} {body : List Stmt} {tb : dS}
theorem mono_while (mc : Mono tc) (mb : MonoS tb) : MonoS (sWhile tc tb) := fun A B e h le ⟨P, h0, hs⟩ => ⟨P, h0, fun m e h p => mc _ _ _ _ _ _ (fun b h1 q1 => by
  cases b with
  | true => exact mb { A with nx := fun e' h' => ∃ m', m' < m ∧ P m' e' h', ct := fun e' h' => ∃ m', m' < m ∧ P m' e' h', bk := A.nx } _ _ _ ⟨fun _ _ q => q, le.rt, le.nx, fun _ _ q => q, le.ex⟩ q1
  | false => exact le.nx _ _ q1) (fun _ _ q1 => le.ex _ _ _ q1) (hs m e h p)⟩
theorem ds_while (hp : PassesOwn (model X.prog X.w) X.A X.env X.xe) (hc : DT X z W c tc) (hb : DSs X z W body tb) : DS X z W (.While c body [] pos) (sWhile tc tb) := by
  refine ⟨ps_imp (ps_while hp hc.run hb.run) fun D' σ H ⟨ι, h, e, r, P, ⟨m0, p0⟩, hs⟩ => ?_, mono_while hc.mono hb.mono⟩
  refine ⟨fun m σ' H' => ∃ ι' h' e', Kp X.K ι ι' H H' ∧ R X.K z ι' h' e' H' σ' ∧ P m e' h', ⟨m0, ι, h, e, Kp.refl, r, p0⟩, ?_⟩
  rintro m σ1 H1 ⟨ι1, h1, e1, k1, r1, p1⟩
  refine liftT_of hc.mono r1 (hs m e1 h1 p1) (fun b h2 ι2 H2 q2 k2 r2 => ?_) (fun x h' q ι' H' c' dd k r' xr => q ι' H' _ c' dd (k1.trans k) r' xr)
  cases b with
  | true =>
    refine iteT ⟨fun σ' H' => ∃ m', m' < m ∧ ∃ ι' h' e', Kp X.K ι ι' H H' ∧ R X.K z ι' h' e' H' σ' ∧ P m' e' h', fun σ' H' q => q, ?_⟩
    have sh : Dx.Le (absD X.K X.mg z W ι H D') (absD X.K X.mg z W ι2 H2 D') := absD_shift (k1.trans k2)
    refine liftS_of hb.mono r2 q2 ⟨fun e' h' ⟨m', hm, p⟩ i3 H3 s3 k3 r3 => ⟨m', hm, i3, h', e', (k1.trans k2).trans k3, r3, p⟩, sh.rt, sh.nx, fun e' h' ⟨m', hm, p⟩ i3 H3 s3 k3 r3 => ⟨m', hm, i3, h', e', (k1.trans k2).trans k3, r3, p⟩, sh.ex⟩
  | false => exact iteF (q2 ι2 H2 σ1 (k1.trans k2) r2)
end
end Dn


namespace Dn
open PySem PySem.Spec PyProof.Rows L2

/-! ### what is walked -/
abbrev dSrc := En → Hh → (List D → (Hh → Prop) → Hh → Prop) → XK' → Prop
def MonoI (t : dSrc) : Prop := ∀ e h (Q Q' : List D → (Hh → Prop) → Hh → Prop) (E E' : XK'), (∀ ds G h', Q ds G h' → Q' ds G h') → (∀ x h', E x h' → E' x h') → t e h Q E → t e h Q' E'
/-- J gives the items ds, while G stands -/
def ItOk (K : PySem.W.Frag) (z : Zs) (ι₀ : List Addr) (H₀ : Hp) (J : It) (ds : List D) (G : Hh → Prop) : Prop := ∀ ι' h' H', Kp K ι₀ ι' H₀ H' → RH K z ι' h' H' → G h' → ∀ i : Nat,
  (ds.length ≤ i → J.stop i H') ∧ (i < ds.length → J.go i H' ∧ ∀ x H'', J.yld i H' x H'' → ∃ d, ds[i]? = some d ∧ Kp K ι' ι' H' H'' ∧ RH K z ι' h' H'' ∧ Den K z ι' H'' x d)
def PIq (K : PySem.W.Frag) (z : Zs) (ι : List Addr) (e : En) (σ : L2.St) (H : Hp) (RR : It → Hp → Prop) : List D → (Hh → Prop) → Hh → Prop := fun ds G h1 => ∀ ι1 H1 J, Kp K ι ι1 H H1 → R K z ι1 h1 e H1 σ → G h1 → ItOk K z ι1 H1 J ds G → RR J H1
def liftI (K : PySem.W.Frag) (mg : Str → Option Value) (z : Zs) (W : WX) (t : dSrc) : TI := fun σ H RR => ∃ ι h e, R K z ι h e H σ ∧ t e h (PIq K z ι e σ H RR) (PXq K mg z ι e σ H W)
structure DI (X : Cx) (z : Zs) (W : WX) (tg iter : Expr) (t : dSrc) : Prop where
  run : PI X tg iter (liftI X.K X.mg z W t)
  mono : MonoI t

/-- a new iterator over a known thing -/
theorem start_it {X : Cx} {pins : List (Addr × Obj)} {σ : L2.St} {H : Hp} {s : Shared} {tg : Expr} {RR : It → Hp → Prop} {ob : Obj} {J : It} {tn : Nat → Heap → Prop} (I : Inv X pins σ H s) (T : Turn X.prog X.w X.K tg J [s.heap.objs.size] s.heap.objs.size tn)
    (ht : tn 0 (s.heap.push ob)) (q : RR J H) : PIE X pins σ tg RR (.ref s.heap.objs.size) { s with heap := s.heap.push ob } := by
  refine ⟨s.heap.objs.size, [s.heap.objs.size], tn, J, H, rfl, I.kept (t' := s.toks) fun a u w => Heap.get?_push_of_some _ w, T, ht, fun a ha => ?_, q⟩
  have ea : a = s.heap.objs.size := List.mem_singleton.mp ha
  rw [ea]
  exact I.fpOk (Nat.le_refl _) (I.hok.fresh (Nat.le_refl _))
/-- over a list or a tuple -/
theorem pi_seq {X : Cx} {tg l : Expr} {tl : TE} (hl : PE X l tl) : PI X tg l (fun σ H RR => tl σ H fun x H1 => ∃ a, x = .ref a ∧ ((∃ xs, SqL X.K H1 a xs ∧ RR (Itl X.K a) H1) ∨ ∃ xs, SqT X.K H1 a xs ∧ RR (Itt X.K a) H1)) := by
  refine ⟨fun pins s σ H RR I hh => thn (hl.run pins s σ H _ I hh) fun v s1 w => ?_⟩
  obtain ⟨x, H1, I1, r1, a, ex, q⟩ := w
  subst ex; cases r1
  rcases q with ⟨xs, hq, q⟩ | ⟨xs, hq, q⟩
  · obtain ⟨us, rv, p, _⟩ := I1.list hq
    exact wpAny_pyIter_list p.isList (start_it I1 (turn_list a _) ⟨_, Heap.get?_push_size _ rfl, rfl, rfl⟩ q)
  · obtain ⟨us, rv, p, _⟩ := I1.tuple hq
    refine wpAny_pyIter_tuple (items := us.toArray) ?_ (start_it I1 (turn_tuple a _) ⟨_, Heap.get?_push_size _ rfl, rfl, rfl⟩ q)
    exact p

def srcSeq (te : dE) : dSrc := fun e h Q E => te e h (fun x h1 => match x with
  | .tup ds => Q ds (fun _ => True) h1
  | .lst ds => Q ds (fun _ => True) h1
  | .ref n => match h1[n]? with
    | some (.lst ds) => Q ds (fun h' => h'[n]? = some (.lst ds)) h1
    | none => False
  | _ => False) E
def intsUp (lo : Int) (n : Nat) : List D := (List.range n).map fun (i : Nat) => .int (lo + (i : Int))
def srcRng1 (ta : dA) : dSrc := fun e h Q E => ta e h (fun ds h1 => match ds with
  | [.int n] => (-(2 ^ 62) ≤ n ∧ n < 2 ^ 62) ∧ Q (intsUp 0 n.toNat) (fun _ => True) h1
  | _ => False) E
def srcRng2 (ta : dA) : dSrc := fun e h Q E => ta e h (fun ds h1 => match ds with
  | [.int a, .int b] => (-(2 ^ 62) ≤ a ∧ a < 2 ^ 62 ∧ -(2 ^ 62) ≤ b ∧ b < 2 ^ 62) ∧ Q (intsUp a (b - a).toNat) (fun _ => True) h1
  | _ => False) E
section
variable {K : PySem.W.Frag} {z : Zs} {ι : List Addr} {h : Hh} {H : Hp} {p : Addr}
theorem itok_tup {xs : List V} {ds : List D} (hp : SqT K H p xs) (hx : Dens K z ι H xs ds) (G : Hh → Prop) : ItOk K z ι H (Itt K p) ds G := by
  intro ι' h' H' k r _ i
  have hp' := k.tup _ _ hp
  have hx' := Dens.keep k hx
  refine ⟨fun hi => ⟨xs, hp', by rw [hx'.length]; exact hi⟩, fun hi => ?_⟩
  obtain ⟨v, h1, h2⟩ := hx'.get (List.getElem?_eq_getElem hi)
  refine ⟨⟨xs, v, hp', h1⟩, fun x H'' y => ?_⟩
  obtain ⟨rfl, y⟩ := y
  have ev : x = v := Option.some.inj ((y xs hp').symm.trans h1)
  subst ev
  exact ⟨_, List.getElem?_eq_getElem hi, Kp.refl, r, h2⟩
theorem itok_lst {xs : List V} {ds : List D} (hp : FL K z p xs) (hx : Dens K z ι H xs ds) (G : Hh → Prop) : ItOk K z ι H (Itl K p) ds G := by
  intro ι' h' H' k r _ i
  have hp' := fl_stay r hp
  have hx' := Dens.keep k hx
  refine ⟨fun hi => ⟨xs, hp', by rw [hx'.length]; exact hi⟩, fun hi => ?_⟩
  obtain ⟨v, h1, h2⟩ := hx'.get (List.getElem?_eq_getElem hi)
  refine ⟨⟨xs, v, hp', h1⟩, fun x H'' y => ?_⟩
  obtain ⟨rfl, y⟩ := y
  have ev : x = v := Option.some.inj ((y xs hp').symm.trans h1)
  subst ev
  exact ⟨_, List.getElem?_eq_getElem hi, Kp.refl, r, h2⟩
theorem itok_ref {n : Nat} {ds : List D} (hn : ι[n]? = some p) : ItOk K z ι H (Itl K p) ds (fun h' => h'[n]? = some (.lst ds)) := by
  intro ι' h' H' k r g i
  have hd : Den K z ι' H' (.ref p) (.ref n) := Den.keep k (.ref hn)
  obtain ⟨p', xs, ep, _, hp, hx', _⟩ := r.list hd g
  injection ep with ep; subst ep
  have hp' : SqL K H' p xs := .inl (.inl hp)
  refine ⟨fun hi => ⟨xs, hp', by rw [hx'.length]; exact hi⟩, fun hi => ?_⟩
  obtain ⟨v, h1, h2⟩ := hx'.get (List.getElem?_eq_getElem hi)
  refine ⟨⟨xs, v, hp', h1⟩, fun x H'' y => ?_⟩
  obtain ⟨rfl, y⟩ := y
  have ev : x = v := Option.some.inj ((y xs hp').symm.trans h1)
  subst ev
  exact ⟨_, List.getElem?_eq_getElem hi, Kp.refl, r, h2⟩
theorem intsUp_len (lo : Int) (n : Nat) : (intsUp lo n).length = n := by unfold intsUp; rw [List.length_map, List.length_range]
theorem intsUp_get {lo : Int} {n i : Nat} (hi : i < n) : (intsUp lo n)[i]? = some (.int (lo + (i : Int))) := by
  unfold intsUp
  rw [List.getElem?_map, List.getElem?_range hi]; rfl
theorem itok_rng {lo : Int} {n : Nat} (G : Hh → Prop) : ItOk K z ι H (Itr lo n) (intsUp lo n) G := by
  intro ι' h' H' k r _ i
  rw [intsUp_len]
  refine ⟨fun hi => hi, fun hi => ⟨hi, fun x H'' y => ?_⟩⟩
  obtain ⟨rfl, rfl⟩ := y
  exact ⟨_, intsUp_get hi, Kp.refl, r, .int _⟩
end
section
variable {X : Cx} {z : Zs} {W : WX} {tg a : Expr} {te : dE} {pos : Pos}
theorem di_seq (ha : DE X z W a te) : DI X z W tg a (srcSeq te) := by
  refine ⟨pi_imp (pi_seq ha.run) fun σ H RR ⟨ι, h, e, r, q⟩ => lift_of ha.mono r q (fun x h1 ι1 H1 v q1 k1 r1 d1 => ?_) fun _ _ q => q, fun e h Q Q' E E' hQ hE q => ha.mono _ _ _ _ _ _ (fun x h1 q1 => ?_) hE q⟩
  · split at q1
    · obtain ⟨p, xs, rfl, hp, hx⟩ := den_tup d1
      exact ⟨p, rfl, .inr ⟨xs, hp, q1 ι1 H1 _ k1 r1 trivial (itok_tup hp hx _)⟩⟩
    · cases d1 with
      | lst hp hx => exact ⟨_, rfl, .inl ⟨_, fl_stay r1.hp hp, q1 ι1 H1 _ k1 r1 trivial (itok_lst hp hx _)⟩⟩
    · split at q1
      · rename_i hn
        obtain ⟨p, xs, rfl, hi, hp, hx, _⟩ := r1.hp.list d1 hn
        exact ⟨p, rfl, .inl ⟨xs, .inl (.inl hp), q1 ι1 H1 _ k1 r1 hn (itok_ref hi)⟩⟩
      · exact q1.elim
    · exact q1.elim
  · split at q1
    · exact hQ _ _ _ q1
    · exact hQ _ _ _ q1
    · split at q1
      · exact hQ _ _ _ q1
      · exact q1.elim
    · exact q1.elim
theorem di_rng1 {ta : dA} {p : Pos} (hg : Gl X "range") (hm : X.mg "range" = none) (ha : DA X z W [a] ta 1) (hs : starEach [a] X.env = [(false, eval a X.env)]) : DI X z W tg (.Call (.Name "range" p) [a] [] pos) (srcRng1 ta) := by
  refine ⟨pi_imp (pi_range1 hg hm ha.run hs) fun σ H RR ⟨ι, h, e, r, q⟩ => liftA_of ha.mono r q (fun ds h1 ι1 H1 vs q1 k1 r1 d1 => ?_) fun _ _ q => q, fun e h Q Q' E E' hQ hE q => ha.mono _ _ _ _ _ _ (fun x h1 q1 => ?_) hE q⟩
  · split at q1
    · obtain ⟨v, rfl, dv⟩ := dens1 d1
      rw [den_int dv]
      exact ⟨_, rfl, q1.1.1, q1.1.2, q1.2 ι1 H1 _ k1 r1 trivial (itok_rng _)⟩
    · exact q1.elim
  · split at q1
    · exact ⟨q1.1, hQ _ _ _ q1.2⟩
    · exact q1.elim
theorem di_rng2 {b : Expr} {ta : dA} {p : Pos} (hg : Gl X "range") (hm : X.mg "range" = none) (ha : DA X z W [a, b] ta 2) (hs : starEach [a, b] X.env = [(false, eval a X.env), (false, eval b X.env)]) (hs2 : starEach [b] X.env = [(false, eval b X.env)]) : DI X z W tg (.Call (.Name "range" p) [a, b] [] pos) (srcRng2 ta) := by
  refine ⟨pi_imp (pi_range2 hg hm ha.run hs hs2) fun σ H RR ⟨ι, h, e, r, q⟩ => liftA_of ha.mono r q (fun ds h1 ι1 H1 vs q1 k1 r1 d1 => ?_) fun _ _ q => q, fun e h Q Q' E E' hQ hE q => ha.mono _ _ _ _ _ _ (fun x h1 q1 => ?_) hE q⟩
  · split at q1
    · obtain ⟨v, u, rfl, dv, du⟩ := dens2 d1
      rw [den_int dv, den_int du]
      exact ⟨_, _, rfl, q1.1, q1.2 ι1 H1 _ k1 r1 trivial (itok_rng _)⟩
    · exact q1.elim
  · split at q1
    · exact ⟨q1.1, hQ _ _ _ q1.2⟩
    · exact q1.elim
end

/-! ### for -/
def sFor (src : dSrc) (g : dTg) (tb : dS) : dS := fun D' e h => src e h (fun ds G h1 => ∃ P : Nat → En → Hh → Prop, P 0 e h1 ∧ (∀ i e' h', i ≤ ds.length → P i e' h' → G h') ∧
  (∀ (i : Nat) (x : D) e' h', ds[i]? = some x → P i e' h' → g x e' h' (fun e2 h2 => tb { D' with nx := P (i + 1), ct := P (i + 1), bk := D'.nx } e2 h2) (fun x' h2 => D'.ex x' e' h2)) ∧ (∀ e' h', P ds.length e' h' → D'.nx e' h')) (fun x h' => D'.ex x e h')
section
variable {X : Cx} {z : Zs} {W : WX} {tg iter : Expr} {src : dSrc} {g : dTg} {tb : dS} {body : List Stmt} {pos : Pos}
theorem mono_for (mi : MonoI src) (mg : MonoG g) (mb : MonoS tb) : MonoS (sFor src g tb) := fun A B e h le q => mi _ _ _ _ _ _ (fun ds G h1 ⟨P, p0, pg, ps, pd⟩ => ⟨P, p0, pg, fun i x e' h' hx p => mg _ _ _ _ _ _ _
  (fun e2 h2 q2 => mb { A with nx := P (i + 1), ct := P (i + 1), bk := A.nx } _ _ _ ⟨fun _ _ q => q, le.rt, le.nx, fun _ _ q => q, le.ex⟩ q2) (fun _ _ q2 => le.ex _ _ _ q2) (ps i x e' h' hx p), fun e' h' p => le.nx _ _ (pd e' h' p)⟩) (fun _ _ q1 => le.ex _ _ _ q1) q
theorem ds_for (hp : PassesOwn (model X.prog X.w) X.A X.env X.xe) (hc : X.calm = true) (hi : DI X z W tg iter src) (hg : DG X z W tg g) (hb : DSs X z W body tb) (hs : ∀ x, foldedSetIterable iter X.env x = pure x) : DS X z W (.For tg iter body [] pos) (sFor src g tb) := by
  refine ⟨ps_imp (ps_for hp hc hi.run hg.run hb.run hs) fun D' σ H ⟨ι, h, e, r, q⟩ => ?_, mono_for hi.mono hg.mono hb.mono⟩
  refine ⟨ι, h, e, r, hi.mono _ _ _ _ _ _ (fun ds G h1 w ι1 H1 J k1 r1 _ it => ?_) (ex_at r) q⟩
  obtain ⟨P, p0, pg, ps, pd⟩ := w
  refine ⟨fun i m σ' H' => m = ds.length - i ∧ i ≤ ds.length ∧ ∃ ι' h' e', Kp X.K ι1 ι' H1 H' ∧ R X.K z ι' h' e' H' σ' ∧ P i e' h', ⟨ds.length, by simp, Nat.zero_le _, ι1, h1, e, Kp.refl, r1, p0⟩, ?_⟩
  rintro i m σ2 H2 ⟨rfl, hi2, ι2, h2, e2, k2, r2, p2⟩
  have io := it ι2 h2 H2 k2 r2.hp (pg i e2 h2 hi2 p2) i
  by_cases hlt : i < ds.length
  · obtain ⟨go, yl⟩ := io.2 hlt
    refine .inr ⟨go, fun σ' H' => ∃ ι' h' e', Kp X.K ι1 ι' H1 H' ∧ R X.K z ι' h' e' H' σ' ∧ P (i + 1) e' h', fun σ' H' w => ⟨ds.length - (i + 1), by omega, rfl, hlt, w⟩, fun x H3 y => ?_⟩
    obtain ⟨d, hd, k3, r3, dn⟩ := yl x H3 y
    refine ⟨ι2, h2, e2, d, ⟨r3, r2.en.keep k3⟩, dn, hg.mono _ _ _ _ _ _ _ (fun e4 h4 q4 ι4 H4 σ4 k4 r4 => ?_) (fun x' h' q' ι' H' c dd k' r' xr => q' ι' H' σ2 c dd (((k1.trans k2).trans k3).trans k') r' xr) (ps i d e2 h2 hd p2)⟩
    have sh : Dx.Le (absD X.K X.mg z W ι H D') (absD X.K X.mg z W ι4 H4 D') := absD_shift (((k1.trans k2).trans k3).trans k4)
    exact liftS_of hb.mono r4 q4 ⟨fun e' h' p i5 H5 s5 k5 r5 => ⟨i5, h', e', ((k2.trans k3).trans k4).trans k5, r5, p⟩, sh.rt, sh.nx, fun e' h' p i5 H5 s5 k5 r5 => ⟨i5, h', e', ((k2.trans k3).trans k4).trans k5, r5, p⟩, sh.ex⟩
  · have ei : i = ds.length := by omega
    subst ei
    exact .inl ⟨io.1 (Nat.le_refl _), pd e2 h2 p2 ι2 H2 σ2 (k1.trans k2) r2⟩
end
end Dn


namespace Dn
open PySem PySem.Spec PyProof.Rows L2

/-! ### list comprehensions -/
def wipeE (e : En) : List Nat → En
  | [] => e
  | v :: vs => (wipeE e vs).set v none
theorem wipeE_set {α : Type} {e : List (Option α)} {i : Nat} {a : Option α} (w : List (Option α) → List Nat → List (Option α)) (h0 : ∀ e, w e [] = e) (h1 : ∀ e v vs, w e (v :: vs) = (w e vs).set v none) : ∀ vs : List Nat, i ∈ vs → w (e.set i a) vs = w e vs := by
  have len : ∀ vs e, (w e vs).length = e.length := fun vs => by
    induction vs with
    | nil => intro e; rw [h0]
    | cons v vs ih => intro e; rw [h1, List.length_set, ih]
  have get : ∀ vs e j, (w e vs)[j]? = if j ∈ vs ∧ j < e.length then some none else e[j]? := fun vs => by
    induction vs with
    | nil => intro e j; rw [h0]; simp
    | cons v vs ih =>
      intro e j
      rw [h1]
      by_cases hj : v = j
      · subst hj
        by_cases hl : v < e.length
        · rw [List.getElem?_set_self (by rw [len]; exact hl), if_pos ⟨List.mem_cons_self, hl⟩]
        · rw [List.getElem?_eq_none (by rw [List.length_set, len]; omega), if_neg (fun c => hl c.2), List.getElem?_eq_none (by omega)]
      · rw [List.getElem?_set_ne hj, ih]
        have : (j ∈ v :: vs) ↔ j ∈ vs := by
          rw [List.mem_cons]
          exact ⟨fun c => c.resolve_left (fun e => hj e.symm), .inr⟩
        simp only [this]
  intro vs hi
  apply List.ext_getElem?
  intro j
  rw [get, get, List.length_set]
  by_cases hj : j ∈ vs ∧ j < e.length
  · rw [if_pos hj, if_pos hj]
  · rw [if_neg hj, if_neg hj]
    by_cases hij : i = j
    · subst hij
      have hl : ¬ i < e.length := fun c => hj ⟨hi, c⟩
      rw [List.getElem?_eq_none (by rw [List.length_set]; omega), List.getElem?_eq_none (by omega)]
    · rw [List.getElem?_set_ne hij]
theorem wipe_set {σ : L2.St} {i : Nat} {a : Option V} {vs : List Nat} (h : i ∈ vs) : wipe (σ.set i a) vs = wipe σ vs := wipeE_set (fun s l => wipe s l) (fun _ => rfl) (fun _ _ _ => rfl) vs h
theorem wipe_idem {σ : L2.St} : ∀ {vs us : List Nat}, (∀ v ∈ vs, v ∈ us) → wipe (wipe σ vs) us = wipe σ us
  | [], _, _ => rfl
  | v :: vs, us, h => by
    show wipe ((wipe σ vs).set v none) us = _
    rw [wipe_set (h v List.mem_cons_self)]
    exact wipe_idem fun w hw => h w (List.mem_cons_of_mem _ hw)
theorem RE.wipe {K : PySem.W.Frag} {z : Zs} {ι : List Addr} {e : En} {H : Hp} {σ : L2.St} (r : RE K z ι e H σ) : ∀ vs, RE K z ι (wipeE e vs) H (L2.wipe σ vs)
  | [] => r
  | v :: vs => (RE.wipe r vs).unset v

/-- the targets of a comprehension: a name, a tuple of names -/
inductive CTg where
  | one (i : Nat)
  | many (is : List Nat)
def setAll : List Nat → List D → En → En
  | i :: is, d :: ds, e => setAll is ds (e.set i (some d))
  | _, _, e => e
/-- what the target makes of an item -/
def CTg.set : CTg → D → En → Option En
  | .one i, d, e => some (e.set i (some d))
  | .many is, .tup ds, e => if ds.length = is.length then some (setAll is ds e) else none
  | .many _, _, _ => none
def CTg.own : CTg → List Nat
  | .one i => [i]
  | .many is => is
def gNames : List Nat → TGs
  | [] => gNil
  | i :: is => gCons (gName i) (gNames is)
def CTg.tg (K : PySem.W.Frag) : CTg → TG
  | .one i => gName i
  | .many is => gTup K is.length (gNames is)
theorem names_run {K : PySem.W.Frag} {z : Zs} {ι : List Addr} {H : Hp} {own : List Nat} {Q : L2.St → Hp → Prop} {σ₀ : L2.St} : ∀ (is : List Nat) (xs : List V) (ds : List D) (e : En) (σ : L2.St), (∀ i ∈ is, i ∈ own) → xs.length = is.length → Dens K z ι H xs ds → RE K z ι e H σ → wipe σ own = wipe σ₀ own →
    (∀ σ', RE K z ι (setAll is ds e) H σ' → wipe σ' own = wipe σ₀ own → Q σ' H) → gNames is xs σ H Q
  | [], xs, ds, e, σ, _, hl, dn, re, hw, q => by
    cases xs with
    | nil =>
      cases dn
      exact ⟨rfl, q σ re hw⟩
    | cons _ _ => cases hl
  | i :: is, xs, ds, e, σ, hi, hl, dn, re, hw, q => by
    cases dn with
    | nil => cases hl
    | cons a b =>
      refine ⟨_, _, rfl, ?_⟩
      refine names_run is _ _ _ _ (fun j hj => hi j (List.mem_cons_of_mem _ hj)) (by simpa using hl) b (re.set i a) ?_ q
      rw [wipe_set (hi i List.mem_cons_self)]; exact hw
theorem ctg_run {K : PySem.W.Frag} {z : Zs} {ι : List Addr} {H : Hp} {Q : L2.St → Hp → Prop} {σ : L2.St} {c : CTg} {own : List Nat} {v : V} {d : D} {e e' : En} (hc : ∀ i ∈ c.own, i ∈ own) (dn : Den K z ι H v d) (re : RE K z ι e H σ) (hs : c.set d e = some e')
    (q : ∀ σ', RE K z ι e' H σ' → wipe σ' own = wipe σ own → Q σ' H) : c.tg K v σ H Q := by
  cases c with
  | one i =>
    injection hs with hs; subst hs
    exact q _ (re.set i dn) (wipe_set (hc i (by simp [CTg.own])))
  | many is =>
    cases d with
    | tup ds =>
      unfold CTg.set at hs
      dsimp only at hs
      split at hs
      · rename_i hl
        injection hs with hs; subst hs
        obtain ⟨p, xs, rfl, hp, hx⟩ := den_tup dn
        exact ⟨p, xs, rfl, hp, by rw [hx.length, hl], names_run is xs ds e σ hc (by rw [hx.length, hl]) hx re rfl q⟩
      · cases hs
    | _ => cases hs

/-- weaker than Kp: what data lean on -/
theorem Den.keep2 {K : PySem.W.Frag} {z : Zs} {ι ι' : List Addr} {H H' : Hp} (k : ι <+: ι') (t : ∀ p xs, SqT K H p xs → SqT K H' p xs) (fz : ∀ p o, NL o → H p = some o → H' p = some o) {v : V} {d : D} (q : Den K z ι H v d) : Den K z ι' H' v d := by
  refine Den.rec (motive_1 := fun v d _ => Den K z ι' H' v d) (motive_2 := fun vs ds _ => Dens K z ι' H' vs ds) .non .bl .int .str (fun h _ ih => .tup (t _ _ h) ih) (fun h _ ih => .lst h ih) (fun {p n} h => .ref ?_ ) .adr (fun h _ ih => .box (h.keep fz) ih) .nil (fun _ _ a b => .cons a b) q
  obtain ⟨r, e⟩ := k
  rw [← e]
  obtain ⟨hl, _⟩ := List.getElem?_eq_some_iff.mp h
  rw [List.getElem?_append_left hl]
  exact h
theorem Dens.keep2 {K : PySem.W.Frag} {z : Zs} {ι ι' : List Addr} {H H' : Hp} (k : ι <+: ι') (t : ∀ p xs, SqT K H p xs → SqT K H' p xs) (fz : ∀ p o, NL o → H p = some o → H' p = some o) : ∀ {vs : List V} {ds : List D}, Dens K z ι H vs ds → Dens K z ι' H' vs ds
  | _, _, .nil => .nil
  | _, _, .cons a b => .cons (a.keep2 k t fz) (Dens.keep2 k t fz b)
section
variable {K : PySem.W.Frag} {z : Zs} {ι ι' : List Addr} {h : Hh} {H H' : Hp} {A : Addr} {xs ys : List V}
theorem notTup (e : H A = some (.lst xs)) : ∀ ys, ¬ Rd H A (.tup ys) := fun ys q => by
  rcases q with q | ⟨u, q⟩ <;> rw [e] at q <;> cases q
/-- a list that is tracked and not owned is written: seen from where it was not yet -/
theorem Kp.poke (k : Kp K ι ι' H H') (h0 : H A = none) (e : H' A = some (.lst xs)) (o : HO) : Kp K ι ι' H (upd H' A o) :=
  ⟨k.pre, fun a u ha q => by rw [upd_ne (ne_of_none q h0)]; exact k.frame a u ha q, fun p ws q => sqT_upd (notTup e) (k.tup p ws q), k.new, fun p o n q => fz_upd e p o n (k.fz p o n q)⟩
theorem RH.poke (r : RH K z ι h H) (hz : z.H A = none) (hA : A ∉ ι) (e : H A = some (.lst xs)) (o : HO) : RH K z ι h (upd H A o) := by
  refine ⟨r.base.poke hz e o, r.len, r.nd, fun n u hn => ?_⟩
  obtain ⟨q, h1, h2⟩ := r.obj n u hn
  refine ⟨q, h1, ?_⟩
  have hne : q ≠ A := fun c => hA (c ▸ List.mem_of_getElem? h1)
  cases u with
  | lst ds =>
    obtain ⟨ws, e1, e2⟩ := h2
    exact ⟨ws, by rw [upd_ne hne]; exact e1, e2.keep2 (List.prefix_refl _) (fun p ws q => sqT_upd (notTup e) q) (fz_upd e)⟩
/-- .. and owned from now on -/
theorem Kp.adopt (k : Kp K ι ι' H H') (h0 : H A = none) : Kp K ι (ι' ++ [A]) H H' :=
  ⟨k.pre.trans (List.prefix_append _ _), k.frame, k.tup, fun p hp => by
    rcases List.mem_append.mp hp with m | m
    · exact k.new p m
    · rw [List.mem_singleton] at m; subst m; exact .inr h0, k.fz⟩
theorem RH.adopt {ds : List D} (r : RH K z ι h H) (hz : z.H A = none) (hA : A ∉ ι) (e : H A = some (.lst xs)) (q : Dens K z ι H xs ds) : RH K z (ι ++ [A]) (h ++ [.lst ds]) H := by
  have pre : ι <+: ι ++ [A] := List.prefix_append _ _
  refine ⟨r.base.adopt hz, by rw [List.length_append, List.length_append, r.len]; rfl, ?_, fun n u hn => ?_⟩
  · rw [List.nodup_append]
    exact ⟨r.nd, by simp, fun a ha b hb => by rw [List.mem_singleton] at hb; subst hb; exact fun c => hA (c ▸ ha)⟩
  · by_cases hl : n < h.length
    · rw [List.getElem?_append_left hl] at hn
      obtain ⟨q', h1, h2⟩ := r.obj n u hn
      refine ⟨q', by rw [List.getElem?_append_left (by rw [r.len]; exact hl)]; exact h1, ?_⟩
      cases u with
      | lst ds =>
        obtain ⟨ws, e1, e2⟩ := h2
        exact ⟨ws, e1, e2.keep2 pre (fun _ _ q => q) (fun _ _ _ q => q)⟩
    · have hl2 : n = h.length := by
        have := (List.getElem?_eq_some_iff.mp hn).1
        rw [List.length_append] at this
        simp at this; omega
      subst hl2
      rw [List.getElem?_append_right (Nat.le_refl _), Nat.sub_self] at hn
      injection hn with hn
      subst hn
      exact ⟨A, by rw [List.getElem?_append_right (by rw [r.len]; exact Nat.le_refl _), r.len, Nat.sub_self]; rfl, xs, e, q.keep2 pre (fun _ _ q => q) (fun _ _ _ q => q)⟩
end

def NoW : WX := fun _ _ _ _ => False
def noX : XK' := fun _ _ => False
/-- no test, one test -/
def tYesD : dT := fun _ h Q _ => Q true h
def dLc (src : dSrc) (c : CTg) (own : List Nat) (tt : dT) (te : dE) : dE := fun e h Q E => src e h (fun ds G h1 => ∃ P : Nat → List D → Hh → Prop, P 0 [] h1 ∧ (∀ i acc h', i ≤ ds.length → P i acc h' → G h') ∧
  (∀ (i : Nat) (x : D) acc h', ds[i]? = some x → P i acc h' → ∃ e2, c.set x (wipeE e own) = some e2 ∧ tt e2 h' (fun b h3 => match b with
    | true => te e2 h3 (fun y h4 => acc.length < sizeLine ∧ P (i + 1) (acc ++ [y]) h4) noX
    | false => P (i + 1) acc h3) noX) ∧ (∀ acc h', P ds.length acc h' → Q (.ref h'.length) (h' ++ [.lst acc]))) E
structure DTs (X : Cx) (z : Zs) (W : WX) (ifs : List Expr) (t : dT) : Prop where
  run : PTs X ifs (liftT X.K X.mg z W t)
  mono : Mono t
theorem pts_imp {X : Cx} {a : List Expr} {t t' : TT} (h : PTs X a t) (i : ∀ σ H Q, t' σ H Q → t σ H Q) : PTs X a t' := ⟨fun pins s σ H Q I w => h.run pins s σ H Q I (i σ H Q w)⟩
theorem dts_nil {X : Cx} {z : Zs} {W : WX} : DTs X z W [] tYesD := ⟨pts_imp pts_nil fun σ H Q ⟨ι, h, e, r, q⟩ => q ι H Kp.refl r, fun _ _ _ _ _ _ hQ _ q => hQ _ _ q⟩
theorem dts_one {X : Cx} {z : Zs} {W : WX} {c : Expr} {t : dT} (h : DT X z W c t) : DTs X z W [c] t := ⟨pts_one h.run, h.mono⟩
section
variable {X : Cx} {z : Zs} {W : WX} {elt tg iter : Expr} {ifs : List Expr} {src : dSrc} {c : CTg} {own : List (Str × Nat)} {tt : dT} {te : dE} {scope : Scope} {pos : Pos}
theorem mono_lc {o : List Nat} (mi : MonoI src) : Mono (dLc src c o tt te) := fun e h _ _ _ _ hQ hE q => mi _ _ _ _ _ _ (fun ds G h1 ⟨P, p0, pg, ps, pd⟩ => ⟨P, p0, pg, ps, fun acc h' p => hQ _ _ (pd acc h' p)⟩) hE q
theorem lc_read (hi : DI X z W tg iter src) (hc : ∀ i ∈ c.own, i ∈ own.map (·.2)) (mt : Mono tt) (me : Mono te) {σ : L2.St} {H : Hp} {Q : VK} (hh : lift X.K X.mg z W (dLc src c (own.map (·.2)) tt te) σ H Q) :
    tLc (liftI X.K X.mg z W src) (c.tg X.K) (liftT X.K X.mg z NoW tt) (lift X.K X.mg z NoW te) (own.map (·.2)) σ H Q := by
  obtain ⟨ι, h, e, r, q⟩ := hh
  generalize hvs : own.map (·.2) = vs at hc q ⊢
  refine ⟨ι, h, e, r, hi.mono _ _ _ _ _ _ (fun ds G h1 w ι1 H1 J k1 r1 _ it => ?_) (fun _ _ q => q) q⟩
  obtain ⟨P, p0, pg, ps, pd⟩ := w
  intro A hA
  have hz : z.H A = none := by
    cases ez : z.H A with
    | none => rfl
    | some o =>
      by_cases hm : A ∈ z.ι
      · obtain ⟨u, eu⟩ := r1.hp.tracked (r1.hp.base.pre.subset hm)
        rw [hA] at eu; cases eu
      · have := r1.hp.base.frame A o hm ez
        rw [hA] at this; cases this
  have hA1 : A ∉ ι1 := r1.hp.notown hA
  have start : RH X.K z ι1 h1 (upd H1 A (.lst [])) := r1.hp.laid hA _
  refine ⟨fun i m H' => m = ds.length - i ∧ i ≤ ds.length ∧ ∃ ι' h' acc xs, Kp X.K ι1 ι' H1 H' ∧ RH X.K z ι' h' H' ∧ H' A = some (.lst xs) ∧ A ∉ ι' ∧ Dens X.K z ι' H' xs acc ∧ P i acc h',
    ⟨ds.length, by simp, Nat.zero_le _, ι1, h1, [], [], Kp.laid hA _, start, upd_same, hA1, .nil, p0⟩, ?_⟩
  rintro i m H2 ⟨rfl, hi2, ι2, h2, acc, xs, k2, r2, e2, hA2, dn2, p2⟩
  have io := it ι2 h2 H2 k2 r2 (pg i acc h2 hi2 p2) i
  by_cases hlt : i < ds.length
  · obtain ⟨go, yl⟩ := io.2 hlt
    refine .inr ⟨go, fun H' => ∃ ι' h' acc xs, Kp X.K ι1 ι' H1 H' ∧ RH X.K z ι' h' H' ∧ H' A = some (.lst xs) ∧ A ∉ ι' ∧ Dens X.K z ι' H' xs acc ∧ P (i + 1) acc h', fun H' w => ⟨ds.length - (i + 1), by omega, rfl, hlt, w⟩, fun x H3 y => ?_⟩
    obtain ⟨d, hd, k3, r3, dn⟩ := yl x H3 y
    obtain ⟨e4, he4, q4⟩ := ps i d acc h2 hd p2
    have re3 : RE X.K z ι2 (wipeE e vs) H3 (wipe σ vs) := ((r1.en.keep k2).keep k3).wipe vs
    have eA3 : H3 A = some (.lst xs) := k3.frame A _ hA2 e2
    refine ctg_run hc dn re3 he4 fun σ' re' hw => ⟨by rw [hw]; exact wipe_idem fun _ q => q, ?_⟩
    refine liftT_of mt ⟨r3, re'⟩ q4 (fun b h5 ι5 H5 q5 k5 r5 => ?_) (fun _ _ q => q.elim)
    have hA5 : A ∉ ι5 := fun hm => by
      rcases k5.new A hm with w | w
      · exact hA2 w
      · rw [eA3] at w; cases w
    have eA5 : H5 A = some (.lst xs) := k5.frame A _ hA2 eA3
    have dn5 := (dn2.keep k3).keep k5
    cases b with
    | false => exact iteF ⟨ι5, h5, acc, xs, (k2.trans k3).trans k5, r5.hp, eA5, hA5, dn5, q5⟩
    | true =>
      refine iteT (lift_of me r5 q5 (fun y' h6 ι6 H6 v q6 k6 r6 d6 => ?_) (fun _ _ q => q.elim))
      have eA6 : H6 A = some (.lst xs) := k6.frame A _ hA5 eA5
      have hA6 : A ∉ ι6 := fun hm => by
        rcases k6.new A hm with w | w
        · exact hA5 w
        · rw [eA5] at w; cases w
      have dn6 := dn5.keep k6
      have tk : ∀ p ws, SqT X.K H6 p ws → SqT X.K (upd H6 A (.lst (xs ++ [v]))) p ws := fun p ws q => sqT_upd (notTup eA6) q
      refine ⟨xs, eA6, by rw [dn6.length]; exact q6.1, ι6, h6, acc ++ [y'], xs ++ [v], (((k2.trans k3).trans k5).trans k6).poke hA eA6 _, r6.hp.poke hz hA6 eA6 _, upd_same, hA6, ?_, q6.2⟩
      exact (dn6.append (.cons d6 .nil)).keep2 (List.prefix_refl _) tk (fz_upd eA6)
  · have ei : i = ds.length := by omega
    subst ei
    refine .inl ⟨io.1 (Nat.le_refl _), ?_⟩
    have ka : Kp X.K ι1 (ι2 ++ [A]) H1 H2 := k2.adopt hA
    refine pd acc h2 p2 (ι2 ++ [A]) H2 (.ref A) (k1.trans ka) ⟨r2.adopt hz hA2 e2 dn2, r1.en.keep ka⟩ (den_new r2)
theorem de_lc (hc : X.calm = true) (hN : X.N.Nodup) (hi : DI X z W tg iter src) (ok : BlkOk X.N X.env.scope scope own) (ho : ∀ i ∈ c.own, i ∈ own.map (·.2))
    (hg : ∀ (s : Shared) (H : Hp) (C : Addr) (cl : List (Str × Addr)) (fp : List Addr), PG (X.blk s H scope (compEnvC scope cl C X.env) fp) tg (c.tg X.K))
    (ht : ∀ (s : Shared) (H : Hp) (C : Addr) (cl : List (Str × Addr)) (fp : List Addr), DTs (X.blk s H scope (compEnvC scope cl C X.env) fp) z NoW ifs tt)
    (he : ∀ (s : Shared) (H : Hp) (C : Addr) (cl : List (Str × Addr)) (fp : List Addr), DE (X.blk s H scope (compEnvC scope cl C X.env) fp) z NoW elt te)
    (hs : ∀ x, foldedSetIterable iter X.env x = pure x) :
    DE X z W (.ListComp elt [⟨tg, iter, ifs, 0⟩] scope pos) (dLc src c (own.map (·.2)) tt te) :=
  ⟨pe_imp (pe_lc hc hN hi.run ok hg (fun s H C cl fp => (ht s H C cl fp).run) (fun s H C cl fp => (he s H C cl fp).run) hs) fun _ _ _ hh => lc_read hi ho (ht X.s_0 X.H_0 0 [] []).mono (he X.s_0 X.H_0 0 [] []).mono hh, mono_lc hi.mono⟩
/-- name = [..] -/
theorem ds_setLc (i : Nat) {y : Str} {py spos : Pos} (hc : X.calm = true) (hN : X.N.Nodup) (hy : X.N[i]? = some y) (hyl : X.env.scope.names.lookup y = some .local)
    (hsw : swapsWith (.ListComp elt [⟨tg, iter, ifs, 0⟩] scope pos) (some (.Name y py)) spos.line X.env = pure true) (hi : DI X z W tg iter src) (ok : BlkOk X.N X.env.scope scope own) (ho : ∀ i ∈ c.own, i ∈ own.map (·.2))
    (hg : ∀ (s : Shared) (H : Hp) (C : Addr) (cl : List (Str × Addr)) (fp : List Addr), PG (X.blk s H scope (compEnvC scope cl C X.env) fp) tg (c.tg X.K))
    (ht : ∀ (s : Shared) (H : Hp) (C : Addr) (cl : List (Str × Addr)) (fp : List Addr), DTs (X.blk s H scope (compEnvC scope cl C X.env) fp) z NoW ifs tt)
    (he : ∀ (s : Shared) (H : Hp) (C : Addr) (cl : List (Str × Addr)) (fp : List Addr), DE (X.blk s H scope (compEnvC scope cl C X.env) fp) z NoW elt te)
    (hs : ∀ x, foldedSetIterable iter X.env x = pure x) :
    DS X z W (.Assign [.Name y py] (.ListComp elt [⟨tg, iter, ifs, 0⟩] scope pos) spos) (sAsg (dLc src c (own.map (·.2)) tt te) (gN i)) := by
  refine ⟨ps_imp (ps_setLc (tt := liftT X.K X.mg z NoW tt) (te := lift X.K X.mg z NoW te) hc hN hy hyl hsw hi.run ok hg (fun s H C cl fp => (ht s H C cl fp).run) (fun s H C cl fp => (he s H C cl fp).run) hs) fun D' σ H hh => ?_, mono_asg (mono_lc hi.mono) fun _ _ _ _ _ _ _ hQ _ q => hQ _ _ q⟩
  obtain ⟨ι, h, e, r, q⟩ := hh
  refine lc_read hi ho (ht X.s_0 X.H_0 0 [] []).mono (he X.s_0 X.H_0 0 [] []).mono ⟨ι, h, e, r, (mono_lc hi.mono) _ _ _ _ _ _ (fun d h1 q1 ι1 H1 v k1 r1 d1 => ?_) (ex_at r) q⟩
  exact q1 ι1 H1 _ k1 ⟨r1.hp, r1.en.set i d1⟩
end
end Dn


namespace Dn
open PySem PySem.Spec PyProof.Rows L2

/-! ### plain data: no list, no address -/
mutual
def pureD : D → Bool
  | .tup ds => pureDs ds
  | .lst _ => false
  | .ref _ => false
  | .adr _ => false
  | .box _ ds => pureDs ds
  | .non => true
  | .bl _ => true
  | .int _ => true
  | .str _ => true
def pureDs : List D → Bool
  | [] => true
  | d :: ds => pureD d && pureDs ds
end
def pureX (x : Ex) : Bool := pureDs (x.fld.map (·.2))
section
variable {K : PySem.W.Frag} {z z' : Zs} {ι ι' : List Addr} {H : Hp}
mutual
theorem den_pure : ∀ (d : D) (v : V), pureD d = true → Den K z ι H v d → Den K z' ι' H v d
  | .non, _, _, q => by cases q; exact .non
  | .bl b, _, _, q => by cases q; exact .bl b
  | .int b, _, _, q => by cases q; exact .int b
  | .str b, _, _, q => by cases q; exact .str b
  | .tup ds, _, p, q => by
    unfold pureD at p
    obtain ⟨a, xs, rfl, ha, hx⟩ := den_tup q
    exact .tup ha (dens_pure ds xs p hx)
  | .lst _, _, p, _ => by unfold pureD at p; cases p
  | .ref _, _, p, _ => by unfold pureD at p; cases p
  | .adr _, _, p, _ => by unfold pureD at p; cases p
  | .box _ ds, _, p, q => by
    unfold pureD at p
    cases q with
    | box ha hx => exact .box ha (dens_pure ds _ p hx)
theorem dens_pure : ∀ (ds : List D) (vs : List V), pureDs ds = true → Dens K z ι H vs ds → Dens K z' ι' H vs ds
  | [], _, _, q => by cases q; exact .nil
  | d :: ds, _, p, q => by
    unfold pureDs at p
    rw [Bool.and_eq_true] at p
    cases q with
    | cons a b => exact .cons (den_pure d _ p.1 a) (dens_pure ds _ p.2 b)
end
end

/-! ### an argument as the callee sees it: an owned list as a list that stands still -/
mutual
inductive View (h : Hh) (ok : Nat → Prop) : D → D → Prop
  | pure {d : D} : pureD d = true → View h ok d d
  | own {n : Nat} {ds es : List D} : h[n]? = some (.lst ds) → ok n → Views h ok ds es → View h ok (.ref n) (.lst es)
  | lst {ds es : List D} : Views h ok ds es → View h ok (.lst ds) (.lst es)
  | tup {ds es : List D} : Views h ok ds es → View h ok (.tup ds) (.tup es)
inductive Views (h : Hh) (ok : Nat → Prop) : List D → List D → Prop
  | nil : Views h ok [] []
  | cons {d e : D} {ds es : List D} : View h ok d e → Views h ok ds es → Views h ok (d :: ds) (e :: es)
end
theorem Views.length {h : Hh} {ok : Nat → Prop} : ∀ {ds es : List D}, Views h ok ds es → ds.length = es.length
  | _, _, .nil => rfl
  | _, _, .cons _ b => by rw [List.length_cons, List.length_cons, Views.length b]
theorem Views.pures {h : Hh} {ok : Nat → Prop} : ∀ {ds : List D}, pureDs ds = true → Views h ok ds ds
  | [], _ => .nil
  | d :: ds, p => by
    unfold pureDs at p
    rw [Bool.and_eq_true] at p
    exact .cons (.pure p.1) (Views.pures p.2)
section
variable {K : PySem.W.Frag} {z : Zs} {ι : List Addr} {h : Hh} {H : Hp} {ok : Nat → Prop} {own : List Addr}
mutual
theorem View.den (r : RH K z ι h H) (ho : ∀ (n : Nat) (p : Addr), ok n → ι[n]? = some p → p ∉ own) (hz : ∀ p ∈ own, p ∈ ι) : ∀ {d e : D} {v : V}, View h ok d e → Den K z ι H v d → Den K ⟨own, H⟩ own H v e
  | _, _, _, .pure p, q => den_pure _ _ p q
  | _, _, _, .own hn hk vs, q => by
    obtain ⟨p, xs, rfl, hi, hp, hx, _⟩ := r.list q hn
    exact .lst (.inl ⟨.inl hp, ho _ _ hk hi⟩) (Views.dens r ho hz vs hx)
  | _, _, _, .lst vs, q => by
    cases q with
    | lst hp hx =>
      refine .lst ?_ (Views.dens r ho hz vs hx)
      rcases hp with ⟨hp, hm⟩ | hp
      · refine .inl ⟨?_, fun hc => ?_⟩
        · rcases hp with hp | ⟨u, hp⟩
          · exact .inl (r.base.frame _ _ hm hp)
          · exact .inr ⟨u, r.base.frame _ _ hm hp⟩
        · rcases r.base.new _ (hz _ hc) with w | w
          · exact hm w
          · rcases hp with hp | ⟨u, hp⟩ <;> rw [w] at hp <;> cases hp
      · exact .inr hp
  | _, _, _, .tup vs, q => by
    obtain ⟨p, xs, rfl, hp, hx⟩ := den_tup q
    exact .tup hp (Views.dens r ho hz vs hx)
theorem Views.dens (r : RH K z ι h H) (ho : ∀ (n : Nat) (p : Addr), ok n → ι[n]? = some p → p ∉ own) (hz : ∀ p ∈ own, p ∈ ι) : ∀ {ds es : List D} {vs : List V}, Views h ok ds es → Dens K z ι H vs ds → Dens K ⟨own, H⟩ own H vs es
  | _, _, _, .nil, .nil => .nil
  | _, _, _, .cons a b, .cons c d => .cons (View.den r ho hz a c) (Views.dens r ho hz b d)
end
end
end Dn


namespace Dn
open PySem PySem.Spec PyProof.Rows L2

/-! ### data that name n lists by their numbers -/
mutual
def refD (n : Nat) : D → Bool
  | .tup ds => refDs n ds
  | .lst _ => false
  | .ref m => decide (m < n)
  | .adr _ => false
  | .box _ ds => refDs n ds
  | .non => true
  | .bl _ => true
  | .int _ => true
  | .str _ => true
def refDs (n : Nat) : List D → Bool
  | [] => true
  | d :: ds => refD n d && refDs n ds
end
mutual
def relD (f : Nat → Nat) : D → D
  | .tup ds => .tup (relDs f ds)
  | .lst ds => .lst ds
  | .ref m => .ref (f m)
  | .adr a => .adr a
  | .box t ds => .box t (relDs f ds)
  | .non => .non
  | .bl b => .bl b
  | .int i => .int i
  | .str x => .str x
def relDs (f : Nat → Nat) : List D → List D
  | [] => []
  | d :: ds => relD f d :: relDs f ds
end
section
variable {K : PySem.W.Frag} {z z' : Zs} {ι ι' : List Addr} {H : Hp} {n : Nat} {f : Nat → Nat}
mutual
theorem den_rel (hf : ∀ m, m < n → ι'[f m]? = ι[m]?) : ∀ (d : D) (v : V), refD n d = true → Den K z ι H v d → Den K z' ι' H v (relD f d)
  | .non, _, _, q => by cases q; exact .non
  | .bl b, _, _, q => by cases q; exact .bl b
  | .int b, _, _, q => by cases q; exact .int b
  | .str b, _, _, q => by cases q; exact .str b
  | .tup ds, _, p, q => by
    unfold refD at p
    obtain ⟨a, xs, rfl, ha, hx⟩ := den_tup q
    unfold relD
    exact .tup ha (dens_rel hf ds xs p hx)
  | .ref m, _, p, q => by
    unfold refD at p
    cases q with
    | ref hm => unfold relD; exact .ref (by rw [hf m (of_decide_eq_true p)]; exact hm)
  | .lst _, _, p, _ => by unfold refD at p; cases p
  | .adr _, _, p, _ => by unfold refD at p; cases p
  | .box _ ds, _, p, q => by
    unfold refD at p
    unfold relD
    cases q with
    | box ha hx => exact .box ha (dens_rel hf ds _ p hx)
theorem dens_rel (hf : ∀ m, m < n → ι'[f m]? = ι[m]?) : ∀ (ds : List D) (vs : List V), refDs n ds = true → Dens K z ι H vs ds → Dens K z' ι' H vs (relDs f ds)
  | [], _, _, q => by cases q; unfold relDs; exact .nil
  | d :: ds, _, p, q => by
    unfold refDs at p
    rw [Bool.and_eq_true] at p
    cases q with
    | cons a b => unfold relDs; exact .cons (den_rel hf d _ p.1 a) (dens_rel hf ds _ p.2 b)
end
mutual
theorem den_unrel (hf : ∀ m, m < n → ι'[f m]? = ι[m]?) : ∀ (d : D) (v : V), refD n d = true → Den K z' ι' H v (relD f d) → Den K z ι H v d
  | .non, _, _, q => by unfold relD at q; cases q; exact .non
  | .bl b, _, _, q => by unfold relD at q; cases q; exact .bl b
  | .int b, _, _, q => by unfold relD at q; cases q; exact .int b
  | .str b, _, _, q => by unfold relD at q; cases q; exact .str b
  | .tup ds, _, p, q => by
    unfold refD at p
    unfold relD at q
    obtain ⟨a, xs, rfl, ha, hx⟩ := den_tup q
    exact .tup ha (dens_unrel hf ds xs p hx)
  | .ref m, _, p, q => by
    unfold refD at p
    unfold relD at q
    cases q with
    | ref hm => exact .ref (by rw [← hf m (of_decide_eq_true p)]; exact hm)
  | .lst _, _, p, _ => by unfold refD at p; cases p
  | .adr _, _, p, _ => by unfold refD at p; cases p
  | .box _ ds, _, p, q => by
    unfold refD at p
    unfold relD at q
    cases q with
    | box ha hx => exact .box ha (dens_unrel hf ds _ p hx)
theorem dens_unrel (hf : ∀ m, m < n → ι'[f m]? = ι[m]?) : ∀ (ds : List D) (vs : List V), refDs n ds = true → Dens K z' ι' H vs (relDs f ds) → Dens K z ι H vs ds
  | [], _, _, q => by unfold relDs at q; cases q; exact .nil
  | d :: ds, _, p, q => by
    unfold refDs at p
    rw [Bool.and_eq_true] at p
    unfold relDs at q
    cases q with
    | cons a b => exact .cons (den_unrel hf d _ p.1 a) (dens_unrel hf ds _ p.2 b)
end
end
/-! ### what a def gives back -/
inductive Out where
  | val (d : D)
  | new (es : List D)
  | drw (c : List Int) (a z x : Int)
  | gen (d : D) (ls : List (List D))
/-- the state of the draws: the cells, the place, the number drawn from, the seed -/
structure DrS where
  c : List Int
  a : Int
  z : Int
  x : Int
def drV (q : Addr) (s : DrS) : List V := [.ref q, .int s.a, .int s.z, .int s.x]
def drD (m : Nat) (s : DrS) : List D := [.ref m, .int s.a, .int s.z, .int s.x]
def OutR (K : PySem.W.Frag) (H H' : Hp) (v : V) : Out → Prop
  | .val d => pureD d = true ∧ Den K ⟨[], H'⟩ [] H' v d
  | .new es => pureDs es = true ∧ ∃ p xs, v = .ref p ∧ H p = none ∧ H' p = some (.lst xs) ∧ Dens K ⟨[], H'⟩ [] H' xs es
  | .drw c a z x => ∃ p q, v = .ref p ∧ p ≠ q ∧ H p = none ∧ H q = none ∧ H' p = some (.lst (drV q ⟨c, a, z, x⟩)) ∧ H' q = some (.lst (c.map V.int))
  | .gen d ls => refD ls.length d = true ∧ (∀ l ∈ ls, refDs ls.length l = true) ∧ ∃ ps : List Addr, ps.length = ls.length ∧ ps.Nodup ∧ (∀ p ∈ ps, H p = none) ∧
      (∀ (i : Nat) (l : List D), ls[i]? = some l → ∃ p xs, ps[i]? = some p ∧ H' p = some (.lst xs) ∧ Dens K ⟨[], H'⟩ ps H' xs l) ∧ Den K ⟨[], H'⟩ ps H' v d
def outPure : Out → Bool
  | .val d => pureD d
  | .new es => pureDs es
  | .drw .. => true
  | .gen .. => true
/-- what the caller has behind it -/
def outPost (Q : D → Hh → Prop) (h : Hh) : Out → Prop
  | .val d => Q d h
  | .new es => Q (.ref h.length) (h ++ [.lst es])
  | .drw c a z x => Q (.ref (h.length + 1)) ((h ++ [.lst (c.map .int)]) ++ [.lst (drD h.length ⟨c, a, z, x⟩)])
  | .gen d ls => Q (relD (fun m => h.length + m) d) (h ++ ls.map fun l => .lst (relDs (fun m => h.length + m) l))
theorem outPost_mono {Q Q' : D → Hh → Prop} {h : Hh} {o : Out} (hQ : ∀ d h', Q d h' → Q' d h') (q : outPost Q h o) : outPost Q' h o := by
  cases o <;> exact hQ _ _ q
/-- what the def's body must reach -/
def outOk (P : Out → Prop) (d : D) (h : Hh) : Prop := match d with
  | .ref j => match h[j]? with
    | some (.lst es) => (pureDs es = true ∧ P (.new es)) ∨ ∃ m a z x c, es = [.ref m, .int a, .int z, .int x] ∧ m ≠ j ∧ h[m]? = some (.lst (c.map .int)) ∧ P (.drw c a z x)
    | none => False
  | d => pureD d = true ∧ P (.val d)
theorem outOk_mono {P P' : Out → Prop} {d : D} {h : Hh} (hP : ∀ o, P o → P' o) (q : outOk P d h) : outOk P' d h := by
  unfold outOk at q ⊢
  split at q
  · split at q
    · rcases q with q | ⟨m, a, z, x, c, e1, e2, e3, q⟩
      · exact .inl ⟨q.1, hP _ q.2⟩
      · exact .inr ⟨m, a, z, x, c, e1, e2, e3, hP _ q⟩
    · exact q.elim
  · exact ⟨q.1, hP _ q.2⟩
theorem outOk_val {P : Out → Prop} {d : D} {h : Hh} (p : pureD d = true) (q : P (.val d)) : outOk P d h := by
  unfold outOk
  cases d with
  | ref j => unfold pureD at p; cases p
  | _ => exact ⟨p, q⟩
/-- .. lists of its own, from the place lo on, among them -/
def genOk (lo : Nat) (P : Out → Prop) (d : D) (h : Hh) : Prop := ∃ (g : D) (ls : List (List D)) (js : List Nat), js.length = ls.length ∧ js.Nodup ∧ (∀ j ∈ js, lo ≤ j) ∧ refD ls.length g = true ∧ (∀ l ∈ ls, refDs ls.length l = true) ∧
  d = relD (fun m => js.getD m 0) g ∧ (∀ (i : Nat) (l : List D), ls[i]? = some l → h[js.getD i 0]? = some (.lst (relDs (fun m => js.getD m 0) l))) ∧ P (.gen g ls)
theorem genOk_mono {lo : Nat} {P P' : Out → Prop} {d : D} {h : Hh} (hP : ∀ o, P o → P' o) (q : genOk lo P d h) : genOk lo P' d h := by
  obtain ⟨g, ls, js, a, b, c, d, e, f, i, k⟩ := q
  exact ⟨g, ls, js, a, b, c, d, e, f, i, hP _ k⟩
def outOkG (P : Out → Prop) (d : D) (h : Hh) : Prop := outOk P d h ∨ genOk 0 P d h

section
variable {K : PySem.W.Frag} {z : Zs} {ι : List Addr} {h : Hh} {e : En} {H H' : Hp} {σ : L2.St} {p : Addr}
theorem dens_ints : ∀ {xs : List V} {c : List Int}, Dens K z ι H xs (c.map .int) → xs = c.map V.int
  | [], [], _ => rfl
  | [], _ :: _, q => by cases q
  | _ :: _, [], q => by cases q
  | x :: xs, i :: c, q => by
    cases q with
    | cons a b => rw [den_int a, dens_ints b]; rfl
theorem ints_dens : ∀ (c : List Int), Dens K z ι H (c.map V.int) (c.map .int)
  | [] => .nil
  | i :: c => .cons (.int i) (ints_dens c)
theorem same_sqT (s : Same H H') {p : Addr} {xs : List V} (q : SqT K H p xs) : SqT K H' p xs := by
  rcases q with (q | ⟨u, q⟩) | q
  · exact .inl (.inl (s _ _ q))
  · exact .inl (.inr ⟨u, s _ _ q⟩)
  · exact .inr q
theorem Kp.same (s : Same H H') : Kp K ι ι H H' := ⟨List.prefix_refl _, fun a u _ q => s a u q, fun _ _ q => same_sqT s q, fun _ q => .inl q, fun _ _ _ q => s _ _ q⟩
theorem RH.same (r : RH K z ι h H) (s : Same H H') : RH K z ι h H' := by
  refine ⟨r.base.trans (Kp.same s), r.len, r.nd, fun n u hn => ?_⟩
  obtain ⟨q, h1, h2⟩ := r.obj n u hn
  refine ⟨q, h1, ?_⟩
  cases u with
  | lst ds => obtain ⟨xs, e1, e2⟩ := h2; exact ⟨xs, s _ _ e1, e2.keep (Kp.same s)⟩
theorem RH.zfree (r : RH K z ι h H) (hA : H p = none) : z.H p = none := by
  cases ez : z.H p with
  | none => rfl
  | some o =>
    by_cases hm : p ∈ z.ι
    · obtain ⟨u, eu⟩ := r.tracked (r.base.pre.subset hm)
      rw [hA] at eu; cases eu
    · have := r.base.frame p o hm ez
      rw [hA] at this; cases this
/-- one owned list has changed -/
theorem RH.swap {n : Nat} {xs : List V} {ds : List D} (r : RH K z ι h H) (hn : ι[n]? = some p) (hl : n < h.length) (fr : ∀ a u, a ≠ p → H a = some u → H' a = some u) (hp : H' p = some (.lst xs)) (q : Dens K z ι H xs ds) :
    RH K z ι (h.set n (.lst ds)) H' ∧ Kp K ι ι H H' := by
  have hm : p ∈ ι := List.mem_of_getElem? hn
  have k : Kp K ι ι H H' := by
    refine ⟨List.prefix_refl _, fun a u ha w => fr a u (fun c => ha (by rw [c]; exact hm)) w, fun a ws w => ?_, fun _ w => .inl w, fun a u n w => fr a u (fun c => by subst c; obtain ⟨xs, e⟩ := r.isL hm; rw [e] at w; injection w with w; exact n xs w.symm) w⟩
    rcases w with w | w
    · have ha : a ≠ p := fun c => r.notup (xs := []) hm ws (by rw [← c]; exact w)
      rcases w with w | ⟨u, w⟩
      · exact .inl (.inl (fr _ _ ha w))
      · exact .inl (.inr ⟨u, fr _ _ ha w⟩)
    · exact .inr w
  refine ⟨⟨r.base.trans k, by rw [List.length_set]; exact r.len, r.nd, fun m u hu => ?_⟩, k⟩
  by_cases hmn : n = m
  · subst hmn
    rw [List.getElem?_set_self hl] at hu
    injection hu with hu; subst hu
    exact ⟨p, hn, xs, hp, q.keep k⟩
  · rw [List.getElem?_set_ne hmn] at hu
    obtain ⟨q', h1, h2⟩ := r.obj m u hu
    have hne : q' ≠ p := fun c => by
      subst c
      obtain ⟨a1, b1⟩ := List.getElem?_eq_some_iff.mp hn
      obtain ⟨a2, b2⟩ := List.getElem?_eq_some_iff.mp h1
      exact hmn ((List.getElem_inj r.nd).mp (b1.trans b2.symm))
    refine ⟨q', h1, ?_⟩
    cases u with
    | lst ds =>
      obtain ⟨ys, e1, e2⟩ := h2
      exact ⟨ys, fr _ _ hne e1, e2.keep k⟩
theorem free_back {ι1 : List Addr} {H1 : Hp} {q : Addr} (k : Kp K ι ι1 H H1) (hq : H1 q = none) (hn : q ∉ ι1) : H q = none := by
  cases eq : H q with
  | none => rfl
  | some u =>
    by_cases hm : q ∈ ι
    · exact absurd (k.pre.subset hm) hn
    · rw [k.frame q u hm eq] at hq; cases hq
/-- what a call has given back, in the caller's state: H ahead of the call, H' behind it -/
theorem out_here {Q : VK} {v : V} {o : Out} {H0 : Hp} {ι0 : List Addr} (k : Kp K ι0 ι H0 H') (kc : ∀ q, H q = none → q ∉ ι ∧ H0 q = none ∧ z.H q = none) (r : R K z ι h e H' σ) (q : OutR K H H' v o) (w : outPost (PEq K z ι0 e σ H0 Q) h o) : Q v H' := by
  cases o with
  | val d => exact w ι H' v k r (den_pure d v q.1 q.2)
  | new es =>
    obtain ⟨pe, p, xs, rfl, hp, hp', dn⟩ := q
    obtain ⟨n1, n2, n3⟩ := kc p hp
    have ka : Kp K ι (ι ++ [p]) H' H' → True := fun _ => trivial
    have dn' : Dens K z ι H' xs es := dens_pure es xs pe dn
    refine w (ι ++ [p]) H' _ (k.adopt n2) ⟨r.hp.adopt n3 n1 hp' dn', ?_⟩ (den_new r.hp)
    exact ⟨r.en.len, fun i d c => let ⟨u, u1, u2⟩ := r.en.get i d c; ⟨u, u1, u2.keep2 (List.prefix_append _ _) (fun _ _ c => c) (fun _ _ _ c => c)⟩⟩
  | drw c a zz x =>
    obtain ⟨p, p', rfl, hne, hp, hq, hp', hq'⟩ := q
    obtain ⟨n1, n2, n3⟩ := kc p' hq
    obtain ⟨m1, m2, m3⟩ := kc p hp
    have r1 := r.hp.adopt n3 n1 hq' (ints_dens c)
    have hpn : p ∉ ι ++ [p'] := fun c => by
      rcases List.mem_append.mp c with c | c
      · exact m1 c
      · rw [List.mem_singleton] at c; exact hne c
    have dd : Dens K z (ι ++ [p']) H' (drV p' ⟨c, a, zz, x⟩) (drD h.length ⟨c, a, zz, x⟩) := .cons (den_new r.hp) (.cons (.int _) (.cons (.int _) (.cons (.int _) .nil)))
    have r2 := r1.adopt m3 hpn hp' dd
    have hl : (h ++ [O.lst (c.map .int)]).length = h.length + 1 := by simp
    refine w ((ι ++ [p']) ++ [p]) H' _ ((k.adopt n2).adopt m2) ⟨r2, ?_⟩ ?_
    · exact ⟨r.en.len, fun i d c => let ⟨u, u1, u2⟩ := r.en.get i d c; ⟨u, u1, u2.keep2 ((List.prefix_append _ _).trans (List.prefix_append _ _)) (fun _ _ c => c) (fun _ _ _ c => c)⟩⟩
    · have := den_new (p := p) (H' := H') r1
      rw [hl] at this
      exact this
  | gen d ls =>
    obtain ⟨rd, rl, ps, hpl, hnd, hfr, hps, dn⟩ := q
    have hdis : ∀ p ∈ ps, p ∉ ι := fun p hp => (kc p (hfr p hp)).1
    have hf : ∀ m, m < ls.length → (ι ++ ps)[h.length + m]? = ps[m]? := fun m hm => by
      rw [List.getElem?_append_right (by rw [r.hp.len]; omega), r.hp.len, Nat.add_sub_cancel_left]
    have kp : ∀ {ι1 : List Addr} {H1 : Hp}, Kp K ι1 ι H1 H' → (∀ p ∈ ps, H1 p = none) → Kp K ι1 (ι ++ ps) H1 H' := fun k0 hn => ⟨k0.pre.trans (List.prefix_append _ _), k0.frame, k0.tup, fun p hp => by
      rcases List.mem_append.mp hp with m | m
      · exact k0.new p m
      · exact .inr (hn p m), k0.fz⟩
    have r2 : RH K z (ι ++ ps) (h ++ ls.map fun l => .lst (relDs (fun m => h.length + m) l)) H' := by
      refine ⟨kp r.hp.base fun p hp => (kc p (hfr p hp)).2.2, by simp [r.hp.len, hpl], ?_, fun n u hn => ?_⟩
      · rw [List.nodup_append]
        exact ⟨r.hp.nd, hnd, fun a ha b hb e => hdis b hb (e ▸ ha)⟩
      · by_cases hl : n < h.length
        · rw [List.getElem?_append_left hl] at hn
          obtain ⟨q', h1, h2⟩ := r.hp.obj n u hn
          refine ⟨q', by rw [List.getElem?_append_left (by rw [r.hp.len]; exact hl)]; exact h1, ?_⟩
          cases u with
          | lst ds =>
            obtain ⟨xs, e1, e2⟩ := h2
            exact ⟨xs, e1, e2.keep2 (List.prefix_append _ _) (fun _ _ c => c) (fun _ _ _ c => c)⟩
        · rw [List.getElem?_append_right (by omega), List.getElem?_map] at hn
          cases hi : ls[n - h.length]? with
          | none => rw [hi] at hn; cases hn
          | some l =>
            rw [hi] at hn
            injection hn with hn
            obtain ⟨p, xs, h1, h2, h3⟩ := hps _ l hi
            have hm : n - h.length < ls.length := (List.getElem?_eq_some_iff.mp hi).1
            refine ⟨p, ?_, ?_⟩
            · have := hf _ hm
              rw [show h.length + (n - h.length) = n by omega] at this
              rw [this]; exact h1
            · rw [← hn]
              exact ⟨xs, h2, dens_rel hf l xs (rl l (List.mem_of_getElem? hi)) h3⟩
    exact w (ι ++ ps) H' v (kp k fun p hp => (kc p (hfr p hp)).2.1) ⟨r2, ⟨r.en.len, fun i d c => let ⟨u, u1, u2⟩ := r.en.get i d c; ⟨u, u1, u2.keep2 (List.prefix_append _ _) (fun _ _ c => c) (fun _ _ _ c => c)⟩⟩⟩ (den_rel hf d v rd dn)
/-- what a body has reached, as the caller is to have it -/
theorem ok_out {P : Out → Prop} {d : D} {v : V} {ι0 : List Addr} {H0 : Hp} (k : Kp K ι0 ι H0 H') (k0 : ∀ j q, ι[j]? = some q → q ∈ ι0 → ∀ ds, h[j]? = some (.lst ds) → d ≠ .ref j ∧ ∀ i, d = .ref i → ∀ a zz x, h[i]? ≠ some (.lst [.ref j, .int a, .int zz, .int x])) (r : RH K z ι h H') (dn : Den K z ι H' v d) (q : outOk P d h) :
    ∃ o, P o ∧ OutR K H0 H' v o := by
  unfold outOk at q
  split at q
  · rename_i j
    split at q
    · rename_i es hj
      obtain ⟨p, xs, rfl, hi, hp, hx, _⟩ := r.list dn hj
      have hp0 : H0 p = none := by
        rcases k.new p (List.mem_of_getElem? hi) with c | c
        · exact absurd rfl (k0 j p hi c es hj).1
        · exact c
      rcases q with q | ⟨m, a, zz, x, c, e1, e2, e3, q⟩
      · exact ⟨_, q.2, q.1, p, xs, rfl, hp0, hp, dens_pure es xs q.1 hx⟩
      · subst e1
        cases hx with
        | cons d1 hx => cases hx with
          | cons d2 hx => cases hx with
            | cons d3 hx => cases hx with
              | cons d4 hx =>
                cases hx
                obtain ⟨p2, ys, e4, hi2, hp2, hx2, _⟩ := r.list d1 e3
                subst e4
                rw [den_int d2, den_int d3, den_int d4] at hp
                rw [dens_ints hx2] at hp2
                refine ⟨_, q, p, p2, rfl, fun c => ?_, hp0, ?_, hp, hp2⟩
                · subst c
                  obtain ⟨a1, b1⟩ := List.getElem?_eq_some_iff.mp hi
                  obtain ⟨a2, b2⟩ := List.getElem?_eq_some_iff.mp hi2
                  exact e2 ((List.getElem_inj r.nd).mp (b2.trans b1.symm))
                · rcases k.new p2 (List.mem_of_getElem? hi2) with c | c
                  · exact absurd hj ((k0 m p2 hi2 c _ e3).2 j rfl a zz x)
                  · exact c
    · exact q.elim
  · rename_i hd
    exact ⟨_, q.2, q.1, den_pure _ _ q.1 dn⟩
theorem getD_map {α β : Type} {l : List α} {f : α → β} {i : Nat} {a : α} (h : l[i]? = some a) : (l.map f)[i]? = some (f a) := by rw [List.getElem?_map, h]; rfl
/-- .. with lists of its own -/
theorem ok_gen {lo : Nat} {P : Out → Prop} {d : D} {v : V} {H0 : Hp} (k : ∀ j q, lo ≤ j → ι[j]? = some q → H0 q = none) (r : RH K z ι h H') (dn : Den K z ι H' v d) (q : genOk lo P d h) : ∃ o, P o ∧ OutR K H0 H' v o := by
  obtain ⟨g, ls, js, hjl, hnd, hlo, rg, rl, rfl, hat, hP⟩ := q
  have hlt : ∀ i, i < ls.length → ∃ j p, js[i]? = some j ∧ js.getD i 0 = j ∧ ι[j]? = some p ∧ j ∈ js := fun i hi => by
    have hi' : i < js.length := by omega
    have e1 := List.getElem?_eq_getElem hi'
    have e2 : js.getD i 0 = js[i] := by rw [List.getD_eq_getElem?_getD, e1]; rfl
    have e3 := hat i ls[i] (List.getElem?_eq_getElem hi)
    rw [e2] at e3
    obtain ⟨p, h1, _⟩ := r.obj _ _ e3
    exact ⟨js[i], p, e1, e2, h1, List.getElem_mem hi'⟩
  let ps : List Addr := js.map fun j => ι.getD j 0
  have hps : ∀ i, i < ls.length → ∃ p, ps[i]? = some p ∧ ι[js.getD i 0]? = some p := fun i hi => by
    obtain ⟨j, p, e1, e2, e3, _⟩ := hlt i hi
    refine ⟨p, ?_, by rw [e2]; exact e3⟩
    rw [getD_map e1, List.getD_eq_getElem?_getD, e3]; rfl
  have hf : ∀ m, m < ls.length → ι[js.getD m 0]? = ps[m]? := fun m hm => by
    obtain ⟨p, e1, e2⟩ := hps m hm
    rw [e1, e2]
  have hmem : ∀ p ∈ ps, ∃ j, j ∈ js ∧ ι[j]? = some p := fun p hp => by
    obtain ⟨i, hi⟩ := List.getElem?_of_mem hp
    obtain ⟨hl, _⟩ := List.getElem?_eq_some_iff.mp hi
    have hl' : i < ls.length := by rw [← hjl]; simpa [ps] using hl
    obtain ⟨j, q, e1, e2, e3, e4⟩ := hlt i hl'
    obtain ⟨p', f1, f2⟩ := hps i hl'
    rw [hi] at f1; injection f1 with f1; subst f1
    rw [e2] at f2
    exact ⟨j, e4, f2⟩
  refine ⟨_, hP, rg, rl, ps, by simp [ps, hjl], ?_, fun p hp => ?_, fun i l hl => ?_, den_unrel hf g v rg dn⟩
  · rw [List.nodup_iff_pairwise_ne, List.pairwise_iff_getElem]
    intro i j hi hj hij e
    have hi' : i < ls.length := by rw [← hjl]; simpa [ps] using hi
    have hj' : j < ls.length := by rw [← hjl]; simpa [ps] using hj
    obtain ⟨p, a1, a2⟩ := hps i hi'
    obtain ⟨q, b1, b2⟩ := hps j hj'
    rw [List.getElem?_eq_getElem hi] at a1; injection a1 with a1
    rw [List.getElem?_eq_getElem hj] at b1; injection b1 with b1
    have epq : p = q := by rw [← a1, ← b1, e]
    subst epq
    obtain ⟨x1, y1⟩ := List.getElem?_eq_some_iff.mp a2
    obtain ⟨x2, y2⟩ := List.getElem?_eq_some_iff.mp b2
    have := (List.getElem_inj r.nd).mp (y1.trans y2.symm)
    have hi2 : i < js.length := by omega
    have hj2 : j < js.length := by omega
    rw [List.getD_eq_getElem?_getD, List.getD_eq_getElem?_getD, List.getElem?_eq_getElem hi2, List.getElem?_eq_getElem hj2] at this
    have := (List.getElem_inj hnd).mp (show js[i] = js[j] from this)
    omega
  · obtain ⟨j, hj, e⟩ := hmem p hp
    exact k j p (hlo j hj) e
  · have hl' : i < ls.length := (List.getElem?_eq_some_iff.mp hl).1
    obtain ⟨p, e1, e2⟩ := hps i hl'
    obtain ⟨xs, g1, g2⟩ := r.at_ (hat i l hl) e2
    exact ⟨p, xs, e1, g1, dens_unrel hf l xs (rl l (List.mem_of_getElem? hl)) g2⟩
end

/-! ### a def over plain data -/
structure Spc (α : Type) where
  pre : α → List D → Prop
  res : α → Out → Prop
  exc : α → Ex → Prop
def spP {α : Type} (K : PySem.W.Frag) (mg : Str → Option Value) (g : Spc α) : Sp := fun vs H Q E => ∃ x ds, Dens K ⟨[], H⟩ [] H vs ds ∧ g.pre x ds ∧ (∀ o v H', g.res x o → Same H H' → OutR K H H' v o → Q v H') ∧
  (∀ ex cls dd H', g.exc x ex → pureX ex = true → Same H H' → ExR K mg ⟨[], H'⟩ [] H' cls dd ex → E cls dd H')
def endP {α : Type} (g : Spc α) (x : α) : Dx where
  nx := fun _ h => outOkG (g.res x) .non h
  rt := fun d h => outOkG (g.res x) d h
  bk := fun _ _ => False
  ct := fun _ _ => False
  ex := fun ex _ _ => g.exc x ex ∧ pureX ex = true
/-- the slots at the entry -/
def startE (n : Nat) (ds : List D) : En := ds.map some ++ List.replicate (n - ds.length) none
theorem start_re {K : PySem.W.Frag} {z : Zs} {ι : List Addr} {H : Hp} {vs : List V} {ds : List D} {N : List Str} (q : Dens K z ι H vs ds) : RE K z ι (startE N.length ds) H (L2.start N vs) := by
  refine ⟨by unfold startE L2.start; simp [q.length], fun i d c => ?_⟩
  unfold startE at c
  unfold L2.start
  by_cases hi : i < ds.length
  · rw [List.getElem?_append_left (by simpa using hi), List.getElem?_map] at c
    cases ed : ds[i]? with
    | none => rw [ed] at c; cases c
    | some d' =>
      rw [ed] at c
      injection c with c; injection c with c; subst c
      obtain ⟨v, h1, h2⟩ := q.get ed
      exact ⟨v, by rw [List.getElem?_append_left (by rw [List.length_map, q.length]; exact hi), List.getElem?_map, h1]; rfl, h2⟩
  · rw [List.getElem?_append_right (by simpa using hi), List.getElem?_replicate] at c
    split at c <;> cases c
theorem exR_pure {K : PySem.W.Frag} {mg : Str → Option Value} {z z' : Zs} {ι ι' : List Addr} {H : Hp} {cls : Value} {dd : Option Addr} {x : Ex} (p : pureX x = true) (q : ExR K mg z ι H cls dd x) : ExR K mg z' ι' H cls dd x := by
  obtain ⟨a, b⟩ := q
  refine ⟨a, ?_⟩
  rcases b with b | ⟨d, fs, b0, b1, b2, b3, b4⟩
  · exact .inl b
  · exact .inr ⟨d, fs, b0, b1, b2, b3, dens_pure _ _ p b4⟩
theorem kp_same {K : PySem.W.Frag} {ι' : List Addr} {H H' : Hp} (k : Kp K [] ι' H H') : Same H H' := fun a o q => k.frame a o (by simp) q
abbrev WE0 (E : XK) : WX := fun cls d _ H => E cls d H
section
variable {P : Program} {w : World} {K : PySem.W.Frag} {mg : Str → Option Value} {base : Heap}
theorem fnP {α : Type} {x qual : Str} {st : Stmt} {f : Addr} {fd : FuncData} {N ps : List Str} {k : Nat} (g : Spc α) (t : dS) (F : Fun K x qual st f fd) (S : FnScope N ps (defScope st)) (hlen : ∀ x ds, g.pre x ds → ds.length = ps.length)
    (hb : ∀ (cdv : Value) (A : Around) (outer : List Env) (s : Shared) (H : Hp) (E : XK), Room k (A.deeper (envOfC qual (defScope st) s.heap.objs.size f cdv)) →
      ∀ z, DSs (cxOf (L2.CX P w) P w K mg base N qual (defScope st) f cdv A outer s H E) z (WE0 E) (defBody st) t)
    (hw : ∀ x ds, g.pre x ds → t (endP g x) (startE N.length ds) []) : FnOk P w K mg base (L2.CX P w) (k + 1) f fd ps (spP K mg g) := by
  refine F.okX S (fun vs H Q E h => ?_) (fun cdv A outer s H vs Q E hr h => ?_)
  · obtain ⟨x, ds, dn, hp, _⟩ := h
    rw [dn.length]; exact hlen x ds hp
  · obtain ⟨x, ds, dn, hp, hq, he⟩ := h
    have b := hb cdv A outer s H E hr ⟨[], H⟩
    refine ⟨_, b.run, [], [], startE N.length ds, ⟨⟨Kp.refl, rfl, List.nodup_nil, fun n o c => by simp at c⟩, start_re dn⟩, b.mono _ _ _ _ ?_ (hw x ds hp)⟩
    have back : ∀ {ι' : List Addr} {h' : Hh} {H' : Hp} {v : V} {d : D}, Kp K [] ι' H H' → RH K ⟨[], H⟩ ι' h' H' → Den K ⟨[], H⟩ ι' H' v d → outOkG (g.res x) d h' → Q v H' := fun {ι' h' H' v d} k r dn q => by
      have : ∃ o, g.res x o ∧ OutR K H H' v o := by
        rcases q with q | q
        · exact ok_out k (fun j q _ c => by simp at c) r dn q
        · exact ok_gen (fun j q _ hj => (k.new q (List.mem_of_getElem? hj)).resolve_left (by simp)) r dn q
      obtain ⟨o, ho, hr⟩ := this
      exact hq o v H' ho (kp_same k) hr
    refine ⟨fun e' h' q ι' H' σ' k r => back k r.hp .non q, fun d h' q ι' H' v k r dn => back k r dn q, fun _ _ q => q.elim, fun _ _ q => q.elim, fun ex e' h' q ι' H' σ' cls dd k r xr => ?_⟩
    exact he ex cls dd H' q.1 q.2 (kp_same k) (exR_pure q.2 xr)
end
/-- the call of such a def -/
def dCallP {α : Type} (g : Spc α) (ta : dA) : dE := fun e h Q E => ta e h (fun ds h1 => ∃ x es, Views h1 (fun _ => True) ds es ∧ g.pre x es ∧ (∀ o, g.res x o → outPure o = true → outPost Q h1 o) ∧ (∀ ex, g.exc x ex → pureX ex = true → E ex h1)) E
section
variable {X : Cx} {z : Zs} {W : WX} {α : Type} {g : Spc α} {k n : Nat} {f : Addr} {fd : FuncData} {ps : List Str} {x : Str} {p pos : Pos} {a : Expr} {es : List Expr} {ta : dA}
theorem outR_pure {K : PySem.W.Frag} {H H' : Hp} {v : V} {o : Out} (q : OutR K H H' v o) : outPure o = true := by
  cases o with
  | val d => exact q.1
  | new es => exact q.1
  | drw => rfl
  | gen => rfl
theorem mono_callP (ma : Mono ta) : Mono (dCallP g ta) := fun e h _ _ _ _ hQ hE q => ma _ _ _ _ _ _ (fun ds h1 ⟨x, es, v, pr, q1, q2⟩ => ⟨x, es, v, pr, fun o ho po => outPost_mono hQ (q1 o ho po), fun ex he pe => hE _ _ (q2 ex he pe)⟩) hE q
theorem de_callP (F : FnOk X.prog X.w X.K X.mg X.base (L2.CX X.prog X.w) k f fd ps (spP X.K X.mg g)) (hr : Room k X.A) (hg : Gl X x) (hm : X.mg x = some (.ref f)) (hk : PySem.W.keepIn X.K (.ref f) = true) (hb : Binds X.K fd ps []) (tk : Takes X W)
    (ha : DA X z W (a :: es) ta n) (hdb : (x == ("__debug__" : Str)) = false) (he : starEach (a :: es) X.env = (false, eval a X.env) :: starEach es X.env) (hpl : (backTo pos (starEach es X.env)).any (·.1) = false) :
    DE X z W (.Call (.Name x p) (a :: es) [] pos) (dCallP g ta) := by
  refine ⟨pe_imp (pe_callS (E := WE W) F hr hg hm hk hb (fun σ => passAt tk σ) ha.run hdb he hpl) fun σ H Q ⟨ι, h, e, r, q⟩ => liftA_of ha.mono r q (fun ds h1 ι1 H1 vs q1 k1 r1 dn => ?_) fun _ _ q => q, mono_callP ha.mono⟩
  obtain ⟨x, as, vw, pr, w1, w2⟩ := q1
  refine ⟨x, as, Views.dens r1.hp (fun _ _ _ _ c => by simp at c) (fun _ c => by simp at c) vw dn, pr, fun o v H' ho sm oR => ?_, fun ex cls dd H' hx px sm xr => ?_⟩
  · have kk : Kp X.K ι1 ι1 H1 H' := Kp.same sm
    exact out_here (k1.trans kk) (fun q hq => ⟨r1.hp.notown hq, free_back k1 hq (r1.hp.notown hq), r1.hp.zfree hq⟩) ⟨r1.hp.same sm, r1.en.keep kk⟩ oR (w1 o ho (outR_pure oR))
  · have kk : Kp X.K ι1 ι1 H1 H' := Kp.same sm
    exact w2 ex hx px ι1 H' cls dd (k1.trans kk) ⟨r1.hp.same sm, r1.en.keep kk⟩ (exR_pure px xr)
end
end Dn


namespace Dn
open PySem PySem.Spec PyProof.Rows L2

/-! ### a def that draws -/
structure SpcD (α : Type) where
  pre : α → List D → DrS → Prop
  res : α → Out → DrS → Prop
def spD {α : Type} (K : PySem.W.Frag) (g : SpcD α) : Sp := fun vs H Q _ => ∃ x ds s pd pc vs', vs = .ref pd :: vs' ∧ pd ≠ pc ∧ H pd = some (.lst (drV pc s)) ∧ H pc = some (.lst (s.c.map V.int)) ∧ Dens K ⟨[pd, pc], H⟩ [pd, pc] H vs' ds ∧ g.pre x ds s ∧
  ∀ o v H' s', g.res x o s' → s'.c = s.c → (∀ a u, a ≠ pd → H a = some u → H' a = some u) → H' pd = some (.lst (drV pc s')) → OutR K H H' v o → Q v H'
/-- what is given back by such a def -/
def outOk2 (P : Out → Prop) (d : D) (h : Hh) : Prop := match d with
  | .ref j => 2 ≤ j ∧ (match h[j]? with
    | some (.lst es) => pureDs es = true ∧ P (.new es)
    | none => False)
  | d => pureD d = true ∧ P (.val d)
def outOkG2 (P : Out → Prop) (d : D) (h : Hh) : Prop := outOk2 P d h ∨ genOk 2 P d h
def endD {α : Type} (g : SpcD α) (x : α) (c : List Int) : Dx where
  nx := fun _ h => ∃ s', s'.c = c ∧ h[0]? = some (.lst (drD 1 s')) ∧ h[1]? = some (.lst (c.map .int)) ∧ outOkG2 (fun o => g.res x o s') .non h
  rt := fun d h => ∃ s', s'.c = c ∧ h[0]? = some (.lst (drD 1 s')) ∧ h[1]? = some (.lst (c.map .int)) ∧ outOkG2 (fun o => g.res x o s') d h
  bk := fun _ _ => False
  ct := fun _ _ => False
  ex := fun _ _ _ => False
theorem outOk2_val {P : Out → Prop} {d : D} {h : Hh} (p : pureD d = true) (q : P (.val d)) : outOk2 P d h := by
  unfold outOk2
  cases d with
  | ref j => unfold pureD at p; cases p
  | _ => exact ⟨p, q⟩
theorem dens_dr {K : PySem.W.Frag} {z : Zs} {ι : List Addr} {H : Hp} {xs : List V} {m : Nat} {s : DrS} (q : Dens K z ι H xs (drD m s)) : ∃ p, ι[m]? = some p ∧ xs = drV p s := by
  cases q with
  | cons d1 hx => cases hx with
    | cons d2 hx => cases hx with
      | cons d3 hx => cases hx with
        | cons d4 hx =>
          cases hx
          cases d1 with
          | ref hp => exact ⟨_, hp, by rw [den_int d2, den_int d3, den_int d4]; rfl⟩
section
variable {P : Program} {w : World} {K : PySem.W.Frag} {mg : Str → Option Value} {base : Heap}
theorem fnD {α : Type} {x qual : Str} {st : Stmt} {f : Addr} {fd : FuncData} {N ps : List Str} {k : Nat} (g : SpcD α) (t : dS) (F : Fun K x qual st f fd) (S : FnScope N ps (defScope st)) (hlen : ∀ x ds s, g.pre x ds s → ds.length + 1 = ps.length)
    (hb : ∀ (cdv : Value) (A : Around) (outer : List Env) (s : Shared) (H : Hp) (E : XK), Room k (A.deeper (envOfC qual (defScope st) s.heap.objs.size f cdv)) →
      ∀ z, DSs (cxOf (L2.CX P w) P w K mg base N qual (defScope st) f cdv A outer s H E) z (WE0 E) (defBody st) t)
    (hw : ∀ x ds s, g.pre x ds s → t (endD g x s.c) (startE N.length (.ref 0 :: ds)) [.lst (drD 1 s), .lst (s.c.map .int)]) : FnOk P w K mg base (L2.CX P w) (k + 1) f fd ps (spD K g) := by
  refine F.okX S (fun vs H Q E h => ?_) (fun cdv A outer s H vs Q E hr h => ?_)
  · obtain ⟨x, ds, s, pd, pc, vs', rfl, _, _, _, dn, hp, _⟩ := h
    rw [List.length_cons, dn.length]; exact hlen x ds s hp
  · obtain ⟨x, ds, sd, pd, pc, vs', rfl, hne, h1, h2, dn, hp, hq⟩ := h
    have b := hb cdv A outer s H E hr ⟨[pd, pc], H⟩
    have r0 : RH K ⟨[pd, pc], H⟩ [pd, pc] [.lst (drD 1 sd), .lst (sd.c.map .int)] H := by
      refine ⟨Kp.refl, rfl, by simp [hne], fun n o c => ?_⟩
      match n with
      | 0 =>
        injection c with c; subst c
        exact ⟨pd, rfl, _, h1, .cons (.ref rfl) (.cons (.int _) (.cons (.int _) (.cons (.int _) .nil)))⟩
      | 1 =>
        injection c with c; subst c
        exact ⟨pc, rfl, _, h2, ints_dens _⟩
      | n + 2 => simp at c
    refine ⟨_, b.run, [pd, pc], _, startE N.length (.ref 0 :: ds), ⟨r0, start_re (.cons (.ref rfl) dn)⟩, b.mono _ _ _ _ ?_ (hw x ds sd hp)⟩
    have back : ∀ {ι' : List Addr} {h' : Hh} {H' : Hp} {v : V} {d : D}, Kp K [pd, pc] ι' H H' → RH K ⟨[pd, pc], H⟩ ι' h' H' → Den K ⟨[pd, pc], H⟩ ι' H' v d →
        (∃ s', s'.c = sd.c ∧ h'[0]? = some (.lst (drD 1 s')) ∧ h'[1]? = some (.lst (sd.c.map .int)) ∧ outOkG2 (fun o => g.res x o s') d h') → Q v H' := fun {ι' h' H' v d} k r dn q => by
      obtain ⟨s', hc, e0, e1, q⟩ := q
      obtain ⟨ex, hι⟩ := k.pre
      have i0 : ι'[0]? = some pd := by rw [← hι]; rfl
      have i1 : ι'[1]? = some pc := by rw [← hι]; rfl
      obtain ⟨xs0, g0, dn0⟩ := r.at_ e0 i0
      obtain ⟨xs1, g1, dn1⟩ := r.at_ e1 i1
      obtain ⟨pp, ip, rfl⟩ := dens_dr dn0
      rw [i1] at ip; injection ip with ip; subst ip
      rw [dens_ints dn1] at g1
      have fr : ∀ a u, a ≠ pd → H a = some u → H' a = some u := fun a u ha hu => by
        by_cases hac : a = pc
        · subst hac
          rw [h2] at hu; injection hu with hu; subst hu
          exact g1
        · exact k.frame a u (by simp [ha, hac]) hu
      rcases q.symm with q | q
      · obtain ⟨o, ho, hr⟩ := ok_gen (H0 := H) (fun j q hj hi => (k.new q (List.mem_of_getElem? hi)).resolve_left (fun c => by
            obtain ⟨a2, b2⟩ := List.getElem?_eq_some_iff.mp hi
            have nd := r.nd
            rcases List.mem_cons.mp c with c | c
            · subst c
              obtain ⟨a1, b1⟩ := List.getElem?_eq_some_iff.mp i0
              have := (List.getElem_inj nd).mp (b2.trans b1.symm)
              omega
            · rw [List.mem_singleton] at c
              subst c
              obtain ⟨a1, b1⟩ := List.getElem?_eq_some_iff.mp i1
              have := (List.getElem_inj nd).mp (b2.trans b1.symm)
              omega)) r dn q
        exact hq o v H' s' ho hc fr g0 hr
      unfold outOk2 at q
      split at q
      · rename_i j
        obtain ⟨hj2, q⟩ := q
        split at q
        · rename_i es hj
          obtain ⟨p, xs, rfl, hi, hp, hx, _⟩ := r.list dn hj
          have hp0 : H p = none := by
            rcases k.new p (List.mem_of_getElem? hi) with c | c
            · exfalso
              obtain ⟨a2, b2⟩ := List.getElem?_eq_some_iff.mp hi
              have nd := r.nd
              rcases List.mem_cons.mp c with c | c
              · subst c
                obtain ⟨a1, b1⟩ := List.getElem?_eq_some_iff.mp i0
                have := (List.getElem_inj nd).mp (b2.trans b1.symm)
                omega
              · rw [List.mem_singleton] at c
                subst c
                obtain ⟨a1, b1⟩ := List.getElem?_eq_some_iff.mp i1
                have := (List.getElem_inj nd).mp (b2.trans b1.symm)
                omega
            · exact c
          exact hq _ _ _ s' q.2 hc fr g0 ⟨q.1, p, xs, rfl, hp0, hp, dens_pure es xs q.1 hx⟩
        · exact q.elim
      · exact hq _ _ _ s' q.2 hc fr g0 ⟨q.1, den_pure _ _ q.1 dn⟩
    exact ⟨fun e' h' q ι' H' σ' k r => back k r.hp .non q, fun d h' q ι' H' v k r dn => back k r dn q, fun _ _ q => q.elim, fun _ _ q => q.elim, fun _ _ _ q => q.elim⟩
end
def dCallD {α : Type} (g : SpcD α) (ta : dA) : dE := fun e h Q E => ta e h (fun ds h1 => match ds with
  | .ref n :: rest => ∃ x es s m, n ≠ m ∧ h1[n]? = some (.lst (drD m s)) ∧ h1[m]? = some (.lst (s.c.map .int)) ∧ Views h1 (fun j => j ≠ n ∧ j ≠ m) rest es ∧ g.pre x es s ∧ ∀ o s', g.res x o s' → s'.c = s.c → outPure o = true → outPost Q (h1.set n (.lst (drD m s'))) o
  | _ => False) E
section
variable {X : Cx} {z : Zs} {W : WX} {α : Type} {g : SpcD α} {k n : Nat} {f : Addr} {fd : FuncData} {ps : List Str} {x : Str} {p pos : Pos} {a : Expr} {es : List Expr} {ta : dA}
theorem mono_callD (ma : Mono ta) : Mono (dCallD g ta) := fun e h _ _ _ _ hQ hE q => ma _ _ _ _ _ _ (fun ds h1 w => by
  split at w
  · obtain ⟨x, es, s, m, a1, a2, a3, v, pr, q1⟩ := w
    exact ⟨x, es, s, m, a1, a2, a3, v, pr, fun o s' ho hs po => outPost_mono hQ (q1 o s' ho hs po)⟩
  · exact w.elim) hE q
theorem de_callD (F : FnOk X.prog X.w X.K X.mg X.base (L2.CX X.prog X.w) k f fd ps (spD X.K g)) (hr : Room k X.A) (hg : Gl X x) (hm : X.mg x = some (.ref f)) (hk : PySem.W.keepIn X.K (.ref f) = true) (hb : Binds X.K fd ps []) (tk : Takes X W)
    (ha : DA X z W (a :: es) ta n) (hdb : (x == ("__debug__" : Str)) = false) (he : starEach (a :: es) X.env = (false, eval a X.env) :: starEach es X.env) (hpl : (backTo pos (starEach es X.env)).any (·.1) = false) :
    DE X z W (.Call (.Name x p) (a :: es) [] pos) (dCallD g ta) := by
  refine ⟨pe_imp (pe_callS (E := WE W) F hr hg hm hk hb (fun σ => passAt tk σ) ha.run hdb he hpl) fun σ H Q ⟨ι, h, e, r, q⟩ => liftA_of ha.mono r q (fun ds h1 ι1 H1 vs q1 k1 r1 dn => ?_) fun _ _ q => q, mono_callD ha.mono⟩
  split at q1
  · obtain ⟨x, as, s, m, hne, e1, e2, vw, pr, w1⟩ := q1
    cases dn with
    | cons d1 dn =>
      obtain ⟨pd, xs, rfl, hi, hp, hx, hl⟩ := r1.hp.list d1 e1
      obtain ⟨pc, im, rfl⟩ := dens_dr hx
      obtain ⟨xs2, g2, dn2⟩ := r1.hp.at_ e2 im
      rw [dens_ints dn2] at g2
      have hpp : pd ≠ pc := fun c => by
        subst c
        obtain ⟨a1, b1⟩ := List.getElem?_eq_some_iff.mp hi
        obtain ⟨a2, b2⟩ := List.getElem?_eq_some_iff.mp im
        exact hne ((List.getElem_inj r1.hp.nd).mp (b1.trans b2.symm))
      refine ⟨x, as, s, pd, pc, _, rfl, hpp, hp, g2, ?_, pr, fun o v H' s' ho hc fr hp' oR => ?_⟩
      · refine Views.dens r1.hp (fun j q hj hq hm => ?_) (fun q hq => ?_) vw dn
        · obtain ⟨a2, b2⟩ := List.getElem?_eq_some_iff.mp hq
          rcases List.mem_cons.mp hm with c | c
          · subst c
            obtain ⟨a1, b1⟩ := List.getElem?_eq_some_iff.mp hi
            exact hj.1 ((List.getElem_inj r1.hp.nd).mp (b2.trans b1.symm))
          · rw [List.mem_singleton] at c
            subst c
            obtain ⟨a1, b1⟩ := List.getElem?_eq_some_iff.mp im
            exact hj.2 ((List.getElem_inj r1.hp.nd).mp (b2.trans b1.symm))
        · rcases List.mem_cons.mp hq with c | c
          · subst c; exact List.mem_of_getElem? hi
          · rw [List.mem_singleton] at c; subst c; exact List.mem_of_getElem? im
      · obtain ⟨r2, kk⟩ := r1.hp.swap (ds := drD m s') hi hl fr hp' (.cons (.ref im) (.cons (.int _) (.cons (.int _) (.cons (.int _) .nil))))
        exact out_here (k1.trans kk) (fun q hq => ⟨r1.hp.notown hq, free_back k1 hq (r1.hp.notown hq), r1.hp.zfree hq⟩) ⟨r2, r1.en.keep kk⟩ oR (w1 o s' ho hc (outR_pure oR))
  · exact q1.elim
end

/-! ### raise X('..') -/
def sRaise (x : Str) : dS := fun D' e h => D'.ex ⟨x, []⟩ e h
section
variable {X : Cx} {z : Zs} {W : WX}
theorem ds_raise {C : Addr} {bmB : List Value} {B newId initId : String} {x m : Str} {j : Nat} {p p2 pos pos2 : Pos} (hc : X.calm = true) (tk : Takes X W) (F : ExcBaseFacts B newId initId bmB) (q : PySem.W.excIn X.K C bmB newId = true) (gC : X.mg x = some (.ref C)) (kC : PySem.W.keepIn X.K (.ref C) = true)
    (r : Raises X (.ref C)) (hg : Gl X x) (hdb : (x == ("__debug__" : Str)) = false) : DS X z W (.Raise (some (.Call (.Name x p) [.Constant (.str m) j p2] [] pos)) none pos2) (sRaise x) :=
  ⟨ps_imp (ps_raise hc tk (pmk_own F q gC kC r hg hdb)) fun D' σ H ⟨ι, h, e, r', q'⟩ => q' ι H σ _ _ Kp.refl r' ⟨gC, .inl ⟨rfl, rfl⟩⟩, fun A B e h le q => le.ex _ _ _ q⟩
end

/-! ### try .. except -/
/-- cat a c: whether the clause that names c takes an error of the class a -/
def CatOk (K : PySem.W.Frag) (mg : Str → Option Value) (cat : Str → Str → Option Bool) : Prop := ∀ a c b cls cv, cat a c = some b → mg a = some cls → mg c = some cv → PySem.W.exmOne K cls cv = some b
/-- behind the suite the name is gone -/
def Dx.gone (A : Dx) (i : Nat) : Dx where
  nx := fun e h => A.nx (e.set i none) h
  rt := A.rt
  bk := fun e h => A.bk (e.set i none) h
  ct := fun e h => A.ct (e.set i none) h
  ex := fun _ _ _ => False
def Dx.suite (A : Dx) : Dx := { A with ex := fun _ _ _ => False }
def exAs (cat : Str → Str → Option Bool) (c : Str) (i : Nat) (ts : Addr → Ex → dS) (A : Dx) : Ex → En → Hh → Prop := fun x e' h' => match cat x.cls c with
  | some true => ∀ a, ts a x (A.gone i) (e'.set i (some (.adr a))) h'
  | some false => A.ex x e' h'
  | none => False
def exOnly (cat : Str → Str → Option Bool) (c : Str) (ts : Addr → Ex → dS) (A : Dx) : Ex → En → Hh → Prop := fun x e' h' => match cat x.cls c with
  | some true => ∀ a, ts a x A.suite e' h'
  | some false => A.ex x e' h'
  | none => False
def sTryAs (cat : Str → Str → Option Bool) (c : Str) (i : Nat) (tb : dS) (ts : Addr → Ex → dS) : dS := fun A e h => tb { A with ex := exAs cat c i ts A } e h
def sTry (cat : Str → Str → Option Bool) (c : Str) (tb : dS) (ts : Addr → Ex → dS) : dS := fun A e h => tb { A with ex := exOnly cat c ts A } e h
section
variable {X : Cx} {z : Zs} {W : WX} {cat : Str → Str → Option Bool} {c n : Str} {cv : Value} {i : Nat} {body suite : List Stmt} {b₀ : Stmt} {np pos pos' : Pos} {tb : dS} {ts : Addr → Ex → dS}
theorem Dx.Le.gone {A B : Dx} (le : Dx.Le A B) (i : Nat) : Dx.Le (A.gone i) (B.gone i) := ⟨fun _ _ q => le.nx _ _ q, le.rt, fun _ _ q => le.bk _ _ q, fun _ _ q => le.ct _ _ q, fun _ _ _ q => q⟩
theorem Dx.Le.inSuite {A B : Dx} (le : Dx.Le A B) : Dx.Le A.suite B.suite := ⟨le.nx, le.rt, le.bk, le.ct, fun _ _ _ q => q⟩
theorem mono_tryAs (mb : MonoS tb) (ms : ∀ a x, MonoS (ts a x)) : MonoS (sTryAs cat c i tb ts) := fun A B e h le q => mb { A with ex := exAs cat c i ts A } { B with ex := exAs cat c i ts B } e h ⟨le.nx, le.rt, le.bk, le.ct, fun x e' h' q1 => by
  have q2 : exAs cat c i ts A x e' h' := q1
  show exAs cat c i ts B x e' h'
  unfold exAs at q2 ⊢
  split at q2
  · exact fun a => ms a x _ _ _ _ (le.gone i) (q2 a)
  · exact le.ex _ _ _ q2
  · exact q2⟩ q
theorem mono_try (mb : MonoS tb) (ms : ∀ a x, MonoS (ts a x)) : MonoS (sTry cat c tb ts) := fun A B e h le q => mb { A with ex := exOnly cat c ts A } { B with ex := exOnly cat c ts B } e h ⟨le.nx, le.rt, le.bk, le.ct, fun x e' h' q1 => by
  have q2 : exOnly cat c ts A x e' h' := q1
  show exOnly cat c ts B x e' h'
  unfold exOnly at q2 ⊢
  split at q2
  · exact fun a => ms a x _ _ _ _ le.inSuite (q2 a)
  · exact le.ex _ _ _ q2
  · exact q2⟩ q
theorem exR_d {K : PySem.W.Frag} {mg : Str → Option Value} {ι : List Addr} {H : Hp} {cls : Value} {d : Option Addr} {x : Ex} (q : ExR K mg z ι H cls d x) (hx : x.fld = []) : d = none := by
  rcases q.2 with w | ⟨_, _, w, _⟩
  · exact w.2
  · exact absurd hx w
theorem ds_tryAs (hs : X.stack = X.env :: X.outer) (hf : X.env.frame = some X.env.locals) (hN : X.N.Nodup) (hi : X.N[i]? = some n) (hln : X.env.kindOf n = some .local) (hc : Names X c cv) (hcv : X.mg c = some cv) (hcat : CatOk X.K X.mg cat) (tk : Takes X W)
    (hb : ∀ (W' : WX) (pn : List (Addr × Obj)) (xe : Value → Shared → Prop), Takes (X.tr pn xe) W' → PassesOwn (model X.prog X.w) X.A X.env xe → DSs (X.tr pn xe) z W' body tb)
    (hsu : ∀ (a : Addr) (oe : Obj) (cls : Value) (d : Option Addr) (pn : List (Addr × Obj)) (x : Ex), Zc cls d oe → (∃ vs, oe.data = .fields vs) → X.mg x.cls = some cls → (x.fld = [] → d = none) → DSs (X.suite a ((a, oe) :: pn)) z NoW (b₀ :: suite) (ts a x))
    (mb : MonoS tb) (ms : ∀ a x, MonoS (ts a x)) :
    DS X z W (.Try body [.ExceptHandler (some (.Name c np)) (some n) (b₀ :: suite) pos'] [] [] pos) (sTryAs cat c i tb ts) := by
  refine ⟨ps_imp (ps_try_as (tb := fun W' => liftS X.K X.mg z W' tb) (ts := fun a cls d D' σ H => ∃ x ι h e, ExR X.K X.mg z ι H cls d x ∧ R X.K z ι h e H σ ∧ ts a x (absD X.K X.mg z NoW ι H D') e h) hs hf hN hi hln hc tk (fun W' pn xe tk' po => (hb W' pn xe tk' po).run) (fun a oe cls d pn hz hv => ?_)) fun D' σ H ⟨ι, h, e, r, q⟩ => ?_, mono_tryAs mb ms⟩
  · refine ⟨fun pins s σ H D' I ⟨x, ι, h, e, hx, r, q⟩ => ?_⟩
    exact (hsu a oe cls d pn x hz hv hx.1 (exR_d hx)).run.run pins s σ H D' I ⟨ι, h, e, r, q⟩
  · refine ⟨ι, h, e, r, mb { absD X.K X.mg z W ι H D' with ex := exAs cat c i ts (absD X.K X.mg z W ι H D') } _ _ _ ?_ q⟩
    refine ⟨fun _ _ q => q, fun _ _ q => q, fun _ _ q => q, fun _ _ q => q, fun x e' h' q1 ι' H' σ' cls dd k' r' xr => ?_⟩
    have q2 : exAs cat c i ts (absD X.K X.mg z W ι H D') x e' h' := q1
    unfold exAs at q2
    cases hcx : cat x.cls c with
    | none => rw [hcx] at q2; exact q2.elim
    | some b =>
      rw [hcx] at q2
      refine ⟨b, hcat _ _ _ _ _ hcx xr.1 hcv, fun hb1 a ha => ?_, fun hb1 => ?_⟩
      · subst hb1
        refine ⟨x, ι', h', e'.set i (some (.adr a)), xr, ⟨r'.hp, r'.en.set i (.adr a)⟩, ms a x _ _ _ _ ?_ (q2 a)⟩
        exact ⟨fun e2 h2 q3 ι2 H2 σ2 k2 r2 => q3 ι2 H2 _ (k'.trans k2) ⟨r2.hp, r2.en.unset i⟩, fun d h2 q3 ι2 H2 v k2 r2 dn => q3 ι2 H2 v (k'.trans k2) r2 dn, fun e2 h2 q3 ι2 H2 σ2 k2 r2 => q3 ι2 H2 _ (k'.trans k2) ⟨r2.hp, r2.en.unset i⟩, fun e2 h2 q3 ι2 H2 σ2 k2 r2 => q3 ι2 H2 _ (k'.trans k2) ⟨r2.hp, r2.en.unset i⟩, fun _ _ _ q3 => q3.elim⟩
      · subst hb1
        exact q2 ι' H' σ' cls dd k' r' xr
theorem ds_try (hs : X.stack = X.env :: X.outer) (hf : X.env.frame = some X.env.locals) (hc : Names X c cv) (hcv : X.mg c = some cv) (hcat : CatOk X.K X.mg cat) (tk : Takes X W)
    (hb : ∀ (W' : WX) (pn : List (Addr × Obj)) (xe : Value → Shared → Prop), Takes (X.tr pn xe) W' → PassesOwn (model X.prog X.w) X.A X.env xe → DSs (X.tr pn xe) z W' body tb)
    (hsu : ∀ (a : Addr) (oe : Obj) (cls : Value) (d : Option Addr) (pn : List (Addr × Obj)) (x : Ex), Zc cls d oe → (∃ vs, oe.data = .fields vs) → X.mg x.cls = some cls → (x.fld = [] → d = none) → DSs (X.suite a ((a, oe) :: pn)) z NoW (b₀ :: suite) (ts a x))
    (mb : MonoS tb) (ms : ∀ a x, MonoS (ts a x)) :
    DS X z W (.Try body [.ExceptHandler (some (.Name c np)) none (b₀ :: suite) pos'] [] [] pos) (sTry cat c tb ts) := by
  refine ⟨ps_imp (ps_try_only (tb := fun W' => liftS X.K X.mg z W' tb) (ts := fun a cls d D' σ H => ∃ x ι h e, ExR X.K X.mg z ι H cls d x ∧ R X.K z ι h e H σ ∧ ts a x (absD X.K X.mg z NoW ι H D') e h) hs hf hc tk (fun W' pn xe tk' po => (hb W' pn xe tk' po).run) (fun a oe cls d pn hz hv => ?_)) fun D' σ H ⟨ι, h, e, r, q⟩ => ?_, mono_try mb ms⟩
  · refine ⟨fun pins s σ H D' I ⟨x, ι, h, e, hx, r, q⟩ => ?_⟩
    exact (hsu a oe cls d pn x hz hv hx.1 (exR_d hx)).run.run pins s σ H D' I ⟨ι, h, e, r, q⟩
  · refine ⟨ι, h, e, r, mb { absD X.K X.mg z W ι H D' with ex := exOnly cat c ts (absD X.K X.mg z W ι H D') } _ _ _ ?_ q⟩
    refine ⟨fun _ _ q => q, fun _ _ q => q, fun _ _ q => q, fun _ _ q => q, fun x e' h' q1 ι' H' σ' cls dd k' r' xr => ?_⟩
    have q2 : exOnly cat c ts (absD X.K X.mg z W ι H D') x e' h' := q1
    unfold exOnly at q2
    cases hcx : cat x.cls c with
    | none => rw [hcx] at q2; exact q2.elim
    | some b =>
      rw [hcx] at q2
      refine ⟨b, hcat _ _ _ _ _ hcx xr.1 hcv, fun hb1 a ha => ?_, fun hb1 => ?_⟩
      · subst hb1
        refine ⟨x, ι', h', e', xr, r', ms a x _ _ _ _ ?_ (q2 a)⟩
        exact ⟨fun e2 h2 q3 ι2 H2 σ2 k2 r2 => q3 ι2 H2 _ (k'.trans k2) r2, fun d h2 q3 ι2 H2 v k2 r2 dn => q3 ι2 H2 v (k'.trans k2) r2 dn, fun e2 h2 q3 ι2 H2 σ2 k2 r2 => q3 ι2 H2 _ (k'.trans k2) r2, fun e2 h2 q3 ι2 H2 σ2 k2 r2 => q3 ι2 H2 _ (k'.trans k2) r2, fun _ _ _ q3 => q3.elim⟩
      · subst hb1
        exact q2 ι' H' σ' cls dd k' r' xr
end
theorem dss_when {X : Cx} {z : Zs} {W : WX} {st : List Stmt} {t : dS} {c : Prop} (m : MonoS t) (h : c → DSs X z W st t) : DSs X z W st (fun A e h => c ∧ t A e h) :=
  ⟨⟨fun pins s σ H A I ⟨ι, h', e, r, hc, q⟩ => (h hc).run.run pins s σ H A I ⟨ι, h', e, r, q⟩⟩, fun _ _ _ _ le q => ⟨q.1, m _ _ _ _ le q.2⟩⟩
/-- isinstance(e, C), e the error that the suite holds -/
def dIsE (i : Nat) (a : Addr) (b : Bool) : dE := fun e h Q _ => slot e i = some (.adr a) ∧ Q (.bl b) h
theorem mono_isE {i : Nat} {a : Addr} {b : Bool} : Mono (dIsE i a b) := fun _ _ _ _ _ _ hQ _ q => ⟨q.1, hQ _ _ q.2⟩
theorem exC_kit {K : PySem.W.Frag} {D : Addr} : True := trivial
/-! ### isinstance -/
def tyN : D → String
  | .non => "NoneType"
  | .bl _ => "bool"
  | .int _ => "int"
  | .str _ => "str"
  | .tup _ => "tuple"
  | .lst _ => "list"
  | .ref _ => "list"
  | .adr _ => ""
  | .box .dct _ => "dict"
  | .box (.ins _ _) _ => ""
def isaS (a T : String) : Bool := a == T || (a == "bool" && T == "int")
def isaT (Ts : List String) (a : String) : Bool := Ts.any fun T => isaS a T
def KitOk (T : String) : Prop := ∀ a ∈ ["NoneType", "bool", "int", "str", "tuple", "list", "dict"], kitB a T = some (isaS a T)
def D.isAdr : D → Bool
  | .adr _ => true
  | .box (.ins _ _) _ => true
  | _ => false
def dIsi (T : String) (ta : dE) : dE := fun e h Q E => ta e h (fun x h1 => match x with
  | .adr _ => False
  | .box (.ins _ _) _ => False
  | x => Q (.bl (isaS (tyN x) T)) h1) E
def dIsi2 (T U : String) (ta : dE) : dE := fun e h Q E => ta e h (fun x h1 => match x with
  | .adr _ => False
  | .box (.ins _ _) _ => False
  | x => Q (.bl (isaS (tyN x) T || isaS (tyN x) U)) h1) E
theorem den_ty {K : PySem.W.Frag} {z : Zs} {ι : List Addr} {h : Hh} {H : Hp} {v : V} {d : D} (r : RH K z ι h H) (q : Den K z ι H v d) (hd : d.isAdr = false) : TyX K H v (.type (tyN d)) ∧ tyN d ∈ ["NoneType", "bool", "int", "str", "tuple", "list", "dict"] := by
  cases q with
  | non => exact ⟨.base .non, by decide⟩
  | bl b => exact ⟨.base (.bl b), by simp [tyN]⟩
  | int b => exact ⟨.base (.int b), by simp [tyN]⟩
  | str b => exact ⟨.base (.str b), by simp [tyN]⟩
  | tup hp hx =>
    refine ⟨?_, by simp [tyN]⟩
    rcases hp with (hp | ⟨u, hp⟩) | ⟨o, its, n, hk, hc, _⟩
    · exact .base (.tup hp)
    · exact .fTuple hp
    · exact .kTuple hk hc
  | lst hp hx =>
    refine ⟨?_, by simp [tyN]⟩
    rcases fl_stay r hp with (hp | ⟨u, hp⟩) | ⟨o, its, n, hk, hc, _⟩
    · exact .base (.lst hp)
    · exact .base (.frz hp)
    · exact .kList hk hc
  | ref hi =>
    refine ⟨?_, by simp [tyN]⟩
    obtain ⟨u, hu⟩ := r.tracked (List.mem_of_getElem? hi)
    rename_i p n
    obtain ⟨hl, _⟩ := List.getElem?_eq_some_iff.mp hi
    have hl' : n < h.length := by rw [← r.len]; exact hl
    have w := r.at_ (List.getElem?_eq_getElem hl') hi
    cases eo : h[n] with
    | lst ds =>
      rw [eo] at w
      obtain ⟨xs, e1, _⟩ := w
      exact .base (.lst e1)
  | adr a => cases hd
  | box hp hx =>
    rename_i p t xs ds
    cases t with
    | dct => exact ⟨.base (.dK hp.1), by simp [tyN]⟩
    | ins C fs => cases hd
section
variable {X : Cx} {z : Zs} {W : WX} {a : Expr} {ta : dE} {T U : String} {tn un : Str} {p pos pT pU : Pos}
theorem mono_isi (ma : Mono ta) : Mono (dIsi T ta) := fun e h _ _ _ _ hQ hE q => ma _ _ _ _ _ _ (fun x h1 w => by
  cases x with
  | adr a => exact w.elim
  | box t ds => cases t with
    | dct => exact hQ _ _ w
    | ins _ _ => exact w.elim
  | _ => exact hQ _ _ w) hE q
theorem mono_isi2 (ma : Mono ta) : Mono (dIsi2 T U ta) := fun e h _ _ _ _ hQ hE q => ma _ _ _ _ _ _ (fun x h1 w => by
  cases x with
  | adr a => exact w.elim
  | box t ds => cases t with
    | dct => exact hQ _ _ w
    | ins _ _ => exact w.elim
  | _ => exact hQ _ _ w) hE q
theorem de_isi (hT : KitOk T) (hg : Gl X "isinstance") (hm : X.mg "isinstance" = none) (hgT : Gl X tn) (hmT : X.mg tn = none) (hv : bootBuiltins tn = some (.type T)) (hn : tn ≠ "__name__") (hd : (tn == ("__debug__" : Str)) = false) (ha : DE X z W a ta)
    (he : starEach [a, .Name tn pT] X.env = (false, eval a X.env) :: starEach [.Name tn pT] X.env) (he2 : starEach [.Name tn pT] X.env = (false, eval (.Name tn pT) X.env) :: starEach [] X.env) (hpl : (backTo pos (starEach [.Name tn pT] X.env)).any (·.1) = false) :
    DE X z W (.Call (.Name "isinstance" p) [a, .Name tn pT] [] pos) (dIsi T ta) := by
  have hv' : bootBuiltins "isinstance" = some (.builtin "isinstance") := by decide +kernel
  refine ⟨pe_imp (pe_callB call_isi hg hm hv' (pa_cons ha.run (pa_cons (pe_bltn (v := .ty T) hgT hmT hv rfl hn hd) pa_nil he2) he) (by decide) (by decide) he hpl) fun σ H Q ⟨ι, h, e, r, q⟩ => lift_of ha.mono r q (fun x h1 ι1 H1 v q1 k1 r1 d1 => ?_) fun _ _ q => q, mono_isi ha.mono⟩
  have hx : x.isAdr = false := by
    cases x with
    | adr a => exact q1.elim
    | box t ds => cases t with
      | dct => rfl
      | ins _ _ => exact q1.elim
    | _ => rfl
  obtain ⟨t1, t2⟩ := den_ty r1.hp d1 hx
  refine ⟨v, .ty T, _, _, _, rfl, .ty T, t1, kit_ty (hT _ t2), ?_⟩
  have q2 : PEq X.K z ι e σ H Q (.bl (isaS (tyN x) T)) h1 := by
      cases x with
      | adr a => cases hx
      | box t ds => cases t with
        | dct => exact q1
        | ins _ _ => cases hx
      | _ => exact q1
  exact q2 ι1 H1 _ k1 r1 (.bl _)
theorem de_isi2 {x1} (hT : KitOk T) (hU : KitOk U) (hg : Gl X "isinstance") (hm : X.mg "isinstance" = none) (hgT : Gl X tn) (hmT : X.mg tn = none) (hv : bootBuiltins tn = some (.type T)) (hn : tn ≠ "__name__") (hd : (tn == ("__debug__" : Str)) = false)
    (hgU : Gl X un) (hmU : X.mg un = none) (hvU : bootBuiltins un = some (.type U)) (hnU : un ≠ "__name__") (hdU : (un == ("__debug__" : Str)) = false) (ha : DE X z W a ta) {pt : Pos}
    (he : starEach [a, .Tuple [.Name tn pT, .Name un pU] x1 pt] X.env = (false, eval a X.env) :: starEach [.Tuple [.Name tn pT, .Name un pU] x1 pt] X.env) (he2 : starEach [.Tuple [.Name tn pT, .Name un pU] x1 pt] X.env = (false, eval (.Tuple [.Name tn pT, .Name un pU] x1 pt) X.env) :: starEach [] X.env)
    (he3 : starEach [.Name tn pT, .Name un pU] X.env = (false, eval (.Name tn pT) X.env) :: starEach [.Name un pU] X.env) (he4 : starEach [.Name un pU] X.env = (false, eval (.Name un pU) X.env) :: starEach [] X.env)
    (hpl : (backTo pos (starEach [.Tuple [.Name tn pT, .Name un pU] x1 pt] X.env)).any (·.1) = false) :
    DE X z W (.Call (.Name "isinstance" p) [a, .Tuple [.Name tn pT, .Name un pU] x1 pt] [] pos) (dIsi2 T U ta) := by
  have hv' : bootBuiltins "isinstance" = some (.builtin "isinstance") := by decide +kernel
  refine ⟨pe_imp (pe_callB call_isiT hg hm hv' (pa_cons ha.run (pa_cons (pe_tup (pa_cons (pe_bltn (v := .ty T) hgT hmT hv rfl hn hd) (pa_cons (pe_bltn (v := .ty U) hgU hmU hvU rfl hnU hdU) pa_nil he4) he3)) pa_nil he2) he) (by decide) (by decide) he hpl) fun σ H Q ⟨ι, h, e, r, q⟩ => lift_of ha.mono r q (fun x h1 ι1 H1 v q1 k1 r1 d1 => ?_) fun _ _ q => q, mono_isi2 ha.mono⟩
  have hx : x.isAdr = false := by
    cases x with
    | adr a => exact q1.elim
    | box t ds => cases t with
      | dct => rfl
      | ins _ _ => exact q1.elim
    | _ => rfl
  refine ⟨by show 2 ≤ sizeLine; decide, fun tp htp => ?_⟩
  have kl := Kp.laid (K := X.K) (ι := ι1) htp (.tup [.ty T, .ty U])
  have r2 := r1.laid htp (.tup [.ty T, .ty U])
  obtain ⟨t1, t2⟩ := den_ty r2.hp (d1.keep kl) hx
  refine ⟨v, tp, _, _, [.type T, .type U], _, rfl, upd_same, .cons (.ty T) (.cons (.ty U) .nil), t1, kitAny_cons (r := isaS (tyN x) T || isaS (tyN x) U) (kit_ty (hT _ t2)) (fun hb => ?_) (fun hb => by rw [hb]; rfl), ?_⟩
  · rw [hb, Bool.false_or]
    refine kitAny_cons (kit_ty (hU _ t2)) (fun hb2 => ?_) fun hb2 => hb2
    rw [hb2]; exact kitAny_nil
  · have q2 : PEq X.K z ι e σ H Q (.bl (isaS (tyN x) T || isaS (tyN x) U)) h1 := by
      cases x with
      | adr a => cases hx
      | box t ds => cases t with
        | dct => exact q1
        | ins _ _ => cases hx
      | _ => exact q1
    exact q2 ι1 _ _ (k1.trans kl) r2 (.bl _)
end
theorem kit_int : KitOk "int" := by intro a h; simp only [List.mem_cons, List.not_mem_nil, or_false] at h; rcases h with rfl | rfl | rfl | rfl | rfl | rfl | rfl <;> decide +kernel
theorem kit_bool : KitOk "bool" := by intro a h; simp only [List.mem_cons, List.not_mem_nil, or_false] at h; rcases h with rfl | rfl | rfl | rfl | rfl | rfl | rfl <;> decide +kernel
theorem kit_tuple : KitOk "tuple" := by intro a h; simp only [List.mem_cons, List.not_mem_nil, or_false] at h; rcases h with rfl | rfl | rfl | rfl | rfl | rfl | rfl <;> decide +kernel
theorem kit_list : KitOk "list" := by intro a h; simp only [List.mem_cons, List.not_mem_nil, or_false] at h; rcases h with rfl | rfl | rfl | rfl | rfl | rfl | rfl <;> decide +kernel
theorem kit_dict : KitOk "dict" := by intro a h; simp only [List.mem_cons, List.not_mem_nil, or_false] at h; rcases h with rfl | rfl | rfl | rfl | rfl | rfl | rfl <;> decide +kernel
theorem kit_str : KitOk "str" := by intro a h; simp only [List.mem_cons, List.not_mem_nil, or_false] at h; rcases h with rfl | rfl | rfl | rfl | rfl | rfl | rfl <;> decide +kernel

/-! ### methods of owned lists -/
def dM1 (f : Nat → D → Hh → Rs) (to ta : dE) : dE := fun e h Q E => to e h (fun o h1 => match o with
  | .ref n => ta e h1 (fun d h2 => (f n d h2).to Q) E
  | _ => False) E
def dM0 (f : Nat → Hh → Rs) (to : dE) : dE := fun e h Q E => to e h (fun o h1 => match o with
  | .ref n => (f n h1).to Q
  | _ => False) E
def appF (n : Nat) (d : D) (h : Hh) : Rs := match h[n]? with
  | some (.lst ds) => .cond (ds.length < sizeLine) .non (h.set n (.lst (ds ++ [d])))
  | none => .no
def extF (n : Nat) (d : D) (h : Hh) : Rs := match d with
  | .ref m => match h[n]?, h[m]? with
    | some (.lst ds), some (.lst es) => .cond (ds.length + es.length ≤ sizeLine) .non (h.set n (.lst (ds ++ es)))
    | _, _ => .no
  | _ => .no
def revF (n : Nat) (h : Hh) : Rs := match h[n]? with
  | some (.lst ds) => .ok .non (h.set n (.lst ds.reverse))
  | none => .no
def popF (n : Nat) (h : Hh) : Rs := match h[n]? with
  | some (.lst ds) => .opt ds[ds.length - 1]? (h.set n (.lst ds.dropLast))
  | none => .no
section
variable {X : Cx} {z : Zs} {W : WX} {o a : Expr} {to ta : dE} {apos cpos : Pos}
theorem RH.isLst {K : PySem.W.Frag} {ι : List Addr} {h : Hh} {H : Hp} {n : Nat} {v : V} (r : RH K z ι h H) (q : Den K z ι H v (.ref n)) : tyV K "list" v H := by
  cases q with
  | ref hi =>
    rename_i p
    obtain ⟨hl, _⟩ := List.getElem?_eq_some_iff.mp hi
    have hl' : n < h.length := by rw [← r.len]; exact hl
    have w := r.at_ (List.getElem?_eq_getElem hl') hi
    cases eo : h[n] with
    | lst ds =>
      rw [eo] at w
      obtain ⟨xs, e1, _⟩ := w
      exact .inl ⟨rfl, _, .inl (.inl e1)⟩
theorem mono_m1 {f : Nat → D → Hh → Rs} (mo : Mono to) (ma : Mono ta) : Mono (dM1 f to ta) := fun e h _ _ _ _ hQ hE q => mo _ _ _ _ _ _ (fun x h1 w => by
  cases x with
  | ref n => exact ma _ _ _ _ _ _ (fun _ _ w2 => Rs.mono hQ w2) hE w
  | _ => exact w.elim) hE q
theorem mono_m0 {f : Nat → Hh → Rs} (mo : Mono to) : Mono (dM0 f to) := fun e h _ _ _ _ hQ hE q => mo _ _ _ _ _ _ (fun x h1 w => by
  cases x with
  | ref n => exact Rs.mono hQ w
  | _ => exact w.elim) hE q
def M1D (K : PySem.W.Frag) (f : Nat → D → Hh → Rs) (rr : V → List V → Hp → VK → Prop) : Prop := ∀ (z : Zs) (ι : List Addr) (h : Hh) (e : En) (H : Hp) (σ : L2.St) (x y : V) (n : Nat) (b : D) (Q : VK),
  R K z ι h e H σ → Den K z ι H x (.ref n) → Den K z ι H y b → (f n b h).to (PEq K z ι e σ H Q) → rr x [y] H Q
def M0D (K : PySem.W.Frag) (f : Nat → Hh → Rs) (rr : V → List V → Hp → VK → Prop) : Prop := ∀ (z : Zs) (ι : List Addr) (h : Hh) (e : En) (H : Hp) (σ : L2.St) (x : V) (n : Nat) (Q : VK),
  R K z ι h e H σ → Den K z ι H x (.ref n) → (f n h).to (PEq K z ι e σ H Q) → rr x [] H Q
theorem de_m1 {f : Nat → D → Hh → Rs} {rr : V → List V → Hp → VK → Prop} {name : Str} {id : String} (slot : Slot "list" name id) (hty : typeOf (.builtin id) = pure (.type "method_descriptor")) (hr : MtR X id rr) (hd : M1D X.K f rr) (ho : DE X z W o to) (ha : DE X z W a ta)
    (he1 : starEach [a] X.env = (false, eval a X.env) :: starEach [] X.env)
    (hbase : attributeBase o name X.env (eval o X.env) = eval o X.env)
    (hfew : ((backTo cpos (starEach [a] X.env)).all (fun x => !x.1) && (backToKw cpos (keywordEach [] X.env)).all (fun x => x.1.isSome)
      && decide ([a].length + ([] : List Keyword).length + (if ([] : List Keyword).isEmpty then 0 else 1) < 30)) = true)
    (hline : (apos.endLine == cpos.line) = true) (hplain : (backTo cpos (starEach [] X.env)).any (·.1) = false) :
    DE X z W (.Call (.Attribute o name apos) [a] [] cpos) (dM1 f to ta) := by
  refine ⟨pe_imp (pe_bm PySem.F.plainAttrs_list slot hty hr ho.run (pa_cons ha.run pa_nil he1) hbase hfew hline he1 hplain) fun σ H Q ⟨ι, h, e, r, q⟩ => lift_of ho.mono r q (fun x h1 ι1 H1 v q1 k1 r1 d1 => ?_) fun _ _ q => q, mono_m1 ho.mono ha.mono⟩
  cases x with
  | ref n =>
    refine ⟨r1.hp.isLst d1, lift_of ha.mono r1 q1 (fun y h2 ι2 H2 u q2 k2 r2 d2 => ?_) fun _ _ q => q.shift k1⟩
    exact hd z ι2 h2 e H2 σ v u n y Q r2 (d1.keep k2) d2 (Rs.mono (fun d h' p => PEq.shift (k1.trans k2) p) q2)
  | _ => exact q1.elim
theorem de_m0 {f : Nat → Hh → Rs} {rr : V → List V → Hp → VK → Prop} {name : Str} {id : String} (slot : Slot "list" name id) (hty : typeOf (.builtin id) = pure (.type "method_descriptor")) (hr : MtR X id rr) (hd : M0D X.K f rr) (ho : DE X z W o to)
    (hbase : attributeBase o name X.env (eval o X.env) = eval o X.env) (hline : (apos.endLine == cpos.line) = true) :
    DE X z W (.Call (.Attribute o name apos) [] [] cpos) (dM0 f to) := by
  refine ⟨pe_imp (pe_bm0 PySem.F.plainAttrs_list slot hty hr ho.run hbase hline) fun σ H Q ⟨ι, h, e, r, q⟩ => lift_of ho.mono r q (fun x h1 ι1 H1 v q1 k1 r1 d1 => ?_) fun _ _ q => q, mono_m0 ho.mono⟩
  cases x with
  | ref n => exact ⟨r1.hp.isLst d1, hd z ι1 h1 e H1 σ v n Q r1 d1 (Rs.mono (fun d h' p => PEq.shift k1 p) q1)⟩
  | _ => exact q1.elim
theorem m1_app {K : PySem.W.Frag} : M1D K appF rAppend := by
  intro z ι h e H σ x y n b Q r dx dy q
  unfold appF at q
  split at q
  · rename_i ds hn
    obtain ⟨p, xs, rfl, hi, hp, hx, hl⟩ := r.hp.list dx hn
    refine ⟨p, xs, y, rfl, rfl, hp, by rw [hx.length]; exact q.1, ?_⟩
    exact q.2 ι _ _ (Kp.wrote r.hp (List.mem_of_getElem? hi) _) (r.wrote hi hl (hx.append (.cons dy .nil))) .non
  · exact q.elim
theorem m1_ext {K : PySem.W.Frag} : M1D K extF rExtend := by
  intro z ι h e H σ x y n b Q r dx dy q
  unfold extF at q
  split at q
  · split at q
    · rename_i h1 h2
      obtain ⟨p, xs, rfl, hi, hp, hx, hl⟩ := r.hp.list dx h1
      obtain ⟨p2, ys, rfl, hi2, hp2, hy, hl2⟩ := r.hp.list dy h2
      refine ⟨p, p2, xs, ys, rfl, rfl, hp, hp2, by rw [hx.length, hy.length]; exact q.1, ?_⟩
      exact q.2 ι _ _ (Kp.wrote r.hp (List.mem_of_getElem? hi) _) (r.wrote hi hl (hx.append hy)) .non
    · exact q.elim
  · exact q.elim
theorem Dens.reverse {K : PySem.W.Frag} {ι : List Addr} {H : Hp} : ∀ {vs : List V} {ds : List D}, Dens K z ι H vs ds → Dens K z ι H vs.reverse ds.reverse
  | _, _, .nil => .nil
  | _, _, .cons a b => by rw [List.reverse_cons, List.reverse_cons]; exact (Dens.reverse b).append (.cons a .nil)
theorem Dens.dropLast {K : PySem.W.Frag} {ι : List Addr} {H : Hp} {vs : List V} {ds : List D} (q : Dens K z ι H vs ds) : Dens K z ι H vs.dropLast ds.dropLast := by
  rw [List.dropLast_eq_take, List.dropLast_eq_take, q.length]
  exact q.take _
theorem m0_rev {K : PySem.W.Frag} : M0D K revF rReverse := by
  intro z ι h e H σ x n Q r dx q
  unfold revF at q
  split at q
  · rename_i ds hn
    obtain ⟨p, xs, rfl, hi, hp, hx, hl⟩ := r.hp.list dx hn
    exact ⟨p, xs, rfl, rfl, hp, q ι _ _ (Kp.wrote r.hp (List.mem_of_getElem? hi) _) (r.wrote hi hl (Dens.reverse hx)) .non⟩
  · exact q.elim
theorem m0_pop {K : PySem.W.Frag} : M0D K popF rPop := by
  intro z ι h e H σ x n Q r dx q
  unfold popF at q
  split at q
  · rename_i ds hn
    obtain ⟨p, xs, rfl, hi, hp, hx, hl⟩ := r.hp.list dx hn
    obtain ⟨d, hd, q⟩ := q
    obtain ⟨v, h1, h2⟩ := hx.get hd
    have kk := Kp.wrote (K := K) r.hp (List.mem_of_getElem? hi) (.lst xs.dropLast)
    exact ⟨p, xs, v, rfl, rfl, hp, by rw [hx.length]; exact h1, q ι _ _ kk (r.wrote hi hl (Dens.dropLast hx)) (h2.keep kk)⟩
  · exact q.elim
end
end Dn


namespace Dn
open PySem PySem.Spec PyProof.Rows L2

/-! ### the text behind the top -/
structure DefAt (K : PySem.W.Frag) (mg : Str → Option Value) (x : Str) (st : Stmt) (ps : List Str) : Prop where
  ex : ∃ f fd, mg x = some (.ref f) ∧ Fun K x x st f fd ∧ Binds K fd ps []
structure Ok (P : Program) (w : World) (K : PySem.W.Frag) (mg : Str → Option Value) (base : Heap) (k : Nat) (x : Str) (ps : List Str) (sp : Sp) : Prop where
  ex : ∃ f fd, mg x = some (.ref f) ∧ PySem.W.keepIn K (.ref f) = true ∧ Binds K fd ps [] ∧ FnOk P w K mg base (L2.CX P w) k f fd ps sp
theorem okOf {P : Program} {w : World} {K : PySem.W.Frag} {mg : Str → Option Value} {base : Heap} {k : Nat} {x : Str} {st : Stmt} {ps : List Str} {sp : Sp} (A : DefAt K mg x st ps) (h : ∀ f fd, Fun K x x st f fd → FnOk P w K mg base (L2.CX P w) k f fd ps sp) : Ok P w K mg base k x ps sp := by
  obtain ⟨f, fd, g, F, b⟩ := A.ex
  exact ⟨f, fd, g, F.kp, b, h f fd F⟩
theorem Ok.mono {P : Program} {w : World} {K : PySem.W.Frag} {mg : Str → Option Value} {base : Heap} {j k : Nat} {x : Str} {ps : List Str} {sp : Sp} (A : Ok P w K mg base j x ps sp) (h : j ≤ k) : Ok P w K mg base k x ps sp := by
  obtain ⟨f, fd, g, kp, b, F⟩ := A.ex
  exact ⟨f, fd, g, kp, b, F.mono h⟩
theorem def_at {K : PySem.W.Frag} {mg : Str → Option Value} {hp : Heap} {x : Str} {st : Stmt} {ps : List Str} {f : Addr} {oc : Value} {od an : Option Addr} {sl : Array (Option Value)} {kV doc pm cd ct : Value} (X : K.In hp) (G : hp.Ns mainGlobals mg)
    (a : PySem.W.nsIn K mainGlobals x = some (some (.ref f))) (l : K.lookup f = some ⟨oc, od, .func (PySem.W.fnOf x x (defArgs st) (defBody st) (defScope st) .none kV doc pm an cd ct), sl⟩) (c : PySem.W.codeIn K cd x = true) (kp : PySem.W.keepIn K (.ref f) = true)
    (hb : ∀ (kV doc pm : Value) (an : Option Addr) (cdv ct : Value) (us : List Value), us.length = ps.length → bindArgs (PySem.W.fnOf x x (defArgs st) (defBody st) (defScope st) .none kV doc pm an cdv ct) ⟨us, []⟩ = pure (ps.zip us)) : DefAt K mg x st ps :=
  let F := fun_mk (st := st) l c kp
  ⟨f, _, PySem.W.mg_of X G a, F, F.binds hb⟩
/-- an own class of errors -/
structure ExcAt (K : PySem.W.Frag) (mg : Str → Option Value) (x : Str) (C : Addr) : Prop where
  g : mg x = some (.ref C)
  q : PySem.W.excIn K C [.type "ValueError", .type "Exception", .type "BaseException", .type "object"] "ValueError.__new__" = true
  k : PySem.W.keepIn K (.ref C) = true
  sb : PySem.W.subIn K (.ref C) (.type "BaseException") = some true
  ty : PySem.W.typeIn K (.ref C) = some (.type "type")
  is : PySem.W.isClsIn K C = true
structure ExcHas (K : PySem.W.Frag) (mg : Str → Option Value) (x : Str) : Prop where
  ex : ∃ C, ExcAt K mg x C
/-- an error of the class x is taken by the clause that names c, or is not -/
structure Takes2 (K : PySem.W.Frag) (mg : Str → Option Value) (x c : Str) (b : Bool) : Prop where
  ex : ∃ C C', mg x = some (.ref C) ∧ mg c = some (.ref C') ∧ PySem.W.exmOne K (.ref C) (.ref C') = some b
theorem exm_sub {K : PySem.W.Frag} {C C' : Addr} {b : Bool} (h1 : PySem.W.subIn K (.ref C') (.type "BaseException") = some true) (h2 : PySem.W.isClsIn K C' = true) (h3 : PySem.W.typeIn K (.ref C') = some (.type "type")) (h4 : PySem.W.subIn K (.ref C) (.ref C') = some b) : PySem.W.exmOne K (.ref C) (.ref C') = some b := by
  have e1 : (PySem.W.subIn K (.ref C') (.type "BaseException") == some true) = true := by rw [h1] <;> rfl
  have e2 : ((PySem.W.clsIn K C').isSome && PySem.W.typeIn K (.ref C') == some (.type "type")) = true := by
    have w : (PySem.W.clsIn K C').isSome = true := h2
    rw [w, h3] <;> rfl
  show (if (PySem.W.subIn K (.ref C') (.type "BaseException") == some true) = true then (if ((PySem.W.clsIn K C').isSome && PySem.W.typeIn K (.ref C') == some (.type "type")) = true then PySem.W.subIn K (.ref C) (.ref C') else none) else none) = some b
  rw [if_pos e1, if_pos e2, h4]
theorem takes2 {K : PySem.W.Frag} {mg : Str → Option Value} {x c : Str} {b : Bool} {C C' : Addr} (a : mg x = some (.ref C)) (a' : ExcAt K mg c C') (h4 : PySem.W.subIn K (.ref C) (.ref C') = some b) : Takes2 K mg x c b := ⟨C, C', a, a'.g, exm_sub a'.sb a'.is a'.ty h4⟩
def catL : List (Str × Str × Bool) → Str → Str → Option Bool
  | [], _, _ => none
  | (x, c, b) :: r, y, d => if x = y ∧ c = d then some b else catL r y d
theorem catL_ok {K : PySem.W.Frag} {mg : Str → Option Value} : ∀ {l : List (Str × Str × Bool)}, (∀ p ∈ l, Takes2 K mg p.1 p.2.1 p.2.2) → CatOk K mg (catL l)
  | [], _ => fun _ _ _ _ _ h _ _ => by cases h
  | (x, c, b) :: r, h => fun y d b' cls cv e h1 h2 => by
    unfold catL at e
    split at e
    · rename_i hh
      obtain ⟨rfl, rfl⟩ := hh
      injection e with e; subst e
      obtain ⟨C, C', g1, g2, g3⟩ := (h _ List.mem_cons_self).ex
      rw [g1] at h1; injection h1 with h1; subst h1
      rw [g2] at h2; injection h2 with h2; subst h2
      exact g3
    · exact catL_ok (fun p hp => h p (List.mem_cons_of_mem _ hp)) y d b' cls cv e h1 h2

section
variable {X : Cx} {z : Zs} {W : WX} {α : Type} {k n : Nat} {ps : List Str} {x : Str} {p pos : Pos} {a : Expr} {es : List Expr} {ta : dA}
theorem dn_callP {g : Spc α} (G : Ok X.prog X.w X.K X.mg X.base k x ps (spP X.K X.mg g)) (hr : Room k X.A) (tk : Takes X W) (hg : Gl X x) (hdb : (x == ("__debug__" : Str)) = false) (ha : DA X z W (a :: es) ta n) 
    (he : starEach (a :: es) X.env = (false, eval a X.env) :: starEach es X.env) (hpl : (backTo pos (starEach es X.env)).any (·.1) = false) : DE X z W (.Call (.Name x p) (a :: es) [] pos) (dCallP g ta) := by
  obtain ⟨f, fd, gm, kp, b, F⟩ := G.ex
  exact de_callP F hr hg gm kp b tk ha hdb he hpl
theorem dn_callD {g : SpcD α} (G : Ok X.prog X.w X.K X.mg X.base k x ps (spD X.K g)) (hr : Room k X.A) (tk : Takes X W) (hg : Gl X x) (hdb : (x == ("__debug__" : Str)) = false) (ha : DA X z W (a :: es) ta n)
    (he : starEach (a :: es) X.env = (false, eval a X.env) :: starEach es X.env) (hpl : (backTo pos (starEach es X.env)).any (·.1) = false) : DE X z W (.Call (.Name x p) (a :: es) [] pos) (dCallD g ta) := by
  obtain ⟨f, fd, gm, kp, b, F⟩ := G.ex
  exact de_callD F hr hg gm kp b tk ha hdb he hpl
theorem dn_raise {x m : Str} {j : Nat} {p p2 pos pos2 : Pos} (T : ExcHas X.K X.mg x) (hc : X.calm = true) (tk : Takes X W) (hg : Gl X x) (hdb : (x == ("__debug__" : Str)) = false) : DS X z W (.Raise (some (.Call (.Name x p) [.Constant (.str m) j p2] [] pos)) none pos2) (sRaise x) := by
  obtain ⟨C, T⟩ := T.ex
  exact ds_raise hc tk PySem.F.excBase_ValueError T.q T.g T.k (raises_own T.sb T.ty) hg hdb
end

/-! ### isinstance(e, C) in a suite -/
structure IsE (K : PySem.W.Frag) (mg : Str → Option Value) (x c : Str) (b : Bool) : Prop where
  ex : ∃ C C', mg x = some (.ref C) ∧ mg c = some (.ref C') ∧ ExcC K C ∧ PySem.W.kitOne K (.ref C) (.ref C') = some b
theorem de_isE {X : Cx} {z : Zs} {a : Addr} {oe : Obj} {cls : Value} {d : Option Addr} {pn : List (Addr × Obj)} {n x c : Str} {i : Nat} {b : Bool} {p p1 p2 pos : Pos} (T : IsE X.K X.mg x c b) (hx : X.mg x = some cls) (hz : Zc cls d oe) (hf : ∃ vs, oe.data = .fields vs) (hd : d = none)
    (hN : X.N[i]? = some n) (hv : Vis X.env.scope n) (hdn : (n == ("__debug__" : Str)) = false) (hcd : (n == ("__classdict__" : Str)) = false) (hg : Gl X "isinstance") (hm : X.mg "isinstance" = none) (hgc : Gl X c) (hdc : (c == ("__debug__" : Str)) = false)
    (he : starEach [.Name n p1, .Name c p2] X.env = (false, eval (.Name n p1) X.env) :: starEach [.Name c p2] X.env) (he2 : starEach [.Name c p2] X.env = (false, eval (.Name c p2) X.env) :: starEach [] X.env) (hpl : (backTo pos (starEach [.Name c p2] X.env)).any (·.1) = false) :
    DE (X.suite a ((a, oe) :: pn)) z NoW (.Call (.Name "isinstance" p) [.Name n p1, .Name c p2] [] pos) (dIsE i a b) := by
  obtain ⟨C, C', g1, g2, ec, kt⟩ := T.ex
  rw [hx] at g1; injection g1 with g1; subst g1; subst hd
  have hv' : bootBuiltins "isinstance" = some (.builtin "isinstance") := by decide +kernel
  have e1 : PE (X.suite a ((a, oe) :: pn)) (.Name n p1) (tVar i) := pe_var hN hv hdn hcd
  have e2 : PE (X.suite a ((a, oe) :: pn)) (.Name c p2) (tC (.ref C')) := pe_glob hgc g2 rfl hdc
  refine ⟨pe_imp (pe_callB (X := X.suite a ((a, oe) :: pn)) (call_isE ec hz hf) hg hm hv' (pa_cons e1 (pa_cons e2 pa_nil he2) he) (by decide) (by decide) he hpl) fun σ H Q ⟨ι, h, e, r, q⟩ => ?_, mono_isE⟩
  obtain ⟨v, h1, h2⟩ := r.en.get i _ (slot_get q.1)
  cases h2
  exact ⟨_, h1, .ref C', .ref C', b, rfl, fun u hu => hu, kt, q.2 ι H _ Kp.refl r (.bl _)⟩

/-! ### the law's own promise -/
def spLaw0 (n : Nat) (K : PySem.W.Frag) : Sp := fun vs H Q _ => ∃ (a : Addr) (ns : List Int), vs = [.ref a] ∧ SqL K H a (ns.map V.int) ∧ ns.length ≤ n ∧ ∀ H', Q (.bl true) H'
def lawSpc (n : Nat) : Spc (List Int) where
  pre := fun ns ds => ds = [.lst (ns.map .int)] ∧ ns.length ≤ n
  res := fun _ o => o = .val (.bl true)
  exc := fun _ _ => False
theorem law_imp {P : Program} {w : World} {K : PySem.W.Frag} {mg : Str → Option Value} {base : Heap} {n k : Nat} {f : Addr} {fd : FuncData} {ps : List Str} (F : FnOk P w K mg base (L2.CX P w) k f fd ps (spP K mg (lawSpc n))) : FnOk P w K mg base (L2.CX P w) k f fd ps (spLaw0 n K) := by
  refine F.imp fun vs H Q E ⟨a, ns, ev, hs, hl, q⟩ => ?_
  subst ev
  refine ⟨ns, [.lst (ns.map .int)], .cons (.lst (sq_fl hs) (ints_dens ns)) .nil, ⟨rfl, hl⟩, fun o v H' ho _ hr => ?_, fun _ _ _ _ c => c.elim⟩
  have ho' : o = .val (.bl true) := ho
  subst ho'
  rw [den_bl hr.2]
  exact q H'
theorem cx_no {P : Program} {w : World} {H : Hp} {s : Shared} {e : Value} {s' : Shared} (c : L2.CX P w [] H s (fun _ _ _ => False) e s') : False := by
  obtain ⟨_, _, _, _, _, _, _, _, _, _, _, _, q⟩ := c
  exact q
end Dn


namespace Dn
open PySem PySem.Spec PyProof.Rows L2
/-- the suite's code, for the one class nm of errors that comes -/
def onlyX (nm : Str) (t : Addr → dS) : Addr → Ex → dS := fun a x A e h => (x.cls = nm ∧ x.fld = []) ∧ t a A e h
section
variable {X : Cx} {z : Zs} {W : WX} {cat : Str → Str → Option Bool} {c n nm : Str} {i : Nat} {body suite : List Stmt} {b₀ : Stmt} {np pos pos' : Pos} {tb : dS} {t : Addr → dS}
theorem mono_onlyX (Tx : ExcHas X.K X.mg nm)
    (hsu : ∀ (a : Addr) (oe : Obj) (cls : Value) (d : Option Addr) (pn : List (Addr × Obj)), Zc cls d oe → (∃ vs, oe.data = .fields vs) → X.mg nm = some cls → d = none → DSs (X.suite a ((a, oe) :: pn)) z NoW (b₀ :: suite) (t a)) : ∀ a x, MonoS (onlyX nm t a x) := fun a x A B e h le q => by
  obtain ⟨C, T⟩ := Tx.ex
  exact ⟨q.1, (hsu a { cls := .ref C, data := .fields #[] } (.ref C) none [] ⟨rfl, rfl⟩ ⟨_, rfl⟩ T.g rfl).mono _ _ _ _ le q.2⟩
theorem hsu_onlyX 
    (hsu : ∀ (a : Addr) (oe : Obj) (cls : Value) (d : Option Addr) (pn : List (Addr × Obj)), Zc cls d oe → (∃ vs, oe.data = .fields vs) → X.mg nm = some cls → d = none → DSs (X.suite a ((a, oe) :: pn)) z NoW (b₀ :: suite) (t a))
    (a : Addr) (oe : Obj) (cls : Value) (d : Option Addr) (pn : List (Addr × Obj)) (x : Ex) (hz : Zc cls d oe) (hf : ∃ vs, oe.data = .fields vs) (hx : X.mg x.cls = some cls) (hd : x.fld = [] → d = none) (m : MonoS (onlyX nm t a x)) : DSs (X.suite a ((a, oe) :: pn)) z NoW (b₀ :: suite) (onlyX nm t a x) := by
  refine ⟨⟨fun pins s σ H A I ⟨ι, h', e, r, hc, q⟩ => ?_⟩, m⟩
  exact (hsu a oe cls d pn hz hf (by rw [← hc.1]; exact hx) (hd hc.2)).run.run pins s σ H A I ⟨ι, h', e, r, q⟩
theorem dn_tryAs (Tc : ExcHas X.K X.mg c) (Tx : ExcHas X.K X.mg nm) (hg : Gl X c) (hdb : (c == ("__debug__" : Str)) = false) (hcat : CatOk X.K X.mg cat) (tk : Takes X W) (hs : X.stack = X.env :: X.outer) (hf : X.env.frame = some X.env.locals) (hN : X.N.Nodup) (hi : X.N[i]? = some n) (hln : X.env.kindOf n = some .local)
    (hb : ∀ (W' : WX) (pn : List (Addr × Obj)) (xe : Value → Shared → Prop), Takes (X.tr pn xe) W' → PassesOwn (model X.prog X.w) X.A X.env xe → DSs (X.tr pn xe) z W' body tb)
    (hsu : ∀ (a : Addr) (oe : Obj) (cls : Value) (d : Option Addr) (pn : List (Addr × Obj)), Zc cls d oe → (∃ vs, oe.data = .fields vs) → X.mg nm = some cls → d = none → DSs (X.suite a ((a, oe) :: pn)) z NoW (b₀ :: suite) (t a)) :
    DS X z W (.Try body [.ExceptHandler (some (.Name c np)) (some n) (b₀ :: suite) pos'] [] [] pos) (sTryAs cat c i tb (onlyX nm t)) := by
  obtain ⟨C, T⟩ := Tc.ex
  have m := mono_onlyX Tx hsu
  exact ds_tryAs hs hf hN hi hln ⟨hg, hdb, .inl T.g⟩ T.g hcat tk hb (fun a oe cls d pn x hz hv hx hd => hsu_onlyX hsu a oe cls d pn x hz hv hx hd (m a x)) (hb NoW [] (fun _ _ => False) takes0 PassesOwn.never).mono m
theorem dn_try (Tc : ExcHas X.K X.mg c) (Tx : ExcHas X.K X.mg nm) (hg : Gl X c) (hdb : (c == ("__debug__" : Str)) = false) (hcat : CatOk X.K X.mg cat) (tk : Takes X W) (hs : X.stack = X.env :: X.outer) (hf : X.env.frame = some X.env.locals)
    (hb : ∀ (W' : WX) (pn : List (Addr × Obj)) (xe : Value → Shared → Prop), Takes (X.tr pn xe) W' → PassesOwn (model X.prog X.w) X.A X.env xe → DSs (X.tr pn xe) z W' body tb)
    (hsu : ∀ (a : Addr) (oe : Obj) (cls : Value) (d : Option Addr) (pn : List (Addr × Obj)), Zc cls d oe → (∃ vs, oe.data = .fields vs) → X.mg nm = some cls → d = none → DSs (X.suite a ((a, oe) :: pn)) z NoW (b₀ :: suite) (t a)) :
    DS X z W (.Try body [.ExceptHandler (some (.Name c np)) none (b₀ :: suite) pos'] [] [] pos) (sTry cat c tb (onlyX nm t)) := by
  obtain ⟨C, T⟩ := Tc.ex
  have m := mono_onlyX Tx hsu
  exact ds_try hs hf ⟨hg, hdb, .inl T.g⟩ T.g hcat tk hb (fun a oe cls d pn x hz hv hx hd => hsu_onlyX hsu a oe cls d pn x hz hv hx hd (m a x)) (hb NoW [] (fun _ _ => False) takes0 PassesOwn.never).mono m
end
/-- x += e -/
def iaddF : D → D → Hh → Rs
  | .int i, .int j, h => .ok (.int (i + j)) h
  | _, _, _ => .no
theorem od_iadd {K : PySem.W.Frag} : OpD K iaddF (ipI fun i j => i + j) := by
  intro z ι h e H σ x y a b Q r da db q
  unfold iaddF at q
  split at q
  · have := den_int da; have := den_int db; subst_vars
    exact ⟨_, _, rfl, rfl, q ι H _ Kp.refl r (.int _)⟩
  · exact q.elim
end Dn


namespace Dn
open PySem PySem.Spec PyProof.Rows L2
/-! ### sizes -/
abbrev Bt (m : Nat) (x : Int) : Prop := Builtin.Int.intBits x ≤ m
theorem bt_iff {m : Nat} {x : Int} : Bt m x ↔ x.natAbs < 2 ^ m := PySem.intBits_le_iff
theorem bt_mul {a b : Int} {m : Nat} (ha : Bt m a) (hb : Bt m b) (h : m ≤ 60000000) : MulOk a b := PyProof.Rows.mulOk_of_bits ha hb (by omega)
theorem bt_mono {m n : Nat} {x : Int} (h : Bt m x) (k : m ≤ n) : Bt n x := Nat.le_trans h k
theorem bt_div {a b : Int} (hb : Bt 8000 b) (h : b ≠ 0) : DivOk a b := by
  refine ⟨h, PyProof.noPylong_of_log2 ?_⟩
  have w := bt_iff.mp hb
  have h0 : b.natAbs ≠ 0 := by omega
  have := (Nat.log2_lt h0).mpr w
  omega
theorem bt_small {a b : Int} (h : b ≠ 0) (hb : b.natAbs < 1073741824) : DivOk a b := ⟨h, PyProof.noPylong_small hb⟩
theorem bt_mulr {a b : Int} (hb : b.natAbs < 1073741824) : MulOk a b := IntMulOk.of_right (Nat.le_trans ((bt_iff (m := 30)).mpr (by omega)) (by decide))
theorem at0 {α : Type} {a : α} {r : List α} : atI (a :: r) 0 = some a := by unfold atI ixN; rw [if_pos (by omega), if_pos (by simp only [List.length_cons]; omega)]; rfl
theorem at1 {α : Type} {a b : α} {r : List α} : atI (a :: b :: r) 1 = some b := by unfold atI ixN; rw [if_pos (by omega), if_pos (by simp only [List.length_cons]; omega)]; rfl
theorem at2 {α : Type} {a b c : α} {r : List α} : atI (a :: b :: c :: r) 2 = some c := by unfold atI ixN; rw [if_pos (by omega), if_pos (by simp only [List.length_cons]; omega)]; rfl
theorem at3 {α : Type} {a b c d : α} {r : List α} : atI (a :: b :: c :: d :: r) 3 = some d := by unfold atI ixN; rw [if_pos (by omega), if_pos (by simp only [List.length_cons]; omega)]; rfl
theorem at4 {α : Type} {a b c d e : α} {r : List α} : atI (a :: b :: c :: d :: e :: r) 4 = some e := by unfold atI ixN; rw [if_pos (by omega), if_pos (by simp only [List.length_cons]; omega)]; rfl
theorem atN {α : Type} {l : List α} (i : Int) (h : 0 ≤ i) (k : i < l.length) : atI l i = l[i.toNat]? := by simp [atI, ixN, h, k]
theorem ix0 {n : Nat} : ixN (n + 1) 0 = some 0 := by unfold ixN; rw [if_pos (by omega), if_pos (by omega)]; rfl
theorem ix1 {n : Nat} : ixN (n + 2) 1 = some 1 := by unfold ixN; rw [if_pos (by omega), if_pos (by omega)]; rfl
theorem ix2 {n : Nat} : ixN (n + 3) 2 = some 2 := by unfold ixN; rw [if_pos (by omega), if_pos (by omega)]; rfl
theorem ix3 {n : Nat} : ixN (n + 4) 3 = some 3 := by unfold ixN; rw [if_pos (by omega), if_pos (by omega)]; rfl
theorem g0 {a : O} {r : List O} : (a :: r)[0]? = some a := rfl
theorem g1 {a b : O} {r : List O} : (a :: b :: r)[1]? = some b := rfl
theorem g2 {a b c : O} {r : List O} : (a :: b :: c :: r)[2]? = some c := rfl
theorem g3 {a b c d : O} {r : List O} : (a :: b :: c :: d :: r)[3]? = some d := rfl
theorem g4 {a b c d e : O} {r : List O} : (a :: b :: c :: d :: e :: r)[4]? = some e := rfl
theorem ex_some {α : Type} {a : α} {Q : α → Prop} : (∃ d, some a = some d ∧ Q d) = Q a := propext ⟨fun ⟨d, e, q⟩ => by injection e with e; subst e; exact q, fun q => ⟨a, rfl, q⟩⟩
theorem at_mem {α : Type} {l : List α} {v : Int} (h : 0 ≤ v) (k : v < l.length) : ∃ d, d ∈ l ∧ atI l v = some d := by
  have hk : v.toNat < l.length := by omega
  exact ⟨l[v.toNat], List.getElem_mem hk, by rw [atN v h k, List.getElem?_eq_getElem hk]⟩
theorem is_NoneType_int : isaS "NoneType" "int" = false := by decide
theorem is_NoneType_bool : isaS "NoneType" "bool" = false := by decide
theorem is_NoneType_str : isaS "NoneType" "str" = false := by decide
theorem is_NoneType_tuple : isaS "NoneType" "tuple" = false := by decide
theorem is_NoneType_list : isaS "NoneType" "list" = false := by decide
theorem is_bool_int : isaS "bool" "int" = true := by decide
theorem is_bool_bool : isaS "bool" "bool" = true := by decide
theorem is_bool_str : isaS "bool" "str" = false := by decide
theorem is_bool_tuple : isaS "bool" "tuple" = false := by decide
theorem is_bool_list : isaS "bool" "list" = false := by decide
theorem is_int_int : isaS "int" "int" = true := by decide
theorem is_int_bool : isaS "int" "bool" = false := by decide
theorem is_int_str : isaS "int" "str" = false := by decide
theorem is_int_tuple : isaS "int" "tuple" = false := by decide
theorem is_int_list : isaS "int" "list" = false := by decide
theorem is_str_int : isaS "str" "int" = false := by decide
theorem is_str_bool : isaS "str" "bool" = false := by decide
theorem is_str_str : isaS "str" "str" = true := by decide
theorem is_str_tuple : isaS "str" "tuple" = false := by decide
theorem is_str_list : isaS "str" "list" = false := by decide
theorem is_tuple_int : isaS "tuple" "int" = false := by decide
theorem is_tuple_bool : isaS "tuple" "bool" = false := by decide
theorem is_tuple_str : isaS "tuple" "str" = false := by decide
theorem is_tuple_tuple : isaS "tuple" "tuple" = true := by decide
theorem is_tuple_list : isaS "tuple" "list" = false := by decide
theorem is_list_int : isaS "list" "int" = false := by decide
theorem is_list_bool : isaS "list" "bool" = false := by decide
theorem is_list_str : isaS "list" "str" = false := by decide
theorem is_list_tuple : isaS "list" "tuple" = false := by decide
theorem is_list_list : isaS "list" "list" = true := by decide
theorem ints_at {lo : Int} {n i : Nat} {x : D} (h : (intsUp lo n)[i]? = some x) : i < n ∧ x = .int (lo + i) := by
  unfold intsUp at h
  rw [List.getElem?_map] at h
  by_cases hi : i < n
  · rw [List.getElem?_eq_getElem (by simpa using hi)] at h
    simp at h
    exact ⟨hi, h.symm⟩
  · rw [List.getElem?_eq_none (by simpa using hi)] at h
    cases h
/-! ### calls in use -/
def useP {α : Type} (g : Spc α) (ds : List D) (h : Hh) (Q : D → Hh → Prop) (E : XK') : Prop := ∃ x es, Views h (fun _ => True) ds es ∧ g.pre x es ∧ (∀ o, g.res x o → outPure o = true → outPost Q h o) ∧ (∀ ex, g.exc x ex → pureX ex = true → E ex h)
theorem dCallP_eq {α : Type} {g : Spc α} {ta : dA} : dCallP g ta = fun e h Q E => ta e h (fun ds h1 => useP g ds h1 Q E) E := rfl
def useD {α : Type} (g : SpcD α) (ds : List D) (h1 : Hh) (Q : D → Hh → Prop) : Prop := match ds with
  | .ref n :: rest => ∃ x es s m, n ≠ m ∧ h1[n]? = some (.lst (drD m s)) ∧ h1[m]? = some (.lst (s.c.map .int)) ∧ Views h1 (fun j => j ≠ n ∧ j ≠ m) rest es ∧ g.pre x es s ∧ ∀ o s', g.res x o s' → s'.c = s.c → outPure o = true → outPost Q (h1.set n (.lst (drD m s'))) o
  | _ => False
theorem dCallD_eq {α : Type} {g : SpcD α} {ta : dA} : dCallD g ta = fun e h Q E => ta e h (fun ds h1 => useD g ds h1 Q) E := rfl
theorem useP_mk {α : Type} {g : Spc α} {ds : List D} {h : Hh} {Q : D → Hh → Prop} {E : XK'} (x : α) (es : List D) (v : Views h (fun _ => True) ds es) (p : g.pre x es) (r : ∀ o, g.res x o → outPure o = true → outPost Q h o) (e : ∀ ex, ¬ g.exc x ex) : useP g ds h Q E :=
  ⟨x, es, v, p, r, fun ex q => (e ex q).elim⟩
theorem useP_val {α : Type} {g : Spc α} {ds : List D} {h : Hh} {Q : D → Hh → Prop} {E : XK'} (x : α) (d : D) (v : pureDs ds = true) (p : g.pre x ds) (r : ∀ o, g.res x o → o = .val d) (e : ∀ ex, ¬ g.exc x ex) (q : Q d h) : useP g ds h Q E :=
  useP_mk x ds (Views.pures v) p (fun o ho _ => by rw [r o ho]; exact q) e
/-- the draws at 1, their cells at 0 -/
theorem useD_10 {α : Type} {g : SpcD α} {ds : List D} {c : List Int} {s : DrS} {r : Hh} {Q : D → Hh → Prop} (x : α) (hc : s.c = c) (v : pureDs ds = true) (p : g.pre x ds s) (w : ∀ o s', g.res x o s' → s'.c = c → ∃ d, o = .val d ∧ Q d (.lst (c.map .int) :: .lst (drD 0 s') :: r)) : useD g (.ref 1 :: ds) (.lst (c.map .int) :: .lst (drD 0 s) :: r) Q :=
  ⟨x, ds, s, 0, by decide, rfl, by rw [hc]; rfl, Views.pures v, p, fun o s' ho hs _ => by
    obtain ⟨d, rfl, q⟩ := w o s' ho (hs.trans hc)
    exact q⟩
theorem sl {n : Nat} (h : Nat.blt n 1000 = true) : n < sizeLine := Nat.lt_of_lt_of_le (by simpa [Nat.blt_eq] using h) (show (1000 : Nat) ≤ sizeLine by decide)
theorem walk_mine {l : PySem.W.OpenLaw} {k : Nat} {q : Program} {loose : List Str} {XP : (Str → Option Value) → Heap → Prop} {YP : World → Heap → Prop} {d : DefRec} {K : Params → PySem.W.Frag} {x : Str}
    (hn : l.most = some 63) (hdf : d.params.defaults = []) (hr : Room k callerA)
    (hY : ∀ (w : World) (h : Heap), YP w h → (K w.params).In h)
    (F : ∀ (w : World) (mg : Str → Option Value) (fa : Addr) (h : Heap), (K w.params).In h → h.Ns mainGlobals mg → mg d.name = some (.ref fa) →
      ∃ fd : FuncData, (∀ (s : Shared) (u : Value), BindsTo s fd ⟨[u], []⟩ [(x, u)]) ∧ ∀ base : Heap, FnOk l.prog w (K w.params) mg base (L2.CX l.prog w) k fa fd [x] (spLaw0 63 (K w.params))) :
    PySem.W.WalkO q loose XP YP l.row.toRowW d [] (fun f vs => PySem.call f vs) :=
  L2.walk_of (CX := fun w => L2.CX l.prog w) (sp := fun w => spLaw0 63 (K w.params)) hn (by decide) hdf hr hY (fun w mg fa h a b c => by
    obtain ⟨fd, h1, h2⟩ := F w mg fa h a b c
    exact ⟨fd, h1, fun base _ _ => h2 base⟩) (fun _ _ a ns hl _ hS => ⟨a, ns, rfl, hS, hl, fun _ => rfl⟩) (fun _ _ _ _ _ h => cx_no h)
theorem ints_pure : ∀ c : List Int, pureDs (c.map D.int) = true
  | [] => rfl
  | _ :: r => by rw [List.map_cons]; unfold pureDs; rw [ints_pure r]; rfl
theorem cutT {A B : Prop} (f : A → B) (a : A) : B := f a
theorem bt0 {m : Nat} : Bt m 0 := bt_iff.mpr (by have := Nat.two_pow_pos m; simpa using this)
theorem bt_lit {m : Nat} {x : Int} (h : x.natAbs < 2 ^ 100) (k : 100 ≤ m) : Bt m x := bt_mono (bt_iff.mpr h) k
theorem rt_val {α : Type} {g : Spc α} {x : α} {d : D} {h : Hh} (p : pureD d = true) (q : g.res x (.val d)) : (endP g x).rt d h := .inl (Dn.outOk_val p q)
theorem nx_val {α : Type} {g : Spc α} {x : α} {e : En} {h : Hh} (q : g.res x (.val .non)) : (endP g x).nx e h := show outOkG (g.res x) .non h from .inl ⟨rfl, q⟩
theorem rtD_val {α : Type} {g : SpcD α} {x : α} {c : List Int} {d : D} {h : Hh} (s' : DrS) (hc : s'.c = c) (h0 : h[0]? = some (.lst (drD 1 s'))) (h1 : h[1]? = some (.lst (c.map .int))) (p : pureD d = true) (q : g.res x (.val d) s') : (endD g x c).rt d h := ⟨s', hc, h0, h1, .inl (outOk2_val p q)⟩
theorem rt_gen {α : Type} {g : Spc α} {x : α} {h : Hh} (d : D) (ls : List (List D)) (js : List Nat) {d' : D} (h1 : js.length = ls.length) (h2 : js.Nodup) (h3 : refD ls.length d = true) (h4 : ∀ l ∈ ls, refDs ls.length l = true) (h5 : d' = relD (fun m => js.getD m 0) d)
    (h6 : ∀ (i : Nat) (l : List D), ls[i]? = some l → h[js.getD i 0]? = some (.lst (relDs (fun m => js.getD m 0) l))) (q : g.res x (.gen d ls)) : (endP g x).rt d' h := .inr ⟨d, ls, js, h1, h2, fun _ _ => Nat.zero_le _, h3, h4, h5, h6, q⟩
theorem rt_new {α : Type} {g : Spc α} {x : α} {es : List D} {j : Nat} {h : Hh} (hj : h[j]? = some (.lst es)) (p : pureDs es = true) (q : g.res x (.new es)) : (endP g x).rt (.ref j) h := .inl (by
  show outOk (g.res x) (.ref j) h
  unfold outOk
  simp only [hj]
  exact .inl ⟨p, q⟩)
theorem rtD_gen {α : Type} {g : SpcD α} {x : α} {c : List Int} {h : Hh} (s' : DrS) (hc : s'.c = c) (h0 : h[0]? = some (.lst (drD 1 s'))) (h1 : h[1]? = some (.lst (c.map .int))) (d : D) (ls : List (List D)) (js : List Nat) {d' : D} (i1 : js.length = ls.length) (i2 : js.Nodup) (i0 : ∀ j ∈ js, 2 ≤ j) (i3 : refD ls.length d = true) (i4 : ∀ l ∈ ls, refDs ls.length l = true) (i5 : d' = relD (fun m => js.getD m 0) d)
    (i6 : ∀ (i : Nat) (l : List D), ls[i]? = some l → h[js.getD i 0]? = some (.lst (relDs (fun m => js.getD m 0) l))) (q : g.res x (.gen d ls) s') : (endD g x c).rt d' h := ⟨s', hc, h0, h1, .inr ⟨d, ls, js, i1, i2, i0, i3, i4, i5, i6, q⟩⟩
theorem rtD_new {α : Type} {g : SpcD α} {x : α} {c : List Int} {es : List D} {j : Nat} {h : Hh} (s' : DrS) (hc : s'.c = c) (h0 : h[0]? = some (.lst (drD 1 s'))) (h1 : h[1]? = some (.lst (c.map .int))) (hj2 : 2 ≤ j) (hj : h[j]? = some (.lst es)) (p : pureDs es = true) (q : g.res x (.new es) s') : (endD g x c).rt (.ref j) h := ⟨s', hc, h0, h1, .inl (by
  unfold outOk2
  simp only [hj]
  exact ⟨hj2, p, q⟩)⟩
/-- the draws at 1, their cells at 0: what comes back in any form -/
theorem useD_10o {α : Type} {g : SpcD α} {ds es : List D} {c : List Int} {s : DrS} {r : Hh} {Q : D → Hh → Prop} (x : α) (hc : s.c = c) (v : Views (.lst (c.map .int) :: .lst (drD 0 s) :: r) (fun j => j ≠ 1 ∧ j ≠ 0) ds es) (p : g.pre x es s) (w : ∀ o s', g.res x o s' → s'.c = c → outPure o = true → outPost Q (.lst (c.map .int) :: .lst (drD 0 s') :: r) o) : useD g (.ref 1 :: ds) (.lst (c.map .int) :: .lst (drD 0 s) :: r) Q :=
  ⟨x, es, s, 0, by decide, rfl, by rw [hc]; rfl, v, p, fun o s' ho hs po => w o s' ho (hs.trans hc) po⟩
end Dn


namespace Dn
open PySem PySem.Spec PyProof.Rows L2
/-! ### x is True -/
def isBF : D → D → Hh → Rs
  | .bl a, .bl b, h => .ok (.bl (decide (a = b))) h
  | _, _, _ => .no
def notBF : D → D → Hh → Rs
  | .bl a, .bl b, h => .ok (.bl (!decide (a = b))) h
  | _, _, _ => .no
section
variable {K : PySem.W.Frag}
theorem od_isB : OpD K isBF rIsB := by
  intro z ι h e H σ x y a b Q r da db q
  unfold isBF at q
  split at q
  · have := den_bl da; have := den_bl db; subst_vars
    exact ⟨_, _, rfl, rfl, q ι H _ Kp.refl r (.bl _)⟩
  · exact q.elim
theorem od_notB : OpD K notBF rNotB := by
  intro z ι h e H σ x y a b Q r da db q
  unfold notBF at q
  split at q
  · have := den_bl da; have := den_bl db; subst_vars
    exact ⟨_, _, rfl, rfl, q ι H _ Kp.refl r (.bl _)⟩
  · exact q.elim
end
section
variable {X : Cx} {z : Zs} {W : WX} {a b : Expr} {ta tb : dE} {pos : Pos}
theorem de_isB (ha : DE X z W a ta) (hb : DE X z W b tb) : DE X z W (.Compare a [.Is] [b] pos) (dOp isBF ta tb) := de_cmp op_isBl od_isB ha hb (nomark _)
theorem de_notB (ha : DE X z W a ta) (hb : DE X z W b tb) : DE X z W (.Compare a [.IsNot] [b] pos) (dOp notBF ta tb) := de_cmp op_notBl od_notB ha hb (nomark _)
end
/-! ### zip of two tuples, of two borrowed lists -/
def zipD (as bs : List D) : List D := List.zipWith (fun a b => .tup [a, b]) as bs
def srcZip (ta : dA) : dSrc := fun e h Q E => ta e h (fun ds h1 => match ds with
  | [.tup as, .tup bs] => Q (zipD as bs) (fun _ => True) h1
  | [.lst as, .lst bs] => Q (zipD as bs) (fun _ => True) h1
  | _ => False) E
theorem zipD_get {as bs : List D} {i : Nat} (h1 : i < as.length) (h2 : i < bs.length) : (zipD as bs)[i]? = some (.tup [as[i], bs[i]]) := by
  unfold zipD
  rw [List.getElem?_zipWith, List.getElem?_eq_getElem h1, List.getElem?_eq_getElem h2]
theorem zipD_len (as bs : List D) : (zipD as bs).length = min as.length bs.length := by unfold zipD; simp
section
variable {K : PySem.W.Frag} {z : Zs} {ι : List Addr} {h : Hh} {H : Hp} {p q : Addr}
theorem itok_zipT {xs ys : List V} {as bs : List D} (hp : SqT K H p xs) (hq : SqT K H q ys) (hx : Dens K z ι H xs as) (hy : Dens K z ι H ys bs) (G : Hh → Prop) : ItOk K z ι H (RZ.ItzT K p q) (zipD as bs) G := by
  intro ι' h' H' k r _ i
  have hp' := k.tup _ _ hp
  have hq' := k.tup _ _ hq
  have hx' := Dens.keep k hx
  have hy' := Dens.keep k hy
  rw [zipD_len]
  refine ⟨fun hi => ⟨xs, ys, hp', hq', by rw [hx'.length, hy'.length]; omega⟩, fun hi => ?_⟩
  have i1 : i < as.length := by omega
  have i2 : i < bs.length := by omega
  obtain ⟨v, h1, h2⟩ := hx'.get (List.getElem?_eq_getElem i1)
  obtain ⟨u, h3, h4⟩ := hy'.get (List.getElem?_eq_getElem i2)
  refine ⟨⟨xs, ys, v, u, hp', hq', h1, h3⟩, fun x H'' y => ?_⟩
  obtain ⟨T, a, b, rfl, hT, rfl, ya, yb⟩ := y
  have ea : a = v := Option.some.inj ((ya xs hp').symm.trans h1)
  have eb : b = u := Option.some.inj ((yb ys hq').symm.trans h3)
  subst ea eb
  have kk : Kp K ι' ι' H' (upd H' T (.tup [a, b])) := Kp.laid hT _
  exact ⟨_, zipD_get i1 i2, kk, r.laid hT _, .tup (.inl (.inl upd_same)) (.cons (h2.keep kk) (.cons (h4.keep kk) .nil))⟩
theorem itok_zipL {xs ys : List V} {as bs : List D} (hp : FL K z p xs) (hq : FL K z q ys) (hx : Dens K z ι H xs as) (hy : Dens K z ι H ys bs) (G : Hh → Prop) : ItOk K z ι H (Itz K p q) (zipD as bs) G := by
  intro ι' h' H' k r _ i
  have hp' := fl_stay r hp
  have hq' := fl_stay r hq
  have hx' := Dens.keep k hx
  have hy' := Dens.keep k hy
  rw [zipD_len]
  refine ⟨fun hi => ⟨xs, ys, hp', hq', by rw [hx'.length, hy'.length]; omega⟩, fun hi => ?_⟩
  have i1 : i < as.length := by omega
  have i2 : i < bs.length := by omega
  obtain ⟨v, h1, h2⟩ := hx'.get (List.getElem?_eq_getElem i1)
  obtain ⟨u, h3, h4⟩ := hy'.get (List.getElem?_eq_getElem i2)
  refine ⟨⟨xs, ys, v, u, hp', hq', h1, h3⟩, fun x H'' y => ?_⟩
  obtain ⟨T, a, b, rfl, hT, rfl, ya, yb⟩ := y
  have ea : a = v := Option.some.inj ((ya xs hp').symm.trans h1)
  have eb : b = u := Option.some.inj ((yb ys hq').symm.trans h3)
  subst ea eb
  have kk : Kp K ι' ι' H' (upd H' T (.tup [a, b])) := Kp.laid hT _
  exact ⟨_, zipD_get i1 i2, kk, r.laid hT _, .tup (.inl (.inl upd_same)) (.cons (h2.keep kk) (.cons (h4.keep kk) .nil))⟩
end
section
variable {X : Cx} {z : Zs} {W : WX} {elts : List Expr} {kk : Nat} {a b : Expr} {ta : dA} {p pos tpos : Pos}
theorem di_zip (hg : Gl X "zip") (hm : X.mg "zip" = none) (ha : DA X z W [a, b] ta 2) (hs : starEach [a, b] X.env = (false, eval a X.env) :: starEach [b] X.env) (hpl : (backTo pos (starEach [b] X.env)).any (·.1) = false) :
    DI X z W (.Tuple elts kk tpos) (.Call (.Name "zip" p) [a, b] [] pos) (srcZip ta) := by
  refine ⟨pi_imp (RZ.pi_zipA hg hm ha.run hs hpl) fun σ H RR ⟨ι, h, e, r, q⟩ => liftA_of ha.mono r q (fun ds h1 ι1 H1 vs q1 k1 r1 d1 => ?_) fun _ _ q => q, fun e h Q Q' E E' hQ hE q => ha.mono _ _ _ _ _ _ (fun x h1 q1 => ?_) hE q⟩
  · split at q1
    · obtain ⟨v, u, rfl, dv, du⟩ := dens2 d1
      obtain ⟨p1, xs, rfl, hp, hx⟩ := den_tup dv
      obtain ⟨p2, ys, rfl, hq, hy⟩ := den_tup du
      exact ⟨p1, p2, xs, ys, rfl, .inr ⟨hp, hq, q1 ι1 H1 _ k1 r1 trivial (itok_zipT hp hq hx hy _)⟩⟩
    · obtain ⟨v, u, rfl, dv, du⟩ := dens2 d1
      cases dv with
      | lst hp hx => cases du with
        | lst hq hy => exact ⟨_, _, _, _, rfl, .inl ⟨fl_stay r1.hp hp, fl_stay r1.hp hq, q1 ι1 H1 _ k1 r1 trivial (itok_zipL hp hq hx hy _)⟩⟩
    · exact q1.elim
  · split at q1
    · exact hQ _ _ _ q1
    · exact hQ _ _ _ q1
    · exact q1.elim
end
end Dn


namespace Dn
open PySem PySem.Spec PyProof.Rows L2
/-! ### a tuple times 1, times 0 or less -/
theorem tup_mul1 (l : Addr) (items : Array Value) (n : Nat) (dd : Option Addr) (sl : Array (Option Value)) (u : Tok) :
    Meets (Builtin.«tuple.__mul__» ⟨[.ref l, .int 1 u], []⟩) (fun _ R s => s.heap.get? l = some { cls := .type "tuple", dict := dd, data := .seq items n, slots := sl } ∧ R (.ok (.ret (Value.ref l))) s) :=
  .of_wp fun prog w A R s h => by
    obtain ⟨hp, g, d, tk, os⟩ := s
    obtain ⟨hl, h⟩ := h
    have f1 := AutoSeq1.idx_int
    wp_walk using wpAny_loadPart' hl
    exact ⟨_, rfl, h⟩
theorem tup_mul0 (l : Addr) (items : Array Value) (n : Nat) (dd : Option Addr) (sl : Array (Option Value)) (x : Int) (u : Tok) (c0 : (decide (x < -(2 ^ 63)) || decide (x ≥ 2 ^ 63)) = false) (c1 : (items.isEmpty || x == 1) = false) (c2 : (decide (x ≤ 0) || items.isEmpty) = true) :
    Meets (Builtin.«tuple.__mul__» ⟨[.ref l, .int x u], []⟩) (fun _ R s => s.heap.get? l = some { cls := .type "tuple", dict := dd, data := .seq items n, slots := sl } ∧
      R (.ok (.ret (Value.ref s.heap.objs.size))) { s with heap := s.heap.push { cls := Value.type "tuple", data := Data.seq #[] }, toks := s.toks }) :=
  .of_wp fun prog w A R s h => by
    obtain ⟨hp, g, d, tk, os⟩ := s
    obtain ⟨hl, h⟩ := h
    have f1 := AutoSeq1.idx_int
    wp_walk using wpAny_loadPart' hl
    repeat (first
      | (refine wpAny_ite_false (decide_eq_false (by rw [c0]; exact Bool.false_ne_true)) ?_; wp_walk using wpAny_loadPart' hl)
      | (refine wpAny_ite_false (decide_eq_false (by rw [c1]; exact Bool.false_ne_true)) ?_; wp_walk using wpAny_loadPart' hl)
      | (refine wpAny_ite_true (decide_eq_true (by rw [c2])) ?_; wp_walk using wpAny_loadPart' hl))
    exact ⟨_, rfl, h⟩
def rRep1 (K : PySem.W.Frag) : R2 := fun x y H Q => ∃ l xs, x = .ref l ∧ y = .int 1 ∧ SqT K H l xs ∧ Q (.ref l) H
def rRep0 (K : PySem.W.Frag) : R2 := fun x y H Q => ∃ l k xs, x = .ref l ∧ y = .int k ∧ SqT K H l xs ∧ xs ≠ [] ∧ k ≤ 0 ∧ -(2 ^ 63) ≤ k ∧ ∀ p, H p = none → Q (.ref p) (upd H p (.tup []))
section
variable {X : Cx}
theorem op_rep1 : OpR X (binaryOp .Mult) (rRep1 X.K) := by
  intro pins s σ H x y v u Q I rx ry h
  obtain ⟨l, xs, rfl, rfl, hT, q⟩ := h
  cases rx
  obtain ⟨t, rfl⟩ := ry
  obtain ⟨its, r, ⟨⟨cls, dd, data, sl⟩, ho, hc, n, hd⟩, hs⟩ := I.tuple hT
  simp only at hc hd
  subst hc hd
  refine wpAny_binaryOp_repeat_ref (T := "tuple") (U := "int") (by decide) ⟨_, ho, rfl⟩ (fun s' => typeIs_int s' 1 t) noFill_tuple_mul F.fills_int_mul F.slot_int_rmul repeat_tuple F.slot_int_index.lookup
    (call_meets F.slot_int_rmul (typeIs_int s 1 t) F.entry_int_rmul (F.args_int_rmul_2 _ _) (int_rmul_tuple 1 t l its.toArray n dd sl)
      ⟨ho, rfl, ⟨_, ho, rfl⟩, call_meets F.slot_tuple_mul ⟨_, ho, rfl⟩ F.entry_tuple_mul (F.args_tuple_mul_2 _ _) (tup_mul1 l its.toArray n dd sl t) ⟨ho, ?_⟩⟩)
  exact ⟨.ref l, H, I, rfl, q⟩
theorem op_rep0 : OpR X (binaryOp .Mult) (rRep0 X.K) := by
  intro pins s σ H x y v u Q I rx ry h
  obtain ⟨l, k, xs, rfl, rfl, hT, hne, h1, h2, q⟩ := h
  cases rx
  obtain ⟨t, rfl⟩ := ry
  obtain ⟨its, r, ⟨⟨cls, dd, data, sl⟩, ho, hc, n, hd⟩, hs⟩ := I.tuple hT
  simp only at hc hd
  subst hc hd
  have hle : its.length = xs.length := r.length.symm
  have hn : its ≠ [] := fun e => hne (by
    rw [e] at hle
    exact List.eq_nil_of_length_eq_zero hle.symm)
  have hi : its.toArray.isEmpty = false := by
    cases its with
    | nil => exact absurd rfl hn
    | cons a b => rfl
  have c0 : (decide (k < -(2 ^ 63)) || decide (k ≥ 2 ^ 63)) = false := by
    rw [decide_eq_false (by omega), decide_eq_false (by omega)] <;> rfl
  have c1 : (its.toArray.isEmpty || k == 1) = false := by
    rw [hi, Bool.false_or]
    exact beq_eq_false_iff_ne.mpr (by omega)
  have c2 : (decide (k ≤ 0) || its.toArray.isEmpty) = true := by
    rw [decide_eq_true h1]; rfl
  refine wpAny_binaryOp_repeat_ref (T := "tuple") (U := "int") (by decide) ⟨_, ho, rfl⟩ (fun s' => typeIs_int s' k t) noFill_tuple_mul F.fills_int_mul F.slot_int_rmul repeat_tuple F.slot_int_index.lookup
    (call_meets F.slot_int_rmul (typeIs_int s k t) F.entry_int_rmul (F.args_int_rmul_2 _ _) (int_rmul_tuple k t l its.toArray n dd sl)
      ⟨ho, rfl, ⟨_, ho, rfl⟩, call_meets F.slot_tuple_mul ⟨_, ho, rfl⟩ F.entry_tuple_mul (F.args_tuple_mul_2 _ _) (tup_mul0 l its.toArray n dd sl k t c0 c1 c2) ⟨ho, ?_⟩⟩)
  refine ⟨.ref s.heap.objs.size, _, I.laid (t' := s.toks) (o := .tup []) (fun b ob q => Heap.get?_push_of_some _ q) (Nat.le_refl _) ?_, rfl, q _ (I.hok.fresh (Nat.le_refl _))⟩
  exact ⟨Nat.zero_le _, [], .nil, IsTup.new _ _⟩
end
/-- a tuple that is not empty, times a small number -/
def repF : D → D → Hh → Rs
  | .tup ds, .int k, h => .cond (ds ≠ [] ∧ ds.length ≤ 1000 ∧ -1000 ≤ k ∧ k ≤ 1000) (.tup (List.replicate k.toNat ds).flatten) h
  | _, _, _ => .no
def rRepA (K : PySem.W.Frag) : R2 := fun x y H Q => rRep1 K x y H Q ∨ rRep0 K x y H Q ∨ rRepT K x y H Q
theorem op_repA {X : Cx} : OpR X (binaryOp .Mult) (rRepA X.K) := OpR.or op_rep1 (OpR.or op_rep0 op_repT)
theorem od_rep {K : PySem.W.Frag} : OpD K repF (rRepA K) := by
  intro z ι h e H σ x y a b Q r da db q
  unfold repF at q
  split at q
  · rename_i ds k
    obtain ⟨p, xs, rfl, hp, hx⟩ := den_tup da
    have := den_int db; subst_vars
    obtain ⟨⟨c1, c2, c3, c4⟩, q⟩ := q
    have hne : xs ≠ [] := fun e => c1 (by subst e; cases hx; rfl)
    by_cases k1 : k = 1
    · subst k1
      refine .inl ⟨p, xs, rfl, rfl, hp, q ι H _ Kp.refl r ?_⟩
      have e : (List.replicate (1 : Int).toNat ds).flatten = ds := by simp
      rw [e]; exact .tup hp hx
    · by_cases k0 : k ≤ 0
      · refine .inr (.inl ⟨p, k, xs, rfl, rfl, hp, hne, k0, by omega, fun t ht => ?_⟩)
        have e : (List.replicate k.toNat ds).flatten = [] := by rw [show k.toNat = 0 by omega]; rfl
        rw [e] at q
        exact new_tup r .nil q t ht
      · refine .inr (.inr ⟨p, k, xs, rfl, rfl, hp, hne, by omega, c4, by rw [hx.length]; exact c2, fun t ht => ?_⟩)
        exact new_tup r (hx.rep _) q t ht
  · exact q.elim
theorem de_rep {X : Cx} {z : Zs} {W : WX} {a b : Expr} {ta tb : dE} {pos : Pos} (ha : DE X z W a ta) (hb : DE X z W b tb) : DE X z W (.BinOp a .Mult b pos) (dOp repF ta tb) := de_bin op_repA od_rep ha hb
/-! ### sum, all, any of an owned list -/
def intsOf : List D → Option (List Int)
  | [] => some []
  | .int i :: r => (intsOf r).map fun l => i :: l
  | _ :: _ => none
def blsOf : List D → Option (List Bool)
  | [] => some []
  | .bl i :: r => (blsOf r).map fun l => i :: l
  | _ :: _ => none
theorem intsOf_map : ∀ l : List Int, intsOf (l.map .int) = some l
  | [] => rfl
  | x :: r => by rw [List.map_cons]; unfold intsOf; rw [intsOf_map r]; rfl
theorem blsOf_map : ∀ l : List Bool, blsOf (l.map .bl) = some l
  | [] => rfl
  | x :: r => by rw [List.map_cons]; unfold blsOf; rw [blsOf_map r]; rfl
theorem intsOf_eq : ∀ {ds : List D} {l : List Int}, intsOf ds = some l → ds = l.map .int
  | [], l, h => by unfold intsOf at h; injection h with h; subst h; rfl
  | .int i :: r, l, h => by
    unfold intsOf at h
    cases e : intsOf r with
    | none => rw [e] at h; cases h
    | some q => rw [e] at h; injection h with h; subst h; rw [intsOf_eq e]; rfl
theorem blsOf_eq : ∀ {ds : List D} {l : List Bool}, blsOf ds = some l → ds = l.map .bl
  | [], l, h => by unfold blsOf at h; injection h with h; subst h; rfl
  | .bl i :: r, l, h => by
    unfold blsOf at h
    cases e : blsOf r with
    | none => rw [e] at h; cases h
    | some q => rw [e] at h; injection h with h; subst h; rw [blsOf_eq e]; rfl
theorem dens_bls {K : PySem.W.Frag} {z : Zs} {ι : List Addr} {H : Hp} : ∀ {xs : List V} {c : List Bool}, Dens K z ι H xs (c.map .bl) → xs = c.map V.bl
  | _, [], q => by cases q; rfl
  | _, b :: c, q => by
    rw [List.map_cons] at q
    cases q with
    | cons a q => rw [den_bl a, dens_bls q]; rfl
def sumF : List D → Hh → Rs
  | [.ref n], h => match h[n]? with
    | some (.lst ds) => match intsOf ds with
      | some l => .ok (.int l.sum) h
      | none => .no
    | none => .no
  | _, _ => .no
def allF : List D → Hh → Rs
  | [.ref n], h => match h[n]? with
    | some (.lst ds) => match blsOf ds with
      | some l => .ok (.bl (l.all id)) h
      | none => .no
    | none => .no
  | _, _ => .no
def anyF : List D → Hh → Rs
  | [.ref n], h => match h[n]? with
    | some (.lst ds) => match blsOf ds with
      | some l => .ok (.bl (l.any id)) h
      | none => .no
    | none => .no
  | _, _ => .no
section
variable {K : PySem.W.Frag}
theorem cd_sum : CallD K sumF (rSum K) := by
  intro z ι h e H σ xs ds Q r d q
  unfold sumF at q
  split at q
  · split at q
    · rename_i h1
      split at q
      · rename_i l hl
        obtain ⟨v, rfl, dv⟩ := dens1 d
        obtain ⟨p, ys, rfl, _, hp, hx, _⟩ := r.hp.list dv h1
        rw [intsOf_eq hl] at hx
        rw [dens_ints hx] at hp
        exact ⟨p, l, rfl, .inl (.inl hp), q ι H _ Kp.refl r (.int _)⟩
      · exact q.elim
    · exact q.elim
  · exact q.elim
theorem cd_all : CallD K allF (rAll K) := by
  intro z ι h e H σ xs ds Q r d q
  unfold allF at q
  split at q
  · split at q
    · rename_i h1
      split at q
      · rename_i l hl
        obtain ⟨v, rfl, dv⟩ := dens1 d
        obtain ⟨p, ys, rfl, _, hp, hx, _⟩ := r.hp.list dv h1
        rw [blsOf_eq hl] at hx
        rw [dens_bls hx] at hp
        exact ⟨p, l, rfl, .inl (.inl hp), q ι H _ Kp.refl r (.bl _)⟩
      · exact q.elim
    · exact q.elim
  · exact q.elim
theorem cd_any : CallD K anyF (rAny K) := by
  intro z ι h e H σ xs ds Q r d q
  unfold anyF at q
  split at q
  · split at q
    · rename_i h1
      split at q
      · rename_i l hl
        obtain ⟨v, rfl, dv⟩ := dens1 d
        obtain ⟨p, ys, rfl, _, hp, hx, _⟩ := r.hp.list dv h1
        rw [blsOf_eq hl] at hx
        rw [dens_bls hx] at hp
        exact ⟨p, l, rfl, .inl (.inl hp), q ι H _ Kp.refl r (.bl _)⟩
      · exact q.elim
    · exact q.elim
  · exact q.elim
end
end Dn


namespace Dn
open PySem PySem.Spec PyProof.Rows L2
/-! ### enumerate(tuple) -/
theorem meets_enumT (l : Addr) (items : Array Value) (n : Nat) (dct : Option Addr) (sl : Array (Option Value)) :
    Meets (Builtin.«enumerate.__new__» ⟨[.type "enumerate", .ref l], []⟩) (fun _ R s => s.heap.get? l = some { cls := .type "tuple", dict := dct, data := .seq items n, slots := sl } ∧
      R (.ok (.ret (.ref (s.heap.push { cls := .type "tuple_iterator", data := .fields #[.ref l, .int 0 0] }).objs.size)))
        { s with heap := (s.heap.push { cls := .type "tuple_iterator", data := .fields #[.ref l, .int 0 0] }).push { cls := .type "enumerate", data := .fields #[.none, .bool false, .ref s.heap.objs.size, rawInt 0, .none, .none] } }) :=
  .of_wp fun prog w A R s h => by
    obtain ⟨hp, g, d, tk, os⟩ := s; obtain ⟨hl, h⟩ := h
    have hsub := sub_enumerate
    have hL : Heap.IsTuple (Shared.heap ⟨hp, g, d, tk, os⟩) l items := ⟨_, hl, rfl, n, rfl⟩
    wp_walk using AutoSeq1.wpAny_loadPart' hl
    refine wpAny_stack_any fun st => wpAny_pure ?_
    split
    · rename_i c _ _ _ _ _
      cases (c == Value.type "enumerate")
      · wp_walk using AutoSeq1.wpAny_loadPart' hl, wpAny_pyIter_tuple hL
        exact ⟨_, rfl, h⟩
      · wp_walk using AutoSeq1.wpAny_loadPart' hl, wpAny_pyIter_tuple hL
        exact ⟨_, rfl, h⟩
    · wp_walk using AutoSeq1.wpAny_loadPart' hl, wpAny_pyIter_tuple hL
      exact ⟨_, rfl, h⟩
theorem call_enumT {prog : Program} {w : World} {A : Around} {E : Value → Shared → Prop} {s : Shared} {l : Addr} {items : Array Value} {Q : Value → Shared → Prop} (hL : s.heap.IsTuple l items)
    (h : ∀ h', IsEnum h' (s.heap.objs.size + 1) s.heap.objs.size 0 .none → h'.IsTupleIter s.heap.objs.size l 0 → h'.objs.size = s.heap.objs.size + 2 →
      (∀ b o, s.heap.get? b = some o → h'.get? b = some o) → Q (.ref (s.heap.objs.size + 1)) { s with heap := h' }) :
    wpAny (model prog w) A (call (.type "enumerate") [.ref l]) Q E s := by
  obtain ⟨⟨c, dct, dt, sl⟩, hl, hc, n, hd⟩ := hL
  replace hc : c = .type "tuple" := hc
  replace hd : dt = .seq items n := hd
  subst hc hd
  refine callType_new F.called_enumerate (by decide) (F.typeCall_enumerate_1 _) (F.newCall_enumerate_1 _) (fun obj => F.args_object_init_2 obj _) F.entry_enumerate_new
    (meets_enumT l items n dct sl) ⟨hl, ?_⟩
  have hz : (s.heap.push { cls := .type "tuple_iterator", data := .fields #[.ref l, .int 0 0] }).objs.size = s.heap.objs.size + 1 := Heap.size_push ..
  show _ ∧ _
  rw [hz]
  have he : IsEnum ((s.heap.push { cls := .type "tuple_iterator", data := .fields #[.ref l, .int 0 0] }).push
      { cls := .type "enumerate", data := .fields #[.none, .bool false, .ref s.heap.objs.size, rawInt 0, .none, .none] }) (s.heap.objs.size + 1) s.heap.objs.size 0 .none := by
    have := Heap.get?_push_size (s.heap.push { cls := .type "tuple_iterator", data := .fields #[.ref l, .int 0 0] })
      (o := { cls := .type "enumerate", data := .fields #[.none, .bool false, .ref s.heap.objs.size, rawInt 0, .none, .none] }) rfl
    rw [hz] at this; exact this
  refine ⟨⟨_, he, rfl⟩, h _ he ⟨_, Heap.get?_push_of_some _ (Heap.get?_push_size _ rfl), rfl, rfl⟩ (by rw [Heap.size_push, hz]) fun b o x => Heap.get?_push_of_some _ (Heap.get?_push_of_some _ x)⟩
/-- the tuple at a, each item in a new pair -/
def Itet (K : PySem.W.Frag) (a : Addr) : It :=
  ⟨fun i H => ∃ (xs : List V) (x : V), SqT K H a xs ∧ xs[i]? = some x, fun i H v H' => ∃ T x, v = .ref T ∧ H T = none ∧ H' = upd H T (.tup [.int (i : Nat), x]) ∧ ∀ xs, SqT K H a xs → xs[i]? = some x, fun i H => ∃ xs : List V, SqT K H a xs ∧ xs.length ≤ i⟩
theorem turn_enumT {P : Program} {w : World} {K : PySem.W.Frag} {elts : List Expr} {kk : Nat} {tpos : Pos} (a e it : Addr) :
    Turn P w K (.Tuple elts kk tpos) (Itet K a) [e, it] e (fun i h => (∃ old, IsEnum h e it ((i : Nat) : Int) old) ∧ h.IsTupleIter it a i ∧ e ≠ it ∧ a ≠ it ∧ a ≠ e) where
  mem := by simp
  obj := fun i h st b hb => by
    obtain ⟨⟨old, he⟩, ⟨o, ho, hc, hd⟩, _⟩ := st
    have e' : b = e ∨ b = it := by simpa using hb
    rcases e' with z | z
    · rw [z]; exact ⟨_, he, fun v q => nomatch q⟩
    · rw [z]; exact ⟨o, ho, fun v q => by rw [hd] at q; cases q⟩
  keep := fun i h h' st k => let ⟨⟨old, he⟩, hi, hne⟩ := st; ⟨⟨old, k e (by simp) _ he⟩, hi.at fun o q => k it (by simp) o q, hne⟩
  item := by
    intro X hP hw hK hc i pins s σ H E I hf st hg
    subst hP hw hK
    obtain ⟨⟨old, he⟩, hit, hne, hai, hae⟩ := st
    obtain ⟨xs, x, hq, hx⟩ := hg
    obtain ⟨its, rv, p, hz⟩ := I.tuple hq
    obtain ⟨u, hu, ru⟩ := rv.get hx
    have hel : e < s.heap.objs.size := Heap.lt_size he
    have hil : it < s.heap.objs.size := by obtain ⟨_, q, _⟩ := hit; exact Heap.lt_size q
    have hlt : i < its.toArray.size := by
      have := (List.getElem?_eq_some_iff.mp (show its[i]? = some u by simpa using hu)).1
      simpa using this
    have D := Draws.tuple (prog := X.prog) (w := X.w) (A := X.A.in1) (I.ok.hd hc) it a hai its.toArray
    refine wpAny_pyNext_enum_itemC D he ⟨hit, p⟩ hlt hne (by simp [hne, Ne.symm hae]) fun x' h' tk hP' ho st' hT hsz hk => ?_
    have ex : x' = u := Option.some.inj (hP'.symm.trans (by simpa using hu))
    subst ex
    obtain ⟨hit', _⟩ := st'
    refine ⟨_, rfl, wpAny_letOwnedTupleGo_enum (s := { s with heap := h', toks := tk + 1 }) ho fun h'' he' sb => ?_⟩
    have hT2 : h''.get? s.heap.objs.size = some { cls := .type "tuple", data := .seq #[.int i tk, x'] } := (sb.2 _ (Nat.ne_of_gt hel)).trans hT
    have new : ObjOk X.prog X.w (upd H s.heap.objs.size (.tup [.int (i : Nat), x])) h'' s.heap.objs.size (.tup [.int (i : Nat), x]) :=
      ⟨by show 2 ≤ sizeLine; decide, [.int i tk, x'], .cons ⟨_, rfl⟩ (.cons ru .nil), ⟨_, hT2, rfl, _, rfl⟩⟩
    have I1 : Inv X pins σ (upd H s.heap.objs.size (.tup [.int (i : Nat), x])) { s with heap := h'', toks := tk + 1 } :=
      I.turnedNew (ch := [e, it]) (fun b ob hb q => (sb.2 b (fun z => hb (by simp [z]))).trans (hk b ob (fun z => hb (by simp [z])) (fun z => hb (by simp [z])) q)) hf (Nat.le_refl _) new
    refine ⟨.ref s.heap.objs.size, _, I1, rfl, ⟨_, x, rfl, I.hok.fresh (Nat.le_refl _), rfl, fun ys hy => by rw [I.tuple_inj hy hq]; exact hx⟩, ⟨⟨x', ?_⟩, hit'.at fun o q => (sb.2 it (Ne.symm hne)).trans q, hne, hai, hae⟩, fun b hb => ?_⟩
    · have e1 : ((i + 1 : Nat) : Int) = (i : Int) + 1 := by omega
      rw [e1]; exact he'
    · have hb' : b < s.heap.objs.size := by
        have e' : b = e ∨ b = it := by simpa using hb
        rcases e' with z | z
        · rw [z]; exact hel
        · rw [z]; exact hil
      rw [upd_ne (Nat.ne_of_lt hb')]
      exact (hf b hb).1
  done := by
    intro X hP hw hK hc i pins s σ H E I hf st hg
    subst hP hw hK
    obtain ⟨⟨old, he⟩, hit, hne, hai, hae⟩ := st
    obtain ⟨xs, hq, hx⟩ := hg
    obtain ⟨its, rv, p, hz⟩ := I.tuple hq
    obtain ⟨f0, f1, f2, f3, f4, f5⟩ := hf it (by simp)
    have hl := rv.length
    have hge : its.toArray[i]? = none := by simp; omega
    have hT : s.TypeIs (.ref e) "enumerate" := ⟨_, he, rfl⟩
    unfold pyNext
    refine wpAny_bind (wpAny_attempt (wpAny_callSpecial?_slot (name := Str.ofString "__next__") hT F.slot_enumerate_next
      (wpAny_call_entry F.slot_enumerate_next hT F.entry_enumerate_next ?_ (F.args_enumerate_next_1 _))))
    show wpAny _ _ (field (.ref e) 2 >>= _) _ _ _
    refine wpAny_bind (wpAny_field he rfl (x := .ref it) rfl ?_)
    refine wpAny_bind (wpAny_nextOf_tuple_end (by first | exact I.ok.hd hc | (rw [show X.A.in1.handled = none from I.ok.hd hc])) hit p hge fun h' x he' hx' => ?_)
    obtain ⟨o, ho, hcc⟩ := hx'
    refine wpAny_bind (wpAny_isInstance (T := "StopIteration") (b := true) ⟨o, ho, hcc⟩ isSubtype_stop ?_)
    exact wpAny_pure ⟨rfl, I.turned (t' := s.toks) (fun b o hb q => he' b o hb q) f0 f1 f3 f4 f5⟩
  self := fun A i s Q E st h => let ⟨⟨_, he⟩, _⟩ := st; wpAny_pyIter_enum he h
def iEnumA (K : PySem.W.Frag) (ta : TA) : L2.TI := fun σ H R => ta σ H fun vs H1 => ∃ a xs, vs = [.ref a] ∧ ((SqL K H1 a xs ∧ R (Ite K a) H1) ∨ (SqT K H1 a xs ∧ R (Itet K a) H1))
theorem pi_enumA {X : Cx} {e : Expr} {ta : TA} {p pos tpos : Pos} {elts : List Expr} {kk : Nat} (hg : Gl X "enumerate") (hm : X.mg "enumerate" = none) (ha : PA X [e] ta) (hs : starEach [e] X.env = [(false, eval e X.env)] := by rfl) :
    PI X (.Tuple elts kk tpos) (.Call (.Name "enumerate" p) [e] [] pos) (iEnumA X.K ta) := by
  refine ⟨fun pins s σ H R I h => ?_⟩
  refine Call_ (ld_blt I hg hm boot_enumerate (PyProof.Rows.callWith_type1 (thn (ha.run pos pins s σ H _ I h) fun us s1 ⟨vs, H1, I1, r1, q1⟩ => ?_) hs rfl))
  obtain ⟨a, xs, ex, q1⟩ := q1
  subst ex
  cases r1 with
  | cons r rr =>
    cases rr
    cases r
    have fresh : ∀ b, b ∈ [s1.heap.objs.size + 1, s1.heap.objs.size] → FpOk X pins H1 b := fun b hb => by
      have e' : b = s1.heap.objs.size + 1 ∨ b = s1.heap.objs.size := by simpa using hb
      have hle : s1.heap.objs.size ≤ b := by
        rcases e' with z | z
        · rw [z]; exact Nat.le_add_right _ _
        · rw [z]; exact Nat.le_refl _
      exact I1.fpOk hle (I1.hok.fresh hle)
    rcases q1 with ⟨hq, q⟩ | ⟨hq, q⟩
    · obtain ⟨its, rv, p', hz⟩ := I1.list hq
      refine call_enumerate_list p'.isList fun h' he hit hsz hk => wpAny_pyIter_enum he ?_
      have I2 : Inv X pins σ H1 { s1 with heap := h' } := I1.kept (t' := s1.toks) hk
      exact ⟨s1.heap.objs.size + 1, [s1.heap.objs.size + 1, s1.heap.objs.size], _, _, H1, rfl, I2, turn_enum a (s1.heap.objs.size + 1) s1.heap.objs.size, ⟨⟨.none, he⟩, hit, Nat.succ_ne_self _⟩, fresh, q⟩
    · obtain ⟨its, rv, p', hz⟩ := I1.tuple hq
      have hal : a < s1.heap.objs.size := by obtain ⟨o, ho, _⟩ := id p'; exact Heap.lt_size ho
      refine call_enumT p' fun h' he hit hsz hk => wpAny_pyIter_enum he ?_
      have I2 : Inv X pins σ H1 { s1 with heap := h' } := I1.kept (t' := s1.toks) hk
      exact ⟨s1.heap.objs.size + 1, [s1.heap.objs.size + 1, s1.heap.objs.size], _, _, H1, rfl, I2, turn_enumT a (s1.heap.objs.size + 1) s1.heap.objs.size, ⟨⟨.none, he⟩, hit, Nat.succ_ne_self _, Nat.ne_of_lt hal, Nat.ne_of_lt (Nat.lt_succ_of_lt hal)⟩, fresh, q⟩
def enumD (as : List D) : List D := (List.range as.length).map fun (i : Nat) => .tup [.int (i : Int), as.getD i .non]
theorem enumD_len (as : List D) : (enumD as).length = as.length := by unfold enumD; simp
theorem enumD_get {as : List D} {i : Nat} (h : i < as.length) : (enumD as)[i]? = some (.tup [.int (i : Int), as[i]]) := by
  unfold enumD
  rw [List.getElem?_map, List.getElem?_range h]
  show some (D.tup [.int (i : Int), as.getD i .non]) = _
  rw [List.getD_eq_getElem?_getD, List.getElem?_eq_getElem h]; rfl
def srcEnumerate (ta : dA) : dSrc := fun e h Q E => ta e h (fun ds h1 => match ds with
  | [.tup as] => Q (enumD as) (fun _ => True) h1
  | [.lst as] => Q (enumD as) (fun _ => True) h1
  | _ => False) E
section
variable {K : PySem.W.Frag} {z : Zs} {ι : List Addr} {h : Hh} {H : Hp} {p q : Addr}
theorem itok_enumT {xs : List V} {as : List D} (hp : SqT K H p xs) (hx : Dens K z ι H xs as) (G : Hh → Prop) : ItOk K z ι H (Itet K p) (enumD as) G := by
  intro ι' h' H' k r _ i
  have hp' := k.tup _ _ hp
  have hx' := Dens.keep k hx
  rw [enumD_len]
  refine ⟨fun hi => ⟨xs, hp', by rw [hx'.length]; omega⟩, fun hi => ?_⟩
  obtain ⟨v, h1, h2⟩ := hx'.get (List.getElem?_eq_getElem hi)
  refine ⟨⟨xs, v, hp', h1⟩, fun x H'' y => ?_⟩
  obtain ⟨T, a, rfl, hT, rfl, ya⟩ := y
  have ea : a = v := Option.some.inj ((ya xs hp').symm.trans h1)
  subst ea
  have kk : Kp K ι' ι' H' (upd H' T (.tup [.int (i : Nat), a])) := Kp.laid hT _
  exact ⟨_, enumD_get hi, kk, r.laid hT _, .tup (.inl (.inl upd_same)) (.cons (.int _) (.cons (h2.keep kk) .nil))⟩
theorem itok_enumL {xs : List V} {as : List D} (hp : FL K z p xs) (hx : Dens K z ι H xs as) (G : Hh → Prop) : ItOk K z ι H (Ite K p) (enumD as) G := by
  intro ι' h' H' k r _ i
  have hp' := fl_stay r hp
  have hx' := Dens.keep k hx
  rw [enumD_len]
  refine ⟨fun hi => ⟨xs, hp', by rw [hx'.length]; omega⟩, fun hi => ?_⟩
  obtain ⟨v, h1, h2⟩ := hx'.get (List.getElem?_eq_getElem hi)
  refine ⟨⟨xs, v, hp', h1⟩, fun x H'' y => ?_⟩
  obtain ⟨T, a, rfl, hT, rfl, ya⟩ := y
  have ea : a = v := Option.some.inj ((ya xs hp').symm.trans h1)
  subst ea
  have kk : Kp K ι' ι' H' (upd H' T (.tup [.int (i : Nat), a])) := Kp.laid hT _
  exact ⟨_, enumD_get hi, kk, r.laid hT _, .tup (.inl (.inl upd_same)) (.cons (.int _) (.cons (h2.keep kk) .nil))⟩
end
section
variable {X : Cx} {z : Zs} {W : WX} {elts : List Expr} {kk : Nat} {a b : Expr} {ta : dA} {p pos tpos : Pos}
theorem di_enumerate (hg : Gl X "enumerate") (hm : X.mg "enumerate" = none) (ha : DA X z W [a] ta 1) (hs : starEach [a] X.env = [(false, eval a X.env)]) :
    DI X z W (.Tuple elts kk tpos) (.Call (.Name "enumerate" p) [a] [] pos) (srcEnumerate ta) := by
  refine ⟨pi_imp (pi_enumA hg hm ha.run hs) fun σ H RR ⟨ι, h, e, r, q⟩ => liftA_of ha.mono r q (fun ds h1 ι1 H1 vs q1 k1 r1 d1 => ?_) fun _ _ q => q, fun e h Q Q' E E' hQ hE q => ha.mono _ _ _ _ _ _ (fun x h1 q1 => ?_) hE q⟩
  · split at q1
    · obtain ⟨v, rfl, dv⟩ := dens1 d1
      obtain ⟨p1, xs, rfl, hp, hx⟩ := den_tup dv
      exact ⟨p1, xs, rfl, .inr ⟨hp, q1 ι1 H1 _ k1 r1 trivial (itok_enumT hp hx _)⟩⟩
    · obtain ⟨v, rfl, dv⟩ := dens1 d1
      cases dv with
      | lst hp hx => exact ⟨_, _, rfl, .inl ⟨fl_stay r1.hp hp, q1 ι1 H1 _ k1 r1 trivial (itok_enumL hp hx _)⟩⟩
    · exact q1.elim
  · split at q1
    · exact hQ _ _ _ q1
    · exact hQ _ _ _ q1
    · exact q1.elim
/-! ### constants of the module -/
/-- the module's name x stands for the plain value d -/
structure GlobD (K : PySem.W.Frag) (mg : Str → Option Value) (x : Str) (d : D) : Prop where
  ex : ∃ (u : Value) (v : V), mg x = some u ∧ RelV v u ∧ ∀ (z : Zs) (ι : List Addr) (H : Hp), Den K z ι H v d
theorem globI {K : PySem.W.Frag} {mg : Str → Option Value} {x : Str} {i : Int} {t : Tok} (h : mg x = some (.int i t)) : GlobD K mg x (.int i) := ⟨_, .int i, h, ⟨_, rfl⟩, fun _ _ _ => .int i⟩
theorem globS {K : PySem.W.Frag} {mg : Str → Option Value} {x i : Str} {t : Tok} (h : mg x = some (.str i t)) : GlobD K mg x (.str i) := ⟨_, .str i, h, ⟨_, rfl⟩, fun _ _ _ => .str i⟩
theorem globT2 {K : PySem.W.Frag} {mg : Str → Option Value} {x : Str} {a : Addr} {i j : Int} {od : Option Addr} {u v : Value} {n : Nat} {sl : Array (Option Value)} (h : mg x = some (.ref a)) (l : K.lookup a = some ⟨.type "tuple", od, .seq #[u, v] n, sl⟩) (hu : RelV (.int i) u) (hv : RelV (.int j) v) : GlobD K mg x (.tup [.int i, .int j]) :=
  ⟨_, .ref a, h, rfl, fun _ _ _ => .tup (.inr ⟨_, #[u, v], n, l, rfl, rfl, by show 2 ≤ sizeLine; decide, .cons hu (.cons hv .nil)⟩) (.cons (.int i) (.cons (.int j) .nil))⟩
theorem de_glob {x : Str} {d : D} (T : GlobD X.K X.mg x d) (hg : Gl X x) (hd : (x == ("__debug__" : Str)) = false) : DE X z W (.Name x pos) (dC d) := by
  obtain ⟨u, v, h, rv, dn⟩ := T.ex
  exact ⟨pe_imp (pe_glob hg h rv hd) fun σ H Q ⟨ι, h, e, r, q⟩ => q ι H v Kp.refl r (dn z ι H), mono_c _⟩
end
end Dn


namespace Dn
open PySem PySem.Spec PyProof.Rows L2
/-! ### str(int), the empty dict -/
def strF : List D → Hh → Rs
  | [.int i], h => .cond (i.natAbs.log2 < 1920) (.str (toString i)) h
  | _, _ => .no
section
variable {K : PySem.W.Frag}
theorem cd_str : CallD K strF (fun xs H Q => ∃ i, xs = [.int i] ∧ i.natAbs.log2 < 1920 ∧ Q (.str (toString i)) H) := by
  intro z ι h e H σ xs ds Q r dn q
  unfold strF at q
  split at q
  · obtain ⟨v, rfl, dv⟩ := dens1 dn
    rw [den_int dv]
    exact ⟨_, rfl, q.1, q.2 ι H _ Kp.refl r (.str _)⟩
  · exact q.elim
end
def dDct : dE := fun _ h Q _ => Q (.box .dct []) h
section
variable {X : Cx} {z : Zs} {W : WX} {pos : Pos}
theorem de_dct : DE X z W (.Dict [] [] pos) dDct :=
  ⟨pe_imp pe_dnewK fun σ H Q ⟨ι, h, e, r, q⟩ => fun d hd => q ι _ _ (Kp.laid hd _) (r.laid hd _) (.box ⟨upd_same, rfl⟩ .nil), fun _ _ _ _ _ _ hQ _ q => hQ _ _ q⟩
end
/-! ### list * int -/
def repLF : D → D → Hh → Rs
  | .ref n, .int k, h => match h[n]? with
    | some (.lst ds) => .cond (-1000 ≤ k ∧ k ≤ 1000 ∧ ds.length * k.toNat ≤ 1000) (.ref h.length) (h ++ [.lst (List.replicate k.toNat ds).flatten])
    | none => .no
  | _, _, _ => .no
theorem od_repL {K : PySem.W.Frag} : OpD K repLF rRep := by
  intro z ι h e H σ x y a b Q r da db q
  unfold repLF at q
  split at q
  · rename_i n k
    split at q
    · rename_i ds hn
      obtain ⟨⟨c1, c2, c3⟩, q⟩ := q
      obtain ⟨p, xs, rfl, hi, hp, hx, _⟩ := r.hp.list da hn
      rw [den_int db]
      refine ⟨p, k, xs, rfl, rfl, hp, by omega, by omega, by rw [hx.length]; exact Nat.le_trans c3 (by decide), fun t ht => new_lst r (hx.rep _) q t ht⟩
    · exact q.elim
  · exact q.elim
theorem de_repL {X : Cx} {z : Zs} {W : WX} {a b : Expr} {ta tb : dE} {pos : Pos} (ha : DE X z W a ta) (hb : DE X z W b tb) : DE X z W (.BinOp a .Mult b pos) (dOp repLF ta tb) := de_bin op_rep od_repL ha hb
theorem is_dict_int : isaS "dict" "int" = false := by decide
theorem is_dict_bool : isaS "dict" "bool" = false := by decide
theorem is_dict_str : isaS "dict" "str" = false := by decide
theorem is_dict_tuple : isaS "dict" "tuple" = false := by decide
theorem is_dict_list : isaS "dict" "list" = false := by decide
theorem is_dict_dict : isaS "dict" "dict" = true := by decide
theorem is_NoneType_dict : isaS "NoneType" "dict" = false := by decide
theorem is_bool_dict : isaS "bool" "dict" = false := by decide
theorem is_int_dict : isaS "int" "dict" = false := by decide
theorem is_str_dict : isaS "str" "dict" = false := by decide
theorem is_tuple_dict : isaS "tuple" "dict" = false := by decide
theorem is_list_dict : isaS "list" "dict" = false := by decide
end Dn


namespace Law
open PySem PySem.Spec PyProof.Rows L2 Dn

local macro_rules | `(tactic| walk_at "vis") => `(tactic| first | exact Or.inl rfl | exact Or.inr (Or.inl rfl) | exact Or.inr (Or.inr rfl))
local macro_rules | `(tactic| walk_at "locs") => `(tactic| first | exact Or.inl rfl | exact Or.inr rfl)
local macro_rules | `(tactic| walk_at "fnn") => `(tactic| first | exact Or.inl rfl | exact Or.inr rfl)
def topS (i : Nat) : Stmt := PySem.Challenge.pw_lastchip_k40_what_may_be_handed_in.main.body.getD i (.Pass ⟨0, 0, 0, 0⟩)
abbrev s__law_gcd : Stmt := topS 26
abbrev nm__law_gcd : List Str := ["a", "b"]
theorem sc__law_gcd : FnScope nm__law_gcd ["a", "b"] (defScope s__law_gcd) := ⟨rfl, rfl, rfl, by decide +kernel, rfl, by decide +kernel, by decide +kernel⟩
abbrev s__law_draws : Stmt := topS 22
abbrev nm__law_draws : List Str := ["script"]
theorem sc__law_draws : FnScope nm__law_draws ["script"] (defScope s__law_draws) := ⟨rfl, rfl, rfl, by decide +kernel, rfl, by decide +kernel, by decide +kernel⟩
abbrev s__law_draw : Stmt := topS 23
abbrev nm__law_draw : List Str := ["draws", "limit", "cell", "value"]
theorem sc__law_draw : FnScope nm__law_draw ["draws", "limit"] (defScope s__law_draw) := ⟨rfl, rfl, rfl, by decide +kernel, rfl, by decide +kernel, by decide +kernel⟩
abbrev s__law_near : Stmt := topS 24
abbrev nm__law_near : List Str := ["draws", "most"]
theorem sc__law_near : FnScope nm__law_near ["draws", "most"] (defScope s__law_near) := ⟨rfl, rfl, rfl, by decide +kernel, rfl, by decide +kernel, by decide +kernel⟩
abbrev s__law_low : Stmt := topS 28
abbrev nm__law_low : List Str := ["numbers", "part", "number"]
theorem sc__law_low : FnScope nm__law_low ["numbers"] (defScope s__law_low) := ⟨rfl, rfl, rfl, by decide +kernel, rfl, by decide +kernel, by decide +kernel⟩
abbrev s_ratio : Stmt := topS 5
abbrev nm_ratio : List Str := ["n", "d", "part"]
theorem sc_ratio : FnScope nm_ratio ["n", "d"] (defScope s_ratio) := ⟨rfl, rfl, rfl, by decide +kernel, rfl, by decide +kernel, by decide +kernel⟩
abbrev s__law_ratio : Stmt := topS 27
abbrev nm__law_ratio : List Str := ["n", "d", "part"]
theorem sc__law_ratio : FnScope nm__law_ratio ["n", "d"] (defScope s__law_ratio) := ⟨rfl, rfl, rfl, by decide +kernel, rfl, by decide +kernel, by decide +kernel⟩
abbrev s__law_same : Stmt := topS 25
abbrev nm__law_same : List Str := ["actual", "expected", "k"]
theorem sc__law_same : FnScope nm__law_same ["actual", "expected"] (defScope s__law_same) := ⟨rfl, rfl, rfl, by decide +kernel, rfl, by decide +kernel, by decide +kernel⟩
abbrev s_is_whole : Stmt := topS 9
abbrev nm_is_whole : List Str := ["number"]
theorem sc_is_whole : FnScope nm_is_whole ["number"] (defScope s_is_whole) := ⟨rfl, rfl, rfl, by decide +kernel, rfl, by decide +kernel, by decide +kernel⟩
abbrev s__law_whole : Stmt := topS 31
abbrev nm__law_whole : List Str := ["x"]
theorem sc__law_whole : FnScope nm__law_whole ["x"] (defScope s__law_whole) := ⟨rfl, rfl, rfl, by decide +kernel, rfl, by decide +kernel, by decide +kernel⟩
abbrev s_is_count : Stmt := topS 15
abbrev nm_is_count : List Str := ["number", "low", "high"]
theorem sc_is_count : FnScope nm_is_count ["number", "low", "high"] (defScope s_is_count) := ⟨rfl, rfl, rfl, by decide +kernel, rfl, by decide +kernel, by decide +kernel⟩
abbrev s_is_ratio : Stmt := topS 16
abbrev nm_is_ratio : List Str := ["pair"]
theorem sc_is_ratio : FnScope nm_is_ratio ["pair"] (defScope s_is_ratio) := ⟨rfl, rfl, rfl, by decide +kernel, rfl, by decide +kernel, by decide +kernel⟩
abbrev s__law_is_ratio : Stmt := topS 32
abbrev nm__law_is_ratio : List Str := ["x"]
theorem sc__law_is_ratio : FnScope nm__law_is_ratio ["x"] (defScope s__law_is_ratio) := ⟨rfl, rfl, rfl, by decide +kernel, rfl, by decide +kernel, by decide +kernel⟩
abbrev s_is_told_ratio : Stmt := topS 17
abbrev nm_is_told_ratio : List Str := ["pair"]
theorem sc_is_told_ratio : FnScope nm_is_told_ratio ["pair"] (defScope s_is_told_ratio) := ⟨rfl, rfl, rfl, by decide +kernel, rfl, by decide +kernel, by decide +kernel⟩
abbrev s_is_positive : Stmt := topS 18
abbrev nm_is_positive : List Str := ["pair"]
theorem sc_is_positive : FnScope nm_is_positive ["pair"] (defScope s_is_positive) := ⟨rfl, rfl, rfl, by decide +kernel, rfl, by decide +kernel, by decide +kernel⟩
abbrev s_is_form : Stmt := topS 7
abbrev nm_is_form : List Str := ["form", "size", "number"]
theorem sc_is_form : FnScope nm_is_form ["form", "size"] (defScope s_is_form) := ⟨rfl, rfl, rfl, by decide +kernel, rfl, by decide +kernel, by decide +kernel⟩
abbrev s_is_point : Stmt := topS 12
abbrev nm_is_point : List Str := ["place", "size", "part", "number"]
theorem sc_is_point : FnScope nm_is_point ["place", "size"] (defScope s_is_point) := ⟨rfl, rfl, rfl, by decide +kernel, rfl, by decide +kernel, by decide +kernel⟩
abbrev s_is_told_form : Stmt := topS 19
abbrev nm_is_told_form : List Str := ["form", "size", "number"]
theorem sc_is_told_form : FnScope nm_is_told_form ["form", "size"] (defScope s_is_told_form) := ⟨rfl, rfl, rfl, by decide +kernel, rfl, by decide +kernel, by decide +kernel⟩
abbrev s_coords : Stmt := topS 11
abbrev nm_coords : List Str := ["place", "number"]
theorem sc_coords : FnScope nm_coords ["place"] (defScope s_coords) := ⟨rfl, rfl, rfl, by decide +kernel, rfl, by decide +kernel, by decide +kernel⟩
abbrev s__law_coords : Stmt := topS 30
abbrev nm__law_coords : List Str := ["place", "number"]
theorem sc__law_coords : FnScope nm__law_coords ["place"] (defScope s__law_coords) := ⟨rfl, rfl, rfl, by decide +kernel, rfl, by decide +kernel, by decide +kernel⟩
abbrev s_is_told_point : Stmt := topS 20
abbrev nm_is_told_point : List Str := ["place", "size", "number"]
theorem sc_is_told_point : FnScope nm_is_told_point ["place", "size"] (defScope s_is_told_point) := ⟨rfl, rfl, rfl, by decide +kernel, rfl, by decide +kernel, by decide +kernel⟩
abbrev s__law_point : Stmt := topS 29
abbrev nm__law_point : List Str := ["row", "whole", "n", "d"]
theorem sc__law_point : FnScope nm__law_point ["row"] (defScope s__law_point) := ⟨rfl, rfl, rfl, by decide +kernel, rfl, by decide +kernel, by decide +kernel⟩
abbrev s__law_is_told : Stmt := topS 33
abbrev nm__law_is_told : List Str := ["x"]
theorem sc__law_is_told : FnScope nm__law_is_told ["x"] (defScope s__law_is_told) := ⟨rfl, rfl, rfl, by decide +kernel, rfl, by decide +kernel, by decide +kernel⟩
abbrev s__law_pairs_right : Stmt := topS 36
abbrev nm__law_pairs_right : List Str := ["x", "told"]
theorem sc__law_pairs_right : FnScope nm__law_pairs_right ["x"] (defScope s__law_pairs_right) := ⟨rfl, rfl, rfl, by decide +kernel, rfl, by decide +kernel, by decide +kernel⟩
abbrev s__law_is_form : Stmt := topS 39
abbrev nm__law_is_form : List Str := ["x", "size", "number"]
theorem sc__law_is_form : FnScope nm__law_is_form ["x", "size"] (defScope s__law_is_form) := ⟨rfl, rfl, rfl, by decide +kernel, rfl, by decide +kernel, by decide +kernel⟩
abbrev s__law_is_point : Stmt := topS 41
abbrev nm__law_is_point : List Str := ["x", "size", "part", "number", "pair"]
theorem sc__law_is_point : FnScope nm__law_is_point ["x", "size"] (defScope s__law_is_point) := ⟨rfl, rfl, rfl, by decide +kernel, rfl, by decide +kernel, by decide +kernel⟩
abbrev s__law_odd_value : Stmt := topS 34
abbrev nm__law_odd_value : List Str := ["draws"]
theorem sc__law_odd_value : FnScope nm__law_odd_value ["draws"] (defScope s__law_odd_value) := ⟨rfl, rfl, rfl, by decide +kernel, rfl, by decide +kernel, by decide +kernel⟩
abbrev s__law_pair : Stmt := topS 35
abbrev nm__law_pair : List Str := ["draws", "edge", "sign", "small", "whole", "odd", "lowest", "doubled"]
theorem sc__law_pair : FnScope nm__law_pair ["draws"] (defScope s__law_pair) := ⟨rfl, rfl, rfl, by decide +kernel, rfl, by decide +kernel, by decide +kernel⟩
abbrev s__law_counts_right : Stmt := topS 37
abbrev nm__law_counts_right : List Str := ["draws", "low", "high", "x"]
theorem sc__law_counts_right : FnScope nm__law_counts_right ["draws"] (defScope s__law_counts_right) := ⟨rfl, rfl, rfl, by decide +kernel, rfl, by decide +kernel, by decide +kernel⟩
abbrev s__law_number : Stmt := topS 38
abbrev nm__law_number : List Str := ["draws", "edge"]
theorem sc__law_number : FnScope nm__law_number ["draws"] (defScope s__law_number) := ⟨rfl, rfl, rfl, by decide +kernel, rfl, by decide +kernel, by decide +kernel⟩
abbrev s__law_forms_right : Stmt := topS 40
abbrev nm__law_forms_right : List Str := ["draws", "size", "form", "at", "shapes", "x", "k"]
theorem sc__law_forms_right : FnScope nm__law_forms_right ["draws", "size"] (defScope s__law_forms_right) := ⟨rfl, rfl, rfl, by decide +kernel, rfl, by decide +kernel, by decide +kernel⟩
abbrev s__law_points_right : Stmt := topS 42
abbrev nm__law_points_right : List Str := ["draws", "size", "row", "at", "edge", "place", "wide", "shapes", "x", "k", "number"]
theorem sc__law_points_right : FnScope nm__law_points_right ["draws", "size"] (defScope s__law_points_right) := ⟨rfl, rfl, rfl, by decide +kernel, rfl, by decide +kernel, by decide +kernel⟩
abbrev s_law : Stmt := topS 43
abbrev nm_law : List Str := ["script", "draws", "k", "size", "turn"]
theorem sc_law : FnScope nm_law ["script"] (defScope s_law) := ⟨rfl, rfl, rfl, by decide +kernel, rfl, by decide +kernel, by decide +kernel⟩
def cat0 : Str → Str → Option Bool := catL []
structure Txt (K : PySem.W.Frag) (mg : Str → Option Value) : Prop where
  d__law_gcd : DefAt K mg "_law_gcd" s__law_gcd ["a", "b"]
  d__law_draws : DefAt K mg "_law_draws" s__law_draws ["script"]
  d__law_draw : DefAt K mg "_law_draw" s__law_draw ["draws", "limit"]
  d__law_near : DefAt K mg "_law_near" s__law_near ["draws", "most"]
  d__law_low : DefAt K mg "_law_low" s__law_low ["numbers"]
  d_ratio : DefAt K mg "ratio" s_ratio ["n", "d"]
  d__law_ratio : DefAt K mg "_law_ratio" s__law_ratio ["n", "d"]
  d__law_same : DefAt K mg "_law_same" s__law_same ["actual", "expected"]
  d_is_whole : DefAt K mg "is_whole" s_is_whole ["number"]
  d__law_whole : DefAt K mg "_law_whole" s__law_whole ["x"]
  d_is_count : DefAt K mg "is_count" s_is_count ["number", "low", "high"]
  d_is_ratio : DefAt K mg "is_ratio" s_is_ratio ["pair"]
  d__law_is_ratio : DefAt K mg "_law_is_ratio" s__law_is_ratio ["x"]
  d_is_told_ratio : DefAt K mg "is_told_ratio" s_is_told_ratio ["pair"]
  d_is_positive : DefAt K mg "is_positive" s_is_positive ["pair"]
  d_is_form : DefAt K mg "is_form" s_is_form ["form", "size"]
  d_is_point : DefAt K mg "is_point" s_is_point ["place", "size"]
  d_is_told_form : DefAt K mg "is_told_form" s_is_told_form ["form", "size"]
  d_coords : DefAt K mg "coords" s_coords ["place"]
  d__law_coords : DefAt K mg "_law_coords" s__law_coords ["place"]
  d_is_told_point : DefAt K mg "is_told_point" s_is_told_point ["place", "size"]
  d__law_point : DefAt K mg "_law_point" s__law_point ["row"]
  d__law_is_told : DefAt K mg "_law_is_told" s__law_is_told ["x"]
  d__law_pairs_right : DefAt K mg "_law_pairs_right" s__law_pairs_right ["x"]
  d__law_is_form : DefAt K mg "_law_is_form" s__law_is_form ["x", "size"]
  d__law_is_point : DefAt K mg "_law_is_point" s__law_is_point ["x", "size"]
  d__law_odd_value : DefAt K mg "_law_odd_value" s__law_odd_value ["draws"]
  d__law_pair : DefAt K mg "_law_pair" s__law_pair ["draws"]
  d__law_counts_right : DefAt K mg "_law_counts_right" s__law_counts_right ["draws"]
  d__law_number : DefAt K mg "_law_number" s__law_number ["draws"]
  d__law_forms_right : DefAt K mg "_law_forms_right" s__law_forms_right ["draws", "size"]
  d__law_points_right : DefAt K mg "_law_points_right" s__law_points_right ["draws", "size"]
  d_law : DefAt K mg "law" s_law ["script"]
  b_abs : mg "abs" = none
  b_all : mg "all" = none
  b_bool : mg "bool" = none
  b_int : mg "int" = none
  b_isinstance : mg "isinstance" = none
  b_len : mg "len" = none
  b_list : mg "list" = none
  b_range : mg "range" = none
  b_str : mg "str" = none
  b_tuple : mg "tuple" = none
  m_gcd : mg "gcd" = some (.builtin "math.gcd")
  x_BadNumber : ExcHas K mg "BadNumber"
  g_BOUND : GlobD K mg "BOUND" (.int 1000000000)
variable {P : Program} {w : World} {K : PySem.W.Frag} {mg : Str → Option Value} {base : Heap}
theorem pure1 {ds : List D} (h : pureDs ds = true) {hh : Hh} {ok : Nat → Prop} : Views hh ok ds ds := Views.pures h
theorem fm_lt {a b : Int} (h : 0 < b) : 0 ≤ a.fmod b ∧ a.fmod b < b := ⟨Int.fmod_nonneg_of_pos _ h, Int.fmod_lt_of_pos _ h⟩
theorem bt_mulr' {a b : Int} (hb : a.natAbs < 1073741824) : MulOk a b := IntMulOk.of_left (Nat.le_trans ((bt_iff (m := 30)).mpr (by omega)) (by decide))
theorem cpow9 : CPow 10 9 := ⟨by decide, by decide, by decide⟩
theorem cpow6 : CPow 10 6 := ⟨by decide, by decide, by decide⟩
abbrev HH (c : List Int) (s : DrS) (rows : List D) (junk : Hh) : Hh := .lst (c.map .int) :: .lst (drD 0 s) :: .lst rows :: junk
abbrev H2 (c : List Int) (s : DrS) (junk : Hh) : Hh := .lst (c.map .int) :: .lst (drD 0 s) :: junk
/-- bits of a sum of products -/
theorem get_mid {α : Type} {l r : List α} {a : α} : ((l ++ [a]) ++ r)[l.length]? = some a := by
  rw [List.append_assoc, List.getElem?_append_right (Nat.le_refl _), Nat.sub_self]; rfl
theorem get_mid2 {α : Type} {l r q : List α} {a : α} : (((l ++ [a]) ++ r) ++ q)[l.length]? = some a := by
  rw [List.append_assoc (l ++ [a])]; exact get_mid
theorem set_last {α : Type} {l : List α} {x y : α} : (l ++ [x]).set l.length y = l ++ [y] := by
  induction l with
  | nil => rfl
  | cons a r ih => rw [List.cons_append, List.length_cons, List.set_cons_succ, ih, List.cons_append]
abbrev tI (l : List Int) : D := .tup (l.map .int)
def dotN (a b : List Int) : Nat → Int
  | 0 => 0
  | n + 1 => dotN a b n + a.getD n 0 * b.getD n 0
def Lb (m : Nat) (l : List Int) : Prop := l.length ≤ 100 ∧ ∀ x ∈ l, Bt m x
theorem Lb.getD {m : Nat} {l : List Int} (h : Lb m l) (i : Nat) : Bt m (l.getD i 0) := by
  by_cases hi : i < l.length
  · rw [List.getD_eq_getElem?_getD, List.getElem?_eq_getElem hi]; exact h.2 _ (List.getElem_mem hi)
  · rw [List.getD_eq_getElem?_getD, List.getElem?_eq_none (by omega)]; exact bt0
theorem mapi_at {l : List Int} {i : Nat} {x : D} (h : (l.map D.int)[i]? = some x) : i < l.length ∧ x = .int (l.getD i 0) := by
  by_cases hi : i < l.length
  · rw [List.getElem?_map, List.getElem?_eq_getElem hi] at h
    rw [List.getD_eq_getElem?_getD, List.getElem?_eq_getElem hi]
    simp at h
    exact ⟨hi, h.symm⟩
  · rw [List.getElem?_eq_none (by simp; omega)] at h; cases h
theorem zip_at {a b : List Int} {i : Nat} {x : D} (h : (zipD (a.map D.int) (b.map D.int))[i]? = some x) : i < a.length ∧ i < b.length ∧ x = .tup [.int (a.getD i 0), .int (b.getD i 0)] := by
  have hl : i < (zipD (a.map D.int) (b.map D.int)).length := by
    by_cases hl : i < (zipD (a.map D.int) (b.map D.int)).length
    · exact hl
    · rw [List.getElem?_eq_none (by omega)] at h; cases h
  rw [zipD_len, List.length_map, List.length_map] at hl
  have h1 : i < a.length := by omega
  have h2 : i < b.length := by omega
  rw [zipD_get (by simpa using h1) (by simpa using h2)] at h
  injection h with h
  refine ⟨h1, h2, ?_⟩
  rw [← h, List.getD_eq_getElem?_getD, List.getElem?_eq_getElem h1, List.getD_eq_getElem?_getD, List.getElem?_eq_getElem h2]
  simp
theorem at_map {l : List Int} {k : Int} (h : 0 ≤ k) (h2 : k < l.length) : atI (l.map D.int) k = some (.int (l.getD k.toNat 0)) := by
  have hk : k.toNat < l.length := by omega
  rw [atN k h (by simpa using h2), List.getElem?_map, List.getElem?_eq_getElem hk, List.getD_eq_getElem?_getD, List.getElem?_eq_getElem hk]
  rfl
theorem take_at {l : List Int} {i : Nat} (h : i < l.length) : l.take (i + 1) = l.take i ++ [l.getD i 0] := by
  rw [List.take_add_one, List.getElem?_eq_getElem h, List.getD_eq_getElem?_getD, List.getElem?_eq_getElem h]; rfl
theorem sl2 {n : Nat} (h : n ≤ 1000) : n < sizeLine := Nat.lt_of_le_of_lt h (by decide)
abbrev WP := List Int × List Int
def preW (x : WP) (ds : List D) : Prop := ds = [tI x.1, tI x.2] ∧ x.1.length ≤ x.2.length ∧ Lb 2000 x.1 ∧ Lb 2000 x.2
theorem cut_last {l : List Int} {c : Int} : cutD ((l ++ [c]).map D.int) none (some (-1)) = l.map D.int := by
  unfold Dn.cutD HT.sIx
  simp
  rw [show (-1 + ((l.length : Int) + 1)).toNat = (l.map D.int).length by rw [List.length_map]; omega]
  exact List.take_left ..
theorem at_last {l : List D} {d : D} : atI (l ++ [d]) (-1) = some d := by
  unfold atI ixN
  rw [if_neg (by omega), if_pos (by simp; omega)]
  simp only [Option.bind, List.length_append, List.length_cons, List.length_nil]
  rw [show (-1 + ((l.length + (0 + 1) : Nat) : Int)).toNat = l.length by omega]
  simp
theorem at_lasti {l : List Int} {c : Int} : atI ((l ++ [c]).map D.int) (-1) = some (.int c) := by rw [List.map_append]; exact at_last
theorem dotN_bt {a b : List Int} {m k : Nat} (ha : Lb m a) (hb : Lb k b) : ∀ n, Bt (m + k + n) (dotN a b n)
  | 0 => bt0
  | n + 1 => by
    unfold dotN
    exact bt_mono (bits_add (dotN_bt ha hb n) (bits_mul (ha.getD n) (hb.getD n))) (by omega)
theorem dotN_app {a b c : List Int} : ∀ n, n ≤ b.length → dotN a (b ++ c) n = dotN a b n
  | 0, _ => rfl
  | n + 1, h => by
    unfold dotN
    rw [dotN_app n (by omega)]
    rw [List.getD_eq_getElem?_getD (l := b ++ c), List.getElem?_append_left (by omega), ← List.getD_eq_getElem?_getD]
theorem dotN_appL {a b c : List Int} : ∀ n, n ≤ a.length → dotN (a ++ c) b n = dotN a b n
  | 0, _ => rfl
  | n + 1, h => by
    unfold dotN
    rw [dotN_appL n (by omega)]
    rw [List.getD_eq_getElem?_getD (l := a ++ c), List.getElem?_append_left (by omega), ← List.getD_eq_getElem?_getD]
theorem getD_last {l : List Int} {c : Int} {n : Nat} (h : l.length = n) : (l ++ [c]).getD n 0 = c := by
  rw [List.getD_eq_getElem?_getD, ← h, List.getElem?_concat_length]; rfl
theorem Lb.app {m : Nat} {l : List Int} {c : Int} (h : Lb m (l ++ [c])) : Lb m l ∧ Bt m c := ⟨⟨by have := h.1; simp at this; omega, fun x hx => h.2 x (List.mem_append_left _ hx)⟩, h.2 c (by simp)⟩
theorem Lb.mk' {m : Nat} {l : List Int} {c : Int} (h : Lb m l) (hl : l.length < 100) (hc : Bt m c) : Lb m (l ++ [c]) := ⟨by simp; omega, fun x hx => by
  rcases List.mem_append.mp hx with q | q
  · exact h.2 x q
  · rw [List.mem_singleton] at q; rw [q]; exact hc⟩
theorem Lb.mono {m n : Nat} {l : List Int} (h : Lb m l) (k : m ≤ n) : Lb n l := ⟨h.1, fun x hx => bt_mono (h.2 x hx) k⟩
theorem getD_range {F : Nat → Int} {n k : Nat} (h : k < n) : ((List.range n).map F).getD k 0 = F k := by
  rw [List.getD_eq_getElem?_getD, List.getElem?_map, List.getElem?_range h]; rfl
theorem range_at {F : Nat → Int} {i : Nat} : (List.range (i + 1)).map F = (List.range i).map F ++ [F i] := by
  rw [List.range_succ, List.map_append]; rfl
theorem getD_map0 {f : Int → Int} (h : f 0 = 0) (l : List Int) (n : Nat) : (l.map f).getD n 0 = f (l.getD n 0) := by
  rw [List.getD_eq_getElem?_getD, List.getD_eq_getElem?_getD, List.getElem?_map]
  cases l[n]? with
  | none => exact h.symm
  | some x => rfl
theorem getD_app {l : List Int} {c : Int} {k : Nat} (h : k < l.length) : (l ++ [c]).getD k 0 = l.getD k 0 := by
  rw [List.getD_eq_getElem?_getD, List.getElem?_append_left h, ← List.getD_eq_getElem?_getD]
theorem at_app {l : List Int} {c : Int} {k : Int} (h : 0 ≤ k) (h2 : k < l.length) : atI ((l ++ [c]).map D.int) k = some (.int (l.getD k.toNat 0)) := by
  rw [at_map h (by simp; omega), getD_app (by omega)]
theorem bt60 {x : Int} (h : x.natAbs < 2 ^ 60) : Bt 100 x := bt_mono ((bt_iff (m := 60)).mpr h) (by decide)
theorem bt20 {x : Int} (h : x.natAbs < 2 ^ 20) : Bt 50 x := bt_mono ((bt_iff (m := 20)).mpr h) (by decide)
def sg (n d : Int) : Int := if d < 0 then -((Nat.gcd n.natAbs d.natAbs : Nat) : Int) else ((Nat.gcd n.natAbs d.natAbs : Nat) : Int)
def nf1 (n d : Int) : Int := n.fdiv (sg n d)
def nf2 (n d : Int) : Int := d.fdiv (sg n d)
def rt (n d : Int) : D := .tup [.int (nf1 n d), .int (nf2 n d)]
theorem gcd_bt {n d : Int} {m : Nat} (hd : d ≠ 0) (h : Bt m d) : Bt m ((Nat.gcd n.natAbs d.natAbs : Nat) : Int) := by
  have := Nat.gcd_le_right (m := n.natAbs) (n := d.natAbs) (by omega)
  exact bits_of_natAbs_le (by omega) h
theorem gcd_nz {n d : Int} (hd : d ≠ 0) : ((Nat.gcd n.natAbs d.natAbs : Nat) : Int) ≠ 0 := by
  have := Nat.gcd_pos_of_pos_right n.natAbs (show 0 < d.natAbs by omega)
  omega
abbrev Two := (Int × Int) × (Int × Int)
def prD (p : Int × Int) : D := .tup [.int p.1, .int p.2]
def preAB (x : Two) (ds : List D) : Prop := ds = [prD x.1, prD x.2] ∧ Bt 1000 x.1.1 ∧ Bt 1000 x.1.2 ∧ Bt 1000 x.2.1 ∧ Bt 1000 x.2.2
def gcdL (a : List Int) : Nat := a.foldl (fun g x => Nat.gcd g x.natAbs) 0
theorem gcdL_at {l : List Int} {i : Nat} (h : i < l.length) : gcdL (l.take (i + 1)) = Nat.gcd (gcdL (l.take i)) (l.getD i 0).natAbs := by
  rw [take_at h]; unfold gcdL; rw [List.foldl_append]; rfl
theorem gcdL_bt {m : Nat} {a : List Int} (h : ∀ x ∈ a, Bt m x) : Bt m (gcdL a : Int) := by
  have key : ∀ (l : List Int) (g : Nat), (∀ x ∈ l, Bt m x) → Bt m (g : Int) → Bt m ((l.foldl (fun g x => Nat.gcd g x.natAbs) g : Nat) : Int) := by
    intro l
    induction l with
    | nil => intro g _ h; exact h
    | cons x l ih =>
      intro g hl hg
      rw [List.foldl_cons]
      refine ih _ (fun y hy => hl y (List.mem_cons_of_mem _ hy)) ?_
      by_cases hx : x = 0
      · subst hx; simpa using hg
      · have := Nat.gcd_le_right (m := g) (n := x.natAbs) (by omega)
        exact bits_of_natAbs_le (by omega) (hl x List.mem_cons_self)
  exact key a 0 h bt0
theorem foldg_dvd : ∀ (l : List Int) (g : Nat), l.foldl (fun g x => Nat.gcd g x.natAbs) g ∣ g ∧ ∀ x ∈ l, l.foldl (fun g x => Nat.gcd g x.natAbs) g ∣ x.natAbs
  | [], g => ⟨Nat.dvd_refl _, fun _ h => by cases h⟩
  | x :: l, g => by
    rw [List.foldl_cons]
    obtain ⟨h1, h2⟩ := foldg_dvd l (Nat.gcd g x.natAbs)
    refine ⟨Nat.dvd_trans h1 (Nat.gcd_dvd_left _ _), fun y hy => ?_⟩
    rcases List.mem_cons.mp hy with rfl | hy
    · exact Nat.dvd_trans h1 (Nat.gcd_dvd_right _ _)
    · exact h2 y hy
theorem back_map {l : List Int} {g : Int} (hg : g ≠ 0) (h : ∀ x ∈ l, g ∣ x) : (l.map fun x => x.fdiv g).map (fun x => x * g) = l := by
  rw [List.map_map]
  conv => rhs; rw [← List.map_id l]
  refine List.map_congr_left fun x hx => ?_
  obtain ⟨q, hq⟩ := h x hx
  show x.fdiv g * g = x
  rw [hq, Int.mul_fdiv_cancel_left _ hg, Int.mul_comm]
theorem app_int (L : List Int) (k : Int) : List.map D.int L ++ [D.int k] = (L ++ [k]).map .int := by simp
theorem lb50 {L : List Int} (hl : L.length ≤ 100) (h : ∀ x ∈ L, x.natAbs ≤ 1000) : Lb 50 L := ⟨hl, fun x hx => bt20 (by have := h x hx; omega)⟩
theorem lb_app {m : Nat} {a b : List Int} (h1 : Lb m a) (h2 : Lb m b) (h : a.length + b.length ≤ 100) : Lb m (a ++ b) := ⟨by simp; omega, fun x hx => by
  rcases List.mem_append.mp hx with q | q
  · exact h1.2 x q
  · exact h2.2 x q⟩
theorem len1 {α : Type} (l : List α) (a : α) : ((l ++ [a]).length : Int) - 1 = l.length := by simp
theorem lb_one {m : Nat} {c : Int} (h : Bt m c) : Lb m [c] := ⟨by simp, fun x hx => by rw [List.mem_singleton] at hx; rw [hx]; exact h⟩
theorem lb_map {α : Type} {m : Nat} {l : List α} {f : α → Int} (hl : l.length ≤ 100) (h : ∀ x ∈ l, Bt m (f x)) : Lb m (l.map f) := ⟨by rw [List.length_map]; exact hl, fun x hx => by
  obtain ⟨y, hy, rfl⟩ := List.mem_map.mp hx
  exact h y hy⟩
/-- the draws at 0, their cells at 1, as at the entry -/
theorem useD_01 {α : Type} {g : SpcD α} {ds : List D} {c : List Int} {s : DrS} {r : Hh} {Q : D → Hh → Prop} (x : α) (hc : s.c = c) (v : pureDs ds = true) (p : g.pre x ds s) (w : ∀ o s', g.res x o s' → s'.c = c → ∃ d, o = .val d ∧ Q d (.lst (drD 1 s') :: .lst (c.map .int) :: r)) : useD g (.ref 0 :: ds) (.lst (drD 1 s) :: .lst (c.map .int) :: r) Q :=
  ⟨x, ds, s, 1, by decide, rfl, by rw [hc]; rfl, Views.pures v, p, fun o s' ho hs _ => by
    obtain ⟨d, rfl, q⟩ := w o s' ho (hs.trans hc)
    exact q⟩
def sp_weight : Spc WP where
  pre := preW
  res := fun x o => o = .val (.int (dotN x.1 x.2 x.1.length))
  exc := fun _ _ => False
def kpt (k : Int) (w : Int) : Bool := if k = 0 then decide (w = 0) else if k = 1 then decide (0 ≤ w) else decide (0 < w)
structure CP where
  f : List Int
  k : Int
  p : List Int
def cl (f : List Int) (k : Int) : D := .tup [tI f, .int k]
def preC (x : CP) (ds : List D) : Prop := ds = [cl x.f x.k, tI x.p] ∧ x.f.length ≤ x.p.length ∧ Lb 2000 x.f ∧ Lb 2000 x.p
def sp_keeps : Spc CP where
  pre := preC
  res := fun x o => o = .val (.bl (kpt x.k (dotN x.f x.p x.f.length)))
  exc := fun _ _ => False
/-- a tuple or a list of numbers -/
def isI (d : D) (l : List Int) : Prop := d = tI l ∨ d = .lst (l.map .int)
def preL (x : WP) (ds : List D) : Prop := (∃ d1 d2, ds = [d1, d2] ∧ isI d1 x.1 ∧ isI d2 x.2) ∧ x.1.length ≤ x.2.length ∧ Lb 2000 x.1 ∧ Lb 2000 x.2
def sp__law_weight : Spc WP where
  pre := preL
  res := fun x o => o = .val (.int (dotN x.1 x.2 x.1.length))
  exc := fun _ _ => False
def cmpI (x : Two) : Int := if x.1.1 * x.2.2 - x.2.1 * x.1.2 < 0 then -1 else if 0 < x.1.1 * x.2.2 - x.2.1 * x.1.2 then 1 else 0
def sp_compare : Spc Two where
  pre := preAB
  res := fun x o => o = .val (.int (cmpI x))
  exc := fun x ex => False

/-! ### _law_gcd -/
def sp__law_gcd : Spc (Int × Int) where
  pre := fun x ds => ds = [.int x.1, .int x.2]
  res := fun x o => o = .val (.int ((Nat.gcd x.1.natAbs x.2.natAbs : Nat) : Int))
  exc := fun _ _ => False

def l1__law_gcd_0 : dS :=
  (sPar 0 1 (dCons (dVar 1) (dCons (dOp modF (dCB intF (dCons (dVar 0) dNil)) (dVar 1)) dNil)))
def r__law_gcd_3 : dS :=
  (sRet (dVar 0))
def r__law_gcd_2 : dS :=
  (sSeq (sWhile (dtB (dOp gtF (dVar 1) (dC (.int 0)))) (l1__law_gcd_0)) (r__law_gcd_3))
def r__law_gcd_1 : dS :=
  (sSeq (sAsg (dCB absF (dCons (dVar 1) dNil)) (gN 1)) (r__law_gcd_2))
def r__law_gcd_0 : dS :=
  (sSeq (sAsg (dCB absF (dCons (dVar 0) dNil)) (gN 0)) (r__law_gcd_1))
def t__law_gcd : dS :=
  (r__law_gcd_0)
theorem len__law_gcd : ∀ x ds, sp__law_gcd.pre x ds → ds.length = 2 := fun x ds h => by rw [h]; rfl
theorem absE (i : Int) : (if i < 0 then -i else i) = (i.natAbs : Int) := by split <;> omega
theorem w__law_gcd : ∀ x ds, sp__law_gcd.pre x ds → t__law_gcd (endP sp__law_gcd x) (startE nm__law_gcd.length ds) [] := by
  rintro ⟨a, b⟩ ds rfl
  simp only [t__law_gcd, nm__law_gcd, r__law_gcd_0, r__law_gcd_1, r__law_gcd_2, r__law_gcd_3, l1__law_gcd_0, dOp, dUn, dVar, dC, slot, startE, List.map, List.length, List.replicate, List.append, List.cons_append, List.nil_append, List.set, dAnd, dOr, dNot, dtB, dtAnd, dtOr, dtNot, dIf, dtTru, truF, dNil, dCons, dTup, dLst, dCB, sNil, sSeq, sRet, sRetN, sExpr, sIf, sAsg, gN, gT, gsNil, gsCons, gS, sPar, sAug, sWhile, sFor, sBrk, sCont, sNo, sRaise, dCallP, dCallD, eqF, neF, ltF, leF, gtF, geF, isF, notF, addF, subF, mulF, fdivF, modF, powF, negF, ixF, lenF, tupF, lstF, absF, intF, gcdF, maxF, minF, Rs.to, dIsi, dIsi2, dIsE, tyN, D.isNon, dM1, dM0, srcSeq, srcRng1, srcRng2, dLc, tYesD, iaddF, isBF, notBF, srcZip, srcEnumerate, repF, sumF, allF, anyF, intsOf_map, blsOf_map, dSl, dPart, dNoPart, sliceF, drD, at0, at1, at2, at3, at4, ix0, ix1, ix2, ix3, Dn.g0, Dn.g1, Dn.g2, Dn.g3, Dn.g4, ex_some, decide_true, decide_false, Bool.not_true, Bool.not_false, ite_true, ite_false, if_true, if_false, List.reverse_cons, List.reverse_nil, outPost, wipeE, CTg.set, setAll, appF, extF, revF, popF, Nat.zero_add, Nat.reduceAdd, is_NoneType_int, is_NoneType_bool, is_NoneType_str, is_NoneType_tuple, is_NoneType_list, is_bool_int, is_bool_bool, is_bool_str, is_bool_tuple, is_bool_list, is_int_int, is_int_bool, is_int_str, is_int_tuple, is_int_list, is_str_int, is_str_bool, is_str_str, is_str_tuple, is_str_list, is_tuple_int, is_tuple_bool, is_tuple_str, is_tuple_tuple, is_tuple_list, is_list_int, is_list_bool, is_list_str, is_list_tuple, is_list_list, strF, dDct, repLF, is_dict_int, is_dict_bool, is_dict_str, is_dict_tuple, is_dict_list, is_dict_dict, is_NoneType_dict, is_bool_dict, is_int_dict, is_str_dict, is_tuple_dict, is_list_dict]
  refine ⟨fun m e h => ∃ p q : Nat, m = q ∧ e = [some (.int p), some (.int q)] ∧ h = [] ∧ Nat.gcd p q = Nat.gcd a.natAbs b.natAbs, ⟨_, a.natAbs, b.natAbs, rfl, by simp [absE], rfl, rfl⟩, ?_⟩
  rintro m e h ⟨p, q, hm, rfl, rfl, hg⟩; subst hm
  simp only [dOp, dUn, dVar, dC, slot, startE, List.map, List.length, List.replicate, List.append, List.cons_append, List.nil_append, List.set, dAnd, dOr, dNot, dtB, dtAnd, dtOr, dtNot, dIf, dtTru, truF, dNil, dCons, dTup, dLst, dCB, sNil, sSeq, sRet, sRetN, sExpr, sIf, sAsg, gN, gT, gsNil, gsCons, gS, sPar, sAug, sWhile, sFor, sBrk, sCont, sNo, sRaise, dCallP, dCallD, eqF, neF, ltF, leF, gtF, geF, isF, notF, addF, subF, mulF, fdivF, modF, powF, negF, ixF, lenF, tupF, lstF, absF, intF, gcdF, maxF, minF, Rs.to, dIsi, dIsi2, dIsE, tyN, D.isNon, dM1, dM0, srcSeq, srcRng1, srcRng2, dLc, tYesD, iaddF, isBF, notBF, srcZip, srcEnumerate, repF, sumF, allF, anyF, intsOf_map, blsOf_map, dSl, dPart, dNoPart, sliceF, drD, at0, at1, at2, at3, at4, ix0, ix1, ix2, ix3, Dn.g0, Dn.g1, Dn.g2, Dn.g3, Dn.g4, ex_some, decide_true, decide_false, Bool.not_true, Bool.not_false, ite_true, ite_false, if_true, if_false, List.reverse_cons, List.reverse_nil, outPost, wipeE, CTg.set, setAll, appF, extF, revF, popF, Nat.zero_add, Nat.reduceAdd, is_NoneType_int, is_NoneType_bool, is_NoneType_str, is_NoneType_tuple, is_NoneType_list, is_bool_int, is_bool_bool, is_bool_str, is_bool_tuple, is_bool_list, is_int_int, is_int_bool, is_int_str, is_int_tuple, is_int_list, is_str_int, is_str_bool, is_str_str, is_str_tuple, is_str_list, is_tuple_int, is_tuple_bool, is_tuple_str, is_tuple_tuple, is_tuple_list, is_list_int, is_list_bool, is_list_str, is_list_tuple, is_list_list, strF, dDct, repLF, is_dict_int, is_dict_bool, is_dict_str, is_dict_tuple, is_dict_list, is_dict_dict, is_NoneType_dict, is_bool_dict, is_int_dict, is_str_dict, is_tuple_dict, is_list_dict]
  by_cases hq : (0 : Int) < m
  · simp only [hq, decide_true]
    refine ⟨?_, p % m, ?_, m, p % m, rfl, ?_, by trivial, ?_⟩
    · simp; omega
    · exact Nat.mod_lt _ (by omega)
    · simp [Int.fmod_eq_emod_of_nonneg]
    · rw [← hg, Nat.gcd_comm p m, Nat.gcd_rec m p, Nat.gcd_comm]
  · have : m = 0 := by omega
    subst this
    simp only [hq, decide_false]
    refine rt_val rfl ?_
    rw [Nat.gcd_zero_right] at hg
    simp [sp__law_gcd, hg]

theorem ok__law_gcd (T : Txt K mg) : Ok P w K mg base 1 "_law_gcd" ["a", "b"] (spP K mg sp__law_gcd) :=
  okOf T.d__law_gcd fun f fd F => fnP (k := 0) sp__law_gcd t__law_gcd F sc__law_gcd (fun x ds hp => len__law_gcd x ds hp) (fun cdv A outer s H E hr z => by
    have hu := hr.units; have hnd := sc__law_gcd.nd
    unfold t__law_gcd r__law_gcd_0 r__law_gcd_1 r__law_gcd_2 r__law_gcd_3 l1__law_gcd_0
    exact (dss_cons (ds_set 0 hnd rfl (by walk_at "locs") (de_callB (f := absF) call_abs cd_abs rfl T.b_abs (by decide +kernel) (da_cons (de_var 0 rfl (by walk_at "vis") (by decide) (by decide)) da_nil rfl) (by decide) (by decide) rfl rfl) rfl (by walk_at "fnn"))
    (dss_cons (ds_set 1 hnd rfl (by walk_at "locs") (de_callB (f := absF) call_abs cd_abs rfl T.b_abs (by decide +kernel) (da_cons (de_var 1 rfl (by walk_at "vis") (by decide) (by decide)) da_nil rfl) (by decide) (by decide) rfl rfl) rfl (by walk_at "fnn"))
    (dss_cons (ds_while (passes_of (K := fun e s'' => L2.CX P w outer H s E e s'') (E₁ := fun e s'' => L2.CX P w outer H s E e s'') rfl) (dt_cmp op_gt od_gt (de_var 1 rfl (by walk_at "vis") (by decide) (by decide)) de_int (nomark _)) (dss_one (ds_par 0 1 rfl hnd rfl rfl (by decide) rfl rfl (da_cons (de_var 1 rfl (by walk_at "vis") (by decide) (by decide)) (da_cons (de_mod (de_callTy (f := intF) call_int1 cd_int rfl T.b_int (by decide +kernel) (da_cons (de_var 0 rfl (by walk_at "vis") (by decide) (by decide)) da_nil rfl) (by decide) (by decide) rfl rfl) (de_var 1 rfl (by walk_at "vis") (by decide) (by decide))) da_nil rfl) rfl) (by rfl) rfl)))
    (dss_one (ds_ret (de_var 0 rfl (by walk_at "vis") (by decide) (by decide)))))))) w__law_gcd
/-! ### _law_draws -/
def sp__law_draws : Spc (List Int) where
  pre := fun x ds => ds = [.lst (x.map .int)]
  res := fun x o => o = .drw x 0 0 1
  exc := fun _ _ => False

def r__law_draws_0 : dS :=
  (sRet (dLst (dCons (dCB lstF (dCons (dVar 0) dNil)) (dCons (dC (.int 0)) (dCons (dC (.int 0)) (dCons (dC (.int 1)) dNil))))))
def t__law_draws : dS :=
  (r__law_draws_0)
theorem len__law_draws : ∀ x ds, sp__law_draws.pre x ds → ds.length = 1 := fun x ds h => by rw [h]; rfl
theorem w__law_draws : ∀ x ds, sp__law_draws.pre x ds → t__law_draws (endP sp__law_draws x) (startE nm__law_draws.length ds) [] := by
  rintro c ds rfl
  simp only [t__law_draws, nm__law_draws, r__law_draws_0, dOp, dUn, dVar, dC, slot, startE, List.map, List.length, List.replicate, List.append, List.cons_append, List.nil_append, List.set, dAnd, dOr, dNot, dtB, dtAnd, dtOr, dtNot, dIf, dtTru, truF, dNil, dCons, dTup, dLst, dCB, sNil, sSeq, sRet, sRetN, sExpr, sIf, sAsg, gN, gT, gsNil, gsCons, gS, sPar, sAug, sWhile, sFor, sBrk, sCont, sNo, sRaise, dCallP, dCallD, eqF, neF, ltF, leF, gtF, geF, isF, notF, addF, subF, mulF, fdivF, modF, powF, negF, ixF, lenF, tupF, lstF, absF, intF, gcdF, maxF, minF, Rs.to, dIsi, dIsi2, dIsE, tyN, D.isNon, dM1, dM0, srcSeq, srcRng1, srcRng2, dLc, tYesD, iaddF, isBF, notBF, srcZip, srcEnumerate, repF, sumF, allF, anyF, intsOf_map, blsOf_map, dSl, dPart, dNoPart, sliceF, drD, at0, at1, at2, at3, at4, ix0, ix1, ix2, ix3, Dn.g0, Dn.g1, Dn.g2, Dn.g3, Dn.g4, ex_some, decide_true, decide_false, Bool.not_true, Bool.not_false, ite_true, ite_false, if_true, if_false, List.reverse_cons, List.reverse_nil, outPost, wipeE, CTg.set, setAll, appF, extF, revF, popF, Nat.zero_add, Nat.reduceAdd, is_NoneType_int, is_NoneType_bool, is_NoneType_str, is_NoneType_tuple, is_NoneType_list, is_bool_int, is_bool_bool, is_bool_str, is_bool_tuple, is_bool_list, is_int_int, is_int_bool, is_int_str, is_int_tuple, is_int_list, is_str_int, is_str_bool, is_str_str, is_str_tuple, is_str_list, is_tuple_int, is_tuple_bool, is_tuple_str, is_tuple_tuple, is_tuple_list, is_list_int, is_list_bool, is_list_str, is_list_tuple, is_list_list, strF, dDct, repLF, is_dict_int, is_dict_bool, is_dict_str, is_dict_tuple, is_dict_list, is_dict_dict, is_NoneType_dict, is_bool_dict, is_int_dict, is_str_dict, is_tuple_dict, is_list_dict]
  show outOkG (sp__law_draws.res c) (.ref 1) [.lst (c.map .int), .lst [.ref 0, .int 0, .int 0, .int 1]]
  exact .inl (.inr ⟨0, 0, 0, 1, c, rfl, by decide, rfl, rfl⟩)

theorem ok__law_draws (T : Txt K mg) : Ok P w K mg base 1 "_law_draws" ["script"] (spP K mg sp__law_draws) :=
  okOf T.d__law_draws fun f fd F => fnP (k := 0) sp__law_draws t__law_draws F sc__law_draws (fun x ds hp => len__law_draws x ds hp) (fun cdv A outer s H E hr z => by
    have hu := hr.units; have hnd := sc__law_draws.nd
    unfold t__law_draws r__law_draws_0
    exact (dss_one (ds_ret (de_lst (da_cons (de_callTy (f := lstF) call_list_of cd_lst rfl T.b_list (by decide +kernel) (da_cons (de_var 0 rfl (by walk_at "vis") (by decide) (by decide)) da_nil rfl) (by decide) (by decide) rfl rfl) (da_cons de_int (da_cons de_int (da_cons de_int da_nil rfl) rfl) rfl) rfl) (by decide))))) w__law_draws
/-! ### _law_draw -/
def sp__law_draw : SpcD Int where
  pre := fun x ds s => ds = [.int x] ∧ 0 < x ∧ Bt 3000 x ∧ 0 ≤ s.a
  res := fun x o s' => ∃ v : Int, o = .val (.int v) ∧ 0 ≤ v ∧ v < x ∧ 0 ≤ s'.a

def r__law_draw_3 : dS :=
  (sRet (dOp modF (dCB intF (dCons (dOp fdivF (dOp ixF (dVar 0) (dC (.int 3))) (dC (.int 11))) dNil)) (dVar 1)))
def r__law_draw_2 : dS :=
  (sSeq (sAsg (dOp modF (dCB intF (dCons (dOp addF (dOp mulF (dOp ixF (dVar 0) (dC (.int 3))) (dC (.int 69621))) (dC (.int 7))) dNil)) (dC (.int 2147483629))) (gS (dVar 0) (dC (.int 3)))) (r__law_draw_3))
def r__law_draw_1 : dS :=
  (sSeq (sIf (dtB (dOp gtF (dOp ixF (dVar 0) (dC (.int 2))) (dC (.int 0)))) (sSeq (sAsg (dOp modF (dCB intF (dCons (dOp ixF (dVar 0) (dC (.int 2))) dNil)) (dVar 1)) (gN 3))
    (sSeq (sAsg (dOp fdivF (dOp ixF (dVar 0) (dC (.int 2))) (dVar 1)) (gS (dVar 0) (dC (.int 2))))
    (sRet (dVar 3)))) sNil) (r__law_draw_2))
def r__law_draw_0 : dS :=
  (sSeq (sIf (dtAnd (dtB (dOp eqF (dOp ixF (dVar 0) (dC (.int 2))) (dC (.int 0)))) (dtB (dOp ltF (dOp ixF (dVar 0) (dC (.int 1))) (dCB lenF (dCons (dOp ixF (dVar 0) (dC (.int 0))) dNil))))) (sSeq (sAsg (dOp ixF (dOp ixF (dVar 0) (dC (.int 0))) (dOp ixF (dVar 0) (dC (.int 1)))) (gN 2))
    (sSeq (sAsg (dOp addF (dOp ixF (dVar 0) (dC (.int 1))) (dC (.int 1))) (gS (dVar 0) (dC (.int 1))))
    (sSeq (sIf (dtB (dOp geF (dVar 2) (dOp powF (dC (.int 10)) (dC (.int 18))))) (sAsg (dVar 2) (gS (dVar 0) (dC (.int 2)))) sNil)
    (sAsg (dOp modF (dCB intF (dCons (dOp addF (dOp addF (dOp mulF (dOp ixF (dVar 0) (dC (.int 3))) (dC (.int 48271))) (dVar 2)) (dC (.int 13))) dNil)) (dC (.int 2147483647))) (gS (dVar 0) (dC (.int 3))))))) sNil) (r__law_draw_1))
def t__law_draw : dS :=
  (r__law_draw_0)
theorem len__law_draw : ∀ x ds s, sp__law_draw.pre x ds s → ds.length + 1 = 2 := fun x ds s h => by rw [h.1]; rfl
theorem div_lim {a b : Int} (h : 0 < b) (k : Bt 3000 b) : DivOk a b := bt_div (bt_mono k (by decide)) (by omega)
theorem cpow18 : CPow 10 18 := ⟨by decide, by decide, by decide⟩
theorem draw_tail {x : Int} {c : List Int} {u v : Option D} (h1 : 0 < x) (h2 : Bt 3000 x) {a z y : Int} (ha : 0 ≤ a) : r__law_draw_1 (endD sp__law_draw x c) [some (.ref 0), some (.int x), u, v] [.lst (drD 1 ⟨c, a, z, y⟩), .lst (c.map .int)] := by
  simp only [r__law_draw_1, r__law_draw_2, r__law_draw_3, dOp, dUn, dVar, dC, slot, startE, List.map, List.length, List.replicate, List.append, List.cons_append, List.nil_append, List.set, dAnd, dOr, dNot, dtB, dtAnd, dtOr, dtNot, dIf, dtTru, truF, dNil, dCons, dTup, dLst, dCB, sNil, sSeq, sRet, sRetN, sExpr, sIf, sAsg, gN, gT, gsNil, gsCons, gS, sPar, sAug, sWhile, sFor, sBrk, sCont, sNo, sRaise, dCallP, dCallD, eqF, neF, ltF, leF, gtF, geF, isF, notF, addF, subF, mulF, fdivF, modF, powF, negF, ixF, lenF, tupF, lstF, absF, intF, gcdF, maxF, minF, Rs.to, dIsi, dIsi2, dIsE, tyN, D.isNon, dM1, dM0, srcSeq, srcRng1, srcRng2, dLc, tYesD, iaddF, isBF, notBF, srcZip, srcEnumerate, repF, sumF, allF, anyF, intsOf_map, blsOf_map, dSl, dPart, dNoPart, sliceF, drD, at0, at1, at2, at3, at4, ix0, ix1, ix2, ix3, Dn.g0, Dn.g1, Dn.g2, Dn.g3, Dn.g4, ex_some, decide_true, decide_false, Bool.not_true, Bool.not_false, ite_true, ite_false, if_true, if_false, List.reverse_cons, List.reverse_nil, outPost, wipeE, CTg.set, setAll, appF, extF, revF, popF, Nat.zero_add, Nat.reduceAdd, is_NoneType_int, is_NoneType_bool, is_NoneType_str, is_NoneType_tuple, is_NoneType_list, is_bool_int, is_bool_bool, is_bool_str, is_bool_tuple, is_bool_list, is_int_int, is_int_bool, is_int_str, is_int_tuple, is_int_list, is_str_int, is_str_bool, is_str_str, is_str_tuple, is_str_list, is_tuple_int, is_tuple_bool, is_tuple_str, is_tuple_tuple, is_tuple_list, is_list_int, is_list_bool, is_list_str, is_list_tuple, is_list_list, strF, dDct, repLF, is_dict_int, is_dict_bool, is_dict_str, is_dict_tuple, is_dict_list, is_dict_dict, is_NoneType_dict, is_bool_dict, is_int_dict, is_str_dict, is_tuple_dict, is_list_dict]
  by_cases hz : 0 < z
  · simp only [hz, dOp, dUn, dVar, dC, slot, startE, List.map, List.length, List.replicate, List.append, List.cons_append, List.nil_append, List.set, dAnd, dOr, dNot, dtB, dtAnd, dtOr, dtNot, dIf, dtTru, truF, dNil, dCons, dTup, dLst, dCB, sNil, sSeq, sRet, sRetN, sExpr, sIf, sAsg, gN, gT, gsNil, gsCons, gS, sPar, sAug, sWhile, sFor, sBrk, sCont, sNo, sRaise, dCallP, dCallD, eqF, neF, ltF, leF, gtF, geF, isF, notF, addF, subF, mulF, fdivF, modF, powF, negF, ixF, lenF, tupF, lstF, absF, intF, gcdF, maxF, minF, Rs.to, dIsi, dIsi2, dIsE, tyN, D.isNon, dM1, dM0, srcSeq, srcRng1, srcRng2, dLc, tYesD, iaddF, isBF, notBF, srcZip, srcEnumerate, repF, sumF, allF, anyF, intsOf_map, blsOf_map, dSl, dPart, dNoPart, sliceF, drD, at0, at1, at2, at3, at4, ix0, ix1, ix2, ix3, Dn.g0, Dn.g1, Dn.g2, Dn.g3, Dn.g4, ex_some, decide_true, decide_false, Bool.not_true, Bool.not_false, ite_true, ite_false, if_true, if_false, List.reverse_cons, List.reverse_nil, outPost, wipeE, CTg.set, setAll, appF, extF, revF, popF, Nat.zero_add, Nat.reduceAdd, is_NoneType_int, is_NoneType_bool, is_NoneType_str, is_NoneType_tuple, is_NoneType_list, is_bool_int, is_bool_bool, is_bool_str, is_bool_tuple, is_bool_list, is_int_int, is_int_bool, is_int_str, is_int_tuple, is_int_list, is_str_int, is_str_bool, is_str_str, is_str_tuple, is_str_list, is_tuple_int, is_tuple_bool, is_tuple_str, is_tuple_tuple, is_tuple_list, is_list_int, is_list_bool, is_list_str, is_list_tuple, is_list_list, strF, dDct, repLF, is_dict_int, is_dict_bool, is_dict_str, is_dict_tuple, is_dict_list, is_dict_dict, is_NoneType_dict, is_bool_dict, is_int_dict, is_str_dict, is_tuple_dict, is_list_dict]
    refine ⟨by omega, div_lim h1 h2, ?_⟩
    exact rtD_val ⟨c, a, _, y⟩ rfl rfl rfl rfl ⟨_, rfl, (fm_lt h1).1, (fm_lt h1).2, ha⟩
  · simp only [hz, dOp, dUn, dVar, dC, slot, startE, List.map, List.length, List.replicate, List.append, List.cons_append, List.nil_append, List.set, dAnd, dOr, dNot, dtB, dtAnd, dtOr, dtNot, dIf, dtTru, truF, dNil, dCons, dTup, dLst, dCB, sNil, sSeq, sRet, sRetN, sExpr, sIf, sAsg, gN, gT, gsNil, gsCons, gS, sPar, sAug, sWhile, sFor, sBrk, sCont, sNo, sRaise, dCallP, dCallD, eqF, neF, ltF, leF, gtF, geF, isF, notF, addF, subF, mulF, fdivF, modF, powF, negF, ixF, lenF, tupF, lstF, absF, intF, gcdF, maxF, minF, Rs.to, dIsi, dIsi2, dIsE, tyN, D.isNon, dM1, dM0, srcSeq, srcRng1, srcRng2, dLc, tYesD, iaddF, isBF, notBF, srcZip, srcEnumerate, repF, sumF, allF, anyF, intsOf_map, blsOf_map, dSl, dPart, dNoPart, sliceF, drD, at0, at1, at2, at3, at4, ix0, ix1, ix2, ix3, Dn.g0, Dn.g1, Dn.g2, Dn.g3, Dn.g4, ex_some, decide_true, decide_false, Bool.not_true, Bool.not_false, ite_true, ite_false, if_true, if_false, List.reverse_cons, List.reverse_nil, outPost, wipeE, CTg.set, setAll, appF, extF, revF, popF, Nat.zero_add, Nat.reduceAdd, is_NoneType_int, is_NoneType_bool, is_NoneType_str, is_NoneType_tuple, is_NoneType_list, is_bool_int, is_bool_bool, is_bool_str, is_bool_tuple, is_bool_list, is_int_int, is_int_bool, is_int_str, is_int_tuple, is_int_list, is_str_int, is_str_bool, is_str_str, is_str_tuple, is_str_list, is_tuple_int, is_tuple_bool, is_tuple_str, is_tuple_tuple, is_tuple_list, is_list_int, is_list_bool, is_list_str, is_list_tuple, is_list_list, strF, dDct, repLF, is_dict_int, is_dict_bool, is_dict_str, is_dict_tuple, is_dict_list, is_dict_dict, is_NoneType_dict, is_bool_dict, is_int_dict, is_str_dict, is_tuple_dict, is_list_dict]
    refine ⟨bt_mulr (by decide), by decide, bt_small (by decide) (by decide), by omega, ?_⟩
    exact rtD_val ⟨c, a, z, _⟩ rfl rfl rfl rfl ⟨_, rfl, (fm_lt h1).1, (fm_lt h1).2, ha⟩
theorem w__law_draw : ∀ x ds s, sp__law_draw.pre x ds s → t__law_draw (endD sp__law_draw x s.c) (startE nm__law_draw.length (.ref 0 :: ds)) [.lst (drD 1 s), .lst (s.c.map .int)] := by
  rintro x ds s ⟨rfl, h1, h2, h3⟩
  obtain ⟨c, a, z, y⟩ := s
  simp only at h3
  simp only [t__law_draw, r__law_draw_0, startE, List.length, List.map, nm__law_draw, dOp, dUn, dVar, dC, slot, startE, List.map, List.length, List.replicate, List.append, List.cons_append, List.nil_append, List.set, dAnd, dOr, dNot, dtB, dtAnd, dtOr, dtNot, dIf, dtTru, truF, dNil, dCons, dTup, dLst, dCB, sNil, sSeq, sRet, sRetN, sExpr, sIf, sAsg, gN, gT, gsNil, gsCons, gS, sPar, sAug, sWhile, sFor, sBrk, sCont, sNo, sRaise, dCallP, dCallD, eqF, neF, ltF, leF, gtF, geF, isF, notF, addF, subF, mulF, fdivF, modF, powF, negF, ixF, lenF, tupF, lstF, absF, intF, gcdF, maxF, minF, Rs.to, dIsi, dIsi2, dIsE, tyN, D.isNon, dM1, dM0, srcSeq, srcRng1, srcRng2, dLc, tYesD, iaddF, isBF, notBF, srcZip, srcEnumerate, repF, sumF, allF, anyF, intsOf_map, blsOf_map, dSl, dPart, dNoPart, sliceF, drD, at0, at1, at2, at3, at4, ix0, ix1, ix2, ix3, Dn.g0, Dn.g1, Dn.g2, Dn.g3, Dn.g4, ex_some, decide_true, decide_false, Bool.not_true, Bool.not_false, ite_true, ite_false, if_true, if_false, List.reverse_cons, List.reverse_nil, outPost, wipeE, CTg.set, setAll, appF, extF, revF, popF, Nat.zero_add, Nat.reduceAdd, is_NoneType_int, is_NoneType_bool, is_NoneType_str, is_NoneType_tuple, is_NoneType_list, is_bool_int, is_bool_bool, is_bool_str, is_bool_tuple, is_bool_list, is_int_int, is_int_bool, is_int_str, is_int_tuple, is_int_list, is_str_int, is_str_bool, is_str_str, is_str_tuple, is_str_list, is_tuple_int, is_tuple_bool, is_tuple_str, is_tuple_tuple, is_tuple_list, is_list_int, is_list_bool, is_list_str, is_list_tuple, is_list_list, strF, dDct, repLF, is_dict_int, is_dict_bool, is_dict_str, is_dict_tuple, is_dict_list, is_dict_dict, is_NoneType_dict, is_bool_dict, is_int_dict, is_str_dict, is_tuple_dict, is_list_dict]
  by_cases hz : z = 0
  · by_cases ha : a < (c.map D.int).length
    · have hc : a.toNat < c.length := by rw [List.length_map] at ha; omega
      have e1 : atI (c.map D.int) a = some (.int c[a.toNat]) := by
        rw [atN a h3 ha, List.getElem?_map, List.getElem?_eq_getElem hc]; rfl
      simp only [hz, ha, e1, dOp, dUn, dVar, dC, slot, startE, List.map, List.length, List.replicate, List.append, List.cons_append, List.nil_append, List.set, dAnd, dOr, dNot, dtB, dtAnd, dtOr, dtNot, dIf, dtTru, truF, dNil, dCons, dTup, dLst, dCB, sNil, sSeq, sRet, sRetN, sExpr, sIf, sAsg, gN, gT, gsNil, gsCons, gS, sPar, sAug, sWhile, sFor, sBrk, sCont, sNo, sRaise, dCallP, dCallD, eqF, neF, ltF, leF, gtF, geF, isF, notF, addF, subF, mulF, fdivF, modF, powF, negF, ixF, lenF, tupF, lstF, absF, intF, gcdF, maxF, minF, Rs.to, dIsi, dIsi2, dIsE, tyN, D.isNon, dM1, dM0, srcSeq, srcRng1, srcRng2, dLc, tYesD, iaddF, isBF, notBF, srcZip, srcEnumerate, repF, sumF, allF, anyF, intsOf_map, blsOf_map, dSl, dPart, dNoPart, sliceF, drD, at0, at1, at2, at3, at4, ix0, ix1, ix2, ix3, Dn.g0, Dn.g1, Dn.g2, Dn.g3, Dn.g4, ex_some, decide_true, decide_false, Bool.not_true, Bool.not_false, ite_true, ite_false, if_true, if_false, List.reverse_cons, List.reverse_nil, outPost, wipeE, CTg.set, setAll, appF, extF, revF, popF, Nat.zero_add, Nat.reduceAdd, is_NoneType_int, is_NoneType_bool, is_NoneType_str, is_NoneType_tuple, is_NoneType_list, is_bool_int, is_bool_bool, is_bool_str, is_bool_tuple, is_bool_list, is_int_int, is_int_bool, is_int_str, is_int_tuple, is_int_list, is_str_int, is_str_bool, is_str_str, is_str_tuple, is_str_list, is_tuple_int, is_tuple_bool, is_tuple_str, is_tuple_tuple, is_tuple_list, is_list_int, is_list_bool, is_list_str, is_list_tuple, is_list_list, strF, dDct, repLF, is_dict_int, is_dict_bool, is_dict_str, is_dict_tuple, is_dict_list, is_dict_dict, is_NoneType_dict, is_bool_dict, is_int_dict, is_str_dict, is_tuple_dict, is_list_dict]
      refine ⟨cpow18, ?_⟩
      by_cases hb : (10 : Int) ^ (18 : Int).toNat ≤ c[a.toNat]
      · simp only [hb, dOp, dUn, dVar, dC, slot, startE, List.map, List.length, List.replicate, List.append, List.cons_append, List.nil_append, List.set, dAnd, dOr, dNot, dtB, dtAnd, dtOr, dtNot, dIf, dtTru, truF, dNil, dCons, dTup, dLst, dCB, sNil, sSeq, sRet, sRetN, sExpr, sIf, sAsg, gN, gT, gsNil, gsCons, gS, sPar, sAug, sWhile, sFor, sBrk, sCont, sNo, sRaise, dCallP, dCallD, eqF, neF, ltF, leF, gtF, geF, isF, notF, addF, subF, mulF, fdivF, modF, powF, negF, ixF, lenF, tupF, lstF, absF, intF, gcdF, maxF, minF, Rs.to, dIsi, dIsi2, dIsE, tyN, D.isNon, dM1, dM0, srcSeq, srcRng1, srcRng2, dLc, tYesD, iaddF, isBF, notBF, srcZip, srcEnumerate, repF, sumF, allF, anyF, intsOf_map, blsOf_map, dSl, dPart, dNoPart, sliceF, drD, at0, at1, at2, at3, at4, ix0, ix1, ix2, ix3, Dn.g0, Dn.g1, Dn.g2, Dn.g3, Dn.g4, ex_some, decide_true, decide_false, Bool.not_true, Bool.not_false, ite_true, ite_false, if_true, if_false, List.reverse_cons, List.reverse_nil, outPost, wipeE, CTg.set, setAll, appF, extF, revF, popF, Nat.zero_add, Nat.reduceAdd, is_NoneType_int, is_NoneType_bool, is_NoneType_str, is_NoneType_tuple, is_NoneType_list, is_bool_int, is_bool_bool, is_bool_str, is_bool_tuple, is_bool_list, is_int_int, is_int_bool, is_int_str, is_int_tuple, is_int_list, is_str_int, is_str_bool, is_str_str, is_str_tuple, is_str_list, is_tuple_int, is_tuple_bool, is_tuple_str, is_tuple_tuple, is_tuple_list, is_list_int, is_list_bool, is_list_str, is_list_tuple, is_list_list, strF, dDct, repLF, is_dict_int, is_dict_bool, is_dict_str, is_dict_tuple, is_dict_list, is_dict_dict, is_NoneType_dict, is_bool_dict, is_int_dict, is_str_dict, is_tuple_dict, is_list_dict]
        exact ⟨bt_mulr (by decide), by decide, draw_tail h1 h2 (by omega)⟩
      · simp only [hb, dOp, dUn, dVar, dC, slot, startE, List.map, List.length, List.replicate, List.append, List.cons_append, List.nil_append, List.set, dAnd, dOr, dNot, dtB, dtAnd, dtOr, dtNot, dIf, dtTru, truF, dNil, dCons, dTup, dLst, dCB, sNil, sSeq, sRet, sRetN, sExpr, sIf, sAsg, gN, gT, gsNil, gsCons, gS, sPar, sAug, sWhile, sFor, sBrk, sCont, sNo, sRaise, dCallP, dCallD, eqF, neF, ltF, leF, gtF, geF, isF, notF, addF, subF, mulF, fdivF, modF, powF, negF, ixF, lenF, tupF, lstF, absF, intF, gcdF, maxF, minF, Rs.to, dIsi, dIsi2, dIsE, tyN, D.isNon, dM1, dM0, srcSeq, srcRng1, srcRng2, dLc, tYesD, iaddF, isBF, notBF, srcZip, srcEnumerate, repF, sumF, allF, anyF, intsOf_map, blsOf_map, dSl, dPart, dNoPart, sliceF, drD, at0, at1, at2, at3, at4, ix0, ix1, ix2, ix3, Dn.g0, Dn.g1, Dn.g2, Dn.g3, Dn.g4, ex_some, decide_true, decide_false, Bool.not_true, Bool.not_false, ite_true, ite_false, if_true, if_false, List.reverse_cons, List.reverse_nil, outPost, wipeE, CTg.set, setAll, appF, extF, revF, popF, Nat.zero_add, Nat.reduceAdd, is_NoneType_int, is_NoneType_bool, is_NoneType_str, is_NoneType_tuple, is_NoneType_list, is_bool_int, is_bool_bool, is_bool_str, is_bool_tuple, is_bool_list, is_int_int, is_int_bool, is_int_str, is_int_tuple, is_int_list, is_str_int, is_str_bool, is_str_str, is_str_tuple, is_str_list, is_tuple_int, is_tuple_bool, is_tuple_str, is_tuple_tuple, is_tuple_list, is_list_int, is_list_bool, is_list_str, is_list_tuple, is_list_list, strF, dDct, repLF, is_dict_int, is_dict_bool, is_dict_str, is_dict_tuple, is_dict_list, is_dict_dict, is_NoneType_dict, is_bool_dict, is_int_dict, is_str_dict, is_tuple_dict, is_list_dict]
        exact ⟨bt_mulr (by decide), by decide, draw_tail h1 h2 (by omega)⟩
    · simp only [hz, ha, dOp, dUn, dVar, dC, slot, startE, List.map, List.length, List.replicate, List.append, List.cons_append, List.nil_append, List.set, dAnd, dOr, dNot, dtB, dtAnd, dtOr, dtNot, dIf, dtTru, truF, dNil, dCons, dTup, dLst, dCB, sNil, sSeq, sRet, sRetN, sExpr, sIf, sAsg, gN, gT, gsNil, gsCons, gS, sPar, sAug, sWhile, sFor, sBrk, sCont, sNo, sRaise, dCallP, dCallD, eqF, neF, ltF, leF, gtF, geF, isF, notF, addF, subF, mulF, fdivF, modF, powF, negF, ixF, lenF, tupF, lstF, absF, intF, gcdF, maxF, minF, Rs.to, dIsi, dIsi2, dIsE, tyN, D.isNon, dM1, dM0, srcSeq, srcRng1, srcRng2, dLc, tYesD, iaddF, isBF, notBF, srcZip, srcEnumerate, repF, sumF, allF, anyF, intsOf_map, blsOf_map, dSl, dPart, dNoPart, sliceF, drD, at0, at1, at2, at3, at4, ix0, ix1, ix2, ix3, Dn.g0, Dn.g1, Dn.g2, Dn.g3, Dn.g4, ex_some, decide_true, decide_false, Bool.not_true, Bool.not_false, ite_true, ite_false, if_true, if_false, List.reverse_cons, List.reverse_nil, outPost, wipeE, CTg.set, setAll, appF, extF, revF, popF, Nat.zero_add, Nat.reduceAdd, is_NoneType_int, is_NoneType_bool, is_NoneType_str, is_NoneType_tuple, is_NoneType_list, is_bool_int, is_bool_bool, is_bool_str, is_bool_tuple, is_bool_list, is_int_int, is_int_bool, is_int_str, is_int_tuple, is_int_list, is_str_int, is_str_bool, is_str_str, is_str_tuple, is_str_list, is_tuple_int, is_tuple_bool, is_tuple_str, is_tuple_tuple, is_tuple_list, is_list_int, is_list_bool, is_list_str, is_list_tuple, is_list_list, strF, dDct, repLF, is_dict_int, is_dict_bool, is_dict_str, is_dict_tuple, is_dict_list, is_dict_dict, is_NoneType_dict, is_bool_dict, is_int_dict, is_str_dict, is_tuple_dict, is_list_dict]
      exact draw_tail h1 h2 h3
  · simp only [hz, dOp, dUn, dVar, dC, slot, startE, List.map, List.length, List.replicate, List.append, List.cons_append, List.nil_append, List.set, dAnd, dOr, dNot, dtB, dtAnd, dtOr, dtNot, dIf, dtTru, truF, dNil, dCons, dTup, dLst, dCB, sNil, sSeq, sRet, sRetN, sExpr, sIf, sAsg, gN, gT, gsNil, gsCons, gS, sPar, sAug, sWhile, sFor, sBrk, sCont, sNo, sRaise, dCallP, dCallD, eqF, neF, ltF, leF, gtF, geF, isF, notF, addF, subF, mulF, fdivF, modF, powF, negF, ixF, lenF, tupF, lstF, absF, intF, gcdF, maxF, minF, Rs.to, dIsi, dIsi2, dIsE, tyN, D.isNon, dM1, dM0, srcSeq, srcRng1, srcRng2, dLc, tYesD, iaddF, isBF, notBF, srcZip, srcEnumerate, repF, sumF, allF, anyF, intsOf_map, blsOf_map, dSl, dPart, dNoPart, sliceF, drD, at0, at1, at2, at3, at4, ix0, ix1, ix2, ix3, Dn.g0, Dn.g1, Dn.g2, Dn.g3, Dn.g4, ex_some, decide_true, decide_false, Bool.not_true, Bool.not_false, ite_true, ite_false, if_true, if_false, List.reverse_cons, List.reverse_nil, outPost, wipeE, CTg.set, setAll, appF, extF, revF, popF, Nat.zero_add, Nat.reduceAdd, is_NoneType_int, is_NoneType_bool, is_NoneType_str, is_NoneType_tuple, is_NoneType_list, is_bool_int, is_bool_bool, is_bool_str, is_bool_tuple, is_bool_list, is_int_int, is_int_bool, is_int_str, is_int_tuple, is_int_list, is_str_int, is_str_bool, is_str_str, is_str_tuple, is_str_list, is_tuple_int, is_tuple_bool, is_tuple_str, is_tuple_tuple, is_tuple_list, is_list_int, is_list_bool, is_list_str, is_list_tuple, is_list_list, strF, dDct, repLF, is_dict_int, is_dict_bool, is_dict_str, is_dict_tuple, is_dict_list, is_dict_dict, is_NoneType_dict, is_bool_dict, is_int_dict, is_str_dict, is_tuple_dict, is_list_dict]
    exact draw_tail h1 h2 h3

theorem ok__law_draw (T : Txt K mg) : Ok P w K mg base 1 "_law_draw" ["draws", "limit"] (spD K sp__law_draw) :=
  okOf T.d__law_draw fun f fd F => fnD (k := 0) sp__law_draw t__law_draw F sc__law_draw (fun x ds s hp => len__law_draw x ds s hp) (fun cdv A outer s H E hr z => by
    have hu := hr.units; have hnd := sc__law_draw.nd
    unfold t__law_draw r__law_draw_0 r__law_draw_1 r__law_draw_2 r__law_draw_3
    exact (dss_cons (ds_if (dw_pt (dw_and (dt_cmp (op_eqA hu) od_eq (de_ix (de_var 0 rfl (by walk_at "vis") (by decide) (by decide)) de_int (fun _ _ => rfl)) de_int (nomark _)) (dw_and1 (dt_cmp op_lt od_lt (de_ix (de_var 0 rfl (by walk_at "vis") (by decide) (by decide)) de_int (fun _ _ => rfl)) (de_callB (f := lenF) call_len_seq cd_len rfl T.b_len (by decide +kernel) (da_cons (de_ix (de_var 0 rfl (by walk_at "vis") (by decide) (by decide)) de_int (fun _ _ => rfl)) da_nil rfl) (by decide) (by decide) rfl rfl) (nomark _))))) (dss_cons (ds_set 2 hnd rfl (by walk_at "locs") (de_ix (de_ix (de_var 0 rfl (by walk_at "vis") (by decide) (by decide)) de_int (fun _ _ => rfl)) (de_ix (de_var 0 rfl (by walk_at "vis") (by decide) (by decide)) de_int (fun _ _ => rfl)) (fun _ _ => rfl)) rfl (by walk_at "fnn"))
    (dss_cons (ds_asg (de_add (de_ix (de_var 0 rfl (by walk_at "vis") (by decide) (by decide)) de_int (fun _ _ => rfl)) de_int) (dg_sub (de_var 0 rfl (by walk_at "vis") (by decide) (by decide)) de_int (fun _ => rfl)) rfl rfl rfl)
    (dss_cons (ds_if (dt_cmp op_ge od_ge (de_var 2 rfl (by walk_at "vis") (by decide) (by decide)) (de_pow de_int de_int) (nomark _)) (dss_one (ds_asg (de_var 2 rfl (by walk_at "vis") (by decide) (by decide)) (dg_sub (de_var 0 rfl (by walk_at "vis") (by decide) (by decide)) de_int (fun _ => rfl)) rfl rfl rfl)) dss_nil)
    (dss_one (ds_asg (de_mod (de_callTy (f := intF) call_int1 cd_int rfl T.b_int (by decide +kernel) (da_cons (de_add (de_add (de_mul (de_ix (de_var 0 rfl (by walk_at "vis") (by decide) (by decide)) de_int (fun _ _ => rfl)) de_int) (de_var 2 rfl (by walk_at "vis") (by decide) (by decide))) de_int) da_nil rfl) (by decide) (by decide) rfl rfl) de_int) (dg_sub (de_var 0 rfl (by walk_at "vis") (by decide) (by decide)) de_int (fun _ => rfl)) rfl rfl rfl))))) dss_nil)
    (dss_cons (ds_if (dt_cmp op_gt od_gt (de_ix (de_var 0 rfl (by walk_at "vis") (by decide) (by decide)) de_int (fun _ _ => rfl)) de_int (nomark _)) (dss_cons (ds_set 3 hnd rfl (by walk_at "locs") (de_mod (de_callTy (f := intF) call_int1 cd_int rfl T.b_int (by decide +kernel) (da_cons (de_ix (de_var 0 rfl (by walk_at "vis") (by decide) (by decide)) de_int (fun _ _ => rfl)) da_nil rfl) (by decide) (by decide) rfl rfl) (de_var 1 rfl (by walk_at "vis") (by decide) (by decide))) rfl (by walk_at "fnn"))
    (dss_cons (ds_asg (de_fdiv (de_ix (de_var 0 rfl (by walk_at "vis") (by decide) (by decide)) de_int (fun _ _ => rfl)) (de_var 1 rfl (by walk_at "vis") (by decide) (by decide))) (dg_sub (de_var 0 rfl (by walk_at "vis") (by decide) (by decide)) de_int (fun _ => rfl)) rfl rfl rfl)
    (dss_one (ds_ret (de_var 3 rfl (by walk_at "vis") (by decide) (by decide)))))) dss_nil)
    (dss_cons (ds_asg (de_mod (de_callTy (f := intF) call_int1 cd_int rfl T.b_int (by decide +kernel) (da_cons (de_add (de_mul (de_ix (de_var 0 rfl (by walk_at "vis") (by decide) (by decide)) de_int (fun _ _ => rfl)) de_int) de_int) da_nil rfl) (by decide) (by decide) rfl rfl) de_int) (dg_sub (de_var 0 rfl (by walk_at "vis") (by decide) (by decide)) de_int (fun _ => rfl)) rfl rfl rfl)
    (dss_one (ds_ret (de_mod (de_callTy (f := intF) call_int1 cd_int rfl T.b_int (by decide +kernel) (da_cons (de_fdiv (de_ix (de_var 0 rfl (by walk_at "vis") (by decide) (by decide)) de_int (fun _ _ => rfl)) de_int) da_nil rfl) (by decide) (by decide) rfl rfl) (de_var 1 rfl (by walk_at "vis") (by decide) (by decide))))))))) w__law_draw
/-! ### _law_near -/
def sp__law_near : SpcD Int where
  pre := fun x ds s => ds = [.int x] ∧ 0 ≤ x ∧ x ≤ 10 ^ 20 ∧ 0 ≤ s.a
  res := fun x o s' => ∃ v : Int, o = .val (.int v) ∧ -x ≤ v ∧ v ≤ x ∧ 0 ≤ s'.a

def r__law_near_0 : dS :=
  (sRet (dOp subF (dCallD sp__law_draw (dCons (dVar 0) (dCons (dOp addF (dOp mulF (dC (.int 2)) (dVar 1)) (dC (.int 1))) dNil))) (dVar 1)))
def t__law_near : dS :=
  (r__law_near_0)
theorem len__law_near : ∀ x ds s, sp__law_near.pre x ds s → ds.length + 1 = 2 := fun x ds s h => by rw [h.1]; rfl
theorem w__law_near : ∀ x ds s, sp__law_near.pre x ds s → t__law_near (endD sp__law_near x s.c) (startE nm__law_near.length (.ref 0 :: ds)) [.lst (drD 1 s), .lst (s.c.map .int)] := by
  rintro x ds s ⟨rfl, h1, h2, h3⟩
  simp only [t__law_near, nm__law_near, r__law_near_0, dOp, dUn, dVar, dC, slot, startE, List.map, List.length, List.replicate, List.append, List.cons_append, List.nil_append, List.set, dAnd, dOr, dNot, dtB, dtAnd, dtOr, dtNot, dIf, dtTru, truF, dNil, dCons, dTup, dLst, dCB, sNil, sSeq, sRet, sRetN, sExpr, sIf, sAsg, gN, gT, gsNil, gsCons, gS, sPar, sAug, sWhile, sFor, sBrk, sCont, sNo, sRaise, dCallP_eq, dCallD_eq, List.length_map, List.getElem?_cons_succ, List.getElem?_concat_length, set_last, get_mid, get_mid2, eqF, neF, ltF, leF, gtF, geF, isF, notF, addF, subF, mulF, fdivF, modF, powF, negF, ixF, lenF, tupF, lstF, absF, intF, gcdF, maxF, minF, Rs.to, dIsi, dIsi2, dIsE, tyN, D.isNon, dM1, dM0, srcSeq, srcRng1, srcRng2, dLc, tYesD, iaddF, isBF, notBF, srcZip, srcEnumerate, repF, sumF, allF, anyF, intsOf_map, blsOf_map, dSl, dPart, dNoPart, sliceF, at0, at1, at2, at3, at4, ix0, ix1, ix2, ix3, Dn.g0, Dn.g1, Dn.g2, Dn.g3, Dn.g4, ex_some, decide_true, decide_false, Bool.not_true, Bool.not_false, ite_true, ite_false, if_true, if_false, List.reverse_cons, List.reverse_nil, outPost, wipeE, CTg.set, setAll, appF, extF, revF, popF, Nat.zero_add, Nat.reduceAdd, is_NoneType_int, is_NoneType_bool, is_NoneType_str, is_NoneType_tuple, is_NoneType_list, is_bool_int, is_bool_bool, is_bool_str, is_bool_tuple, is_bool_list, is_int_int, is_int_bool, is_int_str, is_int_tuple, is_int_list, is_str_int, is_str_bool, is_str_str, is_str_tuple, is_str_list, is_tuple_int, is_tuple_bool, is_tuple_str, is_tuple_tuple, is_tuple_list, is_list_int, is_list_bool, is_list_str, is_list_tuple, is_list_list, strF, dDct, repLF, is_dict_int, is_dict_bool, is_dict_str, is_dict_tuple, is_dict_list, is_dict_dict, is_NoneType_dict, is_bool_dict, is_int_dict, is_str_dict, is_tuple_dict, is_list_dict]
  refine ⟨bt_mulr' (by decide), ?_⟩
  refine useD_01 (2 * x + 1) rfl rfl ⟨rfl, by omega, bt_lit (by omega) (by decide), h3⟩ ?_
  rintro o s1 ⟨v, rfl, v0, v1, a1⟩ hc1
  refine ⟨_, rfl, ?_⟩
  simp only [dOp, dUn, dVar, dC, slot, startE, List.map, List.length, List.replicate, List.append, List.cons_append, List.nil_append, List.set, dAnd, dOr, dNot, dtB, dtAnd, dtOr, dtNot, dIf, dtTru, truF, dNil, dCons, dTup, dLst, dCB, sNil, sSeq, sRet, sRetN, sExpr, sIf, sAsg, gN, gT, gsNil, gsCons, gS, sPar, sAug, sWhile, sFor, sBrk, sCont, sNo, sRaise, dCallP_eq, dCallD_eq, List.length_map, List.getElem?_cons_succ, List.getElem?_concat_length, set_last, get_mid, get_mid2, eqF, neF, ltF, leF, gtF, geF, isF, notF, addF, subF, mulF, fdivF, modF, powF, negF, ixF, lenF, tupF, lstF, absF, intF, gcdF, maxF, minF, Rs.to, dIsi, dIsi2, dIsE, tyN, D.isNon, dM1, dM0, srcSeq, srcRng1, srcRng2, dLc, tYesD, iaddF, isBF, notBF, srcZip, srcEnumerate, repF, sumF, allF, anyF, intsOf_map, blsOf_map, dSl, dPart, dNoPart, sliceF, at0, at1, at2, at3, at4, ix0, ix1, ix2, ix3, Dn.g0, Dn.g1, Dn.g2, Dn.g3, Dn.g4, ex_some, decide_true, decide_false, Bool.not_true, Bool.not_false, ite_true, ite_false, if_true, if_false, List.reverse_cons, List.reverse_nil, outPost, wipeE, CTg.set, setAll, appF, extF, revF, popF, Nat.zero_add, Nat.reduceAdd, is_NoneType_int, is_NoneType_bool, is_NoneType_str, is_NoneType_tuple, is_NoneType_list, is_bool_int, is_bool_bool, is_bool_str, is_bool_tuple, is_bool_list, is_int_int, is_int_bool, is_int_str, is_int_tuple, is_int_list, is_str_int, is_str_bool, is_str_str, is_str_tuple, is_str_list, is_tuple_int, is_tuple_bool, is_tuple_str, is_tuple_tuple, is_tuple_list, is_list_int, is_list_bool, is_list_str, is_list_tuple, is_list_list, strF, dDct, repLF, is_dict_int, is_dict_bool, is_dict_str, is_dict_tuple, is_dict_list, is_dict_dict, is_NoneType_dict, is_bool_dict, is_int_dict, is_str_dict, is_tuple_dict, is_list_dict]
  exact rtD_val s1 hc1 rfl rfl rfl ⟨_, rfl, by omega, by omega, a1⟩

theorem ok__law_near (T : Txt K mg) : Ok P w K mg base 2 "_law_near" ["draws", "most"] (spD K sp__law_near) :=
  okOf T.d__law_near fun f fd F => fnD (k := 1) sp__law_near t__law_near F sc__law_near (fun x ds s hp => len__law_near x ds s hp) (fun cdv A outer s H E hr z => by
    have hu := hr.units; have hnd := sc__law_near.nd
    unfold t__law_near r__law_near_0
    exact (dss_one (ds_ret (de_minus (dn_callD ((ok__law_draw (P := P) (w := w) (base := base) T).mono (by decide)) hr (takes_of rfl rfl rfl rfl) rfl (by decide) (da_cons (de_var 0 rfl (by walk_at "vis") (by decide) (by decide)) (da_cons (de_add (de_mul de_int (de_var 1 rfl (by walk_at "vis") (by decide) (by decide))) de_int) da_nil rfl) rfl) rfl rfl) (de_var 1 rfl (by walk_at "vis") (by decide) (by decide)))))) w__law_near
/-! ### _law_low -/
def sp__law_low : Spc (List Int × Int) where
  pre := fun x ds => ds = [.lst ((x.1 ++ [x.2]).map .int)] ∧ Lb 4000 (x.1 ++ [x.2]) ∧ 0 < x.2
  res := fun x o => o = .val (tI ((x.1 ++ [x.2]).map fun y => y.fdiv (gcdL (x.1 ++ [x.2]) : Int)))
  exc := fun _ _ => False

def l1__law_low_0 : dS :=
  (sAsg (dCallP sp__law_gcd (dCons (dVar 1) (dCons (dVar 2) dNil))) (gN 1))
def r__law_low_3 : dS :=
  (sRet (dCB tupF (dCons (dLc (srcSeq (dVar 0)) (.one 2) [2] tYesD (dOp fdivF (dVar 2) (dVar 1))) dNil)))
def r__law_low_2 : dS :=
  (sSeq (sIf (dtB (dOp ltF (dOp ixF (dVar 0) (dUn negF (dC (.int 1)))) (dC (.int 0)))) (sAsg (dUn negF (dVar 1)) (gN 1)) sNil) (r__law_low_3))
def r__law_low_1 : dS :=
  (sSeq (sFor (srcSeq (dVar 0)) (gN 2) (l1__law_low_0)) (r__law_low_2))
def r__law_low_0 : dS :=
  (sSeq (sAsg (dC (.int 0)) (gN 1)) (r__law_low_1))
def t__law_low : dS :=
  (r__law_low_0)
theorem len__law_low : ∀ x ds, sp__law_low.pre x ds → ds.length = 1 := fun x ds h => by rw [h.1]; rfl
theorem w__law_low : ∀ x ds, sp__law_low.pre x ds → t__law_low (endP sp__law_low x) (startE nm__law_low.length ds) [] := by
  rintro ⟨l, r⟩ ds ⟨rfl, ha, hr⟩
  simp only at ha hr
  show t__law_low (endP sp__law_low (l, r)) (startE nm__law_low.length [.lst ((l ++ [r]).map .int)]) []
  have hres : ∀ o, o = Out.val (tI ((l ++ [r]).map fun y => y.fdiv (gcdL (l ++ [r]) : Int))) → (sp__law_low).res (l, r) o := fun o h => h
  generalize hx : l ++ [r] = a at ha hres ⊢
  have hg : gcdL a ≠ 0 := by
    rw [← hx]; unfold gcdL; rw [List.foldl_append]
    have := Nat.gcd_pos_of_pos_right (l.foldl (fun g x => Nat.gcd g x.natAbs) 0) (show 0 < r.natAbs by omega)
    show Nat.gcd _ r.natAbs ≠ 0
    omega
  simp only [t__law_low , r__law_low_0, r__law_low_1, nm__law_low, dOp, dUn, dVar, dC, slot, startE, List.map, List.length, List.replicate, List.append, List.cons_append, List.nil_append, List.set, dAnd, dOr, dNot, dtB, dtAnd, dtOr, dtNot, dIf, dtTru, truF, dNil, dCons, dTup, dLst, dCB, sNil, sSeq, sRet, sRetN, sExpr, sIf, sAsg, gN, gT, gsNil, gsCons, gS, sPar, sAug, sWhile, sFor, sBrk, sCont, sNo, sRaise, dCallP_eq, dCallD_eq, List.length_map, List.getElem?_cons_succ, List.getElem?_concat_length, set_last, get_mid, get_mid2, eqF, neF, ltF, leF, gtF, geF, isF, notF, addF, subF, mulF, fdivF, modF, powF, negF, ixF, lenF, tupF, lstF, absF, intF, gcdF, maxF, minF, Rs.to, dIsi, dIsi2, dIsE, tyN, D.isNon, dM1, dM0, srcSeq, srcRng1, srcRng2, dLc, tYesD, iaddF, isBF, notBF, srcZip, srcEnumerate, repF, sumF, allF, anyF, intsOf_map, blsOf_map, dSl, dPart, dNoPart, sliceF, at0, at1, at2, at3, at4, ix0, ix1, ix2, ix3, Dn.g0, Dn.g1, Dn.g2, Dn.g3, Dn.g4, ex_some, decide_true, decide_false, Bool.not_true, Bool.not_false, ite_true, ite_false, if_true, if_false, List.reverse_cons, List.reverse_nil, outPost, wipeE, CTg.set, setAll, appF, extF, revF, popF, Nat.zero_add, Nat.reduceAdd, is_NoneType_int, is_NoneType_bool, is_NoneType_str, is_NoneType_tuple, is_NoneType_list, is_bool_int, is_bool_bool, is_bool_str, is_bool_tuple, is_bool_list, is_int_int, is_int_bool, is_int_str, is_int_tuple, is_int_list, is_str_int, is_str_bool, is_str_str, is_str_tuple, is_str_list, is_tuple_int, is_tuple_bool, is_tuple_str, is_tuple_tuple, is_tuple_list, is_list_int, is_list_bool, is_list_str, is_list_tuple, is_list_list, strF, dDct, repLF, is_dict_int, is_dict_bool, is_dict_str, is_dict_tuple, is_dict_list, is_dict_dict, is_NoneType_dict, is_bool_dict, is_int_dict, is_str_dict, is_tuple_dict, is_list_dict]
  refine ⟨fun i e h => (∃ u, e = [some (.lst (a.map .int)), some (.int (gcdL (a.take i))), u]) ∧ h = [], ⟨⟨_, rfl⟩, rfl⟩, fun _ _ _ _ _ => trivial, ?_, ?_⟩
  · rintro i x e h hx ⟨⟨u, rfl⟩, rfl⟩
    obtain ⟨hi, rfl⟩ := mapi_at hx
    simp only [l1__law_low_0, dOp, dUn, dVar, dC, slot, startE, List.map, List.length, List.replicate, List.append, List.cons_append, List.nil_append, List.set, dAnd, dOr, dNot, dtB, dtAnd, dtOr, dtNot, dIf, dtTru, truF, dNil, dCons, dTup, dLst, dCB, sNil, sSeq, sRet, sRetN, sExpr, sIf, sAsg, gN, gT, gsNil, gsCons, gS, sPar, sAug, sWhile, sFor, sBrk, sCont, sNo, sRaise, dCallP_eq, dCallD_eq, List.length_map, List.getElem?_cons_succ, List.getElem?_concat_length, set_last, get_mid, get_mid2, eqF, neF, ltF, leF, gtF, geF, isF, notF, addF, subF, mulF, fdivF, modF, powF, negF, ixF, lenF, tupF, lstF, absF, intF, gcdF, maxF, minF, Rs.to, dIsi, dIsi2, dIsE, tyN, D.isNon, dM1, dM0, srcSeq, srcRng1, srcRng2, dLc, tYesD, iaddF, isBF, notBF, srcZip, srcEnumerate, repF, sumF, allF, anyF, intsOf_map, blsOf_map, dSl, dPart, dNoPart, sliceF, at0, at1, at2, at3, at4, ix0, ix1, ix2, ix3, Dn.g0, Dn.g1, Dn.g2, Dn.g3, Dn.g4, ex_some, decide_true, decide_false, Bool.not_true, Bool.not_false, ite_true, ite_false, if_true, if_false, List.reverse_cons, List.reverse_nil, outPost, wipeE, CTg.set, setAll, appF, extF, revF, popF, Nat.zero_add, Nat.reduceAdd, is_NoneType_int, is_NoneType_bool, is_NoneType_str, is_NoneType_tuple, is_NoneType_list, is_bool_int, is_bool_bool, is_bool_str, is_bool_tuple, is_bool_list, is_int_int, is_int_bool, is_int_str, is_int_tuple, is_int_list, is_str_int, is_str_bool, is_str_str, is_str_tuple, is_str_list, is_tuple_int, is_tuple_bool, is_tuple_str, is_tuple_tuple, is_tuple_list, is_list_int, is_list_bool, is_list_str, is_list_tuple, is_list_list, strF, dDct, repLF, is_dict_int, is_dict_bool, is_dict_str, is_dict_tuple, is_dict_list, is_dict_dict, is_NoneType_dict, is_bool_dict, is_int_dict, is_str_dict, is_tuple_dict, is_list_dict]
    refine useP_val (_, _) _ rfl rfl (fun o q => q) (fun ex q => q) ?_
    refine ⟨⟨some (.int (a.getD i 0)), ?_⟩, rfl⟩
    rw [gcdL_at hi]; rfl
  · rintro e h ⟨⟨u, rfl⟩, rfl⟩
    have e1 : atI (a.map D.int) (-1) = some (.int r) := by rw [← hx]; exact at_lasti
    have hn : ¬ r < 0 := by omega
    rw [List.take_length]
    simp only [r__law_low_2, r__law_low_3, e1, hn, dOp, dUn, dVar, dC, slot, startE, List.map, List.length, List.replicate, List.append, List.cons_append, List.nil_append, List.set, dAnd, dOr, dNot, dtB, dtAnd, dtOr, dtNot, dIf, dtTru, truF, dNil, dCons, dTup, dLst, dCB, sNil, sSeq, sRet, sRetN, sExpr, sIf, sAsg, gN, gT, gsNil, gsCons, gS, sPar, sAug, sWhile, sFor, sBrk, sCont, sNo, sRaise, dCallP_eq, dCallD_eq, List.length_map, List.getElem?_cons_succ, List.getElem?_concat_length, set_last, get_mid, get_mid2, eqF, neF, ltF, leF, gtF, geF, isF, notF, addF, subF, mulF, fdivF, modF, powF, negF, ixF, lenF, tupF, lstF, absF, intF, gcdF, maxF, minF, Rs.to, dIsi, dIsi2, dIsE, tyN, D.isNon, dM1, dM0, srcSeq, srcRng1, srcRng2, dLc, tYesD, iaddF, isBF, notBF, srcZip, srcEnumerate, repF, sumF, allF, anyF, intsOf_map, blsOf_map, dSl, dPart, dNoPart, sliceF, at0, at1, at2, at3, at4, ix0, ix1, ix2, ix3, Dn.g0, Dn.g1, Dn.g2, Dn.g3, Dn.g4, ex_some, decide_true, decide_false, Bool.not_true, Bool.not_false, ite_true, ite_false, if_true, if_false, List.reverse_cons, List.reverse_nil, outPost, wipeE, CTg.set, setAll, appF, extF, revF, popF, Nat.zero_add, Nat.reduceAdd, is_NoneType_int, is_NoneType_bool, is_NoneType_str, is_NoneType_tuple, is_NoneType_list, is_bool_int, is_bool_bool, is_bool_str, is_bool_tuple, is_bool_list, is_int_int, is_int_bool, is_int_str, is_int_tuple, is_int_list, is_str_int, is_str_bool, is_str_str, is_str_tuple, is_str_list, is_tuple_int, is_tuple_bool, is_tuple_str, is_tuple_tuple, is_tuple_list, is_list_int, is_list_bool, is_list_str, is_list_tuple, is_list_list, strF, dDct, repLF, is_dict_int, is_dict_bool, is_dict_str, is_dict_tuple, is_dict_list, is_dict_dict, is_NoneType_dict, is_bool_dict, is_int_dict, is_str_dict, is_tuple_dict, is_list_dict]
    have gb := gcdL_bt (m := 4000) ha.2
    refine ⟨fun i acc h => acc = ((a.take i).map fun x => x.fdiv (gcdL a : Int)).map .int ∧ h = [], ⟨rfl, rfl⟩, fun _ _ _ _ _ => trivial, ?_, ?_⟩
    · rintro i x acc h hx ⟨rfl, rfl⟩
      obtain ⟨hi, rfl⟩ := mapi_at hx
      simp only [dOp, dUn, dVar, dC, slot, startE, List.map, List.length, List.replicate, List.append, List.cons_append, List.nil_append, List.set, dAnd, dOr, dNot, dtB, dtAnd, dtOr, dtNot, dIf, dtTru, truF, dNil, dCons, dTup, dLst, dCB, sNil, sSeq, sRet, sRetN, sExpr, sIf, sAsg, gN, gT, gsNil, gsCons, gS, sPar, sAug, sWhile, sFor, sBrk, sCont, sNo, sRaise, dCallP_eq, dCallD_eq, List.length_map, List.getElem?_cons_succ, List.getElem?_concat_length, set_last, get_mid, get_mid2, eqF, neF, ltF, leF, gtF, geF, isF, notF, addF, subF, mulF, fdivF, modF, powF, negF, ixF, lenF, tupF, lstF, absF, intF, gcdF, maxF, minF, Rs.to, dIsi, dIsi2, dIsE, tyN, D.isNon, dM1, dM0, srcSeq, srcRng1, srcRng2, dLc, tYesD, iaddF, isBF, notBF, srcZip, srcEnumerate, repF, sumF, allF, anyF, intsOf_map, blsOf_map, dSl, dPart, dNoPart, sliceF, at0, at1, at2, at3, at4, ix0, ix1, ix2, ix3, Dn.g0, Dn.g1, Dn.g2, Dn.g3, Dn.g4, ex_some, decide_true, decide_false, Bool.not_true, Bool.not_false, ite_true, ite_false, if_true, if_false, List.reverse_cons, List.reverse_nil, outPost, wipeE, CTg.set, setAll, appF, extF, revF, popF, Nat.zero_add, Nat.reduceAdd, is_NoneType_int, is_NoneType_bool, is_NoneType_str, is_NoneType_tuple, is_NoneType_list, is_bool_int, is_bool_bool, is_bool_str, is_bool_tuple, is_bool_list, is_int_int, is_int_bool, is_int_str, is_int_tuple, is_int_list, is_str_int, is_str_bool, is_str_str, is_str_tuple, is_str_list, is_tuple_int, is_tuple_bool, is_tuple_str, is_tuple_tuple, is_tuple_list, is_list_int, is_list_bool, is_list_str, is_list_tuple, is_list_list, strF, dDct, repLF, is_dict_int, is_dict_bool, is_dict_str, is_dict_tuple, is_dict_list, is_dict_dict, is_NoneType_dict, is_bool_dict, is_int_dict, is_str_dict, is_tuple_dict, is_list_dict]
      refine ⟨bt_div (bt_mono gb (by decide)) (by omega), sl2 (by have := ha.1; simp; omega), ?_, trivial⟩
      rw [take_at hi]; simp
    · rintro acc h ⟨rfl, rfl⟩
      simp only [List.length_map, List.take_length, dOp, dUn, dVar, dC, slot, startE, List.map, List.length, List.replicate, List.append, List.cons_append, List.nil_append, List.set, dAnd, dOr, dNot, dtB, dtAnd, dtOr, dtNot, dIf, dtTru, truF, dNil, dCons, dTup, dLst, dCB, sNil, sSeq, sRet, sRetN, sExpr, sIf, sAsg, gN, gT, gsNil, gsCons, gS, sPar, sAug, sWhile, sFor, sBrk, sCont, sNo, sRaise, dCallP_eq, dCallD_eq, List.length_map, List.getElem?_cons_succ, List.getElem?_concat_length, set_last, get_mid, get_mid2, eqF, neF, ltF, leF, gtF, geF, isF, notF, addF, subF, mulF, fdivF, modF, powF, negF, ixF, lenF, tupF, lstF, absF, intF, gcdF, maxF, minF, Rs.to, dIsi, dIsi2, dIsE, tyN, D.isNon, dM1, dM0, srcSeq, srcRng1, srcRng2, dLc, tYesD, iaddF, isBF, notBF, srcZip, srcEnumerate, repF, sumF, allF, anyF, intsOf_map, blsOf_map, dSl, dPart, dNoPart, sliceF, at0, at1, at2, at3, at4, ix0, ix1, ix2, ix3, Dn.g0, Dn.g1, Dn.g2, Dn.g3, Dn.g4, ex_some, decide_true, decide_false, Bool.not_true, Bool.not_false, ite_true, ite_false, if_true, if_false, List.reverse_cons, List.reverse_nil, outPost, wipeE, CTg.set, setAll, appF, extF, revF, popF, Nat.zero_add, Nat.reduceAdd, is_NoneType_int, is_NoneType_bool, is_NoneType_str, is_NoneType_tuple, is_NoneType_list, is_bool_int, is_bool_bool, is_bool_str, is_bool_tuple, is_bool_list, is_int_int, is_int_bool, is_int_str, is_int_tuple, is_int_list, is_str_int, is_str_bool, is_str_str, is_str_tuple, is_str_list, is_tuple_int, is_tuple_bool, is_tuple_str, is_tuple_tuple, is_tuple_list, is_list_int, is_list_bool, is_list_str, is_list_tuple, is_list_list, strF, dDct, repLF, is_dict_int, is_dict_bool, is_dict_str, is_dict_tuple, is_dict_list, is_dict_dict, is_NoneType_dict, is_bool_dict, is_int_dict, is_str_dict, is_tuple_dict, is_list_dict]
      exact rt_val (ints_pure _) (hres _ rfl)

theorem ok__law_low (T : Txt K mg) : Ok P w K mg base 2 "_law_low" ["numbers"] (spP K mg sp__law_low) :=
  okOf T.d__law_low fun f fd F => fnP (k := 1) sp__law_low t__law_low F sc__law_low (fun x ds hp => len__law_low x ds hp) (fun cdv A outer s H E hr z => by
    have hu := hr.units; have hnd := sc__law_low.nd
    unfold t__law_low r__law_low_0 r__law_low_1 r__law_low_2 r__law_low_3 l1__law_low_0
    exact (dss_cons (ds_set 1 hnd rfl (by walk_at "locs") de_int rfl (by walk_at "fnn"))
    (dss_cons (ds_for (passes_of (K := fun e s'' => L2.CX P w outer H s E e s'') (E₁ := fun e s'' => L2.CX P w outer H s E e s'') rfl) rfl (di_seq (de_var 0 rfl (by walk_at "vis") (by decide) (by decide))) (dg_name 2 hnd rfl (by walk_at "locs") (by walk_at "fnn")) (dss_one (ds_set 1 hnd rfl (by walk_at "locs") (dn_callP ((ok__law_gcd (P := P) (w := w) (base := base) T).mono (by decide)) hr (takes_of rfl rfl rfl rfl) rfl (by decide) (da_cons (de_var 1 rfl (by walk_at "vis") (by decide) (by decide)) (da_cons (de_var 2 rfl (by walk_at "vis") (by decide) (by decide)) da_nil rfl) rfl) rfl rfl) rfl (by walk_at "fnn"))) (fun _ => rfl))
    (dss_cons (ds_if (dt_cmp op_lt od_lt (de_ix (de_var 0 rfl (by walk_at "vis") (by decide) (by decide)) (de_neg de_int) (fun _ _ => rfl)) de_int (nomark _)) (dss_one (ds_set 1 hnd rfl (by walk_at "locs") (de_neg (de_var 1 rfl (by walk_at "vis") (by decide) (by decide))) rfl (by walk_at "fnn"))) dss_nil)
    (dss_one (ds_ret (de_callTy (f := tupF) call_tuple_of cd_tup rfl T.b_tuple (by decide +kernel) (da_cons (de_lc (own := [("number", 2)]) (c := (.one 2)) (tt := tYesD) (te := (dOp fdivF (dVar 2) (dVar 1))) rfl hnd (di_seq (de_var 0 rfl (by walk_at "vis") (by decide) (by decide))) (blkOk_by (N := nm__law_low) (sc := defScope s__law_low) (by decide +kernel)) (by decide) (fun _ _ _ _ _ => pg_name (i := 2) hnd rfl (by walk_at "locs") (by walk_at "fnn")) (fun _ _ _ _ _ => dts_nil) (fun _ _ _ _ _ => (de_fdiv (de_var 2 rfl (by walk_at "vis") (by decide) (by decide)) (de_var 1 rfl (by walk_at "vis") (by decide) (by decide)))) (fun _ => rfl)) da_nil rfl) (by decide) (by decide) rfl rfl))))))) w__law_low
/-! ### ratio -/
def sp_ratio : Spc (Int × Int) where
  pre := fun x ds => ds = [.int x.1, .int x.2] ∧ Bt 8000 x.1 ∧ Bt 8000 x.2
  res := fun x o => x.2 ≠ 0 ∧ o = .val (rt x.1 x.2)
  exc := fun x ex => x.2 = 0 ∧ ex = ⟨"BadNumber", []⟩

def r_ratio_3 : dS :=
  (sRet (dTup (dCons (dOp fdivF (dVar 0) (dVar 2)) (dCons (dOp fdivF (dVar 1) (dVar 2)) dNil))))
def r_ratio_2 : dS :=
  (sSeq (sIf (dtB (dOp ltF (dVar 1) (dC (.int 0)))) (sAsg (dUn negF (dVar 2)) (gN 2)) sNil) (r_ratio_3))
def r_ratio_1 : dS :=
  (sSeq (sAsg (dCB gcdF (dCons (dVar 0) (dCons (dVar 1) dNil))) (gN 2)) (r_ratio_2))
def r_ratio_0 : dS :=
  (sSeq (sIf (dtB (dOp eqF (dVar 1) (dC (.int 0)))) (sRaise "BadNumber") sNil) (r_ratio_1))
def t_ratio : dS :=
  (r_ratio_0)
theorem len_ratio : ∀ x ds, sp_ratio.pre x ds → ds.length = 2 := fun x ds h => by rw [h.1]; rfl
theorem w_ratio : ∀ x ds, sp_ratio.pre x ds → t_ratio (endP sp_ratio x) (startE nm_ratio.length ds) [] := by
  rintro ⟨n, d⟩ ds ⟨rfl, h1, h2⟩
  simp only [t_ratio, nm_ratio, r_ratio_0, r_ratio_1, r_ratio_2, r_ratio_3, dOp, dUn, dVar, dC, slot, startE, List.map, List.length, List.replicate, List.append, List.cons_append, List.nil_append, List.set, dAnd, dOr, dNot, dtB, dtAnd, dtOr, dtNot, dIf, dtTru, truF, dNil, dCons, dTup, dLst, dCB, sNil, sSeq, sRet, sRetN, sExpr, sIf, sAsg, gN, gT, gsNil, gsCons, gS, sPar, sAug, sWhile, sFor, sBrk, sCont, sNo, sRaise, dCallP, dCallD, eqF, neF, ltF, leF, gtF, geF, isF, notF, addF, subF, mulF, fdivF, modF, powF, negF, ixF, lenF, tupF, lstF, absF, intF, gcdF, maxF, minF, Rs.to, dIsi, dIsi2, dIsE, tyN, D.isNon, dM1, dM0, srcSeq, srcRng1, srcRng2, dLc, tYesD, iaddF, isBF, notBF, srcZip, srcEnumerate, repF, sumF, allF, anyF, intsOf_map, blsOf_map, dSl, dPart, dNoPart, sliceF, drD, at0, at1, at2, at3, at4, ix0, ix1, ix2, ix3, Dn.g0, Dn.g1, Dn.g2, Dn.g3, Dn.g4, ex_some, decide_true, decide_false, Bool.not_true, Bool.not_false, ite_true, ite_false, if_true, if_false, List.reverse_cons, List.reverse_nil, outPost, wipeE, CTg.set, setAll, appF, extF, revF, popF, Nat.zero_add, Nat.reduceAdd, is_NoneType_int, is_NoneType_bool, is_NoneType_str, is_NoneType_tuple, is_NoneType_list, is_bool_int, is_bool_bool, is_bool_str, is_bool_tuple, is_bool_list, is_int_int, is_int_bool, is_int_str, is_int_tuple, is_int_list, is_str_int, is_str_bool, is_str_str, is_str_tuple, is_str_list, is_tuple_int, is_tuple_bool, is_tuple_str, is_tuple_tuple, is_tuple_list, is_list_int, is_list_bool, is_list_str, is_list_tuple, is_list_list, strF, dDct, repLF, is_dict_int, is_dict_bool, is_dict_str, is_dict_tuple, is_dict_list, is_dict_dict, is_NoneType_dict, is_bool_dict, is_int_dict, is_str_dict, is_tuple_dict, is_list_dict]
  by_cases hd : d = 0
  · simp [hd, endP, sp_ratio, pureX, pureDs]
  · have g1 := gcd_bt (n := n) hd h2
    have g2 := gcd_nz (n := n) hd
    by_cases hn : d < 0
    · simp only [hd, hn, dOp, dUn, dVar, dC, slot, startE, List.map, List.length, List.replicate, List.append, List.cons_append, List.nil_append, List.set, dAnd, dOr, dNot, dtB, dtAnd, dtOr, dtNot, dIf, dtTru, truF, dNil, dCons, dTup, dLst, dCB, sNil, sSeq, sRet, sRetN, sExpr, sIf, sAsg, gN, gT, gsNil, gsCons, gS, sPar, sAug, sWhile, sFor, sBrk, sCont, sNo, sRaise, dCallP, dCallD, eqF, neF, ltF, leF, gtF, geF, isF, notF, addF, subF, mulF, fdivF, modF, powF, negF, ixF, lenF, tupF, lstF, absF, intF, gcdF, maxF, minF, Rs.to, dIsi, dIsi2, dIsE, tyN, D.isNon, dM1, dM0, srcSeq, srcRng1, srcRng2, dLc, tYesD, iaddF, isBF, notBF, srcZip, srcEnumerate, repF, sumF, allF, anyF, intsOf_map, blsOf_map, dSl, dPart, dNoPart, sliceF, drD, at0, at1, at2, at3, at4, ix0, ix1, ix2, ix3, Dn.g0, Dn.g1, Dn.g2, Dn.g3, Dn.g4, ex_some, decide_true, decide_false, Bool.not_true, Bool.not_false, ite_true, ite_false, if_true, if_false, List.reverse_cons, List.reverse_nil, outPost, wipeE, CTg.set, setAll, appF, extF, revF, popF, Nat.zero_add, Nat.reduceAdd, is_NoneType_int, is_NoneType_bool, is_NoneType_str, is_NoneType_tuple, is_NoneType_list, is_bool_int, is_bool_bool, is_bool_str, is_bool_tuple, is_bool_list, is_int_int, is_int_bool, is_int_str, is_int_tuple, is_int_list, is_str_int, is_str_bool, is_str_str, is_str_tuple, is_str_list, is_tuple_int, is_tuple_bool, is_tuple_str, is_tuple_tuple, is_tuple_list, is_list_int, is_list_bool, is_list_str, is_list_tuple, is_list_list, strF, dDct, repLF, is_dict_int, is_dict_bool, is_dict_str, is_dict_tuple, is_dict_list, is_dict_dict, is_NoneType_dict, is_bool_dict, is_int_dict, is_str_dict, is_tuple_dict, is_list_dict]
      refine ⟨bt_div (bits_neg g1) (by omega), bt_div (bits_neg g1) (by omega), ?_⟩
      exact rt_val rfl ⟨hd, by simp [rt, nf1, nf2, sg, hn]⟩
    · simp only [hd, hn, dOp, dUn, dVar, dC, slot, startE, List.map, List.length, List.replicate, List.append, List.cons_append, List.nil_append, List.set, dAnd, dOr, dNot, dtB, dtAnd, dtOr, dtNot, dIf, dtTru, truF, dNil, dCons, dTup, dLst, dCB, sNil, sSeq, sRet, sRetN, sExpr, sIf, sAsg, gN, gT, gsNil, gsCons, gS, sPar, sAug, sWhile, sFor, sBrk, sCont, sNo, sRaise, dCallP, dCallD, eqF, neF, ltF, leF, gtF, geF, isF, notF, addF, subF, mulF, fdivF, modF, powF, negF, ixF, lenF, tupF, lstF, absF, intF, gcdF, maxF, minF, Rs.to, dIsi, dIsi2, dIsE, tyN, D.isNon, dM1, dM0, srcSeq, srcRng1, srcRng2, dLc, tYesD, iaddF, isBF, notBF, srcZip, srcEnumerate, repF, sumF, allF, anyF, intsOf_map, blsOf_map, dSl, dPart, dNoPart, sliceF, drD, at0, at1, at2, at3, at4, ix0, ix1, ix2, ix3, Dn.g0, Dn.g1, Dn.g2, Dn.g3, Dn.g4, ex_some, decide_true, decide_false, Bool.not_true, Bool.not_false, ite_true, ite_false, if_true, if_false, List.reverse_cons, List.reverse_nil, outPost, wipeE, CTg.set, setAll, appF, extF, revF, popF, Nat.zero_add, Nat.reduceAdd, is_NoneType_int, is_NoneType_bool, is_NoneType_str, is_NoneType_tuple, is_NoneType_list, is_bool_int, is_bool_bool, is_bool_str, is_bool_tuple, is_bool_list, is_int_int, is_int_bool, is_int_str, is_int_tuple, is_int_list, is_str_int, is_str_bool, is_str_str, is_str_tuple, is_str_list, is_tuple_int, is_tuple_bool, is_tuple_str, is_tuple_tuple, is_tuple_list, is_list_int, is_list_bool, is_list_str, is_list_tuple, is_list_list, strF, dDct, repLF, is_dict_int, is_dict_bool, is_dict_str, is_dict_tuple, is_dict_list, is_dict_dict, is_NoneType_dict, is_bool_dict, is_int_dict, is_str_dict, is_tuple_dict, is_list_dict]
      refine ⟨bt_div g1 (by omega), bt_div g1 (by omega), ?_⟩
      exact rt_val rfl ⟨hd, by simp [rt, nf1, nf2, sg, hn]⟩
theorem rt_pure (n d : Int) : pureD (rt n d) = true := rfl

theorem ok_ratio (T : Txt K mg) : Ok P w K mg base 1 "ratio" ["n", "d"] (spP K mg sp_ratio) :=
  okOf T.d_ratio fun f fd F => fnP (k := 0) sp_ratio t_ratio F sc_ratio (fun x ds hp => len_ratio x ds hp) (fun cdv A outer s H E hr z => by
    have hu := hr.units; have hnd := sc_ratio.nd
    unfold t_ratio r_ratio_0 r_ratio_1 r_ratio_2 r_ratio_3
    exact (dss_cons (ds_if (dt_cmp (op_eqA hu) od_eq (de_var 1 rfl (by walk_at "vis") (by decide) (by decide)) de_int (nomark _)) (dss_one (dn_raise T.x_BadNumber rfl (takes_of rfl rfl rfl rfl) rfl (by decide))) dss_nil)
    (dss_cons (ds_set 2 hnd rfl (by walk_at "locs") (de_callF (f := gcdF) cr_gcd cd_gcd rfl T.m_gcd (da_cons (de_var 0 rfl (by walk_at "vis") (by decide) (by decide)) (da_cons (de_var 1 rfl (by walk_at "vis") (by decide) (by decide)) da_nil rfl) rfl) (by decide) rfl rfl) rfl (by walk_at "fnn"))
    (dss_cons (ds_if (dt_cmp op_lt od_lt (de_var 1 rfl (by walk_at "vis") (by decide) (by decide)) de_int (nomark _)) (dss_one (ds_set 2 hnd rfl (by walk_at "locs") (de_neg (de_var 2 rfl (by walk_at "vis") (by decide) (by decide))) rfl (by walk_at "fnn"))) dss_nil)
    (dss_one (ds_ret (de_tup (da_cons (de_fdiv (de_var 0 rfl (by walk_at "vis") (by decide) (by decide)) (de_var 2 rfl (by walk_at "vis") (by decide) (by decide))) (da_cons (de_fdiv (de_var 1 rfl (by walk_at "vis") (by decide) (by decide)) (de_var 2 rfl (by walk_at "vis") (by decide) (by decide))) da_nil rfl) rfl) (by decide)))))))) w_ratio
/-! ### _law_ratio -/
def sp__law_ratio : Spc (Int × Int) where
  pre := fun x ds => ds = [.int x.1, .int x.2] ∧ Bt 8000 x.1 ∧ Bt 8000 x.2 ∧ x.2 ≠ 0
  res := fun x o => o = .val (rt x.1 x.2)
  exc := fun _ _ => False

def r__law_ratio_2 : dS :=
  (sRet (dTup (dCons (dOp fdivF (dVar 0) (dVar 2)) (dCons (dOp fdivF (dVar 1) (dVar 2)) dNil))))
def r__law_ratio_1 : dS :=
  (sSeq (sIf (dtB (dOp ltF (dVar 1) (dC (.int 0)))) (sAsg (dUn negF (dVar 2)) (gN 2)) sNil) (r__law_ratio_2))
def r__law_ratio_0 : dS :=
  (sSeq (sAsg (dCallP sp__law_gcd (dCons (dVar 0) (dCons (dVar 1) dNil))) (gN 2)) (r__law_ratio_1))
def t__law_ratio : dS :=
  (r__law_ratio_0)
theorem len__law_ratio : ∀ x ds, sp__law_ratio.pre x ds → ds.length = 2 := fun x ds h => by rw [h.1]; rfl
theorem w__law_ratio : ∀ x ds, sp__law_ratio.pre x ds → t__law_ratio (endP sp__law_ratio x) (startE nm__law_ratio.length ds) [] := by
  rintro ⟨n, d⟩ ds ⟨rfl, h1, h2, hd⟩
  simp only [t__law_ratio, nm__law_ratio, r__law_ratio_0, r__law_ratio_1, r__law_ratio_2, dOp, dUn, dVar, dC, slot, startE, List.map, List.length, List.replicate, List.append, List.cons_append, List.nil_append, List.set, dAnd, dOr, dNot, dtB, dtAnd, dtOr, dtNot, dIf, dtTru, truF, dNil, dCons, dTup, dLst, dCB, sNil, sSeq, sRet, sRetN, sExpr, sIf, sAsg, gN, gT, gsNil, gsCons, gS, sPar, sAug, sWhile, sFor, sBrk, sCont, sNo, sRaise, dCallP, dCallD, eqF, neF, ltF, leF, gtF, geF, isF, notF, addF, subF, mulF, fdivF, modF, powF, negF, ixF, lenF, tupF, lstF, absF, intF, gcdF, maxF, minF, Rs.to, dIsi, dIsi2, dIsE, tyN, D.isNon, dM1, dM0, srcSeq, srcRng1, srcRng2, dLc, tYesD, iaddF, isBF, notBF, srcZip, srcEnumerate, repF, sumF, allF, anyF, intsOf_map, blsOf_map, dSl, dPart, dNoPart, sliceF, drD, at0, at1, at2, at3, at4, ix0, ix1, ix2, ix3, Dn.g0, Dn.g1, Dn.g2, Dn.g3, Dn.g4, ex_some, decide_true, decide_false, Bool.not_true, Bool.not_false, ite_true, ite_false, if_true, if_false, List.reverse_cons, List.reverse_nil, outPost, wipeE, CTg.set, setAll, appF, extF, revF, popF, Nat.zero_add, Nat.reduceAdd, is_NoneType_int, is_NoneType_bool, is_NoneType_str, is_NoneType_tuple, is_NoneType_list, is_bool_int, is_bool_bool, is_bool_str, is_bool_tuple, is_bool_list, is_int_int, is_int_bool, is_int_str, is_int_tuple, is_int_list, is_str_int, is_str_bool, is_str_str, is_str_tuple, is_str_list, is_tuple_int, is_tuple_bool, is_tuple_str, is_tuple_tuple, is_tuple_list, is_list_int, is_list_bool, is_list_str, is_list_tuple, is_list_list, strF, dDct, repLF, is_dict_int, is_dict_bool, is_dict_str, is_dict_tuple, is_dict_list, is_dict_dict, is_NoneType_dict, is_bool_dict, is_int_dict, is_str_dict, is_tuple_dict, is_list_dict]
  refine ⟨(n, d), _, pure1 rfl, rfl, ?_, fun _ q => q.elim⟩
  rintro o rfl -
  simp only at h1 h2 hd
  have g1 := gcd_bt (n := n) hd h2
  have g2 := gcd_nz (n := n) hd
  by_cases hn : d < 0
  · simp [hn, outPost, dOp, dUn, dVar, dC, slot, startE, List.map, List.length, List.replicate, List.append, List.cons_append, List.nil_append, List.set, dAnd, dOr, dNot, dtB, dtAnd, dtOr, dtNot, dIf, dtTru, truF, dNil, dCons, dTup, dLst, dCB, sNil, sSeq, sRet, sRetN, sExpr, sIf, sAsg, gN, gT, gsNil, gsCons, gS, sPar, sAug, sWhile, sFor, sBrk, sCont, sNo, sRaise, dCallP, dCallD, eqF, neF, ltF, leF, gtF, geF, isF, notF, addF, subF, mulF, fdivF, modF, powF, negF, ixF, lenF, tupF, lstF, absF, intF, gcdF, maxF, minF, Rs.to, dIsi, dIsi2, dIsE, tyN, D.isNon, dM1, dM0, srcSeq, srcRng1, srcRng2, dLc, tYesD, iaddF, isBF, notBF, srcZip, srcEnumerate, repF, sumF, allF, anyF, intsOf_map, blsOf_map, dSl, dPart, dNoPart, sliceF, drD, at0, at1, at2, at3, at4, ix0, ix1, ix2, ix3, Dn.g0, Dn.g1, Dn.g2, Dn.g3, Dn.g4, ex_some, decide_true, decide_false, Bool.not_true, Bool.not_false, ite_true, ite_false, if_true, if_false, List.reverse_cons, List.reverse_nil, outPost, wipeE, CTg.set, setAll, appF, extF, revF, popF, Nat.zero_add, Nat.reduceAdd, is_NoneType_int, is_NoneType_bool, is_NoneType_str, is_NoneType_tuple, is_NoneType_list, is_bool_int, is_bool_bool, is_bool_str, is_bool_tuple, is_bool_list, is_int_int, is_int_bool, is_int_str, is_int_tuple, is_int_list, is_str_int, is_str_bool, is_str_str, is_str_tuple, is_str_list, is_tuple_int, is_tuple_bool, is_tuple_str, is_tuple_tuple, is_tuple_list, is_list_int, is_list_bool, is_list_str, is_list_tuple, is_list_list, strF, dDct, repLF, is_dict_int, is_dict_bool, is_dict_str, is_dict_tuple, is_dict_list, is_dict_dict, is_NoneType_dict, is_bool_dict, is_int_dict, is_str_dict, is_tuple_dict, is_list_dict]
    refine ⟨bt_div (bits_neg g1) (by omega), bt_div (bits_neg g1) (by omega), ?_⟩
    exact rt_val rfl (by simp [sp__law_ratio, rt, nf1, nf2, sg, hn])
  · simp [hn, outPost, dOp, dUn, dVar, dC, slot, startE, List.map, List.length, List.replicate, List.append, List.cons_append, List.nil_append, List.set, dAnd, dOr, dNot, dtB, dtAnd, dtOr, dtNot, dIf, dtTru, truF, dNil, dCons, dTup, dLst, dCB, sNil, sSeq, sRet, sRetN, sExpr, sIf, sAsg, gN, gT, gsNil, gsCons, gS, sPar, sAug, sWhile, sFor, sBrk, sCont, sNo, sRaise, dCallP, dCallD, eqF, neF, ltF, leF, gtF, geF, isF, notF, addF, subF, mulF, fdivF, modF, powF, negF, ixF, lenF, tupF, lstF, absF, intF, gcdF, maxF, minF, Rs.to, dIsi, dIsi2, dIsE, tyN, D.isNon, dM1, dM0, srcSeq, srcRng1, srcRng2, dLc, tYesD, iaddF, isBF, notBF, srcZip, srcEnumerate, repF, sumF, allF, anyF, intsOf_map, blsOf_map, dSl, dPart, dNoPart, sliceF, drD, at0, at1, at2, at3, at4, ix0, ix1, ix2, ix3, Dn.g0, Dn.g1, Dn.g2, Dn.g3, Dn.g4, ex_some, decide_true, decide_false, Bool.not_true, Bool.not_false, ite_true, ite_false, if_true, if_false, List.reverse_cons, List.reverse_nil, outPost, wipeE, CTg.set, setAll, appF, extF, revF, popF, Nat.zero_add, Nat.reduceAdd, is_NoneType_int, is_NoneType_bool, is_NoneType_str, is_NoneType_tuple, is_NoneType_list, is_bool_int, is_bool_bool, is_bool_str, is_bool_tuple, is_bool_list, is_int_int, is_int_bool, is_int_str, is_int_tuple, is_int_list, is_str_int, is_str_bool, is_str_str, is_str_tuple, is_str_list, is_tuple_int, is_tuple_bool, is_tuple_str, is_tuple_tuple, is_tuple_list, is_list_int, is_list_bool, is_list_str, is_list_tuple, is_list_list, strF, dDct, repLF, is_dict_int, is_dict_bool, is_dict_str, is_dict_tuple, is_dict_list, is_dict_dict, is_NoneType_dict, is_bool_dict, is_int_dict, is_str_dict, is_tuple_dict, is_list_dict]
    refine ⟨bt_div g1 (by omega), bt_div g1 (by omega), ?_⟩
    exact rt_val rfl (by simp [sp__law_ratio, rt, nf1, nf2, sg, hn])

theorem ok__law_ratio (T : Txt K mg) : Ok P w K mg base 2 "_law_ratio" ["n", "d"] (spP K mg sp__law_ratio) :=
  okOf T.d__law_ratio fun f fd F => fnP (k := 1) sp__law_ratio t__law_ratio F sc__law_ratio (fun x ds hp => len__law_ratio x ds hp) (fun cdv A outer s H E hr z => by
    have hu := hr.units; have hnd := sc__law_ratio.nd
    unfold t__law_ratio r__law_ratio_0 r__law_ratio_1 r__law_ratio_2
    exact (dss_cons (ds_set 2 hnd rfl (by walk_at "locs") (dn_callP ((ok__law_gcd (P := P) (w := w) (base := base) T).mono (by decide)) hr (takes_of rfl rfl rfl rfl) rfl (by decide) (da_cons (de_var 0 rfl (by walk_at "vis") (by decide) (by decide)) (da_cons (de_var 1 rfl (by walk_at "vis") (by decide) (by decide)) da_nil rfl) rfl) rfl rfl) rfl (by walk_at "fnn"))
    (dss_cons (ds_if (dt_cmp op_lt od_lt (de_var 1 rfl (by walk_at "vis") (by decide) (by decide)) de_int (nomark _)) (dss_one (ds_set 2 hnd rfl (by walk_at "locs") (de_neg (de_var 2 rfl (by walk_at "vis") (by decide) (by decide))) rfl (by walk_at "fnn"))) dss_nil)
    (dss_one (ds_ret (de_tup (da_cons (de_fdiv (de_var 0 rfl (by walk_at "vis") (by decide) (by decide)) (de_var 2 rfl (by walk_at "vis") (by decide) (by decide))) (da_cons (de_fdiv (de_var 1 rfl (by walk_at "vis") (by decide) (by decide)) (de_var 2 rfl (by walk_at "vis") (by decide) (by decide))) da_nil rfl) rfl) (by decide))))))) w__law_ratio
/-! ### _law_same -/
def sp__law_same (_n : Nat) : Spc (Bool × Bool) where
  pre := fun x ds => ds = [.bl x.1, .bl x.2]
  res := fun x o => o = .val (.bl (decide (x.1 = x.2)))
  exc := fun _ _ => False

def r__law_same_4 {α : Type} (sp_prev : Spc α) : dS :=
  (sRet (dAnd (dIsi "int" (dVar 0)) (dAnd (dIsi "int" (dVar 1)) (dOp eqF (dVar 0) (dVar 1)))))
def r__law_same_3 {α : Type} (sp_prev : Spc α) : dS :=
  (sSeq (sIf (dtOr (dtTru (dIsi "bool" (dVar 1))) (dtTru (dIsi "bool" (dVar 0)))) (sRet (dAnd (dIsi "bool" (dVar 1)) (dAnd (dIsi "bool" (dVar 0)) (dOp eqF (dVar 0) (dVar 1))))) sNil) (r__law_same_4 sp_prev))
def r__law_same_2 {α : Type} (sp_prev : Spc α) : dS :=
  (sSeq (sIf (dtB (dOp isF (dVar 1) (dC .non))) (sRet (dOp isF (dVar 0) (dC .non))) sNil) (r__law_same_3 sp_prev))
def r__law_same_1 {α : Type} (sp_prev : Spc α) : dS :=
  (sSeq (sIf (dtTru (dIsi "str" (dVar 1))) (sRet (dAnd (dIsi "str" (dVar 0)) (dOp eqF (dVar 0) (dVar 1)))) sNil) (r__law_same_2 sp_prev))
def r__law_same_0 {α : Type} (sp_prev : Spc α) : dS :=
  (sSeq (sIf (dtOr (dtTru (dIsi "tuple" (dVar 1))) (dtTru (dIsi "list" (dVar 1)))) (sSeq (sIf (dtAnd (dtTru (dIsi "tuple" (dVar 1))) (dtNot (dtTru (dIsi "tuple" (dVar 0))))) (sRet (dC (.bl false))) sNil)
    (sSeq (sIf (dtAnd (dtTru (dIsi "list" (dVar 1))) (dtNot (dtTru (dIsi "list" (dVar 0))))) (sRet (dC (.bl false))) sNil)
    (sSeq (sIf (dtB (dOp neF (dCB lenF (dCons (dVar 0) dNil)) (dCB lenF (dCons (dVar 1) dNil)))) (sRet (dC (.bl false))) sNil)
    (sSeq (sFor (srcRng1 (dCons (dCB lenF (dCons (dVar 1) dNil)) dNil)) (gN 2) (sIf (dtNot (dtTru (dCallP sp_prev (dCons (dOp ixF (dVar 0) (dVar 2)) (dCons (dOp ixF (dVar 1) (dVar 2)) dNil))))) (sRet (dC (.bl false))) sNil))
    (sRet (dC (.bl true))))))) sNil) (r__law_same_1 sp_prev))
def t__law_same {α : Type} (sp_prev : Spc α) : dS :=
  (r__law_same_0 sp_prev)
theorem same_step (n : Nat) (m : Spc (Bool × Bool)) : ∀ x ds, (sp__law_same n).pre x ds → t__law_same m (endP (sp__law_same n) x) (startE nm__law_same.length ds) [] := by
  rintro ⟨a, b⟩ ds rfl
  simp only [t__law_same, nm__law_same, r__law_same_0, r__law_same_1, r__law_same_2, r__law_same_3, r__law_same_4, dOp, dUn, dVar, dC, slot, startE, List.map, List.length, List.replicate, List.append, List.cons_append, List.nil_append, List.set, dAnd, dOr, dNot, dtB, dtAnd, dtOr, dtNot, dIf, dtTru, truF, dNil, dCons, dTup, dLst, dCB, sNil, sSeq, sRet, sRetN, sExpr, sIf, sAsg, gN, gT, gsNil, gsCons, gS, sPar, sAug, sWhile, sFor, sBrk, sCont, sNo, sRaise, dCallP, dCallD, eqF, neF, ltF, leF, gtF, geF, isF, notF, addF, subF, mulF, fdivF, modF, powF, negF, ixF, lenF, tupF, lstF, absF, intF, gcdF, maxF, minF, Rs.to, dIsi, dIsi2, dIsE, tyN, D.isNon, dM1, dM0, srcSeq, srcRng1, srcRng2, dLc, tYesD, iaddF, isBF, notBF, srcZip, srcEnumerate, repF, sumF, allF, anyF, intsOf_map, blsOf_map, dSl, dPart, dNoPart, sliceF, drD, at0, at1, at2, at3, at4, ix0, ix1, ix2, ix3, Dn.g0, Dn.g1, Dn.g2, Dn.g3, Dn.g4, ex_some, decide_true, decide_false, Bool.not_true, Bool.not_false, ite_true, ite_false, if_true, if_false, List.reverse_cons, List.reverse_nil, outPost, wipeE, CTg.set, setAll, appF, extF, revF, popF, Nat.zero_add, Nat.reduceAdd, is_NoneType_int, is_NoneType_bool, is_NoneType_str, is_NoneType_tuple, is_NoneType_list, is_bool_int, is_bool_bool, is_bool_str, is_bool_tuple, is_bool_list, is_int_int, is_int_bool, is_int_str, is_int_tuple, is_int_list, is_str_int, is_str_bool, is_str_str, is_str_tuple, is_str_list, is_tuple_int, is_tuple_bool, is_tuple_str, is_tuple_tuple, is_tuple_list, is_list_int, is_list_bool, is_list_str, is_list_tuple, is_list_list, strF, dDct, repLF, is_dict_int, is_dict_bool, is_dict_str, is_dict_tuple, is_dict_list, is_dict_dict, is_NoneType_dict, is_bool_dict, is_int_dict, is_str_dict, is_tuple_dict, is_list_dict]
  exact rt_val rfl rfl
theorem len__law_same (n : Nat) : ∀ x ds, (sp__law_same n).pre x ds → ds.length = 2 := fun x ds h => by rw [h]; rfl

theorem go__law_same (T : Txt K mg) {α β : Type} (sp_prev : Spc α) (sp_here : Spc β) {j : Nat} (hj : 0 ≤ j) (G0 : Ok P w K mg base j "_law_same" ["actual", "expected"] (spP K mg sp_prev)) (hlen : ∀ x ds, sp_here.pre x ds → ds.length = 2) (hw : ∀ x ds, sp_here.pre x ds → t__law_same sp_prev (endP sp_here x) (startE nm__law_same.length ds) []) : Ok P w K mg base (j + 1) "_law_same" ["actual", "expected"] (spP K mg sp_here) :=
  okOf T.d__law_same fun f fd F => fnP (k := j) sp_here (t__law_same sp_prev) F sc__law_same hlen (fun cdv A outer s H E hr z => by
    have hu := hr.units; have hnd := sc__law_same.nd
    unfold t__law_same r__law_same_0 r__law_same_1 r__law_same_2 r__law_same_3 r__law_same_4
    exact (dss_cons (ds_if (dw_pt (dw_or (dt_tru (de_isi kit_tuple rfl T.b_isinstance rfl T.b_tuple (by decide +kernel) (by decide) (by decide) (de_var 1 rfl (by walk_at "vis") (by decide) (by decide)) rfl rfl rfl) (fun _ => rfl)) (dw_or1 (dt_tru (de_isi kit_list rfl T.b_isinstance rfl T.b_list (by decide +kernel) (by decide) (by decide) (de_var 1 rfl (by walk_at "vis") (by decide) (by decide)) rfl rfl rfl) (fun _ => rfl))))) (dss_cons (ds_if (dw_pt (dw_and (dt_tru (de_isi kit_tuple rfl T.b_isinstance rfl T.b_tuple (by decide +kernel) (by decide) (by decide) (de_var 1 rfl (by walk_at "vis") (by decide) (by decide)) rfl rfl rfl) (fun _ => rfl)) (dw_and1 (dt_not (dt_tru (de_isi kit_tuple rfl T.b_isinstance rfl T.b_tuple (by decide +kernel) (by decide) (by decide) (de_var 0 rfl (by walk_at "vis") (by decide) (by decide)) rfl rfl rfl) (fun _ => rfl)))))) (dss_one (ds_ret de_bl)) dss_nil)
    (dss_cons (ds_if (dw_pt (dw_and (dt_tru (de_isi kit_list rfl T.b_isinstance rfl T.b_list (by decide +kernel) (by decide) (by decide) (de_var 1 rfl (by walk_at "vis") (by decide) (by decide)) rfl rfl rfl) (fun _ => rfl)) (dw_and1 (dt_not (dt_tru (de_isi kit_list rfl T.b_isinstance rfl T.b_list (by decide +kernel) (by decide) (by decide) (de_var 0 rfl (by walk_at "vis") (by decide) (by decide)) rfl rfl rfl) (fun _ => rfl)))))) (dss_one (ds_ret de_bl)) dss_nil)
    (dss_cons (ds_if (dt_cmp (op_neA hu) od_ne (de_callB (f := lenF) call_len_seq cd_len rfl T.b_len (by decide +kernel) (da_cons (de_var 0 rfl (by walk_at "vis") (by decide) (by decide)) da_nil rfl) (by decide) (by decide) rfl rfl) (de_callB (f := lenF) call_len_seq cd_len rfl T.b_len (by decide +kernel) (da_cons (de_var 1 rfl (by walk_at "vis") (by decide) (by decide)) da_nil rfl) (by decide) (by decide) rfl rfl) (nomark _)) (dss_one (ds_ret de_bl)) dss_nil)
    (dss_cons (ds_for (passes_of (K := fun e s'' => L2.CX P w outer H s E e s'') (E₁ := fun e s'' => L2.CX P w outer H s E e s'') rfl) rfl (di_rng1 rfl T.b_range (da_cons (de_callB (f := lenF) call_len_seq cd_len rfl T.b_len (by decide +kernel) (da_cons (de_var 1 rfl (by walk_at "vis") (by decide) (by decide)) da_nil rfl) (by decide) (by decide) rfl rfl) da_nil rfl) rfl) (dg_name 2 hnd rfl (by walk_at "locs") (by walk_at "fnn")) (dss_one (ds_if (dt_not (dt_tru (dn_callP G0 hr (takes_of rfl rfl rfl rfl) rfl (by decide) (da_cons (de_ix (de_var 0 rfl (by walk_at "vis") (by decide) (by decide)) (de_var 2 rfl (by walk_at "vis") (by decide) (by decide)) (fun _ _ => rfl)) (da_cons (de_ix (de_var 1 rfl (by walk_at "vis") (by decide) (by decide)) (de_var 2 rfl (by walk_at "vis") (by decide) (by decide)) (fun _ _ => rfl)) da_nil rfl) rfl) rfl rfl) (fun _ => rfl))) (dss_one (ds_ret de_bl)) dss_nil)) (fun _ => rfl))
    (dss_one (ds_ret de_bl)))))) dss_nil)
    (dss_cons (ds_if (dt_tru (de_isi kit_str rfl T.b_isinstance rfl T.b_str (by decide +kernel) (by decide) (by decide) (de_var 1 rfl (by walk_at "vis") (by decide) (by decide)) rfl rfl rfl) (fun _ => rfl)) (dss_one (ds_ret (de_and (de_isi kit_str rfl T.b_isinstance rfl T.b_str (by decide +kernel) (by decide) (by decide) (de_var 0 rfl (by walk_at "vis") (by decide) (by decide)) rfl rfl rfl) (de_one (de_eq hu (de_var 0 rfl (by walk_at "vis") (by decide) (by decide)) (de_var 1 rfl (by walk_at "vis") (by decide) (by decide))))))) dss_nil)
    (dss_cons (ds_if (dt_cmp op_isN od_is (de_var 1 rfl (by walk_at "vis") (by decide) (by decide)) de_non (nomark _)) (dss_one (ds_ret (de_is (de_var 0 rfl (by walk_at "vis") (by decide) (by decide)) de_non))) dss_nil)
    (dss_cons (ds_if (dw_pt (dw_or (dt_tru (de_isi kit_bool rfl T.b_isinstance rfl T.b_bool (by decide +kernel) (by decide) (by decide) (de_var 1 rfl (by walk_at "vis") (by decide) (by decide)) rfl rfl rfl) (fun _ => rfl)) (dw_or1 (dt_tru (de_isi kit_bool rfl T.b_isinstance rfl T.b_bool (by decide +kernel) (by decide) (by decide) (de_var 0 rfl (by walk_at "vis") (by decide) (by decide)) rfl rfl rfl) (fun _ => rfl))))) (dss_one (ds_ret (de_and (de_isi kit_bool rfl T.b_isinstance rfl T.b_bool (by decide +kernel) (by decide) (by decide) (de_var 1 rfl (by walk_at "vis") (by decide) (by decide)) rfl rfl rfl) (de_and (de_isi kit_bool rfl T.b_isinstance rfl T.b_bool (by decide +kernel) (by decide) (by decide) (de_var 0 rfl (by walk_at "vis") (by decide) (by decide)) rfl rfl rfl) (de_one (de_eq hu (de_var 0 rfl (by walk_at "vis") (by decide) (by decide)) (de_var 1 rfl (by walk_at "vis") (by decide) (by decide)))))))) dss_nil)
    (dss_one (ds_ret (de_and (de_isi kit_int rfl T.b_isinstance rfl T.b_int (by decide +kernel) (by decide) (by decide) (de_var 0 rfl (by walk_at "vis") (by decide) (by decide)) rfl rfl rfl) (de_and (de_isi kit_int rfl T.b_isinstance rfl T.b_int (by decide +kernel) (by decide) (by decide) (de_var 1 rfl (by walk_at "vis") (by decide) (by decide)) rfl rfl rfl) (de_one (de_eq hu (de_var 0 rfl (by walk_at "vis") (by decide) (by decide)) (de_var 1 rfl (by walk_at "vis") (by decide) (by decide))))))))))))) hw
def noSpc : Spc (Bool × Bool) where
  pre := fun _ _ => False
  res := fun _ _ => False
  exc := fun _ _ => False
theorem ok_no {x : Str} {st : Stmt} {ps : List Str} (A : DefAt K mg x st ps) : Ok P w K mg base 0 x ps (spP K mg noSpc) :=
  okOf A fun f fd F => ⟨fun vs H Q E ⟨_, _, _, h, _⟩ => h.elim, fun _ _ _ _ _ _ _ _ _ _ _ _ _ ⟨_, _, _, h, _⟩ => h.elim⟩
theorem ok__law_same (T : Txt K mg) : ∀ n : Nat, Ok P w K mg base (n + 1) "_law_same" ["actual", "expected"] (spP K mg (sp__law_same n))
  | 0 => go__law_same T noSpc (sp__law_same 0) (Nat.zero_le _) (ok_no T.d__law_same) (len__law_same 0) (same_step 0 noSpc)
  | n + 1 => go__law_same T (sp__law_same n) (sp__law_same (n + 1)) (Nat.zero_le _) (ok__law_same T n) (len__law_same (n + 1)) (same_step (n + 1) _)

/-! ### is_whole -/
def isI' : D → Bool
  | .int _ => true
  | _ => false
mutual
/-- neither addresses nor places of owned lists nor instances -/
def noA : D → Bool
  | .tup ds => noAs ds
  | .lst ds => noAs ds
  | .ref _ => false
  | .adr _ => false
  | .box .dct ds => pureDs ds
  | .box (.ins _ _) _ => false
  | .non => true
  | .bl _ => true
  | .int _ => true
  | .str _ => true
def noAs : List D → Bool
  | [] => true
  | d :: ds => noA d && noAs ds
end
mutual
theorem view_noA {h : Hh} {ok : Nat → Prop} : ∀ {d : D}, noA d = true → View h ok d d
  | .tup ds, q => by unfold noA at q; exact .tup (views_noA q)
  | .lst ds, q => by unfold noA at q; exact .lst (views_noA q)
  | .ref _, q => by unfold noA at q; cases q
  | .adr _, q => by unfold noA at q; cases q
  | .box .dct ds, q => by unfold noA at q; exact .pure (by unfold pureD; exact q)
  | .box (.ins _ _) _, q => by unfold noA at q; cases q
  | .non, _ => .pure rfl
  | .bl _, _ => .pure rfl
  | .int _, _ => .pure rfl
  | .str _, _ => .pure rfl
theorem views_noA {h : Hh} {ok : Nat → Prop} : ∀ {ds : List D}, noAs ds = true → Views h ok ds ds
  | [], _ => .nil
  | d :: ds, q => by
    unfold noAs at q; rw [Bool.and_eq_true] at q
    exact .cons (view_noA q.1) (views_noA q.2)
end
theorem noA_adr {d : D} (h : noA d = true) : d.isAdr = false := by
  cases d with
  | adr a => unfold noA at h; cases h
  | box t ds => cases t with
    | dct => rfl
    | ins C fs => unfold noA at h; cases h
  | _ => rfl
theorem noAs_mem : ∀ {ds : List D} {d : D}, noAs ds = true → d ∈ ds → noA d = true
  | a :: r, d, h, m => by
    unfold noAs at h; rw [Bool.and_eq_true] at h
    rcases List.mem_cons.mp m with rfl | m
    · exact h.1
    · exact noAs_mem h.2 m
def sp_is_whole : Spc D where
  pre := fun x ds => ds = [x] ∧ x.isAdr = false
  res := fun x o => o = .val (.bl (isI' x))
  exc := fun _ _ => False

def r_is_whole_0 : dS :=
  (sRet (dAnd (dIsi "int" (dVar 0)) (dNot (dIsi "bool" (dVar 0)))))
def t_is_whole : dS :=
  (r_is_whole_0)
theorem len_is_whole : ∀ x ds, sp_is_whole.pre x ds → ds.length = 1 := fun x ds h => by rw [h.1]; rfl
theorem w_is_whole : ∀ x ds, sp_is_whole.pre x ds → t_is_whole (endP sp_is_whole x) (startE nm_is_whole.length ds) [] := by
  rintro d ds ⟨rfl, hd⟩
  cases d with
  | adr a => cases hd
  | box t ds => cases t with
    | dct => simp only [t_is_whole, r_is_whole_0, nm_is_whole, dOp, dUn, dVar, dC, slot, startE, List.map, List.length, List.replicate, List.append, List.cons_append, List.nil_append, List.set, dAnd, dOr, dNot, dtB, dtAnd, dtOr, dtNot, dIf, dtTru, truF, dNil, dCons, dTup, dLst, dCB, sNil, sSeq, sRet, sRetN, sExpr, sIf, sAsg, gN, gT, gsNil, gsCons, gS, sPar, sAug, sWhile, sFor, sBrk, sCont, sNo, sRaise, dCallP_eq, dCallD_eq, List.length_map, List.getElem?_cons_succ, List.getElem?_concat_length, set_last, get_mid, get_mid2, eqF, neF, ltF, leF, gtF, geF, isF, notF, addF, subF, mulF, fdivF, modF, powF, negF, ixF, lenF, tupF, lstF, absF, intF, gcdF, maxF, minF, Rs.to, dIsi, dIsi2, dIsE, tyN, D.isNon, dM1, dM0, srcSeq, srcRng1, srcRng2, dLc, tYesD, iaddF, isBF, notBF, srcZip, srcEnumerate, repF, sumF, allF, anyF, intsOf_map, blsOf_map, dSl, dPart, dNoPart, sliceF, at0, at1, at2, at3, at4, ix0, ix1, ix2, ix3, Dn.g0, Dn.g1, Dn.g2, Dn.g3, Dn.g4, ex_some, decide_true, decide_false, Bool.not_true, Bool.not_false, ite_true, ite_false, if_true, if_false, List.reverse_cons, List.reverse_nil, outPost, wipeE, CTg.set, setAll, appF, extF, revF, popF, Nat.zero_add, Nat.reduceAdd, is_NoneType_int, is_NoneType_bool, is_NoneType_str, is_NoneType_tuple, is_NoneType_list, is_bool_int, is_bool_bool, is_bool_str, is_bool_tuple, is_bool_list, is_int_int, is_int_bool, is_int_str, is_int_tuple, is_int_list, is_str_int, is_str_bool, is_str_str, is_str_tuple, is_str_list, is_tuple_int, is_tuple_bool, is_tuple_str, is_tuple_tuple, is_tuple_list, is_list_int, is_list_bool, is_list_str, is_list_tuple, is_list_list, strF, dDct, repLF, is_dict_int, is_dict_bool, is_dict_str, is_dict_tuple, is_dict_list, is_dict_dict, is_NoneType_dict, is_bool_dict, is_int_dict, is_str_dict, is_tuple_dict, is_list_dict]; exact rt_val rfl rfl
    | ins C fs => cases hd
  | _ => simp only [t_is_whole, r_is_whole_0, nm_is_whole, dOp, dUn, dVar, dC, slot, startE, List.map, List.length, List.replicate, List.append, List.cons_append, List.nil_append, List.set, dAnd, dOr, dNot, dtB, dtAnd, dtOr, dtNot, dIf, dtTru, truF, dNil, dCons, dTup, dLst, dCB, sNil, sSeq, sRet, sRetN, sExpr, sIf, sAsg, gN, gT, gsNil, gsCons, gS, sPar, sAug, sWhile, sFor, sBrk, sCont, sNo, sRaise, dCallP_eq, dCallD_eq, List.length_map, List.getElem?_cons_succ, List.getElem?_concat_length, set_last, get_mid, get_mid2, eqF, neF, ltF, leF, gtF, geF, isF, notF, addF, subF, mulF, fdivF, modF, powF, negF, ixF, lenF, tupF, lstF, absF, intF, gcdF, maxF, minF, Rs.to, dIsi, dIsi2, dIsE, tyN, D.isNon, dM1, dM0, srcSeq, srcRng1, srcRng2, dLc, tYesD, iaddF, isBF, notBF, srcZip, srcEnumerate, repF, sumF, allF, anyF, intsOf_map, blsOf_map, dSl, dPart, dNoPart, sliceF, at0, at1, at2, at3, at4, ix0, ix1, ix2, ix3, Dn.g0, Dn.g1, Dn.g2, Dn.g3, Dn.g4, ex_some, decide_true, decide_false, Bool.not_true, Bool.not_false, ite_true, ite_false, if_true, if_false, List.reverse_cons, List.reverse_nil, outPost, wipeE, CTg.set, setAll, appF, extF, revF, popF, Nat.zero_add, Nat.reduceAdd, is_NoneType_int, is_NoneType_bool, is_NoneType_str, is_NoneType_tuple, is_NoneType_list, is_bool_int, is_bool_bool, is_bool_str, is_bool_tuple, is_bool_list, is_int_int, is_int_bool, is_int_str, is_int_tuple, is_int_list, is_str_int, is_str_bool, is_str_str, is_str_tuple, is_str_list, is_tuple_int, is_tuple_bool, is_tuple_str, is_tuple_tuple, is_tuple_list, is_list_int, is_list_bool, is_list_str, is_list_tuple, is_list_list, strF, dDct, repLF, is_dict_int, is_dict_bool, is_dict_str, is_dict_tuple, is_dict_list, is_dict_dict, is_NoneType_dict, is_bool_dict, is_int_dict, is_str_dict, is_tuple_dict, is_list_dict]; exact rt_val rfl rfl

theorem ok_is_whole (T : Txt K mg) : Ok P w K mg base 1 "is_whole" ["number"] (spP K mg sp_is_whole) :=
  okOf T.d_is_whole fun f fd F => fnP (k := 0) sp_is_whole t_is_whole F sc_is_whole (fun x ds hp => len_is_whole x ds hp) (fun cdv A outer s H E hr z => by
    have hu := hr.units; have hnd := sc_is_whole.nd
    unfold t_is_whole r_is_whole_0
    exact (dss_one (ds_ret (de_and (de_isi kit_int rfl T.b_isinstance rfl T.b_int (by decide +kernel) (by decide) (by decide) (de_var 0 rfl (by walk_at "vis") (by decide) (by decide)) rfl rfl rfl) (de_one (de_not (de_isi kit_bool rfl T.b_isinstance rfl T.b_bool (by decide +kernel) (by decide) (by decide) (de_var 0 rfl (by walk_at "vis") (by decide) (by decide)) rfl rfl rfl))))))) w_is_whole
/-! ### _law_whole -/
def sp__law_whole : Spc D where
  pre := fun x ds => ds = [x] ∧ x.isAdr = false
  res := fun x o => o = .val (.bl (isI' x))
  exc := fun _ _ => False

def r__law_whole_0 : dS :=
  (sRet (dAnd (dIsi "int" (dVar 0)) (dNot (dIsi "bool" (dVar 0)))))
def t__law_whole : dS :=
  (r__law_whole_0)
theorem len__law_whole : ∀ x ds, sp__law_whole.pre x ds → ds.length = 1 := fun x ds h => by rw [h.1]; rfl
theorem w__law_whole : ∀ x ds, sp__law_whole.pre x ds → t__law_whole (endP sp__law_whole x) (startE nm__law_whole.length ds) [] := by
  rintro d ds ⟨rfl, hd⟩
  cases d with
  | adr a => cases hd
  | box t ds => cases t with
    | dct => simp only [t__law_whole, r__law_whole_0, nm__law_whole, dOp, dUn, dVar, dC, slot, startE, List.map, List.length, List.replicate, List.append, List.cons_append, List.nil_append, List.set, dAnd, dOr, dNot, dtB, dtAnd, dtOr, dtNot, dIf, dtTru, truF, dNil, dCons, dTup, dLst, dCB, sNil, sSeq, sRet, sRetN, sExpr, sIf, sAsg, gN, gT, gsNil, gsCons, gS, sPar, sAug, sWhile, sFor, sBrk, sCont, sNo, sRaise, dCallP_eq, dCallD_eq, List.length_map, List.getElem?_cons_succ, List.getElem?_concat_length, set_last, get_mid, get_mid2, eqF, neF, ltF, leF, gtF, geF, isF, notF, addF, subF, mulF, fdivF, modF, powF, negF, ixF, lenF, tupF, lstF, absF, intF, gcdF, maxF, minF, Rs.to, dIsi, dIsi2, dIsE, tyN, D.isNon, dM1, dM0, srcSeq, srcRng1, srcRng2, dLc, tYesD, iaddF, isBF, notBF, srcZip, srcEnumerate, repF, sumF, allF, anyF, intsOf_map, blsOf_map, dSl, dPart, dNoPart, sliceF, at0, at1, at2, at3, at4, ix0, ix1, ix2, ix3, Dn.g0, Dn.g1, Dn.g2, Dn.g3, Dn.g4, ex_some, decide_true, decide_false, Bool.not_true, Bool.not_false, ite_true, ite_false, if_true, if_false, List.reverse_cons, List.reverse_nil, outPost, wipeE, CTg.set, setAll, appF, extF, revF, popF, Nat.zero_add, Nat.reduceAdd, is_NoneType_int, is_NoneType_bool, is_NoneType_str, is_NoneType_tuple, is_NoneType_list, is_bool_int, is_bool_bool, is_bool_str, is_bool_tuple, is_bool_list, is_int_int, is_int_bool, is_int_str, is_int_tuple, is_int_list, is_str_int, is_str_bool, is_str_str, is_str_tuple, is_str_list, is_tuple_int, is_tuple_bool, is_tuple_str, is_tuple_tuple, is_tuple_list, is_list_int, is_list_bool, is_list_str, is_list_tuple, is_list_list, strF, dDct, repLF, is_dict_int, is_dict_bool, is_dict_str, is_dict_tuple, is_dict_list, is_dict_dict, is_NoneType_dict, is_bool_dict, is_int_dict, is_str_dict, is_tuple_dict, is_list_dict]; exact rt_val rfl rfl
    | ins C fs => cases hd
  | _ => simp only [t__law_whole, r__law_whole_0, nm__law_whole, dOp, dUn, dVar, dC, slot, startE, List.map, List.length, List.replicate, List.append, List.cons_append, List.nil_append, List.set, dAnd, dOr, dNot, dtB, dtAnd, dtOr, dtNot, dIf, dtTru, truF, dNil, dCons, dTup, dLst, dCB, sNil, sSeq, sRet, sRetN, sExpr, sIf, sAsg, gN, gT, gsNil, gsCons, gS, sPar, sAug, sWhile, sFor, sBrk, sCont, sNo, sRaise, dCallP_eq, dCallD_eq, List.length_map, List.getElem?_cons_succ, List.getElem?_concat_length, set_last, get_mid, get_mid2, eqF, neF, ltF, leF, gtF, geF, isF, notF, addF, subF, mulF, fdivF, modF, powF, negF, ixF, lenF, tupF, lstF, absF, intF, gcdF, maxF, minF, Rs.to, dIsi, dIsi2, dIsE, tyN, D.isNon, dM1, dM0, srcSeq, srcRng1, srcRng2, dLc, tYesD, iaddF, isBF, notBF, srcZip, srcEnumerate, repF, sumF, allF, anyF, intsOf_map, blsOf_map, dSl, dPart, dNoPart, sliceF, at0, at1, at2, at3, at4, ix0, ix1, ix2, ix3, Dn.g0, Dn.g1, Dn.g2, Dn.g3, Dn.g4, ex_some, decide_true, decide_false, Bool.not_true, Bool.not_false, ite_true, ite_false, if_true, if_false, List.reverse_cons, List.reverse_nil, outPost, wipeE, CTg.set, setAll, appF, extF, revF, popF, Nat.zero_add, Nat.reduceAdd, is_NoneType_int, is_NoneType_bool, is_NoneType_str, is_NoneType_tuple, is_NoneType_list, is_bool_int, is_bool_bool, is_bool_str, is_bool_tuple, is_bool_list, is_int_int, is_int_bool, is_int_str, is_int_tuple, is_int_list, is_str_int, is_str_bool, is_str_str, is_str_tuple, is_str_list, is_tuple_int, is_tuple_bool, is_tuple_str, is_tuple_tuple, is_tuple_list, is_list_int, is_list_bool, is_list_str, is_list_tuple, is_list_list, strF, dDct, repLF, is_dict_int, is_dict_bool, is_dict_str, is_dict_tuple, is_dict_list, is_dict_dict, is_NoneType_dict, is_bool_dict, is_int_dict, is_str_dict, is_tuple_dict, is_list_dict]; exact rt_val rfl rfl

theorem ok__law_whole (T : Txt K mg) : Ok P w K mg base 1 "_law_whole" ["x"] (spP K mg sp__law_whole) :=
  okOf T.d__law_whole fun f fd F => fnP (k := 0) sp__law_whole t__law_whole F sc__law_whole (fun x ds hp => len__law_whole x ds hp) (fun cdv A outer s H E hr z => by
    have hu := hr.units; have hnd := sc__law_whole.nd
    unfold t__law_whole r__law_whole_0
    exact (dss_one (ds_ret (de_and (de_isi kit_int rfl T.b_isinstance rfl T.b_int (by decide +kernel) (by decide) (by decide) (de_var 0 rfl (by walk_at "vis") (by decide) (by decide)) rfl rfl rfl) (de_one (de_not (de_isi kit_bool rfl T.b_isinstance rfl T.b_bool (by decide +kernel) (by decide) (by decide) (de_var 0 rfl (by walk_at "vis") (by decide) (by decide)) rfl rfl rfl))))))) w__law_whole
/-! ### is_count -/
structure CN where
  d : D
  lo : Int
  hi : Int
def countB (x : CN) : Bool := match x.d with
  | .int i => decide (x.lo ≤ i) && decide (i ≤ x.hi)
  | _ => false
def sp_is_count : Spc CN where
  pre := fun x ds => ds = [x.d, .int x.lo, .int x.hi] ∧ noA x.d = true
  res := fun x o => o = .val (.bl (countB x))
  exc := fun _ _ => False

def r_is_count_0 : dS :=
  (sRet (dAnd (dCallP sp_is_whole (dCons (dVar 0) dNil)) (dAnd (dOp leF (dVar 1) (dVar 0)) (dOp leF (dVar 0) (dVar 2)))))
def t_is_count : dS :=
  (r_is_count_0)
theorem len_is_count : ∀ x ds, sp_is_count.pre x ds → ds.length = 3 := fun x ds h => by rw [h.1]; rfl
theorem useP_whole {d : D} {h : Hh} {Q : D → Hh → Prop} {E : XK'} (hd : noA d = true) (q : Q (.bl (isI' d)) h) : useP sp_is_whole [d] h Q E :=
  useP_mk d [d] (.cons (view_noA hd) .nil) ⟨rfl, noA_adr hd⟩ (fun o ho _ => by rw [ho]; exact q) (fun _ q => q)
theorem w_is_count : ∀ x ds, sp_is_count.pre x ds → t_is_count (endP sp_is_count x) (startE nm_is_count.length ds) [] := by
  rintro ⟨d, lo, hi⟩ ds ⟨rfl, hd⟩
  simp only at hd
  simp only [t_is_count, r_is_count_0, nm_is_count, dOp, dUn, dVar, dC, slot, startE, List.map, List.length, List.replicate, List.append, List.cons_append, List.nil_append, List.set, dAnd, dOr, dNot, dtB, dtAnd, dtOr, dtNot, dIf, dtTru, truF, dNil, dCons, dTup, dLst, dCB, sNil, sSeq, sRet, sRetN, sExpr, sIf, sAsg, gN, gT, gsNil, gsCons, gS, sPar, sAug, sWhile, sFor, sBrk, sCont, sNo, sRaise, dCallP_eq, dCallD_eq, List.length_map, List.getElem?_cons_succ, List.getElem?_concat_length, set_last, get_mid, get_mid2, eqF, neF, ltF, leF, gtF, geF, isF, notF, addF, subF, mulF, fdivF, modF, powF, negF, ixF, lenF, tupF, lstF, absF, intF, gcdF, maxF, minF, Rs.to, dIsi, dIsi2, dIsE, tyN, D.isNon, dM1, dM0, srcSeq, srcRng1, srcRng2, dLc, tYesD, iaddF, isBF, notBF, srcZip, srcEnumerate, repF, sumF, allF, anyF, intsOf_map, blsOf_map, dSl, dPart, dNoPart, sliceF, at0, at1, at2, at3, at4, ix0, ix1, ix2, ix3, Dn.g0, Dn.g1, Dn.g2, Dn.g3, Dn.g4, ex_some, decide_true, decide_false, Bool.not_true, Bool.not_false, ite_true, ite_false, if_true, if_false, List.reverse_cons, List.reverse_nil, outPost, wipeE, CTg.set, setAll, appF, extF, revF, popF, Nat.zero_add, Nat.reduceAdd, is_NoneType_int, is_NoneType_bool, is_NoneType_str, is_NoneType_tuple, is_NoneType_list, is_bool_int, is_bool_bool, is_bool_str, is_bool_tuple, is_bool_list, is_int_int, is_int_bool, is_int_str, is_int_tuple, is_int_list, is_str_int, is_str_bool, is_str_str, is_str_tuple, is_str_list, is_tuple_int, is_tuple_bool, is_tuple_str, is_tuple_tuple, is_tuple_list, is_list_int, is_list_bool, is_list_str, is_list_tuple, is_list_list, strF, dDct, repLF, is_dict_int, is_dict_bool, is_dict_str, is_dict_tuple, is_dict_list, is_dict_dict, is_NoneType_dict, is_bool_dict, is_int_dict, is_str_dict, is_tuple_dict, is_list_dict]
  refine useP_whole hd ?_
  cases d with
  | int i =>
    simp only [isI', dOp, dUn, dVar, dC, slot, startE, List.map, List.length, List.replicate, List.append, List.cons_append, List.nil_append, List.set, dAnd, dOr, dNot, dtB, dtAnd, dtOr, dtNot, dIf, dtTru, truF, dNil, dCons, dTup, dLst, dCB, sNil, sSeq, sRet, sRetN, sExpr, sIf, sAsg, gN, gT, gsNil, gsCons, gS, sPar, sAug, sWhile, sFor, sBrk, sCont, sNo, sRaise, dCallP_eq, dCallD_eq, List.length_map, List.getElem?_cons_succ, List.getElem?_concat_length, set_last, get_mid, get_mid2, eqF, neF, ltF, leF, gtF, geF, isF, notF, addF, subF, mulF, fdivF, modF, powF, negF, ixF, lenF, tupF, lstF, absF, intF, gcdF, maxF, minF, Rs.to, dIsi, dIsi2, dIsE, tyN, D.isNon, dM1, dM0, srcSeq, srcRng1, srcRng2, dLc, tYesD, iaddF, isBF, notBF, srcZip, srcEnumerate, repF, sumF, allF, anyF, intsOf_map, blsOf_map, dSl, dPart, dNoPart, sliceF, at0, at1, at2, at3, at4, ix0, ix1, ix2, ix3, Dn.g0, Dn.g1, Dn.g2, Dn.g3, Dn.g4, ex_some, decide_true, decide_false, Bool.not_true, Bool.not_false, ite_true, ite_false, if_true, if_false, List.reverse_cons, List.reverse_nil, outPost, wipeE, CTg.set, setAll, appF, extF, revF, popF, Nat.zero_add, Nat.reduceAdd, is_NoneType_int, is_NoneType_bool, is_NoneType_str, is_NoneType_tuple, is_NoneType_list, is_bool_int, is_bool_bool, is_bool_str, is_bool_tuple, is_bool_list, is_int_int, is_int_bool, is_int_str, is_int_tuple, is_int_list, is_str_int, is_str_bool, is_str_str, is_str_tuple, is_str_list, is_tuple_int, is_tuple_bool, is_tuple_str, is_tuple_tuple, is_tuple_list, is_list_int, is_list_bool, is_list_str, is_list_tuple, is_list_list, strF, dDct, repLF, is_dict_int, is_dict_bool, is_dict_str, is_dict_tuple, is_dict_list, is_dict_dict, is_NoneType_dict, is_bool_dict, is_int_dict, is_str_dict, is_tuple_dict, is_list_dict]
    by_cases h : lo ≤ i
    · simp only [h, decide_true]
      exact rt_val rfl (by simp [sp_is_count, countB, h])
    · simp only [h, decide_false]
      exact rt_val rfl (by simp [sp_is_count, countB, h])
  | _ =>
    simp only [isI', dOp, dUn, dVar, dC, slot, startE, List.map, List.length, List.replicate, List.append, List.cons_append, List.nil_append, List.set, dAnd, dOr, dNot, dtB, dtAnd, dtOr, dtNot, dIf, dtTru, truF, dNil, dCons, dTup, dLst, dCB, sNil, sSeq, sRet, sRetN, sExpr, sIf, sAsg, gN, gT, gsNil, gsCons, gS, sPar, sAug, sWhile, sFor, sBrk, sCont, sNo, sRaise, dCallP_eq, dCallD_eq, List.length_map, List.getElem?_cons_succ, List.getElem?_concat_length, set_last, get_mid, get_mid2, eqF, neF, ltF, leF, gtF, geF, isF, notF, addF, subF, mulF, fdivF, modF, powF, negF, ixF, lenF, tupF, lstF, absF, intF, gcdF, maxF, minF, Rs.to, dIsi, dIsi2, dIsE, tyN, D.isNon, dM1, dM0, srcSeq, srcRng1, srcRng2, dLc, tYesD, iaddF, isBF, notBF, srcZip, srcEnumerate, repF, sumF, allF, anyF, intsOf_map, blsOf_map, dSl, dPart, dNoPart, sliceF, at0, at1, at2, at3, at4, ix0, ix1, ix2, ix3, Dn.g0, Dn.g1, Dn.g2, Dn.g3, Dn.g4, ex_some, decide_true, decide_false, Bool.not_true, Bool.not_false, ite_true, ite_false, if_true, if_false, List.reverse_cons, List.reverse_nil, outPost, wipeE, CTg.set, setAll, appF, extF, revF, popF, Nat.zero_add, Nat.reduceAdd, is_NoneType_int, is_NoneType_bool, is_NoneType_str, is_NoneType_tuple, is_NoneType_list, is_bool_int, is_bool_bool, is_bool_str, is_bool_tuple, is_bool_list, is_int_int, is_int_bool, is_int_str, is_int_tuple, is_int_list, is_str_int, is_str_bool, is_str_str, is_str_tuple, is_str_list, is_tuple_int, is_tuple_bool, is_tuple_str, is_tuple_tuple, is_tuple_list, is_list_int, is_list_bool, is_list_str, is_list_tuple, is_list_list, strF, dDct, repLF, is_dict_int, is_dict_bool, is_dict_str, is_dict_tuple, is_dict_list, is_dict_dict, is_NoneType_dict, is_bool_dict, is_int_dict, is_str_dict, is_tuple_dict, is_list_dict]
    exact rt_val rfl rfl

theorem ok_is_count (T : Txt K mg) : Ok P w K mg base 2 "is_count" ["number", "low", "high"] (spP K mg sp_is_count) :=
  okOf T.d_is_count fun f fd F => fnP (k := 1) sp_is_count t_is_count F sc_is_count (fun x ds hp => len_is_count x ds hp) (fun cdv A outer s H E hr z => by
    have hu := hr.units; have hnd := sc_is_count.nd
    unfold t_is_count r_is_count_0
    exact (dss_one (ds_ret (de_and (dn_callP ((ok_is_whole (P := P) (w := w) (base := base) T).mono (by decide)) hr (takes_of rfl rfl rfl rfl) rfl (by decide) (da_cons (de_var 0 rfl (by walk_at "vis") (by decide) (by decide)) da_nil rfl) rfl rfl) (de_and (de_le (de_var 1 rfl (by walk_at "vis") (by decide) (by decide)) (de_var 0 rfl (by walk_at "vis") (by decide) (by decide))) (de_one (de_le (de_var 0 rfl (by walk_at "vis") (by decide) (by decide)) (de_var 2 rfl (by walk_at "vis") (by decide) (by decide))))))))) w_is_count
/-! ### is_ratio -/
def ratioB : D → Bool
  | .tup [.int a, .int b] => decide (1 ≤ b) && decide (Nat.gcd a.natAbs b.natAbs = 1)
  | _ => false
def sp_is_ratio : Spc D where
  pre := fun x ds => ds = [x] ∧ noA x = true
  res := fun x o => o = .val (.bl (ratioB x))
  exc := fun _ _ => False

def r_is_ratio_2 : dS :=
  (sRet (dAnd (dOp geF (dOp ixF (dVar 0) (dC (.int 1))) (dC (.int 1))) (dOp eqF (dCB gcdF (dCons (dOp ixF (dVar 0) (dC (.int 0))) (dCons (dOp ixF (dVar 0) (dC (.int 1))) dNil))) (dC (.int 1)))))
def r_is_ratio_1 : dS :=
  (sSeq (sIf (dtOr (dtNot (dtTru (dCallP sp_is_whole (dCons (dOp ixF (dVar 0) (dC (.int 0))) dNil)))) (dtNot (dtTru (dCallP sp_is_whole (dCons (dOp ixF (dVar 0) (dC (.int 1))) dNil))))) (sRet (dC (.bl false))) sNil) (r_is_ratio_2))
def r_is_ratio_0 : dS :=
  (sSeq (sIf (dtOr (dtNot (dtTru (dIsi "tuple" (dVar 0)))) (dtB (dOp neF (dCB lenF (dCons (dVar 0) dNil)) (dC (.int 2))))) (sRet (dC (.bl false))) sNil) (r_is_ratio_1))
def t_is_ratio : dS :=
  (r_is_ratio_0)
theorem len_is_ratio : ∀ x ds, sp_is_ratio.pre x ds → ds.length = 1 := fun x ds h => by rw [h.1]; rfl
theorem ratio_no2 {es : List D} (h : es.length ≠ 2) : ratioB (.tup es) = false := by
  unfold ratioB
  split
  · rename_i e; injection e with e; subst e; exact absurd rfl h
  · rfl
theorem ratio_noI {x y : D} (h : isI' x = false ∨ isI' y = false) : ratioB (.tup [x, y]) = false := by
  unfold ratioB
  split
  · rename_i e; injection e with e; injection e with e1 e; injection e with e2 e; subst e1; subst e2; rcases h with h | h <;> cases h
  · rfl
theorem isI_int {d : D} (h : isI' d = true) : ∃ i, d = .int i := by
  cases d with
  | int i => exact ⟨i, rfl⟩
  | _ => cases h
theorem w_is_ratio : ∀ x ds, sp_is_ratio.pre x ds → t_is_ratio (endP sp_is_ratio x) (startE nm_is_ratio.length ds) [] := by
  rintro d ds ⟨rfl, hd⟩
  have no : ratioB d = false → (endP sp_is_ratio d).rt (.bl false) [] := fun h => rt_val rfl (by show _ = Out.val (.bl (ratioB d)); rw [h])
  cases d with
  | adr a => unfold noA at hd; cases hd
  | ref a => unfold noA at hd; cases hd
  | box t ds => cases t with
    | dct => simp only [t_is_ratio, r_is_ratio_0, nm_is_ratio, dOp, dUn, dVar, dC, slot, startE, List.map, List.length, List.replicate, List.append, List.cons_append, List.nil_append, List.set, dAnd, dOr, dNot, dtB, dtAnd, dtOr, dtNot, dIf, dtTru, truF, dNil, dCons, dTup, dLst, dCB, sNil, sSeq, sRet, sRetN, sExpr, sIf, sAsg, gN, gT, gsNil, gsCons, gS, sPar, sAug, sWhile, sFor, sBrk, sCont, sNo, sRaise, dCallP_eq, dCallD_eq, List.length_map, List.getElem?_cons_succ, List.getElem?_concat_length, set_last, get_mid, get_mid2, eqF, neF, ltF, leF, gtF, geF, isF, notF, addF, subF, mulF, fdivF, modF, powF, negF, ixF, lenF, tupF, lstF, absF, intF, gcdF, maxF, minF, Rs.to, dIsi, dIsi2, dIsE, tyN, D.isNon, dM1, dM0, srcSeq, srcRng1, srcRng2, dLc, tYesD, iaddF, isBF, notBF, srcZip, srcEnumerate, repF, sumF, allF, anyF, intsOf_map, blsOf_map, dSl, dPart, dNoPart, sliceF, at0, at1, at2, at3, at4, ix0, ix1, ix2, ix3, Dn.g0, Dn.g1, Dn.g2, Dn.g3, Dn.g4, ex_some, decide_true, decide_false, Bool.not_true, Bool.not_false, ite_true, ite_false, if_true, if_false, List.reverse_cons, List.reverse_nil, outPost, wipeE, CTg.set, setAll, appF, extF, revF, popF, Nat.zero_add, Nat.reduceAdd, is_NoneType_int, is_NoneType_bool, is_NoneType_str, is_NoneType_tuple, is_NoneType_list, is_bool_int, is_bool_bool, is_bool_str, is_bool_tuple, is_bool_list, is_int_int, is_int_bool, is_int_str, is_int_tuple, is_int_list, is_str_int, is_str_bool, is_str_str, is_str_tuple, is_str_list, is_tuple_int, is_tuple_bool, is_tuple_str, is_tuple_tuple, is_tuple_list, is_list_int, is_list_bool, is_list_str, is_list_tuple, is_list_list, strF, dDct, repLF, is_dict_int, is_dict_bool, is_dict_str, is_dict_tuple, is_dict_list, is_dict_dict, is_NoneType_dict, is_bool_dict, is_int_dict, is_str_dict, is_tuple_dict, is_list_dict]; exact no rfl
    | ins C fs => unfold noA at hd; cases hd
  | tup es =>
    by_cases hl : es.length = 2
    · match es, hl with
      | [x, y], _ =>
        have hx : noA x = true := by unfold noA at hd; exact noAs_mem hd (by simp)
        have hy : noA y = true := by unfold noA at hd; exact noAs_mem hd (by simp)
        have e2 : (([x, y].length : Nat) : Int) = 2 := rfl
        simp only [t_is_ratio, r_is_ratio_0, r_is_ratio_1, nm_is_ratio, e2, dOp, dUn, dVar, dC, slot, startE, List.map, List.length, List.replicate, List.append, List.cons_append, List.nil_append, List.set, dAnd, dOr, dNot, dtB, dtAnd, dtOr, dtNot, dIf, dtTru, truF, dNil, dCons, dTup, dLst, dCB, sNil, sSeq, sRet, sRetN, sExpr, sIf, sAsg, gN, gT, gsNil, gsCons, gS, sPar, sAug, sWhile, sFor, sBrk, sCont, sNo, sRaise, dCallP_eq, dCallD_eq, List.length_map, List.getElem?_cons_succ, List.getElem?_concat_length, set_last, get_mid, get_mid2, eqF, neF, ltF, leF, gtF, geF, isF, notF, addF, subF, mulF, fdivF, modF, powF, negF, ixF, lenF, tupF, lstF, absF, intF, gcdF, maxF, minF, Rs.to, dIsi, dIsi2, dIsE, tyN, D.isNon, dM1, dM0, srcSeq, srcRng1, srcRng2, dLc, tYesD, iaddF, isBF, notBF, srcZip, srcEnumerate, repF, sumF, allF, anyF, intsOf_map, blsOf_map, dSl, dPart, dNoPart, sliceF, at0, at1, at2, at3, at4, ix0, ix1, ix2, ix3, Dn.g0, Dn.g1, Dn.g2, Dn.g3, Dn.g4, ex_some, decide_true, decide_false, Bool.not_true, Bool.not_false, ite_true, ite_false, if_true, if_false, List.reverse_cons, List.reverse_nil, outPost, wipeE, CTg.set, setAll, appF, extF, revF, popF, Nat.zero_add, Nat.reduceAdd, is_NoneType_int, is_NoneType_bool, is_NoneType_str, is_NoneType_tuple, is_NoneType_list, is_bool_int, is_bool_bool, is_bool_str, is_bool_tuple, is_bool_list, is_int_int, is_int_bool, is_int_str, is_int_tuple, is_int_list, is_str_int, is_str_bool, is_str_str, is_str_tuple, is_str_list, is_tuple_int, is_tuple_bool, is_tuple_str, is_tuple_tuple, is_tuple_list, is_list_int, is_list_bool, is_list_str, is_list_tuple, is_list_list, strF, dDct, repLF, is_dict_int, is_dict_bool, is_dict_str, is_dict_tuple, is_dict_list, is_dict_dict, is_NoneType_dict, is_bool_dict, is_int_dict, is_str_dict, is_tuple_dict, is_list_dict]
        refine useP_whole hx ?_
        cases ix : isI' x with
        | false => simp only [dOp, dUn, dVar, dC, slot, startE, List.map, List.length, List.replicate, List.append, List.cons_append, List.nil_append, List.set, dAnd, dOr, dNot, dtB, dtAnd, dtOr, dtNot, dIf, dtTru, truF, dNil, dCons, dTup, dLst, dCB, sNil, sSeq, sRet, sRetN, sExpr, sIf, sAsg, gN, gT, gsNil, gsCons, gS, sPar, sAug, sWhile, sFor, sBrk, sCont, sNo, sRaise, dCallP_eq, dCallD_eq, List.length_map, List.getElem?_cons_succ, List.getElem?_concat_length, set_last, get_mid, get_mid2, eqF, neF, ltF, leF, gtF, geF, isF, notF, addF, subF, mulF, fdivF, modF, powF, negF, ixF, lenF, tupF, lstF, absF, intF, gcdF, maxF, minF, Rs.to, dIsi, dIsi2, dIsE, tyN, D.isNon, dM1, dM0, srcSeq, srcRng1, srcRng2, dLc, tYesD, iaddF, isBF, notBF, srcZip, srcEnumerate, repF, sumF, allF, anyF, intsOf_map, blsOf_map, dSl, dPart, dNoPart, sliceF, at0, at1, at2, at3, at4, ix0, ix1, ix2, ix3, Dn.g0, Dn.g1, Dn.g2, Dn.g3, Dn.g4, ex_some, decide_true, decide_false, Bool.not_true, Bool.not_false, ite_true, ite_false, if_true, if_false, List.reverse_cons, List.reverse_nil, outPost, wipeE, CTg.set, setAll, appF, extF, revF, popF, Nat.zero_add, Nat.reduceAdd, is_NoneType_int, is_NoneType_bool, is_NoneType_str, is_NoneType_tuple, is_NoneType_list, is_bool_int, is_bool_bool, is_bool_str, is_bool_tuple, is_bool_list, is_int_int, is_int_bool, is_int_str, is_int_tuple, is_int_list, is_str_int, is_str_bool, is_str_str, is_str_tuple, is_str_list, is_tuple_int, is_tuple_bool, is_tuple_str, is_tuple_tuple, is_tuple_list, is_list_int, is_list_bool, is_list_str, is_list_tuple, is_list_list, strF, dDct, repLF, is_dict_int, is_dict_bool, is_dict_str, is_dict_tuple, is_dict_list, is_dict_dict, is_NoneType_dict, is_bool_dict, is_int_dict, is_str_dict, is_tuple_dict, is_list_dict]; exact no (ratio_noI (.inl ix))
        | true =>
          refine useP_whole hy ?_
          cases iy : isI' y with
          | false => simp only [dOp, dUn, dVar, dC, slot, startE, List.map, List.length, List.replicate, List.append, List.cons_append, List.nil_append, List.set, dAnd, dOr, dNot, dtB, dtAnd, dtOr, dtNot, dIf, dtTru, truF, dNil, dCons, dTup, dLst, dCB, sNil, sSeq, sRet, sRetN, sExpr, sIf, sAsg, gN, gT, gsNil, gsCons, gS, sPar, sAug, sWhile, sFor, sBrk, sCont, sNo, sRaise, dCallP_eq, dCallD_eq, List.length_map, List.getElem?_cons_succ, List.getElem?_concat_length, set_last, get_mid, get_mid2, eqF, neF, ltF, leF, gtF, geF, isF, notF, addF, subF, mulF, fdivF, modF, powF, negF, ixF, lenF, tupF, lstF, absF, intF, gcdF, maxF, minF, Rs.to, dIsi, dIsi2, dIsE, tyN, D.isNon, dM1, dM0, srcSeq, srcRng1, srcRng2, dLc, tYesD, iaddF, isBF, notBF, srcZip, srcEnumerate, repF, sumF, allF, anyF, intsOf_map, blsOf_map, dSl, dPart, dNoPart, sliceF, at0, at1, at2, at3, at4, ix0, ix1, ix2, ix3, Dn.g0, Dn.g1, Dn.g2, Dn.g3, Dn.g4, ex_some, decide_true, decide_false, Bool.not_true, Bool.not_false, ite_true, ite_false, if_true, if_false, List.reverse_cons, List.reverse_nil, outPost, wipeE, CTg.set, setAll, appF, extF, revF, popF, Nat.zero_add, Nat.reduceAdd, is_NoneType_int, is_NoneType_bool, is_NoneType_str, is_NoneType_tuple, is_NoneType_list, is_bool_int, is_bool_bool, is_bool_str, is_bool_tuple, is_bool_list, is_int_int, is_int_bool, is_int_str, is_int_tuple, is_int_list, is_str_int, is_str_bool, is_str_str, is_str_tuple, is_str_list, is_tuple_int, is_tuple_bool, is_tuple_str, is_tuple_tuple, is_tuple_list, is_list_int, is_list_bool, is_list_str, is_list_tuple, is_list_list, strF, dDct, repLF, is_dict_int, is_dict_bool, is_dict_str, is_dict_tuple, is_dict_list, is_dict_dict, is_NoneType_dict, is_bool_dict, is_int_dict, is_str_dict, is_tuple_dict, is_list_dict]; exact no (ratio_noI (.inr iy))
          | true =>
            obtain ⟨i, rfl⟩ := isI_int ix
            obtain ⟨j, rfl⟩ := isI_int iy
            simp only [r_is_ratio_2, dOp, dUn, dVar, dC, slot, startE, List.map, List.length, List.replicate, List.append, List.cons_append, List.nil_append, List.set, dAnd, dOr, dNot, dtB, dtAnd, dtOr, dtNot, dIf, dtTru, truF, dNil, dCons, dTup, dLst, dCB, sNil, sSeq, sRet, sRetN, sExpr, sIf, sAsg, gN, gT, gsNil, gsCons, gS, sPar, sAug, sWhile, sFor, sBrk, sCont, sNo, sRaise, dCallP_eq, dCallD_eq, List.length_map, List.getElem?_cons_succ, List.getElem?_concat_length, set_last, get_mid, get_mid2, eqF, neF, ltF, leF, gtF, geF, isF, notF, addF, subF, mulF, fdivF, modF, powF, negF, ixF, lenF, tupF, lstF, absF, intF, gcdF, maxF, minF, Rs.to, dIsi, dIsi2, dIsE, tyN, D.isNon, dM1, dM0, srcSeq, srcRng1, srcRng2, dLc, tYesD, iaddF, isBF, notBF, srcZip, srcEnumerate, repF, sumF, allF, anyF, intsOf_map, blsOf_map, dSl, dPart, dNoPart, sliceF, at0, at1, at2, at3, at4, ix0, ix1, ix2, ix3, Dn.g0, Dn.g1, Dn.g2, Dn.g3, Dn.g4, ex_some, decide_true, decide_false, Bool.not_true, Bool.not_false, ite_true, ite_false, if_true, if_false, List.reverse_cons, List.reverse_nil, outPost, wipeE, CTg.set, setAll, appF, extF, revF, popF, Nat.zero_add, Nat.reduceAdd, is_NoneType_int, is_NoneType_bool, is_NoneType_str, is_NoneType_tuple, is_NoneType_list, is_bool_int, is_bool_bool, is_bool_str, is_bool_tuple, is_bool_list, is_int_int, is_int_bool, is_int_str, is_int_tuple, is_int_list, is_str_int, is_str_bool, is_str_str, is_str_tuple, is_str_list, is_tuple_int, is_tuple_bool, is_tuple_str, is_tuple_tuple, is_tuple_list, is_list_int, is_list_bool, is_list_str, is_list_tuple, is_list_list, strF, dDct, repLF, is_dict_int, is_dict_bool, is_dict_str, is_dict_tuple, is_dict_list, is_dict_dict, is_NoneType_dict, is_bool_dict, is_int_dict, is_str_dict, is_tuple_dict, is_list_dict]
            by_cases h : 1 ≤ j
            · simp only [h, decide_true]
              refine rt_val rfl ?_
              show _ = Out.val (.bl (decide (1 ≤ j) && decide (Nat.gcd i.natAbs j.natAbs = 1)))
              rw [decide_eq_true h, Bool.true_and]
              congr 2
              exact decide_eq_decide.mpr (by omega)
            · simp only [h, decide_false]
              exact no (by show (decide (1 ≤ j) && _) = false; rw [decide_eq_false h]; rfl)
    · have hl2 : ¬ (es.length : Int) = 2 := by omega
      simp only [t_is_ratio, r_is_ratio_0, nm_is_ratio, hl2, dOp, dUn, dVar, dC, slot, startE, List.map, List.length, List.replicate, List.append, List.cons_append, List.nil_append, List.set, dAnd, dOr, dNot, dtB, dtAnd, dtOr, dtNot, dIf, dtTru, truF, dNil, dCons, dTup, dLst, dCB, sNil, sSeq, sRet, sRetN, sExpr, sIf, sAsg, gN, gT, gsNil, gsCons, gS, sPar, sAug, sWhile, sFor, sBrk, sCont, sNo, sRaise, dCallP_eq, dCallD_eq, List.length_map, List.getElem?_cons_succ, List.getElem?_concat_length, set_last, get_mid, get_mid2, eqF, neF, ltF, leF, gtF, geF, isF, notF, addF, subF, mulF, fdivF, modF, powF, negF, ixF, lenF, tupF, lstF, absF, intF, gcdF, maxF, minF, Rs.to, dIsi, dIsi2, dIsE, tyN, D.isNon, dM1, dM0, srcSeq, srcRng1, srcRng2, dLc, tYesD, iaddF, isBF, notBF, srcZip, srcEnumerate, repF, sumF, allF, anyF, intsOf_map, blsOf_map, dSl, dPart, dNoPart, sliceF, at0, at1, at2, at3, at4, ix0, ix1, ix2, ix3, Dn.g0, Dn.g1, Dn.g2, Dn.g3, Dn.g4, ex_some, decide_true, decide_false, Bool.not_true, Bool.not_false, ite_true, ite_false, if_true, if_false, List.reverse_cons, List.reverse_nil, outPost, wipeE, CTg.set, setAll, appF, extF, revF, popF, Nat.zero_add, Nat.reduceAdd, is_NoneType_int, is_NoneType_bool, is_NoneType_str, is_NoneType_tuple, is_NoneType_list, is_bool_int, is_bool_bool, is_bool_str, is_bool_tuple, is_bool_list, is_int_int, is_int_bool, is_int_str, is_int_tuple, is_int_list, is_str_int, is_str_bool, is_str_str, is_str_tuple, is_str_list, is_tuple_int, is_tuple_bool, is_tuple_str, is_tuple_tuple, is_tuple_list, is_list_int, is_list_bool, is_list_str, is_list_tuple, is_list_list, strF, dDct, repLF, is_dict_int, is_dict_bool, is_dict_str, is_dict_tuple, is_dict_list, is_dict_dict, is_NoneType_dict, is_bool_dict, is_int_dict, is_str_dict, is_tuple_dict, is_list_dict]
      exact no (ratio_no2 hl)
  | _ => simp only [t_is_ratio, r_is_ratio_0, nm_is_ratio, dOp, dUn, dVar, dC, slot, startE, List.map, List.length, List.replicate, List.append, List.cons_append, List.nil_append, List.set, dAnd, dOr, dNot, dtB, dtAnd, dtOr, dtNot, dIf, dtTru, truF, dNil, dCons, dTup, dLst, dCB, sNil, sSeq, sRet, sRetN, sExpr, sIf, sAsg, gN, gT, gsNil, gsCons, gS, sPar, sAug, sWhile, sFor, sBrk, sCont, sNo, sRaise, dCallP_eq, dCallD_eq, List.length_map, List.getElem?_cons_succ, List.getElem?_concat_length, set_last, get_mid, get_mid2, eqF, neF, ltF, leF, gtF, geF, isF, notF, addF, subF, mulF, fdivF, modF, powF, negF, ixF, lenF, tupF, lstF, absF, intF, gcdF, maxF, minF, Rs.to, dIsi, dIsi2, dIsE, tyN, D.isNon, dM1, dM0, srcSeq, srcRng1, srcRng2, dLc, tYesD, iaddF, isBF, notBF, srcZip, srcEnumerate, repF, sumF, allF, anyF, intsOf_map, blsOf_map, dSl, dPart, dNoPart, sliceF, at0, at1, at2, at3, at4, ix0, ix1, ix2, ix3, Dn.g0, Dn.g1, Dn.g2, Dn.g3, Dn.g4, ex_some, decide_true, decide_false, Bool.not_true, Bool.not_false, ite_true, ite_false, if_true, if_false, List.reverse_cons, List.reverse_nil, outPost, wipeE, CTg.set, setAll, appF, extF, revF, popF, Nat.zero_add, Nat.reduceAdd, is_NoneType_int, is_NoneType_bool, is_NoneType_str, is_NoneType_tuple, is_NoneType_list, is_bool_int, is_bool_bool, is_bool_str, is_bool_tuple, is_bool_list, is_int_int, is_int_bool, is_int_str, is_int_tuple, is_int_list, is_str_int, is_str_bool, is_str_str, is_str_tuple, is_str_list, is_tuple_int, is_tuple_bool, is_tuple_str, is_tuple_tuple, is_tuple_list, is_list_int, is_list_bool, is_list_str, is_list_tuple, is_list_list, strF, dDct, repLF, is_dict_int, is_dict_bool, is_dict_str, is_dict_tuple, is_dict_list, is_dict_dict, is_NoneType_dict, is_bool_dict, is_int_dict, is_str_dict, is_tuple_dict, is_list_dict]; exact no rfl

theorem ok_is_ratio (T : Txt K mg) : Ok P w K mg base 2 "is_ratio" ["pair"] (spP K mg sp_is_ratio) :=
  okOf T.d_is_ratio fun f fd F => fnP (k := 1) sp_is_ratio t_is_ratio F sc_is_ratio (fun x ds hp => len_is_ratio x ds hp) (fun cdv A outer s H E hr z => by
    have hu := hr.units; have hnd := sc_is_ratio.nd
    unfold t_is_ratio r_is_ratio_0 r_is_ratio_1 r_is_ratio_2
    exact (dss_cons (ds_if (dw_pt (dw_or (dt_not (dt_tru (de_isi kit_tuple rfl T.b_isinstance rfl T.b_tuple (by decide +kernel) (by decide) (by decide) (de_var 0 rfl (by walk_at "vis") (by decide) (by decide)) rfl rfl rfl) (fun _ => rfl))) (dw_or1 (dt_cmp (op_neA hu) od_ne (de_callB (f := lenF) call_len_seq cd_len rfl T.b_len (by decide +kernel) (da_cons (de_var 0 rfl (by walk_at "vis") (by decide) (by decide)) da_nil rfl) (by decide) (by decide) rfl rfl) de_int (nomark _))))) (dss_one (ds_ret de_bl)) dss_nil)
    (dss_cons (ds_if (dw_pt (dw_or (dt_not (dt_tru (dn_callP ((ok_is_whole (P := P) (w := w) (base := base) T).mono (by decide)) hr (takes_of rfl rfl rfl rfl) rfl (by decide) (da_cons (de_ix (de_var 0 rfl (by walk_at "vis") (by decide) (by decide)) de_int (fun _ _ => rfl)) da_nil rfl) rfl rfl) (fun _ => rfl))) (dw_or1 (dt_not (dt_tru (dn_callP ((ok_is_whole (P := P) (w := w) (base := base) T).mono (by decide)) hr (takes_of rfl rfl rfl rfl) rfl (by decide) (da_cons (de_ix (de_var 0 rfl (by walk_at "vis") (by decide) (by decide)) de_int (fun _ _ => rfl)) da_nil rfl) rfl rfl) (fun _ => rfl)))))) (dss_one (ds_ret de_bl)) dss_nil)
    (dss_one (ds_ret (de_and (de_ge (de_ix (de_var 0 rfl (by walk_at "vis") (by decide) (by decide)) de_int (fun _ _ => rfl)) de_int) (de_one (de_eq hu (de_callF (f := gcdF) cr_gcd cd_gcd rfl T.m_gcd (da_cons (de_ix (de_var 0 rfl (by walk_at "vis") (by decide) (by decide)) de_int (fun _ _ => rfl)) (da_cons (de_ix (de_var 0 rfl (by walk_at "vis") (by decide) (by decide)) de_int (fun _ _ => rfl)) da_nil rfl) rfl) (by decide) rfl rfl) de_int)))))))) w_is_ratio
/-! ### _law_is_ratio -/
def sp__law_is_ratio : Spc D where
  pre := fun x ds => ds = [x] ∧ noA x = true
  res := fun x o => o = .val (.bl (ratioB x))
  exc := fun _ _ => False

def r__law_is_ratio_1 : dS :=
  (sRet (dAnd (dOp geF (dOp ixF (dVar 0) (dC (.int 1))) (dC (.int 1))) (dOp eqF (dCallP sp__law_gcd (dCons (dOp ixF (dVar 0) (dC (.int 0))) (dCons (dOp ixF (dVar 0) (dC (.int 1))) dNil))) (dC (.int 1)))))
def r__law_is_ratio_0 : dS :=
  (sSeq (sIf (dtOr (dtNot (dtTru (dIsi "tuple" (dVar 0)))) (dtOr (dtB (dOp neF (dCB lenF (dCons (dVar 0) dNil)) (dC (.int 2)))) (dtOr (dtNot (dtTru (dCallP sp__law_whole (dCons (dOp ixF (dVar 0) (dC (.int 0))) dNil)))) (dtNot (dtTru (dCallP sp__law_whole (dCons (dOp ixF (dVar 0) (dC (.int 1))) dNil))))))) (sRet (dC (.bl false))) sNil) (r__law_is_ratio_1))
def t__law_is_ratio : dS :=
  (r__law_is_ratio_0)
theorem len__law_is_ratio : ∀ x ds, sp__law_is_ratio.pre x ds → ds.length = 1 := fun x ds h => by rw [h.1]; rfl
theorem useP_lwhole {d : D} {h : Hh} {Q : D → Hh → Prop} {E : XK'} (hd : noA d = true) (q : Q (.bl (isI' d)) h) : useP sp__law_whole [d] h Q E :=
  useP_mk d [d] (.cons (view_noA hd) .nil) ⟨rfl, noA_adr hd⟩ (fun o ho _ => by rw [ho]; exact q) (fun _ q => q)
theorem w__law_is_ratio : ∀ x ds, sp__law_is_ratio.pre x ds → t__law_is_ratio (endP sp__law_is_ratio x) (startE nm__law_is_ratio.length ds) [] := by
  rintro d ds ⟨rfl, hd⟩
  have no : ratioB d = false → (endP sp__law_is_ratio d).rt (.bl false) [] := fun h => rt_val rfl (by show _ = Out.val (.bl (ratioB d)); rw [h])
  cases d with
  | adr a => unfold noA at hd; cases hd
  | ref a => unfold noA at hd; cases hd
  | box t ds => cases t with
    | dct => simp only [t__law_is_ratio, r__law_is_ratio_0, nm__law_is_ratio, dOp, dUn, dVar, dC, slot, startE, List.map, List.length, List.replicate, List.append, List.cons_append, List.nil_append, List.set, dAnd, dOr, dNot, dtB, dtAnd, dtOr, dtNot, dIf, dtTru, truF, dNil, dCons, dTup, dLst, dCB, sNil, sSeq, sRet, sRetN, sExpr, sIf, sAsg, gN, gT, gsNil, gsCons, gS, sPar, sAug, sWhile, sFor, sBrk, sCont, sNo, sRaise, dCallP_eq, dCallD_eq, List.length_map, List.getElem?_cons_succ, List.getElem?_concat_length, set_last, get_mid, get_mid2, eqF, neF, ltF, leF, gtF, geF, isF, notF, addF, subF, mulF, fdivF, modF, powF, negF, ixF, lenF, tupF, lstF, absF, intF, gcdF, maxF, minF, Rs.to, dIsi, dIsi2, dIsE, tyN, D.isNon, dM1, dM0, srcSeq, srcRng1, srcRng2, dLc, tYesD, iaddF, isBF, notBF, srcZip, srcEnumerate, repF, sumF, allF, anyF, intsOf_map, blsOf_map, dSl, dPart, dNoPart, sliceF, at0, at1, at2, at3, at4, ix0, ix1, ix2, ix3, Dn.g0, Dn.g1, Dn.g2, Dn.g3, Dn.g4, ex_some, decide_true, decide_false, Bool.not_true, Bool.not_false, ite_true, ite_false, if_true, if_false, List.reverse_cons, List.reverse_nil, outPost, wipeE, CTg.set, setAll, appF, extF, revF, popF, Nat.zero_add, Nat.reduceAdd, is_NoneType_int, is_NoneType_bool, is_NoneType_str, is_NoneType_tuple, is_NoneType_list, is_bool_int, is_bool_bool, is_bool_str, is_bool_tuple, is_bool_list, is_int_int, is_int_bool, is_int_str, is_int_tuple, is_int_list, is_str_int, is_str_bool, is_str_str, is_str_tuple, is_str_list, is_tuple_int, is_tuple_bool, is_tuple_str, is_tuple_tuple, is_tuple_list, is_list_int, is_list_bool, is_list_str, is_list_tuple, is_list_list, strF, dDct, repLF, is_dict_int, is_dict_bool, is_dict_str, is_dict_tuple, is_dict_list, is_dict_dict, is_NoneType_dict, is_bool_dict, is_int_dict, is_str_dict, is_tuple_dict, is_list_dict]; exact no rfl
    | ins C fs => unfold noA at hd; cases hd
  | tup es =>
    by_cases hl : es.length = 2
    · match es, hl with
      | [x, y], _ =>
        have hx : noA x = true := by unfold noA at hd; exact noAs_mem hd (by simp)
        have hy : noA y = true := by unfold noA at hd; exact noAs_mem hd (by simp)
        have e2 : (([x, y].length : Nat) : Int) = 2 := rfl
        simp only [t__law_is_ratio, r__law_is_ratio_0, nm__law_is_ratio, e2, dOp, dUn, dVar, dC, slot, startE, List.map, List.length, List.replicate, List.append, List.cons_append, List.nil_append, List.set, dAnd, dOr, dNot, dtB, dtAnd, dtOr, dtNot, dIf, dtTru, truF, dNil, dCons, dTup, dLst, dCB, sNil, sSeq, sRet, sRetN, sExpr, sIf, sAsg, gN, gT, gsNil, gsCons, gS, sPar, sAug, sWhile, sFor, sBrk, sCont, sNo, sRaise, dCallP_eq, dCallD_eq, List.length_map, List.getElem?_cons_succ, List.getElem?_concat_length, set_last, get_mid, get_mid2, eqF, neF, ltF, leF, gtF, geF, isF, notF, addF, subF, mulF, fdivF, modF, powF, negF, ixF, lenF, tupF, lstF, absF, intF, gcdF, maxF, minF, Rs.to, dIsi, dIsi2, dIsE, tyN, D.isNon, dM1, dM0, srcSeq, srcRng1, srcRng2, dLc, tYesD, iaddF, isBF, notBF, srcZip, srcEnumerate, repF, sumF, allF, anyF, intsOf_map, blsOf_map, dSl, dPart, dNoPart, sliceF, at0, at1, at2, at3, at4, ix0, ix1, ix2, ix3, Dn.g0, Dn.g1, Dn.g2, Dn.g3, Dn.g4, ex_some, decide_true, decide_false, Bool.not_true, Bool.not_false, ite_true, ite_false, if_true, if_false, List.reverse_cons, List.reverse_nil, outPost, wipeE, CTg.set, setAll, appF, extF, revF, popF, Nat.zero_add, Nat.reduceAdd, is_NoneType_int, is_NoneType_bool, is_NoneType_str, is_NoneType_tuple, is_NoneType_list, is_bool_int, is_bool_bool, is_bool_str, is_bool_tuple, is_bool_list, is_int_int, is_int_bool, is_int_str, is_int_tuple, is_int_list, is_str_int, is_str_bool, is_str_str, is_str_tuple, is_str_list, is_tuple_int, is_tuple_bool, is_tuple_str, is_tuple_tuple, is_tuple_list, is_list_int, is_list_bool, is_list_str, is_list_tuple, is_list_list, strF, dDct, repLF, is_dict_int, is_dict_bool, is_dict_str, is_dict_tuple, is_dict_list, is_dict_dict, is_NoneType_dict, is_bool_dict, is_int_dict, is_str_dict, is_tuple_dict, is_list_dict]
        refine useP_lwhole hx ?_
        cases ix : isI' x with
        | false => simp only [dOp, dUn, dVar, dC, slot, startE, List.map, List.length, List.replicate, List.append, List.cons_append, List.nil_append, List.set, dAnd, dOr, dNot, dtB, dtAnd, dtOr, dtNot, dIf, dtTru, truF, dNil, dCons, dTup, dLst, dCB, sNil, sSeq, sRet, sRetN, sExpr, sIf, sAsg, gN, gT, gsNil, gsCons, gS, sPar, sAug, sWhile, sFor, sBrk, sCont, sNo, sRaise, dCallP_eq, dCallD_eq, List.length_map, List.getElem?_cons_succ, List.getElem?_concat_length, set_last, get_mid, get_mid2, eqF, neF, ltF, leF, gtF, geF, isF, notF, addF, subF, mulF, fdivF, modF, powF, negF, ixF, lenF, tupF, lstF, absF, intF, gcdF, maxF, minF, Rs.to, dIsi, dIsi2, dIsE, tyN, D.isNon, dM1, dM0, srcSeq, srcRng1, srcRng2, dLc, tYesD, iaddF, isBF, notBF, srcZip, srcEnumerate, repF, sumF, allF, anyF, intsOf_map, blsOf_map, dSl, dPart, dNoPart, sliceF, at0, at1, at2, at3, at4, ix0, ix1, ix2, ix3, Dn.g0, Dn.g1, Dn.g2, Dn.g3, Dn.g4, ex_some, decide_true, decide_false, Bool.not_true, Bool.not_false, ite_true, ite_false, if_true, if_false, List.reverse_cons, List.reverse_nil, outPost, wipeE, CTg.set, setAll, appF, extF, revF, popF, Nat.zero_add, Nat.reduceAdd, is_NoneType_int, is_NoneType_bool, is_NoneType_str, is_NoneType_tuple, is_NoneType_list, is_bool_int, is_bool_bool, is_bool_str, is_bool_tuple, is_bool_list, is_int_int, is_int_bool, is_int_str, is_int_tuple, is_int_list, is_str_int, is_str_bool, is_str_str, is_str_tuple, is_str_list, is_tuple_int, is_tuple_bool, is_tuple_str, is_tuple_tuple, is_tuple_list, is_list_int, is_list_bool, is_list_str, is_list_tuple, is_list_list, strF, dDct, repLF, is_dict_int, is_dict_bool, is_dict_str, is_dict_tuple, is_dict_list, is_dict_dict, is_NoneType_dict, is_bool_dict, is_int_dict, is_str_dict, is_tuple_dict, is_list_dict]; exact no (ratio_noI (.inl ix))
        | true =>
          refine useP_lwhole hy ?_
          cases iy : isI' y with
          | false => simp only [dOp, dUn, dVar, dC, slot, startE, List.map, List.length, List.replicate, List.append, List.cons_append, List.nil_append, List.set, dAnd, dOr, dNot, dtB, dtAnd, dtOr, dtNot, dIf, dtTru, truF, dNil, dCons, dTup, dLst, dCB, sNil, sSeq, sRet, sRetN, sExpr, sIf, sAsg, gN, gT, gsNil, gsCons, gS, sPar, sAug, sWhile, sFor, sBrk, sCont, sNo, sRaise, dCallP_eq, dCallD_eq, List.length_map, List.getElem?_cons_succ, List.getElem?_concat_length, set_last, get_mid, get_mid2, eqF, neF, ltF, leF, gtF, geF, isF, notF, addF, subF, mulF, fdivF, modF, powF, negF, ixF, lenF, tupF, lstF, absF, intF, gcdF, maxF, minF, Rs.to, dIsi, dIsi2, dIsE, tyN, D.isNon, dM1, dM0, srcSeq, srcRng1, srcRng2, dLc, tYesD, iaddF, isBF, notBF, srcZip, srcEnumerate, repF, sumF, allF, anyF, intsOf_map, blsOf_map, dSl, dPart, dNoPart, sliceF, at0, at1, at2, at3, at4, ix0, ix1, ix2, ix3, Dn.g0, Dn.g1, Dn.g2, Dn.g3, Dn.g4, ex_some, decide_true, decide_false, Bool.not_true, Bool.not_false, ite_true, ite_false, if_true, if_false, List.reverse_cons, List.reverse_nil, outPost, wipeE, CTg.set, setAll, appF, extF, revF, popF, Nat.zero_add, Nat.reduceAdd, is_NoneType_int, is_NoneType_bool, is_NoneType_str, is_NoneType_tuple, is_NoneType_list, is_bool_int, is_bool_bool, is_bool_str, is_bool_tuple, is_bool_list, is_int_int, is_int_bool, is_int_str, is_int_tuple, is_int_list, is_str_int, is_str_bool, is_str_str, is_str_tuple, is_str_list, is_tuple_int, is_tuple_bool, is_tuple_str, is_tuple_tuple, is_tuple_list, is_list_int, is_list_bool, is_list_str, is_list_tuple, is_list_list, strF, dDct, repLF, is_dict_int, is_dict_bool, is_dict_str, is_dict_tuple, is_dict_list, is_dict_dict, is_NoneType_dict, is_bool_dict, is_int_dict, is_str_dict, is_tuple_dict, is_list_dict]; exact no (ratio_noI (.inr iy))
          | true =>
            obtain ⟨i, rfl⟩ := isI_int ix
            obtain ⟨j, rfl⟩ := isI_int iy
            simp only [r__law_is_ratio_1, dOp, dUn, dVar, dC, slot, startE, List.map, List.length, List.replicate, List.append, List.cons_append, List.nil_append, List.set, dAnd, dOr, dNot, dtB, dtAnd, dtOr, dtNot, dIf, dtTru, truF, dNil, dCons, dTup, dLst, dCB, sNil, sSeq, sRet, sRetN, sExpr, sIf, sAsg, gN, gT, gsNil, gsCons, gS, sPar, sAug, sWhile, sFor, sBrk, sCont, sNo, sRaise, dCallP_eq, dCallD_eq, List.length_map, List.getElem?_cons_succ, List.getElem?_concat_length, set_last, get_mid, get_mid2, eqF, neF, ltF, leF, gtF, geF, isF, notF, addF, subF, mulF, fdivF, modF, powF, negF, ixF, lenF, tupF, lstF, absF, intF, gcdF, maxF, minF, Rs.to, dIsi, dIsi2, dIsE, tyN, D.isNon, dM1, dM0, srcSeq, srcRng1, srcRng2, dLc, tYesD, iaddF, isBF, notBF, srcZip, srcEnumerate, repF, sumF, allF, anyF, intsOf_map, blsOf_map, dSl, dPart, dNoPart, sliceF, at0, at1, at2, at3, at4, ix0, ix1, ix2, ix3, Dn.g0, Dn.g1, Dn.g2, Dn.g3, Dn.g4, ex_some, decide_true, decide_false, Bool.not_true, Bool.not_false, ite_true, ite_false, if_true, if_false, List.reverse_cons, List.reverse_nil, outPost, wipeE, CTg.set, setAll, appF, extF, revF, popF, Nat.zero_add, Nat.reduceAdd, is_NoneType_int, is_NoneType_bool, is_NoneType_str, is_NoneType_tuple, is_NoneType_list, is_bool_int, is_bool_bool, is_bool_str, is_bool_tuple, is_bool_list, is_int_int, is_int_bool, is_int_str, is_int_tuple, is_int_list, is_str_int, is_str_bool, is_str_str, is_str_tuple, is_str_list, is_tuple_int, is_tuple_bool, is_tuple_str, is_tuple_tuple, is_tuple_list, is_list_int, is_list_bool, is_list_str, is_list_tuple, is_list_list, strF, dDct, repLF, is_dict_int, is_dict_bool, is_dict_str, is_dict_tuple, is_dict_list, is_dict_dict, is_NoneType_dict, is_bool_dict, is_int_dict, is_str_dict, is_tuple_dict, is_list_dict]
            by_cases h : 1 ≤ j
            · simp only [h, decide_true]
              refine useP_val (i, j) _ rfl rfl (fun o q => q) (fun ex q => q) ?_
              simp only [dOp, dUn, dVar, dC, slot, startE, List.map, List.length, List.replicate, List.append, List.cons_append, List.nil_append, List.set, dAnd, dOr, dNot, dtB, dtAnd, dtOr, dtNot, dIf, dtTru, truF, dNil, dCons, dTup, dLst, dCB, sNil, sSeq, sRet, sRetN, sExpr, sIf, sAsg, gN, gT, gsNil, gsCons, gS, sPar, sAug, sWhile, sFor, sBrk, sCont, sNo, sRaise, dCallP_eq, dCallD_eq, List.length_map, List.getElem?_cons_succ, List.getElem?_concat_length, set_last, get_mid, get_mid2, eqF, neF, ltF, leF, gtF, geF, isF, notF, addF, subF, mulF, fdivF, modF, powF, negF, ixF, lenF, tupF, lstF, absF, intF, gcdF, maxF, minF, Rs.to, dIsi, dIsi2, dIsE, tyN, D.isNon, dM1, dM0, srcSeq, srcRng1, srcRng2, dLc, tYesD, iaddF, isBF, notBF, srcZip, srcEnumerate, repF, sumF, allF, anyF, intsOf_map, blsOf_map, dSl, dPart, dNoPart, sliceF, at0, at1, at2, at3, at4, ix0, ix1, ix2, ix3, Dn.g0, Dn.g1, Dn.g2, Dn.g3, Dn.g4, ex_some, decide_true, decide_false, Bool.not_true, Bool.not_false, ite_true, ite_false, if_true, if_false, List.reverse_cons, List.reverse_nil, outPost, wipeE, CTg.set, setAll, appF, extF, revF, popF, Nat.zero_add, Nat.reduceAdd, is_NoneType_int, is_NoneType_bool, is_NoneType_str, is_NoneType_tuple, is_NoneType_list, is_bool_int, is_bool_bool, is_bool_str, is_bool_tuple, is_bool_list, is_int_int, is_int_bool, is_int_str, is_int_tuple, is_int_list, is_str_int, is_str_bool, is_str_str, is_str_tuple, is_str_list, is_tuple_int, is_tuple_bool, is_tuple_str, is_tuple_tuple, is_tuple_list, is_list_int, is_list_bool, is_list_str, is_list_tuple, is_list_list, strF, dDct, repLF, is_dict_int, is_dict_bool, is_dict_str, is_dict_tuple, is_dict_list, is_dict_dict, is_NoneType_dict, is_bool_dict, is_int_dict, is_str_dict, is_tuple_dict, is_list_dict]
              refine rt_val rfl ?_
              show _ = Out.val (.bl (decide (1 ≤ j) && decide (Nat.gcd i.natAbs j.natAbs = 1)))
              rw [decide_eq_true h, Bool.true_and]
              congr 2
              exact decide_eq_decide.mpr (by omega)
            · simp only [h, decide_false]
              exact no (by show (decide (1 ≤ j) && _) = false; rw [decide_eq_false h]; rfl)
    · have hl2 : ¬ (es.length : Int) = 2 := by omega
      simp only [t__law_is_ratio, r__law_is_ratio_0, nm__law_is_ratio, hl2, dOp, dUn, dVar, dC, slot, startE, List.map, List.length, List.replicate, List.append, List.cons_append, List.nil_append, List.set, dAnd, dOr, dNot, dtB, dtAnd, dtOr, dtNot, dIf, dtTru, truF, dNil, dCons, dTup, dLst, dCB, sNil, sSeq, sRet, sRetN, sExpr, sIf, sAsg, gN, gT, gsNil, gsCons, gS, sPar, sAug, sWhile, sFor, sBrk, sCont, sNo, sRaise, dCallP_eq, dCallD_eq, List.length_map, List.getElem?_cons_succ, List.getElem?_concat_length, set_last, get_mid, get_mid2, eqF, neF, ltF, leF, gtF, geF, isF, notF, addF, subF, mulF, fdivF, modF, powF, negF, ixF, lenF, tupF, lstF, absF, intF, gcdF, maxF, minF, Rs.to, dIsi, dIsi2, dIsE, tyN, D.isNon, dM1, dM0, srcSeq, srcRng1, srcRng2, dLc, tYesD, iaddF, isBF, notBF, srcZip, srcEnumerate, repF, sumF, allF, anyF, intsOf_map, blsOf_map, dSl, dPart, dNoPart, sliceF, at0, at1, at2, at3, at4, ix0, ix1, ix2, ix3, Dn.g0, Dn.g1, Dn.g2, Dn.g3, Dn.g4, ex_some, decide_true, decide_false, Bool.not_true, Bool.not_false, ite_true, ite_false, if_true, if_false, List.reverse_cons, List.reverse_nil, outPost, wipeE, CTg.set, setAll, appF, extF, revF, popF, Nat.zero_add, Nat.reduceAdd, is_NoneType_int, is_NoneType_bool, is_NoneType_str, is_NoneType_tuple, is_NoneType_list, is_bool_int, is_bool_bool, is_bool_str, is_bool_tuple, is_bool_list, is_int_int, is_int_bool, is_int_str, is_int_tuple, is_int_list, is_str_int, is_str_bool, is_str_str, is_str_tuple, is_str_list, is_tuple_int, is_tuple_bool, is_tuple_str, is_tuple_tuple, is_tuple_list, is_list_int, is_list_bool, is_list_str, is_list_tuple, is_list_list, strF, dDct, repLF, is_dict_int, is_dict_bool, is_dict_str, is_dict_tuple, is_dict_list, is_dict_dict, is_NoneType_dict, is_bool_dict, is_int_dict, is_str_dict, is_tuple_dict, is_list_dict]
      exact no (ratio_no2 hl)
  | _ => simp only [t__law_is_ratio, r__law_is_ratio_0, nm__law_is_ratio, dOp, dUn, dVar, dC, slot, startE, List.map, List.length, List.replicate, List.append, List.cons_append, List.nil_append, List.set, dAnd, dOr, dNot, dtB, dtAnd, dtOr, dtNot, dIf, dtTru, truF, dNil, dCons, dTup, dLst, dCB, sNil, sSeq, sRet, sRetN, sExpr, sIf, sAsg, gN, gT, gsNil, gsCons, gS, sPar, sAug, sWhile, sFor, sBrk, sCont, sNo, sRaise, dCallP_eq, dCallD_eq, List.length_map, List.getElem?_cons_succ, List.getElem?_concat_length, set_last, get_mid, get_mid2, eqF, neF, ltF, leF, gtF, geF, isF, notF, addF, subF, mulF, fdivF, modF, powF, negF, ixF, lenF, tupF, lstF, absF, intF, gcdF, maxF, minF, Rs.to, dIsi, dIsi2, dIsE, tyN, D.isNon, dM1, dM0, srcSeq, srcRng1, srcRng2, dLc, tYesD, iaddF, isBF, notBF, srcZip, srcEnumerate, repF, sumF, allF, anyF, intsOf_map, blsOf_map, dSl, dPart, dNoPart, sliceF, at0, at1, at2, at3, at4, ix0, ix1, ix2, ix3, Dn.g0, Dn.g1, Dn.g2, Dn.g3, Dn.g4, ex_some, decide_true, decide_false, Bool.not_true, Bool.not_false, ite_true, ite_false, if_true, if_false, List.reverse_cons, List.reverse_nil, outPost, wipeE, CTg.set, setAll, appF, extF, revF, popF, Nat.zero_add, Nat.reduceAdd, is_NoneType_int, is_NoneType_bool, is_NoneType_str, is_NoneType_tuple, is_NoneType_list, is_bool_int, is_bool_bool, is_bool_str, is_bool_tuple, is_bool_list, is_int_int, is_int_bool, is_int_str, is_int_tuple, is_int_list, is_str_int, is_str_bool, is_str_str, is_str_tuple, is_str_list, is_tuple_int, is_tuple_bool, is_tuple_str, is_tuple_tuple, is_tuple_list, is_list_int, is_list_bool, is_list_str, is_list_tuple, is_list_list, strF, dDct, repLF, is_dict_int, is_dict_bool, is_dict_str, is_dict_tuple, is_dict_list, is_dict_dict, is_NoneType_dict, is_bool_dict, is_int_dict, is_str_dict, is_tuple_dict, is_list_dict]; exact no rfl

theorem ok__law_is_ratio (T : Txt K mg) : Ok P w K mg base 2 "_law_is_ratio" ["x"] (spP K mg sp__law_is_ratio) :=
  okOf T.d__law_is_ratio fun f fd F => fnP (k := 1) sp__law_is_ratio t__law_is_ratio F sc__law_is_ratio (fun x ds hp => len__law_is_ratio x ds hp) (fun cdv A outer s H E hr z => by
    have hu := hr.units; have hnd := sc__law_is_ratio.nd
    unfold t__law_is_ratio r__law_is_ratio_0 r__law_is_ratio_1
    exact (dss_cons (ds_if (dw_pt (dw_or (dt_not (dt_tru (de_isi kit_tuple rfl T.b_isinstance rfl T.b_tuple (by decide +kernel) (by decide) (by decide) (de_var 0 rfl (by walk_at "vis") (by decide) (by decide)) rfl rfl rfl) (fun _ => rfl))) (dw_or (dt_cmp (op_neA hu) od_ne (de_callB (f := lenF) call_len_seq cd_len rfl T.b_len (by decide +kernel) (da_cons (de_var 0 rfl (by walk_at "vis") (by decide) (by decide)) da_nil rfl) (by decide) (by decide) rfl rfl) de_int (nomark _)) (dw_or (dt_not (dt_tru (dn_callP ((ok__law_whole (P := P) (w := w) (base := base) T).mono (by decide)) hr (takes_of rfl rfl rfl rfl) rfl (by decide) (da_cons (de_ix (de_var 0 rfl (by walk_at "vis") (by decide) (by decide)) de_int (fun _ _ => rfl)) da_nil rfl) rfl rfl) (fun _ => rfl))) (dw_or1 (dt_not (dt_tru (dn_callP ((ok__law_whole (P := P) (w := w) (base := base) T).mono (by decide)) hr (takes_of rfl rfl rfl rfl) rfl (by decide) (da_cons (de_ix (de_var 0 rfl (by walk_at "vis") (by decide) (by decide)) de_int (fun _ _ => rfl)) da_nil rfl) rfl rfl) (fun _ => rfl)))))))) (dss_one (ds_ret de_bl)) dss_nil)
    (dss_one (ds_ret (de_and (de_ge (de_ix (de_var 0 rfl (by walk_at "vis") (by decide) (by decide)) de_int (fun _ _ => rfl)) de_int) (de_one (de_eq hu (dn_callP ((ok__law_gcd (P := P) (w := w) (base := base) T).mono (by decide)) hr (takes_of rfl rfl rfl rfl) rfl (by decide) (da_cons (de_ix (de_var 0 rfl (by walk_at "vis") (by decide) (by decide)) de_int (fun _ _ => rfl)) (da_cons (de_ix (de_var 0 rfl (by walk_at "vis") (by decide) (by decide)) de_int (fun _ _ => rfl)) da_nil rfl) rfl) rfl rfl) de_int))))))) w__law_is_ratio
/-! ### is_told_ratio -/
def toldB : D → Bool
  | .tup [.int a, .int b] => ratioB (.tup [.int a, .int b]) && (decide ((if a < 0 then -a else a) ≤ 1000000000) && decide (b ≤ 1000000000))
  | _ => false
def sp_is_told_ratio : Spc D where
  pre := fun x ds => ds = [x] ∧ noA x = true
  res := fun x o => o = .val (.bl (toldB x))
  exc := fun _ _ => False

def r_is_told_ratio_0 : dS :=
  (sRet (dAnd (dCallP sp_is_ratio (dCons (dVar 0) dNil)) (dAnd (dOp leF (dCB absF (dCons (dOp ixF (dVar 0) (dC (.int 0))) dNil)) (dC (.int 1000000000))) (dOp leF (dOp ixF (dVar 0) (dC (.int 1))) (dC (.int 1000000000))))))
def t_is_told_ratio : dS :=
  (r_is_told_ratio_0)
theorem len_is_told_ratio : ∀ x ds, sp_is_told_ratio.pre x ds → ds.length = 1 := fun x ds h => by rw [h.1]; rfl
theorem useP_isratio {d : D} {h : Hh} {Q : D → Hh → Prop} {E : XK'} (hd : noA d = true) (q : Q (.bl (ratioB d)) h) : useP sp_is_ratio [d] h Q E :=
  useP_mk d [d] (.cons (view_noA hd) .nil) ⟨rfl, hd⟩ (fun o ho _ => by rw [ho]; exact q) (fun _ q => q)
theorem ratio_shape {d : D} (h : ratioB d = true) : ∃ a b, d = .tup [.int a, .int b] := by
  unfold ratioB at h
  split at h
  · exact ⟨_, _, rfl⟩
  · cases h
theorem told_no {d : D} (h : ratioB d = false) : toldB d = false := by
  unfold toldB
  split
  · rw [h]; rfl
  · rfl
theorem w_is_told_ratio : ∀ x ds, sp_is_told_ratio.pre x ds → t_is_told_ratio (endP sp_is_told_ratio x) (startE nm_is_told_ratio.length ds) [] := by
  rintro d ds ⟨rfl, hd⟩
  simp only [t_is_told_ratio, r_is_told_ratio_0, nm_is_told_ratio, dOp, dUn, dVar, dC, slot, startE, List.map, List.length, List.replicate, List.append, List.cons_append, List.nil_append, List.set, dAnd, dOr, dNot, dtB, dtAnd, dtOr, dtNot, dIf, dtTru, truF, dNil, dCons, dTup, dLst, dCB, sNil, sSeq, sRet, sRetN, sExpr, sIf, sAsg, gN, gT, gsNil, gsCons, gS, sPar, sAug, sWhile, sFor, sBrk, sCont, sNo, sRaise, dCallP_eq, dCallD_eq, List.length_map, List.getElem?_cons_succ, List.getElem?_concat_length, set_last, get_mid, get_mid2, eqF, neF, ltF, leF, gtF, geF, isF, notF, addF, subF, mulF, fdivF, modF, powF, negF, ixF, lenF, tupF, lstF, absF, intF, gcdF, maxF, minF, Rs.to, dIsi, dIsi2, dIsE, tyN, D.isNon, dM1, dM0, srcSeq, srcRng1, srcRng2, dLc, tYesD, iaddF, isBF, notBF, srcZip, srcEnumerate, repF, sumF, allF, anyF, intsOf_map, blsOf_map, dSl, dPart, dNoPart, sliceF, at0, at1, at2, at3, at4, ix0, ix1, ix2, ix3, Dn.g0, Dn.g1, Dn.g2, Dn.g3, Dn.g4, ex_some, decide_true, decide_false, Bool.not_true, Bool.not_false, ite_true, ite_false, if_true, if_false, List.reverse_cons, List.reverse_nil, outPost, wipeE, CTg.set, setAll, appF, extF, revF, popF, Nat.zero_add, Nat.reduceAdd, is_NoneType_int, is_NoneType_bool, is_NoneType_str, is_NoneType_tuple, is_NoneType_list, is_bool_int, is_bool_bool, is_bool_str, is_bool_tuple, is_bool_list, is_int_int, is_int_bool, is_int_str, is_int_tuple, is_int_list, is_str_int, is_str_bool, is_str_str, is_str_tuple, is_str_list, is_tuple_int, is_tuple_bool, is_tuple_str, is_tuple_tuple, is_tuple_list, is_list_int, is_list_bool, is_list_str, is_list_tuple, is_list_list, strF, dDct, repLF, is_dict_int, is_dict_bool, is_dict_str, is_dict_tuple, is_dict_list, is_dict_dict, is_NoneType_dict, is_bool_dict, is_int_dict, is_str_dict, is_tuple_dict, is_list_dict]
  refine useP_isratio hd ?_
  cases hr : ratioB d with
  | false =>
    simp only [dOp, dUn, dVar, dC, slot, startE, List.map, List.length, List.replicate, List.append, List.cons_append, List.nil_append, List.set, dAnd, dOr, dNot, dtB, dtAnd, dtOr, dtNot, dIf, dtTru, truF, dNil, dCons, dTup, dLst, dCB, sNil, sSeq, sRet, sRetN, sExpr, sIf, sAsg, gN, gT, gsNil, gsCons, gS, sPar, sAug, sWhile, sFor, sBrk, sCont, sNo, sRaise, dCallP_eq, dCallD_eq, List.length_map, List.getElem?_cons_succ, List.getElem?_concat_length, set_last, get_mid, get_mid2, eqF, neF, ltF, leF, gtF, geF, isF, notF, addF, subF, mulF, fdivF, modF, powF, negF, ixF, lenF, tupF, lstF, absF, intF, gcdF, maxF, minF, Rs.to, dIsi, dIsi2, dIsE, tyN, D.isNon, dM1, dM0, srcSeq, srcRng1, srcRng2, dLc, tYesD, iaddF, isBF, notBF, srcZip, srcEnumerate, repF, sumF, allF, anyF, intsOf_map, blsOf_map, dSl, dPart, dNoPart, sliceF, at0, at1, at2, at3, at4, ix0, ix1, ix2, ix3, Dn.g0, Dn.g1, Dn.g2, Dn.g3, Dn.g4, ex_some, decide_true, decide_false, Bool.not_true, Bool.not_false, ite_true, ite_false, if_true, if_false, List.reverse_cons, List.reverse_nil, outPost, wipeE, CTg.set, setAll, appF, extF, revF, popF, Nat.zero_add, Nat.reduceAdd, is_NoneType_int, is_NoneType_bool, is_NoneType_str, is_NoneType_tuple, is_NoneType_list, is_bool_int, is_bool_bool, is_bool_str, is_bool_tuple, is_bool_list, is_int_int, is_int_bool, is_int_str, is_int_tuple, is_int_list, is_str_int, is_str_bool, is_str_str, is_str_tuple, is_str_list, is_tuple_int, is_tuple_bool, is_tuple_str, is_tuple_tuple, is_tuple_list, is_list_int, is_list_bool, is_list_str, is_list_tuple, is_list_list, strF, dDct, repLF, is_dict_int, is_dict_bool, is_dict_str, is_dict_tuple, is_dict_list, is_dict_dict, is_NoneType_dict, is_bool_dict, is_int_dict, is_str_dict, is_tuple_dict, is_list_dict]
    exact rt_val rfl (by show _ = Out.val (.bl (toldB d)); rw [told_no hr])
  | true =>
    obtain ⟨a, b, rfl⟩ := ratio_shape hr
    simp only [dOp, dUn, dVar, dC, slot, startE, List.map, List.length, List.replicate, List.append, List.cons_append, List.nil_append, List.set, dAnd, dOr, dNot, dtB, dtAnd, dtOr, dtNot, dIf, dtTru, truF, dNil, dCons, dTup, dLst, dCB, sNil, sSeq, sRet, sRetN, sExpr, sIf, sAsg, gN, gT, gsNil, gsCons, gS, sPar, sAug, sWhile, sFor, sBrk, sCont, sNo, sRaise, dCallP_eq, dCallD_eq, List.length_map, List.getElem?_cons_succ, List.getElem?_concat_length, set_last, get_mid, get_mid2, eqF, neF, ltF, leF, gtF, geF, isF, notF, addF, subF, mulF, fdivF, modF, powF, negF, ixF, lenF, tupF, lstF, absF, intF, gcdF, maxF, minF, Rs.to, dIsi, dIsi2, dIsE, tyN, D.isNon, dM1, dM0, srcSeq, srcRng1, srcRng2, dLc, tYesD, iaddF, isBF, notBF, srcZip, srcEnumerate, repF, sumF, allF, anyF, intsOf_map, blsOf_map, dSl, dPart, dNoPart, sliceF, at0, at1, at2, at3, at4, ix0, ix1, ix2, ix3, Dn.g0, Dn.g1, Dn.g2, Dn.g3, Dn.g4, ex_some, decide_true, decide_false, Bool.not_true, Bool.not_false, ite_true, ite_false, if_true, if_false, List.reverse_cons, List.reverse_nil, outPost, wipeE, CTg.set, setAll, appF, extF, revF, popF, Nat.zero_add, Nat.reduceAdd, is_NoneType_int, is_NoneType_bool, is_NoneType_str, is_NoneType_tuple, is_NoneType_list, is_bool_int, is_bool_bool, is_bool_str, is_bool_tuple, is_bool_list, is_int_int, is_int_bool, is_int_str, is_int_tuple, is_int_list, is_str_int, is_str_bool, is_str_str, is_str_tuple, is_str_list, is_tuple_int, is_tuple_bool, is_tuple_str, is_tuple_tuple, is_tuple_list, is_list_int, is_list_bool, is_list_str, is_list_tuple, is_list_list, strF, dDct, repLF, is_dict_int, is_dict_bool, is_dict_str, is_dict_tuple, is_dict_list, is_dict_dict, is_NoneType_dict, is_bool_dict, is_int_dict, is_str_dict, is_tuple_dict, is_list_dict]
    have e : toldB (.tup [.int a, .int b]) = (decide ((if a < 0 then -a else a) ≤ 1000000000) && decide (b ≤ 1000000000)) := by
      show (ratioB (.tup [.int a, .int b]) && _) = _
      rw [hr, Bool.true_and]
    cases h : decide ((if a < 0 then -a else a) ≤ 1000000000) with
    | true =>
      exact rt_val rfl (by show _ = Out.val (.bl (toldB _)); rw [e, h, Bool.true_and])
    | false =>
      exact rt_val rfl (by show _ = Out.val (.bl (toldB _)); rw [e, h, Bool.false_and])

theorem ok_is_told_ratio (T : Txt K mg) : Ok P w K mg base 3 "is_told_ratio" ["pair"] (spP K mg sp_is_told_ratio) :=
  okOf T.d_is_told_ratio fun f fd F => fnP (k := 2) sp_is_told_ratio t_is_told_ratio F sc_is_told_ratio (fun x ds hp => len_is_told_ratio x ds hp) (fun cdv A outer s H E hr z => by
    have hu := hr.units; have hnd := sc_is_told_ratio.nd
    unfold t_is_told_ratio r_is_told_ratio_0
    exact (dss_one (ds_ret (de_and (dn_callP ((ok_is_ratio (P := P) (w := w) (base := base) T).mono (by decide)) hr (takes_of rfl rfl rfl rfl) rfl (by decide) (da_cons (de_var 0 rfl (by walk_at "vis") (by decide) (by decide)) da_nil rfl) rfl rfl) (de_and (de_le (de_callB (f := absF) call_abs cd_abs rfl T.b_abs (by decide +kernel) (da_cons (de_ix (de_var 0 rfl (by walk_at "vis") (by decide) (by decide)) de_int (fun _ _ => rfl)) da_nil rfl) (by decide) (by decide) rfl rfl) (de_glob T.g_BOUND rfl (by decide))) (de_one (de_le (de_ix (de_var 0 rfl (by walk_at "vis") (by decide) (by decide)) de_int (fun _ _ => rfl)) (de_glob T.g_BOUND rfl (by decide))))))))) w_is_told_ratio
/-! ### is_positive -/
def posB (d : D) : Bool := toldB d && (match d with
  | .tup (.int a :: _) => decide (0 < a)
  | _ => false)
def sp_is_positive : Spc D where
  pre := fun x ds => ds = [x] ∧ noA x = true
  res := fun x o => o = .val (.bl (posB x))
  exc := fun _ _ => False

def r_is_positive_0 : dS :=
  (sRet (dAnd (dCallP sp_is_told_ratio (dCons (dVar 0) dNil)) (dOp gtF (dOp ixF (dVar 0) (dC (.int 0))) (dC (.int 0)))))
def t_is_positive : dS :=
  (r_is_positive_0)
theorem len_is_positive : ∀ x ds, sp_is_positive.pre x ds → ds.length = 1 := fun x ds h => by rw [h.1]; rfl
theorem useP_told {d : D} {h : Hh} {Q : D → Hh → Prop} {E : XK'} (hd : noA d = true) (q : Q (.bl (toldB d)) h) : useP sp_is_told_ratio [d] h Q E :=
  useP_mk d [d] (.cons (view_noA hd) .nil) ⟨rfl, hd⟩ (fun o ho _ => by rw [ho]; exact q) (fun _ q => q)
theorem told_shape {d : D} (h : toldB d = true) : ∃ a b, d = .tup [.int a, .int b] := by
  cases hr : ratioB d with
  | true => exact ratio_shape hr
  | false => rw [told_no hr] at h; cases h
theorem w_is_positive : ∀ x ds, sp_is_positive.pre x ds → t_is_positive (endP sp_is_positive x) (startE nm_is_positive.length ds) [] := by
  rintro d ds ⟨rfl, hd⟩
  simp only [t_is_positive , r_is_positive_0, nm_is_positive, dOp, dUn, dVar, dC, slot, startE, List.map, List.length, List.replicate, List.append, List.cons_append, List.nil_append, List.set, dAnd, dOr, dNot, dtB, dtAnd, dtOr, dtNot, dIf, dtTru, truF, dNil, dCons, dTup, dLst, dCB, sNil, sSeq, sRet, sRetN, sExpr, sIf, sAsg, gN, gT, gsNil, gsCons, gS, sPar, sAug, sWhile, sFor, sBrk, sCont, sNo, sRaise, dCallP_eq, dCallD_eq, List.length_map, List.getElem?_cons_succ, List.getElem?_concat_length, set_last, get_mid, get_mid2, eqF, neF, ltF, leF, gtF, geF, isF, notF, addF, subF, mulF, fdivF, modF, powF, negF, ixF, lenF, tupF, lstF, absF, intF, gcdF, maxF, minF, Rs.to, dIsi, dIsi2, dIsE, tyN, D.isNon, dM1, dM0, srcSeq, srcRng1, srcRng2, dLc, tYesD, iaddF, isBF, notBF, srcZip, srcEnumerate, repF, sumF, allF, anyF, intsOf_map, blsOf_map, dSl, dPart, dNoPart, sliceF, at0, at1, at2, at3, at4, ix0, ix1, ix2, ix3, Dn.g0, Dn.g1, Dn.g2, Dn.g3, Dn.g4, ex_some, decide_true, decide_false, Bool.not_true, Bool.not_false, ite_true, ite_false, if_true, if_false, List.reverse_cons, List.reverse_nil, outPost, wipeE, CTg.set, setAll, appF, extF, revF, popF, Nat.zero_add, Nat.reduceAdd, is_NoneType_int, is_NoneType_bool, is_NoneType_str, is_NoneType_tuple, is_NoneType_list, is_bool_int, is_bool_bool, is_bool_str, is_bool_tuple, is_bool_list, is_int_int, is_int_bool, is_int_str, is_int_tuple, is_int_list, is_str_int, is_str_bool, is_str_str, is_str_tuple, is_str_list, is_tuple_int, is_tuple_bool, is_tuple_str, is_tuple_tuple, is_tuple_list, is_list_int, is_list_bool, is_list_str, is_list_tuple, is_list_list, strF, dDct, repLF, is_dict_int, is_dict_bool, is_dict_str, is_dict_tuple, is_dict_list, is_dict_dict, is_NoneType_dict, is_bool_dict, is_int_dict, is_str_dict, is_tuple_dict, is_list_dict]
  refine useP_told hd ?_
  cases ht : toldB d with
  | false =>
    simp only [dOp, dUn, dVar, dC, slot, startE, List.map, List.length, List.replicate, List.append, List.cons_append, List.nil_append, List.set, dAnd, dOr, dNot, dtB, dtAnd, dtOr, dtNot, dIf, dtTru, truF, dNil, dCons, dTup, dLst, dCB, sNil, sSeq, sRet, sRetN, sExpr, sIf, sAsg, gN, gT, gsNil, gsCons, gS, sPar, sAug, sWhile, sFor, sBrk, sCont, sNo, sRaise, dCallP_eq, dCallD_eq, List.length_map, List.getElem?_cons_succ, List.getElem?_concat_length, set_last, get_mid, get_mid2, eqF, neF, ltF, leF, gtF, geF, isF, notF, addF, subF, mulF, fdivF, modF, powF, negF, ixF, lenF, tupF, lstF, absF, intF, gcdF, maxF, minF, Rs.to, dIsi, dIsi2, dIsE, tyN, D.isNon, dM1, dM0, srcSeq, srcRng1, srcRng2, dLc, tYesD, iaddF, isBF, notBF, srcZip, srcEnumerate, repF, sumF, allF, anyF, intsOf_map, blsOf_map, dSl, dPart, dNoPart, sliceF, at0, at1, at2, at3, at4, ix0, ix1, ix2, ix3, Dn.g0, Dn.g1, Dn.g2, Dn.g3, Dn.g4, ex_some, decide_true, decide_false, Bool.not_true, Bool.not_false, ite_true, ite_false, if_true, if_false, List.reverse_cons, List.reverse_nil, outPost, wipeE, CTg.set, setAll, appF, extF, revF, popF, Nat.zero_add, Nat.reduceAdd, is_NoneType_int, is_NoneType_bool, is_NoneType_str, is_NoneType_tuple, is_NoneType_list, is_bool_int, is_bool_bool, is_bool_str, is_bool_tuple, is_bool_list, is_int_int, is_int_bool, is_int_str, is_int_tuple, is_int_list, is_str_int, is_str_bool, is_str_str, is_str_tuple, is_str_list, is_tuple_int, is_tuple_bool, is_tuple_str, is_tuple_tuple, is_tuple_list, is_list_int, is_list_bool, is_list_str, is_list_tuple, is_list_list, strF, dDct, repLF, is_dict_int, is_dict_bool, is_dict_str, is_dict_tuple, is_dict_list, is_dict_dict, is_NoneType_dict, is_bool_dict, is_int_dict, is_str_dict, is_tuple_dict, is_list_dict]
    exact rt_val rfl (by show _ = Out.val (.bl (posB d)); unfold posB; rw [ht]; rfl)
  | true =>
    obtain ⟨a, b, rfl⟩ := told_shape ht
    simp only [dOp, dUn, dVar, dC, slot, startE, List.map, List.length, List.replicate, List.append, List.cons_append, List.nil_append, List.set, dAnd, dOr, dNot, dtB, dtAnd, dtOr, dtNot, dIf, dtTru, truF, dNil, dCons, dTup, dLst, dCB, sNil, sSeq, sRet, sRetN, sExpr, sIf, sAsg, gN, gT, gsNil, gsCons, gS, sPar, sAug, sWhile, sFor, sBrk, sCont, sNo, sRaise, dCallP_eq, dCallD_eq, List.length_map, List.getElem?_cons_succ, List.getElem?_concat_length, set_last, get_mid, get_mid2, eqF, neF, ltF, leF, gtF, geF, isF, notF, addF, subF, mulF, fdivF, modF, powF, negF, ixF, lenF, tupF, lstF, absF, intF, gcdF, maxF, minF, Rs.to, dIsi, dIsi2, dIsE, tyN, D.isNon, dM1, dM0, srcSeq, srcRng1, srcRng2, dLc, tYesD, iaddF, isBF, notBF, srcZip, srcEnumerate, repF, sumF, allF, anyF, intsOf_map, blsOf_map, dSl, dPart, dNoPart, sliceF, at0, at1, at2, at3, at4, ix0, ix1, ix2, ix3, Dn.g0, Dn.g1, Dn.g2, Dn.g3, Dn.g4, ex_some, decide_true, decide_false, Bool.not_true, Bool.not_false, ite_true, ite_false, if_true, if_false, List.reverse_cons, List.reverse_nil, outPost, wipeE, CTg.set, setAll, appF, extF, revF, popF, Nat.zero_add, Nat.reduceAdd, is_NoneType_int, is_NoneType_bool, is_NoneType_str, is_NoneType_tuple, is_NoneType_list, is_bool_int, is_bool_bool, is_bool_str, is_bool_tuple, is_bool_list, is_int_int, is_int_bool, is_int_str, is_int_tuple, is_int_list, is_str_int, is_str_bool, is_str_str, is_str_tuple, is_str_list, is_tuple_int, is_tuple_bool, is_tuple_str, is_tuple_tuple, is_tuple_list, is_list_int, is_list_bool, is_list_str, is_list_tuple, is_list_list, strF, dDct, repLF, is_dict_int, is_dict_bool, is_dict_str, is_dict_tuple, is_dict_list, is_dict_dict, is_NoneType_dict, is_bool_dict, is_int_dict, is_str_dict, is_tuple_dict, is_list_dict]
    exact rt_val rfl (by show _ = Out.val (.bl (posB _)); unfold posB; rw [ht]; rfl)

theorem ok_is_positive (T : Txt K mg) : Ok P w K mg base 4 "is_positive" ["pair"] (spP K mg sp_is_positive) :=
  okOf T.d_is_positive fun f fd F => fnP (k := 3) sp_is_positive t_is_positive F sc_is_positive (fun x ds hp => len_is_positive x ds hp) (fun cdv A outer s H E hr z => by
    have hu := hr.units; have hnd := sc_is_positive.nd
    unfold t_is_positive r_is_positive_0
    exact (dss_one (ds_ret (de_and (dn_callP ((ok_is_told_ratio (P := P) (w := w) (base := base) T).mono (by decide)) hr (takes_of rfl rfl rfl rfl) rfl (by decide) (da_cons (de_var 0 rfl (by walk_at "vis") (by decide) (by decide)) da_nil rfl) rfl rfl) (de_one (de_gt (de_ix (de_var 0 rfl (by walk_at "vis") (by decide) (by decide)) de_int (fun _ _ => rfl)) de_int)))))) w_is_positive
/-! ### is_form -/
def formB (n : Int) : D → Bool
  | .tup ds => decide ((ds.length : Int) = n + 1) && ds.all isI'
  | _ => false
structure DN where
  d : D
  n : Int
def sp_is_form : Spc DN where
  pre := fun x ds => ds = [x.d, .int x.n] ∧ noA x.d = true
  res := fun x o => o = .val (.bl (formB x.n x.d))
  exc := fun _ _ => False

def l1_is_form_0 : dS :=
  (sIf (dtOr (dtNot (dtTru (dIsi "int" (dVar 2)))) (dtTru (dIsi "bool" (dVar 2)))) (sRet (dC (.bl false))) sNil)
def r_is_form_2 : dS :=
  (sRet (dC (.bl true)))
def r_is_form_1 : dS :=
  (sSeq (sFor (srcSeq (dVar 0)) (gN 2) (l1_is_form_0)) (r_is_form_2))
def r_is_form_0 : dS :=
  (sSeq (sIf (dtOr (dtNot (dtTru (dIsi "tuple" (dVar 0)))) (dtB (dOp neF (dCB lenF (dCons (dVar 0) dNil)) (dOp addF (dVar 1) (dC (.int 1)))))) (sRet (dC (.bl false))) sNil) (r_is_form_1))
def t_is_form : dS :=
  (r_is_form_0)
theorem len_is_form : ∀ x ds, sp_is_form.pre x ds → ds.length = 2 := fun x ds h => by rw [h.1]; rfl
theorem formB_tup {n : Int} {es : List D} : formB n (.tup es) = (decide ((es.length : Int) = n + 1) && es.all isI') := rfl
theorem w_is_form : ∀ x ds, sp_is_form.pre x ds → t_is_form (endP sp_is_form x) (startE nm_is_form.length ds) [] := by
  rintro ⟨d, n⟩ ds ⟨rfl, hn⟩
  simp only at hn
  cases d with
  | tup es =>
    by_cases hl : (es.length : Int) = n + 1
    · simp only [t_is_form , r_is_form_0, r_is_form_1, nm_is_form, hl, dOp, dUn, dVar, dC, slot, startE, List.map, List.length, List.replicate, List.append, List.cons_append, List.nil_append, List.set, dAnd, dOr, dNot, dtB, dtAnd, dtOr, dtNot, dIf, dtTru, truF, dNil, dCons, dTup, dLst, dCB, sNil, sSeq, sRet, sRetN, sExpr, sIf, sAsg, gN, gT, gsNil, gsCons, gS, sPar, sAug, sWhile, sFor, sBrk, sCont, sNo, sRaise, dCallP_eq, dCallD_eq, List.length_map, List.getElem?_cons_succ, List.getElem?_concat_length, set_last, get_mid, get_mid2, eqF, neF, ltF, leF, gtF, geF, isF, notF, addF, subF, mulF, fdivF, modF, powF, negF, ixF, lenF, tupF, lstF, absF, intF, gcdF, maxF, minF, Rs.to, dIsi, dIsi2, dIsE, tyN, D.isNon, dM1, dM0, srcSeq, srcRng1, srcRng2, dLc, tYesD, iaddF, isBF, notBF, srcZip, srcEnumerate, repF, sumF, allF, anyF, intsOf_map, blsOf_map, dSl, dPart, dNoPart, sliceF, at0, at1, at2, at3, at4, ix0, ix1, ix2, ix3, Dn.g0, Dn.g1, Dn.g2, Dn.g3, Dn.g4, ex_some, decide_true, decide_false, Bool.not_true, Bool.not_false, ite_true, ite_false, if_true, if_false, List.reverse_cons, List.reverse_nil, outPost, wipeE, CTg.set, setAll, appF, extF, revF, popF, Nat.zero_add, Nat.reduceAdd, is_NoneType_int, is_NoneType_bool, is_NoneType_str, is_NoneType_tuple, is_NoneType_list, is_bool_int, is_bool_bool, is_bool_str, is_bool_tuple, is_bool_list, is_int_int, is_int_bool, is_int_str, is_int_tuple, is_int_list, is_str_int, is_str_bool, is_str_str, is_str_tuple, is_str_list, is_tuple_int, is_tuple_bool, is_tuple_str, is_tuple_tuple, is_tuple_list, is_list_int, is_list_bool, is_list_str, is_list_tuple, is_list_list, strF, dDct, repLF, is_dict_int, is_dict_bool, is_dict_str, is_dict_tuple, is_dict_list, is_dict_dict, is_NoneType_dict, is_bool_dict, is_int_dict, is_str_dict, is_tuple_dict, is_list_dict]
      refine ⟨fun i e h => (∃ u, e = [some (.tup es), some (.int n), u]) ∧ h = [] ∧ (es.take i).all isI' = true, ⟨⟨_, rfl⟩, rfl, rfl⟩, fun _ _ _ _ _ => trivial, ?_, ?_⟩
      · rintro i x e h hx ⟨⟨u, rfl⟩, rfl, ha⟩
        have hm := List.mem_of_getElem? hx
        have hx1 : noA x = true := by unfold noA at hn; exact noAs_mem hn hm
        have tk : (es.take (i + 1)).all isI' = isI' x := by
          rw [List.take_add_one, hx, List.all_append, ha]; simp
        have no : isI' x = false → es.all isI' = false := fun q => List.all_eq_false.mpr ⟨x, hm, by simp [q]⟩
        have fin : isI' x = false → sp_is_form.res ⟨.tup es, n⟩ (.val (.bl false)) := fun q => by
          show _ = Out.val (.bl (formB n (.tup es))); rw [formB_tup, no q]; simp
        cases x with
        | int j =>
          simp only [l1_is_form_0, dOp, dUn, dVar, dC, slot, startE, List.map, List.length, List.replicate, List.append, List.cons_append, List.nil_append, List.set, dAnd, dOr, dNot, dtB, dtAnd, dtOr, dtNot, dIf, dtTru, truF, dNil, dCons, dTup, dLst, dCB, sNil, sSeq, sRet, sRetN, sExpr, sIf, sAsg, gN, gT, gsNil, gsCons, gS, sPar, sAug, sWhile, sFor, sBrk, sCont, sNo, sRaise, dCallP_eq, dCallD_eq, List.length_map, List.getElem?_cons_succ, List.getElem?_concat_length, set_last, get_mid, get_mid2, eqF, neF, ltF, leF, gtF, geF, isF, notF, addF, subF, mulF, fdivF, modF, powF, negF, ixF, lenF, tupF, lstF, absF, intF, gcdF, maxF, minF, Rs.to, dIsi, dIsi2, dIsE, tyN, D.isNon, dM1, dM0, srcSeq, srcRng1, srcRng2, dLc, tYesD, iaddF, isBF, notBF, srcZip, srcEnumerate, repF, sumF, allF, anyF, intsOf_map, blsOf_map, dSl, dPart, dNoPart, sliceF, at0, at1, at2, at3, at4, ix0, ix1, ix2, ix3, Dn.g0, Dn.g1, Dn.g2, Dn.g3, Dn.g4, ex_some, decide_true, decide_false, Bool.not_true, Bool.not_false, ite_true, ite_false, if_true, if_false, List.reverse_cons, List.reverse_nil, outPost, wipeE, CTg.set, setAll, appF, extF, revF, popF, Nat.zero_add, Nat.reduceAdd, is_NoneType_int, is_NoneType_bool, is_NoneType_str, is_NoneType_tuple, is_NoneType_list, is_bool_int, is_bool_bool, is_bool_str, is_bool_tuple, is_bool_list, is_int_int, is_int_bool, is_int_str, is_int_tuple, is_int_list, is_str_int, is_str_bool, is_str_str, is_str_tuple, is_str_list, is_tuple_int, is_tuple_bool, is_tuple_str, is_tuple_tuple, is_tuple_list, is_list_int, is_list_bool, is_list_str, is_list_tuple, is_list_list, strF, dDct, repLF, is_dict_int, is_dict_bool, is_dict_str, is_dict_tuple, is_dict_list, is_dict_dict, is_NoneType_dict, is_bool_dict, is_int_dict, is_str_dict, is_tuple_dict, is_list_dict]
          exact ⟨⟨_, rfl⟩, trivial, by rw [tk]; rfl⟩
        | ref j => unfold noA at hx1; cases hx1
        | adr j => unfold noA at hx1; cases hx1
        | box t j => cases t with
          | dct => simp only [l1_is_form_0, dOp, dUn, dVar, dC, slot, startE, List.map, List.length, List.replicate, List.append, List.cons_append, List.nil_append, List.set, dAnd, dOr, dNot, dtB, dtAnd, dtOr, dtNot, dIf, dtTru, truF, dNil, dCons, dTup, dLst, dCB, sNil, sSeq, sRet, sRetN, sExpr, sIf, sAsg, gN, gT, gsNil, gsCons, gS, sPar, sAug, sWhile, sFor, sBrk, sCont, sNo, sRaise, dCallP_eq, dCallD_eq, List.length_map, List.getElem?_cons_succ, List.getElem?_concat_length, set_last, get_mid, get_mid2, eqF, neF, ltF, leF, gtF, geF, isF, notF, addF, subF, mulF, fdivF, modF, powF, negF, ixF, lenF, tupF, lstF, absF, intF, gcdF, maxF, minF, Rs.to, dIsi, dIsi2, dIsE, tyN, D.isNon, dM1, dM0, srcSeq, srcRng1, srcRng2, dLc, tYesD, iaddF, isBF, notBF, srcZip, srcEnumerate, repF, sumF, allF, anyF, intsOf_map, blsOf_map, dSl, dPart, dNoPart, sliceF, at0, at1, at2, at3, at4, ix0, ix1, ix2, ix3, Dn.g0, Dn.g1, Dn.g2, Dn.g3, Dn.g4, ex_some, decide_true, decide_false, Bool.not_true, Bool.not_false, ite_true, ite_false, if_true, if_false, List.reverse_cons, List.reverse_nil, outPost, wipeE, CTg.set, setAll, appF, extF, revF, popF, Nat.zero_add, Nat.reduceAdd, is_NoneType_int, is_NoneType_bool, is_NoneType_str, is_NoneType_tuple, is_NoneType_list, is_bool_int, is_bool_bool, is_bool_str, is_bool_tuple, is_bool_list, is_int_int, is_int_bool, is_int_str, is_int_tuple, is_int_list, is_str_int, is_str_bool, is_str_str, is_str_tuple, is_str_list, is_tuple_int, is_tuple_bool, is_tuple_str, is_tuple_tuple, is_tuple_list, is_list_int, is_list_bool, is_list_str, is_list_tuple, is_list_list, strF, dDct, repLF, is_dict_int, is_dict_bool, is_dict_str, is_dict_tuple, is_dict_list, is_dict_dict, is_NoneType_dict, is_bool_dict, is_int_dict, is_str_dict, is_tuple_dict, is_list_dict]; exact rt_val rfl (fin rfl)
          | ins C fs => unfold noA at hx1; cases hx1
        | _ =>
          simp only [l1_is_form_0, dOp, dUn, dVar, dC, slot, startE, List.map, List.length, List.replicate, List.append, List.cons_append, List.nil_append, List.set, dAnd, dOr, dNot, dtB, dtAnd, dtOr, dtNot, dIf, dtTru, truF, dNil, dCons, dTup, dLst, dCB, sNil, sSeq, sRet, sRetN, sExpr, sIf, sAsg, gN, gT, gsNil, gsCons, gS, sPar, sAug, sWhile, sFor, sBrk, sCont, sNo, sRaise, dCallP_eq, dCallD_eq, List.length_map, List.getElem?_cons_succ, List.getElem?_concat_length, set_last, get_mid, get_mid2, eqF, neF, ltF, leF, gtF, geF, isF, notF, addF, subF, mulF, fdivF, modF, powF, negF, ixF, lenF, tupF, lstF, absF, intF, gcdF, maxF, minF, Rs.to, dIsi, dIsi2, dIsE, tyN, D.isNon, dM1, dM0, srcSeq, srcRng1, srcRng2, dLc, tYesD, iaddF, isBF, notBF, srcZip, srcEnumerate, repF, sumF, allF, anyF, intsOf_map, blsOf_map, dSl, dPart, dNoPart, sliceF, at0, at1, at2, at3, at4, ix0, ix1, ix2, ix3, Dn.g0, Dn.g1, Dn.g2, Dn.g3, Dn.g4, ex_some, decide_true, decide_false, Bool.not_true, Bool.not_false, ite_true, ite_false, if_true, if_false, List.reverse_cons, List.reverse_nil, outPost, wipeE, CTg.set, setAll, appF, extF, revF, popF, Nat.zero_add, Nat.reduceAdd, is_NoneType_int, is_NoneType_bool, is_NoneType_str, is_NoneType_tuple, is_NoneType_list, is_bool_int, is_bool_bool, is_bool_str, is_bool_tuple, is_bool_list, is_int_int, is_int_bool, is_int_str, is_int_tuple, is_int_list, is_str_int, is_str_bool, is_str_str, is_str_tuple, is_str_list, is_tuple_int, is_tuple_bool, is_tuple_str, is_tuple_tuple, is_tuple_list, is_list_int, is_list_bool, is_list_str, is_list_tuple, is_list_list, strF, dDct, repLF, is_dict_int, is_dict_bool, is_dict_str, is_dict_tuple, is_dict_list, is_dict_dict, is_NoneType_dict, is_bool_dict, is_int_dict, is_str_dict, is_tuple_dict, is_list_dict]
          exact rt_val rfl (fin rfl)
      · rintro e h ⟨⟨u, rfl⟩, rfl, ha⟩
        rw [List.take_length] at ha
        simp only [r_is_form_2, dOp, dUn, dVar, dC, slot, startE, List.map, List.length, List.replicate, List.append, List.cons_append, List.nil_append, List.set, dAnd, dOr, dNot, dtB, dtAnd, dtOr, dtNot, dIf, dtTru, truF, dNil, dCons, dTup, dLst, dCB, sNil, sSeq, sRet, sRetN, sExpr, sIf, sAsg, gN, gT, gsNil, gsCons, gS, sPar, sAug, sWhile, sFor, sBrk, sCont, sNo, sRaise, dCallP_eq, dCallD_eq, List.length_map, List.getElem?_cons_succ, List.getElem?_concat_length, set_last, get_mid, get_mid2, eqF, neF, ltF, leF, gtF, geF, isF, notF, addF, subF, mulF, fdivF, modF, powF, negF, ixF, lenF, tupF, lstF, absF, intF, gcdF, maxF, minF, Rs.to, dIsi, dIsi2, dIsE, tyN, D.isNon, dM1, dM0, srcSeq, srcRng1, srcRng2, dLc, tYesD, iaddF, isBF, notBF, srcZip, srcEnumerate, repF, sumF, allF, anyF, intsOf_map, blsOf_map, dSl, dPart, dNoPart, sliceF, at0, at1, at2, at3, at4, ix0, ix1, ix2, ix3, Dn.g0, Dn.g1, Dn.g2, Dn.g3, Dn.g4, ex_some, decide_true, decide_false, Bool.not_true, Bool.not_false, ite_true, ite_false, if_true, if_false, List.reverse_cons, List.reverse_nil, outPost, wipeE, CTg.set, setAll, appF, extF, revF, popF, Nat.zero_add, Nat.reduceAdd, is_NoneType_int, is_NoneType_bool, is_NoneType_str, is_NoneType_tuple, is_NoneType_list, is_bool_int, is_bool_bool, is_bool_str, is_bool_tuple, is_bool_list, is_int_int, is_int_bool, is_int_str, is_int_tuple, is_int_list, is_str_int, is_str_bool, is_str_str, is_str_tuple, is_str_list, is_tuple_int, is_tuple_bool, is_tuple_str, is_tuple_tuple, is_tuple_list, is_list_int, is_list_bool, is_list_str, is_list_tuple, is_list_list, strF, dDct, repLF, is_dict_int, is_dict_bool, is_dict_str, is_dict_tuple, is_dict_list, is_dict_dict, is_NoneType_dict, is_bool_dict, is_int_dict, is_str_dict, is_tuple_dict, is_list_dict]
        exact rt_val rfl (by show _ = Out.val (.bl (formB n (.tup es))); rw [formB_tup, ha, decide_eq_true hl]; rfl)
    · simp only [t_is_form , r_is_form_0, nm_is_form, hl, dOp, dUn, dVar, dC, slot, startE, List.map, List.length, List.replicate, List.append, List.cons_append, List.nil_append, List.set, dAnd, dOr, dNot, dtB, dtAnd, dtOr, dtNot, dIf, dtTru, truF, dNil, dCons, dTup, dLst, dCB, sNil, sSeq, sRet, sRetN, sExpr, sIf, sAsg, gN, gT, gsNil, gsCons, gS, sPar, sAug, sWhile, sFor, sBrk, sCont, sNo, sRaise, dCallP_eq, dCallD_eq, List.length_map, List.getElem?_cons_succ, List.getElem?_concat_length, set_last, get_mid, get_mid2, eqF, neF, ltF, leF, gtF, geF, isF, notF, addF, subF, mulF, fdivF, modF, powF, negF, ixF, lenF, tupF, lstF, absF, intF, gcdF, maxF, minF, Rs.to, dIsi, dIsi2, dIsE, tyN, D.isNon, dM1, dM0, srcSeq, srcRng1, srcRng2, dLc, tYesD, iaddF, isBF, notBF, srcZip, srcEnumerate, repF, sumF, allF, anyF, intsOf_map, blsOf_map, dSl, dPart, dNoPart, sliceF, at0, at1, at2, at3, at4, ix0, ix1, ix2, ix3, Dn.g0, Dn.g1, Dn.g2, Dn.g3, Dn.g4, ex_some, decide_true, decide_false, Bool.not_true, Bool.not_false, ite_true, ite_false, if_true, if_false, List.reverse_cons, List.reverse_nil, outPost, wipeE, CTg.set, setAll, appF, extF, revF, popF, Nat.zero_add, Nat.reduceAdd, is_NoneType_int, is_NoneType_bool, is_NoneType_str, is_NoneType_tuple, is_NoneType_list, is_bool_int, is_bool_bool, is_bool_str, is_bool_tuple, is_bool_list, is_int_int, is_int_bool, is_int_str, is_int_tuple, is_int_list, is_str_int, is_str_bool, is_str_str, is_str_tuple, is_str_list, is_tuple_int, is_tuple_bool, is_tuple_str, is_tuple_tuple, is_tuple_list, is_list_int, is_list_bool, is_list_str, is_list_tuple, is_list_list, strF, dDct, repLF, is_dict_int, is_dict_bool, is_dict_str, is_dict_tuple, is_dict_list, is_dict_dict, is_NoneType_dict, is_bool_dict, is_int_dict, is_str_dict, is_tuple_dict, is_list_dict]
      exact rt_val rfl (by show _ = Out.val (.bl (formB n (.tup es))); rw [formB_tup, decide_eq_false hl]; rfl)
  | ref j => unfold noA at hn; cases hn
  | adr j => unfold noA at hn; cases hn
  | box t j => cases t with
    | dct => simp only [t_is_form , r_is_form_0, nm_is_form, dOp, dUn, dVar, dC, slot, startE, List.map, List.length, List.replicate, List.append, List.cons_append, List.nil_append, List.set, dAnd, dOr, dNot, dtB, dtAnd, dtOr, dtNot, dIf, dtTru, truF, dNil, dCons, dTup, dLst, dCB, sNil, sSeq, sRet, sRetN, sExpr, sIf, sAsg, gN, gT, gsNil, gsCons, gS, sPar, sAug, sWhile, sFor, sBrk, sCont, sNo, sRaise, dCallP_eq, dCallD_eq, List.length_map, List.getElem?_cons_succ, List.getElem?_concat_length, set_last, get_mid, get_mid2, eqF, neF, ltF, leF, gtF, geF, isF, notF, addF, subF, mulF, fdivF, modF, powF, negF, ixF, lenF, tupF, lstF, absF, intF, gcdF, maxF, minF, Rs.to, dIsi, dIsi2, dIsE, tyN, D.isNon, dM1, dM0, srcSeq, srcRng1, srcRng2, dLc, tYesD, iaddF, isBF, notBF, srcZip, srcEnumerate, repF, sumF, allF, anyF, intsOf_map, blsOf_map, dSl, dPart, dNoPart, sliceF, at0, at1, at2, at3, at4, ix0, ix1, ix2, ix3, Dn.g0, Dn.g1, Dn.g2, Dn.g3, Dn.g4, ex_some, decide_true, decide_false, Bool.not_true, Bool.not_false, ite_true, ite_false, if_true, if_false, List.reverse_cons, List.reverse_nil, outPost, wipeE, CTg.set, setAll, appF, extF, revF, popF, Nat.zero_add, Nat.reduceAdd, is_NoneType_int, is_NoneType_bool, is_NoneType_str, is_NoneType_tuple, is_NoneType_list, is_bool_int, is_bool_bool, is_bool_str, is_bool_tuple, is_bool_list, is_int_int, is_int_bool, is_int_str, is_int_tuple, is_int_list, is_str_int, is_str_bool, is_str_str, is_str_tuple, is_str_list, is_tuple_int, is_tuple_bool, is_tuple_str, is_tuple_tuple, is_tuple_list, is_list_int, is_list_bool, is_list_str, is_list_tuple, is_list_list, strF, dDct, repLF, is_dict_int, is_dict_bool, is_dict_str, is_dict_tuple, is_dict_list, is_dict_dict, is_NoneType_dict, is_bool_dict, is_int_dict, is_str_dict, is_tuple_dict, is_list_dict]; exact rt_val rfl rfl
    | ins C fs => unfold noA at hn; cases hn
  | _ =>
    simp only [t_is_form , r_is_form_0, nm_is_form, dOp, dUn, dVar, dC, slot, startE, List.map, List.length, List.replicate, List.append, List.cons_append, List.nil_append, List.set, dAnd, dOr, dNot, dtB, dtAnd, dtOr, dtNot, dIf, dtTru, truF, dNil, dCons, dTup, dLst, dCB, sNil, sSeq, sRet, sRetN, sExpr, sIf, sAsg, gN, gT, gsNil, gsCons, gS, sPar, sAug, sWhile, sFor, sBrk, sCont, sNo, sRaise, dCallP_eq, dCallD_eq, List.length_map, List.getElem?_cons_succ, List.getElem?_concat_length, set_last, get_mid, get_mid2, eqF, neF, ltF, leF, gtF, geF, isF, notF, addF, subF, mulF, fdivF, modF, powF, negF, ixF, lenF, tupF, lstF, absF, intF, gcdF, maxF, minF, Rs.to, dIsi, dIsi2, dIsE, tyN, D.isNon, dM1, dM0, srcSeq, srcRng1, srcRng2, dLc, tYesD, iaddF, isBF, notBF, srcZip, srcEnumerate, repF, sumF, allF, anyF, intsOf_map, blsOf_map, dSl, dPart, dNoPart, sliceF, at0, at1, at2, at3, at4, ix0, ix1, ix2, ix3, Dn.g0, Dn.g1, Dn.g2, Dn.g3, Dn.g4, ex_some, decide_true, decide_false, Bool.not_true, Bool.not_false, ite_true, ite_false, if_true, if_false, List.reverse_cons, List.reverse_nil, outPost, wipeE, CTg.set, setAll, appF, extF, revF, popF, Nat.zero_add, Nat.reduceAdd, is_NoneType_int, is_NoneType_bool, is_NoneType_str, is_NoneType_tuple, is_NoneType_list, is_bool_int, is_bool_bool, is_bool_str, is_bool_tuple, is_bool_list, is_int_int, is_int_bool, is_int_str, is_int_tuple, is_int_list, is_str_int, is_str_bool, is_str_str, is_str_tuple, is_str_list, is_tuple_int, is_tuple_bool, is_tuple_str, is_tuple_tuple, is_tuple_list, is_list_int, is_list_bool, is_list_str, is_list_tuple, is_list_list, strF, dDct, repLF, is_dict_int, is_dict_bool, is_dict_str, is_dict_tuple, is_dict_list, is_dict_dict, is_NoneType_dict, is_bool_dict, is_int_dict, is_str_dict, is_tuple_dict, is_list_dict]
    exact rt_val rfl rfl

theorem ok_is_form (T : Txt K mg) : Ok P w K mg base 1 "is_form" ["form", "size"] (spP K mg sp_is_form) :=
  okOf T.d_is_form fun f fd F => fnP (k := 0) sp_is_form t_is_form F sc_is_form (fun x ds hp => len_is_form x ds hp) (fun cdv A outer s H E hr z => by
    have hu := hr.units; have hnd := sc_is_form.nd
    unfold t_is_form r_is_form_0 r_is_form_1 r_is_form_2 l1_is_form_0
    exact (dss_cons (ds_if (dw_pt (dw_or (dt_not (dt_tru (de_isi kit_tuple rfl T.b_isinstance rfl T.b_tuple (by decide +kernel) (by decide) (by decide) (de_var 0 rfl (by walk_at "vis") (by decide) (by decide)) rfl rfl rfl) (fun _ => rfl))) (dw_or1 (dt_cmp (op_neA hu) od_ne (de_callB (f := lenF) call_len_seq cd_len rfl T.b_len (by decide +kernel) (da_cons (de_var 0 rfl (by walk_at "vis") (by decide) (by decide)) da_nil rfl) (by decide) (by decide) rfl rfl) (de_add (de_var 1 rfl (by walk_at "vis") (by decide) (by decide)) de_int) (nomark _))))) (dss_one (ds_ret de_bl)) dss_nil)
    (dss_cons (ds_for (passes_of (K := fun e s'' => L2.CX P w outer H s E e s'') (E₁ := fun e s'' => L2.CX P w outer H s E e s'') rfl) rfl (di_seq (de_var 0 rfl (by walk_at "vis") (by decide) (by decide))) (dg_name 2 hnd rfl (by walk_at "locs") (by walk_at "fnn")) (dss_one (ds_if (dw_pt (dw_or (dt_not (dt_tru (de_isi kit_int rfl T.b_isinstance rfl T.b_int (by decide +kernel) (by decide) (by decide) (de_var 2 rfl (by walk_at "vis") (by decide) (by decide)) rfl rfl rfl) (fun _ => rfl))) (dw_or1 (dt_tru (de_isi kit_bool rfl T.b_isinstance rfl T.b_bool (by decide +kernel) (by decide) (by decide) (de_var 2 rfl (by walk_at "vis") (by decide) (by decide)) rfl rfl rfl) (fun _ => rfl))))) (dss_one (ds_ret de_bl)) dss_nil)) (fun _ => rfl))
    (dss_one (ds_ret de_bl))))) w_is_form
/-! ### is_point -/
structure PD where
  d : D
  n : Int
def shal (d : D) : Prop := d.isAdr = false ∧ ∀ es, d = .tup es → ∀ e ∈ es, e.isAdr = false
def sp_is_point : Spc PD where
  pre := fun x ds => ds = [x.d, .int x.n] ∧ shal x.d ∧ 0 ≤ x.n
  res := fun x o => (∀ (L : List Int) (r : Int), x.d = tI (L ++ [r]) → (L.length : Int) = x.n → o = .val (.bl (decide (1 ≤ r) && decide (gcdL (L ++ [r]) = 1)))) ∧ ((∀ (L : List Int) (r : Int), x.d = tI (L ++ [r]) → (L.length : Int) ≠ x.n) → o = .val (.bl false))
  exc := fun _ _ => False

def l1_is_point_1 : dS :=
  (sAsg (dCB gcdF (dCons (dVar 2) (dCons (dVar 3) dNil))) (gN 2))
def l1_is_point_0 : dS :=
  (sSeq (sIf (dtOr (dtNot (dtTru (dIsi "int" (dVar 3)))) (dtTru (dIsi "bool" (dVar 3)))) (sRet (dC (.bl false))) sNil) (l1_is_point_1))
def r_is_point_3 : dS :=
  (sRet (dAnd (dOp geF (dOp ixF (dVar 0) (dUn negF (dC (.int 1)))) (dC (.int 1))) (dOp eqF (dVar 2) (dC (.int 1)))))
def r_is_point_2 : dS :=
  (sSeq (sFor (srcSeq (dVar 0)) (gN 3) (l1_is_point_0)) (r_is_point_3))
def r_is_point_1 : dS :=
  (sSeq (sAsg (dC (.int 0)) (gN 2)) (r_is_point_2))
def r_is_point_0 : dS :=
  (sSeq (sIf (dtOr (dtNot (dtTru (dIsi "tuple" (dVar 0)))) (dtB (dOp neF (dCB lenF (dCons (dVar 0) dNil)) (dOp addF (dVar 1) (dC (.int 1)))))) (sRet (dC (.bl false))) sNil) (r_is_point_1))
def t_is_point : dS :=
  (r_is_point_0)
theorem len_is_point : ∀ x ds, sp_is_point.pre x ds → ds.length = 2 := fun x ds h => by rw [h.1]; rfl
theorem all_ints : ∀ es : List D, es.all isI' = true → ∃ L : List Int, es = L.map .int
  | [], _ => ⟨[], rfl⟩
  | d :: es, h => by
    rw [List.all_cons, Bool.and_eq_true] at h
    obtain ⟨L, rfl⟩ := all_ints es h.2
    cases d with
    | int i => exact ⟨i :: L, rfl⟩
    | _ => exact absurd h.1 (by simp [isI'])
theorem ints_all : ∀ L : List Int, (L.map D.int).all isI' = true
  | [] => rfl
  | i :: L => by rw [List.map_cons, List.all_cons, ints_all L]; rfl
theorem take_all {es : List D} {i : Nat} {x : D} (h : es[i]? = some x) (q : (es.take i).all isI' = true) (r : isI' x = true) : (es.take (i + 1)).all isI' = true := by
  rw [List.take_add_one, h, List.all_append, q]; simp [r]
theorem int_inj : ∀ {L M : List Int}, L.map D.int = M.map D.int → L = M
  | [], [], _ => rfl
  | [], _ :: _, h => by simp at h
  | _ :: _, [], h => by simp at h
  | a :: L, b :: M, h => by
    rw [List.map_cons, List.map_cons] at h
    injection h with h1 h2
    injection h1 with h1
    rw [h1, int_inj h2]
theorem tI_inj {L M : List Int} (h : tI L = tI M) : L = M := by
  injection h with h
  exact int_inj h
theorem w_is_point : ∀ x ds, sp_is_point.pre x ds → t_is_point (endP sp_is_point x) (startE nm_is_point.length ds) [] := by
  rintro ⟨d, n⟩ ds ⟨rfl, ⟨hd, hs⟩, n0⟩
  simp only at hd hs n0
  have no : (∀ (L : List Int) (r : Int), d = tI (L ++ [r]) → (L.length : Int) ≠ n) → (endP sp_is_point ⟨d, n⟩).rt (.bl false) [] := fun h => rt_val rfl ⟨fun L r e hl => absurd hl (h L r e), fun _ => rfl⟩
  cases d with
  | tup es =>
    by_cases hl : (es.length : Int) = n + 1
    · simp only [t_is_point , r_is_point_0, nm_is_point, hl, dOp, dUn, dVar, dC, slot, startE, List.map, List.length, List.replicate, List.append, List.cons_append, List.nil_append, List.set, dAnd, dOr, dNot, dtB, dtAnd, dtOr, dtNot, dIf, dtTru, truF, dNil, dCons, dTup, dLst, dCB, sNil, sSeq, sRet, sRetN, sExpr, sIf, sAsg, gN, gT, gsNil, gsCons, gS, sPar, sAug, sWhile, sFor, sBrk, sCont, sNo, sRaise, dCallP_eq, dCallD_eq, List.length_map, List.getElem?_cons_succ, List.getElem?_concat_length, set_last, get_mid, get_mid2, eqF, neF, ltF, leF, gtF, geF, isF, notF, addF, subF, mulF, fdivF, modF, powF, negF, ixF, lenF, tupF, lstF, absF, intF, gcdF, maxF, minF, Rs.to, dIsi, dIsi2, dIsE, tyN, D.isNon, dM1, dM0, srcSeq, srcRng1, srcRng2, dLc, tYesD, iaddF, isBF, notBF, srcZip, srcEnumerate, repF, sumF, allF, anyF, intsOf_map, blsOf_map, dSl, dPart, dNoPart, sliceF, at0, at1, at2, at3, at4, ix0, ix1, ix2, ix3, Dn.g0, Dn.g1, Dn.g2, Dn.g3, Dn.g4, ex_some, decide_true, decide_false, Bool.not_true, Bool.not_false, ite_true, ite_false, if_true, if_false, List.reverse_cons, List.reverse_nil, outPost, wipeE, CTg.set, setAll, appF, extF, revF, popF, Nat.zero_add, Nat.reduceAdd, is_NoneType_int, is_NoneType_bool, is_NoneType_str, is_NoneType_tuple, is_NoneType_list, is_bool_int, is_bool_bool, is_bool_str, is_bool_tuple, is_bool_list, is_int_int, is_int_bool, is_int_str, is_int_tuple, is_int_list, is_str_int, is_str_bool, is_str_str, is_str_tuple, is_str_list, is_tuple_int, is_tuple_bool, is_tuple_str, is_tuple_tuple, is_tuple_list, is_list_int, is_list_bool, is_list_str, is_list_tuple, is_list_list, strF, dDct, repLF, is_dict_int, is_dict_bool, is_dict_str, is_dict_tuple, is_dict_list, is_dict_dict, is_NoneType_dict, is_bool_dict, is_int_dict, is_str_dict, is_tuple_dict, is_list_dict]
      simp only [r_is_point_1, dOp, dUn, dVar, dC, slot, startE, List.map, List.length, List.replicate, List.append, List.cons_append, List.nil_append, List.set, dAnd, dOr, dNot, dtB, dtAnd, dtOr, dtNot, dIf, dtTru, truF, dNil, dCons, dTup, dLst, dCB, sNil, sSeq, sRet, sRetN, sExpr, sIf, sAsg, gN, gT, gsNil, gsCons, gS, sPar, sAug, sWhile, sFor, sBrk, sCont, sNo, sRaise, dCallP_eq, dCallD_eq, List.length_map, List.getElem?_cons_succ, List.getElem?_concat_length, set_last, get_mid, get_mid2, eqF, neF, ltF, leF, gtF, geF, isF, notF, addF, subF, mulF, fdivF, modF, powF, negF, ixF, lenF, tupF, lstF, absF, intF, gcdF, maxF, minF, Rs.to, dIsi, dIsi2, dIsE, tyN, D.isNon, dM1, dM0, srcSeq, srcRng1, srcRng2, dLc, tYesD, iaddF, isBF, notBF, srcZip, srcEnumerate, repF, sumF, allF, anyF, intsOf_map, blsOf_map, dSl, dPart, dNoPart, sliceF, at0, at1, at2, at3, at4, ix0, ix1, ix2, ix3, Dn.g0, Dn.g1, Dn.g2, Dn.g3, Dn.g4, ex_some, decide_true, decide_false, Bool.not_true, Bool.not_false, ite_true, ite_false, if_true, if_false, List.reverse_cons, List.reverse_nil, outPost, wipeE, CTg.set, setAll, appF, extF, revF, popF, Nat.zero_add, Nat.reduceAdd, is_NoneType_int, is_NoneType_bool, is_NoneType_str, is_NoneType_tuple, is_NoneType_list, is_bool_int, is_bool_bool, is_bool_str, is_bool_tuple, is_bool_list, is_int_int, is_int_bool, is_int_str, is_int_tuple, is_int_list, is_str_int, is_str_bool, is_str_str, is_str_tuple, is_str_list, is_tuple_int, is_tuple_bool, is_tuple_str, is_tuple_tuple, is_tuple_list, is_list_int, is_list_bool, is_list_str, is_list_tuple, is_list_list, strF, dDct, repLF, is_dict_int, is_dict_bool, is_dict_str, is_dict_tuple, is_dict_list, is_dict_dict, is_NoneType_dict, is_bool_dict, is_int_dict, is_str_dict, is_tuple_dict, is_list_dict]
      cases ha : es.all isI' with
      | true =>
        obtain ⟨L', rfl⟩ := all_ints es ha
        have hne : L' ≠ [] := fun c => by subst c; simp at hl; omega
        obtain ⟨L, r, rfl⟩ : ∃ L r, L' = L ++ [r] := ⟨L'.dropLast, L'.getLast hne, (List.dropLast_concat_getLast hne).symm⟩
        simp only [r_is_point_2, dOp, dUn, dVar, dC, slot, startE, List.map, List.length, List.replicate, List.append, List.cons_append, List.nil_append, List.set, dAnd, dOr, dNot, dtB, dtAnd, dtOr, dtNot, dIf, dtTru, truF, dNil, dCons, dTup, dLst, dCB, sNil, sSeq, sRet, sRetN, sExpr, sIf, sAsg, gN, gT, gsNil, gsCons, gS, sPar, sAug, sWhile, sFor, sBrk, sCont, sNo, sRaise, dCallP_eq, dCallD_eq, List.length_map, List.getElem?_cons_succ, List.getElem?_concat_length, set_last, get_mid, get_mid2, eqF, neF, ltF, leF, gtF, geF, isF, notF, addF, subF, mulF, fdivF, modF, powF, negF, ixF, lenF, tupF, lstF, absF, intF, gcdF, maxF, minF, Rs.to, dIsi, dIsi2, dIsE, tyN, D.isNon, dM1, dM0, srcSeq, srcRng1, srcRng2, dLc, tYesD, iaddF, isBF, notBF, srcZip, srcEnumerate, repF, sumF, allF, anyF, intsOf_map, blsOf_map, dSl, dPart, dNoPart, sliceF, at0, at1, at2, at3, at4, ix0, ix1, ix2, ix3, Dn.g0, Dn.g1, Dn.g2, Dn.g3, Dn.g4, ex_some, decide_true, decide_false, Bool.not_true, Bool.not_false, ite_true, ite_false, if_true, if_false, List.reverse_cons, List.reverse_nil, outPost, wipeE, CTg.set, setAll, appF, extF, revF, popF, Nat.zero_add, Nat.reduceAdd, is_NoneType_int, is_NoneType_bool, is_NoneType_str, is_NoneType_tuple, is_NoneType_list, is_bool_int, is_bool_bool, is_bool_str, is_bool_tuple, is_bool_list, is_int_int, is_int_bool, is_int_str, is_int_tuple, is_int_list, is_str_int, is_str_bool, is_str_str, is_str_tuple, is_str_list, is_tuple_int, is_tuple_bool, is_tuple_str, is_tuple_tuple, is_tuple_list, is_list_int, is_list_bool, is_list_str, is_list_tuple, is_list_list, strF, dDct, repLF, is_dict_int, is_dict_bool, is_dict_str, is_dict_tuple, is_dict_list, is_dict_dict, is_NoneType_dict, is_bool_dict, is_int_dict, is_str_dict, is_tuple_dict, is_list_dict]
        refine ⟨fun i e h => (∃ u, e = [some (tI (L ++ [r])), some (.int n), some (.int (gcdL ((L ++ [r]).take i))), u]) ∧ h = [], ⟨⟨_, rfl⟩, rfl⟩, fun _ _ _ _ _ => trivial, ?_, ?_⟩
        · rintro i x e h hx ⟨⟨u, rfl⟩, rfl⟩
          obtain ⟨hi, rfl⟩ := mapi_at hx
          simp only [l1_is_point_0, dOp, dUn, dVar, dC, slot, startE, List.map, List.length, List.replicate, List.append, List.cons_append, List.nil_append, List.set, dAnd, dOr, dNot, dtB, dtAnd, dtOr, dtNot, dIf, dtTru, truF, dNil, dCons, dTup, dLst, dCB, sNil, sSeq, sRet, sRetN, sExpr, sIf, sAsg, gN, gT, gsNil, gsCons, gS, sPar, sAug, sWhile, sFor, sBrk, sCont, sNo, sRaise, dCallP_eq, dCallD_eq, List.length_map, List.getElem?_cons_succ, List.getElem?_concat_length, set_last, get_mid, get_mid2, eqF, neF, ltF, leF, gtF, geF, isF, notF, addF, subF, mulF, fdivF, modF, powF, negF, ixF, lenF, tupF, lstF, absF, intF, gcdF, maxF, minF, Rs.to, dIsi, dIsi2, dIsE, tyN, D.isNon, dM1, dM0, srcSeq, srcRng1, srcRng2, dLc, tYesD, iaddF, isBF, notBF, srcZip, srcEnumerate, repF, sumF, allF, anyF, intsOf_map, blsOf_map, dSl, dPart, dNoPart, sliceF, at0, at1, at2, at3, at4, ix0, ix1, ix2, ix3, Dn.g0, Dn.g1, Dn.g2, Dn.g3, Dn.g4, ex_some, decide_true, decide_false, Bool.not_true, Bool.not_false, ite_true, ite_false, if_true, if_false, List.reverse_cons, List.reverse_nil, outPost, wipeE, CTg.set, setAll, appF, extF, revF, popF, Nat.zero_add, Nat.reduceAdd, is_NoneType_int, is_NoneType_bool, is_NoneType_str, is_NoneType_tuple, is_NoneType_list, is_bool_int, is_bool_bool, is_bool_str, is_bool_tuple, is_bool_list, is_int_int, is_int_bool, is_int_str, is_int_tuple, is_int_list, is_str_int, is_str_bool, is_str_str, is_str_tuple, is_str_list, is_tuple_int, is_tuple_bool, is_tuple_str, is_tuple_tuple, is_tuple_list, is_list_int, is_list_bool, is_list_str, is_list_tuple, is_list_list, strF, dDct, repLF, is_dict_int, is_dict_bool, is_dict_str, is_dict_tuple, is_dict_list, is_dict_dict, is_NoneType_dict, is_bool_dict, is_int_dict, is_str_dict, is_tuple_dict, is_list_dict]
          simp only [l1_is_point_1, dOp, dUn, dVar, dC, slot, startE, List.map, List.length, List.replicate, List.append, List.cons_append, List.nil_append, List.set, dAnd, dOr, dNot, dtB, dtAnd, dtOr, dtNot, dIf, dtTru, truF, dNil, dCons, dTup, dLst, dCB, sNil, sSeq, sRet, sRetN, sExpr, sIf, sAsg, gN, gT, gsNil, gsCons, gS, sPar, sAug, sWhile, sFor, sBrk, sCont, sNo, sRaise, dCallP_eq, dCallD_eq, List.length_map, List.getElem?_cons_succ, List.getElem?_concat_length, set_last, get_mid, get_mid2, eqF, neF, ltF, leF, gtF, geF, isF, notF, addF, subF, mulF, fdivF, modF, powF, negF, ixF, lenF, tupF, lstF, absF, intF, gcdF, maxF, minF, Rs.to, dIsi, dIsi2, dIsE, tyN, D.isNon, dM1, dM0, srcSeq, srcRng1, srcRng2, dLc, tYesD, iaddF, isBF, notBF, srcZip, srcEnumerate, repF, sumF, allF, anyF, intsOf_map, blsOf_map, dSl, dPart, dNoPart, sliceF, at0, at1, at2, at3, at4, ix0, ix1, ix2, ix3, Dn.g0, Dn.g1, Dn.g2, Dn.g3, Dn.g4, ex_some, decide_true, decide_false, Bool.not_true, Bool.not_false, ite_true, ite_false, if_true, if_false, List.reverse_cons, List.reverse_nil, outPost, wipeE, CTg.set, setAll, appF, extF, revF, popF, Nat.zero_add, Nat.reduceAdd, is_NoneType_int, is_NoneType_bool, is_NoneType_str, is_NoneType_tuple, is_NoneType_list, is_bool_int, is_bool_bool, is_bool_str, is_bool_tuple, is_bool_list, is_int_int, is_int_bool, is_int_str, is_int_tuple, is_int_list, is_str_int, is_str_bool, is_str_str, is_str_tuple, is_str_list, is_tuple_int, is_tuple_bool, is_tuple_str, is_tuple_tuple, is_tuple_list, is_list_int, is_list_bool, is_list_str, is_list_tuple, is_list_list, strF, dDct, repLF, is_dict_int, is_dict_bool, is_dict_str, is_dict_tuple, is_dict_list, is_dict_dict, is_NoneType_dict, is_bool_dict, is_int_dict, is_str_dict, is_tuple_dict, is_list_dict]
          refine ⟨⟨some (.int ((L ++ [r]).getD i 0)), ?_⟩, trivial⟩
          rw [gcdL_at hi]; rfl
        · rintro e h ⟨⟨u, rfl⟩, rfl⟩
          rw [List.take_length]
          simp only [r_is_point_3, at_lasti, dOp, dUn, dVar, dC, slot, startE, List.map, List.length, List.replicate, List.append, List.cons_append, List.nil_append, List.set, dAnd, dOr, dNot, dtB, dtAnd, dtOr, dtNot, dIf, dtTru, truF, dNil, dCons, dTup, dLst, dCB, sNil, sSeq, sRet, sRetN, sExpr, sIf, sAsg, gN, gT, gsNil, gsCons, gS, sPar, sAug, sWhile, sFor, sBrk, sCont, sNo, sRaise, dCallP_eq, dCallD_eq, List.length_map, List.getElem?_cons_succ, List.getElem?_concat_length, set_last, get_mid, get_mid2, eqF, neF, ltF, leF, gtF, geF, isF, notF, addF, subF, mulF, fdivF, modF, powF, negF, ixF, lenF, tupF, lstF, absF, intF, gcdF, maxF, minF, Rs.to, dIsi, dIsi2, dIsE, tyN, D.isNon, dM1, dM0, srcSeq, srcRng1, srcRng2, dLc, tYesD, iaddF, isBF, notBF, srcZip, srcEnumerate, repF, sumF, allF, anyF, intsOf_map, blsOf_map, dSl, dPart, dNoPart, sliceF, at0, at1, at2, at3, at4, ix0, ix1, ix2, ix3, Dn.g0, Dn.g1, Dn.g2, Dn.g3, Dn.g4, ex_some, decide_true, decide_false, Bool.not_true, Bool.not_false, ite_true, ite_false, if_true, if_false, List.reverse_cons, List.reverse_nil, outPost, wipeE, CTg.set, setAll, appF, extF, revF, popF, Nat.zero_add, Nat.reduceAdd, is_NoneType_int, is_NoneType_bool, is_NoneType_str, is_NoneType_tuple, is_NoneType_list, is_bool_int, is_bool_bool, is_bool_str, is_bool_tuple, is_bool_list, is_int_int, is_int_bool, is_int_str, is_int_tuple, is_int_list, is_str_int, is_str_bool, is_str_str, is_str_tuple, is_str_list, is_tuple_int, is_tuple_bool, is_tuple_str, is_tuple_tuple, is_tuple_list, is_list_int, is_list_bool, is_list_str, is_list_tuple, is_list_list, strF, dDct, repLF, is_dict_int, is_dict_bool, is_dict_str, is_dict_tuple, is_dict_list, is_dict_dict, is_NoneType_dict, is_bool_dict, is_int_dict, is_str_dict, is_tuple_dict, is_list_dict]
          have fin : ∀ b : Bool, b = (decide (1 ≤ r) && decide (gcdL (L ++ [r]) = 1)) → (endP sp_is_point ⟨.tup ((L ++ [r]).map .int), n⟩).rt (.bl b) [] := fun b hb => rt_val rfl ⟨fun M t e hM => by
            have := tI_inj (show tI (L ++ [r]) = tI (M ++ [t]) from e)
            obtain ⟨rfl, h2⟩ := List.append_inj' this rfl
            injection h2 with h2; subst h2
            rw [hb], fun h => absurd (show (L.length : Int) = n by rw [List.length_map, List.length_append, List.length_singleton] at hl; omega) (h L r rfl)⟩
          by_cases r1 : 1 ≤ r
          · simp only [r1, decide_true]
            refine fin _ ?_
            rw [decide_eq_true r1, Bool.true_and]
            exact decide_eq_decide.mpr (by omega)
          · simp only [r1, decide_false]
            exact fin _ (by rw [decide_eq_false r1]; rfl)
      | false =>
        simp only [r_is_point_2, dOp, dUn, dVar, dC, slot, startE, List.map, List.length, List.replicate, List.append, List.cons_append, List.nil_append, List.set, dAnd, dOr, dNot, dtB, dtAnd, dtOr, dtNot, dIf, dtTru, truF, dNil, dCons, dTup, dLst, dCB, sNil, sSeq, sRet, sRetN, sExpr, sIf, sAsg, gN, gT, gsNil, gsCons, gS, sPar, sAug, sWhile, sFor, sBrk, sCont, sNo, sRaise, dCallP_eq, dCallD_eq, List.length_map, List.getElem?_cons_succ, List.getElem?_concat_length, set_last, get_mid, get_mid2, eqF, neF, ltF, leF, gtF, geF, isF, notF, addF, subF, mulF, fdivF, modF, powF, negF, ixF, lenF, tupF, lstF, absF, intF, gcdF, maxF, minF, Rs.to, dIsi, dIsi2, dIsE, tyN, D.isNon, dM1, dM0, srcSeq, srcRng1, srcRng2, dLc, tYesD, iaddF, isBF, notBF, srcZip, srcEnumerate, repF, sumF, allF, anyF, intsOf_map, blsOf_map, dSl, dPart, dNoPart, sliceF, at0, at1, at2, at3, at4, ix0, ix1, ix2, ix3, Dn.g0, Dn.g1, Dn.g2, Dn.g3, Dn.g4, ex_some, decide_true, decide_false, Bool.not_true, Bool.not_false, ite_true, ite_false, if_true, if_false, List.reverse_cons, List.reverse_nil, outPost, wipeE, CTg.set, setAll, appF, extF, revF, popF, Nat.zero_add, Nat.reduceAdd, is_NoneType_int, is_NoneType_bool, is_NoneType_str, is_NoneType_tuple, is_NoneType_list, is_bool_int, is_bool_bool, is_bool_str, is_bool_tuple, is_bool_list, is_int_int, is_int_bool, is_int_str, is_int_tuple, is_int_list, is_str_int, is_str_bool, is_str_str, is_str_tuple, is_str_list, is_tuple_int, is_tuple_bool, is_tuple_str, is_tuple_tuple, is_tuple_list, is_list_int, is_list_bool, is_list_str, is_list_tuple, is_list_list, strF, dDct, repLF, is_dict_int, is_dict_bool, is_dict_str, is_dict_tuple, is_dict_list, is_dict_dict, is_NoneType_dict, is_bool_dict, is_int_dict, is_str_dict, is_tuple_dict, is_list_dict]
        refine ⟨fun i e h => (∃ g u, e = [some (.tup es), some (.int n), some (.int g), u]) ∧ h = [] ∧ (es.take i).all isI' = true, ⟨⟨_, _, rfl⟩, rfl, rfl⟩, fun _ _ _ _ _ => trivial, ?_, ?_⟩
        · rintro i x e h hx ⟨⟨g, u, rfl⟩, rfl, hi⟩
          have hm := hs es rfl x (List.mem_of_getElem? hx)
          have bad : isI' x = false → (endP sp_is_point ⟨.tup es, n⟩).rt (.bl false) [] := fun hb => no fun L r e _ => by
            injection e with e
            rw [e, ints_all] at ha; cases ha
          cases x with
          | int j =>
            simp only [l1_is_point_0, dOp, dUn, dVar, dC, slot, startE, List.map, List.length, List.replicate, List.append, List.cons_append, List.nil_append, List.set, dAnd, dOr, dNot, dtB, dtAnd, dtOr, dtNot, dIf, dtTru, truF, dNil, dCons, dTup, dLst, dCB, sNil, sSeq, sRet, sRetN, sExpr, sIf, sAsg, gN, gT, gsNil, gsCons, gS, sPar, sAug, sWhile, sFor, sBrk, sCont, sNo, sRaise, dCallP_eq, dCallD_eq, List.length_map, List.getElem?_cons_succ, List.getElem?_concat_length, set_last, get_mid, get_mid2, eqF, neF, ltF, leF, gtF, geF, isF, notF, addF, subF, mulF, fdivF, modF, powF, negF, ixF, lenF, tupF, lstF, absF, intF, gcdF, maxF, minF, Rs.to, dIsi, dIsi2, dIsE, tyN, D.isNon, dM1, dM0, srcSeq, srcRng1, srcRng2, dLc, tYesD, iaddF, isBF, notBF, srcZip, srcEnumerate, repF, sumF, allF, anyF, intsOf_map, blsOf_map, dSl, dPart, dNoPart, sliceF, at0, at1, at2, at3, at4, ix0, ix1, ix2, ix3, Dn.g0, Dn.g1, Dn.g2, Dn.g3, Dn.g4, ex_some, decide_true, decide_false, Bool.not_true, Bool.not_false, ite_true, ite_false, if_true, if_false, List.reverse_cons, List.reverse_nil, outPost, wipeE, CTg.set, setAll, appF, extF, revF, popF, Nat.zero_add, Nat.reduceAdd, is_NoneType_int, is_NoneType_bool, is_NoneType_str, is_NoneType_tuple, is_NoneType_list, is_bool_int, is_bool_bool, is_bool_str, is_bool_tuple, is_bool_list, is_int_int, is_int_bool, is_int_str, is_int_tuple, is_int_list, is_str_int, is_str_bool, is_str_str, is_str_tuple, is_str_list, is_tuple_int, is_tuple_bool, is_tuple_str, is_tuple_tuple, is_tuple_list, is_list_int, is_list_bool, is_list_str, is_list_tuple, is_list_list, strF, dDct, repLF, is_dict_int, is_dict_bool, is_dict_str, is_dict_tuple, is_dict_list, is_dict_dict, is_NoneType_dict, is_bool_dict, is_int_dict, is_str_dict, is_tuple_dict, is_list_dict]
            simp only [l1_is_point_1, dOp, dUn, dVar, dC, slot, startE, List.map, List.length, List.replicate, List.append, List.cons_append, List.nil_append, List.set, dAnd, dOr, dNot, dtB, dtAnd, dtOr, dtNot, dIf, dtTru, truF, dNil, dCons, dTup, dLst, dCB, sNil, sSeq, sRet, sRetN, sExpr, sIf, sAsg, gN, gT, gsNil, gsCons, gS, sPar, sAug, sWhile, sFor, sBrk, sCont, sNo, sRaise, dCallP_eq, dCallD_eq, List.length_map, List.getElem?_cons_succ, List.getElem?_concat_length, set_last, get_mid, get_mid2, eqF, neF, ltF, leF, gtF, geF, isF, notF, addF, subF, mulF, fdivF, modF, powF, negF, ixF, lenF, tupF, lstF, absF, intF, gcdF, maxF, minF, Rs.to, dIsi, dIsi2, dIsE, tyN, D.isNon, dM1, dM0, srcSeq, srcRng1, srcRng2, dLc, tYesD, iaddF, isBF, notBF, srcZip, srcEnumerate, repF, sumF, allF, anyF, intsOf_map, blsOf_map, dSl, dPart, dNoPart, sliceF, at0, at1, at2, at3, at4, ix0, ix1, ix2, ix3, Dn.g0, Dn.g1, Dn.g2, Dn.g3, Dn.g4, ex_some, decide_true, decide_false, Bool.not_true, Bool.not_false, ite_true, ite_false, if_true, if_false, List.reverse_cons, List.reverse_nil, outPost, wipeE, CTg.set, setAll, appF, extF, revF, popF, Nat.zero_add, Nat.reduceAdd, is_NoneType_int, is_NoneType_bool, is_NoneType_str, is_NoneType_tuple, is_NoneType_list, is_bool_int, is_bool_bool, is_bool_str, is_bool_tuple, is_bool_list, is_int_int, is_int_bool, is_int_str, is_int_tuple, is_int_list, is_str_int, is_str_bool, is_str_str, is_str_tuple, is_str_list, is_tuple_int, is_tuple_bool, is_tuple_str, is_tuple_tuple, is_tuple_list, is_list_int, is_list_bool, is_list_str, is_list_tuple, is_list_list, strF, dDct, repLF, is_dict_int, is_dict_bool, is_dict_str, is_dict_tuple, is_dict_list, is_dict_dict, is_NoneType_dict, is_bool_dict, is_int_dict, is_str_dict, is_tuple_dict, is_list_dict]
            exact ⟨⟨_, some (.int j), rfl⟩, trivial, take_all hx hi rfl⟩
          | adr a => cases hm
          | box t ds => cases t with
            | dct =>
              simp only [l1_is_point_0, dOp, dUn, dVar, dC, slot, startE, List.map, List.length, List.replicate, List.append, List.cons_append, List.nil_append, List.set, dAnd, dOr, dNot, dtB, dtAnd, dtOr, dtNot, dIf, dtTru, truF, dNil, dCons, dTup, dLst, dCB, sNil, sSeq, sRet, sRetN, sExpr, sIf, sAsg, gN, gT, gsNil, gsCons, gS, sPar, sAug, sWhile, sFor, sBrk, sCont, sNo, sRaise, dCallP_eq, dCallD_eq, List.length_map, List.getElem?_cons_succ, List.getElem?_concat_length, set_last, get_mid, get_mid2, eqF, neF, ltF, leF, gtF, geF, isF, notF, addF, subF, mulF, fdivF, modF, powF, negF, ixF, lenF, tupF, lstF, absF, intF, gcdF, maxF, minF, Rs.to, dIsi, dIsi2, dIsE, tyN, D.isNon, dM1, dM0, srcSeq, srcRng1, srcRng2, dLc, tYesD, iaddF, isBF, notBF, srcZip, srcEnumerate, repF, sumF, allF, anyF, intsOf_map, blsOf_map, dSl, dPart, dNoPart, sliceF, at0, at1, at2, at3, at4, ix0, ix1, ix2, ix3, Dn.g0, Dn.g1, Dn.g2, Dn.g3, Dn.g4, ex_some, decide_true, decide_false, Bool.not_true, Bool.not_false, ite_true, ite_false, if_true, if_false, List.reverse_cons, List.reverse_nil, outPost, wipeE, CTg.set, setAll, appF, extF, revF, popF, Nat.zero_add, Nat.reduceAdd, is_NoneType_int, is_NoneType_bool, is_NoneType_str, is_NoneType_tuple, is_NoneType_list, is_bool_int, is_bool_bool, is_bool_str, is_bool_tuple, is_bool_list, is_int_int, is_int_bool, is_int_str, is_int_tuple, is_int_list, is_str_int, is_str_bool, is_str_str, is_str_tuple, is_str_list, is_tuple_int, is_tuple_bool, is_tuple_str, is_tuple_tuple, is_tuple_list, is_list_int, is_list_bool, is_list_str, is_list_tuple, is_list_list, strF, dDct, repLF, is_dict_int, is_dict_bool, is_dict_str, is_dict_tuple, is_dict_list, is_dict_dict, is_NoneType_dict, is_bool_dict, is_int_dict, is_str_dict, is_tuple_dict, is_list_dict]
              exact bad rfl
            | ins C fs => cases hm
          | _ =>
            simp only [l1_is_point_0, dOp, dUn, dVar, dC, slot, startE, List.map, List.length, List.replicate, List.append, List.cons_append, List.nil_append, List.set, dAnd, dOr, dNot, dtB, dtAnd, dtOr, dtNot, dIf, dtTru, truF, dNil, dCons, dTup, dLst, dCB, sNil, sSeq, sRet, sRetN, sExpr, sIf, sAsg, gN, gT, gsNil, gsCons, gS, sPar, sAug, sWhile, sFor, sBrk, sCont, sNo, sRaise, dCallP_eq, dCallD_eq, List.length_map, List.getElem?_cons_succ, List.getElem?_concat_length, set_last, get_mid, get_mid2, eqF, neF, ltF, leF, gtF, geF, isF, notF, addF, subF, mulF, fdivF, modF, powF, negF, ixF, lenF, tupF, lstF, absF, intF, gcdF, maxF, minF, Rs.to, dIsi, dIsi2, dIsE, tyN, D.isNon, dM1, dM0, srcSeq, srcRng1, srcRng2, dLc, tYesD, iaddF, isBF, notBF, srcZip, srcEnumerate, repF, sumF, allF, anyF, intsOf_map, blsOf_map, dSl, dPart, dNoPart, sliceF, at0, at1, at2, at3, at4, ix0, ix1, ix2, ix3, Dn.g0, Dn.g1, Dn.g2, Dn.g3, Dn.g4, ex_some, decide_true, decide_false, Bool.not_true, Bool.not_false, ite_true, ite_false, if_true, if_false, List.reverse_cons, List.reverse_nil, outPost, wipeE, CTg.set, setAll, appF, extF, revF, popF, Nat.zero_add, Nat.reduceAdd, is_NoneType_int, is_NoneType_bool, is_NoneType_str, is_NoneType_tuple, is_NoneType_list, is_bool_int, is_bool_bool, is_bool_str, is_bool_tuple, is_bool_list, is_int_int, is_int_bool, is_int_str, is_int_tuple, is_int_list, is_str_int, is_str_bool, is_str_str, is_str_tuple, is_str_list, is_tuple_int, is_tuple_bool, is_tuple_str, is_tuple_tuple, is_tuple_list, is_list_int, is_list_bool, is_list_str, is_list_tuple, is_list_list, strF, dDct, repLF, is_dict_int, is_dict_bool, is_dict_str, is_dict_tuple, is_dict_list, is_dict_dict, is_NoneType_dict, is_bool_dict, is_int_dict, is_str_dict, is_tuple_dict, is_list_dict]
            exact bad rfl
        · rintro e h ⟨_, _, q⟩
          rw [List.take_length, ha] at q; cases q
    · simp only [t_is_point , r_is_point_0, nm_is_point, hl, dOp, dUn, dVar, dC, slot, startE, List.map, List.length, List.replicate, List.append, List.cons_append, List.nil_append, List.set, dAnd, dOr, dNot, dtB, dtAnd, dtOr, dtNot, dIf, dtTru, truF, dNil, dCons, dTup, dLst, dCB, sNil, sSeq, sRet, sRetN, sExpr, sIf, sAsg, gN, gT, gsNil, gsCons, gS, sPar, sAug, sWhile, sFor, sBrk, sCont, sNo, sRaise, dCallP_eq, dCallD_eq, List.length_map, List.getElem?_cons_succ, List.getElem?_concat_length, set_last, get_mid, get_mid2, eqF, neF, ltF, leF, gtF, geF, isF, notF, addF, subF, mulF, fdivF, modF, powF, negF, ixF, lenF, tupF, lstF, absF, intF, gcdF, maxF, minF, Rs.to, dIsi, dIsi2, dIsE, tyN, D.isNon, dM1, dM0, srcSeq, srcRng1, srcRng2, dLc, tYesD, iaddF, isBF, notBF, srcZip, srcEnumerate, repF, sumF, allF, anyF, intsOf_map, blsOf_map, dSl, dPart, dNoPart, sliceF, at0, at1, at2, at3, at4, ix0, ix1, ix2, ix3, Dn.g0, Dn.g1, Dn.g2, Dn.g3, Dn.g4, ex_some, decide_true, decide_false, Bool.not_true, Bool.not_false, ite_true, ite_false, if_true, if_false, List.reverse_cons, List.reverse_nil, outPost, wipeE, CTg.set, setAll, appF, extF, revF, popF, Nat.zero_add, Nat.reduceAdd, is_NoneType_int, is_NoneType_bool, is_NoneType_str, is_NoneType_tuple, is_NoneType_list, is_bool_int, is_bool_bool, is_bool_str, is_bool_tuple, is_bool_list, is_int_int, is_int_bool, is_int_str, is_int_tuple, is_int_list, is_str_int, is_str_bool, is_str_str, is_str_tuple, is_str_list, is_tuple_int, is_tuple_bool, is_tuple_str, is_tuple_tuple, is_tuple_list, is_list_int, is_list_bool, is_list_str, is_list_tuple, is_list_list, strF, dDct, repLF, is_dict_int, is_dict_bool, is_dict_str, is_dict_tuple, is_dict_list, is_dict_dict, is_NoneType_dict, is_bool_dict, is_int_dict, is_str_dict, is_tuple_dict, is_list_dict]
      exact no fun L r e h => by
        injection e with e
        rw [e, List.length_map, List.length_append, List.length_singleton] at hl; omega
  | adr a => cases hd
  | box t ds => cases t with
    | dct =>
      simp only [t_is_point , r_is_point_0, nm_is_point, dOp, dUn, dVar, dC, slot, startE, List.map, List.length, List.replicate, List.append, List.cons_append, List.nil_append, List.set, dAnd, dOr, dNot, dtB, dtAnd, dtOr, dtNot, dIf, dtTru, truF, dNil, dCons, dTup, dLst, dCB, sNil, sSeq, sRet, sRetN, sExpr, sIf, sAsg, gN, gT, gsNil, gsCons, gS, sPar, sAug, sWhile, sFor, sBrk, sCont, sNo, sRaise, dCallP_eq, dCallD_eq, List.length_map, List.getElem?_cons_succ, List.getElem?_concat_length, set_last, get_mid, get_mid2, eqF, neF, ltF, leF, gtF, geF, isF, notF, addF, subF, mulF, fdivF, modF, powF, negF, ixF, lenF, tupF, lstF, absF, intF, gcdF, maxF, minF, Rs.to, dIsi, dIsi2, dIsE, tyN, D.isNon, dM1, dM0, srcSeq, srcRng1, srcRng2, dLc, tYesD, iaddF, isBF, notBF, srcZip, srcEnumerate, repF, sumF, allF, anyF, intsOf_map, blsOf_map, dSl, dPart, dNoPart, sliceF, at0, at1, at2, at3, at4, ix0, ix1, ix2, ix3, Dn.g0, Dn.g1, Dn.g2, Dn.g3, Dn.g4, ex_some, decide_true, decide_false, Bool.not_true, Bool.not_false, ite_true, ite_false, if_true, if_false, List.reverse_cons, List.reverse_nil, outPost, wipeE, CTg.set, setAll, appF, extF, revF, popF, Nat.zero_add, Nat.reduceAdd, is_NoneType_int, is_NoneType_bool, is_NoneType_str, is_NoneType_tuple, is_NoneType_list, is_bool_int, is_bool_bool, is_bool_str, is_bool_tuple, is_bool_list, is_int_int, is_int_bool, is_int_str, is_int_tuple, is_int_list, is_str_int, is_str_bool, is_str_str, is_str_tuple, is_str_list, is_tuple_int, is_tuple_bool, is_tuple_str, is_tuple_tuple, is_tuple_list, is_list_int, is_list_bool, is_list_str, is_list_tuple, is_list_list, strF, dDct, repLF, is_dict_int, is_dict_bool, is_dict_str, is_dict_tuple, is_dict_list, is_dict_dict, is_NoneType_dict, is_bool_dict, is_int_dict, is_str_dict, is_tuple_dict, is_list_dict]
      exact no fun L r e => by cases e
    | ins C fs => cases hd
  | _ =>
    simp only [t_is_point , r_is_point_0, nm_is_point, dOp, dUn, dVar, dC, slot, startE, List.map, List.length, List.replicate, List.append, List.cons_append, List.nil_append, List.set, dAnd, dOr, dNot, dtB, dtAnd, dtOr, dtNot, dIf, dtTru, truF, dNil, dCons, dTup, dLst, dCB, sNil, sSeq, sRet, sRetN, sExpr, sIf, sAsg, gN, gT, gsNil, gsCons, gS, sPar, sAug, sWhile, sFor, sBrk, sCont, sNo, sRaise, dCallP_eq, dCallD_eq, List.length_map, List.getElem?_cons_succ, List.getElem?_concat_length, set_last, get_mid, get_mid2, eqF, neF, ltF, leF, gtF, geF, isF, notF, addF, subF, mulF, fdivF, modF, powF, negF, ixF, lenF, tupF, lstF, absF, intF, gcdF, maxF, minF, Rs.to, dIsi, dIsi2, dIsE, tyN, D.isNon, dM1, dM0, srcSeq, srcRng1, srcRng2, dLc, tYesD, iaddF, isBF, notBF, srcZip, srcEnumerate, repF, sumF, allF, anyF, intsOf_map, blsOf_map, dSl, dPart, dNoPart, sliceF, at0, at1, at2, at3, at4, ix0, ix1, ix2, ix3, Dn.g0, Dn.g1, Dn.g2, Dn.g3, Dn.g4, ex_some, decide_true, decide_false, Bool.not_true, Bool.not_false, ite_true, ite_false, if_true, if_false, List.reverse_cons, List.reverse_nil, outPost, wipeE, CTg.set, setAll, appF, extF, revF, popF, Nat.zero_add, Nat.reduceAdd, is_NoneType_int, is_NoneType_bool, is_NoneType_str, is_NoneType_tuple, is_NoneType_list, is_bool_int, is_bool_bool, is_bool_str, is_bool_tuple, is_bool_list, is_int_int, is_int_bool, is_int_str, is_int_tuple, is_int_list, is_str_int, is_str_bool, is_str_str, is_str_tuple, is_str_list, is_tuple_int, is_tuple_bool, is_tuple_str, is_tuple_tuple, is_tuple_list, is_list_int, is_list_bool, is_list_str, is_list_tuple, is_list_list, strF, dDct, repLF, is_dict_int, is_dict_bool, is_dict_str, is_dict_tuple, is_dict_list, is_dict_dict, is_NoneType_dict, is_bool_dict, is_int_dict, is_str_dict, is_tuple_dict, is_list_dict]
    exact no fun L r e => by cases e

theorem ok_is_point (T : Txt K mg) : Ok P w K mg base 1 "is_point" ["place", "size"] (spP K mg sp_is_point) :=
  okOf T.d_is_point fun f fd F => fnP (k := 0) sp_is_point t_is_point F sc_is_point (fun x ds hp => len_is_point x ds hp) (fun cdv A outer s H E hr z => by
    have hu := hr.units; have hnd := sc_is_point.nd
    unfold t_is_point r_is_point_0 r_is_point_1 r_is_point_2 r_is_point_3 l1_is_point_0 l1_is_point_1
    exact (dss_cons (ds_if (dw_pt (dw_or (dt_not (dt_tru (de_isi kit_tuple rfl T.b_isinstance rfl T.b_tuple (by decide +kernel) (by decide) (by decide) (de_var 0 rfl (by walk_at "vis") (by decide) (by decide)) rfl rfl rfl) (fun _ => rfl))) (dw_or1 (dt_cmp (op_neA hu) od_ne (de_callB (f := lenF) call_len_seq cd_len rfl T.b_len (by decide +kernel) (da_cons (de_var 0 rfl (by walk_at "vis") (by decide) (by decide)) da_nil rfl) (by decide) (by decide) rfl rfl) (de_add (de_var 1 rfl (by walk_at "vis") (by decide) (by decide)) de_int) (nomark _))))) (dss_one (ds_ret de_bl)) dss_nil)
    (dss_cons (ds_set 2 hnd rfl (by walk_at "locs") de_int rfl (by walk_at "fnn"))
    (dss_cons (ds_for (passes_of (K := fun e s'' => L2.CX P w outer H s E e s'') (E₁ := fun e s'' => L2.CX P w outer H s E e s'') rfl) rfl (di_seq (de_var 0 rfl (by walk_at "vis") (by decide) (by decide))) (dg_name 3 hnd rfl (by walk_at "locs") (by walk_at "fnn")) (dss_cons (ds_if (dw_pt (dw_or (dt_not (dt_tru (de_isi kit_int rfl T.b_isinstance rfl T.b_int (by decide +kernel) (by decide) (by decide) (de_var 3 rfl (by walk_at "vis") (by decide) (by decide)) rfl rfl rfl) (fun _ => rfl))) (dw_or1 (dt_tru (de_isi kit_bool rfl T.b_isinstance rfl T.b_bool (by decide +kernel) (by decide) (by decide) (de_var 3 rfl (by walk_at "vis") (by decide) (by decide)) rfl rfl rfl) (fun _ => rfl))))) (dss_one (ds_ret de_bl)) dss_nil)
    (dss_one (ds_set 2 hnd rfl (by walk_at "locs") (de_callF (f := gcdF) cr_gcd cd_gcd rfl T.m_gcd (da_cons (de_var 2 rfl (by walk_at "vis") (by decide) (by decide)) (da_cons (de_var 3 rfl (by walk_at "vis") (by decide) (by decide)) da_nil rfl) rfl) (by decide) rfl rfl) rfl (by walk_at "fnn")))) (fun _ => rfl))
    (dss_one (ds_ret (de_and (de_ge (de_ix (de_var 0 rfl (by walk_at "vis") (by decide) (by decide)) (de_neg de_int) (fun _ _ => rfl)) de_int) (de_one (de_eq hu (de_var 2 rfl (by walk_at "vis") (by decide) (by decide)) de_int))))))))) w_is_point
/-! ### is_told_form -/
def bndI : D → Bool
  | .int i => decide ((if i < 0 then -i else i) ≤ 1000000000)
  | _ => false
def tformB (n : Int) (d : D) : Bool := formB n d && (match d with
  | .tup es => es.all bndI
  | _ => false)
def sp_is_told_form : Spc DN where
  pre := fun x ds => ds = [x.d, .int x.n] ∧ noA x.d = true ∧ x.n ≤ 90
  res := fun x o => o = .val (.bl (tformB x.n x.d))
  exc := fun _ _ => False

def r_is_told_form_0 : dS :=
  (sRet (dAnd (dCallP sp_is_form (dCons (dVar 0) (dCons (dVar 1) dNil))) (dCB allF (dCons (dLc (srcSeq (dVar 0)) (.one 2) [2] tYesD (dOp leF (dCB absF (dCons (dVar 2) dNil)) (dC (.int 1000000000)))) dNil))))
def t_is_told_form : dS :=
  (r_is_told_form_0)
theorem useP_form {d : D} {n : Int} {h : Hh} {Q : D → Hh → Prop} {E : XK'} (hn : noA d = true) (q : Q (.bl (formB n d)) h) : useP sp_is_form [d, .int n] h Q E :=
  useP_mk ⟨d, n⟩ _ (.cons (view_noA hn) (.cons (.pure rfl) .nil)) ⟨rfl, hn⟩ (fun o ho _ => by rw [ho]; exact q) (fun _ q => q)
theorem form_shape {n : Int} {d : D} (h : formB n d = true) : ∃ L : List Int, d = tI L ∧ (L.length : Int) = n + 1 := by
  cases d with
  | tup es =>
    rw [formB_tup, Bool.and_eq_true] at h
    obtain ⟨L, rfl⟩ : ∃ L : List Int, es = L.map .int := by
      have h2 := h.2
      clear h
      induction es with
      | nil => exact ⟨[], rfl⟩
      | cons a r ih =>
        rw [List.all_cons, Bool.and_eq_true] at h2
        obtain ⟨L, e⟩ := ih h2.2
        obtain ⟨i, rfl⟩ := isI_int h2.1
        exact ⟨i :: L, by rw [List.map_cons, e]⟩
    exact ⟨L, rfl, by have := of_decide_eq_true h.1; rwa [List.length_map] at this⟩
  | _ => cases h
theorem len_is_told_form : ∀ x ds, sp_is_told_form.pre x ds → ds.length = 2 := fun x ds h => by rw [h.1]; rfl
theorem w_is_told_form : ∀ x ds, sp_is_told_form.pre x ds → t_is_told_form (endP sp_is_told_form x) (startE nm_is_told_form.length ds) [] := by
  rintro ⟨d, n⟩ ds ⟨rfl, hd, hn⟩
  simp only at hd hn
  simp only [t_is_told_form , r_is_told_form_0, nm_is_told_form, dOp, dUn, dVar, dC, slot, startE, List.map, List.length, List.replicate, List.append, List.cons_append, List.nil_append, List.set, dAnd, dOr, dNot, dtB, dtAnd, dtOr, dtNot, dIf, dtTru, truF, dNil, dCons, dTup, dLst, dCB, sNil, sSeq, sRet, sRetN, sExpr, sIf, sAsg, gN, gT, gsNil, gsCons, gS, sPar, sAug, sWhile, sFor, sBrk, sCont, sNo, sRaise, dCallP_eq, dCallD_eq, List.length_map, List.getElem?_cons_succ, List.getElem?_concat_length, set_last, get_mid, get_mid2, eqF, neF, ltF, leF, gtF, geF, isF, notF, addF, subF, mulF, fdivF, modF, powF, negF, ixF, lenF, tupF, lstF, absF, intF, gcdF, maxF, minF, Rs.to, dIsi, dIsi2, dIsE, tyN, D.isNon, dM1, dM0, srcSeq, srcRng1, srcRng2, dLc, tYesD, iaddF, isBF, notBF, srcZip, srcEnumerate, repF, sumF, allF, anyF, intsOf_map, blsOf_map, dSl, dPart, dNoPart, sliceF, at0, at1, at2, at3, at4, ix0, ix1, ix2, ix3, Dn.g0, Dn.g1, Dn.g2, Dn.g3, Dn.g4, ex_some, decide_true, decide_false, Bool.not_true, Bool.not_false, ite_true, ite_false, if_true, if_false, List.reverse_cons, List.reverse_nil, outPost, wipeE, CTg.set, setAll, appF, extF, revF, popF, Nat.zero_add, Nat.reduceAdd, is_NoneType_int, is_NoneType_bool, is_NoneType_str, is_NoneType_tuple, is_NoneType_list, is_bool_int, is_bool_bool, is_bool_str, is_bool_tuple, is_bool_list, is_int_int, is_int_bool, is_int_str, is_int_tuple, is_int_list, is_str_int, is_str_bool, is_str_str, is_str_tuple, is_str_list, is_tuple_int, is_tuple_bool, is_tuple_str, is_tuple_tuple, is_tuple_list, is_list_int, is_list_bool, is_list_str, is_list_tuple, is_list_list, strF, dDct, repLF, is_dict_int, is_dict_bool, is_dict_str, is_dict_tuple, is_dict_list, is_dict_dict, is_NoneType_dict, is_bool_dict, is_int_dict, is_str_dict, is_tuple_dict, is_list_dict]
  refine useP_form hd ?_
  cases hf : formB n d with
  | false =>
    simp only [dOp, dUn, dVar, dC, slot, startE, List.map, List.length, List.replicate, List.append, List.cons_append, List.nil_append, List.set, dAnd, dOr, dNot, dtB, dtAnd, dtOr, dtNot, dIf, dtTru, truF, dNil, dCons, dTup, dLst, dCB, sNil, sSeq, sRet, sRetN, sExpr, sIf, sAsg, gN, gT, gsNil, gsCons, gS, sPar, sAug, sWhile, sFor, sBrk, sCont, sNo, sRaise, dCallP_eq, dCallD_eq, List.length_map, List.getElem?_cons_succ, List.getElem?_concat_length, set_last, get_mid, get_mid2, eqF, neF, ltF, leF, gtF, geF, isF, notF, addF, subF, mulF, fdivF, modF, powF, negF, ixF, lenF, tupF, lstF, absF, intF, gcdF, maxF, minF, Rs.to, dIsi, dIsi2, dIsE, tyN, D.isNon, dM1, dM0, srcSeq, srcRng1, srcRng2, dLc, tYesD, iaddF, isBF, notBF, srcZip, srcEnumerate, repF, sumF, allF, anyF, intsOf_map, blsOf_map, dSl, dPart, dNoPart, sliceF, at0, at1, at2, at3, at4, ix0, ix1, ix2, ix3, Dn.g0, Dn.g1, Dn.g2, Dn.g3, Dn.g4, ex_some, decide_true, decide_false, Bool.not_true, Bool.not_false, ite_true, ite_false, if_true, if_false, List.reverse_cons, List.reverse_nil, outPost, wipeE, CTg.set, setAll, appF, extF, revF, popF, Nat.zero_add, Nat.reduceAdd, is_NoneType_int, is_NoneType_bool, is_NoneType_str, is_NoneType_tuple, is_NoneType_list, is_bool_int, is_bool_bool, is_bool_str, is_bool_tuple, is_bool_list, is_int_int, is_int_bool, is_int_str, is_int_tuple, is_int_list, is_str_int, is_str_bool, is_str_str, is_str_tuple, is_str_list, is_tuple_int, is_tuple_bool, is_tuple_str, is_tuple_tuple, is_tuple_list, is_list_int, is_list_bool, is_list_str, is_list_tuple, is_list_list, strF, dDct, repLF, is_dict_int, is_dict_bool, is_dict_str, is_dict_tuple, is_dict_list, is_dict_dict, is_NoneType_dict, is_bool_dict, is_int_dict, is_str_dict, is_tuple_dict, is_list_dict]
    exact rt_val rfl (by show _ = Out.val (.bl (tformB n d)); unfold tformB; rw [hf]; rfl)
  | true =>
    obtain ⟨L, rfl, hl⟩ := form_shape hf
    simp only [dOp, dUn, dVar, dC, slot, startE, List.map, List.length, List.replicate, List.append, List.cons_append, List.nil_append, List.set, dAnd, dOr, dNot, dtB, dtAnd, dtOr, dtNot, dIf, dtTru, truF, dNil, dCons, dTup, dLst, dCB, sNil, sSeq, sRet, sRetN, sExpr, sIf, sAsg, gN, gT, gsNil, gsCons, gS, sPar, sAug, sWhile, sFor, sBrk, sCont, sNo, sRaise, dCallP_eq, dCallD_eq, List.length_map, List.getElem?_cons_succ, List.getElem?_concat_length, set_last, get_mid, get_mid2, eqF, neF, ltF, leF, gtF, geF, isF, notF, addF, subF, mulF, fdivF, modF, powF, negF, ixF, lenF, tupF, lstF, absF, intF, gcdF, maxF, minF, Rs.to, dIsi, dIsi2, dIsE, tyN, D.isNon, dM1, dM0, srcSeq, srcRng1, srcRng2, dLc, tYesD, iaddF, isBF, notBF, srcZip, srcEnumerate, repF, sumF, allF, anyF, intsOf_map, blsOf_map, dSl, dPart, dNoPart, sliceF, at0, at1, at2, at3, at4, ix0, ix1, ix2, ix3, Dn.g0, Dn.g1, Dn.g2, Dn.g3, Dn.g4, ex_some, decide_true, decide_false, Bool.not_true, Bool.not_false, ite_true, ite_false, if_true, if_false, List.reverse_cons, List.reverse_nil, outPost, wipeE, CTg.set, setAll, appF, extF, revF, popF, Nat.zero_add, Nat.reduceAdd, is_NoneType_int, is_NoneType_bool, is_NoneType_str, is_NoneType_tuple, is_NoneType_list, is_bool_int, is_bool_bool, is_bool_str, is_bool_tuple, is_bool_list, is_int_int, is_int_bool, is_int_str, is_int_tuple, is_int_list, is_str_int, is_str_bool, is_str_str, is_str_tuple, is_str_list, is_tuple_int, is_tuple_bool, is_tuple_str, is_tuple_tuple, is_tuple_list, is_list_int, is_list_bool, is_list_str, is_list_tuple, is_list_list, strF, dDct, repLF, is_dict_int, is_dict_bool, is_dict_str, is_dict_tuple, is_dict_list, is_dict_dict, is_NoneType_dict, is_bool_dict, is_int_dict, is_str_dict, is_tuple_dict, is_list_dict]
    refine ⟨fun i acc h => acc = ((L.take i).map fun x => decide ((if x < 0 then -x else x) ≤ 1000000000)).map .bl ∧ h = [], ⟨rfl, rfl⟩, fun _ _ _ _ _ => trivial, ?_, ?_⟩
    · rintro i x acc h hx ⟨rfl, rfl⟩
      obtain ⟨hi, rfl⟩ := mapi_at hx
      simp only [dOp, dUn, dVar, dC, slot, startE, List.map, List.length, List.replicate, List.append, List.cons_append, List.nil_append, List.set, dAnd, dOr, dNot, dtB, dtAnd, dtOr, dtNot, dIf, dtTru, truF, dNil, dCons, dTup, dLst, dCB, sNil, sSeq, sRet, sRetN, sExpr, sIf, sAsg, gN, gT, gsNil, gsCons, gS, sPar, sAug, sWhile, sFor, sBrk, sCont, sNo, sRaise, dCallP_eq, dCallD_eq, List.length_map, List.getElem?_cons_succ, List.getElem?_concat_length, set_last, get_mid, get_mid2, eqF, neF, ltF, leF, gtF, geF, isF, notF, addF, subF, mulF, fdivF, modF, powF, negF, ixF, lenF, tupF, lstF, absF, intF, gcdF, maxF, minF, Rs.to, dIsi, dIsi2, dIsE, tyN, D.isNon, dM1, dM0, srcSeq, srcRng1, srcRng2, dLc, tYesD, iaddF, isBF, notBF, srcZip, srcEnumerate, repF, sumF, allF, anyF, intsOf_map, blsOf_map, dSl, dPart, dNoPart, sliceF, at0, at1, at2, at3, at4, ix0, ix1, ix2, ix3, Dn.g0, Dn.g1, Dn.g2, Dn.g3, Dn.g4, ex_some, decide_true, decide_false, Bool.not_true, Bool.not_false, ite_true, ite_false, if_true, if_false, List.reverse_cons, List.reverse_nil, outPost, wipeE, CTg.set, setAll, appF, extF, revF, popF, Nat.zero_add, Nat.reduceAdd, is_NoneType_int, is_NoneType_bool, is_NoneType_str, is_NoneType_tuple, is_NoneType_list, is_bool_int, is_bool_bool, is_bool_str, is_bool_tuple, is_bool_list, is_int_int, is_int_bool, is_int_str, is_int_tuple, is_int_list, is_str_int, is_str_bool, is_str_str, is_str_tuple, is_str_list, is_tuple_int, is_tuple_bool, is_tuple_str, is_tuple_tuple, is_tuple_list, is_list_int, is_list_bool, is_list_str, is_list_tuple, is_list_list, strF, dDct, repLF, is_dict_int, is_dict_bool, is_dict_str, is_dict_tuple, is_dict_list, is_dict_dict, is_NoneType_dict, is_bool_dict, is_int_dict, is_str_dict, is_tuple_dict, is_list_dict]
      refine ⟨sl2 (by simp; omega), ?_, trivial⟩
      rw [take_at hi]; simp
    · rintro acc h ⟨rfl, rfl⟩
      simp only [List.length_map, List.take_length, dOp, dUn, dVar, dC, slot, startE, List.map, List.length, List.replicate, List.append, List.cons_append, List.nil_append, List.set, dAnd, dOr, dNot, dtB, dtAnd, dtOr, dtNot, dIf, dtTru, truF, dNil, dCons, dTup, dLst, dCB, sNil, sSeq, sRet, sRetN, sExpr, sIf, sAsg, gN, gT, gsNil, gsCons, gS, sPar, sAug, sWhile, sFor, sBrk, sCont, sNo, sRaise, dCallP_eq, dCallD_eq, List.length_map, List.getElem?_cons_succ, List.getElem?_concat_length, set_last, get_mid, get_mid2, eqF, neF, ltF, leF, gtF, geF, isF, notF, addF, subF, mulF, fdivF, modF, powF, negF, ixF, lenF, tupF, lstF, absF, intF, gcdF, maxF, minF, Rs.to, dIsi, dIsi2, dIsE, tyN, D.isNon, dM1, dM0, srcSeq, srcRng1, srcRng2, dLc, tYesD, iaddF, isBF, notBF, srcZip, srcEnumerate, repF, sumF, allF, anyF, intsOf_map, blsOf_map, dSl, dPart, dNoPart, sliceF, at0, at1, at2, at3, at4, ix0, ix1, ix2, ix3, Dn.g0, Dn.g1, Dn.g2, Dn.g3, Dn.g4, ex_some, decide_true, decide_false, Bool.not_true, Bool.not_false, ite_true, ite_false, if_true, if_false, List.reverse_cons, List.reverse_nil, outPost, wipeE, CTg.set, setAll, appF, extF, revF, popF, Nat.zero_add, Nat.reduceAdd, is_NoneType_int, is_NoneType_bool, is_NoneType_str, is_NoneType_tuple, is_NoneType_list, is_bool_int, is_bool_bool, is_bool_str, is_bool_tuple, is_bool_list, is_int_int, is_int_bool, is_int_str, is_int_tuple, is_int_list, is_str_int, is_str_bool, is_str_str, is_str_tuple, is_str_list, is_tuple_int, is_tuple_bool, is_tuple_str, is_tuple_tuple, is_tuple_list, is_list_int, is_list_bool, is_list_str, is_list_tuple, is_list_list, strF, dDct, repLF, is_dict_int, is_dict_bool, is_dict_str, is_dict_tuple, is_dict_list, is_dict_dict, is_NoneType_dict, is_bool_dict, is_int_dict, is_str_dict, is_tuple_dict, is_list_dict]
      refine rt_val rfl ?_
      show _ = Out.val (.bl (tformB n (tI L)))
      unfold tformB
      rw [hf]
      show _ = Out.val (.bl ((L.map D.int).all bndI))
      rw [List.all_map, List.all_map]
      rfl

theorem ok_is_told_form (T : Txt K mg) : Ok P w K mg base 2 "is_told_form" ["form", "size"] (spP K mg sp_is_told_form) :=
  okOf T.d_is_told_form fun f fd F => fnP (k := 1) sp_is_told_form t_is_told_form F sc_is_told_form (fun x ds hp => len_is_told_form x ds hp) (fun cdv A outer s H E hr z => by
    have hu := hr.units; have hnd := sc_is_told_form.nd
    unfold t_is_told_form r_is_told_form_0
    exact (dss_one (ds_ret (de_and (dn_callP ((ok_is_form (P := P) (w := w) (base := base) T).mono (by decide)) hr (takes_of rfl rfl rfl rfl) rfl (by decide) (da_cons (de_var 0 rfl (by walk_at "vis") (by decide) (by decide)) (da_cons (de_var 1 rfl (by walk_at "vis") (by decide) (by decide)) da_nil rfl) rfl) rfl rfl) (de_one (de_callB (f := allF) (cr_all rfl) cd_all rfl T.b_all (by decide +kernel) (da_cons (de_lc (own := [("number", 2)]) (c := (.one 2)) (tt := tYesD) (te := (dOp leF (dCB absF (dCons (dVar 2) dNil)) (dC (.int 1000000000)))) rfl hnd (di_seq (de_var 0 rfl (by walk_at "vis") (by decide) (by decide))) (blkOk_by (N := nm_is_told_form) (sc := defScope s_is_told_form) (by decide +kernel)) (by decide) (fun _ _ _ _ _ => pg_name (i := 2) hnd rfl (by walk_at "locs") (by walk_at "fnn")) (fun _ _ _ _ _ => dts_nil) (fun _ _ _ _ _ => (de_le (de_callB (f := absF) call_abs cd_abs rfl T.b_abs (by decide +kernel) (da_cons (de_var 2 rfl (by walk_at "vis") (by decide) (by decide)) da_nil rfl) (by decide) (by decide) rfl rfl) (de_glob T.g_BOUND rfl (by decide)))) (fun _ => rfl)) da_nil rfl) (by decide) (by decide) rfl rfl)))))) w_is_told_form
/-! ### coords -/
def sp_coords : Spc (List Int × Int) where
  pre := fun x ds => ds = [tI (x.1 ++ [x.2])] ∧ x.2 ≠ 0 ∧ Lb 8000 (x.1 ++ [x.2])
  res := fun x o => o = .new (x.1.map fun y => rt y x.2)
  exc := fun _ _ => False

def r_coords_0 : dS :=
  (sRet (dLc (srcSeq (dSl (dVar 0) dNoPart (dPart (dUn negF (dC (.int 1)))))) (.one 1) [1] tYesD (dCallP sp_ratio (dCons (dVar 1) (dCons (dOp ixF (dVar 0) (dUn negF (dC (.int 1)))) dNil)))))
def t_coords : dS :=
  (r_coords_0)
theorem rts_pure (q : Int) : ∀ R : List Int, pureDs (R.map fun y => rt y q) = true
  | [] => rfl
  | a :: R => by rw [List.map_cons]; unfold pureDs; rw [rts_pure q R]; rfl
theorem len_coords : ∀ x ds, sp_coords.pre x ds → ds.length = 1 := fun x ds h => by rw [h.1]; rfl
theorem w_coords : ∀ x ds, sp_coords.pre x ds → t_coords (endP sp_coords x) (startE nm_coords.length ds) [] := by
  rintro ⟨l, q⟩ ds ⟨rfl, q0, hb⟩
  simp only at q0 hb
  have := hb.app.1.1
  simp only [t_coords , r_coords_0, nm_coords, cut_last, dOp, dUn, dVar, dC, slot, startE, List.map, List.length, List.replicate, List.append, List.cons_append, List.nil_append, List.set, dAnd, dOr, dNot, dtB, dtAnd, dtOr, dtNot, dIf, dtTru, truF, dNil, dCons, dTup, dLst, dCB, sNil, sSeq, sRet, sRetN, sExpr, sIf, sAsg, gN, gT, gsNil, gsCons, gS, sPar, sAug, sWhile, sFor, sBrk, sCont, sNo, sRaise, dCallP_eq, dCallD_eq, List.length_map, List.getElem?_cons_succ, List.getElem?_concat_length, set_last, get_mid, get_mid2, eqF, neF, ltF, leF, gtF, geF, isF, notF, addF, subF, mulF, fdivF, modF, powF, negF, ixF, lenF, tupF, lstF, absF, intF, gcdF, maxF, minF, Rs.to, dIsi, dIsi2, dIsE, tyN, D.isNon, dM1, dM0, srcSeq, srcRng1, srcRng2, dLc, tYesD, iaddF, isBF, notBF, srcZip, srcEnumerate, repF, sumF, allF, anyF, intsOf_map, blsOf_map, dSl, dPart, dNoPart, sliceF, at0, at1, at2, at3, at4, ix0, ix1, ix2, ix3, Dn.g0, Dn.g1, Dn.g2, Dn.g3, Dn.g4, ex_some, decide_true, decide_false, Bool.not_true, Bool.not_false, ite_true, ite_false, if_true, if_false, List.reverse_cons, List.reverse_nil, outPost, wipeE, CTg.set, setAll, appF, extF, revF, popF, Nat.zero_add, Nat.reduceAdd, is_NoneType_int, is_NoneType_bool, is_NoneType_str, is_NoneType_tuple, is_NoneType_list, is_bool_int, is_bool_bool, is_bool_str, is_bool_tuple, is_bool_list, is_int_int, is_int_bool, is_int_str, is_int_tuple, is_int_list, is_str_int, is_str_bool, is_str_str, is_str_tuple, is_str_list, is_tuple_int, is_tuple_bool, is_tuple_str, is_tuple_tuple, is_tuple_list, is_list_int, is_list_bool, is_list_str, is_list_tuple, is_list_list, strF, dDct, repLF, is_dict_int, is_dict_bool, is_dict_str, is_dict_tuple, is_dict_list, is_dict_dict, is_NoneType_dict, is_bool_dict, is_int_dict, is_str_dict, is_tuple_dict, is_list_dict]
  refine ⟨fun i acc h => acc = (l.take i).map (fun y => rt y q) ∧ h = [], ⟨rfl, rfl⟩, fun _ _ _ _ _ => trivial, ?_, ?_⟩
  · rintro i x acc h hx ⟨rfl, rfl⟩
    obtain ⟨hi, rfl⟩ := mapi_at hx
    simp only [at_lasti, dOp, dUn, dVar, dC, slot, startE, List.map, List.length, List.replicate, List.append, List.cons_append, List.nil_append, List.set, dAnd, dOr, dNot, dtB, dtAnd, dtOr, dtNot, dIf, dtTru, truF, dNil, dCons, dTup, dLst, dCB, sNil, sSeq, sRet, sRetN, sExpr, sIf, sAsg, gN, gT, gsNil, gsCons, gS, sPar, sAug, sWhile, sFor, sBrk, sCont, sNo, sRaise, dCallP_eq, dCallD_eq, List.length_map, List.getElem?_cons_succ, List.getElem?_concat_length, set_last, get_mid, get_mid2, eqF, neF, ltF, leF, gtF, geF, isF, notF, addF, subF, mulF, fdivF, modF, powF, negF, ixF, lenF, tupF, lstF, absF, intF, gcdF, maxF, minF, Rs.to, dIsi, dIsi2, dIsE, tyN, D.isNon, dM1, dM0, srcSeq, srcRng1, srcRng2, dLc, tYesD, iaddF, isBF, notBF, srcZip, srcEnumerate, repF, sumF, allF, anyF, intsOf_map, blsOf_map, dSl, dPart, dNoPart, sliceF, at0, at1, at2, at3, at4, ix0, ix1, ix2, ix3, Dn.g0, Dn.g1, Dn.g2, Dn.g3, Dn.g4, ex_some, decide_true, decide_false, Bool.not_true, Bool.not_false, ite_true, ite_false, if_true, if_false, List.reverse_cons, List.reverse_nil, outPost, wipeE, CTg.set, setAll, appF, extF, revF, popF, Nat.zero_add, Nat.reduceAdd, is_NoneType_int, is_NoneType_bool, is_NoneType_str, is_NoneType_tuple, is_NoneType_list, is_bool_int, is_bool_bool, is_bool_str, is_bool_tuple, is_bool_list, is_int_int, is_int_bool, is_int_str, is_int_tuple, is_int_list, is_str_int, is_str_bool, is_str_str, is_str_tuple, is_str_list, is_tuple_int, is_tuple_bool, is_tuple_str, is_tuple_tuple, is_tuple_list, is_list_int, is_list_bool, is_list_str, is_list_tuple, is_list_list, strF, dDct, repLF, is_dict_int, is_dict_bool, is_dict_str, is_dict_tuple, is_dict_list, is_dict_dict, is_NoneType_dict, is_bool_dict, is_int_dict, is_str_dict, is_tuple_dict, is_list_dict]
    refine useP_mk (l.getD i 0, q) _ (Views.pures rfl) ⟨rfl, hb.app.1.getD i, hb.app.2⟩ (fun o ho _ => ?_) (fun ex he => absurd he.1 q0)
    rw [ho.2]
    show _ ∧ _ ∧ _
    refine ⟨sl2 (by simp; omega), ?_, rfl⟩
    rw [take_at hi]; simp
  · rintro acc h ⟨rfl, rfl⟩
    simp only [List.length_map, List.take_length, dOp, dUn, dVar, dC, slot, startE, List.map, List.length, List.replicate, List.append, List.cons_append, List.nil_append, List.set, dAnd, dOr, dNot, dtB, dtAnd, dtOr, dtNot, dIf, dtTru, truF, dNil, dCons, dTup, dLst, dCB, sNil, sSeq, sRet, sRetN, sExpr, sIf, sAsg, gN, gT, gsNil, gsCons, gS, sPar, sAug, sWhile, sFor, sBrk, sCont, sNo, sRaise, dCallP_eq, dCallD_eq, List.length_map, List.getElem?_cons_succ, List.getElem?_concat_length, set_last, get_mid, get_mid2, eqF, neF, ltF, leF, gtF, geF, isF, notF, addF, subF, mulF, fdivF, modF, powF, negF, ixF, lenF, tupF, lstF, absF, intF, gcdF, maxF, minF, Rs.to, dIsi, dIsi2, dIsE, tyN, D.isNon, dM1, dM0, srcSeq, srcRng1, srcRng2, dLc, tYesD, iaddF, isBF, notBF, srcZip, srcEnumerate, repF, sumF, allF, anyF, intsOf_map, blsOf_map, dSl, dPart, dNoPart, sliceF, at0, at1, at2, at3, at4, ix0, ix1, ix2, ix3, Dn.g0, Dn.g1, Dn.g2, Dn.g3, Dn.g4, ex_some, decide_true, decide_false, Bool.not_true, Bool.not_false, ite_true, ite_false, if_true, if_false, List.reverse_cons, List.reverse_nil, outPost, wipeE, CTg.set, setAll, appF, extF, revF, popF, Nat.zero_add, Nat.reduceAdd, is_NoneType_int, is_NoneType_bool, is_NoneType_str, is_NoneType_tuple, is_NoneType_list, is_bool_int, is_bool_bool, is_bool_str, is_bool_tuple, is_bool_list, is_int_int, is_int_bool, is_int_str, is_int_tuple, is_int_list, is_str_int, is_str_bool, is_str_str, is_str_tuple, is_str_list, is_tuple_int, is_tuple_bool, is_tuple_str, is_tuple_tuple, is_tuple_list, is_list_int, is_list_bool, is_list_str, is_list_tuple, is_list_list, strF, dDct, repLF, is_dict_int, is_dict_bool, is_dict_str, is_dict_tuple, is_dict_list, is_dict_dict, is_NoneType_dict, is_bool_dict, is_int_dict, is_str_dict, is_tuple_dict, is_list_dict]
    exact rt_new rfl (rts_pure _ _) rfl

theorem ok_coords (T : Txt K mg) : Ok P w K mg base 2 "coords" ["place"] (spP K mg sp_coords) :=
  okOf T.d_coords fun f fd F => fnP (k := 1) sp_coords t_coords F sc_coords (fun x ds hp => len_coords x ds hp) (fun cdv A outer s H E hr z => by
    have hu := hr.units; have hnd := sc_coords.nd
    unfold t_coords r_coords_0
    exact (dss_one (ds_ret (de_lc (own := [("number", 1)]) (c := (.one 1)) (tt := tYesD) (te := (dCallP sp_ratio (dCons (dVar 1) (dCons (dOp ixF (dVar 0) (dUn negF (dC (.int 1)))) dNil)))) rfl hnd (di_seq (de_slice (de_var 0 rfl (by walk_at "vis") (by decide) (by decide)) do_none (do_some (de_neg de_int)))) (blkOk_by (N := nm_coords) (sc := defScope s_coords) (by decide +kernel)) (by decide) (fun _ _ _ _ _ => pg_name (i := 1) hnd rfl (by walk_at "locs") (by walk_at "fnn")) (fun _ _ _ _ _ => dts_nil) (fun _ _ _ _ _ => (dn_callP ((ok_ratio (P := P) (w := w) (base := base) T).mono (by decide)) hr takes0 rfl (by decide) (da_cons (de_var 1 rfl (by walk_at "vis") (by decide) (by decide)) (da_cons (de_ix (de_var 0 rfl (by walk_at "vis") (by decide) (by decide)) (de_neg de_int) (fun _ _ => rfl)) da_nil rfl) rfl) rfl rfl)) (fun _ => rfl))))) w_coords
/-! ### _law_coords -/
def sp__law_coords : Spc (List Int × Int) where
  pre := fun x ds => ds = [tI (x.1 ++ [x.2])] ∧ x.2 ≠ 0 ∧ Lb 8000 (x.1 ++ [x.2])
  res := fun x o => o = .new (x.1.map fun y => rt y x.2)
  exc := fun _ _ => False

def r__law_coords_0 : dS :=
  (sRet (dLc (srcSeq (dSl (dVar 0) dNoPart (dPart (dUn negF (dC (.int 1)))))) (.one 1) [1] tYesD (dCallP sp__law_ratio (dCons (dVar 1) (dCons (dOp ixF (dVar 0) (dUn negF (dC (.int 1)))) dNil)))))
def t__law_coords : dS :=
  (r__law_coords_0)
theorem len__law_coords : ∀ x ds, sp__law_coords.pre x ds → ds.length = 1 := fun x ds h => by rw [h.1]; rfl
theorem w__law_coords : ∀ x ds, sp__law_coords.pre x ds → t__law_coords (endP sp__law_coords x) (startE nm__law_coords.length ds) [] := by
  rintro ⟨l, q⟩ ds ⟨rfl, q0, hb⟩
  simp only at q0 hb
  have := hb.app.1.1
  simp only [t__law_coords , r__law_coords_0, nm__law_coords, cut_last, dOp, dUn, dVar, dC, slot, startE, List.map, List.length, List.replicate, List.append, List.cons_append, List.nil_append, List.set, dAnd, dOr, dNot, dtB, dtAnd, dtOr, dtNot, dIf, dtTru, truF, dNil, dCons, dTup, dLst, dCB, sNil, sSeq, sRet, sRetN, sExpr, sIf, sAsg, gN, gT, gsNil, gsCons, gS, sPar, sAug, sWhile, sFor, sBrk, sCont, sNo, sRaise, dCallP_eq, dCallD_eq, List.length_map, List.getElem?_cons_succ, List.getElem?_concat_length, set_last, get_mid, get_mid2, eqF, neF, ltF, leF, gtF, geF, isF, notF, addF, subF, mulF, fdivF, modF, powF, negF, ixF, lenF, tupF, lstF, absF, intF, gcdF, maxF, minF, Rs.to, dIsi, dIsi2, dIsE, tyN, D.isNon, dM1, dM0, srcSeq, srcRng1, srcRng2, dLc, tYesD, iaddF, isBF, notBF, srcZip, srcEnumerate, repF, sumF, allF, anyF, intsOf_map, blsOf_map, dSl, dPart, dNoPart, sliceF, at0, at1, at2, at3, at4, ix0, ix1, ix2, ix3, Dn.g0, Dn.g1, Dn.g2, Dn.g3, Dn.g4, ex_some, decide_true, decide_false, Bool.not_true, Bool.not_false, ite_true, ite_false, if_true, if_false, List.reverse_cons, List.reverse_nil, outPost, wipeE, CTg.set, setAll, appF, extF, revF, popF, Nat.zero_add, Nat.reduceAdd, is_NoneType_int, is_NoneType_bool, is_NoneType_str, is_NoneType_tuple, is_NoneType_list, is_bool_int, is_bool_bool, is_bool_str, is_bool_tuple, is_bool_list, is_int_int, is_int_bool, is_int_str, is_int_tuple, is_int_list, is_str_int, is_str_bool, is_str_str, is_str_tuple, is_str_list, is_tuple_int, is_tuple_bool, is_tuple_str, is_tuple_tuple, is_tuple_list, is_list_int, is_list_bool, is_list_str, is_list_tuple, is_list_list, strF, dDct, repLF, is_dict_int, is_dict_bool, is_dict_str, is_dict_tuple, is_dict_list, is_dict_dict, is_NoneType_dict, is_bool_dict, is_int_dict, is_str_dict, is_tuple_dict, is_list_dict]
  refine ⟨fun i acc h => acc = (l.take i).map (fun y => rt y q) ∧ h = [], ⟨rfl, rfl⟩, fun _ _ _ _ _ => trivial, ?_, ?_⟩
  · rintro i x acc h hx ⟨rfl, rfl⟩
    obtain ⟨hi, rfl⟩ := mapi_at hx
    simp only [at_lasti, dOp, dUn, dVar, dC, slot, startE, List.map, List.length, List.replicate, List.append, List.cons_append, List.nil_append, List.set, dAnd, dOr, dNot, dtB, dtAnd, dtOr, dtNot, dIf, dtTru, truF, dNil, dCons, dTup, dLst, dCB, sNil, sSeq, sRet, sRetN, sExpr, sIf, sAsg, gN, gT, gsNil, gsCons, gS, sPar, sAug, sWhile, sFor, sBrk, sCont, sNo, sRaise, dCallP_eq, dCallD_eq, List.length_map, List.getElem?_cons_succ, List.getElem?_concat_length, set_last, get_mid, get_mid2, eqF, neF, ltF, leF, gtF, geF, isF, notF, addF, subF, mulF, fdivF, modF, powF, negF, ixF, lenF, tupF, lstF, absF, intF, gcdF, maxF, minF, Rs.to, dIsi, dIsi2, dIsE, tyN, D.isNon, dM1, dM0, srcSeq, srcRng1, srcRng2, dLc, tYesD, iaddF, isBF, notBF, srcZip, srcEnumerate, repF, sumF, allF, anyF, intsOf_map, blsOf_map, dSl, dPart, dNoPart, sliceF, at0, at1, at2, at3, at4, ix0, ix1, ix2, ix3, Dn.g0, Dn.g1, Dn.g2, Dn.g3, Dn.g4, ex_some, decide_true, decide_false, Bool.not_true, Bool.not_false, ite_true, ite_false, if_true, if_false, List.reverse_cons, List.reverse_nil, outPost, wipeE, CTg.set, setAll, appF, extF, revF, popF, Nat.zero_add, Nat.reduceAdd, is_NoneType_int, is_NoneType_bool, is_NoneType_str, is_NoneType_tuple, is_NoneType_list, is_bool_int, is_bool_bool, is_bool_str, is_bool_tuple, is_bool_list, is_int_int, is_int_bool, is_int_str, is_int_tuple, is_int_list, is_str_int, is_str_bool, is_str_str, is_str_tuple, is_str_list, is_tuple_int, is_tuple_bool, is_tuple_str, is_tuple_tuple, is_tuple_list, is_list_int, is_list_bool, is_list_str, is_list_tuple, is_list_list, strF, dDct, repLF, is_dict_int, is_dict_bool, is_dict_str, is_dict_tuple, is_dict_list, is_dict_dict, is_NoneType_dict, is_bool_dict, is_int_dict, is_str_dict, is_tuple_dict, is_list_dict]
    refine useP_mk (l.getD i 0, q) _ (Views.pures rfl) ⟨rfl, hb.app.1.getD i, hb.app.2, q0⟩ (fun o ho _ => ?_) (fun ex he => he)
    rw [ho]
    show _ ∧ _ ∧ _
    refine ⟨sl2 (by simp; omega), ?_, rfl⟩
    rw [take_at hi]; simp
  · rintro acc h ⟨rfl, rfl⟩
    simp only [List.length_map, List.take_length, dOp, dUn, dVar, dC, slot, startE, List.map, List.length, List.replicate, List.append, List.cons_append, List.nil_append, List.set, dAnd, dOr, dNot, dtB, dtAnd, dtOr, dtNot, dIf, dtTru, truF, dNil, dCons, dTup, dLst, dCB, sNil, sSeq, sRet, sRetN, sExpr, sIf, sAsg, gN, gT, gsNil, gsCons, gS, sPar, sAug, sWhile, sFor, sBrk, sCont, sNo, sRaise, dCallP_eq, dCallD_eq, List.length_map, List.getElem?_cons_succ, List.getElem?_concat_length, set_last, get_mid, get_mid2, eqF, neF, ltF, leF, gtF, geF, isF, notF, addF, subF, mulF, fdivF, modF, powF, negF, ixF, lenF, tupF, lstF, absF, intF, gcdF, maxF, minF, Rs.to, dIsi, dIsi2, dIsE, tyN, D.isNon, dM1, dM0, srcSeq, srcRng1, srcRng2, dLc, tYesD, iaddF, isBF, notBF, srcZip, srcEnumerate, repF, sumF, allF, anyF, intsOf_map, blsOf_map, dSl, dPart, dNoPart, sliceF, at0, at1, at2, at3, at4, ix0, ix1, ix2, ix3, Dn.g0, Dn.g1, Dn.g2, Dn.g3, Dn.g4, ex_some, decide_true, decide_false, Bool.not_true, Bool.not_false, ite_true, ite_false, if_true, if_false, List.reverse_cons, List.reverse_nil, outPost, wipeE, CTg.set, setAll, appF, extF, revF, popF, Nat.zero_add, Nat.reduceAdd, is_NoneType_int, is_NoneType_bool, is_NoneType_str, is_NoneType_tuple, is_NoneType_list, is_bool_int, is_bool_bool, is_bool_str, is_bool_tuple, is_bool_list, is_int_int, is_int_bool, is_int_str, is_int_tuple, is_int_list, is_str_int, is_str_bool, is_str_str, is_str_tuple, is_str_list, is_tuple_int, is_tuple_bool, is_tuple_str, is_tuple_tuple, is_tuple_list, is_list_int, is_list_bool, is_list_str, is_list_tuple, is_list_list, strF, dDct, repLF, is_dict_int, is_dict_bool, is_dict_str, is_dict_tuple, is_dict_list, is_dict_dict, is_NoneType_dict, is_bool_dict, is_int_dict, is_str_dict, is_tuple_dict, is_list_dict]
    exact rt_new rfl (rts_pure _ _) rfl

theorem ok__law_coords (T : Txt K mg) : Ok P w K mg base 3 "_law_coords" ["place"] (spP K mg sp__law_coords) :=
  okOf T.d__law_coords fun f fd F => fnP (k := 2) sp__law_coords t__law_coords F sc__law_coords (fun x ds hp => len__law_coords x ds hp) (fun cdv A outer s H E hr z => by
    have hu := hr.units; have hnd := sc__law_coords.nd
    unfold t__law_coords r__law_coords_0
    exact (dss_one (ds_ret (de_lc (own := [("number", 1)]) (c := (.one 1)) (tt := tYesD) (te := (dCallP sp__law_ratio (dCons (dVar 1) (dCons (dOp ixF (dVar 0) (dUn negF (dC (.int 1)))) dNil)))) rfl hnd (di_seq (de_slice (de_var 0 rfl (by walk_at "vis") (by decide) (by decide)) do_none (do_some (de_neg de_int)))) (blkOk_by (N := nm__law_coords) (sc := defScope s__law_coords) (by decide +kernel)) (by decide) (fun _ _ _ _ _ => pg_name (i := 1) hnd rfl (by walk_at "locs") (by walk_at "fnn")) (fun _ _ _ _ _ => dts_nil) (fun _ _ _ _ _ => (dn_callP ((ok__law_ratio (P := P) (w := w) (base := base) T).mono (by decide)) hr takes0 rfl (by decide) (da_cons (de_var 1 rfl (by walk_at "vis") (by decide) (by decide)) (da_cons (de_ix (de_var 0 rfl (by walk_at "vis") (by decide) (by decide)) (de_neg de_int) (fun _ _ => rfl)) da_nil rfl) rfl) rfl rfl)) (fun _ => rfl))))) w__law_coords
/-! ### is_told_point -/
def tptB (n : Int) : D → Bool
  | .tup es => match intsOf es with
    | some L => decide ((L.length : Int) = n + 1) && (decide (1 ≤ L.getLastD 0) && decide (gcdL L = 1)) && L.dropLast.all fun x => toldB (rt x (L.getLastD 0))
    | none => false
  | _ => false
def sp_is_told_point : Spc DN where
  pre := fun x ds => ds = [x.d, .int x.n] ∧ noA x.d = true ∧ 0 ≤ x.n ∧ x.n ≤ 90 ∧ ∀ L : List Int, x.d = tI L → Lb 8000 L
  res := fun x o => o = .val (.bl (tptB x.n x.d))
  exc := fun _ _ => False

def r_is_told_point_0 : dS :=
  (sRet (dAnd (dCallP sp_is_point (dCons (dVar 0) (dCons (dVar 1) dNil))) (dCB allF (dCons (dLc (srcSeq (dCallP sp_coords (dCons (dVar 0) dNil))) (.one 2) [2] tYesD (dCallP sp_is_told_ratio (dCons (dVar 2) dNil))) dNil))))
def t_is_told_point : dS :=
  (r_is_told_point_0)
theorem tptB_yes {n : Int} {L : List Int} {r : Int} (h : (L.length : Int) = n) : tptB n (tI (L ++ [r])) = ((decide (1 ≤ r) && decide (gcdL (L ++ [r]) = 1)) && L.all fun x => toldB (rt x r)) := by
  unfold tptB
  simp only [intsOf_map]
  rw [decide_eq_true (by simp; omega), Bool.true_and]
  simp
theorem tptB_no {n : Int} {d : D} (n0 : 0 ≤ n) (h : ∀ (L : List Int) (r : Int), d = tI (L ++ [r]) → (L.length : Int) ≠ n) : tptB n d = false := by
  unfold tptB
  split
  · split
    · rename_i es L hL
      have := intsOf_eq hL
      subst this
      have hl : ¬ (L.length : Int) = n + 1 := fun c => by
        have hne : L ≠ [] := fun c2 => by subst c2; simp at c; omega
        have e : L = L.dropLast ++ [L.getLast hne] := (List.dropLast_concat_getLast hne).symm
        refine h L.dropLast (L.getLast hne) (by rw [← e]) ?_
        rw [List.length_dropLast]; omega
      rw [decide_eq_false hl]; rfl
    · rfl
  · rfl
theorem noA_shal {d : D} (h : noA d = true) : shal d := ⟨noA_adr h, fun es e x hx => by subst e; unfold noA at h; exact noA_adr (noAs_mem h hx)⟩
theorem last_split {d : D} {n : Int} : (∃ (L : List Int) (r : Int), d = tI (L ++ [r]) ∧ (L.length : Int) = n) ∨ ∀ (L : List Int) (r : Int), d = tI (L ++ [r]) → (L.length : Int) ≠ n := by
  by_cases h : ∃ (L : List Int) (r : Int), d = tI (L ++ [r]) ∧ (L.length : Int) = n
  · exact .inl h
  · exact .inr fun L r e q => h ⟨L, r, e, q⟩
theorem len_is_told_point : ∀ x ds, sp_is_told_point.pre x ds → ds.length = 2 := fun x ds h => by rw [h.1]; rfl
theorem w_is_told_point : ∀ x ds, sp_is_told_point.pre x ds → t_is_told_point (endP sp_is_told_point x) (startE nm_is_told_point.length ds) [] := by
  rintro ⟨d, n⟩ ds ⟨rfl, hd, n0, hn, hb⟩
  simp only at hd n0 hn hb
  simp only [t_is_told_point , r_is_told_point_0, nm_is_told_point, dOp, dUn, dVar, dC, slot, startE, List.map, List.length, List.replicate, List.append, List.cons_append, List.nil_append, List.set, dAnd, dOr, dNot, dtB, dtAnd, dtOr, dtNot, dIf, dtTru, truF, dNil, dCons, dTup, dLst, dCB, sNil, sSeq, sRet, sRetN, sExpr, sIf, sAsg, gN, gT, gsNil, gsCons, gS, sPar, sAug, sWhile, sFor, sBrk, sCont, sNo, sRaise, dCallP_eq, dCallD_eq, List.length_map, List.getElem?_cons_succ, List.getElem?_concat_length, set_last, get_mid, get_mid2, eqF, neF, ltF, leF, gtF, geF, isF, notF, addF, subF, mulF, fdivF, modF, powF, negF, ixF, lenF, tupF, lstF, absF, intF, gcdF, maxF, minF, Rs.to, dIsi, dIsi2, dIsE, tyN, D.isNon, dM1, dM0, srcSeq, srcRng1, srcRng2, dLc, tYesD, iaddF, isBF, notBF, srcZip, srcEnumerate, repF, sumF, allF, anyF, intsOf_map, blsOf_map, dSl, dPart, dNoPart, sliceF, at0, at1, at2, at3, at4, ix0, ix1, ix2, ix3, Dn.g0, Dn.g1, Dn.g2, Dn.g3, Dn.g4, ex_some, decide_true, decide_false, Bool.not_true, Bool.not_false, ite_true, ite_false, if_true, if_false, List.reverse_cons, List.reverse_nil, outPost, wipeE, CTg.set, setAll, appF, extF, revF, popF, Nat.zero_add, Nat.reduceAdd, is_NoneType_int, is_NoneType_bool, is_NoneType_str, is_NoneType_tuple, is_NoneType_list, is_bool_int, is_bool_bool, is_bool_str, is_bool_tuple, is_bool_list, is_int_int, is_int_bool, is_int_str, is_int_tuple, is_int_list, is_str_int, is_str_bool, is_str_str, is_str_tuple, is_str_list, is_tuple_int, is_tuple_bool, is_tuple_str, is_tuple_tuple, is_tuple_list, is_list_int, is_list_bool, is_list_str, is_list_tuple, is_list_list, strF, dDct, repLF, is_dict_int, is_dict_bool, is_dict_str, is_dict_tuple, is_dict_list, is_dict_dict, is_NoneType_dict, is_bool_dict, is_int_dict, is_str_dict, is_tuple_dict, is_list_dict]
  rcases last_split (d := d) (n := n) with ⟨L, r, rfl, hl⟩ | hno
  · have lb := hb _ rfl
    refine useP_mk ⟨tI (L ++ [r]), n⟩ _ (.cons (view_noA hd) (.cons (.pure rfl) .nil)) ⟨rfl, noA_shal hd, n0⟩ (fun o ho _ => ?_) (fun _ q => q)
    rw [ho.1 L r rfl hl]
    simp only [outPost]
    cases hc : (decide (1 ≤ r) && decide (gcdL (L ++ [r]) = 1)) with
    | false =>
      simp only [dOp, dUn, dVar, dC, slot, startE, List.map, List.length, List.replicate, List.append, List.cons_append, List.nil_append, List.set, dAnd, dOr, dNot, dtB, dtAnd, dtOr, dtNot, dIf, dtTru, truF, dNil, dCons, dTup, dLst, dCB, sNil, sSeq, sRet, sRetN, sExpr, sIf, sAsg, gN, gT, gsNil, gsCons, gS, sPar, sAug, sWhile, sFor, sBrk, sCont, sNo, sRaise, dCallP_eq, dCallD_eq, List.length_map, List.getElem?_cons_succ, List.getElem?_concat_length, set_last, get_mid, get_mid2, eqF, neF, ltF, leF, gtF, geF, isF, notF, addF, subF, mulF, fdivF, modF, powF, negF, ixF, lenF, tupF, lstF, absF, intF, gcdF, maxF, minF, Rs.to, dIsi, dIsi2, dIsE, tyN, D.isNon, dM1, dM0, srcSeq, srcRng1, srcRng2, dLc, tYesD, iaddF, isBF, notBF, srcZip, srcEnumerate, repF, sumF, allF, anyF, intsOf_map, blsOf_map, dSl, dPart, dNoPart, sliceF, at0, at1, at2, at3, at4, ix0, ix1, ix2, ix3, Dn.g0, Dn.g1, Dn.g2, Dn.g3, Dn.g4, ex_some, decide_true, decide_false, Bool.not_true, Bool.not_false, ite_true, ite_false, if_true, if_false, List.reverse_cons, List.reverse_nil, outPost, wipeE, CTg.set, setAll, appF, extF, revF, popF, Nat.zero_add, Nat.reduceAdd, is_NoneType_int, is_NoneType_bool, is_NoneType_str, is_NoneType_tuple, is_NoneType_list, is_bool_int, is_bool_bool, is_bool_str, is_bool_tuple, is_bool_list, is_int_int, is_int_bool, is_int_str, is_int_tuple, is_int_list, is_str_int, is_str_bool, is_str_str, is_str_tuple, is_str_list, is_tuple_int, is_tuple_bool, is_tuple_str, is_tuple_tuple, is_tuple_list, is_list_int, is_list_bool, is_list_str, is_list_tuple, is_list_list, strF, dDct, repLF, is_dict_int, is_dict_bool, is_dict_str, is_dict_tuple, is_dict_list, is_dict_dict, is_NoneType_dict, is_bool_dict, is_int_dict, is_str_dict, is_tuple_dict, is_list_dict]
      exact rt_val rfl (by show _ = Out.val (.bl (tptB n _)); rw [tptB_yes hl, hc]; rfl)
    | true =>
      have r1 : 1 ≤ r := by rw [Bool.and_eq_true] at hc; exact of_decide_eq_true hc.1
      simp only [dOp, dUn, dVar, dC, slot, startE, List.map, List.length, List.replicate, List.append, List.cons_append, List.nil_append, List.set, dAnd, dOr, dNot, dtB, dtAnd, dtOr, dtNot, dIf, dtTru, truF, dNil, dCons, dTup, dLst, dCB, sNil, sSeq, sRet, sRetN, sExpr, sIf, sAsg, gN, gT, gsNil, gsCons, gS, sPar, sAug, sWhile, sFor, sBrk, sCont, sNo, sRaise, dCallP_eq, dCallD_eq, List.length_map, List.getElem?_cons_succ, List.getElem?_concat_length, set_last, get_mid, get_mid2, eqF, neF, ltF, leF, gtF, geF, isF, notF, addF, subF, mulF, fdivF, modF, powF, negF, ixF, lenF, tupF, lstF, absF, intF, gcdF, maxF, minF, Rs.to, dIsi, dIsi2, dIsE, tyN, D.isNon, dM1, dM0, srcSeq, srcRng1, srcRng2, dLc, tYesD, iaddF, isBF, notBF, srcZip, srcEnumerate, repF, sumF, allF, anyF, intsOf_map, blsOf_map, dSl, dPart, dNoPart, sliceF, at0, at1, at2, at3, at4, ix0, ix1, ix2, ix3, Dn.g0, Dn.g1, Dn.g2, Dn.g3, Dn.g4, ex_some, decide_true, decide_false, Bool.not_true, Bool.not_false, ite_true, ite_false, if_true, if_false, List.reverse_cons, List.reverse_nil, outPost, wipeE, CTg.set, setAll, appF, extF, revF, popF, Nat.zero_add, Nat.reduceAdd, is_NoneType_int, is_NoneType_bool, is_NoneType_str, is_NoneType_tuple, is_NoneType_list, is_bool_int, is_bool_bool, is_bool_str, is_bool_tuple, is_bool_list, is_int_int, is_int_bool, is_int_str, is_int_tuple, is_int_list, is_str_int, is_str_bool, is_str_str, is_str_tuple, is_str_list, is_tuple_int, is_tuple_bool, is_tuple_str, is_tuple_tuple, is_tuple_list, is_list_int, is_list_bool, is_list_str, is_list_tuple, is_list_list, strF, dDct, repLF, is_dict_int, is_dict_bool, is_dict_str, is_dict_tuple, is_dict_list, is_dict_dict, is_NoneType_dict, is_bool_dict, is_int_dict, is_str_dict, is_tuple_dict, is_list_dict]
      refine useP_mk (L, r) _ (Views.pures (by simp only [pureDs, pureD, ints_pure]; rfl)) ⟨rfl, (show r ≠ 0 by omega), lb⟩ (fun o ho _ => ?_) (fun _ q => q)
      rw [ho]
      simp only [List.getElem?_cons_zero, dOp, dUn, dVar, dC, slot, startE, List.map, List.length, List.replicate, List.append, List.cons_append, List.nil_append, List.set, dAnd, dOr, dNot, dtB, dtAnd, dtOr, dtNot, dIf, dtTru, truF, dNil, dCons, dTup, dLst, dCB, sNil, sSeq, sRet, sRetN, sExpr, sIf, sAsg, gN, gT, gsNil, gsCons, gS, sPar, sAug, sWhile, sFor, sBrk, sCont, sNo, sRaise, dCallP_eq, dCallD_eq, List.length_map, List.getElem?_cons_succ, List.getElem?_concat_length, set_last, get_mid, get_mid2, eqF, neF, ltF, leF, gtF, geF, isF, notF, addF, subF, mulF, fdivF, modF, powF, negF, ixF, lenF, tupF, lstF, absF, intF, gcdF, maxF, minF, Rs.to, dIsi, dIsi2, dIsE, tyN, D.isNon, dM1, dM0, srcSeq, srcRng1, srcRng2, dLc, tYesD, iaddF, isBF, notBF, srcZip, srcEnumerate, repF, sumF, allF, anyF, intsOf_map, blsOf_map, dSl, dPart, dNoPart, sliceF, at0, at1, at2, at3, at4, ix0, ix1, ix2, ix3, Dn.g0, Dn.g1, Dn.g2, Dn.g3, Dn.g4, ex_some, decide_true, decide_false, Bool.not_true, Bool.not_false, ite_true, ite_false, if_true, if_false, List.reverse_cons, List.reverse_nil, outPost, wipeE, CTg.set, setAll, appF, extF, revF, popF, Nat.zero_add, Nat.reduceAdd, is_NoneType_int, is_NoneType_bool, is_NoneType_str, is_NoneType_tuple, is_NoneType_list, is_bool_int, is_bool_bool, is_bool_str, is_bool_tuple, is_bool_list, is_int_int, is_int_bool, is_int_str, is_int_tuple, is_int_list, is_str_int, is_str_bool, is_str_str, is_str_tuple, is_str_list, is_tuple_int, is_tuple_bool, is_tuple_str, is_tuple_tuple, is_tuple_list, is_list_int, is_list_bool, is_list_str, is_list_tuple, is_list_list, strF, dDct, repLF, is_dict_int, is_dict_bool, is_dict_str, is_dict_tuple, is_dict_list, is_dict_dict, is_NoneType_dict, is_bool_dict, is_int_dict, is_str_dict, is_tuple_dict, is_list_dict]
      refine ⟨fun i acc h => acc = ((L.take i).map fun x => toldB (rt x r)).map .bl ∧ h = [.lst (L.map fun y => rt y r)], ⟨rfl, rfl⟩, ?_, ?_, ?_⟩
      · rintro i acc h hi ⟨rfl, rfl⟩
        rfl
      · rintro i x acc h hx ⟨rfl, rfl⟩
        have hil : i < L.length := by have := (List.getElem?_eq_some_iff.mp hx).1; rwa [List.length_map] at this
        have ex : x = rt (L.getD i 0) r := by
          rw [List.getElem?_map, List.getElem?_eq_getElem hil] at hx
          injection hx with hx
          rw [← hx, List.getD_eq_getElem?_getD, List.getElem?_eq_getElem hil]; rfl
        subst ex
        simp only [dOp, dUn, dVar, dC, slot, startE, List.map, List.length, List.replicate, List.append, List.cons_append, List.nil_append, List.set, dAnd, dOr, dNot, dtB, dtAnd, dtOr, dtNot, dIf, dtTru, truF, dNil, dCons, dTup, dLst, dCB, sNil, sSeq, sRet, sRetN, sExpr, sIf, sAsg, gN, gT, gsNil, gsCons, gS, sPar, sAug, sWhile, sFor, sBrk, sCont, sNo, sRaise, dCallP_eq, dCallD_eq, List.length_map, List.getElem?_cons_succ, List.getElem?_concat_length, set_last, get_mid, get_mid2, eqF, neF, ltF, leF, gtF, geF, isF, notF, addF, subF, mulF, fdivF, modF, powF, negF, ixF, lenF, tupF, lstF, absF, intF, gcdF, maxF, minF, Rs.to, dIsi, dIsi2, dIsE, tyN, D.isNon, dM1, dM0, srcSeq, srcRng1, srcRng2, dLc, tYesD, iaddF, isBF, notBF, srcZip, srcEnumerate, repF, sumF, allF, anyF, intsOf_map, blsOf_map, dSl, dPart, dNoPart, sliceF, at0, at1, at2, at3, at4, ix0, ix1, ix2, ix3, Dn.g0, Dn.g1, Dn.g2, Dn.g3, Dn.g4, ex_some, decide_true, decide_false, Bool.not_true, Bool.not_false, ite_true, ite_false, if_true, if_false, List.reverse_cons, List.reverse_nil, outPost, wipeE, CTg.set, setAll, appF, extF, revF, popF, Nat.zero_add, Nat.reduceAdd, is_NoneType_int, is_NoneType_bool, is_NoneType_str, is_NoneType_tuple, is_NoneType_list, is_bool_int, is_bool_bool, is_bool_str, is_bool_tuple, is_bool_list, is_int_int, is_int_bool, is_int_str, is_int_tuple, is_int_list, is_str_int, is_str_bool, is_str_str, is_str_tuple, is_str_list, is_tuple_int, is_tuple_bool, is_tuple_str, is_tuple_tuple, is_tuple_list, is_list_int, is_list_bool, is_list_str, is_list_tuple, is_list_list, strF, dDct, repLF, is_dict_int, is_dict_bool, is_dict_str, is_dict_tuple, is_dict_list, is_dict_dict, is_NoneType_dict, is_bool_dict, is_int_dict, is_str_dict, is_tuple_dict, is_list_dict]
        refine useP_told rfl ?_
        refine ⟨sl2 (by simp; omega), ?_, rfl⟩
        rw [take_at hil]; simp
      · rintro acc h ⟨rfl, rfl⟩
        simp only [List.length_map, List.take_length, dOp, dUn, dVar, dC, slot, startE, List.map, List.length, List.replicate, List.append, List.cons_append, List.nil_append, List.set, dAnd, dOr, dNot, dtB, dtAnd, dtOr, dtNot, dIf, dtTru, truF, dNil, dCons, dTup, dLst, dCB, sNil, sSeq, sRet, sRetN, sExpr, sIf, sAsg, gN, gT, gsNil, gsCons, gS, sPar, sAug, sWhile, sFor, sBrk, sCont, sNo, sRaise, dCallP_eq, dCallD_eq, List.length_map, List.getElem?_cons_succ, List.getElem?_concat_length, set_last, get_mid, get_mid2, eqF, neF, ltF, leF, gtF, geF, isF, notF, addF, subF, mulF, fdivF, modF, powF, negF, ixF, lenF, tupF, lstF, absF, intF, gcdF, maxF, minF, Rs.to, dIsi, dIsi2, dIsE, tyN, D.isNon, dM1, dM0, srcSeq, srcRng1, srcRng2, dLc, tYesD, iaddF, isBF, notBF, srcZip, srcEnumerate, repF, sumF, allF, anyF, intsOf_map, blsOf_map, dSl, dPart, dNoPart, sliceF, at0, at1, at2, at3, at4, ix0, ix1, ix2, ix3, Dn.g0, Dn.g1, Dn.g2, Dn.g3, Dn.g4, ex_some, decide_true, decide_false, Bool.not_true, Bool.not_false, ite_true, ite_false, if_true, if_false, List.reverse_cons, List.reverse_nil, outPost, wipeE, CTg.set, setAll, appF, extF, revF, popF, Nat.zero_add, Nat.reduceAdd, is_NoneType_int, is_NoneType_bool, is_NoneType_str, is_NoneType_tuple, is_NoneType_list, is_bool_int, is_bool_bool, is_bool_str, is_bool_tuple, is_bool_list, is_int_int, is_int_bool, is_int_str, is_int_tuple, is_int_list, is_str_int, is_str_bool, is_str_str, is_str_tuple, is_str_list, is_tuple_int, is_tuple_bool, is_tuple_str, is_tuple_tuple, is_tuple_list, is_list_int, is_list_bool, is_list_str, is_list_tuple, is_list_list, strF, dDct, repLF, is_dict_int, is_dict_bool, is_dict_str, is_dict_tuple, is_dict_list, is_dict_dict, is_NoneType_dict, is_bool_dict, is_int_dict, is_str_dict, is_tuple_dict, is_list_dict]
        refine rt_val rfl ?_
        show _ = Out.val (.bl (tptB n (tI (L ++ [r]))))
        rw [tptB_yes hl, hc, List.all_map]
        rfl
  · refine useP_mk ⟨d, n⟩ _ (.cons (view_noA hd) (.cons (.pure rfl) .nil)) ⟨rfl, noA_shal hd, n0⟩ (fun o ho _ => ?_) (fun _ q => q)
    rw [ho.2 hno]
    simp only [outPost, dOp, dUn, dVar, dC, slot, startE, List.map, List.length, List.replicate, List.append, List.cons_append, List.nil_append, List.set, dAnd, dOr, dNot, dtB, dtAnd, dtOr, dtNot, dIf, dtTru, truF, dNil, dCons, dTup, dLst, dCB, sNil, sSeq, sRet, sRetN, sExpr, sIf, sAsg, gN, gT, gsNil, gsCons, gS, sPar, sAug, sWhile, sFor, sBrk, sCont, sNo, sRaise, dCallP_eq, dCallD_eq, List.length_map, List.getElem?_cons_succ, List.getElem?_concat_length, set_last, get_mid, get_mid2, eqF, neF, ltF, leF, gtF, geF, isF, notF, addF, subF, mulF, fdivF, modF, powF, negF, ixF, lenF, tupF, lstF, absF, intF, gcdF, maxF, minF, Rs.to, dIsi, dIsi2, dIsE, tyN, D.isNon, dM1, dM0, srcSeq, srcRng1, srcRng2, dLc, tYesD, iaddF, isBF, notBF, srcZip, srcEnumerate, repF, sumF, allF, anyF, intsOf_map, blsOf_map, dSl, dPart, dNoPart, sliceF, at0, at1, at2, at3, at4, ix0, ix1, ix2, ix3, Dn.g0, Dn.g1, Dn.g2, Dn.g3, Dn.g4, ex_some, decide_true, decide_false, Bool.not_true, Bool.not_false, ite_true, ite_false, if_true, if_false, List.reverse_cons, List.reverse_nil, outPost, wipeE, CTg.set, setAll, appF, extF, revF, popF, Nat.zero_add, Nat.reduceAdd, is_NoneType_int, is_NoneType_bool, is_NoneType_str, is_NoneType_tuple, is_NoneType_list, is_bool_int, is_bool_bool, is_bool_str, is_bool_tuple, is_bool_list, is_int_int, is_int_bool, is_int_str, is_int_tuple, is_int_list, is_str_int, is_str_bool, is_str_str, is_str_tuple, is_str_list, is_tuple_int, is_tuple_bool, is_tuple_str, is_tuple_tuple, is_tuple_list, is_list_int, is_list_bool, is_list_str, is_list_tuple, is_list_list, strF, dDct, repLF, is_dict_int, is_dict_bool, is_dict_str, is_dict_tuple, is_dict_list, is_dict_dict, is_NoneType_dict, is_bool_dict, is_int_dict, is_str_dict, is_tuple_dict, is_list_dict]
    exact rt_val rfl (by show _ = Out.val (.bl (tptB n d)); rw [tptB_no n0 hno])

theorem ok_is_told_point (T : Txt K mg) : Ok P w K mg base 4 "is_told_point" ["place", "size"] (spP K mg sp_is_told_point) :=
  okOf T.d_is_told_point fun f fd F => fnP (k := 3) sp_is_told_point t_is_told_point F sc_is_told_point (fun x ds hp => len_is_told_point x ds hp) (fun cdv A outer s H E hr z => by
    have hu := hr.units; have hnd := sc_is_told_point.nd
    unfold t_is_told_point r_is_told_point_0
    exact (dss_one (ds_ret (de_and (dn_callP ((ok_is_point (P := P) (w := w) (base := base) T).mono (by decide)) hr (takes_of rfl rfl rfl rfl) rfl (by decide) (da_cons (de_var 0 rfl (by walk_at "vis") (by decide) (by decide)) (da_cons (de_var 1 rfl (by walk_at "vis") (by decide) (by decide)) da_nil rfl) rfl) rfl rfl) (de_one (de_callB (f := allF) (cr_all rfl) cd_all rfl T.b_all (by decide +kernel) (da_cons (de_lc (own := [("number", 2)]) (c := (.one 2)) (tt := tYesD) (te := (dCallP sp_is_told_ratio (dCons (dVar 2) dNil))) rfl hnd (di_seq (dn_callP ((ok_coords (P := P) (w := w) (base := base) T).mono (by decide)) hr (takes_of rfl rfl rfl rfl) rfl (by decide) (da_cons (de_var 0 rfl (by walk_at "vis") (by decide) (by decide)) da_nil rfl) rfl rfl)) (blkOk_by (N := nm_is_told_point) (sc := defScope s_is_told_point) (by decide +kernel)) (by decide) (fun _ _ _ _ _ => pg_name (i := 2) hnd rfl (by walk_at "locs") (by walk_at "fnn")) (fun _ _ _ _ _ => dts_nil) (fun _ _ _ _ _ => (dn_callP ((ok_is_told_ratio (P := P) (w := w) (base := base) T).mono (by decide)) hr takes0 rfl (by decide) (da_cons (de_var 2 rfl (by walk_at "vis") (by decide) (by decide)) da_nil rfl) rfl rfl)) (fun _ => rfl)) da_nil rfl) (by decide) (by decide) rfl rfl)))))) w_is_told_point
/-! ### _law_point -/
abbrev Fr := Int × Int
structure RowOk (R : List Fr) : Prop where
  n : R.length ≤ 9
  p : ∀ a ∈ R, 0 < a.2
  b : ∀ a ∈ R, Bt 60 a.1 ∧ Bt 60 a.2
def sp__law_point : Spc (List Fr) where
  pre := fun x ds => ds = [.lst (x.map prD)] ∧ RowOk x
  res := fun x o => ∃ L : List Int, o = .val (tI L) ∧ L.length = x.length + 1 ∧ Lb 1000 L
  exc := fun _ _ => False

def l1__law_point_0 : dS :=
  (sAsg (dOp mulF (dOp fdivF (dVar 1) (dCallP sp__law_gcd (dCons (dVar 1) (dCons (dVar 3) dNil)))) (dVar 3)) (gN 1))
def r__law_point_2 : dS :=
  (sRet (dCallP sp__law_low (dCons (dOp addF (dLc (srcSeq (dVar 0)) (.many [2, 3]) [2, 3] tYesD (dOp mulF (dVar 2) (dOp fdivF (dVar 1) (dVar 3)))) (dLst (dCons (dVar 1) dNil))) dNil)))
def r__law_point_1 : dS :=
  (sSeq (sFor (srcSeq (dVar 0)) (gT 2 (gsCons (gN 2) (gsCons (gN 3) gsNil))) (l1__law_point_0)) (r__law_point_2))
def r__law_point_0 : dS :=
  (sSeq (sAsg (dC (.int 1)) (gN 1)) (r__law_point_1))
def t__law_point : dS :=
  (r__law_point_0)
theorem row_at {R : List Fr} {i : Nat} {x : D} (h : (R.map prD)[i]? = some x) : ∃ a, R[i]? = some a ∧ x = prD a := by
  rw [List.getElem?_map] at h
  cases e : R[i]? with
  | none => rw [e] at h; cases h
  | some w => rw [e] at h; injection h with h; exact ⟨w, rfl, h.symm⟩
theorem len__law_point : ∀ x ds, sp__law_point.pre x ds → ds.length = 1 := fun x ds h => by rw [h.1]; rfl
theorem div_gcd_pos {w d : Int} (hw : 0 < w) : 0 < w.fdiv ((Nat.gcd w.natAbs d.natAbs : Nat) : Int) := by
  obtain ⟨k, hk⟩ : ((Nat.gcd w.natAbs d.natAbs : Nat) : Int) ∣ w := Int.ofNat_dvd_left.mpr (Nat.gcd_dvd_left _ _)
  have hp : 0 < Nat.gcd w.natAbs d.natAbs := Nat.gcd_pos_of_pos_left _ (by omega)
  have g0 : (0 : Int) < ((Nat.gcd w.natAbs d.natAbs : Nat) : Int) := by omega
  generalize ((Nat.gcd w.natAbs d.natAbs : Nat) : Int) = g at *
  have e : w.fdiv g = k := by
    conv => lhs; arg 1; rw [hk]
    exact Int.mul_fdiv_cancel_left _ (by omega)
  rw [e]
  rcases Int.lt_trichotomy k 0 with z | z | z
  · have := Int.mul_neg_of_pos_of_neg g0 z; omega
  · rw [z, Int.mul_zero] at hk; omega
  · exact z
theorem w__law_point : ∀ x ds, sp__law_point.pre x ds → t__law_point (endP sp__law_point x) (startE nm__law_point.length ds) [] := by
  rintro R ds ⟨rfl, hR⟩
  have hl := hR.n
  simp only [t__law_point , r__law_point_0, r__law_point_1, nm__law_point, dOp, dUn, dVar, dC, slot, startE, List.map, List.length, List.replicate, List.append, List.cons_append, List.nil_append, List.set, dAnd, dOr, dNot, dtB, dtAnd, dtOr, dtNot, dIf, dtTru, truF, dNil, dCons, dTup, dLst, dCB, sNil, sSeq, sRet, sRetN, sExpr, sIf, sAsg, gN, gT, gsNil, gsCons, gS, sPar, sAug, sWhile, sFor, sBrk, sCont, sNo, sRaise, dCallP_eq, dCallD_eq, List.length_map, List.getElem?_cons_succ, List.getElem?_concat_length, set_last, get_mid, get_mid2, eqF, neF, ltF, leF, gtF, geF, isF, notF, addF, subF, mulF, fdivF, modF, powF, negF, ixF, lenF, tupF, lstF, absF, intF, gcdF, maxF, minF, Rs.to, dIsi, dIsi2, dIsE, tyN, D.isNon, dM1, dM0, srcSeq, srcRng1, srcRng2, dLc, tYesD, iaddF, isBF, notBF, srcZip, srcEnumerate, repF, sumF, allF, anyF, intsOf_map, blsOf_map, dSl, dPart, dNoPart, sliceF, at0, at1, at2, at3, at4, ix0, ix1, ix2, ix3, Dn.g0, Dn.g1, Dn.g2, Dn.g3, Dn.g4, ex_some, decide_true, decide_false, Bool.not_true, Bool.not_false, ite_true, ite_false, if_true, if_false, List.reverse_cons, List.reverse_nil, outPost, wipeE, CTg.set, setAll, appF, extF, revF, popF, Nat.zero_add, Nat.reduceAdd, is_NoneType_int, is_NoneType_bool, is_NoneType_str, is_NoneType_tuple, is_NoneType_list, is_bool_int, is_bool_bool, is_bool_str, is_bool_tuple, is_bool_list, is_int_int, is_int_bool, is_int_str, is_int_tuple, is_int_list, is_str_int, is_str_bool, is_str_str, is_str_tuple, is_str_list, is_tuple_int, is_tuple_bool, is_tuple_str, is_tuple_tuple, is_tuple_list, is_list_int, is_list_bool, is_list_str, is_list_tuple, is_list_list, strF, dDct, repLF, is_dict_int, is_dict_bool, is_dict_str, is_dict_tuple, is_dict_list, is_dict_dict, is_NoneType_dict, is_bool_dict, is_int_dict, is_str_dict, is_tuple_dict, is_list_dict]
  refine ⟨fun i e h => (∃ w u v, e = [some (.lst (R.map prD)), some (.int w), u, v] ∧ 0 < w ∧ Bt (1 + 60 * i) w) ∧ h = [], ⟨⟨1, _, _, rfl, by decide, bt_iff.mpr (by decide)⟩, rfl⟩, fun _ _ _ _ _ => trivial, ?_, ?_⟩
  · rintro i x e h hx ⟨⟨w, u, v, rfl, w0, wb⟩, rfl⟩
    obtain ⟨⟨n, d⟩, hi, rfl⟩ := row_at hx
    have hmem := List.mem_of_getElem? hi
    have hil : i < R.length := (List.getElem?_eq_some_iff.mp hi).1
    have d0 := hR.p _ hmem
    have dB := (hR.b _ hmem).2
    simp only at d0 dB
    simp only [prD, l1__law_point_0, dOp, dUn, dVar, dC, slot, startE, List.map, List.length, List.replicate, List.append, List.cons_append, List.nil_append, List.set, dAnd, dOr, dNot, dtB, dtAnd, dtOr, dtNot, dIf, dtTru, truF, dNil, dCons, dTup, dLst, dCB, sNil, sSeq, sRet, sRetN, sExpr, sIf, sAsg, gN, gT, gsNil, gsCons, gS, sPar, sAug, sWhile, sFor, sBrk, sCont, sNo, sRaise, dCallP_eq, dCallD_eq, List.length_map, List.getElem?_cons_succ, List.getElem?_concat_length, set_last, get_mid, get_mid2, eqF, neF, ltF, leF, gtF, geF, isF, notF, addF, subF, mulF, fdivF, modF, powF, negF, ixF, lenF, tupF, lstF, absF, intF, gcdF, maxF, minF, Rs.to, dIsi, dIsi2, dIsE, tyN, D.isNon, dM1, dM0, srcSeq, srcRng1, srcRng2, dLc, tYesD, iaddF, isBF, notBF, srcZip, srcEnumerate, repF, sumF, allF, anyF, intsOf_map, blsOf_map, dSl, dPart, dNoPart, sliceF, at0, at1, at2, at3, at4, ix0, ix1, ix2, ix3, Dn.g0, Dn.g1, Dn.g2, Dn.g3, Dn.g4, ex_some, decide_true, decide_false, Bool.not_true, Bool.not_false, ite_true, ite_false, if_true, if_false, List.reverse_cons, List.reverse_nil, outPost, wipeE, CTg.set, setAll, appF, extF, revF, popF, Nat.zero_add, Nat.reduceAdd, is_NoneType_int, is_NoneType_bool, is_NoneType_str, is_NoneType_tuple, is_NoneType_list, is_bool_int, is_bool_bool, is_bool_str, is_bool_tuple, is_bool_list, is_int_int, is_int_bool, is_int_str, is_int_tuple, is_int_list, is_str_int, is_str_bool, is_str_str, is_str_tuple, is_str_list, is_tuple_int, is_tuple_bool, is_tuple_str, is_tuple_tuple, is_tuple_list, is_list_int, is_list_bool, is_list_str, is_list_tuple, is_list_list, strF, dDct, repLF, is_dict_int, is_dict_bool, is_dict_str, is_dict_tuple, is_dict_list, is_dict_dict, is_NoneType_dict, is_bool_dict, is_int_dict, is_str_dict, is_tuple_dict, is_list_dict]
    refine ⟨trivial, ?_⟩
    refine useP_val (w, d) _ rfl rfl (fun o q => q) (fun ex q => q) ?_
    have g0 : 0 < Nat.gcd w.natAbs d.natAbs := Nat.gcd_pos_of_pos_right _ (by omega)
    simp only [dOp, dUn, dVar, dC, slot, startE, List.map, List.length, List.replicate, List.append, List.cons_append, List.nil_append, List.set, dAnd, dOr, dNot, dtB, dtAnd, dtOr, dtNot, dIf, dtTru, truF, dNil, dCons, dTup, dLst, dCB, sNil, sSeq, sRet, sRetN, sExpr, sIf, sAsg, gN, gT, gsNil, gsCons, gS, sPar, sAug, sWhile, sFor, sBrk, sCont, sNo, sRaise, dCallP_eq, dCallD_eq, List.length_map, List.getElem?_cons_succ, List.getElem?_concat_length, set_last, get_mid, get_mid2, eqF, neF, ltF, leF, gtF, geF, isF, notF, addF, subF, mulF, fdivF, modF, powF, negF, ixF, lenF, tupF, lstF, absF, intF, gcdF, maxF, minF, Rs.to, dIsi, dIsi2, dIsE, tyN, D.isNon, dM1, dM0, srcSeq, srcRng1, srcRng2, dLc, tYesD, iaddF, isBF, notBF, srcZip, srcEnumerate, repF, sumF, allF, anyF, intsOf_map, blsOf_map, dSl, dPart, dNoPart, sliceF, at0, at1, at2, at3, at4, ix0, ix1, ix2, ix3, Dn.g0, Dn.g1, Dn.g2, Dn.g3, Dn.g4, ex_some, decide_true, decide_false, Bool.not_true, Bool.not_false, ite_true, ite_false, if_true, if_false, List.reverse_cons, List.reverse_nil, outPost, wipeE, CTg.set, setAll, appF, extF, revF, popF, Nat.zero_add, Nat.reduceAdd, is_NoneType_int, is_NoneType_bool, is_NoneType_str, is_NoneType_tuple, is_NoneType_list, is_bool_int, is_bool_bool, is_bool_str, is_bool_tuple, is_bool_list, is_int_int, is_int_bool, is_int_str, is_int_tuple, is_int_list, is_str_int, is_str_bool, is_str_str, is_str_tuple, is_str_list, is_tuple_int, is_tuple_bool, is_tuple_str, is_tuple_tuple, is_tuple_list, is_list_int, is_list_bool, is_list_str, is_list_tuple, is_list_list, strF, dDct, repLF, is_dict_int, is_dict_bool, is_dict_str, is_dict_tuple, is_dict_list, is_dict_dict, is_NoneType_dict, is_bool_dict, is_int_dict, is_str_dict, is_tuple_dict, is_list_dict]
    refine ⟨bt_div (bt_mono (gcd_bt (n := w) (by omega) dB) (by omega)) (by omega), bt_mul (m := 2000) (bt_mono (bits_fdiv wb) (by omega)) (bt_mono dB (by omega)) (by decide), ⟨_, some (.int n), some (.int d), rfl, Int.mul_pos (div_gcd_pos w0) d0, bt_mono (bits_mul (bits_fdiv wb) dB) (by omega)⟩, trivial⟩
  · rintro e h ⟨⟨w, u, v, rfl, w0, wb⟩, rfl⟩
    simp only [r__law_point_2, dOp, dUn, dVar, dC, slot, startE, List.map, List.length, List.replicate, List.append, List.cons_append, List.nil_append, List.set, dAnd, dOr, dNot, dtB, dtAnd, dtOr, dtNot, dIf, dtTru, truF, dNil, dCons, dTup, dLst, dCB, sNil, sSeq, sRet, sRetN, sExpr, sIf, sAsg, gN, gT, gsNil, gsCons, gS, sPar, sAug, sWhile, sFor, sBrk, sCont, sNo, sRaise, dCallP_eq, dCallD_eq, List.length_map, List.getElem?_cons_succ, List.getElem?_concat_length, set_last, get_mid, get_mid2, eqF, neF, ltF, leF, gtF, geF, isF, notF, addF, subF, mulF, fdivF, modF, powF, negF, ixF, lenF, tupF, lstF, absF, intF, gcdF, maxF, minF, Rs.to, dIsi, dIsi2, dIsE, tyN, D.isNon, dM1, dM0, srcSeq, srcRng1, srcRng2, dLc, tYesD, iaddF, isBF, notBF, srcZip, srcEnumerate, repF, sumF, allF, anyF, intsOf_map, blsOf_map, dSl, dPart, dNoPart, sliceF, at0, at1, at2, at3, at4, ix0, ix1, ix2, ix3, Dn.g0, Dn.g1, Dn.g2, Dn.g3, Dn.g4, ex_some, decide_true, decide_false, Bool.not_true, Bool.not_false, ite_true, ite_false, if_true, if_false, List.reverse_cons, List.reverse_nil, outPost, wipeE, CTg.set, setAll, appF, extF, revF, popF, Nat.zero_add, Nat.reduceAdd, is_NoneType_int, is_NoneType_bool, is_NoneType_str, is_NoneType_tuple, is_NoneType_list, is_bool_int, is_bool_bool, is_bool_str, is_bool_tuple, is_bool_list, is_int_int, is_int_bool, is_int_str, is_int_tuple, is_int_list, is_str_int, is_str_bool, is_str_str, is_str_tuple, is_str_list, is_tuple_int, is_tuple_bool, is_tuple_str, is_tuple_tuple, is_tuple_list, is_list_int, is_list_bool, is_list_str, is_list_tuple, is_list_list, strF, dDct, repLF, is_dict_int, is_dict_bool, is_dict_str, is_dict_tuple, is_dict_list, is_dict_dict, is_NoneType_dict, is_bool_dict, is_int_dict, is_str_dict, is_tuple_dict, is_list_dict]
    refine ⟨fun i acc h => acc = ((R.take i).map fun a => a.1 * w.fdiv a.2).map .int ∧ h = [], ⟨rfl, rfl⟩, fun _ _ _ _ _ => trivial, ?_, ?_⟩
    · rintro i x acc h hx ⟨rfl, rfl⟩
      obtain ⟨⟨n, d⟩, hi, rfl⟩ := row_at hx
      have hmem := List.mem_of_getElem? hi
      have d0 := hR.p _ hmem
      have b12 := hR.b _ hmem
      simp only at d0 b12
      refine ⟨_, rfl, ?_⟩
      simp only [dOp, dUn, dVar, dC, slot, startE, List.map, List.length, List.replicate, List.append, List.cons_append, List.nil_append, List.set, dAnd, dOr, dNot, dtB, dtAnd, dtOr, dtNot, dIf, dtTru, truF, dNil, dCons, dTup, dLst, dCB, sNil, sSeq, sRet, sRetN, sExpr, sIf, sAsg, gN, gT, gsNil, gsCons, gS, sPar, sAug, sWhile, sFor, sBrk, sCont, sNo, sRaise, dCallP_eq, dCallD_eq, List.length_map, List.getElem?_cons_succ, List.getElem?_concat_length, set_last, get_mid, get_mid2, eqF, neF, ltF, leF, gtF, geF, isF, notF, addF, subF, mulF, fdivF, modF, powF, negF, ixF, lenF, tupF, lstF, absF, intF, gcdF, maxF, minF, Rs.to, dIsi, dIsi2, dIsE, tyN, D.isNon, dM1, dM0, srcSeq, srcRng1, srcRng2, dLc, tYesD, iaddF, isBF, notBF, srcZip, srcEnumerate, repF, sumF, allF, anyF, intsOf_map, blsOf_map, dSl, dPart, dNoPart, sliceF, at0, at1, at2, at3, at4, ix0, ix1, ix2, ix3, Dn.g0, Dn.g1, Dn.g2, Dn.g3, Dn.g4, ex_some, decide_true, decide_false, Bool.not_true, Bool.not_false, ite_true, ite_false, if_true, if_false, List.reverse_cons, List.reverse_nil, outPost, wipeE, CTg.set, setAll, appF, extF, revF, popF, Nat.zero_add, Nat.reduceAdd, is_NoneType_int, is_NoneType_bool, is_NoneType_str, is_NoneType_tuple, is_NoneType_list, is_bool_int, is_bool_bool, is_bool_str, is_bool_tuple, is_bool_list, is_int_int, is_int_bool, is_int_str, is_int_tuple, is_int_list, is_str_int, is_str_bool, is_str_str, is_str_tuple, is_str_list, is_tuple_int, is_tuple_bool, is_tuple_str, is_tuple_tuple, is_tuple_list, is_list_int, is_list_bool, is_list_str, is_list_tuple, is_list_list, strF, dDct, repLF, is_dict_int, is_dict_bool, is_dict_str, is_dict_tuple, is_dict_list, is_dict_dict, is_NoneType_dict, is_bool_dict, is_int_dict, is_str_dict, is_tuple_dict, is_list_dict]
      refine ⟨bt_div (bt_mono b12.2 (by omega)) (by omega), bt_mul (m := 2000) (bt_mono b12.1 (by omega)) (bt_mono (bits_fdiv wb) (by omega)) (by decide), sl2 (by simp; omega), ?_, trivial⟩
      rw [List.take_add_one, hi]; simp
    · rintro acc h ⟨rfl, rfl⟩
      simp only [List.length_map, List.take_length, dOp, dUn, dVar, dC, slot, startE, List.map, List.length, List.replicate, List.append, List.cons_append, List.nil_append, List.set, dAnd, dOr, dNot, dtB, dtAnd, dtOr, dtNot, dIf, dtTru, truF, dNil, dCons, dTup, dLst, dCB, sNil, sSeq, sRet, sRetN, sExpr, sIf, sAsg, gN, gT, gsNil, gsCons, gS, sPar, sAug, sWhile, sFor, sBrk, sCont, sNo, sRaise, dCallP_eq, dCallD_eq, List.length_map, List.getElem?_cons_succ, List.getElem?_concat_length, set_last, get_mid, get_mid2, eqF, neF, ltF, leF, gtF, geF, isF, notF, addF, subF, mulF, fdivF, modF, powF, negF, ixF, lenF, tupF, lstF, absF, intF, gcdF, maxF, minF, Rs.to, dIsi, dIsi2, dIsE, tyN, D.isNon, dM1, dM0, srcSeq, srcRng1, srcRng2, dLc, tYesD, iaddF, isBF, notBF, srcZip, srcEnumerate, repF, sumF, allF, anyF, intsOf_map, blsOf_map, dSl, dPart, dNoPart, sliceF, at0, at1, at2, at3, at4, ix0, ix1, ix2, ix3, Dn.g0, Dn.g1, Dn.g2, Dn.g3, Dn.g4, ex_some, decide_true, decide_false, Bool.not_true, Bool.not_false, ite_true, ite_false, if_true, if_false, List.reverse_cons, List.reverse_nil, outPost, wipeE, CTg.set, setAll, appF, extF, revF, popF, Nat.zero_add, Nat.reduceAdd, is_NoneType_int, is_NoneType_bool, is_NoneType_str, is_NoneType_tuple, is_NoneType_list, is_bool_int, is_bool_bool, is_bool_str, is_bool_tuple, is_bool_list, is_int_int, is_int_bool, is_int_str, is_int_tuple, is_int_list, is_str_int, is_str_bool, is_str_str, is_str_tuple, is_str_list, is_tuple_int, is_tuple_bool, is_tuple_str, is_tuple_tuple, is_tuple_list, is_list_int, is_list_bool, is_list_str, is_list_tuple, is_list_list, strF, dDct, repLF, is_dict_int, is_dict_bool, is_dict_str, is_dict_tuple, is_dict_list, is_dict_dict, is_NoneType_dict, is_bool_dict, is_int_dict, is_str_dict, is_tuple_dict, is_list_dict]
      rw [app_int]
      refine ⟨Nat.le_of_lt (sl2 (by simp; omega)), ?_⟩
      have lb : Lb 1000 (R.map (fun a => a.1 * w.fdiv a.2) ++ [w]) := Lb.mk' ⟨by simp; omega, fun x hx => by
        obtain ⟨a, ha, rfl⟩ := List.mem_map.mp hx
        exact bt_mono (bits_mul (hR.b a ha).1 (bits_fdiv wb)) (by omega)⟩ (by simp; omega) (bt_mono wb (by omega))
      refine useP_mk (R.map (fun a => a.1 * w.fdiv a.2), w) [.lst ((R.map (fun a => a.1 * w.fdiv a.2) ++ [w]).map .int)] (.cons (.own (by first | rfl | simp) trivial (Views.pures (ints_pure _))) .nil) ⟨rfl, lb.mono (by decide), w0⟩ (fun o ho _ => ?_) (fun _ q => q)
      rw [ho]
      refine rt_val (ints_pure _) ⟨_, rfl, by simp, by rw [List.length_map]; exact lb.1, fun y hy => ?_⟩
      obtain ⟨x, hx', rfl⟩ := List.mem_map.mp hy
      exact bits_fdiv (lb.2 x hx')

theorem ok__law_point (T : Txt K mg) : Ok P w K mg base 3 "_law_point" ["row"] (spP K mg sp__law_point) :=
  okOf T.d__law_point fun f fd F => fnP (k := 2) sp__law_point t__law_point F sc__law_point (fun x ds hp => len__law_point x ds hp) (fun cdv A outer s H E hr z => by
    have hu := hr.units; have hnd := sc__law_point.nd
    unfold t__law_point r__law_point_0 r__law_point_1 r__law_point_2 l1__law_point_0
    exact (dss_cons (ds_set 1 hnd rfl (by walk_at "locs") de_int rfl (by walk_at "fnn"))
    (dss_cons (ds_for (passes_of (K := fun e s'' => L2.CX P w outer H s E e s'') (E₁ := fun e s'' => L2.CX P w outer H s E e s'') rfl) rfl (di_seq (de_var 0 rfl (by walk_at "vis") (by decide) (by decide))) (dg_tup rfl (dgs_cons (dg_name 2 hnd rfl (by walk_at "locs") (by walk_at "fnn")) (dgs_cons (dg_name 3 hnd rfl (by walk_at "locs") (by walk_at "fnn")) dgs_nil rfl) rfl) rfl rfl) (dss_one (ds_set 1 hnd rfl (by walk_at "locs") (de_mul (de_fdiv (de_var 1 rfl (by walk_at "vis") (by decide) (by decide)) (dn_callP ((ok__law_gcd (P := P) (w := w) (base := base) T).mono (by decide)) hr (takes_of rfl rfl rfl rfl) rfl (by decide) (da_cons (de_var 1 rfl (by walk_at "vis") (by decide) (by decide)) (da_cons (de_var 3 rfl (by walk_at "vis") (by decide) (by decide)) da_nil rfl) rfl) rfl rfl)) (de_var 3 rfl (by walk_at "vis") (by decide) (by decide))) rfl (by walk_at "fnn"))) (fun _ => rfl))
    (dss_one (ds_ret (dn_callP ((ok__law_low (P := P) (w := w) (base := base) T).mono (by decide)) hr (takes_of rfl rfl rfl rfl) rfl (by decide) (da_cons (de_add (de_lc (own := [("n", 2), ("d", 3)]) (c := (.many [2, 3])) (tt := tYesD) (te := (dOp mulF (dVar 2) (dOp fdivF (dVar 1) (dVar 3)))) rfl hnd (di_seq (de_var 0 rfl (by walk_at "vis") (by decide) (by decide))) (blkOk_by (N := nm__law_point) (sc := defScope s__law_point) (by decide +kernel)) (by decide) (fun _ _ _ _ _ => pg_tup rfl (pgs_cons (pg_name (i := 2) hnd rfl (by walk_at "locs") (by walk_at "fnn")) (pgs_cons (pg_name (i := 3) hnd rfl (by walk_at "locs") (by walk_at "fnn")) pgs_nil rfl) rfl) rfl rfl) (fun _ _ _ _ _ => dts_nil) (fun _ _ _ _ _ => (de_mul (de_var 2 rfl (by walk_at "vis") (by decide) (by decide)) (de_fdiv (de_var 1 rfl (by walk_at "vis") (by decide) (by decide)) (de_var 3 rfl (by walk_at "vis") (by decide) (by decide))))) (fun _ => rfl)) (de_lst (da_cons (de_var 1 rfl (by walk_at "vis") (by decide) (by decide)) da_nil rfl) (by decide))) da_nil rfl) rfl rfl)))))) w__law_point
/-! ### _law_is_told -/
def sp__law_is_told : Spc D where
  pre := fun x ds => ds = [x] ∧ noA x = true
  res := fun x o => o = .val (.bl (toldB x))
  exc := fun _ _ => False

def r__law_is_told_0 : dS :=
  (sRet (dAnd (dCallP sp__law_is_ratio (dCons (dVar 0) dNil)) (dAnd (dOp geF (dOp ixF (dVar 0) (dC (.int 0))) (dUn negF (dC (.int 1000000000)))) (dAnd (dOp leF (dOp ixF (dVar 0) (dC (.int 0))) (dC (.int 1000000000))) (dOp leF (dOp ixF (dVar 0) (dC (.int 1))) (dC (.int 1000000000)))))))
def t__law_is_told : dS :=
  (r__law_is_told_0)
theorem len__law_is_told : ∀ x ds, sp__law_is_told.pre x ds → ds.length = 1 := fun x ds h => by rw [h.1]; rfl
theorem useP_lratio {d : D} {h : Hh} {Q : D → Hh → Prop} {E : XK'} (hd : noA d = true) (q : Q (.bl (ratioB d)) h) : useP sp__law_is_ratio [d] h Q E :=
  useP_mk d [d] (.cons (view_noA hd) .nil) ⟨rfl, hd⟩ (fun o ho _ => by rw [ho]; exact q) (fun _ q => q)
theorem told_tup {a b : Int} : toldB (.tup [.int a, .int b]) = (ratioB (.tup [.int a, .int b]) && (decide ((if a < 0 then -a else a) ≤ 1000000000) && decide (b ≤ 1000000000))) := rfl
theorem w__law_is_told : ∀ x ds, sp__law_is_told.pre x ds → t__law_is_told (endP sp__law_is_told x) (startE nm__law_is_told.length ds) [] := by
  rintro d ds ⟨rfl, hd⟩
  simp only [t__law_is_told , r__law_is_told_0, nm__law_is_told, dOp, dUn, dVar, dC, slot, startE, List.map, List.length, List.replicate, List.append, List.cons_append, List.nil_append, List.set, dAnd, dOr, dNot, dtB, dtAnd, dtOr, dtNot, dIf, dtTru, truF, dNil, dCons, dTup, dLst, dCB, sNil, sSeq, sRet, sRetN, sExpr, sIf, sAsg, gN, gT, gsNil, gsCons, gS, sPar, sAug, sWhile, sFor, sBrk, sCont, sNo, sRaise, dCallP_eq, dCallD_eq, List.length_map, List.getElem?_cons_succ, List.getElem?_concat_length, set_last, get_mid, get_mid2, eqF, neF, ltF, leF, gtF, geF, isF, notF, addF, subF, mulF, fdivF, modF, powF, negF, ixF, lenF, tupF, lstF, absF, intF, gcdF, maxF, minF, Rs.to, dIsi, dIsi2, dIsE, tyN, D.isNon, dM1, dM0, srcSeq, srcRng1, srcRng2, dLc, tYesD, iaddF, isBF, notBF, srcZip, srcEnumerate, repF, sumF, allF, anyF, intsOf_map, blsOf_map, dSl, dPart, dNoPart, sliceF, at0, at1, at2, at3, at4, ix0, ix1, ix2, ix3, Dn.g0, Dn.g1, Dn.g2, Dn.g3, Dn.g4, ex_some, decide_true, decide_false, Bool.not_true, Bool.not_false, ite_true, ite_false, if_true, if_false, List.reverse_cons, List.reverse_nil, outPost, wipeE, CTg.set, setAll, appF, extF, revF, popF, Nat.zero_add, Nat.reduceAdd, is_NoneType_int, is_NoneType_bool, is_NoneType_str, is_NoneType_tuple, is_NoneType_list, is_bool_int, is_bool_bool, is_bool_str, is_bool_tuple, is_bool_list, is_int_int, is_int_bool, is_int_str, is_int_tuple, is_int_list, is_str_int, is_str_bool, is_str_str, is_str_tuple, is_str_list, is_tuple_int, is_tuple_bool, is_tuple_str, is_tuple_tuple, is_tuple_list, is_list_int, is_list_bool, is_list_str, is_list_tuple, is_list_list, strF, dDct, repLF, is_dict_int, is_dict_bool, is_dict_str, is_dict_tuple, is_dict_list, is_dict_dict, is_NoneType_dict, is_bool_dict, is_int_dict, is_str_dict, is_tuple_dict, is_list_dict]
  refine useP_lratio hd ?_
  cases hr : ratioB d with
  | false =>
    simp only [dOp, dUn, dVar, dC, slot, startE, List.map, List.length, List.replicate, List.append, List.cons_append, List.nil_append, List.set, dAnd, dOr, dNot, dtB, dtAnd, dtOr, dtNot, dIf, dtTru, truF, dNil, dCons, dTup, dLst, dCB, sNil, sSeq, sRet, sRetN, sExpr, sIf, sAsg, gN, gT, gsNil, gsCons, gS, sPar, sAug, sWhile, sFor, sBrk, sCont, sNo, sRaise, dCallP_eq, dCallD_eq, List.length_map, List.getElem?_cons_succ, List.getElem?_concat_length, set_last, get_mid, get_mid2, eqF, neF, ltF, leF, gtF, geF, isF, notF, addF, subF, mulF, fdivF, modF, powF, negF, ixF, lenF, tupF, lstF, absF, intF, gcdF, maxF, minF, Rs.to, dIsi, dIsi2, dIsE, tyN, D.isNon, dM1, dM0, srcSeq, srcRng1, srcRng2, dLc, tYesD, iaddF, isBF, notBF, srcZip, srcEnumerate, repF, sumF, allF, anyF, intsOf_map, blsOf_map, dSl, dPart, dNoPart, sliceF, at0, at1, at2, at3, at4, ix0, ix1, ix2, ix3, Dn.g0, Dn.g1, Dn.g2, Dn.g3, Dn.g4, ex_some, decide_true, decide_false, Bool.not_true, Bool.not_false, ite_true, ite_false, if_true, if_false, List.reverse_cons, List.reverse_nil, outPost, wipeE, CTg.set, setAll, appF, extF, revF, popF, Nat.zero_add, Nat.reduceAdd, is_NoneType_int, is_NoneType_bool, is_NoneType_str, is_NoneType_tuple, is_NoneType_list, is_bool_int, is_bool_bool, is_bool_str, is_bool_tuple, is_bool_list, is_int_int, is_int_bool, is_int_str, is_int_tuple, is_int_list, is_str_int, is_str_bool, is_str_str, is_str_tuple, is_str_list, is_tuple_int, is_tuple_bool, is_tuple_str, is_tuple_tuple, is_tuple_list, is_list_int, is_list_bool, is_list_str, is_list_tuple, is_list_list, strF, dDct, repLF, is_dict_int, is_dict_bool, is_dict_str, is_dict_tuple, is_dict_list, is_dict_dict, is_NoneType_dict, is_bool_dict, is_int_dict, is_str_dict, is_tuple_dict, is_list_dict]
    exact rt_val rfl (by show _ = Out.val (.bl (toldB d)); rw [told_no hr])
  | true =>
    obtain ⟨a, b, rfl⟩ := ratio_shape hr
    have fin : ∀ k : Bool, k = toldB (.tup [.int a, .int b]) → (endP sp__law_is_told (.tup [.int a, .int b])).rt (.bl k) [] := fun k hk => rt_val rfl (by show _ = Out.val (.bl (toldB _)); rw [hk])
    have e : toldB (.tup [.int a, .int b]) = (decide ((if a < 0 then -a else a) ≤ 1000000000) && decide (b ≤ 1000000000)) := by rw [told_tup, hr, Bool.true_and]
    by_cases h1 : -1000000000 ≤ a
    · by_cases h2 : a ≤ 1000000000
      · simp only [h1, h2, dOp, dUn, dVar, dC, slot, startE, List.map, List.length, List.replicate, List.append, List.cons_append, List.nil_append, List.set, dAnd, dOr, dNot, dtB, dtAnd, dtOr, dtNot, dIf, dtTru, truF, dNil, dCons, dTup, dLst, dCB, sNil, sSeq, sRet, sRetN, sExpr, sIf, sAsg, gN, gT, gsNil, gsCons, gS, sPar, sAug, sWhile, sFor, sBrk, sCont, sNo, sRaise, dCallP_eq, dCallD_eq, List.length_map, List.getElem?_cons_succ, List.getElem?_concat_length, set_last, get_mid, get_mid2, eqF, neF, ltF, leF, gtF, geF, isF, notF, addF, subF, mulF, fdivF, modF, powF, negF, ixF, lenF, tupF, lstF, absF, intF, gcdF, maxF, minF, Rs.to, dIsi, dIsi2, dIsE, tyN, D.isNon, dM1, dM0, srcSeq, srcRng1, srcRng2, dLc, tYesD, iaddF, isBF, notBF, srcZip, srcEnumerate, repF, sumF, allF, anyF, intsOf_map, blsOf_map, dSl, dPart, dNoPart, sliceF, at0, at1, at2, at3, at4, ix0, ix1, ix2, ix3, Dn.g0, Dn.g1, Dn.g2, Dn.g3, Dn.g4, ex_some, decide_true, decide_false, Bool.not_true, Bool.not_false, ite_true, ite_false, if_true, if_false, List.reverse_cons, List.reverse_nil, outPost, wipeE, CTg.set, setAll, appF, extF, revF, popF, Nat.zero_add, Nat.reduceAdd, is_NoneType_int, is_NoneType_bool, is_NoneType_str, is_NoneType_tuple, is_NoneType_list, is_bool_int, is_bool_bool, is_bool_str, is_bool_tuple, is_bool_list, is_int_int, is_int_bool, is_int_str, is_int_tuple, is_int_list, is_str_int, is_str_bool, is_str_str, is_str_tuple, is_str_list, is_tuple_int, is_tuple_bool, is_tuple_str, is_tuple_tuple, is_tuple_list, is_list_int, is_list_bool, is_list_str, is_list_tuple, is_list_list, strF, dDct, repLF, is_dict_int, is_dict_bool, is_dict_str, is_dict_tuple, is_dict_list, is_dict_dict, is_NoneType_dict, is_bool_dict, is_int_dict, is_str_dict, is_tuple_dict, is_list_dict]
        refine fin _ ?_
        rw [e, decide_eq_true (show (if a < 0 then -a else a) ≤ 1000000000 by split <;> omega), Bool.true_and]
      · simp only [h1, h2, dOp, dUn, dVar, dC, slot, startE, List.map, List.length, List.replicate, List.append, List.cons_append, List.nil_append, List.set, dAnd, dOr, dNot, dtB, dtAnd, dtOr, dtNot, dIf, dtTru, truF, dNil, dCons, dTup, dLst, dCB, sNil, sSeq, sRet, sRetN, sExpr, sIf, sAsg, gN, gT, gsNil, gsCons, gS, sPar, sAug, sWhile, sFor, sBrk, sCont, sNo, sRaise, dCallP_eq, dCallD_eq, List.length_map, List.getElem?_cons_succ, List.getElem?_concat_length, set_last, get_mid, get_mid2, eqF, neF, ltF, leF, gtF, geF, isF, notF, addF, subF, mulF, fdivF, modF, powF, negF, ixF, lenF, tupF, lstF, absF, intF, gcdF, maxF, minF, Rs.to, dIsi, dIsi2, dIsE, tyN, D.isNon, dM1, dM0, srcSeq, srcRng1, srcRng2, dLc, tYesD, iaddF, isBF, notBF, srcZip, srcEnumerate, repF, sumF, allF, anyF, intsOf_map, blsOf_map, dSl, dPart, dNoPart, sliceF, at0, at1, at2, at3, at4, ix0, ix1, ix2, ix3, Dn.g0, Dn.g1, Dn.g2, Dn.g3, Dn.g4, ex_some, decide_true, decide_false, Bool.not_true, Bool.not_false, ite_true, ite_false, if_true, if_false, List.reverse_cons, List.reverse_nil, outPost, wipeE, CTg.set, setAll, appF, extF, revF, popF, Nat.zero_add, Nat.reduceAdd, is_NoneType_int, is_NoneType_bool, is_NoneType_str, is_NoneType_tuple, is_NoneType_list, is_bool_int, is_bool_bool, is_bool_str, is_bool_tuple, is_bool_list, is_int_int, is_int_bool, is_int_str, is_int_tuple, is_int_list, is_str_int, is_str_bool, is_str_str, is_str_tuple, is_str_list, is_tuple_int, is_tuple_bool, is_tuple_str, is_tuple_tuple, is_tuple_list, is_list_int, is_list_bool, is_list_str, is_list_tuple, is_list_list, strF, dDct, repLF, is_dict_int, is_dict_bool, is_dict_str, is_dict_tuple, is_dict_list, is_dict_dict, is_NoneType_dict, is_bool_dict, is_int_dict, is_str_dict, is_tuple_dict, is_list_dict]
        refine fin _ ?_
        rw [e, decide_eq_false (show ¬ (if a < 0 then -a else a) ≤ 1000000000 by split <;> omega), Bool.false_and]
    · simp only [h1, dOp, dUn, dVar, dC, slot, startE, List.map, List.length, List.replicate, List.append, List.cons_append, List.nil_append, List.set, dAnd, dOr, dNot, dtB, dtAnd, dtOr, dtNot, dIf, dtTru, truF, dNil, dCons, dTup, dLst, dCB, sNil, sSeq, sRet, sRetN, sExpr, sIf, sAsg, gN, gT, gsNil, gsCons, gS, sPar, sAug, sWhile, sFor, sBrk, sCont, sNo, sRaise, dCallP_eq, dCallD_eq, List.length_map, List.getElem?_cons_succ, List.getElem?_concat_length, set_last, get_mid, get_mid2, eqF, neF, ltF, leF, gtF, geF, isF, notF, addF, subF, mulF, fdivF, modF, powF, negF, ixF, lenF, tupF, lstF, absF, intF, gcdF, maxF, minF, Rs.to, dIsi, dIsi2, dIsE, tyN, D.isNon, dM1, dM0, srcSeq, srcRng1, srcRng2, dLc, tYesD, iaddF, isBF, notBF, srcZip, srcEnumerate, repF, sumF, allF, anyF, intsOf_map, blsOf_map, dSl, dPart, dNoPart, sliceF, at0, at1, at2, at3, at4, ix0, ix1, ix2, ix3, Dn.g0, Dn.g1, Dn.g2, Dn.g3, Dn.g4, ex_some, decide_true, decide_false, Bool.not_true, Bool.not_false, ite_true, ite_false, if_true, if_false, List.reverse_cons, List.reverse_nil, outPost, wipeE, CTg.set, setAll, appF, extF, revF, popF, Nat.zero_add, Nat.reduceAdd, is_NoneType_int, is_NoneType_bool, is_NoneType_str, is_NoneType_tuple, is_NoneType_list, is_bool_int, is_bool_bool, is_bool_str, is_bool_tuple, is_bool_list, is_int_int, is_int_bool, is_int_str, is_int_tuple, is_int_list, is_str_int, is_str_bool, is_str_str, is_str_tuple, is_str_list, is_tuple_int, is_tuple_bool, is_tuple_str, is_tuple_tuple, is_tuple_list, is_list_int, is_list_bool, is_list_str, is_list_tuple, is_list_list, strF, dDct, repLF, is_dict_int, is_dict_bool, is_dict_str, is_dict_tuple, is_dict_list, is_dict_dict, is_NoneType_dict, is_bool_dict, is_int_dict, is_str_dict, is_tuple_dict, is_list_dict]
      refine fin _ ?_
      rw [e, decide_eq_false (show ¬ (if a < 0 then -a else a) ≤ 1000000000 by split <;> omega), Bool.false_and]

theorem ok__law_is_told (T : Txt K mg) : Ok P w K mg base 3 "_law_is_told" ["x"] (spP K mg sp__law_is_told) :=
  okOf T.d__law_is_told fun f fd F => fnP (k := 2) sp__law_is_told t__law_is_told F sc__law_is_told (fun x ds hp => len__law_is_told x ds hp) (fun cdv A outer s H E hr z => by
    have hu := hr.units; have hnd := sc__law_is_told.nd
    unfold t__law_is_told r__law_is_told_0
    exact (dss_one (ds_ret (de_and (dn_callP ((ok__law_is_ratio (P := P) (w := w) (base := base) T).mono (by decide)) hr (takes_of rfl rfl rfl rfl) rfl (by decide) (da_cons (de_var 0 rfl (by walk_at "vis") (by decide) (by decide)) da_nil rfl) rfl rfl) (de_and (de_ge (de_ix (de_var 0 rfl (by walk_at "vis") (by decide) (by decide)) de_int (fun _ _ => rfl)) (de_neg de_int)) (de_and (de_le (de_ix (de_var 0 rfl (by walk_at "vis") (by decide) (by decide)) de_int (fun _ _ => rfl)) de_int) (de_one (de_le (de_ix (de_var 0 rfl (by walk_at "vis") (by decide) (by decide)) de_int (fun _ _ => rfl)) de_int)))))))) w__law_is_told
/-! ### _law_pairs_right -/
def sp__law_pairs_right : Spc D where
  pre := fun x ds => ds = [x] ∧ noA x = true
  res := fun x o => o = .val (.bl true)
  exc := fun _ _ => False

def r__law_pairs_right_2 : dS :=
  (sRet (dCallP (sp__law_same 3) (dCons (dCallP sp_is_positive (dCons (dVar 0) dNil)) (dCons (dAnd (dVar 1) (dOp gtF (dOp ixF (dVar 0) (dC (.int 0))) (dC (.int 0)))) dNil))))
def r__law_pairs_right_1 : dS :=
  (sSeq (sIf (dtOr (dtNot (dtTru (dCallP (sp__law_same 3) (dCons (dCallP sp_is_ratio (dCons (dVar 0) dNil)) (dCons (dCallP sp__law_is_ratio (dCons (dVar 0) dNil)) dNil))))) (dtNot (dtTru (dCallP (sp__law_same 3) (dCons (dCallP sp_is_told_ratio (dCons (dVar 0) dNil)) (dCons (dVar 1) dNil)))))) (sRet (dC (.bl false))) sNil) (r__law_pairs_right_2))
def r__law_pairs_right_0 : dS :=
  (sSeq (sAsg (dCallP sp__law_is_told (dCons (dVar 0) dNil)) (gN 1)) (r__law_pairs_right_1))
def t__law_pairs_right : dS :=
  (r__law_pairs_right_0)
theorem len__law_pairs_right : ∀ x ds, sp__law_pairs_right.pre x ds → ds.length = 1 := fun x ds h => by rw [h.1]; rfl
theorem useP_same {a b : Bool} {h : Hh} {Q : D → Hh → Prop} {E : XK'} (e : a = b) (q : Q (.bl true) h) : useP (sp__law_same 3) [.bl a, .bl b] h Q E :=
  useP_val (a, b) _ rfl rfl (fun o ho => by rw [ho]) (fun ex q => q) (by rw [decide_eq_true e]; exact q)
theorem useP_ltold {d : D} {h : Hh} {Q : D → Hh → Prop} {E : XK'} (hd : noA d = true) (q : Q (.bl (toldB d)) h) : useP sp__law_is_told [d] h Q E :=
  useP_mk d [d] (.cons (view_noA hd) .nil) ⟨rfl, hd⟩ (fun o ho _ => by rw [ho]; exact q) (fun _ q => q)
theorem useP_pos {d : D} {h : Hh} {Q : D → Hh → Prop} {E : XK'} (hd : noA d = true) (q : Q (.bl (posB d)) h) : useP sp_is_positive [d] h Q E :=
  useP_mk d [d] (.cons (view_noA hd) .nil) ⟨rfl, hd⟩ (fun o ho _ => by rw [ho]; exact q) (fun _ q => q)
theorem w__law_pairs_right : ∀ x ds, sp__law_pairs_right.pre x ds → t__law_pairs_right (endP sp__law_pairs_right x) (startE nm__law_pairs_right.length ds) [] := by
  rintro d ds ⟨rfl, hd⟩
  simp only [t__law_pairs_right , r__law_pairs_right_0, nm__law_pairs_right, dOp, dUn, dVar, dC, slot, startE, List.map, List.length, List.replicate, List.append, List.cons_append, List.nil_append, List.set, dAnd, dOr, dNot, dtB, dtAnd, dtOr, dtNot, dIf, dtTru, truF, dNil, dCons, dTup, dLst, dCB, sNil, sSeq, sRet, sRetN, sExpr, sIf, sAsg, gN, gT, gsNil, gsCons, gS, sPar, sAug, sWhile, sFor, sBrk, sCont, sNo, sRaise, dCallP_eq, dCallD_eq, List.length_map, List.getElem?_cons_succ, List.getElem?_concat_length, set_last, get_mid, get_mid2, eqF, neF, ltF, leF, gtF, geF, isF, notF, addF, subF, mulF, fdivF, modF, powF, negF, ixF, lenF, tupF, lstF, absF, intF, gcdF, maxF, minF, Rs.to, dIsi, dIsi2, dIsE, tyN, D.isNon, dM1, dM0, srcSeq, srcRng1, srcRng2, dLc, tYesD, iaddF, isBF, notBF, srcZip, srcEnumerate, repF, sumF, allF, anyF, intsOf_map, blsOf_map, dSl, dPart, dNoPart, sliceF, at0, at1, at2, at3, at4, ix0, ix1, ix2, ix3, Dn.g0, Dn.g1, Dn.g2, Dn.g3, Dn.g4, ex_some, decide_true, decide_false, Bool.not_true, Bool.not_false, ite_true, ite_false, if_true, if_false, List.reverse_cons, List.reverse_nil, outPost, wipeE, CTg.set, setAll, appF, extF, revF, popF, Nat.zero_add, Nat.reduceAdd, is_NoneType_int, is_NoneType_bool, is_NoneType_str, is_NoneType_tuple, is_NoneType_list, is_bool_int, is_bool_bool, is_bool_str, is_bool_tuple, is_bool_list, is_int_int, is_int_bool, is_int_str, is_int_tuple, is_int_list, is_str_int, is_str_bool, is_str_str, is_str_tuple, is_str_list, is_tuple_int, is_tuple_bool, is_tuple_str, is_tuple_tuple, is_tuple_list, is_list_int, is_list_bool, is_list_str, is_list_tuple, is_list_list, strF, dDct, repLF, is_dict_int, is_dict_bool, is_dict_str, is_dict_tuple, is_dict_list, is_dict_dict, is_NoneType_dict, is_bool_dict, is_int_dict, is_str_dict, is_tuple_dict, is_list_dict]
  refine useP_ltold hd ?_
  simp only [r__law_pairs_right_1, dOp, dUn, dVar, dC, slot, startE, List.map, List.length, List.replicate, List.append, List.cons_append, List.nil_append, List.set, dAnd, dOr, dNot, dtB, dtAnd, dtOr, dtNot, dIf, dtTru, truF, dNil, dCons, dTup, dLst, dCB, sNil, sSeq, sRet, sRetN, sExpr, sIf, sAsg, gN, gT, gsNil, gsCons, gS, sPar, sAug, sWhile, sFor, sBrk, sCont, sNo, sRaise, dCallP_eq, dCallD_eq, List.length_map, List.getElem?_cons_succ, List.getElem?_concat_length, set_last, get_mid, get_mid2, eqF, neF, ltF, leF, gtF, geF, isF, notF, addF, subF, mulF, fdivF, modF, powF, negF, ixF, lenF, tupF, lstF, absF, intF, gcdF, maxF, minF, Rs.to, dIsi, dIsi2, dIsE, tyN, D.isNon, dM1, dM0, srcSeq, srcRng1, srcRng2, dLc, tYesD, iaddF, isBF, notBF, srcZip, srcEnumerate, repF, sumF, allF, anyF, intsOf_map, blsOf_map, dSl, dPart, dNoPart, sliceF, at0, at1, at2, at3, at4, ix0, ix1, ix2, ix3, Dn.g0, Dn.g1, Dn.g2, Dn.g3, Dn.g4, ex_some, decide_true, decide_false, Bool.not_true, Bool.not_false, ite_true, ite_false, if_true, if_false, List.reverse_cons, List.reverse_nil, outPost, wipeE, CTg.set, setAll, appF, extF, revF, popF, Nat.zero_add, Nat.reduceAdd, is_NoneType_int, is_NoneType_bool, is_NoneType_str, is_NoneType_tuple, is_NoneType_list, is_bool_int, is_bool_bool, is_bool_str, is_bool_tuple, is_bool_list, is_int_int, is_int_bool, is_int_str, is_int_tuple, is_int_list, is_str_int, is_str_bool, is_str_str, is_str_tuple, is_str_list, is_tuple_int, is_tuple_bool, is_tuple_str, is_tuple_tuple, is_tuple_list, is_list_int, is_list_bool, is_list_str, is_list_tuple, is_list_list, strF, dDct, repLF, is_dict_int, is_dict_bool, is_dict_str, is_dict_tuple, is_dict_list, is_dict_dict, is_NoneType_dict, is_bool_dict, is_int_dict, is_str_dict, is_tuple_dict, is_list_dict]
  refine useP_isratio hd (useP_lratio hd (useP_same rfl ?_))
  simp only [dOp, dUn, dVar, dC, slot, startE, List.map, List.length, List.replicate, List.append, List.cons_append, List.nil_append, List.set, dAnd, dOr, dNot, dtB, dtAnd, dtOr, dtNot, dIf, dtTru, truF, dNil, dCons, dTup, dLst, dCB, sNil, sSeq, sRet, sRetN, sExpr, sIf, sAsg, gN, gT, gsNil, gsCons, gS, sPar, sAug, sWhile, sFor, sBrk, sCont, sNo, sRaise, dCallP_eq, dCallD_eq, List.length_map, List.getElem?_cons_succ, List.getElem?_concat_length, set_last, get_mid, get_mid2, eqF, neF, ltF, leF, gtF, geF, isF, notF, addF, subF, mulF, fdivF, modF, powF, negF, ixF, lenF, tupF, lstF, absF, intF, gcdF, maxF, minF, Rs.to, dIsi, dIsi2, dIsE, tyN, D.isNon, dM1, dM0, srcSeq, srcRng1, srcRng2, dLc, tYesD, iaddF, isBF, notBF, srcZip, srcEnumerate, repF, sumF, allF, anyF, intsOf_map, blsOf_map, dSl, dPart, dNoPart, sliceF, at0, at1, at2, at3, at4, ix0, ix1, ix2, ix3, Dn.g0, Dn.g1, Dn.g2, Dn.g3, Dn.g4, ex_some, decide_true, decide_false, Bool.not_true, Bool.not_false, ite_true, ite_false, if_true, if_false, List.reverse_cons, List.reverse_nil, outPost, wipeE, CTg.set, setAll, appF, extF, revF, popF, Nat.zero_add, Nat.reduceAdd, is_NoneType_int, is_NoneType_bool, is_NoneType_str, is_NoneType_tuple, is_NoneType_list, is_bool_int, is_bool_bool, is_bool_str, is_bool_tuple, is_bool_list, is_int_int, is_int_bool, is_int_str, is_int_tuple, is_int_list, is_str_int, is_str_bool, is_str_str, is_str_tuple, is_str_list, is_tuple_int, is_tuple_bool, is_tuple_str, is_tuple_tuple, is_tuple_list, is_list_int, is_list_bool, is_list_str, is_list_tuple, is_list_list, strF, dDct, repLF, is_dict_int, is_dict_bool, is_dict_str, is_dict_tuple, is_dict_list, is_dict_dict, is_NoneType_dict, is_bool_dict, is_int_dict, is_str_dict, is_tuple_dict, is_list_dict]
  refine useP_told hd (useP_same rfl ?_)
  simp only [r__law_pairs_right_2, dOp, dUn, dVar, dC, slot, startE, List.map, List.length, List.replicate, List.append, List.cons_append, List.nil_append, List.set, dAnd, dOr, dNot, dtB, dtAnd, dtOr, dtNot, dIf, dtTru, truF, dNil, dCons, dTup, dLst, dCB, sNil, sSeq, sRet, sRetN, sExpr, sIf, sAsg, gN, gT, gsNil, gsCons, gS, sPar, sAug, sWhile, sFor, sBrk, sCont, sNo, sRaise, dCallP_eq, dCallD_eq, List.length_map, List.getElem?_cons_succ, List.getElem?_concat_length, set_last, get_mid, get_mid2, eqF, neF, ltF, leF, gtF, geF, isF, notF, addF, subF, mulF, fdivF, modF, powF, negF, ixF, lenF, tupF, lstF, absF, intF, gcdF, maxF, minF, Rs.to, dIsi, dIsi2, dIsE, tyN, D.isNon, dM1, dM0, srcSeq, srcRng1, srcRng2, dLc, tYesD, iaddF, isBF, notBF, srcZip, srcEnumerate, repF, sumF, allF, anyF, intsOf_map, blsOf_map, dSl, dPart, dNoPart, sliceF, at0, at1, at2, at3, at4, ix0, ix1, ix2, ix3, Dn.g0, Dn.g1, Dn.g2, Dn.g3, Dn.g4, ex_some, decide_true, decide_false, Bool.not_true, Bool.not_false, ite_true, ite_false, if_true, if_false, List.reverse_cons, List.reverse_nil, outPost, wipeE, CTg.set, setAll, appF, extF, revF, popF, Nat.zero_add, Nat.reduceAdd, is_NoneType_int, is_NoneType_bool, is_NoneType_str, is_NoneType_tuple, is_NoneType_list, is_bool_int, is_bool_bool, is_bool_str, is_bool_tuple, is_bool_list, is_int_int, is_int_bool, is_int_str, is_int_tuple, is_int_list, is_str_int, is_str_bool, is_str_str, is_str_tuple, is_str_list, is_tuple_int, is_tuple_bool, is_tuple_str, is_tuple_tuple, is_tuple_list, is_list_int, is_list_bool, is_list_str, is_list_tuple, is_list_list, strF, dDct, repLF, is_dict_int, is_dict_bool, is_dict_str, is_dict_tuple, is_dict_list, is_dict_dict, is_NoneType_dict, is_bool_dict, is_int_dict, is_str_dict, is_tuple_dict, is_list_dict]
  refine useP_pos hd ?_
  cases ht : toldB d with
  | false =>
    simp only [dOp, dUn, dVar, dC, slot, startE, List.map, List.length, List.replicate, List.append, List.cons_append, List.nil_append, List.set, dAnd, dOr, dNot, dtB, dtAnd, dtOr, dtNot, dIf, dtTru, truF, dNil, dCons, dTup, dLst, dCB, sNil, sSeq, sRet, sRetN, sExpr, sIf, sAsg, gN, gT, gsNil, gsCons, gS, sPar, sAug, sWhile, sFor, sBrk, sCont, sNo, sRaise, dCallP_eq, dCallD_eq, List.length_map, List.getElem?_cons_succ, List.getElem?_concat_length, set_last, get_mid, get_mid2, eqF, neF, ltF, leF, gtF, geF, isF, notF, addF, subF, mulF, fdivF, modF, powF, negF, ixF, lenF, tupF, lstF, absF, intF, gcdF, maxF, minF, Rs.to, dIsi, dIsi2, dIsE, tyN, D.isNon, dM1, dM0, srcSeq, srcRng1, srcRng2, dLc, tYesD, iaddF, isBF, notBF, srcZip, srcEnumerate, repF, sumF, allF, anyF, intsOf_map, blsOf_map, dSl, dPart, dNoPart, sliceF, at0, at1, at2, at3, at4, ix0, ix1, ix2, ix3, Dn.g0, Dn.g1, Dn.g2, Dn.g3, Dn.g4, ex_some, decide_true, decide_false, Bool.not_true, Bool.not_false, ite_true, ite_false, if_true, if_false, List.reverse_cons, List.reverse_nil, outPost, wipeE, CTg.set, setAll, appF, extF, revF, popF, Nat.zero_add, Nat.reduceAdd, is_NoneType_int, is_NoneType_bool, is_NoneType_str, is_NoneType_tuple, is_NoneType_list, is_bool_int, is_bool_bool, is_bool_str, is_bool_tuple, is_bool_list, is_int_int, is_int_bool, is_int_str, is_int_tuple, is_int_list, is_str_int, is_str_bool, is_str_str, is_str_tuple, is_str_list, is_tuple_int, is_tuple_bool, is_tuple_str, is_tuple_tuple, is_tuple_list, is_list_int, is_list_bool, is_list_str, is_list_tuple, is_list_list, strF, dDct, repLF, is_dict_int, is_dict_bool, is_dict_str, is_dict_tuple, is_dict_list, is_dict_dict, is_NoneType_dict, is_bool_dict, is_int_dict, is_str_dict, is_tuple_dict, is_list_dict]
    refine useP_same (by unfold posB; rw [ht]; rfl) ?_
    exact rt_val rfl rfl
  | true =>
    obtain ⟨a, b, rfl⟩ := told_shape ht
    simp only [dOp, dUn, dVar, dC, slot, startE, List.map, List.length, List.replicate, List.append, List.cons_append, List.nil_append, List.set, dAnd, dOr, dNot, dtB, dtAnd, dtOr, dtNot, dIf, dtTru, truF, dNil, dCons, dTup, dLst, dCB, sNil, sSeq, sRet, sRetN, sExpr, sIf, sAsg, gN, gT, gsNil, gsCons, gS, sPar, sAug, sWhile, sFor, sBrk, sCont, sNo, sRaise, dCallP_eq, dCallD_eq, List.length_map, List.getElem?_cons_succ, List.getElem?_concat_length, set_last, get_mid, get_mid2, eqF, neF, ltF, leF, gtF, geF, isF, notF, addF, subF, mulF, fdivF, modF, powF, negF, ixF, lenF, tupF, lstF, absF, intF, gcdF, maxF, minF, Rs.to, dIsi, dIsi2, dIsE, tyN, D.isNon, dM1, dM0, srcSeq, srcRng1, srcRng2, dLc, tYesD, iaddF, isBF, notBF, srcZip, srcEnumerate, repF, sumF, allF, anyF, intsOf_map, blsOf_map, dSl, dPart, dNoPart, sliceF, at0, at1, at2, at3, at4, ix0, ix1, ix2, ix3, Dn.g0, Dn.g1, Dn.g2, Dn.g3, Dn.g4, ex_some, decide_true, decide_false, Bool.not_true, Bool.not_false, ite_true, ite_false, if_true, if_false, List.reverse_cons, List.reverse_nil, outPost, wipeE, CTg.set, setAll, appF, extF, revF, popF, Nat.zero_add, Nat.reduceAdd, is_NoneType_int, is_NoneType_bool, is_NoneType_str, is_NoneType_tuple, is_NoneType_list, is_bool_int, is_bool_bool, is_bool_str, is_bool_tuple, is_bool_list, is_int_int, is_int_bool, is_int_str, is_int_tuple, is_int_list, is_str_int, is_str_bool, is_str_str, is_str_tuple, is_str_list, is_tuple_int, is_tuple_bool, is_tuple_str, is_tuple_tuple, is_tuple_list, is_list_int, is_list_bool, is_list_str, is_list_tuple, is_list_list, strF, dDct, repLF, is_dict_int, is_dict_bool, is_dict_str, is_dict_tuple, is_dict_list, is_dict_dict, is_NoneType_dict, is_bool_dict, is_int_dict, is_str_dict, is_tuple_dict, is_list_dict]
    refine useP_same (by unfold posB; rw [ht]; rfl) ?_
    exact rt_val rfl rfl

theorem ok__law_pairs_right (T : Txt K mg) : Ok P w K mg base 5 "_law_pairs_right" ["x"] (spP K mg sp__law_pairs_right) :=
  okOf T.d__law_pairs_right fun f fd F => fnP (k := 4) sp__law_pairs_right t__law_pairs_right F sc__law_pairs_right (fun x ds hp => len__law_pairs_right x ds hp) (fun cdv A outer s H E hr z => by
    have hu := hr.units; have hnd := sc__law_pairs_right.nd
    unfold t__law_pairs_right r__law_pairs_right_0 r__law_pairs_right_1 r__law_pairs_right_2
    exact (dss_cons (ds_set 1 hnd rfl (by walk_at "locs") (dn_callP ((ok__law_is_told (P := P) (w := w) (base := base) T).mono (by decide)) hr (takes_of rfl rfl rfl rfl) rfl (by decide) (da_cons (de_var 0 rfl (by walk_at "vis") (by decide) (by decide)) da_nil rfl) rfl rfl) rfl (by walk_at "fnn"))
    (dss_cons (ds_if (dw_pt (dw_or (dt_not (dt_tru (dn_callP ((ok__law_same (P := P) (w := w) (base := base) T 3).mono (by decide)) hr (takes_of rfl rfl rfl rfl) rfl (by decide) (da_cons (dn_callP ((ok_is_ratio (P := P) (w := w) (base := base) T).mono (by decide)) hr (takes_of rfl rfl rfl rfl) rfl (by decide) (da_cons (de_var 0 rfl (by walk_at "vis") (by decide) (by decide)) da_nil rfl) rfl rfl) (da_cons (dn_callP ((ok__law_is_ratio (P := P) (w := w) (base := base) T).mono (by decide)) hr (takes_of rfl rfl rfl rfl) rfl (by decide) (da_cons (de_var 0 rfl (by walk_at "vis") (by decide) (by decide)) da_nil rfl) rfl rfl) da_nil rfl) rfl) rfl rfl) (fun _ => rfl))) (dw_or1 (dt_not (dt_tru (dn_callP ((ok__law_same (P := P) (w := w) (base := base) T 3).mono (by decide)) hr (takes_of rfl rfl rfl rfl) rfl (by decide) (da_cons (dn_callP ((ok_is_told_ratio (P := P) (w := w) (base := base) T).mono (by decide)) hr (takes_of rfl rfl rfl rfl) rfl (by decide) (da_cons (de_var 0 rfl (by walk_at "vis") (by decide) (by decide)) da_nil rfl) rfl rfl) (da_cons (de_var 1 rfl (by walk_at "vis") (by decide) (by decide)) da_nil rfl) rfl) rfl rfl) (fun _ => rfl)))))) (dss_one (ds_ret de_bl)) dss_nil)
    (dss_one (ds_ret (dn_callP ((ok__law_same (P := P) (w := w) (base := base) T 3).mono (by decide)) hr (takes_of rfl rfl rfl rfl) rfl (by decide) (da_cons (dn_callP ((ok_is_positive (P := P) (w := w) (base := base) T).mono (by decide)) hr (takes_of rfl rfl rfl rfl) rfl (by decide) (da_cons (de_var 0 rfl (by walk_at "vis") (by decide) (by decide)) da_nil rfl) rfl rfl) (da_cons (de_and (de_var 1 rfl (by walk_at "vis") (by decide) (by decide)) (de_one (de_gt (de_ix (de_var 0 rfl (by walk_at "vis") (by decide) (by decide)) de_int (fun _ _ => rfl)) de_int))) da_nil rfl) rfl) rfl rfl)))))) w__law_pairs_right
/-! ### _law_is_form -/
def sp__law_is_form : Spc DN where
  pre := fun x ds => ds = [x.d, .int x.n] ∧ noA x.d = true
  res := fun x o => o = .val (.bl (tformB x.n x.d))
  exc := fun _ _ => False

def l1__law_is_form_0 : dS :=
  (sIf (dtOr (dtNot (dtTru (dCallP sp__law_whole (dCons (dVar 2) dNil)))) (dtOr (dtB (dOp ltF (dVar 2) (dUn negF (dC (.int 1000000000))))) (dtB (dOp gtF (dVar 2) (dC (.int 1000000000)))))) (sRet (dC (.bl false))) sNil)
def r__law_is_form_2 : dS :=
  (sRet (dC (.bl true)))
def r__law_is_form_1 : dS :=
  (sSeq (sFor (srcSeq (dVar 0)) (gN 2) (l1__law_is_form_0)) (r__law_is_form_2))
def r__law_is_form_0 : dS :=
  (sSeq (sIf (dtOr (dtNot (dtTru (dIsi "tuple" (dVar 0)))) (dtB (dOp neF (dCB lenF (dCons (dVar 0) dNil)) (dOp addF (dVar 1) (dC (.int 1)))))) (sRet (dC (.bl false))) sNil) (r__law_is_form_1))
def t__law_is_form : dS :=
  (r__law_is_form_0)
theorem tform_tup {n : Int} {es : List D} : tformB n (.tup es) = ((decide ((es.length : Int) = n + 1) && es.all isI') && es.all bndI) := rfl
theorem bnd_int {d : D} (h : bndI d = true) : isI' d = true := by
  cases d with
  | int i => rfl
  | _ => cases h
theorem len__law_is_form : ∀ x ds, sp__law_is_form.pre x ds → ds.length = 2 := fun x ds h => by rw [h.1]; rfl
theorem w__law_is_form : ∀ x ds, sp__law_is_form.pre x ds → t__law_is_form (endP sp__law_is_form x) (startE nm__law_is_form.length ds) [] := by
  rintro ⟨d, n⟩ ds ⟨rfl, hn⟩
  simp only at hn
  cases d with
  | tup es =>
    by_cases hl : (es.length : Int) = n + 1
    · simp only [t__law_is_form , r__law_is_form_0, r__law_is_form_1, nm__law_is_form, hl, dOp, dUn, dVar, dC, slot, startE, List.map, List.length, List.replicate, List.append, List.cons_append, List.nil_append, List.set, dAnd, dOr, dNot, dtB, dtAnd, dtOr, dtNot, dIf, dtTru, truF, dNil, dCons, dTup, dLst, dCB, sNil, sSeq, sRet, sRetN, sExpr, sIf, sAsg, gN, gT, gsNil, gsCons, gS, sPar, sAug, sWhile, sFor, sBrk, sCont, sNo, sRaise, dCallP_eq, dCallD_eq, List.length_map, List.getElem?_cons_succ, List.getElem?_concat_length, set_last, get_mid, get_mid2, eqF, neF, ltF, leF, gtF, geF, isF, notF, addF, subF, mulF, fdivF, modF, powF, negF, ixF, lenF, tupF, lstF, absF, intF, gcdF, maxF, minF, Rs.to, dIsi, dIsi2, dIsE, tyN, D.isNon, dM1, dM0, srcSeq, srcRng1, srcRng2, dLc, tYesD, iaddF, isBF, notBF, srcZip, srcEnumerate, repF, sumF, allF, anyF, intsOf_map, blsOf_map, dSl, dPart, dNoPart, sliceF, at0, at1, at2, at3, at4, ix0, ix1, ix2, ix3, Dn.g0, Dn.g1, Dn.g2, Dn.g3, Dn.g4, ex_some, decide_true, decide_false, Bool.not_true, Bool.not_false, ite_true, ite_false, if_true, if_false, List.reverse_cons, List.reverse_nil, outPost, wipeE, CTg.set, setAll, appF, extF, revF, popF, Nat.zero_add, Nat.reduceAdd, is_NoneType_int, is_NoneType_bool, is_NoneType_str, is_NoneType_tuple, is_NoneType_list, is_bool_int, is_bool_bool, is_bool_str, is_bool_tuple, is_bool_list, is_int_int, is_int_bool, is_int_str, is_int_tuple, is_int_list, is_str_int, is_str_bool, is_str_str, is_str_tuple, is_str_list, is_tuple_int, is_tuple_bool, is_tuple_str, is_tuple_tuple, is_tuple_list, is_list_int, is_list_bool, is_list_str, is_list_tuple, is_list_list, strF, dDct, repLF, is_dict_int, is_dict_bool, is_dict_str, is_dict_tuple, is_dict_list, is_dict_dict, is_NoneType_dict, is_bool_dict, is_int_dict, is_str_dict, is_tuple_dict, is_list_dict]
      refine ⟨fun i e h => (∃ u, e = [some (.tup es), some (.int n), u]) ∧ h = [] ∧ (es.take i).all bndI = true, ⟨⟨_, rfl⟩, rfl, rfl⟩, fun _ _ _ _ _ => trivial, ?_, ?_⟩
      · rintro i x e h hx ⟨⟨u, rfl⟩, rfl, ha⟩
        have hm := List.mem_of_getElem? hx
        have hx1 : noA x = true := by unfold noA at hn; exact noAs_mem hn hm
        have tk : (es.take (i + 1)).all bndI = bndI x := by
          rw [List.take_add_one, hx, List.all_append, ha]; simp
        have no : bndI x = false → es.all bndI = false := fun q => List.all_eq_false.mpr ⟨x, hm, by simp [q]⟩
        have fin : bndI x = false → (endP sp__law_is_form ⟨.tup es, n⟩).rt (.bl false) [] := fun q => rt_val rfl (by
          show _ = Out.val (.bl (tformB n (.tup es))); rw [tform_tup, no q]; simp)
        simp only [l1__law_is_form_0, dOp, dUn, dVar, dC, slot, startE, List.map, List.length, List.replicate, List.append, List.cons_append, List.nil_append, List.set, dAnd, dOr, dNot, dtB, dtAnd, dtOr, dtNot, dIf, dtTru, truF, dNil, dCons, dTup, dLst, dCB, sNil, sSeq, sRet, sRetN, sExpr, sIf, sAsg, gN, gT, gsNil, gsCons, gS, sPar, sAug, sWhile, sFor, sBrk, sCont, sNo, sRaise, dCallP_eq, dCallD_eq, List.length_map, List.getElem?_cons_succ, List.getElem?_concat_length, set_last, get_mid, get_mid2, eqF, neF, ltF, leF, gtF, geF, isF, notF, addF, subF, mulF, fdivF, modF, powF, negF, ixF, lenF, tupF, lstF, absF, intF, gcdF, maxF, minF, Rs.to, dIsi, dIsi2, dIsE, tyN, D.isNon, dM1, dM0, srcSeq, srcRng1, srcRng2, dLc, tYesD, iaddF, isBF, notBF, srcZip, srcEnumerate, repF, sumF, allF, anyF, intsOf_map, blsOf_map, dSl, dPart, dNoPart, sliceF, at0, at1, at2, at3, at4, ix0, ix1, ix2, ix3, Dn.g0, Dn.g1, Dn.g2, Dn.g3, Dn.g4, ex_some, decide_true, decide_false, Bool.not_true, Bool.not_false, ite_true, ite_false, if_true, if_false, List.reverse_cons, List.reverse_nil, outPost, wipeE, CTg.set, setAll, appF, extF, revF, popF, Nat.zero_add, Nat.reduceAdd, is_NoneType_int, is_NoneType_bool, is_NoneType_str, is_NoneType_tuple, is_NoneType_list, is_bool_int, is_bool_bool, is_bool_str, is_bool_tuple, is_bool_list, is_int_int, is_int_bool, is_int_str, is_int_tuple, is_int_list, is_str_int, is_str_bool, is_str_str, is_str_tuple, is_str_list, is_tuple_int, is_tuple_bool, is_tuple_str, is_tuple_tuple, is_tuple_list, is_list_int, is_list_bool, is_list_str, is_list_tuple, is_list_list, strF, dDct, repLF, is_dict_int, is_dict_bool, is_dict_str, is_dict_tuple, is_dict_list, is_dict_dict, is_NoneType_dict, is_bool_dict, is_int_dict, is_str_dict, is_tuple_dict, is_list_dict]
        refine useP_lwhole hx1 ?_
        cases hi : isI' x with
        | false =>
          simp only [dOp, dUn, dVar, dC, slot, startE, List.map, List.length, List.replicate, List.append, List.cons_append, List.nil_append, List.set, dAnd, dOr, dNot, dtB, dtAnd, dtOr, dtNot, dIf, dtTru, truF, dNil, dCons, dTup, dLst, dCB, sNil, sSeq, sRet, sRetN, sExpr, sIf, sAsg, gN, gT, gsNil, gsCons, gS, sPar, sAug, sWhile, sFor, sBrk, sCont, sNo, sRaise, dCallP_eq, dCallD_eq, List.length_map, List.getElem?_cons_succ, List.getElem?_concat_length, set_last, get_mid, get_mid2, eqF, neF, ltF, leF, gtF, geF, isF, notF, addF, subF, mulF, fdivF, modF, powF, negF, ixF, lenF, tupF, lstF, absF, intF, gcdF, maxF, minF, Rs.to, dIsi, dIsi2, dIsE, tyN, D.isNon, dM1, dM0, srcSeq, srcRng1, srcRng2, dLc, tYesD, iaddF, isBF, notBF, srcZip, srcEnumerate, repF, sumF, allF, anyF, intsOf_map, blsOf_map, dSl, dPart, dNoPart, sliceF, at0, at1, at2, at3, at4, ix0, ix1, ix2, ix3, Dn.g0, Dn.g1, Dn.g2, Dn.g3, Dn.g4, ex_some, decide_true, decide_false, Bool.not_true, Bool.not_false, ite_true, ite_false, if_true, if_false, List.reverse_cons, List.reverse_nil, outPost, wipeE, CTg.set, setAll, appF, extF, revF, popF, Nat.zero_add, Nat.reduceAdd, is_NoneType_int, is_NoneType_bool, is_NoneType_str, is_NoneType_tuple, is_NoneType_list, is_bool_int, is_bool_bool, is_bool_str, is_bool_tuple, is_bool_list, is_int_int, is_int_bool, is_int_str, is_int_tuple, is_int_list, is_str_int, is_str_bool, is_str_str, is_str_tuple, is_str_list, is_tuple_int, is_tuple_bool, is_tuple_str, is_tuple_tuple, is_tuple_list, is_list_int, is_list_bool, is_list_str, is_list_tuple, is_list_list, strF, dDct, repLF, is_dict_int, is_dict_bool, is_dict_str, is_dict_tuple, is_dict_list, is_dict_dict, is_NoneType_dict, is_bool_dict, is_int_dict, is_str_dict, is_tuple_dict, is_list_dict]
          exact fin (by cases hb : bndI x with
            | false => rfl
            | true => rw [bnd_int hb] at hi; cases hi)
        | true =>
          obtain ⟨j, rfl⟩ := isI_int hi
          by_cases h1 : j < -1000000000
          · simp only [h1, dOp, dUn, dVar, dC, slot, startE, List.map, List.length, List.replicate, List.append, List.cons_append, List.nil_append, List.set, dAnd, dOr, dNot, dtB, dtAnd, dtOr, dtNot, dIf, dtTru, truF, dNil, dCons, dTup, dLst, dCB, sNil, sSeq, sRet, sRetN, sExpr, sIf, sAsg, gN, gT, gsNil, gsCons, gS, sPar, sAug, sWhile, sFor, sBrk, sCont, sNo, sRaise, dCallP_eq, dCallD_eq, List.length_map, List.getElem?_cons_succ, List.getElem?_concat_length, set_last, get_mid, get_mid2, eqF, neF, ltF, leF, gtF, geF, isF, notF, addF, subF, mulF, fdivF, modF, powF, negF, ixF, lenF, tupF, lstF, absF, intF, gcdF, maxF, minF, Rs.to, dIsi, dIsi2, dIsE, tyN, D.isNon, dM1, dM0, srcSeq, srcRng1, srcRng2, dLc, tYesD, iaddF, isBF, notBF, srcZip, srcEnumerate, repF, sumF, allF, anyF, intsOf_map, blsOf_map, dSl, dPart, dNoPart, sliceF, at0, at1, at2, at3, at4, ix0, ix1, ix2, ix3, Dn.g0, Dn.g1, Dn.g2, Dn.g3, Dn.g4, ex_some, decide_true, decide_false, Bool.not_true, Bool.not_false, ite_true, ite_false, if_true, if_false, List.reverse_cons, List.reverse_nil, outPost, wipeE, CTg.set, setAll, appF, extF, revF, popF, Nat.zero_add, Nat.reduceAdd, is_NoneType_int, is_NoneType_bool, is_NoneType_str, is_NoneType_tuple, is_NoneType_list, is_bool_int, is_bool_bool, is_bool_str, is_bool_tuple, is_bool_list, is_int_int, is_int_bool, is_int_str, is_int_tuple, is_int_list, is_str_int, is_str_bool, is_str_str, is_str_tuple, is_str_list, is_tuple_int, is_tuple_bool, is_tuple_str, is_tuple_tuple, is_tuple_list, is_list_int, is_list_bool, is_list_str, is_list_tuple, is_list_list, strF, dDct, repLF, is_dict_int, is_dict_bool, is_dict_str, is_dict_tuple, is_dict_list, is_dict_dict, is_NoneType_dict, is_bool_dict, is_int_dict, is_str_dict, is_tuple_dict, is_list_dict]
            exact fin (decide_eq_false (by split <;> omega))
          · by_cases h2 : 1000000000 < j
            · simp only [h1, h2, dOp, dUn, dVar, dC, slot, startE, List.map, List.length, List.replicate, List.append, List.cons_append, List.nil_append, List.set, dAnd, dOr, dNot, dtB, dtAnd, dtOr, dtNot, dIf, dtTru, truF, dNil, dCons, dTup, dLst, dCB, sNil, sSeq, sRet, sRetN, sExpr, sIf, sAsg, gN, gT, gsNil, gsCons, gS, sPar, sAug, sWhile, sFor, sBrk, sCont, sNo, sRaise, dCallP_eq, dCallD_eq, List.length_map, List.getElem?_cons_succ, List.getElem?_concat_length, set_last, get_mid, get_mid2, eqF, neF, ltF, leF, gtF, geF, isF, notF, addF, subF, mulF, fdivF, modF, powF, negF, ixF, lenF, tupF, lstF, absF, intF, gcdF, maxF, minF, Rs.to, dIsi, dIsi2, dIsE, tyN, D.isNon, dM1, dM0, srcSeq, srcRng1, srcRng2, dLc, tYesD, iaddF, isBF, notBF, srcZip, srcEnumerate, repF, sumF, allF, anyF, intsOf_map, blsOf_map, dSl, dPart, dNoPart, sliceF, at0, at1, at2, at3, at4, ix0, ix1, ix2, ix3, Dn.g0, Dn.g1, Dn.g2, Dn.g3, Dn.g4, ex_some, decide_true, decide_false, Bool.not_true, Bool.not_false, ite_true, ite_false, if_true, if_false, List.reverse_cons, List.reverse_nil, outPost, wipeE, CTg.set, setAll, appF, extF, revF, popF, Nat.zero_add, Nat.reduceAdd, is_NoneType_int, is_NoneType_bool, is_NoneType_str, is_NoneType_tuple, is_NoneType_list, is_bool_int, is_bool_bool, is_bool_str, is_bool_tuple, is_bool_list, is_int_int, is_int_bool, is_int_str, is_int_tuple, is_int_list, is_str_int, is_str_bool, is_str_str, is_str_tuple, is_str_list, is_tuple_int, is_tuple_bool, is_tuple_str, is_tuple_tuple, is_tuple_list, is_list_int, is_list_bool, is_list_str, is_list_tuple, is_list_list, strF, dDct, repLF, is_dict_int, is_dict_bool, is_dict_str, is_dict_tuple, is_dict_list, is_dict_dict, is_NoneType_dict, is_bool_dict, is_int_dict, is_str_dict, is_tuple_dict, is_list_dict]
              exact fin (decide_eq_false (by split <;> omega))
            · simp only [h1, h2, dOp, dUn, dVar, dC, slot, startE, List.map, List.length, List.replicate, List.append, List.cons_append, List.nil_append, List.set, dAnd, dOr, dNot, dtB, dtAnd, dtOr, dtNot, dIf, dtTru, truF, dNil, dCons, dTup, dLst, dCB, sNil, sSeq, sRet, sRetN, sExpr, sIf, sAsg, gN, gT, gsNil, gsCons, gS, sPar, sAug, sWhile, sFor, sBrk, sCont, sNo, sRaise, dCallP_eq, dCallD_eq, List.length_map, List.getElem?_cons_succ, List.getElem?_concat_length, set_last, get_mid, get_mid2, eqF, neF, ltF, leF, gtF, geF, isF, notF, addF, subF, mulF, fdivF, modF, powF, negF, ixF, lenF, tupF, lstF, absF, intF, gcdF, maxF, minF, Rs.to, dIsi, dIsi2, dIsE, tyN, D.isNon, dM1, dM0, srcSeq, srcRng1, srcRng2, dLc, tYesD, iaddF, isBF, notBF, srcZip, srcEnumerate, repF, sumF, allF, anyF, intsOf_map, blsOf_map, dSl, dPart, dNoPart, sliceF, at0, at1, at2, at3, at4, ix0, ix1, ix2, ix3, Dn.g0, Dn.g1, Dn.g2, Dn.g3, Dn.g4, ex_some, decide_true, decide_false, Bool.not_true, Bool.not_false, ite_true, ite_false, if_true, if_false, List.reverse_cons, List.reverse_nil, outPost, wipeE, CTg.set, setAll, appF, extF, revF, popF, Nat.zero_add, Nat.reduceAdd, is_NoneType_int, is_NoneType_bool, is_NoneType_str, is_NoneType_tuple, is_NoneType_list, is_bool_int, is_bool_bool, is_bool_str, is_bool_tuple, is_bool_list, is_int_int, is_int_bool, is_int_str, is_int_tuple, is_int_list, is_str_int, is_str_bool, is_str_str, is_str_tuple, is_str_list, is_tuple_int, is_tuple_bool, is_tuple_str, is_tuple_tuple, is_tuple_list, is_list_int, is_list_bool, is_list_str, is_list_tuple, is_list_list, strF, dDct, repLF, is_dict_int, is_dict_bool, is_dict_str, is_dict_tuple, is_dict_list, is_dict_dict, is_NoneType_dict, is_bool_dict, is_int_dict, is_str_dict, is_tuple_dict, is_list_dict]
              exact ⟨⟨_, rfl⟩, trivial, by rw [tk]; exact decide_eq_true (by split <;> omega)⟩
      · rintro e h ⟨⟨u, rfl⟩, rfl, ha⟩
        rw [List.take_length] at ha
        simp only [r__law_is_form_2, dOp, dUn, dVar, dC, slot, startE, List.map, List.length, List.replicate, List.append, List.cons_append, List.nil_append, List.set, dAnd, dOr, dNot, dtB, dtAnd, dtOr, dtNot, dIf, dtTru, truF, dNil, dCons, dTup, dLst, dCB, sNil, sSeq, sRet, sRetN, sExpr, sIf, sAsg, gN, gT, gsNil, gsCons, gS, sPar, sAug, sWhile, sFor, sBrk, sCont, sNo, sRaise, dCallP_eq, dCallD_eq, List.length_map, List.getElem?_cons_succ, List.getElem?_concat_length, set_last, get_mid, get_mid2, eqF, neF, ltF, leF, gtF, geF, isF, notF, addF, subF, mulF, fdivF, modF, powF, negF, ixF, lenF, tupF, lstF, absF, intF, gcdF, maxF, minF, Rs.to, dIsi, dIsi2, dIsE, tyN, D.isNon, dM1, dM0, srcSeq, srcRng1, srcRng2, dLc, tYesD, iaddF, isBF, notBF, srcZip, srcEnumerate, repF, sumF, allF, anyF, intsOf_map, blsOf_map, dSl, dPart, dNoPart, sliceF, at0, at1, at2, at3, at4, ix0, ix1, ix2, ix3, Dn.g0, Dn.g1, Dn.g2, Dn.g3, Dn.g4, ex_some, decide_true, decide_false, Bool.not_true, Bool.not_false, ite_true, ite_false, if_true, if_false, List.reverse_cons, List.reverse_nil, outPost, wipeE, CTg.set, setAll, appF, extF, revF, popF, Nat.zero_add, Nat.reduceAdd, is_NoneType_int, is_NoneType_bool, is_NoneType_str, is_NoneType_tuple, is_NoneType_list, is_bool_int, is_bool_bool, is_bool_str, is_bool_tuple, is_bool_list, is_int_int, is_int_bool, is_int_str, is_int_tuple, is_int_list, is_str_int, is_str_bool, is_str_str, is_str_tuple, is_str_list, is_tuple_int, is_tuple_bool, is_tuple_str, is_tuple_tuple, is_tuple_list, is_list_int, is_list_bool, is_list_str, is_list_tuple, is_list_list, strF, dDct, repLF, is_dict_int, is_dict_bool, is_dict_str, is_dict_tuple, is_dict_list, is_dict_dict, is_NoneType_dict, is_bool_dict, is_int_dict, is_str_dict, is_tuple_dict, is_list_dict]
        have hi : es.all isI' = true := List.all_eq_true.mpr fun y hy => bnd_int (List.all_eq_true.mp ha y hy)
        exact rt_val rfl (by show _ = Out.val (.bl (tformB n (.tup es))); rw [tform_tup, ha, hi, decide_eq_true hl]; rfl)
    · simp only [t__law_is_form , r__law_is_form_0, nm__law_is_form, hl, dOp, dUn, dVar, dC, slot, startE, List.map, List.length, List.replicate, List.append, List.cons_append, List.nil_append, List.set, dAnd, dOr, dNot, dtB, dtAnd, dtOr, dtNot, dIf, dtTru, truF, dNil, dCons, dTup, dLst, dCB, sNil, sSeq, sRet, sRetN, sExpr, sIf, sAsg, gN, gT, gsNil, gsCons, gS, sPar, sAug, sWhile, sFor, sBrk, sCont, sNo, sRaise, dCallP_eq, dCallD_eq, List.length_map, List.getElem?_cons_succ, List.getElem?_concat_length, set_last, get_mid, get_mid2, eqF, neF, ltF, leF, gtF, geF, isF, notF, addF, subF, mulF, fdivF, modF, powF, negF, ixF, lenF, tupF, lstF, absF, intF, gcdF, maxF, minF, Rs.to, dIsi, dIsi2, dIsE, tyN, D.isNon, dM1, dM0, srcSeq, srcRng1, srcRng2, dLc, tYesD, iaddF, isBF, notBF, srcZip, srcEnumerate, repF, sumF, allF, anyF, intsOf_map, blsOf_map, dSl, dPart, dNoPart, sliceF, at0, at1, at2, at3, at4, ix0, ix1, ix2, ix3, Dn.g0, Dn.g1, Dn.g2, Dn.g3, Dn.g4, ex_some, decide_true, decide_false, Bool.not_true, Bool.not_false, ite_true, ite_false, if_true, if_false, List.reverse_cons, List.reverse_nil, outPost, wipeE, CTg.set, setAll, appF, extF, revF, popF, Nat.zero_add, Nat.reduceAdd, is_NoneType_int, is_NoneType_bool, is_NoneType_str, is_NoneType_tuple, is_NoneType_list, is_bool_int, is_bool_bool, is_bool_str, is_bool_tuple, is_bool_list, is_int_int, is_int_bool, is_int_str, is_int_tuple, is_int_list, is_str_int, is_str_bool, is_str_str, is_str_tuple, is_str_list, is_tuple_int, is_tuple_bool, is_tuple_str, is_tuple_tuple, is_tuple_list, is_list_int, is_list_bool, is_list_str, is_list_tuple, is_list_list, strF, dDct, repLF, is_dict_int, is_dict_bool, is_dict_str, is_dict_tuple, is_dict_list, is_dict_dict, is_NoneType_dict, is_bool_dict, is_int_dict, is_str_dict, is_tuple_dict, is_list_dict]
      exact rt_val rfl (by show _ = Out.val (.bl (tformB n (.tup es))); rw [tform_tup, decide_eq_false hl]; rfl)
  | ref j => unfold noA at hn; cases hn
  | adr j => unfold noA at hn; cases hn
  | box t j => cases t with
    | dct => simp only [t__law_is_form , r__law_is_form_0, nm__law_is_form, dOp, dUn, dVar, dC, slot, startE, List.map, List.length, List.replicate, List.append, List.cons_append, List.nil_append, List.set, dAnd, dOr, dNot, dtB, dtAnd, dtOr, dtNot, dIf, dtTru, truF, dNil, dCons, dTup, dLst, dCB, sNil, sSeq, sRet, sRetN, sExpr, sIf, sAsg, gN, gT, gsNil, gsCons, gS, sPar, sAug, sWhile, sFor, sBrk, sCont, sNo, sRaise, dCallP_eq, dCallD_eq, List.length_map, List.getElem?_cons_succ, List.getElem?_concat_length, set_last, get_mid, get_mid2, eqF, neF, ltF, leF, gtF, geF, isF, notF, addF, subF, mulF, fdivF, modF, powF, negF, ixF, lenF, tupF, lstF, absF, intF, gcdF, maxF, minF, Rs.to, dIsi, dIsi2, dIsE, tyN, D.isNon, dM1, dM0, srcSeq, srcRng1, srcRng2, dLc, tYesD, iaddF, isBF, notBF, srcZip, srcEnumerate, repF, sumF, allF, anyF, intsOf_map, blsOf_map, dSl, dPart, dNoPart, sliceF, at0, at1, at2, at3, at4, ix0, ix1, ix2, ix3, Dn.g0, Dn.g1, Dn.g2, Dn.g3, Dn.g4, ex_some, decide_true, decide_false, Bool.not_true, Bool.not_false, ite_true, ite_false, if_true, if_false, List.reverse_cons, List.reverse_nil, outPost, wipeE, CTg.set, setAll, appF, extF, revF, popF, Nat.zero_add, Nat.reduceAdd, is_NoneType_int, is_NoneType_bool, is_NoneType_str, is_NoneType_tuple, is_NoneType_list, is_bool_int, is_bool_bool, is_bool_str, is_bool_tuple, is_bool_list, is_int_int, is_int_bool, is_int_str, is_int_tuple, is_int_list, is_str_int, is_str_bool, is_str_str, is_str_tuple, is_str_list, is_tuple_int, is_tuple_bool, is_tuple_str, is_tuple_tuple, is_tuple_list, is_list_int, is_list_bool, is_list_str, is_list_tuple, is_list_list, strF, dDct, repLF, is_dict_int, is_dict_bool, is_dict_str, is_dict_tuple, is_dict_list, is_dict_dict, is_NoneType_dict, is_bool_dict, is_int_dict, is_str_dict, is_tuple_dict, is_list_dict]; exact rt_val rfl rfl
    | ins C fs => unfold noA at hn; cases hn
  | _ =>
    simp only [t__law_is_form , r__law_is_form_0, nm__law_is_form, dOp, dUn, dVar, dC, slot, startE, List.map, List.length, List.replicate, List.append, List.cons_append, List.nil_append, List.set, dAnd, dOr, dNot, dtB, dtAnd, dtOr, dtNot, dIf, dtTru, truF, dNil, dCons, dTup, dLst, dCB, sNil, sSeq, sRet, sRetN, sExpr, sIf, sAsg, gN, gT, gsNil, gsCons, gS, sPar, sAug, sWhile, sFor, sBrk, sCont, sNo, sRaise, dCallP_eq, dCallD_eq, List.length_map, List.getElem?_cons_succ, List.getElem?_concat_length, set_last, get_mid, get_mid2, eqF, neF, ltF, leF, gtF, geF, isF, notF, addF, subF, mulF, fdivF, modF, powF, negF, ixF, lenF, tupF, lstF, absF, intF, gcdF, maxF, minF, Rs.to, dIsi, dIsi2, dIsE, tyN, D.isNon, dM1, dM0, srcSeq, srcRng1, srcRng2, dLc, tYesD, iaddF, isBF, notBF, srcZip, srcEnumerate, repF, sumF, allF, anyF, intsOf_map, blsOf_map, dSl, dPart, dNoPart, sliceF, at0, at1, at2, at3, at4, ix0, ix1, ix2, ix3, Dn.g0, Dn.g1, Dn.g2, Dn.g3, Dn.g4, ex_some, decide_true, decide_false, Bool.not_true, Bool.not_false, ite_true, ite_false, if_true, if_false, List.reverse_cons, List.reverse_nil, outPost, wipeE, CTg.set, setAll, appF, extF, revF, popF, Nat.zero_add, Nat.reduceAdd, is_NoneType_int, is_NoneType_bool, is_NoneType_str, is_NoneType_tuple, is_NoneType_list, is_bool_int, is_bool_bool, is_bool_str, is_bool_tuple, is_bool_list, is_int_int, is_int_bool, is_int_str, is_int_tuple, is_int_list, is_str_int, is_str_bool, is_str_str, is_str_tuple, is_str_list, is_tuple_int, is_tuple_bool, is_tuple_str, is_tuple_tuple, is_tuple_list, is_list_int, is_list_bool, is_list_str, is_list_tuple, is_list_list, strF, dDct, repLF, is_dict_int, is_dict_bool, is_dict_str, is_dict_tuple, is_dict_list, is_dict_dict, is_NoneType_dict, is_bool_dict, is_int_dict, is_str_dict, is_tuple_dict, is_list_dict]
    exact rt_val rfl rfl

theorem ok__law_is_form (T : Txt K mg) : Ok P w K mg base 2 "_law_is_form" ["x", "size"] (spP K mg sp__law_is_form) :=
  okOf T.d__law_is_form fun f fd F => fnP (k := 1) sp__law_is_form t__law_is_form F sc__law_is_form (fun x ds hp => len__law_is_form x ds hp) (fun cdv A outer s H E hr z => by
    have hu := hr.units; have hnd := sc__law_is_form.nd
    unfold t__law_is_form r__law_is_form_0 r__law_is_form_1 r__law_is_form_2 l1__law_is_form_0
    exact (dss_cons (ds_if (dw_pt (dw_or (dt_not (dt_tru (de_isi kit_tuple rfl T.b_isinstance rfl T.b_tuple (by decide +kernel) (by decide) (by decide) (de_var 0 rfl (by walk_at "vis") (by decide) (by decide)) rfl rfl rfl) (fun _ => rfl))) (dw_or1 (dt_cmp (op_neA hu) od_ne (de_callB (f := lenF) call_len_seq cd_len rfl T.b_len (by decide +kernel) (da_cons (de_var 0 rfl (by walk_at "vis") (by decide) (by decide)) da_nil rfl) (by decide) (by decide) rfl rfl) (de_add (de_var 1 rfl (by walk_at "vis") (by decide) (by decide)) de_int) (nomark _))))) (dss_one (ds_ret de_bl)) dss_nil)
    (dss_cons (ds_for (passes_of (K := fun e s'' => L2.CX P w outer H s E e s'') (E₁ := fun e s'' => L2.CX P w outer H s E e s'') rfl) rfl (di_seq (de_var 0 rfl (by walk_at "vis") (by decide) (by decide))) (dg_name 2 hnd rfl (by walk_at "locs") (by walk_at "fnn")) (dss_one (ds_if (dw_pt (dw_or (dt_not (dt_tru (dn_callP ((ok__law_whole (P := P) (w := w) (base := base) T).mono (by decide)) hr (takes_of rfl rfl rfl rfl) rfl (by decide) (da_cons (de_var 2 rfl (by walk_at "vis") (by decide) (by decide)) da_nil rfl) rfl rfl) (fun _ => rfl))) (dw_or (dt_cmp op_lt od_lt (de_var 2 rfl (by walk_at "vis") (by decide) (by decide)) (de_neg de_int) (nomark _)) (dw_or1 (dt_cmp op_gt od_gt (de_var 2 rfl (by walk_at "vis") (by decide) (by decide)) de_int (nomark _)))))) (dss_one (ds_ret de_bl)) dss_nil)) (fun _ => rfl))
    (dss_one (ds_ret de_bl))))) w__law_is_form
/-! ### _law_is_point -/
def sp__law_is_point : Spc DN where
  pre := fun x ds => ds = [x.d, .int x.n] ∧ noA x.d = true ∧ 0 ≤ x.n ∧ x.n ≤ 90 ∧ ∀ L : List Int, x.d = tI L → Lb 8000 L
  res := fun x o => o = .val (.bl (tptB x.n x.d))
  exc := fun _ _ => False

def l1__law_is_point_1 : dS :=
  (sAsg (dCallP sp__law_gcd (dCons (dVar 2) (dCons (dVar 3) dNil))) (gN 2))
def l1__law_is_point_0 : dS :=
  (sSeq (sIf (dtNot (dtTru (dCallP sp__law_whole (dCons (dVar 3) dNil)))) (sRet (dC (.bl false))) sNil) (l1__law_is_point_1))
def l2__law_is_point_0 : dS :=
  (sIf (dtNot (dtTru (dCallP sp__law_is_told (dCons (dVar 4) dNil)))) (sRet (dC (.bl false))) sNil)
def r__law_is_point_5 : dS :=
  (sRet (dC (.bl true)))
def r__law_is_point_4 : dS :=
  (sSeq (sFor (srcSeq (dCallP sp__law_coords (dCons (dVar 0) dNil))) (gN 4) (l2__law_is_point_0)) (r__law_is_point_5))
def r__law_is_point_3 : dS :=
  (sSeq (sIf (dtOr (dtB (dOp neF (dVar 2) (dC (.int 1)))) (dtB (dOp ltF (dOp ixF (dVar 0) (dUn negF (dC (.int 1)))) (dC (.int 1))))) (sRet (dC (.bl false))) sNil) (r__law_is_point_4))
def r__law_is_point_2 : dS :=
  (sSeq (sFor (srcSeq (dVar 0)) (gN 3) (l1__law_is_point_0)) (r__law_is_point_3))
def r__law_is_point_1 : dS :=
  (sSeq (sAsg (dC (.int 0)) (gN 2)) (r__law_is_point_2))
def r__law_is_point_0 : dS :=
  (sSeq (sIf (dtOr (dtNot (dtTru (dIsi "tuple" (dVar 0)))) (dtB (dOp neF (dCB lenF (dCons (dVar 0) dNil)) (dOp addF (dVar 1) (dC (.int 1)))))) (sRet (dC (.bl false))) sNil) (r__law_is_point_1))
def t__law_is_point : dS :=
  (r__law_is_point_0)
theorem len__law_is_point : ∀ x ds, sp__law_is_point.pre x ds → ds.length = 2 := fun x ds h => by rw [h.1]; rfl
theorem is_point_tail {L : List Int} {r n : Int} (hl : (L.length : Int) = n) (r1 : 1 ≤ r) (hg : gcdL (L ++ [r]) = 1) (lb : Lb 8000 (L ++ [r])) {u : Option D} : r__law_is_point_4 (endP sp__law_is_point ⟨tI (L ++ [r]), n⟩) [some (tI (L ++ [r])), some (.int n), some (.int 1), u, none] [] := by
  have ey := tptB_yes (r := r) hl
  rw [decide_eq_true r1, decide_eq_true hg, Bool.true_and, Bool.true_and] at ey
  simp only [r__law_is_point_4, dOp, dUn, dVar, dC, slot, startE, List.map, List.length, List.replicate, List.append, List.cons_append, List.nil_append, List.set, dAnd, dOr, dNot, dtB, dtAnd, dtOr, dtNot, dIf, dtTru, truF, dNil, dCons, dTup, dLst, dCB, sNil, sSeq, sRet, sRetN, sExpr, sIf, sAsg, gN, gT, gsNil, gsCons, gS, sPar, sAug, sWhile, sFor, sBrk, sCont, sNo, sRaise, dCallP_eq, dCallD_eq, List.length_map, List.getElem?_cons_succ, List.getElem?_concat_length, set_last, get_mid, get_mid2, eqF, neF, ltF, leF, gtF, geF, isF, notF, addF, subF, mulF, fdivF, modF, powF, negF, ixF, lenF, tupF, lstF, absF, intF, gcdF, maxF, minF, Rs.to, dIsi, dIsi2, dIsE, tyN, D.isNon, dM1, dM0, srcSeq, srcRng1, srcRng2, dLc, tYesD, iaddF, isBF, notBF, srcZip, srcEnumerate, repF, sumF, allF, anyF, intsOf_map, blsOf_map, dSl, dPart, dNoPart, sliceF, at0, at1, at2, at3, at4, ix0, ix1, ix2, ix3, Dn.g0, Dn.g1, Dn.g2, Dn.g3, Dn.g4, ex_some, decide_true, decide_false, Bool.not_true, Bool.not_false, ite_true, ite_false, if_true, if_false, List.reverse_cons, List.reverse_nil, outPost, wipeE, CTg.set, setAll, appF, extF, revF, popF, Nat.zero_add, Nat.reduceAdd, is_NoneType_int, is_NoneType_bool, is_NoneType_str, is_NoneType_tuple, is_NoneType_list, is_bool_int, is_bool_bool, is_bool_str, is_bool_tuple, is_bool_list, is_int_int, is_int_bool, is_int_str, is_int_tuple, is_int_list, is_str_int, is_str_bool, is_str_str, is_str_tuple, is_str_list, is_tuple_int, is_tuple_bool, is_tuple_str, is_tuple_tuple, is_tuple_list, is_list_int, is_list_bool, is_list_str, is_list_tuple, is_list_list, strF, dDct, repLF, is_dict_int, is_dict_bool, is_dict_str, is_dict_tuple, is_dict_list, is_dict_dict, is_NoneType_dict, is_bool_dict, is_int_dict, is_str_dict, is_tuple_dict, is_list_dict]
  refine useP_mk (L, r) _ (Views.pures (by simp only [pureDs, pureD, ints_pure]; rfl)) ⟨rfl, (show r ≠ 0 by omega), lb⟩ (fun o ho _ => ?_) (fun _ q => q)
  rw [ho]
  simp only [List.getElem?_cons_zero, dOp, dUn, dVar, dC, slot, startE, List.map, List.length, List.replicate, List.append, List.cons_append, List.nil_append, List.set, dAnd, dOr, dNot, dtB, dtAnd, dtOr, dtNot, dIf, dtTru, truF, dNil, dCons, dTup, dLst, dCB, sNil, sSeq, sRet, sRetN, sExpr, sIf, sAsg, gN, gT, gsNil, gsCons, gS, sPar, sAug, sWhile, sFor, sBrk, sCont, sNo, sRaise, dCallP_eq, dCallD_eq, List.length_map, List.getElem?_cons_succ, List.getElem?_concat_length, set_last, get_mid, get_mid2, eqF, neF, ltF, leF, gtF, geF, isF, notF, addF, subF, mulF, fdivF, modF, powF, negF, ixF, lenF, tupF, lstF, absF, intF, gcdF, maxF, minF, Rs.to, dIsi, dIsi2, dIsE, tyN, D.isNon, dM1, dM0, srcSeq, srcRng1, srcRng2, dLc, tYesD, iaddF, isBF, notBF, srcZip, srcEnumerate, repF, sumF, allF, anyF, intsOf_map, blsOf_map, dSl, dPart, dNoPart, sliceF, at0, at1, at2, at3, at4, ix0, ix1, ix2, ix3, Dn.g0, Dn.g1, Dn.g2, Dn.g3, Dn.g4, ex_some, decide_true, decide_false, Bool.not_true, Bool.not_false, ite_true, ite_false, if_true, if_false, List.reverse_cons, List.reverse_nil, outPost, wipeE, CTg.set, setAll, appF, extF, revF, popF, Nat.zero_add, Nat.reduceAdd, is_NoneType_int, is_NoneType_bool, is_NoneType_str, is_NoneType_tuple, is_NoneType_list, is_bool_int, is_bool_bool, is_bool_str, is_bool_tuple, is_bool_list, is_int_int, is_int_bool, is_int_str, is_int_tuple, is_int_list, is_str_int, is_str_bool, is_str_str, is_str_tuple, is_str_list, is_tuple_int, is_tuple_bool, is_tuple_str, is_tuple_tuple, is_tuple_list, is_list_int, is_list_bool, is_list_str, is_list_tuple, is_list_list, strF, dDct, repLF, is_dict_int, is_dict_bool, is_dict_str, is_dict_tuple, is_dict_list, is_dict_dict, is_NoneType_dict, is_bool_dict, is_int_dict, is_str_dict, is_tuple_dict, is_list_dict]
  refine ⟨fun i e h => (∃ u v, e = [some (tI (L ++ [r])), some (.int n), some (.int 1), u, v]) ∧ h = [.lst (L.map fun y => rt y r)] ∧ ((L.take i).all fun x => toldB (rt x r)) = true, ⟨⟨_, _, rfl⟩, rfl, rfl⟩, ?_, ?_, ?_⟩
  · rintro i e h hi ⟨_, rfl, _⟩
    rfl
  · rintro i x e h hx ⟨⟨u, v, rfl⟩, rfl, ha⟩
    have hil : i < L.length := by have := (List.getElem?_eq_some_iff.mp hx).1; rwa [List.length_map] at this
    have ex : x = rt (L.getD i 0) r := by
      rw [List.getElem?_map, List.getElem?_eq_getElem hil] at hx
      injection hx with hx
      rw [← hx, List.getD_eq_getElem?_getD, List.getElem?_eq_getElem hil]; rfl
    subst ex
    simp only [l2__law_is_point_0, dOp, dUn, dVar, dC, slot, startE, List.map, List.length, List.replicate, List.append, List.cons_append, List.nil_append, List.set, dAnd, dOr, dNot, dtB, dtAnd, dtOr, dtNot, dIf, dtTru, truF, dNil, dCons, dTup, dLst, dCB, sNil, sSeq, sRet, sRetN, sExpr, sIf, sAsg, gN, gT, gsNil, gsCons, gS, sPar, sAug, sWhile, sFor, sBrk, sCont, sNo, sRaise, dCallP_eq, dCallD_eq, List.length_map, List.getElem?_cons_succ, List.getElem?_concat_length, set_last, get_mid, get_mid2, eqF, neF, ltF, leF, gtF, geF, isF, notF, addF, subF, mulF, fdivF, modF, powF, negF, ixF, lenF, tupF, lstF, absF, intF, gcdF, maxF, minF, Rs.to, dIsi, dIsi2, dIsE, tyN, D.isNon, dM1, dM0, srcSeq, srcRng1, srcRng2, dLc, tYesD, iaddF, isBF, notBF, srcZip, srcEnumerate, repF, sumF, allF, anyF, intsOf_map, blsOf_map, dSl, dPart, dNoPart, sliceF, at0, at1, at2, at3, at4, ix0, ix1, ix2, ix3, Dn.g0, Dn.g1, Dn.g2, Dn.g3, Dn.g4, ex_some, decide_true, decide_false, Bool.not_true, Bool.not_false, ite_true, ite_false, if_true, if_false, List.reverse_cons, List.reverse_nil, outPost, wipeE, CTg.set, setAll, appF, extF, revF, popF, Nat.zero_add, Nat.reduceAdd, is_NoneType_int, is_NoneType_bool, is_NoneType_str, is_NoneType_tuple, is_NoneType_list, is_bool_int, is_bool_bool, is_bool_str, is_bool_tuple, is_bool_list, is_int_int, is_int_bool, is_int_str, is_int_tuple, is_int_list, is_str_int, is_str_bool, is_str_str, is_str_tuple, is_str_list, is_tuple_int, is_tuple_bool, is_tuple_str, is_tuple_tuple, is_tuple_list, is_list_int, is_list_bool, is_list_str, is_list_tuple, is_list_list, strF, dDct, repLF, is_dict_int, is_dict_bool, is_dict_str, is_dict_tuple, is_dict_list, is_dict_dict, is_NoneType_dict, is_bool_dict, is_int_dict, is_str_dict, is_tuple_dict, is_list_dict]
    refine useP_ltold rfl ?_
    cases ht : toldB (rt (L.getD i 0) r) with
    | false =>
      simp only [dOp, dUn, dVar, dC, slot, startE, List.map, List.length, List.replicate, List.append, List.cons_append, List.nil_append, List.set, dAnd, dOr, dNot, dtB, dtAnd, dtOr, dtNot, dIf, dtTru, truF, dNil, dCons, dTup, dLst, dCB, sNil, sSeq, sRet, sRetN, sExpr, sIf, sAsg, gN, gT, gsNil, gsCons, gS, sPar, sAug, sWhile, sFor, sBrk, sCont, sNo, sRaise, dCallP_eq, dCallD_eq, List.length_map, List.getElem?_cons_succ, List.getElem?_concat_length, set_last, get_mid, get_mid2, eqF, neF, ltF, leF, gtF, geF, isF, notF, addF, subF, mulF, fdivF, modF, powF, negF, ixF, lenF, tupF, lstF, absF, intF, gcdF, maxF, minF, Rs.to, dIsi, dIsi2, dIsE, tyN, D.isNon, dM1, dM0, srcSeq, srcRng1, srcRng2, dLc, tYesD, iaddF, isBF, notBF, srcZip, srcEnumerate, repF, sumF, allF, anyF, intsOf_map, blsOf_map, dSl, dPart, dNoPart, sliceF, at0, at1, at2, at3, at4, ix0, ix1, ix2, ix3, Dn.g0, Dn.g1, Dn.g2, Dn.g3, Dn.g4, ex_some, decide_true, decide_false, Bool.not_true, Bool.not_false, ite_true, ite_false, if_true, if_false, List.reverse_cons, List.reverse_nil, outPost, wipeE, CTg.set, setAll, appF, extF, revF, popF, Nat.zero_add, Nat.reduceAdd, is_NoneType_int, is_NoneType_bool, is_NoneType_str, is_NoneType_tuple, is_NoneType_list, is_bool_int, is_bool_bool, is_bool_str, is_bool_tuple, is_bool_list, is_int_int, is_int_bool, is_int_str, is_int_tuple, is_int_list, is_str_int, is_str_bool, is_str_str, is_str_tuple, is_str_list, is_tuple_int, is_tuple_bool, is_tuple_str, is_tuple_tuple, is_tuple_list, is_list_int, is_list_bool, is_list_str, is_list_tuple, is_list_list, strF, dDct, repLF, is_dict_int, is_dict_bool, is_dict_str, is_dict_tuple, is_dict_list, is_dict_dict, is_NoneType_dict, is_bool_dict, is_int_dict, is_str_dict, is_tuple_dict, is_list_dict]
      refine rt_val rfl ?_
      show _ = Out.val (.bl (tptB n (tI (L ++ [r]))))
      rw [ey, List.all_eq_false.mpr ⟨L.getD i 0, by rw [List.getD_eq_getElem?_getD, List.getElem?_eq_getElem hil]; exact List.getElem_mem hil, by rw [ht]; simp⟩]
    | true =>
      simp only [dOp, dUn, dVar, dC, slot, startE, List.map, List.length, List.replicate, List.append, List.cons_append, List.nil_append, List.set, dAnd, dOr, dNot, dtB, dtAnd, dtOr, dtNot, dIf, dtTru, truF, dNil, dCons, dTup, dLst, dCB, sNil, sSeq, sRet, sRetN, sExpr, sIf, sAsg, gN, gT, gsNil, gsCons, gS, sPar, sAug, sWhile, sFor, sBrk, sCont, sNo, sRaise, dCallP_eq, dCallD_eq, List.length_map, List.getElem?_cons_succ, List.getElem?_concat_length, set_last, get_mid, get_mid2, eqF, neF, ltF, leF, gtF, geF, isF, notF, addF, subF, mulF, fdivF, modF, powF, negF, ixF, lenF, tupF, lstF, absF, intF, gcdF, maxF, minF, Rs.to, dIsi, dIsi2, dIsE, tyN, D.isNon, dM1, dM0, srcSeq, srcRng1, srcRng2, dLc, tYesD, iaddF, isBF, notBF, srcZip, srcEnumerate, repF, sumF, allF, anyF, intsOf_map, blsOf_map, dSl, dPart, dNoPart, sliceF, at0, at1, at2, at3, at4, ix0, ix1, ix2, ix3, Dn.g0, Dn.g1, Dn.g2, Dn.g3, Dn.g4, ex_some, decide_true, decide_false, Bool.not_true, Bool.not_false, ite_true, ite_false, if_true, if_false, List.reverse_cons, List.reverse_nil, outPost, wipeE, CTg.set, setAll, appF, extF, revF, popF, Nat.zero_add, Nat.reduceAdd, is_NoneType_int, is_NoneType_bool, is_NoneType_str, is_NoneType_tuple, is_NoneType_list, is_bool_int, is_bool_bool, is_bool_str, is_bool_tuple, is_bool_list, is_int_int, is_int_bool, is_int_str, is_int_tuple, is_int_list, is_str_int, is_str_bool, is_str_str, is_str_tuple, is_str_list, is_tuple_int, is_tuple_bool, is_tuple_str, is_tuple_tuple, is_tuple_list, is_list_int, is_list_bool, is_list_str, is_list_tuple, is_list_list, strF, dDct, repLF, is_dict_int, is_dict_bool, is_dict_str, is_dict_tuple, is_dict_list, is_dict_dict, is_NoneType_dict, is_bool_dict, is_int_dict, is_str_dict, is_tuple_dict, is_list_dict]
      refine ⟨⟨_, _, rfl⟩, trivial, ?_⟩
      rw [take_at hil, List.all_append, ha, List.all_cons, ht]; rfl
  · rintro e h ⟨⟨u, v, rfl⟩, rfl, ha⟩
    simp only [List.length_map, List.take_length] at ha
    simp only [r__law_is_point_5, dOp, dUn, dVar, dC, slot, startE, List.map, List.length, List.replicate, List.append, List.cons_append, List.nil_append, List.set, dAnd, dOr, dNot, dtB, dtAnd, dtOr, dtNot, dIf, dtTru, truF, dNil, dCons, dTup, dLst, dCB, sNil, sSeq, sRet, sRetN, sExpr, sIf, sAsg, gN, gT, gsNil, gsCons, gS, sPar, sAug, sWhile, sFor, sBrk, sCont, sNo, sRaise, dCallP_eq, dCallD_eq, List.length_map, List.getElem?_cons_succ, List.getElem?_concat_length, set_last, get_mid, get_mid2, eqF, neF, ltF, leF, gtF, geF, isF, notF, addF, subF, mulF, fdivF, modF, powF, negF, ixF, lenF, tupF, lstF, absF, intF, gcdF, maxF, minF, Rs.to, dIsi, dIsi2, dIsE, tyN, D.isNon, dM1, dM0, srcSeq, srcRng1, srcRng2, dLc, tYesD, iaddF, isBF, notBF, srcZip, srcEnumerate, repF, sumF, allF, anyF, intsOf_map, blsOf_map, dSl, dPart, dNoPart, sliceF, at0, at1, at2, at3, at4, ix0, ix1, ix2, ix3, Dn.g0, Dn.g1, Dn.g2, Dn.g3, Dn.g4, ex_some, decide_true, decide_false, Bool.not_true, Bool.not_false, ite_true, ite_false, if_true, if_false, List.reverse_cons, List.reverse_nil, outPost, wipeE, CTg.set, setAll, appF, extF, revF, popF, Nat.zero_add, Nat.reduceAdd, is_NoneType_int, is_NoneType_bool, is_NoneType_str, is_NoneType_tuple, is_NoneType_list, is_bool_int, is_bool_bool, is_bool_str, is_bool_tuple, is_bool_list, is_int_int, is_int_bool, is_int_str, is_int_tuple, is_int_list, is_str_int, is_str_bool, is_str_str, is_str_tuple, is_str_list, is_tuple_int, is_tuple_bool, is_tuple_str, is_tuple_tuple, is_tuple_list, is_list_int, is_list_bool, is_list_str, is_list_tuple, is_list_list, strF, dDct, repLF, is_dict_int, is_dict_bool, is_dict_str, is_dict_tuple, is_dict_list, is_dict_dict, is_NoneType_dict, is_bool_dict, is_int_dict, is_str_dict, is_tuple_dict, is_list_dict]
    exact rt_val rfl (by show _ = Out.val (.bl (tptB n (tI (L ++ [r])))); rw [ey, ha])
theorem w__law_is_point : ∀ x ds, sp__law_is_point.pre x ds → t__law_is_point (endP sp__law_is_point x) (startE nm__law_is_point.length ds) [] := by
  rintro ⟨d, n⟩ ds ⟨rfl, hd, n0, hn, hb⟩
  simp only at hd n0 hn hb
  have no : (∀ (L : List Int) (r : Int), d = tI (L ++ [r]) → (L.length : Int) ≠ n) → (endP sp__law_is_point ⟨d, n⟩).rt (.bl false) [] := fun h => rt_val rfl (by show _ = Out.val (.bl (tptB n d)); rw [tptB_no n0 h])
  cases d with
  | tup es =>
    by_cases hl : (es.length : Int) = n + 1
    · simp only [t__law_is_point , r__law_is_point_0, nm__law_is_point, hl, dOp, dUn, dVar, dC, slot, startE, List.map, List.length, List.replicate, List.append, List.cons_append, List.nil_append, List.set, dAnd, dOr, dNot, dtB, dtAnd, dtOr, dtNot, dIf, dtTru, truF, dNil, dCons, dTup, dLst, dCB, sNil, sSeq, sRet, sRetN, sExpr, sIf, sAsg, gN, gT, gsNil, gsCons, gS, sPar, sAug, sWhile, sFor, sBrk, sCont, sNo, sRaise, dCallP_eq, dCallD_eq, List.length_map, List.getElem?_cons_succ, List.getElem?_concat_length, set_last, get_mid, get_mid2, eqF, neF, ltF, leF, gtF, geF, isF, notF, addF, subF, mulF, fdivF, modF, powF, negF, ixF, lenF, tupF, lstF, absF, intF, gcdF, maxF, minF, Rs.to, dIsi, dIsi2, dIsE, tyN, D.isNon, dM1, dM0, srcSeq, srcRng1, srcRng2, dLc, tYesD, iaddF, isBF, notBF, srcZip, srcEnumerate, repF, sumF, allF, anyF, intsOf_map, blsOf_map, dSl, dPart, dNoPart, sliceF, at0, at1, at2, at3, at4, ix0, ix1, ix2, ix3, Dn.g0, Dn.g1, Dn.g2, Dn.g3, Dn.g4, ex_some, decide_true, decide_false, Bool.not_true, Bool.not_false, ite_true, ite_false, if_true, if_false, List.reverse_cons, List.reverse_nil, outPost, wipeE, CTg.set, setAll, appF, extF, revF, popF, Nat.zero_add, Nat.reduceAdd, is_NoneType_int, is_NoneType_bool, is_NoneType_str, is_NoneType_tuple, is_NoneType_list, is_bool_int, is_bool_bool, is_bool_str, is_bool_tuple, is_bool_list, is_int_int, is_int_bool, is_int_str, is_int_tuple, is_int_list, is_str_int, is_str_bool, is_str_str, is_str_tuple, is_str_list, is_tuple_int, is_tuple_bool, is_tuple_str, is_tuple_tuple, is_tuple_list, is_list_int, is_list_bool, is_list_str, is_list_tuple, is_list_list, strF, dDct, repLF, is_dict_int, is_dict_bool, is_dict_str, is_dict_tuple, is_dict_list, is_dict_dict, is_NoneType_dict, is_bool_dict, is_int_dict, is_str_dict, is_tuple_dict, is_list_dict]
      simp only [r__law_is_point_1, dOp, dUn, dVar, dC, slot, startE, List.map, List.length, List.replicate, List.append, List.cons_append, List.nil_append, List.set, dAnd, dOr, dNot, dtB, dtAnd, dtOr, dtNot, dIf, dtTru, truF, dNil, dCons, dTup, dLst, dCB, sNil, sSeq, sRet, sRetN, sExpr, sIf, sAsg, gN, gT, gsNil, gsCons, gS, sPar, sAug, sWhile, sFor, sBrk, sCont, sNo, sRaise, dCallP_eq, dCallD_eq, List.length_map, List.getElem?_cons_succ, List.getElem?_concat_length, set_last, get_mid, get_mid2, eqF, neF, ltF, leF, gtF, geF, isF, notF, addF, subF, mulF, fdivF, modF, powF, negF, ixF, lenF, tupF, lstF, absF, intF, gcdF, maxF, minF, Rs.to, dIsi, dIsi2, dIsE, tyN, D.isNon, dM1, dM0, srcSeq, srcRng1, srcRng2, dLc, tYesD, iaddF, isBF, notBF, srcZip, srcEnumerate, repF, sumF, allF, anyF, intsOf_map, blsOf_map, dSl, dPart, dNoPart, sliceF, at0, at1, at2, at3, at4, ix0, ix1, ix2, ix3, Dn.g0, Dn.g1, Dn.g2, Dn.g3, Dn.g4, ex_some, decide_true, decide_false, Bool.not_true, Bool.not_false, ite_true, ite_false, if_true, if_false, List.reverse_cons, List.reverse_nil, outPost, wipeE, CTg.set, setAll, appF, extF, revF, popF, Nat.zero_add, Nat.reduceAdd, is_NoneType_int, is_NoneType_bool, is_NoneType_str, is_NoneType_tuple, is_NoneType_list, is_bool_int, is_bool_bool, is_bool_str, is_bool_tuple, is_bool_list, is_int_int, is_int_bool, is_int_str, is_int_tuple, is_int_list, is_str_int, is_str_bool, is_str_str, is_str_tuple, is_str_list, is_tuple_int, is_tuple_bool, is_tuple_str, is_tuple_tuple, is_tuple_list, is_list_int, is_list_bool, is_list_str, is_list_tuple, is_list_list, strF, dDct, repLF, is_dict_int, is_dict_bool, is_dict_str, is_dict_tuple, is_dict_list, is_dict_dict, is_NoneType_dict, is_bool_dict, is_int_dict, is_str_dict, is_tuple_dict, is_list_dict]
      cases ha : es.all isI' with
      | true =>
        obtain ⟨L', rfl⟩ := all_ints es ha
        have hne : L' ≠ [] := fun c => by subst c; simp at hl; omega
        obtain ⟨L, r, rfl⟩ : ∃ L r, L' = L ++ [r] := ⟨L'.dropLast, L'.getLast hne, (List.dropLast_concat_getLast hne).symm⟩
        have hl' : (L.length : Int) = n := by rw [List.length_map, List.length_append, List.length_singleton] at hl; omega
        have lb := hb _ rfl
        simp only [r__law_is_point_2, dOp, dUn, dVar, dC, slot, startE, List.map, List.length, List.replicate, List.append, List.cons_append, List.nil_append, List.set, dAnd, dOr, dNot, dtB, dtAnd, dtOr, dtNot, dIf, dtTru, truF, dNil, dCons, dTup, dLst, dCB, sNil, sSeq, sRet, sRetN, sExpr, sIf, sAsg, gN, gT, gsNil, gsCons, gS, sPar, sAug, sWhile, sFor, sBrk, sCont, sNo, sRaise, dCallP_eq, dCallD_eq, List.length_map, List.getElem?_cons_succ, List.getElem?_concat_length, set_last, get_mid, get_mid2, eqF, neF, ltF, leF, gtF, geF, isF, notF, addF, subF, mulF, fdivF, modF, powF, negF, ixF, lenF, tupF, lstF, absF, intF, gcdF, maxF, minF, Rs.to, dIsi, dIsi2, dIsE, tyN, D.isNon, dM1, dM0, srcSeq, srcRng1, srcRng2, dLc, tYesD, iaddF, isBF, notBF, srcZip, srcEnumerate, repF, sumF, allF, anyF, intsOf_map, blsOf_map, dSl, dPart, dNoPart, sliceF, at0, at1, at2, at3, at4, ix0, ix1, ix2, ix3, Dn.g0, Dn.g1, Dn.g2, Dn.g3, Dn.g4, ex_some, decide_true, decide_false, Bool.not_true, Bool.not_false, ite_true, ite_false, if_true, if_false, List.reverse_cons, List.reverse_nil, outPost, wipeE, CTg.set, setAll, appF, extF, revF, popF, Nat.zero_add, Nat.reduceAdd, is_NoneType_int, is_NoneType_bool, is_NoneType_str, is_NoneType_tuple, is_NoneType_list, is_bool_int, is_bool_bool, is_bool_str, is_bool_tuple, is_bool_list, is_int_int, is_int_bool, is_int_str, is_int_tuple, is_int_list, is_str_int, is_str_bool, is_str_str, is_str_tuple, is_str_list, is_tuple_int, is_tuple_bool, is_tuple_str, is_tuple_tuple, is_tuple_list, is_list_int, is_list_bool, is_list_str, is_list_tuple, is_list_list, strF, dDct, repLF, is_dict_int, is_dict_bool, is_dict_str, is_dict_tuple, is_dict_list, is_dict_dict, is_NoneType_dict, is_bool_dict, is_int_dict, is_str_dict, is_tuple_dict, is_list_dict]
        refine ⟨fun i e h => (∃ u, e = [some (tI (L ++ [r])), some (.int n), some (.int (gcdL ((L ++ [r]).take i))), u, none]) ∧ h = [], ⟨⟨_, rfl⟩, rfl⟩, fun _ _ _ _ _ => trivial, ?_, ?_⟩
        · rintro i x e h hx ⟨⟨u, rfl⟩, rfl⟩
          obtain ⟨hi, rfl⟩ := mapi_at hx
          simp only [l1__law_is_point_0, dOp, dUn, dVar, dC, slot, startE, List.map, List.length, List.replicate, List.append, List.cons_append, List.nil_append, List.set, dAnd, dOr, dNot, dtB, dtAnd, dtOr, dtNot, dIf, dtTru, truF, dNil, dCons, dTup, dLst, dCB, sNil, sSeq, sRet, sRetN, sExpr, sIf, sAsg, gN, gT, gsNil, gsCons, gS, sPar, sAug, sWhile, sFor, sBrk, sCont, sNo, sRaise, dCallP_eq, dCallD_eq, List.length_map, List.getElem?_cons_succ, List.getElem?_concat_length, set_last, get_mid, get_mid2, eqF, neF, ltF, leF, gtF, geF, isF, notF, addF, subF, mulF, fdivF, modF, powF, negF, ixF, lenF, tupF, lstF, absF, intF, gcdF, maxF, minF, Rs.to, dIsi, dIsi2, dIsE, tyN, D.isNon, dM1, dM0, srcSeq, srcRng1, srcRng2, dLc, tYesD, iaddF, isBF, notBF, srcZip, srcEnumerate, repF, sumF, allF, anyF, intsOf_map, blsOf_map, dSl, dPart, dNoPart, sliceF, at0, at1, at2, at3, at4, ix0, ix1, ix2, ix3, Dn.g0, Dn.g1, Dn.g2, Dn.g3, Dn.g4, ex_some, decide_true, decide_false, Bool.not_true, Bool.not_false, ite_true, ite_false, if_true, if_false, List.reverse_cons, List.reverse_nil, outPost, wipeE, CTg.set, setAll, appF, extF, revF, popF, Nat.zero_add, Nat.reduceAdd, is_NoneType_int, is_NoneType_bool, is_NoneType_str, is_NoneType_tuple, is_NoneType_list, is_bool_int, is_bool_bool, is_bool_str, is_bool_tuple, is_bool_list, is_int_int, is_int_bool, is_int_str, is_int_tuple, is_int_list, is_str_int, is_str_bool, is_str_str, is_str_tuple, is_str_list, is_tuple_int, is_tuple_bool, is_tuple_str, is_tuple_tuple, is_tuple_list, is_list_int, is_list_bool, is_list_str, is_list_tuple, is_list_list, strF, dDct, repLF, is_dict_int, is_dict_bool, is_dict_str, is_dict_tuple, is_dict_list, is_dict_dict, is_NoneType_dict, is_bool_dict, is_int_dict, is_str_dict, is_tuple_dict, is_list_dict]
          refine useP_lwhole rfl ?_
          simp only [isI', l1__law_is_point_1, dOp, dUn, dVar, dC, slot, startE, List.map, List.length, List.replicate, List.append, List.cons_append, List.nil_append, List.set, dAnd, dOr, dNot, dtB, dtAnd, dtOr, dtNot, dIf, dtTru, truF, dNil, dCons, dTup, dLst, dCB, sNil, sSeq, sRet, sRetN, sExpr, sIf, sAsg, gN, gT, gsNil, gsCons, gS, sPar, sAug, sWhile, sFor, sBrk, sCont, sNo, sRaise, dCallP_eq, dCallD_eq, List.length_map, List.getElem?_cons_succ, List.getElem?_concat_length, set_last, get_mid, get_mid2, eqF, neF, ltF, leF, gtF, geF, isF, notF, addF, subF, mulF, fdivF, modF, powF, negF, ixF, lenF, tupF, lstF, absF, intF, gcdF, maxF, minF, Rs.to, dIsi, dIsi2, dIsE, tyN, D.isNon, dM1, dM0, srcSeq, srcRng1, srcRng2, dLc, tYesD, iaddF, isBF, notBF, srcZip, srcEnumerate, repF, sumF, allF, anyF, intsOf_map, blsOf_map, dSl, dPart, dNoPart, sliceF, at0, at1, at2, at3, at4, ix0, ix1, ix2, ix3, Dn.g0, Dn.g1, Dn.g2, Dn.g3, Dn.g4, ex_some, decide_true, decide_false, Bool.not_true, Bool.not_false, ite_true, ite_false, if_true, if_false, List.reverse_cons, List.reverse_nil, outPost, wipeE, CTg.set, setAll, appF, extF, revF, popF, Nat.zero_add, Nat.reduceAdd, is_NoneType_int, is_NoneType_bool, is_NoneType_str, is_NoneType_tuple, is_NoneType_list, is_bool_int, is_bool_bool, is_bool_str, is_bool_tuple, is_bool_list, is_int_int, is_int_bool, is_int_str, is_int_tuple, is_int_list, is_str_int, is_str_bool, is_str_str, is_str_tuple, is_str_list, is_tuple_int, is_tuple_bool, is_tuple_str, is_tuple_tuple, is_tuple_list, is_list_int, is_list_bool, is_list_str, is_list_tuple, is_list_list, strF, dDct, repLF, is_dict_int, is_dict_bool, is_dict_str, is_dict_tuple, is_dict_list, is_dict_dict, is_NoneType_dict, is_bool_dict, is_int_dict, is_str_dict, is_tuple_dict, is_list_dict]
          refine useP_val (_, _) _ rfl rfl (fun o q => q) (fun ex q => q) ?_
          refine ⟨⟨some (.int ((L ++ [r]).getD i 0)), ?_⟩, rfl⟩
          rw [gcdL_at hi]; rfl
        · rintro e h ⟨⟨u, rfl⟩, rfl⟩
          simp only [List.length_map, List.take_length]
          have fin : (decide (1 ≤ r) && decide (gcdL (L ++ [r]) = 1)) = false → (endP sp__law_is_point ⟨.tup ((L ++ [r]).map .int), n⟩).rt (.bl false) [] := fun hf => rt_val rfl (by show _ = Out.val (.bl (tptB n (tI (L ++ [r])))); rw [tptB_yes hl', hf]; rfl)
          simp only [r__law_is_point_3, at_lasti, dOp, dUn, dVar, dC, slot, startE, List.map, List.length, List.replicate, List.append, List.cons_append, List.nil_append, List.set, dAnd, dOr, dNot, dtB, dtAnd, dtOr, dtNot, dIf, dtTru, truF, dNil, dCons, dTup, dLst, dCB, sNil, sSeq, sRet, sRetN, sExpr, sIf, sAsg, gN, gT, gsNil, gsCons, gS, sPar, sAug, sWhile, sFor, sBrk, sCont, sNo, sRaise, dCallP_eq, dCallD_eq, List.length_map, List.getElem?_cons_succ, List.getElem?_concat_length, set_last, get_mid, get_mid2, eqF, neF, ltF, leF, gtF, geF, isF, notF, addF, subF, mulF, fdivF, modF, powF, negF, ixF, lenF, tupF, lstF, absF, intF, gcdF, maxF, minF, Rs.to, dIsi, dIsi2, dIsE, tyN, D.isNon, dM1, dM0, srcSeq, srcRng1, srcRng2, dLc, tYesD, iaddF, isBF, notBF, srcZip, srcEnumerate, repF, sumF, allF, anyF, intsOf_map, blsOf_map, dSl, dPart, dNoPart, sliceF, at0, at1, at2, at3, at4, ix0, ix1, ix2, ix3, Dn.g0, Dn.g1, Dn.g2, Dn.g3, Dn.g4, ex_some, decide_true, decide_false, Bool.not_true, Bool.not_false, ite_true, ite_false, if_true, if_false, List.reverse_cons, List.reverse_nil, outPost, wipeE, CTg.set, setAll, appF, extF, revF, popF, Nat.zero_add, Nat.reduceAdd, is_NoneType_int, is_NoneType_bool, is_NoneType_str, is_NoneType_tuple, is_NoneType_list, is_bool_int, is_bool_bool, is_bool_str, is_bool_tuple, is_bool_list, is_int_int, is_int_bool, is_int_str, is_int_tuple, is_int_list, is_str_int, is_str_bool, is_str_str, is_str_tuple, is_str_list, is_tuple_int, is_tuple_bool, is_tuple_str, is_tuple_tuple, is_tuple_list, is_list_int, is_list_bool, is_list_str, is_list_tuple, is_list_list, strF, dDct, repLF, is_dict_int, is_dict_bool, is_dict_str, is_dict_tuple, is_dict_list, is_dict_dict, is_NoneType_dict, is_bool_dict, is_int_dict, is_str_dict, is_tuple_dict, is_list_dict]
          by_cases hg : ((gcdL (L ++ [r]) : Nat) : Int) = 1
          · by_cases hr : r < 1
            · simp only [hg, hr, dOp, dUn, dVar, dC, slot, startE, List.map, List.length, List.replicate, List.append, List.cons_append, List.nil_append, List.set, dAnd, dOr, dNot, dtB, dtAnd, dtOr, dtNot, dIf, dtTru, truF, dNil, dCons, dTup, dLst, dCB, sNil, sSeq, sRet, sRetN, sExpr, sIf, sAsg, gN, gT, gsNil, gsCons, gS, sPar, sAug, sWhile, sFor, sBrk, sCont, sNo, sRaise, dCallP_eq, dCallD_eq, List.length_map, List.getElem?_cons_succ, List.getElem?_concat_length, set_last, get_mid, get_mid2, eqF, neF, ltF, leF, gtF, geF, isF, notF, addF, subF, mulF, fdivF, modF, powF, negF, ixF, lenF, tupF, lstF, absF, intF, gcdF, maxF, minF, Rs.to, dIsi, dIsi2, dIsE, tyN, D.isNon, dM1, dM0, srcSeq, srcRng1, srcRng2, dLc, tYesD, iaddF, isBF, notBF, srcZip, srcEnumerate, repF, sumF, allF, anyF, intsOf_map, blsOf_map, dSl, dPart, dNoPart, sliceF, at0, at1, at2, at3, at4, ix0, ix1, ix2, ix3, Dn.g0, Dn.g1, Dn.g2, Dn.g3, Dn.g4, ex_some, decide_true, decide_false, Bool.not_true, Bool.not_false, ite_true, ite_false, if_true, if_false, List.reverse_cons, List.reverse_nil, outPost, wipeE, CTg.set, setAll, appF, extF, revF, popF, Nat.zero_add, Nat.reduceAdd, is_NoneType_int, is_NoneType_bool, is_NoneType_str, is_NoneType_tuple, is_NoneType_list, is_bool_int, is_bool_bool, is_bool_str, is_bool_tuple, is_bool_list, is_int_int, is_int_bool, is_int_str, is_int_tuple, is_int_list, is_str_int, is_str_bool, is_str_str, is_str_tuple, is_str_list, is_tuple_int, is_tuple_bool, is_tuple_str, is_tuple_tuple, is_tuple_list, is_list_int, is_list_bool, is_list_str, is_list_tuple, is_list_list, strF, dDct, repLF, is_dict_int, is_dict_bool, is_dict_str, is_dict_tuple, is_dict_list, is_dict_dict, is_NoneType_dict, is_bool_dict, is_int_dict, is_str_dict, is_tuple_dict, is_list_dict]
              exact fin (by rw [decide_eq_false (by omega : ¬ 1 ≤ r)]; rfl)
            · simp only [hg, hr, dOp, dUn, dVar, dC, slot, startE, List.map, List.length, List.replicate, List.append, List.cons_append, List.nil_append, List.set, dAnd, dOr, dNot, dtB, dtAnd, dtOr, dtNot, dIf, dtTru, truF, dNil, dCons, dTup, dLst, dCB, sNil, sSeq, sRet, sRetN, sExpr, sIf, sAsg, gN, gT, gsNil, gsCons, gS, sPar, sAug, sWhile, sFor, sBrk, sCont, sNo, sRaise, dCallP_eq, dCallD_eq, List.length_map, List.getElem?_cons_succ, List.getElem?_concat_length, set_last, get_mid, get_mid2, eqF, neF, ltF, leF, gtF, geF, isF, notF, addF, subF, mulF, fdivF, modF, powF, negF, ixF, lenF, tupF, lstF, absF, intF, gcdF, maxF, minF, Rs.to, dIsi, dIsi2, dIsE, tyN, D.isNon, dM1, dM0, srcSeq, srcRng1, srcRng2, dLc, tYesD, iaddF, isBF, notBF, srcZip, srcEnumerate, repF, sumF, allF, anyF, intsOf_map, blsOf_map, dSl, dPart, dNoPart, sliceF, at0, at1, at2, at3, at4, ix0, ix1, ix2, ix3, Dn.g0, Dn.g1, Dn.g2, Dn.g3, Dn.g4, ex_some, decide_true, decide_false, Bool.not_true, Bool.not_false, ite_true, ite_false, if_true, if_false, List.reverse_cons, List.reverse_nil, outPost, wipeE, CTg.set, setAll, appF, extF, revF, popF, Nat.zero_add, Nat.reduceAdd, is_NoneType_int, is_NoneType_bool, is_NoneType_str, is_NoneType_tuple, is_NoneType_list, is_bool_int, is_bool_bool, is_bool_str, is_bool_tuple, is_bool_list, is_int_int, is_int_bool, is_int_str, is_int_tuple, is_int_list, is_str_int, is_str_bool, is_str_str, is_str_tuple, is_str_list, is_tuple_int, is_tuple_bool, is_tuple_str, is_tuple_tuple, is_tuple_list, is_list_int, is_list_bool, is_list_str, is_list_tuple, is_list_list, strF, dDct, repLF, is_dict_int, is_dict_bool, is_dict_str, is_dict_tuple, is_dict_list, is_dict_dict, is_NoneType_dict, is_bool_dict, is_int_dict, is_str_dict, is_tuple_dict, is_list_dict]
              exact is_point_tail hl' (by omega) (by omega) lb
          · simp only [hg, dOp, dUn, dVar, dC, slot, startE, List.map, List.length, List.replicate, List.append, List.cons_append, List.nil_append, List.set, dAnd, dOr, dNot, dtB, dtAnd, dtOr, dtNot, dIf, dtTru, truF, dNil, dCons, dTup, dLst, dCB, sNil, sSeq, sRet, sRetN, sExpr, sIf, sAsg, gN, gT, gsNil, gsCons, gS, sPar, sAug, sWhile, sFor, sBrk, sCont, sNo, sRaise, dCallP_eq, dCallD_eq, List.length_map, List.getElem?_cons_succ, List.getElem?_concat_length, set_last, get_mid, get_mid2, eqF, neF, ltF, leF, gtF, geF, isF, notF, addF, subF, mulF, fdivF, modF, powF, negF, ixF, lenF, tupF, lstF, absF, intF, gcdF, maxF, minF, Rs.to, dIsi, dIsi2, dIsE, tyN, D.isNon, dM1, dM0, srcSeq, srcRng1, srcRng2, dLc, tYesD, iaddF, isBF, notBF, srcZip, srcEnumerate, repF, sumF, allF, anyF, intsOf_map, blsOf_map, dSl, dPart, dNoPart, sliceF, at0, at1, at2, at3, at4, ix0, ix1, ix2, ix3, Dn.g0, Dn.g1, Dn.g2, Dn.g3, Dn.g4, ex_some, decide_true, decide_false, Bool.not_true, Bool.not_false, ite_true, ite_false, if_true, if_false, List.reverse_cons, List.reverse_nil, outPost, wipeE, CTg.set, setAll, appF, extF, revF, popF, Nat.zero_add, Nat.reduceAdd, is_NoneType_int, is_NoneType_bool, is_NoneType_str, is_NoneType_tuple, is_NoneType_list, is_bool_int, is_bool_bool, is_bool_str, is_bool_tuple, is_bool_list, is_int_int, is_int_bool, is_int_str, is_int_tuple, is_int_list, is_str_int, is_str_bool, is_str_str, is_str_tuple, is_str_list, is_tuple_int, is_tuple_bool, is_tuple_str, is_tuple_tuple, is_tuple_list, is_list_int, is_list_bool, is_list_str, is_list_tuple, is_list_list, strF, dDct, repLF, is_dict_int, is_dict_bool, is_dict_str, is_dict_tuple, is_dict_list, is_dict_dict, is_NoneType_dict, is_bool_dict, is_int_dict, is_str_dict, is_tuple_dict, is_list_dict]
            exact fin (by rw [decide_eq_false (by omega : ¬ gcdL (L ++ [r]) = 1)]; simp)
      | false =>
        have bad : (endP sp__law_is_point ⟨.tup es, n⟩).rt (.bl false) [] := no fun L r e _ => by
            injection e with e
            rw [e, ints_all] at ha; cases ha
        simp only [r__law_is_point_2, dOp, dUn, dVar, dC, slot, startE, List.map, List.length, List.replicate, List.append, List.cons_append, List.nil_append, List.set, dAnd, dOr, dNot, dtB, dtAnd, dtOr, dtNot, dIf, dtTru, truF, dNil, dCons, dTup, dLst, dCB, sNil, sSeq, sRet, sRetN, sExpr, sIf, sAsg, gN, gT, gsNil, gsCons, gS, sPar, sAug, sWhile, sFor, sBrk, sCont, sNo, sRaise, dCallP_eq, dCallD_eq, List.length_map, List.getElem?_cons_succ, List.getElem?_concat_length, set_last, get_mid, get_mid2, eqF, neF, ltF, leF, gtF, geF, isF, notF, addF, subF, mulF, fdivF, modF, powF, negF, ixF, lenF, tupF, lstF, absF, intF, gcdF, maxF, minF, Rs.to, dIsi, dIsi2, dIsE, tyN, D.isNon, dM1, dM0, srcSeq, srcRng1, srcRng2, dLc, tYesD, iaddF, isBF, notBF, srcZip, srcEnumerate, repF, sumF, allF, anyF, intsOf_map, blsOf_map, dSl, dPart, dNoPart, sliceF, at0, at1, at2, at3, at4, ix0, ix1, ix2, ix3, Dn.g0, Dn.g1, Dn.g2, Dn.g3, Dn.g4, ex_some, decide_true, decide_false, Bool.not_true, Bool.not_false, ite_true, ite_false, if_true, if_false, List.reverse_cons, List.reverse_nil, outPost, wipeE, CTg.set, setAll, appF, extF, revF, popF, Nat.zero_add, Nat.reduceAdd, is_NoneType_int, is_NoneType_bool, is_NoneType_str, is_NoneType_tuple, is_NoneType_list, is_bool_int, is_bool_bool, is_bool_str, is_bool_tuple, is_bool_list, is_int_int, is_int_bool, is_int_str, is_int_tuple, is_int_list, is_str_int, is_str_bool, is_str_str, is_str_tuple, is_str_list, is_tuple_int, is_tuple_bool, is_tuple_str, is_tuple_tuple, is_tuple_list, is_list_int, is_list_bool, is_list_str, is_list_tuple, is_list_list, strF, dDct, repLF, is_dict_int, is_dict_bool, is_dict_str, is_dict_tuple, is_dict_list, is_dict_dict, is_NoneType_dict, is_bool_dict, is_int_dict, is_str_dict, is_tuple_dict, is_list_dict]
        refine ⟨fun i e h => (∃ g u, e = [some (.tup es), some (.int n), some (.int g), u, none]) ∧ h = [] ∧ (es.take i).all isI' = true, ⟨⟨_, _, rfl⟩, rfl, rfl⟩, fun _ _ _ _ _ => trivial, ?_, ?_⟩
        · rintro i x e h hx ⟨⟨g, u, rfl⟩, rfl, hi⟩
          have hm : noA x = true := by unfold noA at hd; exact noAs_mem hd (List.mem_of_getElem? hx)
          simp only [l1__law_is_point_0, dOp, dUn, dVar, dC, slot, startE, List.map, List.length, List.replicate, List.append, List.cons_append, List.nil_append, List.set, dAnd, dOr, dNot, dtB, dtAnd, dtOr, dtNot, dIf, dtTru, truF, dNil, dCons, dTup, dLst, dCB, sNil, sSeq, sRet, sRetN, sExpr, sIf, sAsg, gN, gT, gsNil, gsCons, gS, sPar, sAug, sWhile, sFor, sBrk, sCont, sNo, sRaise, dCallP_eq, dCallD_eq, List.length_map, List.getElem?_cons_succ, List.getElem?_concat_length, set_last, get_mid, get_mid2, eqF, neF, ltF, leF, gtF, geF, isF, notF, addF, subF, mulF, fdivF, modF, powF, negF, ixF, lenF, tupF, lstF, absF, intF, gcdF, maxF, minF, Rs.to, dIsi, dIsi2, dIsE, tyN, D.isNon, dM1, dM0, srcSeq, srcRng1, srcRng2, dLc, tYesD, iaddF, isBF, notBF, srcZip, srcEnumerate, repF, sumF, allF, anyF, intsOf_map, blsOf_map, dSl, dPart, dNoPart, sliceF, at0, at1, at2, at3, at4, ix0, ix1, ix2, ix3, Dn.g0, Dn.g1, Dn.g2, Dn.g3, Dn.g4, ex_some, decide_true, decide_false, Bool.not_true, Bool.not_false, ite_true, ite_false, if_true, if_false, List.reverse_cons, List.reverse_nil, outPost, wipeE, CTg.set, setAll, appF, extF, revF, popF, Nat.zero_add, Nat.reduceAdd, is_NoneType_int, is_NoneType_bool, is_NoneType_str, is_NoneType_tuple, is_NoneType_list, is_bool_int, is_bool_bool, is_bool_str, is_bool_tuple, is_bool_list, is_int_int, is_int_bool, is_int_str, is_int_tuple, is_int_list, is_str_int, is_str_bool, is_str_str, is_str_tuple, is_str_list, is_tuple_int, is_tuple_bool, is_tuple_str, is_tuple_tuple, is_tuple_list, is_list_int, is_list_bool, is_list_str, is_list_tuple, is_list_list, strF, dDct, repLF, is_dict_int, is_dict_bool, is_dict_str, is_dict_tuple, is_dict_list, is_dict_dict, is_NoneType_dict, is_bool_dict, is_int_dict, is_str_dict, is_tuple_dict, is_list_dict]
          refine useP_lwhole hm ?_
          cases hx1 : isI' x with
          | false =>
            simp only [dOp, dUn, dVar, dC, slot, startE, List.map, List.length, List.replicate, List.append, List.cons_append, List.nil_append, List.set, dAnd, dOr, dNot, dtB, dtAnd, dtOr, dtNot, dIf, dtTru, truF, dNil, dCons, dTup, dLst, dCB, sNil, sSeq, sRet, sRetN, sExpr, sIf, sAsg, gN, gT, gsNil, gsCons, gS, sPar, sAug, sWhile, sFor, sBrk, sCont, sNo, sRaise, dCallP_eq, dCallD_eq, List.length_map, List.getElem?_cons_succ, List.getElem?_concat_length, set_last, get_mid, get_mid2, eqF, neF, ltF, leF, gtF, geF, isF, notF, addF, subF, mulF, fdivF, modF, powF, negF, ixF, lenF, tupF, lstF, absF, intF, gcdF, maxF, minF, Rs.to, dIsi, dIsi2, dIsE, tyN, D.isNon, dM1, dM0, srcSeq, srcRng1, srcRng2, dLc, tYesD, iaddF, isBF, notBF, srcZip, srcEnumerate, repF, sumF, allF, anyF, intsOf_map, blsOf_map, dSl, dPart, dNoPart, sliceF, at0, at1, at2, at3, at4, ix0, ix1, ix2, ix3, Dn.g0, Dn.g1, Dn.g2, Dn.g3, Dn.g4, ex_some, decide_true, decide_false, Bool.not_true, Bool.not_false, ite_true, ite_false, if_true, if_false, List.reverse_cons, List.reverse_nil, outPost, wipeE, CTg.set, setAll, appF, extF, revF, popF, Nat.zero_add, Nat.reduceAdd, is_NoneType_int, is_NoneType_bool, is_NoneType_str, is_NoneType_tuple, is_NoneType_list, is_bool_int, is_bool_bool, is_bool_str, is_bool_tuple, is_bool_list, is_int_int, is_int_bool, is_int_str, is_int_tuple, is_int_list, is_str_int, is_str_bool, is_str_str, is_str_tuple, is_str_list, is_tuple_int, is_tuple_bool, is_tuple_str, is_tuple_tuple, is_tuple_list, is_list_int, is_list_bool, is_list_str, is_list_tuple, is_list_list, strF, dDct, repLF, is_dict_int, is_dict_bool, is_dict_str, is_dict_tuple, is_dict_list, is_dict_dict, is_NoneType_dict, is_bool_dict, is_int_dict, is_str_dict, is_tuple_dict, is_list_dict]
            exact bad
          | true =>
            obtain ⟨j, rfl⟩ := isI_int hx1
            simp only [l1__law_is_point_1, dOp, dUn, dVar, dC, slot, startE, List.map, List.length, List.replicate, List.append, List.cons_append, List.nil_append, List.set, dAnd, dOr, dNot, dtB, dtAnd, dtOr, dtNot, dIf, dtTru, truF, dNil, dCons, dTup, dLst, dCB, sNil, sSeq, sRet, sRetN, sExpr, sIf, sAsg, gN, gT, gsNil, gsCons, gS, sPar, sAug, sWhile, sFor, sBrk, sCont, sNo, sRaise, dCallP_eq, dCallD_eq, List.length_map, List.getElem?_cons_succ, List.getElem?_concat_length, set_last, get_mid, get_mid2, eqF, neF, ltF, leF, gtF, geF, isF, notF, addF, subF, mulF, fdivF, modF, powF, negF, ixF, lenF, tupF, lstF, absF, intF, gcdF, maxF, minF, Rs.to, dIsi, dIsi2, dIsE, tyN, D.isNon, dM1, dM0, srcSeq, srcRng1, srcRng2, dLc, tYesD, iaddF, isBF, notBF, srcZip, srcEnumerate, repF, sumF, allF, anyF, intsOf_map, blsOf_map, dSl, dPart, dNoPart, sliceF, at0, at1, at2, at3, at4, ix0, ix1, ix2, ix3, Dn.g0, Dn.g1, Dn.g2, Dn.g3, Dn.g4, ex_some, decide_true, decide_false, Bool.not_true, Bool.not_false, ite_true, ite_false, if_true, if_false, List.reverse_cons, List.reverse_nil, outPost, wipeE, CTg.set, setAll, appF, extF, revF, popF, Nat.zero_add, Nat.reduceAdd, is_NoneType_int, is_NoneType_bool, is_NoneType_str, is_NoneType_tuple, is_NoneType_list, is_bool_int, is_bool_bool, is_bool_str, is_bool_tuple, is_bool_list, is_int_int, is_int_bool, is_int_str, is_int_tuple, is_int_list, is_str_int, is_str_bool, is_str_str, is_str_tuple, is_str_list, is_tuple_int, is_tuple_bool, is_tuple_str, is_tuple_tuple, is_tuple_list, is_list_int, is_list_bool, is_list_str, is_list_tuple, is_list_list, strF, dDct, repLF, is_dict_int, is_dict_bool, is_dict_str, is_dict_tuple, is_dict_list, is_dict_dict, is_NoneType_dict, is_bool_dict, is_int_dict, is_str_dict, is_tuple_dict, is_list_dict]
            refine useP_val (g, j) _ rfl rfl (fun o q => q) (fun ex q => q) ?_
            exact ⟨⟨_, some (.int j), rfl⟩, rfl, take_all hx hi rfl⟩
        · rintro e h ⟨_, _, q⟩
          rw [List.take_length, ha] at q; cases q
    · simp only [t__law_is_point , r__law_is_point_0, nm__law_is_point, hl, dOp, dUn, dVar, dC, slot, startE, List.map, List.length, List.replicate, List.append, List.cons_append, List.nil_append, List.set, dAnd, dOr, dNot, dtB, dtAnd, dtOr, dtNot, dIf, dtTru, truF, dNil, dCons, dTup, dLst, dCB, sNil, sSeq, sRet, sRetN, sExpr, sIf, sAsg, gN, gT, gsNil, gsCons, gS, sPar, sAug, sWhile, sFor, sBrk, sCont, sNo, sRaise, dCallP_eq, dCallD_eq, List.length_map, List.getElem?_cons_succ, List.getElem?_concat_length, set_last, get_mid, get_mid2, eqF, neF, ltF, leF, gtF, geF, isF, notF, addF, subF, mulF, fdivF, modF, powF, negF, ixF, lenF, tupF, lstF, absF, intF, gcdF, maxF, minF, Rs.to, dIsi, dIsi2, dIsE, tyN, D.isNon, dM1, dM0, srcSeq, srcRng1, srcRng2, dLc, tYesD, iaddF, isBF, notBF, srcZip, srcEnumerate, repF, sumF, allF, anyF, intsOf_map, blsOf_map, dSl, dPart, dNoPart, sliceF, at0, at1, at2, at3, at4, ix0, ix1, ix2, ix3, Dn.g0, Dn.g1, Dn.g2, Dn.g3, Dn.g4, ex_some, decide_true, decide_false, Bool.not_true, Bool.not_false, ite_true, ite_false, if_true, if_false, List.reverse_cons, List.reverse_nil, outPost, wipeE, CTg.set, setAll, appF, extF, revF, popF, Nat.zero_add, Nat.reduceAdd, is_NoneType_int, is_NoneType_bool, is_NoneType_str, is_NoneType_tuple, is_NoneType_list, is_bool_int, is_bool_bool, is_bool_str, is_bool_tuple, is_bool_list, is_int_int, is_int_bool, is_int_str, is_int_tuple, is_int_list, is_str_int, is_str_bool, is_str_str, is_str_tuple, is_str_list, is_tuple_int, is_tuple_bool, is_tuple_str, is_tuple_tuple, is_tuple_list, is_list_int, is_list_bool, is_list_str, is_list_tuple, is_list_list, strF, dDct, repLF, is_dict_int, is_dict_bool, is_dict_str, is_dict_tuple, is_dict_list, is_dict_dict, is_NoneType_dict, is_bool_dict, is_int_dict, is_str_dict, is_tuple_dict, is_list_dict]
      exact no fun L r e h => by
        injection e with e
        rw [e, List.length_map, List.length_append, List.length_singleton] at hl; omega
  | ref a => unfold noA at hd; cases hd
  | adr a => unfold noA at hd; cases hd
  | box t ds => cases t with
    | dct =>
      simp only [t__law_is_point , r__law_is_point_0, nm__law_is_point, dOp, dUn, dVar, dC, slot, startE, List.map, List.length, List.replicate, List.append, List.cons_append, List.nil_append, List.set, dAnd, dOr, dNot, dtB, dtAnd, dtOr, dtNot, dIf, dtTru, truF, dNil, dCons, dTup, dLst, dCB, sNil, sSeq, sRet, sRetN, sExpr, sIf, sAsg, gN, gT, gsNil, gsCons, gS, sPar, sAug, sWhile, sFor, sBrk, sCont, sNo, sRaise, dCallP_eq, dCallD_eq, List.length_map, List.getElem?_cons_succ, List.getElem?_concat_length, set_last, get_mid, get_mid2, eqF, neF, ltF, leF, gtF, geF, isF, notF, addF, subF, mulF, fdivF, modF, powF, negF, ixF, lenF, tupF, lstF, absF, intF, gcdF, maxF, minF, Rs.to, dIsi, dIsi2, dIsE, tyN, D.isNon, dM1, dM0, srcSeq, srcRng1, srcRng2, dLc, tYesD, iaddF, isBF, notBF, srcZip, srcEnumerate, repF, sumF, allF, anyF, intsOf_map, blsOf_map, dSl, dPart, dNoPart, sliceF, at0, at1, at2, at3, at4, ix0, ix1, ix2, ix3, Dn.g0, Dn.g1, Dn.g2, Dn.g3, Dn.g4, ex_some, decide_true, decide_false, Bool.not_true, Bool.not_false, ite_true, ite_false, if_true, if_false, List.reverse_cons, List.reverse_nil, outPost, wipeE, CTg.set, setAll, appF, extF, revF, popF, Nat.zero_add, Nat.reduceAdd, is_NoneType_int, is_NoneType_bool, is_NoneType_str, is_NoneType_tuple, is_NoneType_list, is_bool_int, is_bool_bool, is_bool_str, is_bool_tuple, is_bool_list, is_int_int, is_int_bool, is_int_str, is_int_tuple, is_int_list, is_str_int, is_str_bool, is_str_str, is_str_tuple, is_str_list, is_tuple_int, is_tuple_bool, is_tuple_str, is_tuple_tuple, is_tuple_list, is_list_int, is_list_bool, is_list_str, is_list_tuple, is_list_list, strF, dDct, repLF, is_dict_int, is_dict_bool, is_dict_str, is_dict_tuple, is_dict_list, is_dict_dict, is_NoneType_dict, is_bool_dict, is_int_dict, is_str_dict, is_tuple_dict, is_list_dict]
      exact no fun L r e => by cases e
    | ins C fs => unfold noA at hd; cases hd
  | _ =>
    simp only [t__law_is_point , r__law_is_point_0, nm__law_is_point, dOp, dUn, dVar, dC, slot, startE, List.map, List.length, List.replicate, List.append, List.cons_append, List.nil_append, List.set, dAnd, dOr, dNot, dtB, dtAnd, dtOr, dtNot, dIf, dtTru, truF, dNil, dCons, dTup, dLst, dCB, sNil, sSeq, sRet, sRetN, sExpr, sIf, sAsg, gN, gT, gsNil, gsCons, gS, sPar, sAug, sWhile, sFor, sBrk, sCont, sNo, sRaise, dCallP_eq, dCallD_eq, List.length_map, List.getElem?_cons_succ, List.getElem?_concat_length, set_last, get_mid, get_mid2, eqF, neF, ltF, leF, gtF, geF, isF, notF, addF, subF, mulF, fdivF, modF, powF, negF, ixF, lenF, tupF, lstF, absF, intF, gcdF, maxF, minF, Rs.to, dIsi, dIsi2, dIsE, tyN, D.isNon, dM1, dM0, srcSeq, srcRng1, srcRng2, dLc, tYesD, iaddF, isBF, notBF, srcZip, srcEnumerate, repF, sumF, allF, anyF, intsOf_map, blsOf_map, dSl, dPart, dNoPart, sliceF, at0, at1, at2, at3, at4, ix0, ix1, ix2, ix3, Dn.g0, Dn.g1, Dn.g2, Dn.g3, Dn.g4, ex_some, decide_true, decide_false, Bool.not_true, Bool.not_false, ite_true, ite_false, if_true, if_false, List.reverse_cons, List.reverse_nil, outPost, wipeE, CTg.set, setAll, appF, extF, revF, popF, Nat.zero_add, Nat.reduceAdd, is_NoneType_int, is_NoneType_bool, is_NoneType_str, is_NoneType_tuple, is_NoneType_list, is_bool_int, is_bool_bool, is_bool_str, is_bool_tuple, is_bool_list, is_int_int, is_int_bool, is_int_str, is_int_tuple, is_int_list, is_str_int, is_str_bool, is_str_str, is_str_tuple, is_str_list, is_tuple_int, is_tuple_bool, is_tuple_str, is_tuple_tuple, is_tuple_list, is_list_int, is_list_bool, is_list_str, is_list_tuple, is_list_list, strF, dDct, repLF, is_dict_int, is_dict_bool, is_dict_str, is_dict_tuple, is_dict_list, is_dict_dict, is_NoneType_dict, is_bool_dict, is_int_dict, is_str_dict, is_tuple_dict, is_list_dict]
    exact no fun L r e => by cases e

theorem ok__law_is_point (T : Txt K mg) : Ok P w K mg base 4 "_law_is_point" ["x", "size"] (spP K mg sp__law_is_point) :=
  okOf T.d__law_is_point fun f fd F => fnP (k := 3) sp__law_is_point t__law_is_point F sc__law_is_point (fun x ds hp => len__law_is_point x ds hp) (fun cdv A outer s H E hr z => by
    have hu := hr.units; have hnd := sc__law_is_point.nd
    unfold t__law_is_point r__law_is_point_0 r__law_is_point_1 r__law_is_point_2 r__law_is_point_3 r__law_is_point_4 r__law_is_point_5 l2__law_is_point_0 l1__law_is_point_0 l1__law_is_point_1
    exact (dss_cons (ds_if (dw_pt (dw_or (dt_not (dt_tru (de_isi kit_tuple rfl T.b_isinstance rfl T.b_tuple (by decide +kernel) (by decide) (by decide) (de_var 0 rfl (by walk_at "vis") (by decide) (by decide)) rfl rfl rfl) (fun _ => rfl))) (dw_or1 (dt_cmp (op_neA hu) od_ne (de_callB (f := lenF) call_len_seq cd_len rfl T.b_len (by decide +kernel) (da_cons (de_var 0 rfl (by walk_at "vis") (by decide) (by decide)) da_nil rfl) (by decide) (by decide) rfl rfl) (de_add (de_var 1 rfl (by walk_at "vis") (by decide) (by decide)) de_int) (nomark _))))) (dss_one (ds_ret de_bl)) dss_nil)
    (dss_cons (ds_set 2 hnd rfl (by walk_at "locs") de_int rfl (by walk_at "fnn"))
    (dss_cons (ds_for (passes_of (K := fun e s'' => L2.CX P w outer H s E e s'') (E₁ := fun e s'' => L2.CX P w outer H s E e s'') rfl) rfl (di_seq (de_var 0 rfl (by walk_at "vis") (by decide) (by decide))) (dg_name 3 hnd rfl (by walk_at "locs") (by walk_at "fnn")) (dss_cons (ds_if (dt_not (dt_tru (dn_callP ((ok__law_whole (P := P) (w := w) (base := base) T).mono (by decide)) hr (takes_of rfl rfl rfl rfl) rfl (by decide) (da_cons (de_var 3 rfl (by walk_at "vis") (by decide) (by decide)) da_nil rfl) rfl rfl) (fun _ => rfl))) (dss_one (ds_ret de_bl)) dss_nil)
    (dss_one (ds_set 2 hnd rfl (by walk_at "locs") (dn_callP ((ok__law_gcd (P := P) (w := w) (base := base) T).mono (by decide)) hr (takes_of rfl rfl rfl rfl) rfl (by decide) (da_cons (de_var 2 rfl (by walk_at "vis") (by decide) (by decide)) (da_cons (de_var 3 rfl (by walk_at "vis") (by decide) (by decide)) da_nil rfl) rfl) rfl rfl) rfl (by walk_at "fnn")))) (fun _ => rfl))
    (dss_cons (ds_if (dw_pt (dw_or (dt_cmp (op_neA hu) od_ne (de_var 2 rfl (by walk_at "vis") (by decide) (by decide)) de_int (nomark _)) (dw_or1 (dt_cmp op_lt od_lt (de_ix (de_var 0 rfl (by walk_at "vis") (by decide) (by decide)) (de_neg de_int) (fun _ _ => rfl)) de_int (nomark _))))) (dss_one (ds_ret de_bl)) dss_nil)
    (dss_cons (ds_for (passes_of (K := fun e s'' => L2.CX P w outer H s E e s'') (E₁ := fun e s'' => L2.CX P w outer H s E e s'') rfl) rfl (di_seq (dn_callP ((ok__law_coords (P := P) (w := w) (base := base) T).mono (by decide)) hr (takes_of rfl rfl rfl rfl) rfl (by decide) (da_cons (de_var 0 rfl (by walk_at "vis") (by decide) (by decide)) da_nil rfl) rfl rfl)) (dg_name 4 hnd rfl (by walk_at "locs") (by walk_at "fnn")) (dss_one (ds_if (dt_not (dt_tru (dn_callP ((ok__law_is_told (P := P) (w := w) (base := base) T).mono (by decide)) hr (takes_of rfl rfl rfl rfl) rfl (by decide) (da_cons (de_var 4 rfl (by walk_at "vis") (by decide) (by decide)) da_nil rfl) rfl rfl) (fun _ => rfl))) (dss_one (ds_ret de_bl)) dss_nil)) (fun _ => rfl))
    (dss_one (ds_ret de_bl)))))))) w__law_is_point
/-! ### _law_odd_value -/
/-- what comes back as the caller sees it -/
def Res (o : Out) (e : D) : Prop := (o = .val e ∧ pureD e = true) ∨ ∃ es, o = .new es ∧ pureDs es = true ∧ e = .lst es
def sp__law_odd_value : SpcD Unit where
  pre := fun _ ds s => ds = [] ∧ 0 ≤ s.a
  res := fun _ o s' => ∃ e, Res o e ∧ noA e = true ∧ 0 ≤ s'.a

def r__law_odd_value_0 : dS :=
  (sRet (dOp ixF (dLst (dCons (dC .non) (dCons (dC (.bl true)) (dCons (dC (.bl false)) (dCons (dC (.str "1")) (dCons (dC (.str "")) (dCons (dC (.int 5)) (dCons (dTup dNil) (dCons (dLst dNil) (dCons (dTup (dCons (dC (.int 1)) dNil)) (dCons (dTup (dCons (dC (.int 1)) (dCons (dC (.int 2)) (dCons (dC (.int 3)) dNil)))) (dCons (dLst (dCons (dC (.int 1)) (dCons (dC (.int 2)) dNil))) (dCons (dTup (dCons (dC (.str "1")) (dCons (dC (.int 2)) dNil))) (dCons (dTup (dCons (dC (.int 1)) (dCons (dC (.str "2")) dNil))) (dCons (dTup (dCons (dC .non) (dCons (dC (.int 1)) dNil))) (dCons (dTup (dCons (dC (.bl true)) (dCons (dC (.int 2)) dNil))) (dCons (dTup (dCons (dC (.int 1)) (dCons (dC (.bl true)) dNil))) (dCons (dTup (dCons (dC (.bl false)) (dCons (dC (.int 1)) dNil))) (dCons (dTup (dCons (dC (.int 3)) (dCons (dC (.bl false)) dNil))) (dCons (dTup (dCons (dTup (dCons (dC (.int 1)) (dCons (dC (.int 2)) dNil))) (dCons (dC (.int 1)) dNil))) (dCons dDct dNil))))))))))))))))))))) (dCallD sp__law_draw (dCons (dVar 0) (dCons (dC (.int 20)) dNil)))))
def t__law_odd_value : dS :=
  (r__law_odd_value_0)
theorem at_all {l : List D} {v : Int} {Q : D → Prop} (h0 : 0 ≤ v) (h1 : v < l.length) (h : ∀ d ∈ l, Q d) : ∃ d, atI l v = some d ∧ Q d := by
  obtain ⟨d, hd, e⟩ := at_mem h0 h1
  exact ⟨d, e, h d hd⟩
theorem len__law_odd_value : ∀ x ds s, sp__law_odd_value.pre x ds s → ds.length + 1 = 1 := fun x ds s h => by rw [h.1]; rfl
theorem w__law_odd_value : ∀ x ds s, sp__law_odd_value.pre x ds s → t__law_odd_value (endD sp__law_odd_value x s.c) (startE nm__law_odd_value.length (.ref 0 :: ds)) [.lst (drD 1 s), .lst (s.c.map .int)] := by
  rintro x ds s ⟨rfl, h3⟩
  simp only [t__law_odd_value , r__law_odd_value_0, nm__law_odd_value, dOp, dUn, dVar, dC, slot, startE, List.map, List.length, List.replicate, List.append, List.cons_append, List.nil_append, List.set, dAnd, dOr, dNot, dtB, dtAnd, dtOr, dtNot, dIf, dtTru, truF, dNil, dCons, dTup, dLst, dCB, sNil, sSeq, sRet, sRetN, sExpr, sIf, sAsg, gN, gT, gsNil, gsCons, gS, sPar, sAug, sWhile, sFor, sBrk, sCont, sNo, sRaise, dCallP_eq, dCallD_eq, List.length_map, List.getElem?_cons_succ, List.getElem?_concat_length, set_last, get_mid, get_mid2, eqF, neF, ltF, leF, gtF, geF, isF, notF, addF, subF, mulF, fdivF, modF, powF, negF, ixF, lenF, tupF, lstF, absF, intF, gcdF, maxF, minF, Rs.to, dIsi, dIsi2, dIsE, tyN, D.isNon, dM1, dM0, srcSeq, srcRng1, srcRng2, dLc, tYesD, iaddF, isBF, notBF, srcZip, srcEnumerate, repF, sumF, allF, anyF, intsOf_map, blsOf_map, dSl, dPart, dNoPart, sliceF, at0, at1, at2, at3, at4, ix0, ix1, ix2, ix3, Dn.g0, Dn.g1, Dn.g2, Dn.g3, Dn.g4, ex_some, decide_true, decide_false, Bool.not_true, Bool.not_false, ite_true, ite_false, if_true, if_false, List.reverse_cons, List.reverse_nil, outPost, wipeE, CTg.set, setAll, appF, extF, revF, popF, Nat.zero_add, Nat.reduceAdd, is_NoneType_int, is_NoneType_bool, is_NoneType_str, is_NoneType_tuple, is_NoneType_list, is_bool_int, is_bool_bool, is_bool_str, is_bool_tuple, is_bool_list, is_int_int, is_int_bool, is_int_str, is_int_tuple, is_int_list, is_str_int, is_str_bool, is_str_str, is_str_tuple, is_str_list, is_tuple_int, is_tuple_bool, is_tuple_str, is_tuple_tuple, is_tuple_list, is_list_int, is_list_bool, is_list_str, is_list_tuple, is_list_list, strF, dDct, repLF, is_dict_int, is_dict_bool, is_dict_str, is_dict_tuple, is_dict_list, is_dict_dict, is_NoneType_dict, is_bool_dict, is_int_dict, is_str_dict, is_tuple_dict, is_list_dict]
  refine useD_01 20 rfl rfl ⟨rfl, by decide, bt_lit (by decide) (by decide), h3⟩ ?_
  rintro o s1 ⟨v, rfl, v0, v1, a1⟩ hc1
  refine ⟨_, rfl, ?_⟩
  try simp only [dOp, dUn, dVar, dC, slot, startE, List.map, List.length, List.replicate, List.append, List.cons_append, List.nil_append, List.set, dAnd, dOr, dNot, dtB, dtAnd, dtOr, dtNot, dIf, dtTru, truF, dNil, dCons, dTup, dLst, dCB, sNil, sSeq, sRet, sRetN, sExpr, sIf, sAsg, gN, gT, gsNil, gsCons, gS, sPar, sAug, sWhile, sFor, sBrk, sCont, sNo, sRaise, dCallP_eq, dCallD_eq, List.length_map, List.getElem?_cons_succ, List.getElem?_concat_length, set_last, get_mid, get_mid2, eqF, neF, ltF, leF, gtF, geF, isF, notF, addF, subF, mulF, fdivF, modF, powF, negF, ixF, lenF, tupF, lstF, absF, intF, gcdF, maxF, minF, Rs.to, dIsi, dIsi2, dIsE, tyN, D.isNon, dM1, dM0, srcSeq, srcRng1, srcRng2, dLc, tYesD, iaddF, isBF, notBF, srcZip, srcEnumerate, repF, sumF, allF, anyF, intsOf_map, blsOf_map, dSl, dPart, dNoPart, sliceF, at0, at1, at2, at3, at4, ix0, ix1, ix2, ix3, Dn.g0, Dn.g1, Dn.g2, Dn.g3, Dn.g4, ex_some, decide_true, decide_false, Bool.not_true, Bool.not_false, ite_true, ite_false, if_true, if_false, List.reverse_cons, List.reverse_nil, outPost, wipeE, CTg.set, setAll, appF, extF, revF, popF, Nat.zero_add, Nat.reduceAdd, is_NoneType_int, is_NoneType_bool, is_NoneType_str, is_NoneType_tuple, is_NoneType_list, is_bool_int, is_bool_bool, is_bool_str, is_bool_tuple, is_bool_list, is_int_int, is_int_bool, is_int_str, is_int_tuple, is_int_list, is_str_int, is_str_bool, is_str_str, is_str_tuple, is_str_list, is_tuple_int, is_tuple_bool, is_tuple_str, is_tuple_tuple, is_tuple_list, is_list_int, is_list_bool, is_list_str, is_list_tuple, is_list_list, strF, dDct, repLF, is_dict_int, is_dict_bool, is_dict_str, is_dict_tuple, is_dict_list, is_dict_dict, is_NoneType_dict, is_bool_dict, is_int_dict, is_str_dict, is_tuple_dict, is_list_dict]
  have fin : ∀ (e : D) (t : Hh), pureD e = true → noA e = true → (endD sp__law_odd_value x s.c).rt e (.lst (drD 1 s1) :: .lst (s.c.map .int) :: t) := fun e t p c => rtD_val s1 hc1 rfl rfl p ⟨e, .inl ⟨rfl, p⟩, c, a1⟩
  have fin2 : ∀ (es : List D) (j : Nat) (t : Hh), t[j]? = some (.lst es) → pureDs es = true → noAs es = true → (endD sp__law_odd_value x s.c).rt (.ref (j + 2)) (.lst (drD 1 s1) :: .lst (s.c.map .int) :: t) := fun es j t ht p c => rtD_new s1 hc1 rfl rfl (by omega) (by simpa using ht) p ⟨.lst es, .inr ⟨es, rfl, p, rfl⟩, by unfold noA; exact c, a1⟩
  refine at_all v0 (by simpa using v1) ?_
  intro d hd
  simp only [List.mem_cons, List.not_mem_nil, or_false] at hd
  rcases hd with rfl | rfl | rfl | rfl | rfl | rfl | rfl | rfl | rfl | rfl | rfl | rfl | rfl | rfl | rfl | rfl | rfl | rfl | rfl | rfl
  all_goals first
    | exact fin _ _ rfl rfl
    | exact fin2 _ 0 _ rfl rfl rfl
    | exact fin2 _ 1 _ rfl rfl rfl

theorem ok__law_odd_value (T : Txt K mg) : Ok P w K mg base 2 "_law_odd_value" ["draws"] (spD K sp__law_odd_value) :=
  okOf T.d__law_odd_value fun f fd F => fnD (k := 1) sp__law_odd_value t__law_odd_value F sc__law_odd_value (fun x ds s hp => len__law_odd_value x ds s hp) (fun cdv A outer s H E hr z => by
    have hu := hr.units; have hnd := sc__law_odd_value.nd
    unfold t__law_odd_value r__law_odd_value_0
    exact (dss_one (ds_ret (de_ix (de_lst (da_cons de_non (da_cons de_bl (da_cons de_bl (da_cons de_str (da_cons de_str (da_cons de_int (da_cons (de_tup da_nil (by decide)) (da_cons (de_lst da_nil (by decide)) (da_cons (de_tup (da_cons de_int da_nil rfl) (by decide)) (da_cons (de_tup (da_cons de_int (da_cons de_int (da_cons de_int da_nil rfl) rfl) rfl) (by decide)) (da_cons (de_lst (da_cons de_int (da_cons de_int da_nil rfl) rfl) (by decide)) (da_cons (de_tup (da_cons de_str (da_cons de_int da_nil rfl) rfl) (by decide)) (da_cons (de_tup (da_cons de_int (da_cons de_str da_nil rfl) rfl) (by decide)) (da_cons (de_tup (da_cons de_non (da_cons de_int da_nil rfl) rfl) (by decide)) (da_cons (de_tup (da_cons de_bl (da_cons de_int da_nil rfl) rfl) (by decide)) (da_cons (de_tup (da_cons de_int (da_cons de_bl da_nil rfl) rfl) (by decide)) (da_cons (de_tup (da_cons de_bl (da_cons de_int da_nil rfl) rfl) (by decide)) (da_cons (de_tup (da_cons de_int (da_cons de_bl da_nil rfl) rfl) (by decide)) (da_cons (de_tup (da_cons (de_tup (da_cons de_int (da_cons de_int da_nil rfl) rfl) (by decide)) (da_cons de_int da_nil rfl) rfl) (by decide)) (da_cons de_dct da_nil rfl) rfl) rfl) rfl) rfl) rfl) rfl) rfl) rfl) rfl) rfl) rfl) rfl) rfl) rfl) rfl) rfl) rfl) rfl) rfl) (by decide)) (dn_callD ((ok__law_draw (P := P) (w := w) (base := base) T).mono (by decide)) hr (takes_of rfl rfl rfl rfl) rfl (by decide) (da_cons (de_var 0 rfl (by walk_at "vis") (by decide) (by decide)) (da_cons de_int da_nil rfl) rfl) rfl rfl) (fun _ _ => rfl))))) w__law_odd_value
/-! ### _law_pair -/
def sp__law_pair : SpcD Unit where
  pre := fun _ ds s => ds = [] ∧ 0 ≤ s.a
  res := fun _ o s' => ∃ e, Res o e ∧ noA e = true ∧ 0 ≤ s'.a

def r__law_pair_7 : dS :=
  (sRet (dOp ixF (dLst (dCons (dVar 3) (dCons (dTup (dCons (dOp mulF (dVar 2) (dVar 1)) (dCons (dC (.int 1)) dNil))) (dCons (dTup (dCons (dVar 2) (dCons (dVar 1) dNil))) (dCons (dTup (dCons (dOp mulF (dVar 2) (dC (.int 7))) (dCons (dVar 1) dNil))) (dCons (dTup (dCons (dOp mulF (dVar 2) (dVar 4)) (dCons (dC (.int 0)) dNil))) (dCons (dTup (dCons (dC (.int 0)) (dCons (dVar 4) dNil))) (dCons (dVar 5) (dCons (dVar 6) (dCons (dVar 7) (dCons (dTup (dCons (dC (.int 0)) (dCons (dC (.int 1)) dNil))) (dCons (dTup (dCons (dOp mulF (dVar 2) (dVar 4)) (dCons (dC (.int 1)) dNil))) (dCons (dVar 6) (dCons (dTup (dCons (dOp mulF (dVar 2) (dOp addF (dOp mulF (dVar 1) (dC (.int 2))) (dC (.int 1)))) (dCons (dC (.int 2)) dNil))) dNil)))))))))))))) (dCallD sp__law_draw (dCons (dVar 0) (dCons (dC (.int 13)) dNil)))))
def r__law_pair_6 : dS :=
  (sSeq (sAsg (dTup (dCons (dOp mulF (dC (.int 2)) (dVar 4)) (dCons (dOp addF (dC (.int 2)) (dOp mulF (dC (.int 2)) (dCallD sp__law_draw (dCons (dVar 0) (dCons (dC (.int 9)) dNil))))) dNil))) (gN 7)) (r__law_pair_7))
def r__law_pair_5 : dS :=
  (sSeq (sAsg (dCallP sp__law_ratio (dCons (dCallD sp__law_near (dCons (dVar 0) (dCons (dC (.int 2000000000)) dNil))) (dCons (dOp addF (dC (.int 1)) (dCallD sp__law_draw (dCons (dVar 0) (dCons (dC (.int 1200000000)) dNil)))) dNil))) (gN 6)) (r__law_pair_6))
def r__law_pair_4 : dS :=
  (sSeq (sAsg (dCallD sp__law_odd_value (dCons (dVar 0) dNil)) (gN 5)) (r__law_pair_5))
def r__law_pair_3 : dS :=
  (sSeq (sAsg (dOp addF (dC (.int 1)) (dCallD sp__law_draw (dCons (dVar 0) (dCons (dC (.int 40)) dNil)))) (gN 4)) (r__law_pair_4))
def r__law_pair_2 : dS :=
  (sSeq (sAsg (dTup (dCons (dCallD sp__law_near (dCons (dVar 0) (dCons (dC (.int 9)) dNil))) (dCons (dCallD sp__law_near (dCons (dVar 0) (dCons (dC (.int 6)) dNil))) dNil))) (gN 3)) (r__law_pair_3))
def r__law_pair_1 : dS :=
  (sSeq (sAsg (dOp subF (dC (.int 1)) (dOp mulF (dC (.int 2)) (dCallD sp__law_draw (dCons (dVar 0) (dCons (dC (.int 2)) dNil))))) (gN 2)) (r__law_pair_2))
def r__law_pair_0 : dS :=
  (sSeq (sAsg (dOp subF (dOp addF (dC (.int 1000000000)) (dCallD sp__law_draw (dCons (dVar 0) (dCons (dC (.int 3)) dNil)))) (dC (.int 1))) (gN 1)) (r__law_pair_1))
def t__law_pair : dS :=
  (r__law_pair_0)
theorem len__law_pair : ∀ x ds s, sp__law_pair.pre x ds s → ds.length + 1 = 1 := fun x ds s h => by rw [h.1]; rfl
theorem useD_01o {α : Type} {g : SpcD α} {ds es : List D} {c : List Int} {s : DrS} {r : Hh} {Q : D → Hh → Prop} (x : α) (hc : s.c = c) (v : Views (.lst (drD 1 s) :: .lst (c.map .int) :: r) (fun j => j ≠ 0 ∧ j ≠ 1) ds es) (p : g.pre x es s) (w : ∀ o s', g.res x o s' → s'.c = c → outPure o = true → outPost Q (.lst (drD 1 s') :: .lst (c.map .int) :: r) o) : useD g (.ref 0 :: ds) (.lst (drD 1 s) :: .lst (c.map .int) :: r) Q :=
  ⟨x, es, s, 1, by decide, rfl, by rw [hc]; rfl, v, p, fun o s' ho hs po => w o s' ho (hs.trans hc) po⟩
theorem pair_tail {c : List Int} {s : DrS} {j : Hh} {ed sg x1 x2 wh : Int} {od : D} (hc : s.c = c) (ha : 0 ≤ s.a) (he : ed.natAbs < 1073741824) (hs : sg.natAbs < 1073741824) (hw : wh.natAbs < 1073741824)
    (ho : (pureD od = true ∧ noA od = true) ∨ ∃ es, od = .ref 2 ∧ j = [.lst es] ∧ pureDs es = true ∧ noAs es = true) :
    r__law_pair_5 (endD sp__law_pair () c) [some (.ref 0), some (.int ed), some (.int sg), some (.tup [.int x1, .int x2]), some (.int wh), some od, none, none] (.lst (drD 1 s) :: .lst (c.map .int) :: j) := by
  simp only [r__law_pair_5, dOp, dUn, dVar, dC, slot, startE, List.map, List.length, List.replicate, List.append, List.cons_append, List.nil_append, List.set, dAnd, dOr, dNot, dtB, dtAnd, dtOr, dtNot, dIf, dtTru, truF, dNil, dCons, dTup, dLst, dCB, sNil, sSeq, sRet, sRetN, sExpr, sIf, sAsg, gN, gT, gsNil, gsCons, gS, sPar, sAug, sWhile, sFor, sBrk, sCont, sNo, sRaise, dCallP_eq, dCallD_eq, List.length_map, List.getElem?_cons_succ, List.getElem?_concat_length, set_last, get_mid, get_mid2, eqF, neF, ltF, leF, gtF, geF, isF, notF, addF, subF, mulF, fdivF, modF, powF, negF, ixF, lenF, tupF, lstF, absF, intF, gcdF, maxF, minF, Rs.to, dIsi, dIsi2, dIsE, tyN, D.isNon, dM1, dM0, srcSeq, srcRng1, srcRng2, dLc, tYesD, iaddF, isBF, notBF, srcZip, srcEnumerate, repF, sumF, allF, anyF, intsOf_map, blsOf_map, dSl, dPart, dNoPart, sliceF, at0, at1, at2, at3, at4, ix0, ix1, ix2, ix3, Dn.g0, Dn.g1, Dn.g2, Dn.g3, Dn.g4, ex_some, decide_true, decide_false, Bool.not_true, Bool.not_false, ite_true, ite_false, if_true, if_false, List.reverse_cons, List.reverse_nil, outPost, wipeE, CTg.set, setAll, appF, extF, revF, popF, Nat.zero_add, Nat.reduceAdd, is_NoneType_int, is_NoneType_bool, is_NoneType_str, is_NoneType_tuple, is_NoneType_list, is_bool_int, is_bool_bool, is_bool_str, is_bool_tuple, is_bool_list, is_int_int, is_int_bool, is_int_str, is_int_tuple, is_int_list, is_str_int, is_str_bool, is_str_str, is_str_tuple, is_str_list, is_tuple_int, is_tuple_bool, is_tuple_str, is_tuple_tuple, is_tuple_list, is_list_int, is_list_bool, is_list_str, is_list_tuple, is_list_list, strF, dDct, repLF, is_dict_int, is_dict_bool, is_dict_str, is_dict_tuple, is_dict_list, is_dict_dict, is_NoneType_dict, is_bool_dict, is_int_dict, is_str_dict, is_tuple_dict, is_list_dict]
  refine useD_01 2000000000 hc rfl ⟨rfl, by decide, by decide, ha⟩ ?_
  rintro o s1 ⟨v, rfl, v0, v1, a1⟩ hc1
  refine ⟨_, rfl, ?_⟩
  try simp only [dOp, dUn, dVar, dC, slot, startE, List.map, List.length, List.replicate, List.append, List.cons_append, List.nil_append, List.set, dAnd, dOr, dNot, dtB, dtAnd, dtOr, dtNot, dIf, dtTru, truF, dNil, dCons, dTup, dLst, dCB, sNil, sSeq, sRet, sRetN, sExpr, sIf, sAsg, gN, gT, gsNil, gsCons, gS, sPar, sAug, sWhile, sFor, sBrk, sCont, sNo, sRaise, dCallP_eq, dCallD_eq, List.length_map, List.getElem?_cons_succ, List.getElem?_concat_length, set_last, get_mid, get_mid2, eqF, neF, ltF, leF, gtF, geF, isF, notF, addF, subF, mulF, fdivF, modF, powF, negF, ixF, lenF, tupF, lstF, absF, intF, gcdF, maxF, minF, Rs.to, dIsi, dIsi2, dIsE, tyN, D.isNon, dM1, dM0, srcSeq, srcRng1, srcRng2, dLc, tYesD, iaddF, isBF, notBF, srcZip, srcEnumerate, repF, sumF, allF, anyF, intsOf_map, blsOf_map, dSl, dPart, dNoPart, sliceF, at0, at1, at2, at3, at4, ix0, ix1, ix2, ix3, Dn.g0, Dn.g1, Dn.g2, Dn.g3, Dn.g4, ex_some, decide_true, decide_false, Bool.not_true, Bool.not_false, ite_true, ite_false, if_true, if_false, List.reverse_cons, List.reverse_nil, outPost, wipeE, CTg.set, setAll, appF, extF, revF, popF, Nat.zero_add, Nat.reduceAdd, is_NoneType_int, is_NoneType_bool, is_NoneType_str, is_NoneType_tuple, is_NoneType_list, is_bool_int, is_bool_bool, is_bool_str, is_bool_tuple, is_bool_list, is_int_int, is_int_bool, is_int_str, is_int_tuple, is_int_list, is_str_int, is_str_bool, is_str_str, is_str_tuple, is_str_list, is_tuple_int, is_tuple_bool, is_tuple_str, is_tuple_tuple, is_tuple_list, is_list_int, is_list_bool, is_list_str, is_list_tuple, is_list_list, strF, dDct, repLF, is_dict_int, is_dict_bool, is_dict_str, is_dict_tuple, is_dict_list, is_dict_dict, is_NoneType_dict, is_bool_dict, is_int_dict, is_str_dict, is_tuple_dict, is_list_dict]
  refine useD_01 1200000000 hc1 rfl ⟨rfl, by decide, bt_lit (by decide) (by decide), a1⟩ ?_
  rintro o s2 ⟨w, rfl, w0, w1, a2⟩ hc2
  refine ⟨_, rfl, ?_⟩
  try simp only [dOp, dUn, dVar, dC, slot, startE, List.map, List.length, List.replicate, List.append, List.cons_append, List.nil_append, List.set, dAnd, dOr, dNot, dtB, dtAnd, dtOr, dtNot, dIf, dtTru, truF, dNil, dCons, dTup, dLst, dCB, sNil, sSeq, sRet, sRetN, sExpr, sIf, sAsg, gN, gT, gsNil, gsCons, gS, sPar, sAug, sWhile, sFor, sBrk, sCont, sNo, sRaise, dCallP_eq, dCallD_eq, List.length_map, List.getElem?_cons_succ, List.getElem?_concat_length, set_last, get_mid, get_mid2, eqF, neF, ltF, leF, gtF, geF, isF, notF, addF, subF, mulF, fdivF, modF, powF, negF, ixF, lenF, tupF, lstF, absF, intF, gcdF, maxF, minF, Rs.to, dIsi, dIsi2, dIsE, tyN, D.isNon, dM1, dM0, srcSeq, srcRng1, srcRng2, dLc, tYesD, iaddF, isBF, notBF, srcZip, srcEnumerate, repF, sumF, allF, anyF, intsOf_map, blsOf_map, dSl, dPart, dNoPart, sliceF, at0, at1, at2, at3, at4, ix0, ix1, ix2, ix3, Dn.g0, Dn.g1, Dn.g2, Dn.g3, Dn.g4, ex_some, decide_true, decide_false, Bool.not_true, Bool.not_false, ite_true, ite_false, if_true, if_false, List.reverse_cons, List.reverse_nil, outPost, wipeE, CTg.set, setAll, appF, extF, revF, popF, Nat.zero_add, Nat.reduceAdd, is_NoneType_int, is_NoneType_bool, is_NoneType_str, is_NoneType_tuple, is_NoneType_list, is_bool_int, is_bool_bool, is_bool_str, is_bool_tuple, is_bool_list, is_int_int, is_int_bool, is_int_str, is_int_tuple, is_int_list, is_str_int, is_str_bool, is_str_str, is_str_tuple, is_str_list, is_tuple_int, is_tuple_bool, is_tuple_str, is_tuple_tuple, is_tuple_list, is_list_int, is_list_bool, is_list_str, is_list_tuple, is_list_list, strF, dDct, repLF, is_dict_int, is_dict_bool, is_dict_str, is_dict_tuple, is_dict_list, is_dict_dict, is_NoneType_dict, is_bool_dict, is_int_dict, is_str_dict, is_tuple_dict, is_list_dict]
  refine useP_val (v, 1 + w) (rt v (1 + w)) rfl ⟨rfl, bt_mono (bt60 (by omega)) (by decide), bt_mono (bt60 (by omega)) (by decide), (show 1 + w ≠ 0 by omega)⟩ (fun o q => q) (fun ex q => q) ?_
  simp only [r__law_pair_6, dOp, dUn, dVar, dC, slot, startE, List.map, List.length, List.replicate, List.append, List.cons_append, List.nil_append, List.set, dAnd, dOr, dNot, dtB, dtAnd, dtOr, dtNot, dIf, dtTru, truF, dNil, dCons, dTup, dLst, dCB, sNil, sSeq, sRet, sRetN, sExpr, sIf, sAsg, gN, gT, gsNil, gsCons, gS, sPar, sAug, sWhile, sFor, sBrk, sCont, sNo, sRaise, dCallP_eq, dCallD_eq, List.length_map, List.getElem?_cons_succ, List.getElem?_concat_length, set_last, get_mid, get_mid2, eqF, neF, ltF, leF, gtF, geF, isF, notF, addF, subF, mulF, fdivF, modF, powF, negF, ixF, lenF, tupF, lstF, absF, intF, gcdF, maxF, minF, Rs.to, dIsi, dIsi2, dIsE, tyN, D.isNon, dM1, dM0, srcSeq, srcRng1, srcRng2, dLc, tYesD, iaddF, isBF, notBF, srcZip, srcEnumerate, repF, sumF, allF, anyF, intsOf_map, blsOf_map, dSl, dPart, dNoPart, sliceF, at0, at1, at2, at3, at4, ix0, ix1, ix2, ix3, Dn.g0, Dn.g1, Dn.g2, Dn.g3, Dn.g4, ex_some, decide_true, decide_false, Bool.not_true, Bool.not_false, ite_true, ite_false, if_true, if_false, List.reverse_cons, List.reverse_nil, outPost, wipeE, CTg.set, setAll, appF, extF, revF, popF, Nat.zero_add, Nat.reduceAdd, is_NoneType_int, is_NoneType_bool, is_NoneType_str, is_NoneType_tuple, is_NoneType_list, is_bool_int, is_bool_bool, is_bool_str, is_bool_tuple, is_bool_list, is_int_int, is_int_bool, is_int_str, is_int_tuple, is_int_list, is_str_int, is_str_bool, is_str_str, is_str_tuple, is_str_list, is_tuple_int, is_tuple_bool, is_tuple_str, is_tuple_tuple, is_tuple_list, is_list_int, is_list_bool, is_list_str, is_list_tuple, is_list_list, strF, dDct, repLF, is_dict_int, is_dict_bool, is_dict_str, is_dict_tuple, is_dict_list, is_dict_dict, is_NoneType_dict, is_bool_dict, is_int_dict, is_str_dict, is_tuple_dict, is_list_dict]
  refine ⟨bt_mulr' (by decide), ?_⟩
  refine useD_01 9 hc2 rfl ⟨rfl, by decide, bt_lit (by decide) (by decide), a2⟩ ?_
  rintro o s3 ⟨y, rfl, y0, y1, a3⟩ hc3
  refine ⟨_, rfl, ?_⟩
  try simp only [dOp, dUn, dVar, dC, slot, startE, List.map, List.length, List.replicate, List.append, List.cons_append, List.nil_append, List.set, dAnd, dOr, dNot, dtB, dtAnd, dtOr, dtNot, dIf, dtTru, truF, dNil, dCons, dTup, dLst, dCB, sNil, sSeq, sRet, sRetN, sExpr, sIf, sAsg, gN, gT, gsNil, gsCons, gS, sPar, sAug, sWhile, sFor, sBrk, sCont, sNo, sRaise, dCallP_eq, dCallD_eq, List.length_map, List.getElem?_cons_succ, List.getElem?_concat_length, set_last, get_mid, get_mid2, eqF, neF, ltF, leF, gtF, geF, isF, notF, addF, subF, mulF, fdivF, modF, powF, negF, ixF, lenF, tupF, lstF, absF, intF, gcdF, maxF, minF, Rs.to, dIsi, dIsi2, dIsE, tyN, D.isNon, dM1, dM0, srcSeq, srcRng1, srcRng2, dLc, tYesD, iaddF, isBF, notBF, srcZip, srcEnumerate, repF, sumF, allF, anyF, intsOf_map, blsOf_map, dSl, dPart, dNoPart, sliceF, at0, at1, at2, at3, at4, ix0, ix1, ix2, ix3, Dn.g0, Dn.g1, Dn.g2, Dn.g3, Dn.g4, ex_some, decide_true, decide_false, Bool.not_true, Bool.not_false, ite_true, ite_false, if_true, if_false, List.reverse_cons, List.reverse_nil, outPost, wipeE, CTg.set, setAll, appF, extF, revF, popF, Nat.zero_add, Nat.reduceAdd, is_NoneType_int, is_NoneType_bool, is_NoneType_str, is_NoneType_tuple, is_NoneType_list, is_bool_int, is_bool_bool, is_bool_str, is_bool_tuple, is_bool_list, is_int_int, is_int_bool, is_int_str, is_int_tuple, is_int_list, is_str_int, is_str_bool, is_str_str, is_str_tuple, is_str_list, is_tuple_int, is_tuple_bool, is_tuple_str, is_tuple_tuple, is_tuple_list, is_list_int, is_list_bool, is_list_str, is_list_tuple, is_list_list, strF, dDct, repLF, is_dict_int, is_dict_bool, is_dict_str, is_dict_tuple, is_dict_list, is_dict_dict, is_NoneType_dict, is_bool_dict, is_int_dict, is_str_dict, is_tuple_dict, is_list_dict]
  refine ⟨bt_mulr' (by decide), ?_⟩
  simp only [r__law_pair_7, dOp, dUn, dVar, dC, slot, startE, List.map, List.length, List.replicate, List.append, List.cons_append, List.nil_append, List.set, dAnd, dOr, dNot, dtB, dtAnd, dtOr, dtNot, dIf, dtTru, truF, dNil, dCons, dTup, dLst, dCB, sNil, sSeq, sRet, sRetN, sExpr, sIf, sAsg, gN, gT, gsNil, gsCons, gS, sPar, sAug, sWhile, sFor, sBrk, sCont, sNo, sRaise, dCallP_eq, dCallD_eq, List.length_map, List.getElem?_cons_succ, List.getElem?_concat_length, set_last, get_mid, get_mid2, eqF, neF, ltF, leF, gtF, geF, isF, notF, addF, subF, mulF, fdivF, modF, powF, negF, ixF, lenF, tupF, lstF, absF, intF, gcdF, maxF, minF, Rs.to, dIsi, dIsi2, dIsE, tyN, D.isNon, dM1, dM0, srcSeq, srcRng1, srcRng2, dLc, tYesD, iaddF, isBF, notBF, srcZip, srcEnumerate, repF, sumF, allF, anyF, intsOf_map, blsOf_map, dSl, dPart, dNoPart, sliceF, at0, at1, at2, at3, at4, ix0, ix1, ix2, ix3, Dn.g0, Dn.g1, Dn.g2, Dn.g3, Dn.g4, ex_some, decide_true, decide_false, Bool.not_true, Bool.not_false, ite_true, ite_false, if_true, if_false, List.reverse_cons, List.reverse_nil, outPost, wipeE, CTg.set, setAll, appF, extF, revF, popF, Nat.zero_add, Nat.reduceAdd, is_NoneType_int, is_NoneType_bool, is_NoneType_str, is_NoneType_tuple, is_NoneType_list, is_bool_int, is_bool_bool, is_bool_str, is_bool_tuple, is_bool_list, is_int_int, is_int_bool, is_int_str, is_int_tuple, is_int_list, is_str_int, is_str_bool, is_str_str, is_str_tuple, is_str_list, is_tuple_int, is_tuple_bool, is_tuple_str, is_tuple_tuple, is_tuple_list, is_list_int, is_list_bool, is_list_str, is_list_tuple, is_list_list, strF, dDct, repLF, is_dict_int, is_dict_bool, is_dict_str, is_dict_tuple, is_dict_list, is_dict_dict, is_NoneType_dict, is_bool_dict, is_int_dict, is_str_dict, is_tuple_dict, is_list_dict]
  refine ⟨bt_mulr he, bt_mulr (by decide), bt_mulr hw, bt_mulr hw, bt_mulr (by decide), bt_mulr' hs, ?_⟩
  refine useD_01 13 hc3 rfl ⟨rfl, by decide, bt_lit (by decide) (by decide), a3⟩ ?_
  rintro o s4 ⟨k, rfl, k0, k1, a4⟩ hc4
  refine ⟨_, rfl, ?_⟩
  try simp only [dOp, dUn, dVar, dC, slot, startE, List.map, List.length, List.replicate, List.append, List.cons_append, List.nil_append, List.set, dAnd, dOr, dNot, dtB, dtAnd, dtOr, dtNot, dIf, dtTru, truF, dNil, dCons, dTup, dLst, dCB, sNil, sSeq, sRet, sRetN, sExpr, sIf, sAsg, gN, gT, gsNil, gsCons, gS, sPar, sAug, sWhile, sFor, sBrk, sCont, sNo, sRaise, dCallP_eq, dCallD_eq, List.length_map, List.getElem?_cons_succ, List.getElem?_concat_length, set_last, get_mid, get_mid2, eqF, neF, ltF, leF, gtF, geF, isF, notF, addF, subF, mulF, fdivF, modF, powF, negF, ixF, lenF, tupF, lstF, absF, intF, gcdF, maxF, minF, Rs.to, dIsi, dIsi2, dIsE, tyN, D.isNon, dM1, dM0, srcSeq, srcRng1, srcRng2, dLc, tYesD, iaddF, isBF, notBF, srcZip, srcEnumerate, repF, sumF, allF, anyF, intsOf_map, blsOf_map, dSl, dPart, dNoPart, sliceF, at0, at1, at2, at3, at4, ix0, ix1, ix2, ix3, Dn.g0, Dn.g1, Dn.g2, Dn.g3, Dn.g4, ex_some, decide_true, decide_false, Bool.not_true, Bool.not_false, ite_true, ite_false, if_true, if_false, List.reverse_cons, List.reverse_nil, outPost, wipeE, CTg.set, setAll, appF, extF, revF, popF, Nat.zero_add, Nat.reduceAdd, is_NoneType_int, is_NoneType_bool, is_NoneType_str, is_NoneType_tuple, is_NoneType_list, is_bool_int, is_bool_bool, is_bool_str, is_bool_tuple, is_bool_list, is_int_int, is_int_bool, is_int_str, is_int_tuple, is_int_list, is_str_int, is_str_bool, is_str_str, is_str_tuple, is_str_list, is_tuple_int, is_tuple_bool, is_tuple_str, is_tuple_tuple, is_tuple_list, is_list_int, is_list_bool, is_list_str, is_list_tuple, is_list_list, strF, dDct, repLF, is_dict_int, is_dict_bool, is_dict_str, is_dict_tuple, is_dict_list, is_dict_dict, is_NoneType_dict, is_bool_dict, is_int_dict, is_str_dict, is_tuple_dict, is_list_dict]
  have fin : ∀ (e : D) (t : Hh), pureD e = true → noA e = true → (endD sp__law_pair () c).rt e (.lst (drD 1 s4) :: .lst (c.map .int) :: t) := fun e t p q => rtD_val s4 hc4 rfl rfl p ⟨e, .inl ⟨rfl, p⟩, q, a4⟩
  refine at_all k0 (by simpa using k1) ?_
  intro d hd
  simp only [List.mem_cons, List.not_mem_nil, or_false] at hd
  rcases hd with rfl | rfl | rfl | rfl | rfl | rfl | rfl | rfl | rfl | rfl | rfl | rfl | rfl
  all_goals first
    | exact fin _ _ rfl rfl
    | (rcases ho with ⟨p, q⟩ | ⟨es, rfl, rfl, p, q⟩
       · exact fin _ _ p q
       · exact rtD_new s4 hc4 rfl rfl (by decide) rfl p ⟨.lst es, .inr ⟨es, rfl, p, rfl⟩, by unfold noA; exact q, a4⟩)
theorem w__law_pair : ∀ x ds s, sp__law_pair.pre x ds s → t__law_pair (endD sp__law_pair x s.c) (startE nm__law_pair.length (.ref 0 :: ds)) [.lst (drD 1 s), .lst (s.c.map .int)] := by
  rintro x ds s ⟨rfl, h3⟩
  simp only [t__law_pair , r__law_pair_0, nm__law_pair, dOp, dUn, dVar, dC, slot, startE, List.map, List.length, List.replicate, List.append, List.cons_append, List.nil_append, List.set, dAnd, dOr, dNot, dtB, dtAnd, dtOr, dtNot, dIf, dtTru, truF, dNil, dCons, dTup, dLst, dCB, sNil, sSeq, sRet, sRetN, sExpr, sIf, sAsg, gN, gT, gsNil, gsCons, gS, sPar, sAug, sWhile, sFor, sBrk, sCont, sNo, sRaise, dCallP_eq, dCallD_eq, List.length_map, List.getElem?_cons_succ, List.getElem?_concat_length, set_last, get_mid, get_mid2, eqF, neF, ltF, leF, gtF, geF, isF, notF, addF, subF, mulF, fdivF, modF, powF, negF, ixF, lenF, tupF, lstF, absF, intF, gcdF, maxF, minF, Rs.to, dIsi, dIsi2, dIsE, tyN, D.isNon, dM1, dM0, srcSeq, srcRng1, srcRng2, dLc, tYesD, iaddF, isBF, notBF, srcZip, srcEnumerate, repF, sumF, allF, anyF, intsOf_map, blsOf_map, dSl, dPart, dNoPart, sliceF, at0, at1, at2, at3, at4, ix0, ix1, ix2, ix3, Dn.g0, Dn.g1, Dn.g2, Dn.g3, Dn.g4, ex_some, decide_true, decide_false, Bool.not_true, Bool.not_false, ite_true, ite_false, if_true, if_false, List.reverse_cons, List.reverse_nil, outPost, wipeE, CTg.set, setAll, appF, extF, revF, popF, Nat.zero_add, Nat.reduceAdd, is_NoneType_int, is_NoneType_bool, is_NoneType_str, is_NoneType_tuple, is_NoneType_list, is_bool_int, is_bool_bool, is_bool_str, is_bool_tuple, is_bool_list, is_int_int, is_int_bool, is_int_str, is_int_tuple, is_int_list, is_str_int, is_str_bool, is_str_str, is_str_tuple, is_str_list, is_tuple_int, is_tuple_bool, is_tuple_str, is_tuple_tuple, is_tuple_list, is_list_int, is_list_bool, is_list_str, is_list_tuple, is_list_list, strF, dDct, repLF, is_dict_int, is_dict_bool, is_dict_str, is_dict_tuple, is_dict_list, is_dict_dict, is_NoneType_dict, is_bool_dict, is_int_dict, is_str_dict, is_tuple_dict, is_list_dict]
  refine useD_01 3 rfl rfl ⟨rfl, by decide, bt_lit (by decide) (by decide), h3⟩ ?_
  rintro o s1 ⟨v, rfl, v0, v1, a1⟩ hc1
  refine ⟨_, rfl, ?_⟩
  simp only [r__law_pair_1, dOp, dUn, dVar, dC, slot, startE, List.map, List.length, List.replicate, List.append, List.cons_append, List.nil_append, List.set, dAnd, dOr, dNot, dtB, dtAnd, dtOr, dtNot, dIf, dtTru, truF, dNil, dCons, dTup, dLst, dCB, sNil, sSeq, sRet, sRetN, sExpr, sIf, sAsg, gN, gT, gsNil, gsCons, gS, sPar, sAug, sWhile, sFor, sBrk, sCont, sNo, sRaise, dCallP_eq, dCallD_eq, List.length_map, List.getElem?_cons_succ, List.getElem?_concat_length, set_last, get_mid, get_mid2, eqF, neF, ltF, leF, gtF, geF, isF, notF, addF, subF, mulF, fdivF, modF, powF, negF, ixF, lenF, tupF, lstF, absF, intF, gcdF, maxF, minF, Rs.to, dIsi, dIsi2, dIsE, tyN, D.isNon, dM1, dM0, srcSeq, srcRng1, srcRng2, dLc, tYesD, iaddF, isBF, notBF, srcZip, srcEnumerate, repF, sumF, allF, anyF, intsOf_map, blsOf_map, dSl, dPart, dNoPart, sliceF, at0, at1, at2, at3, at4, ix0, ix1, ix2, ix3, Dn.g0, Dn.g1, Dn.g2, Dn.g3, Dn.g4, ex_some, decide_true, decide_false, Bool.not_true, Bool.not_false, ite_true, ite_false, if_true, if_false, List.reverse_cons, List.reverse_nil, outPost, wipeE, CTg.set, setAll, appF, extF, revF, popF, Nat.zero_add, Nat.reduceAdd, is_NoneType_int, is_NoneType_bool, is_NoneType_str, is_NoneType_tuple, is_NoneType_list, is_bool_int, is_bool_bool, is_bool_str, is_bool_tuple, is_bool_list, is_int_int, is_int_bool, is_int_str, is_int_tuple, is_int_list, is_str_int, is_str_bool, is_str_str, is_str_tuple, is_str_list, is_tuple_int, is_tuple_bool, is_tuple_str, is_tuple_tuple, is_tuple_list, is_list_int, is_list_bool, is_list_str, is_list_tuple, is_list_list, strF, dDct, repLF, is_dict_int, is_dict_bool, is_dict_str, is_dict_tuple, is_dict_list, is_dict_dict, is_NoneType_dict, is_bool_dict, is_int_dict, is_str_dict, is_tuple_dict, is_list_dict]
  refine useD_01 2 hc1 rfl ⟨rfl, by decide, bt_lit (by decide) (by decide), a1⟩ ?_
  rintro o s2 ⟨w, rfl, w0, w1, a2⟩ hc2
  refine ⟨_, rfl, ?_⟩
  try simp only [dOp, dUn, dVar, dC, slot, startE, List.map, List.length, List.replicate, List.append, List.cons_append, List.nil_append, List.set, dAnd, dOr, dNot, dtB, dtAnd, dtOr, dtNot, dIf, dtTru, truF, dNil, dCons, dTup, dLst, dCB, sNil, sSeq, sRet, sRetN, sExpr, sIf, sAsg, gN, gT, gsNil, gsCons, gS, sPar, sAug, sWhile, sFor, sBrk, sCont, sNo, sRaise, dCallP_eq, dCallD_eq, List.length_map, List.getElem?_cons_succ, List.getElem?_concat_length, set_last, get_mid, get_mid2, eqF, neF, ltF, leF, gtF, geF, isF, notF, addF, subF, mulF, fdivF, modF, powF, negF, ixF, lenF, tupF, lstF, absF, intF, gcdF, maxF, minF, Rs.to, dIsi, dIsi2, dIsE, tyN, D.isNon, dM1, dM0, srcSeq, srcRng1, srcRng2, dLc, tYesD, iaddF, isBF, notBF, srcZip, srcEnumerate, repF, sumF, allF, anyF, intsOf_map, blsOf_map, dSl, dPart, dNoPart, sliceF, at0, at1, at2, at3, at4, ix0, ix1, ix2, ix3, Dn.g0, Dn.g1, Dn.g2, Dn.g3, Dn.g4, ex_some, decide_true, decide_false, Bool.not_true, Bool.not_false, ite_true, ite_false, if_true, if_false, List.reverse_cons, List.reverse_nil, outPost, wipeE, CTg.set, setAll, appF, extF, revF, popF, Nat.zero_add, Nat.reduceAdd, is_NoneType_int, is_NoneType_bool, is_NoneType_str, is_NoneType_tuple, is_NoneType_list, is_bool_int, is_bool_bool, is_bool_str, is_bool_tuple, is_bool_list, is_int_int, is_int_bool, is_int_str, is_int_tuple, is_int_list, is_str_int, is_str_bool, is_str_str, is_str_tuple, is_str_list, is_tuple_int, is_tuple_bool, is_tuple_str, is_tuple_tuple, is_tuple_list, is_list_int, is_list_bool, is_list_str, is_list_tuple, is_list_list, strF, dDct, repLF, is_dict_int, is_dict_bool, is_dict_str, is_dict_tuple, is_dict_list, is_dict_dict, is_NoneType_dict, is_bool_dict, is_int_dict, is_str_dict, is_tuple_dict, is_list_dict]
  refine ⟨bt_mulr' (by decide), ?_⟩
  simp only [r__law_pair_2, dOp, dUn, dVar, dC, slot, startE, List.map, List.length, List.replicate, List.append, List.cons_append, List.nil_append, List.set, dAnd, dOr, dNot, dtB, dtAnd, dtOr, dtNot, dIf, dtTru, truF, dNil, dCons, dTup, dLst, dCB, sNil, sSeq, sRet, sRetN, sExpr, sIf, sAsg, gN, gT, gsNil, gsCons, gS, sPar, sAug, sWhile, sFor, sBrk, sCont, sNo, sRaise, dCallP_eq, dCallD_eq, List.length_map, List.getElem?_cons_succ, List.getElem?_concat_length, set_last, get_mid, get_mid2, eqF, neF, ltF, leF, gtF, geF, isF, notF, addF, subF, mulF, fdivF, modF, powF, negF, ixF, lenF, tupF, lstF, absF, intF, gcdF, maxF, minF, Rs.to, dIsi, dIsi2, dIsE, tyN, D.isNon, dM1, dM0, srcSeq, srcRng1, srcRng2, dLc, tYesD, iaddF, isBF, notBF, srcZip, srcEnumerate, repF, sumF, allF, anyF, intsOf_map, blsOf_map, dSl, dPart, dNoPart, sliceF, at0, at1, at2, at3, at4, ix0, ix1, ix2, ix3, Dn.g0, Dn.g1, Dn.g2, Dn.g3, Dn.g4, ex_some, decide_true, decide_false, Bool.not_true, Bool.not_false, ite_true, ite_false, if_true, if_false, List.reverse_cons, List.reverse_nil, outPost, wipeE, CTg.set, setAll, appF, extF, revF, popF, Nat.zero_add, Nat.reduceAdd, is_NoneType_int, is_NoneType_bool, is_NoneType_str, is_NoneType_tuple, is_NoneType_list, is_bool_int, is_bool_bool, is_bool_str, is_bool_tuple, is_bool_list, is_int_int, is_int_bool, is_int_str, is_int_tuple, is_int_list, is_str_int, is_str_bool, is_str_str, is_str_tuple, is_str_list, is_tuple_int, is_tuple_bool, is_tuple_str, is_tuple_tuple, is_tuple_list, is_list_int, is_list_bool, is_list_str, is_list_tuple, is_list_list, strF, dDct, repLF, is_dict_int, is_dict_bool, is_dict_str, is_dict_tuple, is_dict_list, is_dict_dict, is_NoneType_dict, is_bool_dict, is_int_dict, is_str_dict, is_tuple_dict, is_list_dict]
  refine useD_01 9 hc2 rfl ⟨rfl, by decide, by decide, a2⟩ ?_
  rintro o s3 ⟨x1, rfl, -, -, a3⟩ hc3
  refine ⟨_, rfl, ?_⟩
  try simp only [dOp, dUn, dVar, dC, slot, startE, List.map, List.length, List.replicate, List.append, List.cons_append, List.nil_append, List.set, dAnd, dOr, dNot, dtB, dtAnd, dtOr, dtNot, dIf, dtTru, truF, dNil, dCons, dTup, dLst, dCB, sNil, sSeq, sRet, sRetN, sExpr, sIf, sAsg, gN, gT, gsNil, gsCons, gS, sPar, sAug, sWhile, sFor, sBrk, sCont, sNo, sRaise, dCallP_eq, dCallD_eq, List.length_map, List.getElem?_cons_succ, List.getElem?_concat_length, set_last, get_mid, get_mid2, eqF, neF, ltF, leF, gtF, geF, isF, notF, addF, subF, mulF, fdivF, modF, powF, negF, ixF, lenF, tupF, lstF, absF, intF, gcdF, maxF, minF, Rs.to, dIsi, dIsi2, dIsE, tyN, D.isNon, dM1, dM0, srcSeq, srcRng1, srcRng2, dLc, tYesD, iaddF, isBF, notBF, srcZip, srcEnumerate, repF, sumF, allF, anyF, intsOf_map, blsOf_map, dSl, dPart, dNoPart, sliceF, at0, at1, at2, at3, at4, ix0, ix1, ix2, ix3, Dn.g0, Dn.g1, Dn.g2, Dn.g3, Dn.g4, ex_some, decide_true, decide_false, Bool.not_true, Bool.not_false, ite_true, ite_false, if_true, if_false, List.reverse_cons, List.reverse_nil, outPost, wipeE, CTg.set, setAll, appF, extF, revF, popF, Nat.zero_add, Nat.reduceAdd, is_NoneType_int, is_NoneType_bool, is_NoneType_str, is_NoneType_tuple, is_NoneType_list, is_bool_int, is_bool_bool, is_bool_str, is_bool_tuple, is_bool_list, is_int_int, is_int_bool, is_int_str, is_int_tuple, is_int_list, is_str_int, is_str_bool, is_str_str, is_str_tuple, is_str_list, is_tuple_int, is_tuple_bool, is_tuple_str, is_tuple_tuple, is_tuple_list, is_list_int, is_list_bool, is_list_str, is_list_tuple, is_list_list, strF, dDct, repLF, is_dict_int, is_dict_bool, is_dict_str, is_dict_tuple, is_dict_list, is_dict_dict, is_NoneType_dict, is_bool_dict, is_int_dict, is_str_dict, is_tuple_dict, is_list_dict]
  refine useD_01 6 hc3 rfl ⟨rfl, by decide, by decide, a3⟩ ?_
  rintro o s4 ⟨x2, rfl, -, -, a4⟩ hc4
  refine ⟨_, rfl, ?_⟩
  simp only [r__law_pair_3, dOp, dUn, dVar, dC, slot, startE, List.map, List.length, List.replicate, List.append, List.cons_append, List.nil_append, List.set, dAnd, dOr, dNot, dtB, dtAnd, dtOr, dtNot, dIf, dtTru, truF, dNil, dCons, dTup, dLst, dCB, sNil, sSeq, sRet, sRetN, sExpr, sIf, sAsg, gN, gT, gsNil, gsCons, gS, sPar, sAug, sWhile, sFor, sBrk, sCont, sNo, sRaise, dCallP_eq, dCallD_eq, List.length_map, List.getElem?_cons_succ, List.getElem?_concat_length, set_last, get_mid, get_mid2, eqF, neF, ltF, leF, gtF, geF, isF, notF, addF, subF, mulF, fdivF, modF, powF, negF, ixF, lenF, tupF, lstF, absF, intF, gcdF, maxF, minF, Rs.to, dIsi, dIsi2, dIsE, tyN, D.isNon, dM1, dM0, srcSeq, srcRng1, srcRng2, dLc, tYesD, iaddF, isBF, notBF, srcZip, srcEnumerate, repF, sumF, allF, anyF, intsOf_map, blsOf_map, dSl, dPart, dNoPart, sliceF, at0, at1, at2, at3, at4, ix0, ix1, ix2, ix3, Dn.g0, Dn.g1, Dn.g2, Dn.g3, Dn.g4, ex_some, decide_true, decide_false, Bool.not_true, Bool.not_false, ite_true, ite_false, if_true, if_false, List.reverse_cons, List.reverse_nil, outPost, wipeE, CTg.set, setAll, appF, extF, revF, popF, Nat.zero_add, Nat.reduceAdd, is_NoneType_int, is_NoneType_bool, is_NoneType_str, is_NoneType_tuple, is_NoneType_list, is_bool_int, is_bool_bool, is_bool_str, is_bool_tuple, is_bool_list, is_int_int, is_int_bool, is_int_str, is_int_tuple, is_int_list, is_str_int, is_str_bool, is_str_str, is_str_tuple, is_str_list, is_tuple_int, is_tuple_bool, is_tuple_str, is_tuple_tuple, is_tuple_list, is_list_int, is_list_bool, is_list_str, is_list_tuple, is_list_list, strF, dDct, repLF, is_dict_int, is_dict_bool, is_dict_str, is_dict_tuple, is_dict_list, is_dict_dict, is_NoneType_dict, is_bool_dict, is_int_dict, is_str_dict, is_tuple_dict, is_list_dict]
  refine useD_01 40 hc4 rfl ⟨rfl, by decide, bt_lit (by decide) (by decide), a4⟩ ?_
  rintro o s5 ⟨y, rfl, y0, y1, a5⟩ hc5
  refine ⟨_, rfl, ?_⟩
  simp only [r__law_pair_4, dOp, dUn, dVar, dC, slot, startE, List.map, List.length, List.replicate, List.append, List.cons_append, List.nil_append, List.set, dAnd, dOr, dNot, dtB, dtAnd, dtOr, dtNot, dIf, dtTru, truF, dNil, dCons, dTup, dLst, dCB, sNil, sSeq, sRet, sRetN, sExpr, sIf, sAsg, gN, gT, gsNil, gsCons, gS, sPar, sAug, sWhile, sFor, sBrk, sCont, sNo, sRaise, dCallP_eq, dCallD_eq, List.length_map, List.getElem?_cons_succ, List.getElem?_concat_length, set_last, get_mid, get_mid2, eqF, neF, ltF, leF, gtF, geF, isF, notF, addF, subF, mulF, fdivF, modF, powF, negF, ixF, lenF, tupF, lstF, absF, intF, gcdF, maxF, minF, Rs.to, dIsi, dIsi2, dIsE, tyN, D.isNon, dM1, dM0, srcSeq, srcRng1, srcRng2, dLc, tYesD, iaddF, isBF, notBF, srcZip, srcEnumerate, repF, sumF, allF, anyF, intsOf_map, blsOf_map, dSl, dPart, dNoPart, sliceF, at0, at1, at2, at3, at4, ix0, ix1, ix2, ix3, Dn.g0, Dn.g1, Dn.g2, Dn.g3, Dn.g4, ex_some, decide_true, decide_false, Bool.not_true, Bool.not_false, ite_true, ite_false, if_true, if_false, List.reverse_cons, List.reverse_nil, outPost, wipeE, CTg.set, setAll, appF, extF, revF, popF, Nat.zero_add, Nat.reduceAdd, is_NoneType_int, is_NoneType_bool, is_NoneType_str, is_NoneType_tuple, is_NoneType_list, is_bool_int, is_bool_bool, is_bool_str, is_bool_tuple, is_bool_list, is_int_int, is_int_bool, is_int_str, is_int_tuple, is_int_list, is_str_int, is_str_bool, is_str_str, is_str_tuple, is_str_list, is_tuple_int, is_tuple_bool, is_tuple_str, is_tuple_tuple, is_tuple_list, is_list_int, is_list_bool, is_list_str, is_list_tuple, is_list_list, strF, dDct, repLF, is_dict_int, is_dict_bool, is_dict_str, is_dict_tuple, is_dict_list, is_dict_dict, is_NoneType_dict, is_bool_dict, is_int_dict, is_str_dict, is_tuple_dict, is_list_dict]
  refine useD_01o () hc5 .nil ⟨rfl, a5⟩ ?_
  rintro o s6 ⟨e, hr, hn, a6⟩ hc6 -
  rcases hr with ⟨rfl, hp⟩ | ⟨es, rfl, hp, rfl⟩
  · simp only [dOp, dUn, dVar, dC, slot, startE, List.map, List.length, List.replicate, List.append, List.cons_append, List.nil_append, List.set, dAnd, dOr, dNot, dtB, dtAnd, dtOr, dtNot, dIf, dtTru, truF, dNil, dCons, dTup, dLst, dCB, sNil, sSeq, sRet, sRetN, sExpr, sIf, sAsg, gN, gT, gsNil, gsCons, gS, sPar, sAug, sWhile, sFor, sBrk, sCont, sNo, sRaise, dCallP_eq, dCallD_eq, List.length_map, List.getElem?_cons_succ, List.getElem?_concat_length, set_last, get_mid, get_mid2, eqF, neF, ltF, leF, gtF, geF, isF, notF, addF, subF, mulF, fdivF, modF, powF, negF, ixF, lenF, tupF, lstF, absF, intF, gcdF, maxF, minF, Rs.to, dIsi, dIsi2, dIsE, tyN, D.isNon, dM1, dM0, srcSeq, srcRng1, srcRng2, dLc, tYesD, iaddF, isBF, notBF, srcZip, srcEnumerate, repF, sumF, allF, anyF, intsOf_map, blsOf_map, dSl, dPart, dNoPart, sliceF, at0, at1, at2, at3, at4, ix0, ix1, ix2, ix3, Dn.g0, Dn.g1, Dn.g2, Dn.g3, Dn.g4, ex_some, decide_true, decide_false, Bool.not_true, Bool.not_false, ite_true, ite_false, if_true, if_false, List.reverse_cons, List.reverse_nil, outPost, wipeE, CTg.set, setAll, appF, extF, revF, popF, Nat.zero_add, Nat.reduceAdd, is_NoneType_int, is_NoneType_bool, is_NoneType_str, is_NoneType_tuple, is_NoneType_list, is_bool_int, is_bool_bool, is_bool_str, is_bool_tuple, is_bool_list, is_int_int, is_int_bool, is_int_str, is_int_tuple, is_int_list, is_str_int, is_str_bool, is_str_str, is_str_tuple, is_str_list, is_tuple_int, is_tuple_bool, is_tuple_str, is_tuple_tuple, is_tuple_list, is_list_int, is_list_bool, is_list_str, is_list_tuple, is_list_list, strF, dDct, repLF, is_dict_int, is_dict_bool, is_dict_str, is_dict_tuple, is_dict_list, is_dict_dict, is_NoneType_dict, is_bool_dict, is_int_dict, is_str_dict, is_tuple_dict, is_list_dict]
    exact pair_tail hc6 a6 (by omega) (by omega) (by omega) (.inl ⟨hp, hn⟩)
  · simp only [dOp, dUn, dVar, dC, slot, startE, List.map, List.length, List.replicate, List.append, List.cons_append, List.nil_append, List.set, dAnd, dOr, dNot, dtB, dtAnd, dtOr, dtNot, dIf, dtTru, truF, dNil, dCons, dTup, dLst, dCB, sNil, sSeq, sRet, sRetN, sExpr, sIf, sAsg, gN, gT, gsNil, gsCons, gS, sPar, sAug, sWhile, sFor, sBrk, sCont, sNo, sRaise, dCallP_eq, dCallD_eq, List.length_map, List.getElem?_cons_succ, List.getElem?_concat_length, set_last, get_mid, get_mid2, eqF, neF, ltF, leF, gtF, geF, isF, notF, addF, subF, mulF, fdivF, modF, powF, negF, ixF, lenF, tupF, lstF, absF, intF, gcdF, maxF, minF, Rs.to, dIsi, dIsi2, dIsE, tyN, D.isNon, dM1, dM0, srcSeq, srcRng1, srcRng2, dLc, tYesD, iaddF, isBF, notBF, srcZip, srcEnumerate, repF, sumF, allF, anyF, intsOf_map, blsOf_map, dSl, dPart, dNoPart, sliceF, at0, at1, at2, at3, at4, ix0, ix1, ix2, ix3, Dn.g0, Dn.g1, Dn.g2, Dn.g3, Dn.g4, ex_some, decide_true, decide_false, Bool.not_true, Bool.not_false, ite_true, ite_false, if_true, if_false, List.reverse_cons, List.reverse_nil, outPost, wipeE, CTg.set, setAll, appF, extF, revF, popF, Nat.zero_add, Nat.reduceAdd, is_NoneType_int, is_NoneType_bool, is_NoneType_str, is_NoneType_tuple, is_NoneType_list, is_bool_int, is_bool_bool, is_bool_str, is_bool_tuple, is_bool_list, is_int_int, is_int_bool, is_int_str, is_int_tuple, is_int_list, is_str_int, is_str_bool, is_str_str, is_str_tuple, is_str_list, is_tuple_int, is_tuple_bool, is_tuple_str, is_tuple_tuple, is_tuple_list, is_list_int, is_list_bool, is_list_str, is_list_tuple, is_list_list, strF, dDct, repLF, is_dict_int, is_dict_bool, is_dict_str, is_dict_tuple, is_dict_list, is_dict_dict, is_NoneType_dict, is_bool_dict, is_int_dict, is_str_dict, is_tuple_dict, is_list_dict]
    exact pair_tail hc6 a6 (by omega) (by omega) (by omega) (.inr ⟨es, rfl, rfl, hp, by unfold noA at hn; exact hn⟩)

theorem ok__law_pair (T : Txt K mg) : Ok P w K mg base 3 "_law_pair" ["draws"] (spD K sp__law_pair) :=
  okOf T.d__law_pair fun f fd F => fnD (k := 2) sp__law_pair t__law_pair F sc__law_pair (fun x ds s hp => len__law_pair x ds s hp) (fun cdv A outer s H E hr z => by
    have hu := hr.units; have hnd := sc__law_pair.nd
    unfold t__law_pair r__law_pair_0 r__law_pair_1 r__law_pair_2 r__law_pair_3 r__law_pair_4 r__law_pair_5 r__law_pair_6 r__law_pair_7
    exact (dss_cons (ds_set 1 hnd rfl (by walk_at "locs") (de_minus (de_add de_int (dn_callD ((ok__law_draw (P := P) (w := w) (base := base) T).mono (by decide)) hr (takes_of rfl rfl rfl rfl) rfl (by decide) (da_cons (de_var 0 rfl (by walk_at "vis") (by decide) (by decide)) (da_cons de_int da_nil rfl) rfl) rfl rfl)) de_int) rfl (by walk_at "fnn"))
    (dss_cons (ds_set 2 hnd rfl (by walk_at "locs") (de_minus de_int (de_mul de_int (dn_callD ((ok__law_draw (P := P) (w := w) (base := base) T).mono (by decide)) hr (takes_of rfl rfl rfl rfl) rfl (by decide) (da_cons (de_var 0 rfl (by walk_at "vis") (by decide) (by decide)) (da_cons de_int da_nil rfl) rfl) rfl rfl))) rfl (by walk_at "fnn"))
    (dss_cons (ds_set 3 hnd rfl (by walk_at "locs") (de_tup (da_cons (dn_callD ((ok__law_near (P := P) (w := w) (base := base) T).mono (by decide)) hr (takes_of rfl rfl rfl rfl) rfl (by decide) (da_cons (de_var 0 rfl (by walk_at "vis") (by decide) (by decide)) (da_cons de_int da_nil rfl) rfl) rfl rfl) (da_cons (dn_callD ((ok__law_near (P := P) (w := w) (base := base) T).mono (by decide)) hr (takes_of rfl rfl rfl rfl) rfl (by decide) (da_cons (de_var 0 rfl (by walk_at "vis") (by decide) (by decide)) (da_cons de_int da_nil rfl) rfl) rfl rfl) da_nil rfl) rfl) (by decide)) rfl (by walk_at "fnn"))
    (dss_cons (ds_set 4 hnd rfl (by walk_at "locs") (de_add de_int (dn_callD ((ok__law_draw (P := P) (w := w) (base := base) T).mono (by decide)) hr (takes_of rfl rfl rfl rfl) rfl (by decide) (da_cons (de_var 0 rfl (by walk_at "vis") (by decide) (by decide)) (da_cons de_int da_nil rfl) rfl) rfl rfl)) rfl (by walk_at "fnn"))
    (dss_cons (ds_set 5 hnd rfl (by walk_at "locs") (dn_callD ((ok__law_odd_value (P := P) (w := w) (base := base) T).mono (by decide)) hr (takes_of rfl rfl rfl rfl) rfl (by decide) (da_cons (de_var 0 rfl (by walk_at "vis") (by decide) (by decide)) da_nil rfl) rfl rfl) rfl (by walk_at "fnn"))
    (dss_cons (ds_set 6 hnd rfl (by walk_at "locs") (dn_callP ((ok__law_ratio (P := P) (w := w) (base := base) T).mono (by decide)) hr (takes_of rfl rfl rfl rfl) rfl (by decide) (da_cons (dn_callD ((ok__law_near (P := P) (w := w) (base := base) T).mono (by decide)) hr (takes_of rfl rfl rfl rfl) rfl (by decide) (da_cons (de_var 0 rfl (by walk_at "vis") (by decide) (by decide)) (da_cons de_int da_nil rfl) rfl) rfl rfl) (da_cons (de_add de_int (dn_callD ((ok__law_draw (P := P) (w := w) (base := base) T).mono (by decide)) hr (takes_of rfl rfl rfl rfl) rfl (by decide) (da_cons (de_var 0 rfl (by walk_at "vis") (by decide) (by decide)) (da_cons de_int da_nil rfl) rfl) rfl rfl)) da_nil rfl) rfl) rfl rfl) rfl (by walk_at "fnn"))
    (dss_cons (ds_set 7 hnd rfl (by walk_at "locs") (de_tup (da_cons (de_mul de_int (de_var 4 rfl (by walk_at "vis") (by decide) (by decide))) (da_cons (de_add de_int (de_mul de_int (dn_callD ((ok__law_draw (P := P) (w := w) (base := base) T).mono (by decide)) hr (takes_of rfl rfl rfl rfl) rfl (by decide) (da_cons (de_var 0 rfl (by walk_at "vis") (by decide) (by decide)) (da_cons de_int da_nil rfl) rfl) rfl rfl))) da_nil rfl) rfl) (by decide)) rfl (by walk_at "fnn"))
    (dss_one (ds_ret (de_ix (de_lst (da_cons (de_var 3 rfl (by walk_at "vis") (by decide) (by decide)) (da_cons (de_tup (da_cons (de_mul (de_var 2 rfl (by walk_at "vis") (by decide) (by decide)) (de_var 1 rfl (by walk_at "vis") (by decide) (by decide))) (da_cons de_int da_nil rfl) rfl) (by decide)) (da_cons (de_tup (da_cons (de_var 2 rfl (by walk_at "vis") (by decide) (by decide)) (da_cons (de_var 1 rfl (by walk_at "vis") (by decide) (by decide)) da_nil rfl) rfl) (by decide)) (da_cons (de_tup (da_cons (de_mul (de_var 2 rfl (by walk_at "vis") (by decide) (by decide)) de_int) (da_cons (de_var 1 rfl (by walk_at "vis") (by decide) (by decide)) da_nil rfl) rfl) (by decide)) (da_cons (de_tup (da_cons (de_mul (de_var 2 rfl (by walk_at "vis") (by decide) (by decide)) (de_var 4 rfl (by walk_at "vis") (by decide) (by decide))) (da_cons de_int da_nil rfl) rfl) (by decide)) (da_cons (de_tup (da_cons de_int (da_cons (de_var 4 rfl (by walk_at "vis") (by decide) (by decide)) da_nil rfl) rfl) (by decide)) (da_cons (de_var 5 rfl (by walk_at "vis") (by decide) (by decide)) (da_cons (de_var 6 rfl (by walk_at "vis") (by decide) (by decide)) (da_cons (de_var 7 rfl (by walk_at "vis") (by decide) (by decide)) (da_cons (de_tup (da_cons de_int (da_cons de_int da_nil rfl) rfl) (by decide)) (da_cons (de_tup (da_cons (de_mul (de_var 2 rfl (by walk_at "vis") (by decide) (by decide)) (de_var 4 rfl (by walk_at "vis") (by decide) (by decide))) (da_cons de_int da_nil rfl) rfl) (by decide)) (da_cons (de_var 6 rfl (by walk_at "vis") (by decide) (by decide)) (da_cons (de_tup (da_cons (de_mul (de_var 2 rfl (by walk_at "vis") (by decide) (by decide)) (de_add (de_mul (de_var 1 rfl (by walk_at "vis") (by decide) (by decide)) de_int) de_int)) (da_cons de_int da_nil rfl) rfl) (by decide)) da_nil rfl) rfl) rfl) rfl) rfl) rfl) rfl) rfl) rfl) rfl) rfl) rfl) rfl) (by decide)) (dn_callD ((ok__law_draw (P := P) (w := w) (base := base) T).mono (by decide)) hr (takes_of rfl rfl rfl rfl) rfl (by decide) (da_cons (de_var 0 rfl (by walk_at "vis") (by decide) (by decide)) (da_cons de_int da_nil rfl) rfl) rfl rfl) (fun _ _ => rfl)))))))))))) w__law_pair
/-! ### _law_counts_right -/
def sp__law_counts_right : SpcD Unit where
  pre := fun _ ds s => ds = [] ∧ 0 ≤ s.a
  res := fun _ o s' => o = .val (.bl true) ∧ 0 ≤ s'.a

def l1__law_counts_right_0 : dS :=
  (sIf (dtNot (dtTru (dCallP (sp__law_same 3) (dCons (dCallP sp_is_count (dCons (dVar 3) (dCons (dVar 1) (dCons (dVar 2) dNil)))) (dCons (dAnd (dOp leF (dVar 1) (dVar 3)) (dOp leF (dVar 3) (dVar 2))) dNil))))) (sRet (dC (.bl false))) sNil)
def l2__law_counts_right_0 : dS :=
  (sIf (dtOr (dtNot (dtTru (dCallP (sp__law_same 3) (dCons (dCallP sp_is_count (dCons (dVar 3) (dCons (dVar 1) (dCons (dVar 2) dNil)))) (dCons (dC (.bl false)) dNil))))) (dtNot (dtTru (dCallP (sp__law_same 3) (dCons (dCallP sp_is_count (dCons (dVar 3) (dCons (dUn negF (dC (.int 2))) (dCons (dC (.int 2)) dNil)))) (dCons (dC (.bl false)) dNil)))))) (sRet (dC (.bl false))) sNil)
def r__law_counts_right_4 : dS :=
  (sRet (dC (.bl true)))
def r__law_counts_right_3 : dS :=
  (sSeq (sFor (srcSeq (dLst (dCons (dC (.bl true)) (dCons (dC (.bl false)) (dCons (dC .non) (dCons (dCB strF (dCons (dVar 1) dNil)) (dCons (dTup (dCons (dVar 1) dNil)) (dCons (dLst (dCons (dVar 1) dNil)) dNil)))))))) (gN 3) (l2__law_counts_right_0)) (r__law_counts_right_4))
def r__law_counts_right_2 : dS :=
  (sSeq (sFor (srcSeq (dLst (dCons (dOp subF (dVar 1) (dC (.int 1))) (dCons (dVar 1) (dCons (dOp addF (dVar 1) (dC (.int 1))) (dCons (dOp subF (dVar 2) (dC (.int 1))) (dCons (dVar 2) (dCons (dOp addF (dVar 2) (dC (.int 1))) (dCons (dOp fdivF (dOp addF (dVar 1) (dVar 2)) (dC (.int 2))) (dCons (dC (.int 0)) (dCons (dC (.int 1)) dNil))))))))))) (gN 3) (l1__law_counts_right_0)) (r__law_counts_right_3))
def r__law_counts_right_1 : dS :=
  (sSeq (sAsg (dOp addF (dVar 1) (dCallD sp__law_near (dCons (dVar 0) (dCons (dOp ixF (dLst (dCons (dC (.int 3)) (dCons (dC (.int 20)) (dCons (dOp powF (dC (.int 10)) (dC (.int 9))) dNil)))) (dCallD sp__law_draw (dCons (dVar 0) (dCons (dC (.int 3)) dNil)))) dNil)))) (gN 2)) (r__law_counts_right_2))
def r__law_counts_right_0 : dS :=
  (sSeq (sAsg (dCallD sp__law_near (dCons (dVar 0) (dCons (dOp ixF (dLst (dCons (dC (.int 3)) (dCons (dC (.int 20)) (dCons (dOp powF (dC (.int 10)) (dC (.int 9))) (dCons (dOp powF (dC (.int 10)) (dC (.int 20))) dNil))))) (dCallD sp__law_draw (dCons (dVar 0) (dCons (dC (.int 4)) dNil)))) dNil))) (gN 1)) (r__law_counts_right_1))
def t__law_counts_right : dS :=
  (r__law_counts_right_0)
theorem len__law_counts_right : ∀ x ds s, sp__law_counts_right.pre x ds s → ds.length + 1 = 1 := fun x ds s h => by rw [h.1]; rfl
theorem cpow20 : CPow 10 20 := ⟨by decide, by decide, by decide⟩
theorem useP_count {d e : D} {lo hi : Int} {h : Hh} {Q : D → Hh → Prop} {E : XK'} (v : View h (fun _ => True) d e) (hn : noA e = true) (q : Q (.bl (countB ⟨e, lo, hi⟩)) h) : useP sp_is_count [d, .int lo, .int hi] h Q E :=
  useP_mk ⟨e, lo, hi⟩ _ (.cons v (Views.pures rfl)) ⟨rfl, hn⟩ (fun o ho _ => by rw [ho]; exact q) (fun _ q => q)
theorem counts_tail {c : List Int} {s : DrS} {j : Hh} {low high : Int} {u : Option D} (hc : s.c = c) (ha : 0 ≤ s.a) (hl : low.natAbs ≤ 10 ^ 20) :
    r__law_counts_right_3 (endD sp__law_counts_right () c) [some (.ref 0), some (.int low), some (.int high), u] (.lst (drD 1 s) :: .lst (c.map .int) :: j) := by
  have lg : low.natAbs.log2 < 1920 := by
    by_cases h : low.natAbs = 0
    · rw [h]; decide
    · exact (Nat.log2_lt h).mpr (Nat.lt_of_le_of_lt hl (by decide))
  simp only [r__law_counts_right_3, dOp, dUn, dVar, dC, slot, startE, List.map, List.length, List.replicate, List.append, List.cons_append, List.nil_append, List.set, dAnd, dOr, dNot, dtB, dtAnd, dtOr, dtNot, dIf, dtTru, truF, dNil, dCons, dTup, dLst, dCB, sNil, sSeq, sRet, sRetN, sExpr, sIf, sAsg, gN, gT, gsNil, gsCons, gS, sPar, sAug, sWhile, sFor, sBrk, sCont, sNo, sRaise, dCallP_eq, dCallD_eq, List.length_map, List.getElem?_cons_succ, List.getElem?_concat_length, set_last, get_mid, get_mid2, eqF, neF, ltF, leF, gtF, geF, isF, notF, addF, subF, mulF, fdivF, modF, powF, negF, ixF, lenF, tupF, lstF, absF, intF, gcdF, maxF, minF, Rs.to, dIsi, dIsi2, dIsE, tyN, D.isNon, dM1, dM0, srcSeq, srcRng1, srcRng2, dLc, tYesD, iaddF, isBF, notBF, srcZip, srcEnumerate, repF, sumF, allF, anyF, intsOf_map, blsOf_map, dSl, dPart, dNoPart, sliceF, at0, at1, at2, at3, at4, ix0, ix1, ix2, ix3, Dn.g0, Dn.g1, Dn.g2, Dn.g3, Dn.g4, ex_some, decide_true, decide_false, Bool.not_true, Bool.not_false, ite_true, ite_false, if_true, if_false, List.reverse_cons, List.reverse_nil, outPost, wipeE, CTg.set, setAll, appF, extF, revF, popF, Nat.zero_add, Nat.reduceAdd, is_NoneType_int, is_NoneType_bool, is_NoneType_str, is_NoneType_tuple, is_NoneType_list, is_bool_int, is_bool_bool, is_bool_str, is_bool_tuple, is_bool_list, is_int_int, is_int_bool, is_int_str, is_int_tuple, is_int_list, is_str_int, is_str_bool, is_str_str, is_str_tuple, is_str_list, is_tuple_int, is_tuple_bool, is_tuple_str, is_tuple_tuple, is_tuple_list, is_list_int, is_list_bool, is_list_str, is_list_tuple, is_list_list, strF, dDct, repLF, is_dict_int, is_dict_bool, is_dict_str, is_dict_tuple, is_dict_list, is_dict_dict, is_NoneType_dict, is_bool_dict, is_int_dict, is_str_dict, is_tuple_dict, is_list_dict]
  refine ⟨lg, ?_⟩
  try simp only [List.getElem?_concat_length, get_mid, dOp, dUn, dVar, dC, slot, startE, List.map, List.length, List.replicate, List.append, List.cons_append, List.nil_append, List.set, dAnd, dOr, dNot, dtB, dtAnd, dtOr, dtNot, dIf, dtTru, truF, dNil, dCons, dTup, dLst, dCB, sNil, sSeq, sRet, sRetN, sExpr, sIf, sAsg, gN, gT, gsNil, gsCons, gS, sPar, sAug, sWhile, sFor, sBrk, sCont, sNo, sRaise, dCallP_eq, dCallD_eq, List.length_map, List.getElem?_cons_succ, List.getElem?_concat_length, set_last, get_mid, get_mid2, eqF, neF, ltF, leF, gtF, geF, isF, notF, addF, subF, mulF, fdivF, modF, powF, negF, ixF, lenF, tupF, lstF, absF, intF, gcdF, maxF, minF, Rs.to, dIsi, dIsi2, dIsE, tyN, D.isNon, dM1, dM0, srcSeq, srcRng1, srcRng2, dLc, tYesD, iaddF, isBF, notBF, srcZip, srcEnumerate, repF, sumF, allF, anyF, intsOf_map, blsOf_map, dSl, dPart, dNoPart, sliceF, at0, at1, at2, at3, at4, ix0, ix1, ix2, ix3, Dn.g0, Dn.g1, Dn.g2, Dn.g3, Dn.g4, ex_some, decide_true, decide_false, Bool.not_true, Bool.not_false, ite_true, ite_false, if_true, if_false, List.reverse_cons, List.reverse_nil, outPost, wipeE, CTg.set, setAll, appF, extF, revF, popF, Nat.zero_add, Nat.reduceAdd, is_NoneType_int, is_NoneType_bool, is_NoneType_str, is_NoneType_tuple, is_NoneType_list, is_bool_int, is_bool_bool, is_bool_str, is_bool_tuple, is_bool_list, is_int_int, is_int_bool, is_int_str, is_int_tuple, is_int_list, is_str_int, is_str_bool, is_str_str, is_str_tuple, is_str_list, is_tuple_int, is_tuple_bool, is_tuple_str, is_tuple_tuple, is_tuple_list, is_list_int, is_list_bool, is_list_str, is_list_tuple, is_list_list, strF, dDct, repLF, is_dict_int, is_dict_bool, is_dict_str, is_dict_tuple, is_dict_list, is_dict_dict, is_NoneType_dict, is_bool_dict, is_int_dict, is_str_dict, is_tuple_dict, is_list_dict]
  refine ⟨fun i e h => (∃ u, e = [some (.ref 0), some (.int low), some (.int high), u]) ∧ h = _, ⟨⟨_, rfl⟩, rfl⟩, ?_, ?_, ?_⟩
  · rintro i e h hi ⟨_, rfl⟩
    simp only [List.getElem?_concat_length, get_mid, dOp, dUn, dVar, dC, slot, startE, List.map, List.length, List.replicate, List.append, List.cons_append, List.nil_append, List.set, dAnd, dOr, dNot, dtB, dtAnd, dtOr, dtNot, dIf, dtTru, truF, dNil, dCons, dTup, dLst, dCB, sNil, sSeq, sRet, sRetN, sExpr, sIf, sAsg, gN, gT, gsNil, gsCons, gS, sPar, sAug, sWhile, sFor, sBrk, sCont, sNo, sRaise, dCallP_eq, dCallD_eq, List.length_map, List.getElem?_cons_succ, List.getElem?_concat_length, set_last, get_mid, get_mid2, eqF, neF, ltF, leF, gtF, geF, isF, notF, addF, subF, mulF, fdivF, modF, powF, negF, ixF, lenF, tupF, lstF, absF, intF, gcdF, maxF, minF, Rs.to, dIsi, dIsi2, dIsE, tyN, D.isNon, dM1, dM0, srcSeq, srcRng1, srcRng2, dLc, tYesD, iaddF, isBF, notBF, srcZip, srcEnumerate, repF, sumF, allF, anyF, intsOf_map, blsOf_map, dSl, dPart, dNoPart, sliceF, at0, at1, at2, at3, at4, ix0, ix1, ix2, ix3, Dn.g0, Dn.g1, Dn.g2, Dn.g3, Dn.g4, ex_some, decide_true, decide_false, Bool.not_true, Bool.not_false, ite_true, ite_false, if_true, if_false, List.reverse_cons, List.reverse_nil, outPost, wipeE, CTg.set, setAll, appF, extF, revF, popF, Nat.zero_add, Nat.reduceAdd, is_NoneType_int, is_NoneType_bool, is_NoneType_str, is_NoneType_tuple, is_NoneType_list, is_bool_int, is_bool_bool, is_bool_str, is_bool_tuple, is_bool_list, is_int_int, is_int_bool, is_int_str, is_int_tuple, is_int_list, is_str_int, is_str_bool, is_str_str, is_str_tuple, is_str_list, is_tuple_int, is_tuple_bool, is_tuple_str, is_tuple_tuple, is_tuple_list, is_list_int, is_list_bool, is_list_str, is_list_tuple, is_list_list, strF, dDct, repLF, is_dict_int, is_dict_bool, is_dict_str, is_dict_tuple, is_dict_list, is_dict_dict, is_NoneType_dict, is_bool_dict, is_int_dict, is_str_dict, is_tuple_dict, is_list_dict]
  · rintro i x e h hx ⟨⟨u, rfl⟩, hh⟩
    have hm := List.mem_of_getElem? hx
    simp only [List.mem_cons, List.not_mem_nil, or_false] at hm
    obtain ⟨e, v, hn, hb⟩ : ∃ e, View h (fun _ => True) x e ∧ noA e = true ∧ ∀ lo hi, countB ⟨e, lo, hi⟩ = false := by
      rcases hm with rfl | rfl | rfl | rfl | rfl | rfl
      · exact ⟨_, .pure rfl, rfl, fun _ _ => rfl⟩
      · exact ⟨_, .pure rfl, rfl, fun _ _ => rfl⟩
      · exact ⟨_, .pure rfl, rfl, fun _ _ => rfl⟩
      · exact ⟨_, .pure rfl, rfl, fun _ _ => rfl⟩
      · exact ⟨_, .pure rfl, rfl, fun _ _ => rfl⟩
      · exact ⟨.lst [.int low], .own (ds := [.int low]) (by rw [hh]; first | rfl | simp only [List.getElem?_concat_length, get_mid, dOp, dUn, dVar, dC, slot, startE, List.map, List.length, List.replicate, List.append, List.cons_append, List.nil_append, List.set, dAnd, dOr, dNot, dtB, dtAnd, dtOr, dtNot, dIf, dtTru, truF, dNil, dCons, dTup, dLst, dCB, sNil, sSeq, sRet, sRetN, sExpr, sIf, sAsg, gN, gT, gsNil, gsCons, gS, sPar, sAug, sWhile, sFor, sBrk, sCont, sNo, sRaise, dCallP_eq, dCallD_eq, List.length_map, List.getElem?_cons_succ, List.getElem?_concat_length, set_last, get_mid, get_mid2, eqF, neF, ltF, leF, gtF, geF, isF, notF, addF, subF, mulF, fdivF, modF, powF, negF, ixF, lenF, tupF, lstF, absF, intF, gcdF, maxF, minF, Rs.to, dIsi, dIsi2, dIsE, tyN, D.isNon, dM1, dM0, srcSeq, srcRng1, srcRng2, dLc, tYesD, iaddF, isBF, notBF, srcZip, srcEnumerate, repF, sumF, allF, anyF, intsOf_map, blsOf_map, dSl, dPart, dNoPart, sliceF, at0, at1, at2, at3, at4, ix0, ix1, ix2, ix3, Dn.g0, Dn.g1, Dn.g2, Dn.g3, Dn.g4, ex_some, decide_true, decide_false, Bool.not_true, Bool.not_false, ite_true, ite_false, if_true, if_false, List.reverse_cons, List.reverse_nil, outPost, wipeE, CTg.set, setAll, appF, extF, revF, popF, Nat.zero_add, Nat.reduceAdd, is_NoneType_int, is_NoneType_bool, is_NoneType_str, is_NoneType_tuple, is_NoneType_list, is_bool_int, is_bool_bool, is_bool_str, is_bool_tuple, is_bool_list, is_int_int, is_int_bool, is_int_str, is_int_tuple, is_int_list, is_str_int, is_str_bool, is_str_str, is_str_tuple, is_str_list, is_tuple_int, is_tuple_bool, is_tuple_str, is_tuple_tuple, is_tuple_list, is_list_int, is_list_bool, is_list_str, is_list_tuple, is_list_list, strF, dDct, repLF, is_dict_int, is_dict_bool, is_dict_str, is_dict_tuple, is_dict_list, is_dict_dict, is_NoneType_dict, is_bool_dict, is_int_dict, is_str_dict, is_tuple_dict, is_list_dict]) trivial (Views.pures rfl), rfl, fun _ _ => rfl⟩
    simp only [l2__law_counts_right_0, dOp, dUn, dVar, dC, slot, startE, List.map, List.length, List.replicate, List.append, List.cons_append, List.nil_append, List.set, dAnd, dOr, dNot, dtB, dtAnd, dtOr, dtNot, dIf, dtTru, truF, dNil, dCons, dTup, dLst, dCB, sNil, sSeq, sRet, sRetN, sExpr, sIf, sAsg, gN, gT, gsNil, gsCons, gS, sPar, sAug, sWhile, sFor, sBrk, sCont, sNo, sRaise, dCallP_eq, dCallD_eq, List.length_map, List.getElem?_cons_succ, List.getElem?_concat_length, set_last, get_mid, get_mid2, eqF, neF, ltF, leF, gtF, geF, isF, notF, addF, subF, mulF, fdivF, modF, powF, negF, ixF, lenF, tupF, lstF, absF, intF, gcdF, maxF, minF, Rs.to, dIsi, dIsi2, dIsE, tyN, D.isNon, dM1, dM0, srcSeq, srcRng1, srcRng2, dLc, tYesD, iaddF, isBF, notBF, srcZip, srcEnumerate, repF, sumF, allF, anyF, intsOf_map, blsOf_map, dSl, dPart, dNoPart, sliceF, at0, at1, at2, at3, at4, ix0, ix1, ix2, ix3, Dn.g0, Dn.g1, Dn.g2, Dn.g3, Dn.g4, ex_some, decide_true, decide_false, Bool.not_true, Bool.not_false, ite_true, ite_false, if_true, if_false, List.reverse_cons, List.reverse_nil, outPost, wipeE, CTg.set, setAll, appF, extF, revF, popF, Nat.zero_add, Nat.reduceAdd, is_NoneType_int, is_NoneType_bool, is_NoneType_str, is_NoneType_tuple, is_NoneType_list, is_bool_int, is_bool_bool, is_bool_str, is_bool_tuple, is_bool_list, is_int_int, is_int_bool, is_int_str, is_int_tuple, is_int_list, is_str_int, is_str_bool, is_str_str, is_str_tuple, is_str_list, is_tuple_int, is_tuple_bool, is_tuple_str, is_tuple_tuple, is_tuple_list, is_list_int, is_list_bool, is_list_str, is_list_tuple, is_list_list, strF, dDct, repLF, is_dict_int, is_dict_bool, is_dict_str, is_dict_tuple, is_dict_list, is_dict_dict, is_NoneType_dict, is_bool_dict, is_int_dict, is_str_dict, is_tuple_dict, is_list_dict]
    refine useP_count v hn (useP_same (hb _ _) ?_)
    simp only [dOp, dUn, dVar, dC, slot, startE, List.map, List.length, List.replicate, List.append, List.cons_append, List.nil_append, List.set, dAnd, dOr, dNot, dtB, dtAnd, dtOr, dtNot, dIf, dtTru, truF, dNil, dCons, dTup, dLst, dCB, sNil, sSeq, sRet, sRetN, sExpr, sIf, sAsg, gN, gT, gsNil, gsCons, gS, sPar, sAug, sWhile, sFor, sBrk, sCont, sNo, sRaise, dCallP_eq, dCallD_eq, List.length_map, List.getElem?_cons_succ, List.getElem?_concat_length, set_last, get_mid, get_mid2, eqF, neF, ltF, leF, gtF, geF, isF, notF, addF, subF, mulF, fdivF, modF, powF, negF, ixF, lenF, tupF, lstF, absF, intF, gcdF, maxF, minF, Rs.to, dIsi, dIsi2, dIsE, tyN, D.isNon, dM1, dM0, srcSeq, srcRng1, srcRng2, dLc, tYesD, iaddF, isBF, notBF, srcZip, srcEnumerate, repF, sumF, allF, anyF, intsOf_map, blsOf_map, dSl, dPart, dNoPart, sliceF, at0, at1, at2, at3, at4, ix0, ix1, ix2, ix3, Dn.g0, Dn.g1, Dn.g2, Dn.g3, Dn.g4, ex_some, decide_true, decide_false, Bool.not_true, Bool.not_false, ite_true, ite_false, if_true, if_false, List.reverse_cons, List.reverse_nil, outPost, wipeE, CTg.set, setAll, appF, extF, revF, popF, Nat.zero_add, Nat.reduceAdd, is_NoneType_int, is_NoneType_bool, is_NoneType_str, is_NoneType_tuple, is_NoneType_list, is_bool_int, is_bool_bool, is_bool_str, is_bool_tuple, is_bool_list, is_int_int, is_int_bool, is_int_str, is_int_tuple, is_int_list, is_str_int, is_str_bool, is_str_str, is_str_tuple, is_str_list, is_tuple_int, is_tuple_bool, is_tuple_str, is_tuple_tuple, is_tuple_list, is_list_int, is_list_bool, is_list_str, is_list_tuple, is_list_list, strF, dDct, repLF, is_dict_int, is_dict_bool, is_dict_str, is_dict_tuple, is_dict_list, is_dict_dict, is_NoneType_dict, is_bool_dict, is_int_dict, is_str_dict, is_tuple_dict, is_list_dict]
    refine useP_count v hn (useP_same (hb _ _) ?_)
    simp only [dOp, dUn, dVar, dC, slot, startE, List.map, List.length, List.replicate, List.append, List.cons_append, List.nil_append, List.set, dAnd, dOr, dNot, dtB, dtAnd, dtOr, dtNot, dIf, dtTru, truF, dNil, dCons, dTup, dLst, dCB, sNil, sSeq, sRet, sRetN, sExpr, sIf, sAsg, gN, gT, gsNil, gsCons, gS, sPar, sAug, sWhile, sFor, sBrk, sCont, sNo, sRaise, dCallP_eq, dCallD_eq, List.length_map, List.getElem?_cons_succ, List.getElem?_concat_length, set_last, get_mid, get_mid2, eqF, neF, ltF, leF, gtF, geF, isF, notF, addF, subF, mulF, fdivF, modF, powF, negF, ixF, lenF, tupF, lstF, absF, intF, gcdF, maxF, minF, Rs.to, dIsi, dIsi2, dIsE, tyN, D.isNon, dM1, dM0, srcSeq, srcRng1, srcRng2, dLc, tYesD, iaddF, isBF, notBF, srcZip, srcEnumerate, repF, sumF, allF, anyF, intsOf_map, blsOf_map, dSl, dPart, dNoPart, sliceF, at0, at1, at2, at3, at4, ix0, ix1, ix2, ix3, Dn.g0, Dn.g1, Dn.g2, Dn.g3, Dn.g4, ex_some, decide_true, decide_false, Bool.not_true, Bool.not_false, ite_true, ite_false, if_true, if_false, List.reverse_cons, List.reverse_nil, outPost, wipeE, CTg.set, setAll, appF, extF, revF, popF, Nat.zero_add, Nat.reduceAdd, is_NoneType_int, is_NoneType_bool, is_NoneType_str, is_NoneType_tuple, is_NoneType_list, is_bool_int, is_bool_bool, is_bool_str, is_bool_tuple, is_bool_list, is_int_int, is_int_bool, is_int_str, is_int_tuple, is_int_list, is_str_int, is_str_bool, is_str_str, is_str_tuple, is_str_list, is_tuple_int, is_tuple_bool, is_tuple_str, is_tuple_tuple, is_tuple_list, is_list_int, is_list_bool, is_list_str, is_list_tuple, is_list_list, strF, dDct, repLF, is_dict_int, is_dict_bool, is_dict_str, is_dict_tuple, is_dict_list, is_dict_dict, is_NoneType_dict, is_bool_dict, is_int_dict, is_str_dict, is_tuple_dict, is_list_dict]
    exact ⟨⟨_, rfl⟩, hh⟩
  · rintro e h ⟨⟨u, rfl⟩, rfl⟩
    simp only [r__law_counts_right_4, dOp, dUn, dVar, dC, slot, startE, List.map, List.length, List.replicate, List.append, List.cons_append, List.nil_append, List.set, dAnd, dOr, dNot, dtB, dtAnd, dtOr, dtNot, dIf, dtTru, truF, dNil, dCons, dTup, dLst, dCB, sNil, sSeq, sRet, sRetN, sExpr, sIf, sAsg, gN, gT, gsNil, gsCons, gS, sPar, sAug, sWhile, sFor, sBrk, sCont, sNo, sRaise, dCallP_eq, dCallD_eq, List.length_map, List.getElem?_cons_succ, List.getElem?_concat_length, set_last, get_mid, get_mid2, eqF, neF, ltF, leF, gtF, geF, isF, notF, addF, subF, mulF, fdivF, modF, powF, negF, ixF, lenF, tupF, lstF, absF, intF, gcdF, maxF, minF, Rs.to, dIsi, dIsi2, dIsE, tyN, D.isNon, dM1, dM0, srcSeq, srcRng1, srcRng2, dLc, tYesD, iaddF, isBF, notBF, srcZip, srcEnumerate, repF, sumF, allF, anyF, intsOf_map, blsOf_map, dSl, dPart, dNoPart, sliceF, at0, at1, at2, at3, at4, ix0, ix1, ix2, ix3, Dn.g0, Dn.g1, Dn.g2, Dn.g3, Dn.g4, ex_some, decide_true, decide_false, Bool.not_true, Bool.not_false, ite_true, ite_false, if_true, if_false, List.reverse_cons, List.reverse_nil, outPost, wipeE, CTg.set, setAll, appF, extF, revF, popF, Nat.zero_add, Nat.reduceAdd, is_NoneType_int, is_NoneType_bool, is_NoneType_str, is_NoneType_tuple, is_NoneType_list, is_bool_int, is_bool_bool, is_bool_str, is_bool_tuple, is_bool_list, is_int_int, is_int_bool, is_int_str, is_int_tuple, is_int_list, is_str_int, is_str_bool, is_str_str, is_str_tuple, is_str_list, is_tuple_int, is_tuple_bool, is_tuple_str, is_tuple_tuple, is_tuple_list, is_list_int, is_list_bool, is_list_str, is_list_tuple, is_list_list, strF, dDct, repLF, is_dict_int, is_dict_bool, is_dict_str, is_dict_tuple, is_dict_list, is_dict_dict, is_NoneType_dict, is_bool_dict, is_int_dict, is_str_dict, is_tuple_dict, is_list_dict]
    exact rtD_val s hc rfl rfl rfl ⟨rfl, ha⟩
theorem w__law_counts_right : ∀ x ds s, sp__law_counts_right.pre x ds s → t__law_counts_right (endD sp__law_counts_right x s.c) (startE nm__law_counts_right.length (.ref 0 :: ds)) [.lst (drD 1 s), .lst (s.c.map .int)] := by
  rintro x ds s ⟨rfl, h3⟩
  simp only [t__law_counts_right , r__law_counts_right_0, nm__law_counts_right, dOp, dUn, dVar, dC, slot, startE, List.map, List.length, List.replicate, List.append, List.cons_append, List.nil_append, List.set, dAnd, dOr, dNot, dtB, dtAnd, dtOr, dtNot, dIf, dtTru, truF, dNil, dCons, dTup, dLst, dCB, sNil, sSeq, sRet, sRetN, sExpr, sIf, sAsg, gN, gT, gsNil, gsCons, gS, sPar, sAug, sWhile, sFor, sBrk, sCont, sNo, sRaise, dCallP_eq, dCallD_eq, List.length_map, List.getElem?_cons_succ, List.getElem?_concat_length, set_last, get_mid, get_mid2, eqF, neF, ltF, leF, gtF, geF, isF, notF, addF, subF, mulF, fdivF, modF, powF, negF, ixF, lenF, tupF, lstF, absF, intF, gcdF, maxF, minF, Rs.to, dIsi, dIsi2, dIsE, tyN, D.isNon, dM1, dM0, srcSeq, srcRng1, srcRng2, dLc, tYesD, iaddF, isBF, notBF, srcZip, srcEnumerate, repF, sumF, allF, anyF, intsOf_map, blsOf_map, dSl, dPart, dNoPart, sliceF, at0, at1, at2, at3, at4, ix0, ix1, ix2, ix3, Dn.g0, Dn.g1, Dn.g2, Dn.g3, Dn.g4, ex_some, decide_true, decide_false, Bool.not_true, Bool.not_false, ite_true, ite_false, if_true, if_false, List.reverse_cons, List.reverse_nil, outPost, wipeE, CTg.set, setAll, appF, extF, revF, popF, Nat.zero_add, Nat.reduceAdd, is_NoneType_int, is_NoneType_bool, is_NoneType_str, is_NoneType_tuple, is_NoneType_list, is_bool_int, is_bool_bool, is_bool_str, is_bool_tuple, is_bool_list, is_int_int, is_int_bool, is_int_str, is_int_tuple, is_int_list, is_str_int, is_str_bool, is_str_str, is_str_tuple, is_str_list, is_tuple_int, is_tuple_bool, is_tuple_str, is_tuple_tuple, is_tuple_list, is_list_int, is_list_bool, is_list_str, is_list_tuple, is_list_list, strF, dDct, repLF, is_dict_int, is_dict_bool, is_dict_str, is_dict_tuple, is_dict_list, is_dict_dict, is_NoneType_dict, is_bool_dict, is_int_dict, is_str_dict, is_tuple_dict, is_list_dict]
  refine ⟨cpow9, cpow20, ?_⟩
  refine useD_01 4 rfl rfl ⟨rfl, by decide, bt_lit (by decide) (by decide), h3⟩ ?_
  rintro o s1 ⟨v, rfl, v0, v1, a1⟩ hc1
  refine ⟨_, rfl, ?_⟩
  obtain ⟨d, hd, e⟩ := at_mem (l := [D.int 3, D.int 20, D.int (10 ^ Int.toNat 9), D.int (10 ^ Int.toNat 20)]) v0 v1
  obtain ⟨m, rfl, m1, m2⟩ : ∃ m : Int, d = .int m ∧ 0 ≤ m ∧ m ≤ 10 ^ 20 := by
    simp only [List.mem_cons, List.not_mem_nil, or_false] at hd
    rcases hd with rfl | rfl | rfl | rfl <;> exact ⟨_, rfl, by decide, by decide⟩
  simp only [e, dOp, dUn, dVar, dC, slot, startE, List.map, List.length, List.replicate, List.append, List.cons_append, List.nil_append, List.set, dAnd, dOr, dNot, dtB, dtAnd, dtOr, dtNot, dIf, dtTru, truF, dNil, dCons, dTup, dLst, dCB, sNil, sSeq, sRet, sRetN, sExpr, sIf, sAsg, gN, gT, gsNil, gsCons, gS, sPar, sAug, sWhile, sFor, sBrk, sCont, sNo, sRaise, dCallP_eq, dCallD_eq, List.length_map, List.getElem?_cons_succ, List.getElem?_concat_length, set_last, get_mid, get_mid2, eqF, neF, ltF, leF, gtF, geF, isF, notF, addF, subF, mulF, fdivF, modF, powF, negF, ixF, lenF, tupF, lstF, absF, intF, gcdF, maxF, minF, Rs.to, dIsi, dIsi2, dIsE, tyN, D.isNon, dM1, dM0, srcSeq, srcRng1, srcRng2, dLc, tYesD, iaddF, isBF, notBF, srcZip, srcEnumerate, repF, sumF, allF, anyF, intsOf_map, blsOf_map, dSl, dPart, dNoPart, sliceF, at0, at1, at2, at3, at4, ix0, ix1, ix2, ix3, Dn.g0, Dn.g1, Dn.g2, Dn.g3, Dn.g4, ex_some, decide_true, decide_false, Bool.not_true, Bool.not_false, ite_true, ite_false, if_true, if_false, List.reverse_cons, List.reverse_nil, outPost, wipeE, CTg.set, setAll, appF, extF, revF, popF, Nat.zero_add, Nat.reduceAdd, is_NoneType_int, is_NoneType_bool, is_NoneType_str, is_NoneType_tuple, is_NoneType_list, is_bool_int, is_bool_bool, is_bool_str, is_bool_tuple, is_bool_list, is_int_int, is_int_bool, is_int_str, is_int_tuple, is_int_list, is_str_int, is_str_bool, is_str_str, is_str_tuple, is_str_list, is_tuple_int, is_tuple_bool, is_tuple_str, is_tuple_tuple, is_tuple_list, is_list_int, is_list_bool, is_list_str, is_list_tuple, is_list_list, strF, dDct, repLF, is_dict_int, is_dict_bool, is_dict_str, is_dict_tuple, is_dict_list, is_dict_dict, is_NoneType_dict, is_bool_dict, is_int_dict, is_str_dict, is_tuple_dict, is_list_dict]
  refine useD_01 m hc1 rfl ⟨rfl, m1, m2, a1⟩ ?_
  rintro o s2 ⟨low, rfl, l0, l1, a2⟩ hc2
  refine ⟨_, rfl, ?_⟩
  simp only [r__law_counts_right_1, dOp, dUn, dVar, dC, slot, startE, List.map, List.length, List.replicate, List.append, List.cons_append, List.nil_append, List.set, dAnd, dOr, dNot, dtB, dtAnd, dtOr, dtNot, dIf, dtTru, truF, dNil, dCons, dTup, dLst, dCB, sNil, sSeq, sRet, sRetN, sExpr, sIf, sAsg, gN, gT, gsNil, gsCons, gS, sPar, sAug, sWhile, sFor, sBrk, sCont, sNo, sRaise, dCallP_eq, dCallD_eq, List.length_map, List.getElem?_cons_succ, List.getElem?_concat_length, set_last, get_mid, get_mid2, eqF, neF, ltF, leF, gtF, geF, isF, notF, addF, subF, mulF, fdivF, modF, powF, negF, ixF, lenF, tupF, lstF, absF, intF, gcdF, maxF, minF, Rs.to, dIsi, dIsi2, dIsE, tyN, D.isNon, dM1, dM0, srcSeq, srcRng1, srcRng2, dLc, tYesD, iaddF, isBF, notBF, srcZip, srcEnumerate, repF, sumF, allF, anyF, intsOf_map, blsOf_map, dSl, dPart, dNoPart, sliceF, at0, at1, at2, at3, at4, ix0, ix1, ix2, ix3, Dn.g0, Dn.g1, Dn.g2, Dn.g3, Dn.g4, ex_some, decide_true, decide_false, Bool.not_true, Bool.not_false, ite_true, ite_false, if_true, if_false, List.reverse_cons, List.reverse_nil, outPost, wipeE, CTg.set, setAll, appF, extF, revF, popF, Nat.zero_add, Nat.reduceAdd, is_NoneType_int, is_NoneType_bool, is_NoneType_str, is_NoneType_tuple, is_NoneType_list, is_bool_int, is_bool_bool, is_bool_str, is_bool_tuple, is_bool_list, is_int_int, is_int_bool, is_int_str, is_int_tuple, is_int_list, is_str_int, is_str_bool, is_str_str, is_str_tuple, is_str_list, is_tuple_int, is_tuple_bool, is_tuple_str, is_tuple_tuple, is_tuple_list, is_list_int, is_list_bool, is_list_str, is_list_tuple, is_list_list, strF, dDct, repLF, is_dict_int, is_dict_bool, is_dict_str, is_dict_tuple, is_dict_list, is_dict_dict, is_NoneType_dict, is_bool_dict, is_int_dict, is_str_dict, is_tuple_dict, is_list_dict]
  refine ⟨cpow9, ?_⟩
  refine useD_01 3 hc2 rfl ⟨rfl, by decide, bt_lit (by decide) (by decide), a2⟩ ?_
  rintro o s3 ⟨v, rfl, v0, v1, a3⟩ hc3
  refine ⟨_, rfl, ?_⟩
  obtain ⟨d, hd, e⟩ := at_mem (l := [D.int 3, D.int 20, D.int (10 ^ Int.toNat 9)]) v0 v1
  obtain ⟨m', rfl, m1', m2'⟩ : ∃ m : Int, d = .int m ∧ 0 ≤ m ∧ m ≤ 10 ^ 20 := by
    simp only [List.mem_cons, List.not_mem_nil, or_false] at hd
    rcases hd with rfl | rfl | rfl <;> exact ⟨_, rfl, by decide, by decide⟩
  simp only [e, dOp, dUn, dVar, dC, slot, startE, List.map, List.length, List.replicate, List.append, List.cons_append, List.nil_append, List.set, dAnd, dOr, dNot, dtB, dtAnd, dtOr, dtNot, dIf, dtTru, truF, dNil, dCons, dTup, dLst, dCB, sNil, sSeq, sRet, sRetN, sExpr, sIf, sAsg, gN, gT, gsNil, gsCons, gS, sPar, sAug, sWhile, sFor, sBrk, sCont, sNo, sRaise, dCallP_eq, dCallD_eq, List.length_map, List.getElem?_cons_succ, List.getElem?_concat_length, set_last, get_mid, get_mid2, eqF, neF, ltF, leF, gtF, geF, isF, notF, addF, subF, mulF, fdivF, modF, powF, negF, ixF, lenF, tupF, lstF, absF, intF, gcdF, maxF, minF, Rs.to, dIsi, dIsi2, dIsE, tyN, D.isNon, dM1, dM0, srcSeq, srcRng1, srcRng2, dLc, tYesD, iaddF, isBF, notBF, srcZip, srcEnumerate, repF, sumF, allF, anyF, intsOf_map, blsOf_map, dSl, dPart, dNoPart, sliceF, at0, at1, at2, at3, at4, ix0, ix1, ix2, ix3, Dn.g0, Dn.g1, Dn.g2, Dn.g3, Dn.g4, ex_some, decide_true, decide_false, Bool.not_true, Bool.not_false, ite_true, ite_false, if_true, if_false, List.reverse_cons, List.reverse_nil, outPost, wipeE, CTg.set, setAll, appF, extF, revF, popF, Nat.zero_add, Nat.reduceAdd, is_NoneType_int, is_NoneType_bool, is_NoneType_str, is_NoneType_tuple, is_NoneType_list, is_bool_int, is_bool_bool, is_bool_str, is_bool_tuple, is_bool_list, is_int_int, is_int_bool, is_int_str, is_int_tuple, is_int_list, is_str_int, is_str_bool, is_str_str, is_str_tuple, is_str_list, is_tuple_int, is_tuple_bool, is_tuple_str, is_tuple_tuple, is_tuple_list, is_list_int, is_list_bool, is_list_str, is_list_tuple, is_list_list, strF, dDct, repLF, is_dict_int, is_dict_bool, is_dict_str, is_dict_tuple, is_dict_list, is_dict_dict, is_NoneType_dict, is_bool_dict, is_int_dict, is_str_dict, is_tuple_dict, is_list_dict]
  refine useD_01 m' hc3 rfl ⟨rfl, m1', m2', a3⟩ ?_
  rintro o s4 ⟨k, rfl, k0, k1, a4⟩ hc4
  refine ⟨_, rfl, ?_⟩
  simp only [r__law_counts_right_2, dOp, dUn, dVar, dC, slot, startE, List.map, List.length, List.replicate, List.append, List.cons_append, List.nil_append, List.set, dAnd, dOr, dNot, dtB, dtAnd, dtOr, dtNot, dIf, dtTru, truF, dNil, dCons, dTup, dLst, dCB, sNil, sSeq, sRet, sRetN, sExpr, sIf, sAsg, gN, gT, gsNil, gsCons, gS, sPar, sAug, sWhile, sFor, sBrk, sCont, sNo, sRaise, dCallP_eq, dCallD_eq, List.length_map, List.getElem?_cons_succ, List.getElem?_concat_length, set_last, get_mid, get_mid2, eqF, neF, ltF, leF, gtF, geF, isF, notF, addF, subF, mulF, fdivF, modF, powF, negF, ixF, lenF, tupF, lstF, absF, intF, gcdF, maxF, minF, Rs.to, dIsi, dIsi2, dIsE, tyN, D.isNon, dM1, dM0, srcSeq, srcRng1, srcRng2, dLc, tYesD, iaddF, isBF, notBF, srcZip, srcEnumerate, repF, sumF, allF, anyF, intsOf_map, blsOf_map, dSl, dPart, dNoPart, sliceF, at0, at1, at2, at3, at4, ix0, ix1, ix2, ix3, Dn.g0, Dn.g1, Dn.g2, Dn.g3, Dn.g4, ex_some, decide_true, decide_false, Bool.not_true, Bool.not_false, ite_true, ite_false, if_true, if_false, List.reverse_cons, List.reverse_nil, outPost, wipeE, CTg.set, setAll, appF, extF, revF, popF, Nat.zero_add, Nat.reduceAdd, is_NoneType_int, is_NoneType_bool, is_NoneType_str, is_NoneType_tuple, is_NoneType_list, is_bool_int, is_bool_bool, is_bool_str, is_bool_tuple, is_bool_list, is_int_int, is_int_bool, is_int_str, is_int_tuple, is_int_list, is_str_int, is_str_bool, is_str_str, is_str_tuple, is_str_list, is_tuple_int, is_tuple_bool, is_tuple_str, is_tuple_tuple, is_tuple_list, is_list_int, is_list_bool, is_list_str, is_list_tuple, is_list_list, strF, dDct, repLF, is_dict_int, is_dict_bool, is_dict_str, is_dict_tuple, is_dict_list, is_dict_dict, is_NoneType_dict, is_bool_dict, is_int_dict, is_str_dict, is_tuple_dict, is_list_dict]
  generalize low + k = high
  refine ⟨bt_small (by decide) (by decide), ?_⟩
  refine ⟨fun i e h => (∃ u, e = [some (.ref 0), some (.int low), some (.int high), u]) ∧ h = _, ⟨⟨_, rfl⟩, rfl⟩, ?_, ?_, ?_⟩
  · rintro i e h hi ⟨_, rfl⟩
    simp only [dOp, dUn, dVar, dC, slot, startE, List.map, List.length, List.replicate, List.append, List.cons_append, List.nil_append, List.set, dAnd, dOr, dNot, dtB, dtAnd, dtOr, dtNot, dIf, dtTru, truF, dNil, dCons, dTup, dLst, dCB, sNil, sSeq, sRet, sRetN, sExpr, sIf, sAsg, gN, gT, gsNil, gsCons, gS, sPar, sAug, sWhile, sFor, sBrk, sCont, sNo, sRaise, dCallP_eq, dCallD_eq, List.length_map, List.getElem?_cons_succ, List.getElem?_concat_length, set_last, get_mid, get_mid2, eqF, neF, ltF, leF, gtF, geF, isF, notF, addF, subF, mulF, fdivF, modF, powF, negF, ixF, lenF, tupF, lstF, absF, intF, gcdF, maxF, minF, Rs.to, dIsi, dIsi2, dIsE, tyN, D.isNon, dM1, dM0, srcSeq, srcRng1, srcRng2, dLc, tYesD, iaddF, isBF, notBF, srcZip, srcEnumerate, repF, sumF, allF, anyF, intsOf_map, blsOf_map, dSl, dPart, dNoPart, sliceF, at0, at1, at2, at3, at4, ix0, ix1, ix2, ix3, Dn.g0, Dn.g1, Dn.g2, Dn.g3, Dn.g4, ex_some, decide_true, decide_false, Bool.not_true, Bool.not_false, ite_true, ite_false, if_true, if_false, List.reverse_cons, List.reverse_nil, outPost, wipeE, CTg.set, setAll, appF, extF, revF, popF, Nat.zero_add, Nat.reduceAdd, is_NoneType_int, is_NoneType_bool, is_NoneType_str, is_NoneType_tuple, is_NoneType_list, is_bool_int, is_bool_bool, is_bool_str, is_bool_tuple, is_bool_list, is_int_int, is_int_bool, is_int_str, is_int_tuple, is_int_list, is_str_int, is_str_bool, is_str_str, is_str_tuple, is_str_list, is_tuple_int, is_tuple_bool, is_tuple_str, is_tuple_tuple, is_tuple_list, is_list_int, is_list_bool, is_list_str, is_list_tuple, is_list_list, strF, dDct, repLF, is_dict_int, is_dict_bool, is_dict_str, is_dict_tuple, is_dict_list, is_dict_dict, is_NoneType_dict, is_bool_dict, is_int_dict, is_str_dict, is_tuple_dict, is_list_dict]
  · rintro i x e h hx ⟨⟨u, rfl⟩, rfl⟩
    have hm := List.mem_of_getElem? hx
    simp only [List.mem_cons, List.not_mem_nil, or_false] at hm
    obtain ⟨k, rfl⟩ : ∃ k, x = D.int k := by
      rcases hm with rfl | rfl | rfl | rfl | rfl | rfl | rfl | rfl | rfl <;> exact ⟨_, rfl⟩
    simp only [l1__law_counts_right_0, dOp, dUn, dVar, dC, slot, startE, List.map, List.length, List.replicate, List.append, List.cons_append, List.nil_append, List.set, dAnd, dOr, dNot, dtB, dtAnd, dtOr, dtNot, dIf, dtTru, truF, dNil, dCons, dTup, dLst, dCB, sNil, sSeq, sRet, sRetN, sExpr, sIf, sAsg, gN, gT, gsNil, gsCons, gS, sPar, sAug, sWhile, sFor, sBrk, sCont, sNo, sRaise, dCallP_eq, dCallD_eq, List.length_map, List.getElem?_cons_succ, List.getElem?_concat_length, set_last, get_mid, get_mid2, eqF, neF, ltF, leF, gtF, geF, isF, notF, addF, subF, mulF, fdivF, modF, powF, negF, ixF, lenF, tupF, lstF, absF, intF, gcdF, maxF, minF, Rs.to, dIsi, dIsi2, dIsE, tyN, D.isNon, dM1, dM0, srcSeq, srcRng1, srcRng2, dLc, tYesD, iaddF, isBF, notBF, srcZip, srcEnumerate, repF, sumF, allF, anyF, intsOf_map, blsOf_map, dSl, dPart, dNoPart, sliceF, at0, at1, at2, at3, at4, ix0, ix1, ix2, ix3, Dn.g0, Dn.g1, Dn.g2, Dn.g3, Dn.g4, ex_some, decide_true, decide_false, Bool.not_true, Bool.not_false, ite_true, ite_false, if_true, if_false, List.reverse_cons, List.reverse_nil, outPost, wipeE, CTg.set, setAll, appF, extF, revF, popF, Nat.zero_add, Nat.reduceAdd, is_NoneType_int, is_NoneType_bool, is_NoneType_str, is_NoneType_tuple, is_NoneType_list, is_bool_int, is_bool_bool, is_bool_str, is_bool_tuple, is_bool_list, is_int_int, is_int_bool, is_int_str, is_int_tuple, is_int_list, is_str_int, is_str_bool, is_str_str, is_str_tuple, is_str_list, is_tuple_int, is_tuple_bool, is_tuple_str, is_tuple_tuple, is_tuple_list, is_list_int, is_list_bool, is_list_str, is_list_tuple, is_list_list, strF, dDct, repLF, is_dict_int, is_dict_bool, is_dict_str, is_dict_tuple, is_dict_list, is_dict_dict, is_NoneType_dict, is_bool_dict, is_int_dict, is_str_dict, is_tuple_dict, is_list_dict]
    refine useP_count (.pure rfl) rfl ?_
    by_cases h1 : low ≤ k
    · simp only [h1, dOp, dUn, dVar, dC, slot, startE, List.map, List.length, List.replicate, List.append, List.cons_append, List.nil_append, List.set, dAnd, dOr, dNot, dtB, dtAnd, dtOr, dtNot, dIf, dtTru, truF, dNil, dCons, dTup, dLst, dCB, sNil, sSeq, sRet, sRetN, sExpr, sIf, sAsg, gN, gT, gsNil, gsCons, gS, sPar, sAug, sWhile, sFor, sBrk, sCont, sNo, sRaise, dCallP_eq, dCallD_eq, List.length_map, List.getElem?_cons_succ, List.getElem?_concat_length, set_last, get_mid, get_mid2, eqF, neF, ltF, leF, gtF, geF, isF, notF, addF, subF, mulF, fdivF, modF, powF, negF, ixF, lenF, tupF, lstF, absF, intF, gcdF, maxF, minF, Rs.to, dIsi, dIsi2, dIsE, tyN, D.isNon, dM1, dM0, srcSeq, srcRng1, srcRng2, dLc, tYesD, iaddF, isBF, notBF, srcZip, srcEnumerate, repF, sumF, allF, anyF, intsOf_map, blsOf_map, dSl, dPart, dNoPart, sliceF, at0, at1, at2, at3, at4, ix0, ix1, ix2, ix3, Dn.g0, Dn.g1, Dn.g2, Dn.g3, Dn.g4, ex_some, decide_true, decide_false, Bool.not_true, Bool.not_false, ite_true, ite_false, if_true, if_false, List.reverse_cons, List.reverse_nil, outPost, wipeE, CTg.set, setAll, appF, extF, revF, popF, Nat.zero_add, Nat.reduceAdd, is_NoneType_int, is_NoneType_bool, is_NoneType_str, is_NoneType_tuple, is_NoneType_list, is_bool_int, is_bool_bool, is_bool_str, is_bool_tuple, is_bool_list, is_int_int, is_int_bool, is_int_str, is_int_tuple, is_int_list, is_str_int, is_str_bool, is_str_str, is_str_tuple, is_str_list, is_tuple_int, is_tuple_bool, is_tuple_str, is_tuple_tuple, is_tuple_list, is_list_int, is_list_bool, is_list_str, is_list_tuple, is_list_list, strF, dDct, repLF, is_dict_int, is_dict_bool, is_dict_str, is_dict_tuple, is_dict_list, is_dict_dict, is_NoneType_dict, is_bool_dict, is_int_dict, is_str_dict, is_tuple_dict, is_list_dict]
      refine useP_same (by show (decide (low ≤ k) && decide (k ≤ high)) = _; rw [decide_eq_true h1, Bool.true_and]) ?_
      simp only [dOp, dUn, dVar, dC, slot, startE, List.map, List.length, List.replicate, List.append, List.cons_append, List.nil_append, List.set, dAnd, dOr, dNot, dtB, dtAnd, dtOr, dtNot, dIf, dtTru, truF, dNil, dCons, dTup, dLst, dCB, sNil, sSeq, sRet, sRetN, sExpr, sIf, sAsg, gN, gT, gsNil, gsCons, gS, sPar, sAug, sWhile, sFor, sBrk, sCont, sNo, sRaise, dCallP_eq, dCallD_eq, List.length_map, List.getElem?_cons_succ, List.getElem?_concat_length, set_last, get_mid, get_mid2, eqF, neF, ltF, leF, gtF, geF, isF, notF, addF, subF, mulF, fdivF, modF, powF, negF, ixF, lenF, tupF, lstF, absF, intF, gcdF, maxF, minF, Rs.to, dIsi, dIsi2, dIsE, tyN, D.isNon, dM1, dM0, srcSeq, srcRng1, srcRng2, dLc, tYesD, iaddF, isBF, notBF, srcZip, srcEnumerate, repF, sumF, allF, anyF, intsOf_map, blsOf_map, dSl, dPart, dNoPart, sliceF, at0, at1, at2, at3, at4, ix0, ix1, ix2, ix3, Dn.g0, Dn.g1, Dn.g2, Dn.g3, Dn.g4, ex_some, decide_true, decide_false, Bool.not_true, Bool.not_false, ite_true, ite_false, if_true, if_false, List.reverse_cons, List.reverse_nil, outPost, wipeE, CTg.set, setAll, appF, extF, revF, popF, Nat.zero_add, Nat.reduceAdd, is_NoneType_int, is_NoneType_bool, is_NoneType_str, is_NoneType_tuple, is_NoneType_list, is_bool_int, is_bool_bool, is_bool_str, is_bool_tuple, is_bool_list, is_int_int, is_int_bool, is_int_str, is_int_tuple, is_int_list, is_str_int, is_str_bool, is_str_str, is_str_tuple, is_str_list, is_tuple_int, is_tuple_bool, is_tuple_str, is_tuple_tuple, is_tuple_list, is_list_int, is_list_bool, is_list_str, is_list_tuple, is_list_list, strF, dDct, repLF, is_dict_int, is_dict_bool, is_dict_str, is_dict_tuple, is_dict_list, is_dict_dict, is_NoneType_dict, is_bool_dict, is_int_dict, is_str_dict, is_tuple_dict, is_list_dict]
      exact ⟨⟨_, rfl⟩, trivial⟩
    · simp only [h1, dOp, dUn, dVar, dC, slot, startE, List.map, List.length, List.replicate, List.append, List.cons_append, List.nil_append, List.set, dAnd, dOr, dNot, dtB, dtAnd, dtOr, dtNot, dIf, dtTru, truF, dNil, dCons, dTup, dLst, dCB, sNil, sSeq, sRet, sRetN, sExpr, sIf, sAsg, gN, gT, gsNil, gsCons, gS, sPar, sAug, sWhile, sFor, sBrk, sCont, sNo, sRaise, dCallP_eq, dCallD_eq, List.length_map, List.getElem?_cons_succ, List.getElem?_concat_length, set_last, get_mid, get_mid2, eqF, neF, ltF, leF, gtF, geF, isF, notF, addF, subF, mulF, fdivF, modF, powF, negF, ixF, lenF, tupF, lstF, absF, intF, gcdF, maxF, minF, Rs.to, dIsi, dIsi2, dIsE, tyN, D.isNon, dM1, dM0, srcSeq, srcRng1, srcRng2, dLc, tYesD, iaddF, isBF, notBF, srcZip, srcEnumerate, repF, sumF, allF, anyF, intsOf_map, blsOf_map, dSl, dPart, dNoPart, sliceF, at0, at1, at2, at3, at4, ix0, ix1, ix2, ix3, Dn.g0, Dn.g1, Dn.g2, Dn.g3, Dn.g4, ex_some, decide_true, decide_false, Bool.not_true, Bool.not_false, ite_true, ite_false, if_true, if_false, List.reverse_cons, List.reverse_nil, outPost, wipeE, CTg.set, setAll, appF, extF, revF, popF, Nat.zero_add, Nat.reduceAdd, is_NoneType_int, is_NoneType_bool, is_NoneType_str, is_NoneType_tuple, is_NoneType_list, is_bool_int, is_bool_bool, is_bool_str, is_bool_tuple, is_bool_list, is_int_int, is_int_bool, is_int_str, is_int_tuple, is_int_list, is_str_int, is_str_bool, is_str_str, is_str_tuple, is_str_list, is_tuple_int, is_tuple_bool, is_tuple_str, is_tuple_tuple, is_tuple_list, is_list_int, is_list_bool, is_list_str, is_list_tuple, is_list_list, strF, dDct, repLF, is_dict_int, is_dict_bool, is_dict_str, is_dict_tuple, is_dict_list, is_dict_dict, is_NoneType_dict, is_bool_dict, is_int_dict, is_str_dict, is_tuple_dict, is_list_dict]
      refine useP_same (by show (decide (low ≤ k) && decide (k ≤ high)) = _; rw [decide_eq_false h1, Bool.false_and]) ?_
      simp only [dOp, dUn, dVar, dC, slot, startE, List.map, List.length, List.replicate, List.append, List.cons_append, List.nil_append, List.set, dAnd, dOr, dNot, dtB, dtAnd, dtOr, dtNot, dIf, dtTru, truF, dNil, dCons, dTup, dLst, dCB, sNil, sSeq, sRet, sRetN, sExpr, sIf, sAsg, gN, gT, gsNil, gsCons, gS, sPar, sAug, sWhile, sFor, sBrk, sCont, sNo, sRaise, dCallP_eq, dCallD_eq, List.length_map, List.getElem?_cons_succ, List.getElem?_concat_length, set_last, get_mid, get_mid2, eqF, neF, ltF, leF, gtF, geF, isF, notF, addF, subF, mulF, fdivF, modF, powF, negF, ixF, lenF, tupF, lstF, absF, intF, gcdF, maxF, minF, Rs.to, dIsi, dIsi2, dIsE, tyN, D.isNon, dM1, dM0, srcSeq, srcRng1, srcRng2, dLc, tYesD, iaddF, isBF, notBF, srcZip, srcEnumerate, repF, sumF, allF, anyF, intsOf_map, blsOf_map, dSl, dPart, dNoPart, sliceF, at0, at1, at2, at3, at4, ix0, ix1, ix2, ix3, Dn.g0, Dn.g1, Dn.g2, Dn.g3, Dn.g4, ex_some, decide_true, decide_false, Bool.not_true, Bool.not_false, ite_true, ite_false, if_true, if_false, List.reverse_cons, List.reverse_nil, outPost, wipeE, CTg.set, setAll, appF, extF, revF, popF, Nat.zero_add, Nat.reduceAdd, is_NoneType_int, is_NoneType_bool, is_NoneType_str, is_NoneType_tuple, is_NoneType_list, is_bool_int, is_bool_bool, is_bool_str, is_bool_tuple, is_bool_list, is_int_int, is_int_bool, is_int_str, is_int_tuple, is_int_list, is_str_int, is_str_bool, is_str_str, is_str_tuple, is_str_list, is_tuple_int, is_tuple_bool, is_tuple_str, is_tuple_tuple, is_tuple_list, is_list_int, is_list_bool, is_list_str, is_list_tuple, is_list_list, strF, dDct, repLF, is_dict_int, is_dict_bool, is_dict_str, is_dict_tuple, is_dict_list, is_dict_dict, is_NoneType_dict, is_bool_dict, is_int_dict, is_str_dict, is_tuple_dict, is_list_dict]
      exact ⟨⟨_, rfl⟩, trivial⟩
  · rintro e h ⟨⟨u, rfl⟩, rfl⟩
    exact counts_tail hc4 a4 (by omega)

theorem ok__law_counts_right (T : Txt K mg) : Ok P w K mg base 5 "_law_counts_right" ["draws"] (spD K sp__law_counts_right) :=
  okOf T.d__law_counts_right fun f fd F => fnD (k := 4) sp__law_counts_right t__law_counts_right F sc__law_counts_right (fun x ds s hp => len__law_counts_right x ds s hp) (fun cdv A outer s H E hr z => by
    have hu := hr.units; have hnd := sc__law_counts_right.nd
    unfold t__law_counts_right r__law_counts_right_0 r__law_counts_right_1 r__law_counts_right_2 r__law_counts_right_3 r__law_counts_right_4 l2__law_counts_right_0 l1__law_counts_right_0
    exact (dss_cons (ds_set 1 hnd rfl (by walk_at "locs") (dn_callD ((ok__law_near (P := P) (w := w) (base := base) T).mono (by decide)) hr (takes_of rfl rfl rfl rfl) rfl (by decide) (da_cons (de_var 0 rfl (by walk_at "vis") (by decide) (by decide)) (da_cons (de_ix (de_lst (da_cons de_int (da_cons de_int (da_cons (de_pow de_int de_int) (da_cons (de_pow de_int de_int) da_nil rfl) rfl) rfl) rfl) (by decide)) (dn_callD ((ok__law_draw (P := P) (w := w) (base := base) T).mono (by decide)) hr (takes_of rfl rfl rfl rfl) rfl (by decide) (da_cons (de_var 0 rfl (by walk_at "vis") (by decide) (by decide)) (da_cons de_int da_nil rfl) rfl) rfl rfl) (fun _ _ => rfl)) da_nil rfl) rfl) rfl rfl) rfl (by walk_at "fnn"))
    (dss_cons (ds_set 2 hnd rfl (by walk_at "locs") (de_add (de_var 1 rfl (by walk_at "vis") (by decide) (by decide)) (dn_callD ((ok__law_near (P := P) (w := w) (base := base) T).mono (by decide)) hr (takes_of rfl rfl rfl rfl) rfl (by decide) (da_cons (de_var 0 rfl (by walk_at "vis") (by decide) (by decide)) (da_cons (de_ix (de_lst (da_cons de_int (da_cons de_int (da_cons (de_pow de_int de_int) da_nil rfl) rfl) rfl) (by decide)) (dn_callD ((ok__law_draw (P := P) (w := w) (base := base) T).mono (by decide)) hr (takes_of rfl rfl rfl rfl) rfl (by decide) (da_cons (de_var 0 rfl (by walk_at "vis") (by decide) (by decide)) (da_cons de_int da_nil rfl) rfl) rfl rfl) (fun _ _ => rfl)) da_nil rfl) rfl) rfl rfl)) rfl (by walk_at "fnn"))
    (dss_cons (ds_for (passes_of (K := fun e s'' => L2.CX P w outer H s E e s'') (E₁ := fun e s'' => L2.CX P w outer H s E e s'') rfl) rfl (di_seq (de_lst (da_cons (de_minus (de_var 1 rfl (by walk_at "vis") (by decide) (by decide)) de_int) (da_cons (de_var 1 rfl (by walk_at "vis") (by decide) (by decide)) (da_cons (de_add (de_var 1 rfl (by walk_at "vis") (by decide) (by decide)) de_int) (da_cons (de_minus (de_var 2 rfl (by walk_at "vis") (by decide) (by decide)) de_int) (da_cons (de_var 2 rfl (by walk_at "vis") (by decide) (by decide)) (da_cons (de_add (de_var 2 rfl (by walk_at "vis") (by decide) (by decide)) de_int) (da_cons (de_fdiv (de_add (de_var 1 rfl (by walk_at "vis") (by decide) (by decide)) (de_var 2 rfl (by walk_at "vis") (by decide) (by decide))) de_int) (da_cons de_int (da_cons de_int da_nil rfl) rfl) rfl) rfl) rfl) rfl) rfl) rfl) rfl) (by decide))) (dg_name 3 hnd rfl (by walk_at "locs") (by walk_at "fnn")) (dss_one (ds_if (dt_not (dt_tru (dn_callP ((ok__law_same (P := P) (w := w) (base := base) T 3).mono (by decide)) hr (takes_of rfl rfl rfl rfl) rfl (by decide) (da_cons (dn_callP ((ok_is_count (P := P) (w := w) (base := base) T).mono (by decide)) hr (takes_of rfl rfl rfl rfl) rfl (by decide) (da_cons (de_var 3 rfl (by walk_at "vis") (by decide) (by decide)) (da_cons (de_var 1 rfl (by walk_at "vis") (by decide) (by decide)) (da_cons (de_var 2 rfl (by walk_at "vis") (by decide) (by decide)) da_nil rfl) rfl) rfl) rfl rfl) (da_cons (de_and (de_le (de_var 1 rfl (by walk_at "vis") (by decide) (by decide)) (de_var 3 rfl (by walk_at "vis") (by decide) (by decide))) (de_one (de_le (de_var 3 rfl (by walk_at "vis") (by decide) (by decide)) (de_var 2 rfl (by walk_at "vis") (by decide) (by decide))))) da_nil rfl) rfl) rfl rfl) (fun _ => rfl))) (dss_one (ds_ret de_bl)) dss_nil)) (fun _ => rfl))
    (dss_cons (ds_for (passes_of (K := fun e s'' => L2.CX P w outer H s E e s'') (E₁ := fun e s'' => L2.CX P w outer H s E e s'') rfl) rfl (di_seq (de_lst (da_cons de_bl (da_cons de_bl (da_cons de_non (da_cons (de_callTy (f := strF) call_str_int cd_str rfl T.b_str (by decide +kernel) (da_cons (de_var 1 rfl (by walk_at "vis") (by decide) (by decide)) da_nil rfl) (by decide) (by decide) rfl rfl) (da_cons (de_tup (da_cons (de_var 1 rfl (by walk_at "vis") (by decide) (by decide)) da_nil rfl) (by decide)) (da_cons (de_lst (da_cons (de_var 1 rfl (by walk_at "vis") (by decide) (by decide)) da_nil rfl) (by decide)) da_nil rfl) rfl) rfl) rfl) rfl) rfl) (by decide))) (dg_name 3 hnd rfl (by walk_at "locs") (by walk_at "fnn")) (dss_one (ds_if (dw_pt (dw_or (dt_not (dt_tru (dn_callP ((ok__law_same (P := P) (w := w) (base := base) T 3).mono (by decide)) hr (takes_of rfl rfl rfl rfl) rfl (by decide) (da_cons (dn_callP ((ok_is_count (P := P) (w := w) (base := base) T).mono (by decide)) hr (takes_of rfl rfl rfl rfl) rfl (by decide) (da_cons (de_var 3 rfl (by walk_at "vis") (by decide) (by decide)) (da_cons (de_var 1 rfl (by walk_at "vis") (by decide) (by decide)) (da_cons (de_var 2 rfl (by walk_at "vis") (by decide) (by decide)) da_nil rfl) rfl) rfl) rfl rfl) (da_cons de_bl da_nil rfl) rfl) rfl rfl) (fun _ => rfl))) (dw_or1 (dt_not (dt_tru (dn_callP ((ok__law_same (P := P) (w := w) (base := base) T 3).mono (by decide)) hr (takes_of rfl rfl rfl rfl) rfl (by decide) (da_cons (dn_callP ((ok_is_count (P := P) (w := w) (base := base) T).mono (by decide)) hr (takes_of rfl rfl rfl rfl) rfl (by decide) (da_cons (de_var 3 rfl (by walk_at "vis") (by decide) (by decide)) (da_cons (de_neg de_int) (da_cons de_int da_nil rfl) rfl) rfl) rfl rfl) (da_cons de_bl da_nil rfl) rfl) rfl rfl) (fun _ => rfl)))))) (dss_one (ds_ret de_bl)) dss_nil)) (fun _ => rfl))
    (dss_one (ds_ret de_bl))))))) w__law_counts_right
/-! ### _law_number -/
def sp__law_number : SpcD Unit where
  pre := fun _ ds s => ds = [] ∧ 0 ≤ s.a
  res := fun _ o s' => ∃ v : Int, o = .val (.int v) ∧ 0 ≤ s'.a

def r__law_number_1 : dS :=
  (sRet (dOp ixF (dLst (dCons (dCallD sp__law_near (dCons (dVar 0) (dCons (dC (.int 9)) dNil))) (dCons (dC (.int 0)) (dCons (dVar 1) (dCons (dUn negF (dVar 1)) (dCons (dCallD sp__law_near (dCons (dVar 0) (dCons (dC (.int 1000000000)) dNil))) dNil)))))) (dCallD sp__law_draw (dCons (dVar 0) (dCons (dC (.int 5)) dNil)))))
def r__law_number_0 : dS :=
  (sSeq (sAsg (dOp subF (dOp addF (dC (.int 1000000000)) (dCallD sp__law_draw (dCons (dVar 0) (dCons (dC (.int 3)) dNil)))) (dC (.int 1))) (gN 1)) (r__law_number_1))
def t__law_number : dS :=
  (r__law_number_0)
theorem len__law_number : ∀ x ds s, sp__law_number.pre x ds s → ds.length + 1 = 1 := fun x ds s h => by rw [h.1]; rfl
theorem w__law_number : ∀ x ds s, sp__law_number.pre x ds s → t__law_number (endD sp__law_number x s.c) (startE nm__law_number.length (.ref 0 :: ds)) [.lst (drD 1 s), .lst (s.c.map .int)] := by
  rintro x ds s ⟨rfl, h3⟩
  simp only [t__law_number , r__law_number_0, nm__law_number, dOp, dUn, dVar, dC, slot, startE, List.map, List.length, List.replicate, List.append, List.cons_append, List.nil_append, List.set, dAnd, dOr, dNot, dtB, dtAnd, dtOr, dtNot, dIf, dtTru, truF, dNil, dCons, dTup, dLst, dCB, sNil, sSeq, sRet, sRetN, sExpr, sIf, sAsg, gN, gT, gsNil, gsCons, gS, sPar, sAug, sWhile, sFor, sBrk, sCont, sNo, sRaise, dCallP_eq, dCallD_eq, List.length_map, List.getElem?_cons_succ, List.getElem?_concat_length, set_last, get_mid, get_mid2, eqF, neF, ltF, leF, gtF, geF, isF, notF, addF, subF, mulF, fdivF, modF, powF, negF, ixF, lenF, tupF, lstF, absF, intF, gcdF, maxF, minF, Rs.to, dIsi, dIsi2, dIsE, tyN, D.isNon, dM1, dM0, srcSeq, srcRng1, srcRng2, dLc, tYesD, iaddF, isBF, notBF, srcZip, srcEnumerate, repF, sumF, allF, anyF, intsOf_map, blsOf_map, dSl, dPart, dNoPart, sliceF, at0, at1, at2, at3, at4, ix0, ix1, ix2, ix3, Dn.g0, Dn.g1, Dn.g2, Dn.g3, Dn.g4, ex_some, decide_true, decide_false, Bool.not_true, Bool.not_false, ite_true, ite_false, if_true, if_false, List.reverse_cons, List.reverse_nil, outPost, wipeE, CTg.set, setAll, appF, extF, revF, popF, Nat.zero_add, Nat.reduceAdd, is_NoneType_int, is_NoneType_bool, is_NoneType_str, is_NoneType_tuple, is_NoneType_list, is_bool_int, is_bool_bool, is_bool_str, is_bool_tuple, is_bool_list, is_int_int, is_int_bool, is_int_str, is_int_tuple, is_int_list, is_str_int, is_str_bool, is_str_str, is_str_tuple, is_str_list, is_tuple_int, is_tuple_bool, is_tuple_str, is_tuple_tuple, is_tuple_list, is_list_int, is_list_bool, is_list_str, is_list_tuple, is_list_list, strF, dDct, repLF, is_dict_int, is_dict_bool, is_dict_str, is_dict_tuple, is_dict_list, is_dict_dict, is_NoneType_dict, is_bool_dict, is_int_dict, is_str_dict, is_tuple_dict, is_list_dict]
  refine useD_01 3 rfl rfl ⟨rfl, by decide, bt_lit (by decide) (by decide), h3⟩ ?_
  rintro o s1 ⟨v, rfl, v0, v1, a1⟩ hc1
  refine ⟨_, rfl, ?_⟩
  simp only [r__law_number_1, dOp, dUn, dVar, dC, slot, startE, List.map, List.length, List.replicate, List.append, List.cons_append, List.nil_append, List.set, dAnd, dOr, dNot, dtB, dtAnd, dtOr, dtNot, dIf, dtTru, truF, dNil, dCons, dTup, dLst, dCB, sNil, sSeq, sRet, sRetN, sExpr, sIf, sAsg, gN, gT, gsNil, gsCons, gS, sPar, sAug, sWhile, sFor, sBrk, sCont, sNo, sRaise, dCallP_eq, dCallD_eq, List.length_map, List.getElem?_cons_succ, List.getElem?_concat_length, set_last, get_mid, get_mid2, eqF, neF, ltF, leF, gtF, geF, isF, notF, addF, subF, mulF, fdivF, modF, powF, negF, ixF, lenF, tupF, lstF, absF, intF, gcdF, maxF, minF, Rs.to, dIsi, dIsi2, dIsE, tyN, D.isNon, dM1, dM0, srcSeq, srcRng1, srcRng2, dLc, tYesD, iaddF, isBF, notBF, srcZip, srcEnumerate, repF, sumF, allF, anyF, intsOf_map, blsOf_map, dSl, dPart, dNoPart, sliceF, at0, at1, at2, at3, at4, ix0, ix1, ix2, ix3, Dn.g0, Dn.g1, Dn.g2, Dn.g3, Dn.g4, ex_some, decide_true, decide_false, Bool.not_true, Bool.not_false, ite_true, ite_false, if_true, if_false, List.reverse_cons, List.reverse_nil, outPost, wipeE, CTg.set, setAll, appF, extF, revF, popF, Nat.zero_add, Nat.reduceAdd, is_NoneType_int, is_NoneType_bool, is_NoneType_str, is_NoneType_tuple, is_NoneType_list, is_bool_int, is_bool_bool, is_bool_str, is_bool_tuple, is_bool_list, is_int_int, is_int_bool, is_int_str, is_int_tuple, is_int_list, is_str_int, is_str_bool, is_str_str, is_str_tuple, is_str_list, is_tuple_int, is_tuple_bool, is_tuple_str, is_tuple_tuple, is_tuple_list, is_list_int, is_list_bool, is_list_str, is_list_tuple, is_list_list, strF, dDct, repLF, is_dict_int, is_dict_bool, is_dict_str, is_dict_tuple, is_dict_list, is_dict_dict, is_NoneType_dict, is_bool_dict, is_int_dict, is_str_dict, is_tuple_dict, is_list_dict]
  refine useD_01 9 hc1 rfl ⟨rfl, by decide, by decide, a1⟩ ?_
  rintro o s2 ⟨x1, rfl, -, -, a2⟩ hc2
  refine ⟨_, rfl, ?_⟩
  try simp only [dOp, dUn, dVar, dC, slot, startE, List.map, List.length, List.replicate, List.append, List.cons_append, List.nil_append, List.set, dAnd, dOr, dNot, dtB, dtAnd, dtOr, dtNot, dIf, dtTru, truF, dNil, dCons, dTup, dLst, dCB, sNil, sSeq, sRet, sRetN, sExpr, sIf, sAsg, gN, gT, gsNil, gsCons, gS, sPar, sAug, sWhile, sFor, sBrk, sCont, sNo, sRaise, dCallP_eq, dCallD_eq, List.length_map, List.getElem?_cons_succ, List.getElem?_concat_length, set_last, get_mid, get_mid2, eqF, neF, ltF, leF, gtF, geF, isF, notF, addF, subF, mulF, fdivF, modF, powF, negF, ixF, lenF, tupF, lstF, absF, intF, gcdF, maxF, minF, Rs.to, dIsi, dIsi2, dIsE, tyN, D.isNon, dM1, dM0, srcSeq, srcRng1, srcRng2, dLc, tYesD, iaddF, isBF, notBF, srcZip, srcEnumerate, repF, sumF, allF, anyF, intsOf_map, blsOf_map, dSl, dPart, dNoPart, sliceF, at0, at1, at2, at3, at4, ix0, ix1, ix2, ix3, Dn.g0, Dn.g1, Dn.g2, Dn.g3, Dn.g4, ex_some, decide_true, decide_false, Bool.not_true, Bool.not_false, ite_true, ite_false, if_true, if_false, List.reverse_cons, List.reverse_nil, outPost, wipeE, CTg.set, setAll, appF, extF, revF, popF, Nat.zero_add, Nat.reduceAdd, is_NoneType_int, is_NoneType_bool, is_NoneType_str, is_NoneType_tuple, is_NoneType_list, is_bool_int, is_bool_bool, is_bool_str, is_bool_tuple, is_bool_list, is_int_int, is_int_bool, is_int_str, is_int_tuple, is_int_list, is_str_int, is_str_bool, is_str_str, is_str_tuple, is_str_list, is_tuple_int, is_tuple_bool, is_tuple_str, is_tuple_tuple, is_tuple_list, is_list_int, is_list_bool, is_list_str, is_list_tuple, is_list_list, strF, dDct, repLF, is_dict_int, is_dict_bool, is_dict_str, is_dict_tuple, is_dict_list, is_dict_dict, is_NoneType_dict, is_bool_dict, is_int_dict, is_str_dict, is_tuple_dict, is_list_dict]
  refine useD_01 1000000000 hc2 rfl ⟨rfl, by decide, by decide, a2⟩ ?_
  rintro o s3 ⟨x2, rfl, -, -, a3⟩ hc3
  refine ⟨_, rfl, ?_⟩
  try simp only [dOp, dUn, dVar, dC, slot, startE, List.map, List.length, List.replicate, List.append, List.cons_append, List.nil_append, List.set, dAnd, dOr, dNot, dtB, dtAnd, dtOr, dtNot, dIf, dtTru, truF, dNil, dCons, dTup, dLst, dCB, sNil, sSeq, sRet, sRetN, sExpr, sIf, sAsg, gN, gT, gsNil, gsCons, gS, sPar, sAug, sWhile, sFor, sBrk, sCont, sNo, sRaise, dCallP_eq, dCallD_eq, List.length_map, List.getElem?_cons_succ, List.getElem?_concat_length, set_last, get_mid, get_mid2, eqF, neF, ltF, leF, gtF, geF, isF, notF, addF, subF, mulF, fdivF, modF, powF, negF, ixF, lenF, tupF, lstF, absF, intF, gcdF, maxF, minF, Rs.to, dIsi, dIsi2, dIsE, tyN, D.isNon, dM1, dM0, srcSeq, srcRng1, srcRng2, dLc, tYesD, iaddF, isBF, notBF, srcZip, srcEnumerate, repF, sumF, allF, anyF, intsOf_map, blsOf_map, dSl, dPart, dNoPart, sliceF, at0, at1, at2, at3, at4, ix0, ix1, ix2, ix3, Dn.g0, Dn.g1, Dn.g2, Dn.g3, Dn.g4, ex_some, decide_true, decide_false, Bool.not_true, Bool.not_false, ite_true, ite_false, if_true, if_false, List.reverse_cons, List.reverse_nil, outPost, wipeE, CTg.set, setAll, appF, extF, revF, popF, Nat.zero_add, Nat.reduceAdd, is_NoneType_int, is_NoneType_bool, is_NoneType_str, is_NoneType_tuple, is_NoneType_list, is_bool_int, is_bool_bool, is_bool_str, is_bool_tuple, is_bool_list, is_int_int, is_int_bool, is_int_str, is_int_tuple, is_int_list, is_str_int, is_str_bool, is_str_str, is_str_tuple, is_str_list, is_tuple_int, is_tuple_bool, is_tuple_str, is_tuple_tuple, is_tuple_list, is_list_int, is_list_bool, is_list_str, is_list_tuple, is_list_list, strF, dDct, repLF, is_dict_int, is_dict_bool, is_dict_str, is_dict_tuple, is_dict_list, is_dict_dict, is_NoneType_dict, is_bool_dict, is_int_dict, is_str_dict, is_tuple_dict, is_list_dict]
  refine useD_01 5 hc3 rfl ⟨rfl, by decide, bt_lit (by decide) (by decide), a3⟩ ?_
  rintro o s4 ⟨k, rfl, k0, k1, a4⟩ hc4
  refine ⟨_, rfl, ?_⟩
  try simp only [dOp, dUn, dVar, dC, slot, startE, List.map, List.length, List.replicate, List.append, List.cons_append, List.nil_append, List.set, dAnd, dOr, dNot, dtB, dtAnd, dtOr, dtNot, dIf, dtTru, truF, dNil, dCons, dTup, dLst, dCB, sNil, sSeq, sRet, sRetN, sExpr, sIf, sAsg, gN, gT, gsNil, gsCons, gS, sPar, sAug, sWhile, sFor, sBrk, sCont, sNo, sRaise, dCallP_eq, dCallD_eq, List.length_map, List.getElem?_cons_succ, List.getElem?_concat_length, set_last, get_mid, get_mid2, eqF, neF, ltF, leF, gtF, geF, isF, notF, addF, subF, mulF, fdivF, modF, powF, negF, ixF, lenF, tupF, lstF, absF, intF, gcdF, maxF, minF, Rs.to, dIsi, dIsi2, dIsE, tyN, D.isNon, dM1, dM0, srcSeq, srcRng1, srcRng2, dLc, tYesD, iaddF, isBF, notBF, srcZip, srcEnumerate, repF, sumF, allF, anyF, intsOf_map, blsOf_map, dSl, dPart, dNoPart, sliceF, at0, at1, at2, at3, at4, ix0, ix1, ix2, ix3, Dn.g0, Dn.g1, Dn.g2, Dn.g3, Dn.g4, ex_some, decide_true, decide_false, Bool.not_true, Bool.not_false, ite_true, ite_false, if_true, if_false, List.reverse_cons, List.reverse_nil, outPost, wipeE, CTg.set, setAll, appF, extF, revF, popF, Nat.zero_add, Nat.reduceAdd, is_NoneType_int, is_NoneType_bool, is_NoneType_str, is_NoneType_tuple, is_NoneType_list, is_bool_int, is_bool_bool, is_bool_str, is_bool_tuple, is_bool_list, is_int_int, is_int_bool, is_int_str, is_int_tuple, is_int_list, is_str_int, is_str_bool, is_str_str, is_str_tuple, is_str_list, is_tuple_int, is_tuple_bool, is_tuple_str, is_tuple_tuple, is_tuple_list, is_list_int, is_list_bool, is_list_str, is_list_tuple, is_list_list, strF, dDct, repLF, is_dict_int, is_dict_bool, is_dict_str, is_dict_tuple, is_dict_list, is_dict_dict, is_NoneType_dict, is_bool_dict, is_int_dict, is_str_dict, is_tuple_dict, is_list_dict]
  refine at_all k0 (by simpa using k1) ?_
  intro d hd
  simp only [List.mem_cons, List.not_mem_nil, or_false] at hd
  rcases hd with rfl | rfl | rfl | rfl | rfl <;> exact rtD_val s4 hc4 rfl rfl rfl ⟨_, rfl, a4⟩

theorem ok__law_number (T : Txt K mg) : Ok P w K mg base 3 "_law_number" ["draws"] (spD K sp__law_number) :=
  okOf T.d__law_number fun f fd F => fnD (k := 2) sp__law_number t__law_number F sc__law_number (fun x ds s hp => len__law_number x ds s hp) (fun cdv A outer s H E hr z => by
    have hu := hr.units; have hnd := sc__law_number.nd
    unfold t__law_number r__law_number_0 r__law_number_1
    exact (dss_cons (ds_set 1 hnd rfl (by walk_at "locs") (de_minus (de_add de_int (dn_callD ((ok__law_draw (P := P) (w := w) (base := base) T).mono (by decide)) hr (takes_of rfl rfl rfl rfl) rfl (by decide) (da_cons (de_var 0 rfl (by walk_at "vis") (by decide) (by decide)) (da_cons de_int da_nil rfl) rfl) rfl rfl)) de_int) rfl (by walk_at "fnn"))
    (dss_one (ds_ret (de_ix (de_lst (da_cons (dn_callD ((ok__law_near (P := P) (w := w) (base := base) T).mono (by decide)) hr (takes_of rfl rfl rfl rfl) rfl (by decide) (da_cons (de_var 0 rfl (by walk_at "vis") (by decide) (by decide)) (da_cons de_int da_nil rfl) rfl) rfl rfl) (da_cons de_int (da_cons (de_var 1 rfl (by walk_at "vis") (by decide) (by decide)) (da_cons (de_neg (de_var 1 rfl (by walk_at "vis") (by decide) (by decide))) (da_cons (dn_callD ((ok__law_near (P := P) (w := w) (base := base) T).mono (by decide)) hr (takes_of rfl rfl rfl rfl) rfl (by decide) (da_cons (de_var 0 rfl (by walk_at "vis") (by decide) (by decide)) (da_cons de_int da_nil rfl) rfl) rfl rfl) da_nil rfl) rfl) rfl) rfl) rfl) (by decide)) (dn_callD ((ok__law_draw (P := P) (w := w) (base := base) T).mono (by decide)) hr (takes_of rfl rfl rfl rfl) rfl (by decide) (da_cons (de_var 0 rfl (by walk_at "vis") (by decide) (by decide)) (da_cons de_int da_nil rfl) rfl) rfl rfl) (fun _ _ => rfl)))))) w__law_number
/-! ### _law_forms_right -/
def sp__law_forms_right : SpcD Nat where
  pre := fun n ds s => ds = [.int n] ∧ n ≤ 10 ∧ 0 ≤ s.a
  res := fun _ o s' => o = .val (.bl true) ∧ 0 ≤ s'.a

def l1__law_forms_right_0 : dS :=
  (sIf (dtNot (dtTru (dCallP (sp__law_same 3) (dCons (dCallP sp_is_told_form (dCons (dVar 5) (dCons (dVar 1) dNil))) (dCons (dCallP sp__law_is_form (dCons (dVar 5) (dCons (dVar 1) dNil))) dNil))))) (sRet (dC (.bl false))) sNil)
def r__law_forms_right_5 : dS :=
  (sRet (dC (.bl true)))
def r__law_forms_right_4 : dS :=
  (sSeq (sFor (srcSeq (dVar 4)) (gN 5) (l1__law_forms_right_0)) (r__law_forms_right_5))
def r__law_forms_right_3 : dS :=
  (sSeq (sAsg (dLst (dCons (dCB tupF (dCons (dVar 2) dNil)) (dCons (dVar 2) (dCons (dCB tupF (dCons (dSl (dVar 2) (dPart (dC (.int 1))) dNoPart) dNil)) (dCons (dCB tupF (dCons (dOp addF (dVar 2) (dLst (dCons (dC (.int 0)) dNil))) dNil)) (dCons (dCB tupF (dCons (dOp addF (dOp addF (dSl (dVar 2) dNoPart (dPart (dVar 3))) (dLst (dCons (dC (.bl true)) dNil))) (dSl (dVar 2) (dPart (dOp addF (dVar 3) (dC (.int 1)))) dNoPart)) dNil)) (dCons (dCB tupF (dCons (dOp addF (dOp addF (dSl (dVar 2) dNoPart (dPart (dVar 3))) (dLst (dCons (dC (.str "1")) dNil))) (dSl (dVar 2) (dPart (dOp addF (dVar 3) (dC (.int 1)))) dNoPart)) dNil)) (dCons (dTup (dCons (dCB tupF (dCons (dVar 2) dNil)) dNil)) (dCons (dC .non) (dCons (dOp ixF (dVar 2) (dVar 3)) dNil)))))))))) (gN 4)) (r__law_forms_right_4))
def r__law_forms_right_2 : dS :=
  (sSeq (sAsg (dCallD sp__law_number (dCons (dVar 0) dNil)) (gS (dVar 2) (dVar 3))) (r__law_forms_right_3))
def r__law_forms_right_1 : dS :=
  (sSeq (sAsg (dCallD sp__law_draw (dCons (dVar 0) (dCons (dOp addF (dVar 1) (dC (.int 1))) dNil))) (gN 3)) (r__law_forms_right_2))
def r__law_forms_right_0 : dS :=
  (sSeq (sAsg (dLc (srcRng1 (dCons (dOp addF (dVar 1) (dC (.int 1))) dNil)) (.one 6) [6] tYesD (dCallD sp__law_near (dCons (dVar 0) (dCons (dC (.int 9)) dNil)))) (gN 2)) (r__law_forms_right_1))
def t__law_forms_right : dS :=
  (r__law_forms_right_0)
theorem len__law_forms_right : ∀ x ds s, sp__law_forms_right.pre x ds s → ds.length + 1 = 2 := fun x ds s h => by rw [h.1]; rfl
theorem cut_int (f : List Int) (lo hi : Option Int) : ∃ g : List Int, cutD (f.map D.int) lo hi = g.map D.int ∧ g.length ≤ f.length ∧ ∀ x ∈ g, x ∈ f := by
  refine ⟨(f.drop (HT.sIx f.length 0 lo)).take (HT.sIx f.length f.length hi - HT.sIx f.length 0 lo), ?_, ?_, fun x hx => List.mem_of_mem_drop (List.mem_of_mem_take hx)⟩
  · unfold Dn.cutD; rw [List.map_take, List.map_drop, List.length_map]
  · exact Nat.le_trans (List.length_take_le' _ _) (by simp)
theorem ixN_nat {L n : Nat} (h : n < L) : ixN L (n : Int) = some n := by
  unfold ixN
  rw [if_pos (by omega), if_pos (by omega)]; rfl
theorem ints_noA : ∀ c : List Int, noAs (c.map D.int) = true
  | [] => rfl
  | x :: c => by rw [List.map_cons]; unfold noAs; rw [ints_noA c]; rfl
theorem noAs_app : ∀ {a b : List D}, noAs a = true → noAs b = true → noAs (a ++ b) = true
  | [], _, _, h => h
  | d :: a, b, h1, h2 => by
    unfold noAs at h1; rw [Bool.and_eq_true] at h1
    rw [List.cons_append]; unfold noAs; rw [h1.1, noAs_app h1.2 h2]; rfl
theorem pureDs_app : ∀ {a b : List D}, pureDs a = true → pureDs b = true → pureDs (a ++ b) = true
  | [], _, _, h => h
  | d :: a, b, h1, h2 => by
    unfold pureDs at h1; rw [Bool.and_eq_true] at h1
    rw [List.cons_append]; unfold pureDs; rw [h1.1, pureDs_app h1.2 h2]; rfl
theorem useP_tform {d e : D} {n : Int} {h : Hh} {Q : D → Hh → Prop} {E : XK'} (v : View h (fun _ => True) d e) (hn : noA e = true) (n9 : n ≤ 90) (q : Q (.bl (tformB n e)) h) : useP sp_is_told_form [d, .int n] h Q E :=
  useP_mk ⟨e, n⟩ _ (.cons v (Views.pures rfl)) ⟨rfl, hn, n9⟩ (fun o ho _ => by rw [ho]; exact q) (fun _ q => q)
theorem useP_lform {d e : D} {n : Int} {h : Hh} {Q : D → Hh → Prop} {E : XK'} (v : View h (fun _ => True) d e) (hn : noA e = true) (q : Q (.bl (tformB n e)) h) : useP sp__law_is_form [d, .int n] h Q E :=
  useP_mk ⟨e, n⟩ _ (.cons v (Views.pures rfl)) ⟨rfl, hn⟩ (fun o ho _ => by rw [ho]; exact q) (fun _ q => q)
theorem forms_tail {c : List Int} {s : DrS} {n a : Nat} {F : List Int} (hc : s.c = c) (ha : 0 ≤ s.a) (hn : n ≤ 10) (hF : F.length = n + 1) (hat : a < n + 1) :
    r__law_forms_right_3 (endD sp__law_forms_right n c) [some (.ref 0), some (.int n), some (.ref 2), some (.int a), none, none, none] [.lst (drD 1 s), .lst (c.map .int), .lst (F.map .int)] := by
  obtain ⟨r1, er1, hr1, -⟩ := cut_int F (some 1) none
  obtain ⟨g1, eg1, lg1, -⟩ := cut_int F none (some (a : Int))
  obtain ⟨g2, eg2, lg2, -⟩ := cut_int F (some ((a : Int) + 1)) none
  have ea := at_map (l := F) (k := (a : Int)) (by omega) (by omega)
  simp only [r__law_forms_right_3, er1, eg1, eg2, ea, dOp, dUn, dVar, dC, slot, startE, List.map, List.length, List.replicate, List.append, List.cons_append, List.nil_append, List.set, dAnd, dOr, dNot, dtB, dtAnd, dtOr, dtNot, dIf, dtTru, truF, dNil, dCons, dTup, dLst, dCB, sNil, sSeq, sRet, sRetN, sExpr, sIf, sAsg, gN, gT, gsNil, gsCons, gS, sPar, sAug, sWhile, sFor, sBrk, sCont, sNo, sRaise, dCallP_eq, dCallD_eq, List.length_map, List.getElem?_cons_succ, List.getElem?_concat_length, set_last, get_mid, get_mid2, eqF, neF, ltF, leF, gtF, geF, isF, notF, addF, subF, mulF, fdivF, modF, powF, negF, ixF, lenF, tupF, lstF, absF, intF, gcdF, maxF, minF, Rs.to, dIsi, dIsi2, dIsE, tyN, D.isNon, dM1, dM0, srcSeq, srcRng1, srcRng2, dLc, tYesD, iaddF, isBF, notBF, srcZip, srcEnumerate, repF, sumF, allF, anyF, intsOf_map, blsOf_map, dSl, dPart, dNoPart, sliceF, at0, at1, at2, at3, at4, ix0, ix1, ix2, ix3, Dn.g0, Dn.g1, Dn.g2, Dn.g3, Dn.g4, ex_some, decide_true, decide_false, Bool.not_true, Bool.not_false, ite_true, ite_false, if_true, if_false, List.reverse_cons, List.reverse_nil, outPost, wipeE, CTg.set, setAll, appF, extF, revF, popF, Nat.zero_add, Nat.reduceAdd, is_NoneType_int, is_NoneType_bool, is_NoneType_str, is_NoneType_tuple, is_NoneType_list, is_bool_int, is_bool_bool, is_bool_str, is_bool_tuple, is_bool_list, is_int_int, is_int_bool, is_int_str, is_int_tuple, is_int_list, is_str_int, is_str_bool, is_str_str, is_str_tuple, is_str_list, is_tuple_int, is_tuple_bool, is_tuple_str, is_tuple_tuple, is_tuple_list, is_list_int, is_list_bool, is_list_str, is_list_tuple, is_list_list, strF, dDct, repLF, is_dict_int, is_dict_bool, is_dict_str, is_dict_tuple, is_dict_list, is_dict_dict, is_NoneType_dict, is_bool_dict, is_int_dict, is_str_dict, is_tuple_dict, is_list_dict]
  have z1 : F.length + 1 ≤ sizeLine := Nat.le_of_lt (sl2 (by omega))
  have z2 : g1.length + 1 ≤ sizeLine := Nat.le_of_lt (sl2 (by omega))
  have z3 : ∀ d : D, (g1.map D.int ++ [d]).length + g2.length ≤ sizeLine := fun d => Nat.le_of_lt (sl2 (by simp; omega))
  refine ⟨z1, z2, z3 _, z2, z3 _, ?_⟩
  simp only [r__law_forms_right_4, dOp, dUn, dVar, dC, slot, startE, List.map, List.length, List.replicate, List.append, List.cons_append, List.nil_append, List.set, dAnd, dOr, dNot, dtB, dtAnd, dtOr, dtNot, dIf, dtTru, truF, dNil, dCons, dTup, dLst, dCB, sNil, sSeq, sRet, sRetN, sExpr, sIf, sAsg, gN, gT, gsNil, gsCons, gS, sPar, sAug, sWhile, sFor, sBrk, sCont, sNo, sRaise, dCallP_eq, dCallD_eq, List.length_map, List.getElem?_cons_succ, List.getElem?_concat_length, set_last, get_mid, get_mid2, eqF, neF, ltF, leF, gtF, geF, isF, notF, addF, subF, mulF, fdivF, modF, powF, negF, ixF, lenF, tupF, lstF, absF, intF, gcdF, maxF, minF, Rs.to, dIsi, dIsi2, dIsE, tyN, D.isNon, dM1, dM0, srcSeq, srcRng1, srcRng2, dLc, tYesD, iaddF, isBF, notBF, srcZip, srcEnumerate, repF, sumF, allF, anyF, intsOf_map, blsOf_map, dSl, dPart, dNoPart, sliceF, at0, at1, at2, at3, at4, ix0, ix1, ix2, ix3, Dn.g0, Dn.g1, Dn.g2, Dn.g3, Dn.g4, ex_some, decide_true, decide_false, Bool.not_true, Bool.not_false, ite_true, ite_false, if_true, if_false, List.reverse_cons, List.reverse_nil, outPost, wipeE, CTg.set, setAll, appF, extF, revF, popF, Nat.zero_add, Nat.reduceAdd, is_NoneType_int, is_NoneType_bool, is_NoneType_str, is_NoneType_tuple, is_NoneType_list, is_bool_int, is_bool_bool, is_bool_str, is_bool_tuple, is_bool_list, is_int_int, is_int_bool, is_int_str, is_int_tuple, is_int_list, is_str_int, is_str_bool, is_str_str, is_str_tuple, is_str_list, is_tuple_int, is_tuple_bool, is_tuple_str, is_tuple_tuple, is_tuple_list, is_list_int, is_list_bool, is_list_str, is_list_tuple, is_list_list, strF, dDct, repLF, is_dict_int, is_dict_bool, is_dict_str, is_dict_tuple, is_dict_list, is_dict_dict, is_NoneType_dict, is_bool_dict, is_int_dict, is_str_dict, is_tuple_dict, is_list_dict]
  refine ⟨fun i e h => (∃ u, e = [some (.ref 0), some (.int n), some (.ref 2), some (.int a), some (.ref 16), u, none]) ∧ h = _, ⟨⟨_, rfl⟩, rfl⟩, ?_, ?_, ?_⟩
  · rintro i e h hi ⟨_, rfl⟩
    first | rfl | simp only [dOp, dUn, dVar, dC, slot, startE, List.map, List.length, List.replicate, List.append, List.cons_append, List.nil_append, List.set, dAnd, dOr, dNot, dtB, dtAnd, dtOr, dtNot, dIf, dtTru, truF, dNil, dCons, dTup, dLst, dCB, sNil, sSeq, sRet, sRetN, sExpr, sIf, sAsg, gN, gT, gsNil, gsCons, gS, sPar, sAug, sWhile, sFor, sBrk, sCont, sNo, sRaise, dCallP_eq, dCallD_eq, List.length_map, List.getElem?_cons_succ, List.getElem?_concat_length, set_last, get_mid, get_mid2, eqF, neF, ltF, leF, gtF, geF, isF, notF, addF, subF, mulF, fdivF, modF, powF, negF, ixF, lenF, tupF, lstF, absF, intF, gcdF, maxF, minF, Rs.to, dIsi, dIsi2, dIsE, tyN, D.isNon, dM1, dM0, srcSeq, srcRng1, srcRng2, dLc, tYesD, iaddF, isBF, notBF, srcZip, srcEnumerate, repF, sumF, allF, anyF, intsOf_map, blsOf_map, dSl, dPart, dNoPart, sliceF, at0, at1, at2, at3, at4, ix0, ix1, ix2, ix3, Dn.g0, Dn.g1, Dn.g2, Dn.g3, Dn.g4, ex_some, decide_true, decide_false, Bool.not_true, Bool.not_false, ite_true, ite_false, if_true, if_false, List.reverse_cons, List.reverse_nil, outPost, wipeE, CTg.set, setAll, appF, extF, revF, popF, Nat.zero_add, Nat.reduceAdd, is_NoneType_int, is_NoneType_bool, is_NoneType_str, is_NoneType_tuple, is_NoneType_list, is_bool_int, is_bool_bool, is_bool_str, is_bool_tuple, is_bool_list, is_int_int, is_int_bool, is_int_str, is_int_tuple, is_int_list, is_str_int, is_str_bool, is_str_str, is_str_tuple, is_str_list, is_tuple_int, is_tuple_bool, is_tuple_str, is_tuple_tuple, is_tuple_list, is_list_int, is_list_bool, is_list_str, is_list_tuple, is_list_list, strF, dDct, repLF, is_dict_int, is_dict_bool, is_dict_str, is_dict_tuple, is_dict_list, is_dict_dict, is_NoneType_dict, is_bool_dict, is_int_dict, is_str_dict, is_tuple_dict, is_list_dict]
  · rintro i x e h hx ⟨⟨u, rfl⟩, hh⟩
    have hm := List.mem_of_getElem? hx
    simp only [List.mem_cons, List.not_mem_nil, or_false] at hm
    obtain ⟨e, v, hv⟩ : ∃ e, View h (fun _ => True) x e ∧ noA e = true := by
      have pt : ∀ es : List D, pureDs es = true → noAs es = true → ∃ e, View h (fun _ => True) (D.tup es) e ∧ noA e = true := fun es p q => ⟨.tup es, .pure (by unfold pureD; exact p), by unfold noA; exact q⟩
      rcases hm with rfl | rfl | rfl | rfl | rfl | rfl | rfl | rfl | rfl
      · exact pt _ (ints_pure _) (ints_noA _)
      · exact ⟨.lst (F.map .int), .own (ds := F.map .int) (by rw [hh]; first | rfl | simp only [dOp, dUn, dVar, dC, slot, startE, List.map, List.length, List.replicate, List.append, List.cons_append, List.nil_append, List.set, dAnd, dOr, dNot, dtB, dtAnd, dtOr, dtNot, dIf, dtTru, truF, dNil, dCons, dTup, dLst, dCB, sNil, sSeq, sRet, sRetN, sExpr, sIf, sAsg, gN, gT, gsNil, gsCons, gS, sPar, sAug, sWhile, sFor, sBrk, sCont, sNo, sRaise, dCallP_eq, dCallD_eq, List.length_map, List.getElem?_cons_succ, List.getElem?_concat_length, set_last, get_mid, get_mid2, eqF, neF, ltF, leF, gtF, geF, isF, notF, addF, subF, mulF, fdivF, modF, powF, negF, ixF, lenF, tupF, lstF, absF, intF, gcdF, maxF, minF, Rs.to, dIsi, dIsi2, dIsE, tyN, D.isNon, dM1, dM0, srcSeq, srcRng1, srcRng2, dLc, tYesD, iaddF, isBF, notBF, srcZip, srcEnumerate, repF, sumF, allF, anyF, intsOf_map, blsOf_map, dSl, dPart, dNoPart, sliceF, at0, at1, at2, at3, at4, ix0, ix1, ix2, ix3, Dn.g0, Dn.g1, Dn.g2, Dn.g3, Dn.g4, ex_some, decide_true, decide_false, Bool.not_true, Bool.not_false, ite_true, ite_false, if_true, if_false, List.reverse_cons, List.reverse_nil, outPost, wipeE, CTg.set, setAll, appF, extF, revF, popF, Nat.zero_add, Nat.reduceAdd, is_NoneType_int, is_NoneType_bool, is_NoneType_str, is_NoneType_tuple, is_NoneType_list, is_bool_int, is_bool_bool, is_bool_str, is_bool_tuple, is_bool_list, is_int_int, is_int_bool, is_int_str, is_int_tuple, is_int_list, is_str_int, is_str_bool, is_str_str, is_str_tuple, is_str_list, is_tuple_int, is_tuple_bool, is_tuple_str, is_tuple_tuple, is_tuple_list, is_list_int, is_list_bool, is_list_str, is_list_tuple, is_list_list, strF, dDct, repLF, is_dict_int, is_dict_bool, is_dict_str, is_dict_tuple, is_dict_list, is_dict_dict, is_NoneType_dict, is_bool_dict, is_int_dict, is_str_dict, is_tuple_dict, is_list_dict]) trivial (Views.pures (ints_pure _)), by unfold noA; exact ints_noA _⟩
      · exact pt _ (ints_pure _) (ints_noA _)
      · exact pt _ (pureDs_app (ints_pure _) rfl) (noAs_app (ints_noA _) rfl)
      · exact pt _ (pureDs_app (pureDs_app (ints_pure _) rfl) (ints_pure _)) (noAs_app (noAs_app (ints_noA _) rfl) (ints_noA _))
      · exact pt _ (pureDs_app (pureDs_app (ints_pure _) rfl) (ints_pure _)) (noAs_app (noAs_app (ints_noA _) rfl) (ints_noA _))
      · exact pt _ (by simp only [pureDs, pureD, ints_pure]; rfl) (by simp only [noAs, noA, ints_noA]; rfl)
      · exact ⟨_, .pure rfl, rfl⟩
      · exact ⟨_, .pure rfl, rfl⟩
    simp only [l1__law_forms_right_0, dOp, dUn, dVar, dC, slot, startE, List.map, List.length, List.replicate, List.append, List.cons_append, List.nil_append, List.set, dAnd, dOr, dNot, dtB, dtAnd, dtOr, dtNot, dIf, dtTru, truF, dNil, dCons, dTup, dLst, dCB, sNil, sSeq, sRet, sRetN, sExpr, sIf, sAsg, gN, gT, gsNil, gsCons, gS, sPar, sAug, sWhile, sFor, sBrk, sCont, sNo, sRaise, dCallP_eq, dCallD_eq, List.length_map, List.getElem?_cons_succ, List.getElem?_concat_length, set_last, get_mid, get_mid2, eqF, neF, ltF, leF, gtF, geF, isF, notF, addF, subF, mulF, fdivF, modF, powF, negF, ixF, lenF, tupF, lstF, absF, intF, gcdF, maxF, minF, Rs.to, dIsi, dIsi2, dIsE, tyN, D.isNon, dM1, dM0, srcSeq, srcRng1, srcRng2, dLc, tYesD, iaddF, isBF, notBF, srcZip, srcEnumerate, repF, sumF, allF, anyF, intsOf_map, blsOf_map, dSl, dPart, dNoPart, sliceF, at0, at1, at2, at3, at4, ix0, ix1, ix2, ix3, Dn.g0, Dn.g1, Dn.g2, Dn.g3, Dn.g4, ex_some, decide_true, decide_false, Bool.not_true, Bool.not_false, ite_true, ite_false, if_true, if_false, List.reverse_cons, List.reverse_nil, outPost, wipeE, CTg.set, setAll, appF, extF, revF, popF, Nat.zero_add, Nat.reduceAdd, is_NoneType_int, is_NoneType_bool, is_NoneType_str, is_NoneType_tuple, is_NoneType_list, is_bool_int, is_bool_bool, is_bool_str, is_bool_tuple, is_bool_list, is_int_int, is_int_bool, is_int_str, is_int_tuple, is_int_list, is_str_int, is_str_bool, is_str_str, is_str_tuple, is_str_list, is_tuple_int, is_tuple_bool, is_tuple_str, is_tuple_tuple, is_tuple_list, is_list_int, is_list_bool, is_list_str, is_list_tuple, is_list_list, strF, dDct, repLF, is_dict_int, is_dict_bool, is_dict_str, is_dict_tuple, is_dict_list, is_dict_dict, is_NoneType_dict, is_bool_dict, is_int_dict, is_str_dict, is_tuple_dict, is_list_dict]
    refine useP_tform v hv (by omega) (useP_lform v hv (useP_same rfl ?_))
    simp only [dOp, dUn, dVar, dC, slot, startE, List.map, List.length, List.replicate, List.append, List.cons_append, List.nil_append, List.set, dAnd, dOr, dNot, dtB, dtAnd, dtOr, dtNot, dIf, dtTru, truF, dNil, dCons, dTup, dLst, dCB, sNil, sSeq, sRet, sRetN, sExpr, sIf, sAsg, gN, gT, gsNil, gsCons, gS, sPar, sAug, sWhile, sFor, sBrk, sCont, sNo, sRaise, dCallP_eq, dCallD_eq, List.length_map, List.getElem?_cons_succ, List.getElem?_concat_length, set_last, get_mid, get_mid2, eqF, neF, ltF, leF, gtF, geF, isF, notF, addF, subF, mulF, fdivF, modF, powF, negF, ixF, lenF, tupF, lstF, absF, intF, gcdF, maxF, minF, Rs.to, dIsi, dIsi2, dIsE, tyN, D.isNon, dM1, dM0, srcSeq, srcRng1, srcRng2, dLc, tYesD, iaddF, isBF, notBF, srcZip, srcEnumerate, repF, sumF, allF, anyF, intsOf_map, blsOf_map, dSl, dPart, dNoPart, sliceF, at0, at1, at2, at3, at4, ix0, ix1, ix2, ix3, Dn.g0, Dn.g1, Dn.g2, Dn.g3, Dn.g4, ex_some, decide_true, decide_false, Bool.not_true, Bool.not_false, ite_true, ite_false, if_true, if_false, List.reverse_cons, List.reverse_nil, outPost, wipeE, CTg.set, setAll, appF, extF, revF, popF, Nat.zero_add, Nat.reduceAdd, is_NoneType_int, is_NoneType_bool, is_NoneType_str, is_NoneType_tuple, is_NoneType_list, is_bool_int, is_bool_bool, is_bool_str, is_bool_tuple, is_bool_list, is_int_int, is_int_bool, is_int_str, is_int_tuple, is_int_list, is_str_int, is_str_bool, is_str_str, is_str_tuple, is_str_list, is_tuple_int, is_tuple_bool, is_tuple_str, is_tuple_tuple, is_tuple_list, is_list_int, is_list_bool, is_list_str, is_list_tuple, is_list_list, strF, dDct, repLF, is_dict_int, is_dict_bool, is_dict_str, is_dict_tuple, is_dict_list, is_dict_dict, is_NoneType_dict, is_bool_dict, is_int_dict, is_str_dict, is_tuple_dict, is_list_dict]
    exact ⟨⟨_, rfl⟩, hh⟩
  · rintro e h ⟨⟨u, rfl⟩, rfl⟩
    simp only [r__law_forms_right_5, dOp, dUn, dVar, dC, slot, startE, List.map, List.length, List.replicate, List.append, List.cons_append, List.nil_append, List.set, dAnd, dOr, dNot, dtB, dtAnd, dtOr, dtNot, dIf, dtTru, truF, dNil, dCons, dTup, dLst, dCB, sNil, sSeq, sRet, sRetN, sExpr, sIf, sAsg, gN, gT, gsNil, gsCons, gS, sPar, sAug, sWhile, sFor, sBrk, sCont, sNo, sRaise, dCallP_eq, dCallD_eq, List.length_map, List.getElem?_cons_succ, List.getElem?_concat_length, set_last, get_mid, get_mid2, eqF, neF, ltF, leF, gtF, geF, isF, notF, addF, subF, mulF, fdivF, modF, powF, negF, ixF, lenF, tupF, lstF, absF, intF, gcdF, maxF, minF, Rs.to, dIsi, dIsi2, dIsE, tyN, D.isNon, dM1, dM0, srcSeq, srcRng1, srcRng2, dLc, tYesD, iaddF, isBF, notBF, srcZip, srcEnumerate, repF, sumF, allF, anyF, intsOf_map, blsOf_map, dSl, dPart, dNoPart, sliceF, at0, at1, at2, at3, at4, ix0, ix1, ix2, ix3, Dn.g0, Dn.g1, Dn.g2, Dn.g3, Dn.g4, ex_some, decide_true, decide_false, Bool.not_true, Bool.not_false, ite_true, ite_false, if_true, if_false, List.reverse_cons, List.reverse_nil, outPost, wipeE, CTg.set, setAll, appF, extF, revF, popF, Nat.zero_add, Nat.reduceAdd, is_NoneType_int, is_NoneType_bool, is_NoneType_str, is_NoneType_tuple, is_NoneType_list, is_bool_int, is_bool_bool, is_bool_str, is_bool_tuple, is_bool_list, is_int_int, is_int_bool, is_int_str, is_int_tuple, is_int_list, is_str_int, is_str_bool, is_str_str, is_str_tuple, is_str_list, is_tuple_int, is_tuple_bool, is_tuple_str, is_tuple_tuple, is_tuple_list, is_list_int, is_list_bool, is_list_str, is_list_tuple, is_list_list, strF, dDct, repLF, is_dict_int, is_dict_bool, is_dict_str, is_dict_tuple, is_dict_list, is_dict_dict, is_NoneType_dict, is_bool_dict, is_int_dict, is_str_dict, is_tuple_dict, is_list_dict]
    exact rtD_val s hc rfl rfl rfl ⟨rfl, ha⟩
theorem w__law_forms_right : ∀ x ds s, sp__law_forms_right.pre x ds s → t__law_forms_right (endD sp__law_forms_right x s.c) (startE nm__law_forms_right.length (.ref 0 :: ds)) [.lst (drD 1 s), .lst (s.c.map .int)] := by
  rintro n ds s ⟨rfl, hn, h3⟩
  simp only [t__law_forms_right , r__law_forms_right_0, nm__law_forms_right, dOp, dUn, dVar, dC, slot, startE, List.map, List.length, List.replicate, List.append, List.cons_append, List.nil_append, List.set, dAnd, dOr, dNot, dtB, dtAnd, dtOr, dtNot, dIf, dtTru, truF, dNil, dCons, dTup, dLst, dCB, sNil, sSeq, sRet, sRetN, sExpr, sIf, sAsg, gN, gT, gsNil, gsCons, gS, sPar, sAug, sWhile, sFor, sBrk, sCont, sNo, sRaise, dCallP_eq, dCallD_eq, List.length_map, List.getElem?_cons_succ, List.getElem?_concat_length, set_last, get_mid, get_mid2, eqF, neF, ltF, leF, gtF, geF, isF, notF, addF, subF, mulF, fdivF, modF, powF, negF, ixF, lenF, tupF, lstF, absF, intF, gcdF, maxF, minF, Rs.to, dIsi, dIsi2, dIsE, tyN, D.isNon, dM1, dM0, srcSeq, srcRng1, srcRng2, dLc, tYesD, iaddF, isBF, notBF, srcZip, srcEnumerate, repF, sumF, allF, anyF, intsOf_map, blsOf_map, dSl, dPart, dNoPart, sliceF, at0, at1, at2, at3, at4, ix0, ix1, ix2, ix3, Dn.g0, Dn.g1, Dn.g2, Dn.g3, Dn.g4, ex_some, decide_true, decide_false, Bool.not_true, Bool.not_false, ite_true, ite_false, if_true, if_false, List.reverse_cons, List.reverse_nil, outPost, wipeE, CTg.set, setAll, appF, extF, revF, popF, Nat.zero_add, Nat.reduceAdd, is_NoneType_int, is_NoneType_bool, is_NoneType_str, is_NoneType_tuple, is_NoneType_list, is_bool_int, is_bool_bool, is_bool_str, is_bool_tuple, is_bool_list, is_int_int, is_int_bool, is_int_str, is_int_tuple, is_int_list, is_str_int, is_str_bool, is_str_str, is_str_tuple, is_str_list, is_tuple_int, is_tuple_bool, is_tuple_str, is_tuple_tuple, is_tuple_list, is_list_int, is_list_bool, is_list_str, is_list_tuple, is_list_list, strF, dDct, repLF, is_dict_int, is_dict_bool, is_dict_str, is_dict_tuple, is_dict_list, is_dict_dict, is_NoneType_dict, is_bool_dict, is_int_dict, is_str_dict, is_tuple_dict, is_list_dict]
  refine ⟨⟨by omega, by omega⟩, fun i acc h => ∃ (M : List Int) (s' : DrS), acc = M.map .int ∧ h = [.lst (drD 1 s'), .lst (s.c.map .int)] ∧ s'.c = s.c ∧ 0 ≤ s'.a ∧ M.length = i, ⟨[], s, rfl, rfl, rfl, h3, rfl⟩, fun _ _ _ _ _ => trivial, ?_, ?_⟩
  · rintro i y acc h hy ⟨M, s', rfl, rfl, hc', ha', hM⟩
    obtain ⟨hi, rfl⟩ := ints_at hy
    try simp only [dOp, dUn, dVar, dC, slot, startE, List.map, List.length, List.replicate, List.append, List.cons_append, List.nil_append, List.set, dAnd, dOr, dNot, dtB, dtAnd, dtOr, dtNot, dIf, dtTru, truF, dNil, dCons, dTup, dLst, dCB, sNil, sSeq, sRet, sRetN, sExpr, sIf, sAsg, gN, gT, gsNil, gsCons, gS, sPar, sAug, sWhile, sFor, sBrk, sCont, sNo, sRaise, dCallP_eq, dCallD_eq, List.length_map, List.getElem?_cons_succ, List.getElem?_concat_length, set_last, get_mid, get_mid2, eqF, neF, ltF, leF, gtF, geF, isF, notF, addF, subF, mulF, fdivF, modF, powF, negF, ixF, lenF, tupF, lstF, absF, intF, gcdF, maxF, minF, Rs.to, dIsi, dIsi2, dIsE, tyN, D.isNon, dM1, dM0, srcSeq, srcRng1, srcRng2, dLc, tYesD, iaddF, isBF, notBF, srcZip, srcEnumerate, repF, sumF, allF, anyF, intsOf_map, blsOf_map, dSl, dPart, dNoPart, sliceF, at0, at1, at2, at3, at4, ix0, ix1, ix2, ix3, Dn.g0, Dn.g1, Dn.g2, Dn.g3, Dn.g4, ex_some, decide_true, decide_false, Bool.not_true, Bool.not_false, ite_true, ite_false, if_true, if_false, List.reverse_cons, List.reverse_nil, outPost, wipeE, CTg.set, setAll, appF, extF, revF, popF, Nat.zero_add, Nat.reduceAdd, is_NoneType_int, is_NoneType_bool, is_NoneType_str, is_NoneType_tuple, is_NoneType_list, is_bool_int, is_bool_bool, is_bool_str, is_bool_tuple, is_bool_list, is_int_int, is_int_bool, is_int_str, is_int_tuple, is_int_list, is_str_int, is_str_bool, is_str_str, is_str_tuple, is_str_list, is_tuple_int, is_tuple_bool, is_tuple_str, is_tuple_tuple, is_tuple_list, is_list_int, is_list_bool, is_list_str, is_list_tuple, is_list_list, strF, dDct, repLF, is_dict_int, is_dict_bool, is_dict_str, is_dict_tuple, is_dict_list, is_dict_dict, is_NoneType_dict, is_bool_dict, is_int_dict, is_str_dict, is_tuple_dict, is_list_dict]
    refine useD_01 9 hc' rfl ⟨rfl, by decide, by decide, ha'⟩ ?_
    rintro o s4 ⟨q, rfl, -, -, a4⟩ hc4
    exact ⟨_, rfl, sl2 (by first | omega | (simp; omega)), M ++ [q], s4, app_int _ _, rfl, hc4, a4, by simp [hM]⟩
  · rintro acc h ⟨M, s', rfl, rfl, hc', ha', hM⟩
    rw [intsUp_len] at hM
    have hM : M.length = n + 1 := by omega
    simp only [r__law_forms_right_1, dOp, dUn, dVar, dC, slot, startE, List.map, List.length, List.replicate, List.append, List.cons_append, List.nil_append, List.set, dAnd, dOr, dNot, dtB, dtAnd, dtOr, dtNot, dIf, dtTru, truF, dNil, dCons, dTup, dLst, dCB, sNil, sSeq, sRet, sRetN, sExpr, sIf, sAsg, gN, gT, gsNil, gsCons, gS, sPar, sAug, sWhile, sFor, sBrk, sCont, sNo, sRaise, dCallP_eq, dCallD_eq, List.length_map, List.getElem?_cons_succ, List.getElem?_concat_length, set_last, get_mid, get_mid2, eqF, neF, ltF, leF, gtF, geF, isF, notF, addF, subF, mulF, fdivF, modF, powF, negF, ixF, lenF, tupF, lstF, absF, intF, gcdF, maxF, minF, Rs.to, dIsi, dIsi2, dIsE, tyN, D.isNon, dM1, dM0, srcSeq, srcRng1, srcRng2, dLc, tYesD, iaddF, isBF, notBF, srcZip, srcEnumerate, repF, sumF, allF, anyF, intsOf_map, blsOf_map, dSl, dPart, dNoPart, sliceF, at0, at1, at2, at3, at4, ix0, ix1, ix2, ix3, Dn.g0, Dn.g1, Dn.g2, Dn.g3, Dn.g4, ex_some, decide_true, decide_false, Bool.not_true, Bool.not_false, ite_true, ite_false, if_true, if_false, List.reverse_cons, List.reverse_nil, outPost, wipeE, CTg.set, setAll, appF, extF, revF, popF, Nat.zero_add, Nat.reduceAdd, is_NoneType_int, is_NoneType_bool, is_NoneType_str, is_NoneType_tuple, is_NoneType_list, is_bool_int, is_bool_bool, is_bool_str, is_bool_tuple, is_bool_list, is_int_int, is_int_bool, is_int_str, is_int_tuple, is_int_list, is_str_int, is_str_bool, is_str_str, is_str_tuple, is_str_list, is_tuple_int, is_tuple_bool, is_tuple_str, is_tuple_tuple, is_tuple_list, is_list_int, is_list_bool, is_list_str, is_list_tuple, is_list_list, strF, dDct, repLF, is_dict_int, is_dict_bool, is_dict_str, is_dict_tuple, is_dict_list, is_dict_dict, is_NoneType_dict, is_bool_dict, is_int_dict, is_str_dict, is_tuple_dict, is_list_dict]
    refine useD_01 ((n : Int) + 1) hc' rfl ⟨rfl, by omega, bt_lit (by omega) (by decide), ha'⟩ ?_
    rintro o s2 ⟨a, rfl, a0, a1, aa⟩ hc2
    refine ⟨_, rfl, ?_⟩
    obtain ⟨k, rfl⟩ : ∃ k : Nat, a = k := ⟨a.toNat, by omega⟩
    simp only [r__law_forms_right_2, dOp, dUn, dVar, dC, slot, startE, List.map, List.length, List.replicate, List.append, List.cons_append, List.nil_append, List.set, dAnd, dOr, dNot, dtB, dtAnd, dtOr, dtNot, dIf, dtTru, truF, dNil, dCons, dTup, dLst, dCB, sNil, sSeq, sRet, sRetN, sExpr, sIf, sAsg, gN, gT, gsNil, gsCons, gS, sPar, sAug, sWhile, sFor, sBrk, sCont, sNo, sRaise, dCallP_eq, dCallD_eq, List.length_map, List.getElem?_cons_succ, List.getElem?_concat_length, set_last, get_mid, get_mid2, eqF, neF, ltF, leF, gtF, geF, isF, notF, addF, subF, mulF, fdivF, modF, powF, negF, ixF, lenF, tupF, lstF, absF, intF, gcdF, maxF, minF, Rs.to, dIsi, dIsi2, dIsE, tyN, D.isNon, dM1, dM0, srcSeq, srcRng1, srcRng2, dLc, tYesD, iaddF, isBF, notBF, srcZip, srcEnumerate, repF, sumF, allF, anyF, intsOf_map, blsOf_map, dSl, dPart, dNoPart, sliceF, at0, at1, at2, at3, at4, ix0, ix1, ix2, ix3, Dn.g0, Dn.g1, Dn.g2, Dn.g3, Dn.g4, ex_some, decide_true, decide_false, Bool.not_true, Bool.not_false, ite_true, ite_false, if_true, if_false, List.reverse_cons, List.reverse_nil, outPost, wipeE, CTg.set, setAll, appF, extF, revF, popF, Nat.zero_add, Nat.reduceAdd, is_NoneType_int, is_NoneType_bool, is_NoneType_str, is_NoneType_tuple, is_NoneType_list, is_bool_int, is_bool_bool, is_bool_str, is_bool_tuple, is_bool_list, is_int_int, is_int_bool, is_int_str, is_int_tuple, is_int_list, is_str_int, is_str_bool, is_str_str, is_str_tuple, is_str_list, is_tuple_int, is_tuple_bool, is_tuple_str, is_tuple_tuple, is_tuple_list, is_list_int, is_list_bool, is_list_str, is_list_tuple, is_list_list, strF, dDct, repLF, is_dict_int, is_dict_bool, is_dict_str, is_dict_tuple, is_dict_list, is_dict_dict, is_NoneType_dict, is_bool_dict, is_int_dict, is_str_dict, is_tuple_dict, is_list_dict]
    refine useD_01 () hc2 rfl ⟨rfl, aa⟩ ?_
    rintro o s3 ⟨v, rfl, a3⟩ hc3
    refine ⟨_, rfl, ?_⟩
    simp only [dOp, dUn, dVar, dC, slot, startE, List.map, List.length, List.replicate, List.append, List.cons_append, List.nil_append, List.set, dAnd, dOr, dNot, dtB, dtAnd, dtOr, dtNot, dIf, dtTru, truF, dNil, dCons, dTup, dLst, dCB, sNil, sSeq, sRet, sRetN, sExpr, sIf, sAsg, gN, gT, gsNil, gsCons, gS, sPar, sAug, sWhile, sFor, sBrk, sCont, sNo, sRaise, dCallP_eq, dCallD_eq, List.length_map, List.getElem?_cons_succ, List.getElem?_concat_length, set_last, get_mid, get_mid2, eqF, neF, ltF, leF, gtF, geF, isF, notF, addF, subF, mulF, fdivF, modF, powF, negF, ixF, lenF, tupF, lstF, absF, intF, gcdF, maxF, minF, Rs.to, dIsi, dIsi2, dIsE, tyN, D.isNon, dM1, dM0, srcSeq, srcRng1, srcRng2, dLc, tYesD, iaddF, isBF, notBF, srcZip, srcEnumerate, repF, sumF, allF, anyF, intsOf_map, blsOf_map, dSl, dPart, dNoPart, sliceF, at0, at1, at2, at3, at4, ix0, ix1, ix2, ix3, Dn.g0, Dn.g1, Dn.g2, Dn.g3, Dn.g4, ex_some, decide_true, decide_false, Bool.not_true, Bool.not_false, ite_true, ite_false, if_true, if_false, List.reverse_cons, List.reverse_nil, outPost, wipeE, CTg.set, setAll, appF, extF, revF, popF, Nat.zero_add, Nat.reduceAdd, is_NoneType_int, is_NoneType_bool, is_NoneType_str, is_NoneType_tuple, is_NoneType_list, is_bool_int, is_bool_bool, is_bool_str, is_bool_tuple, is_bool_list, is_int_int, is_int_bool, is_int_str, is_int_tuple, is_int_list, is_str_int, is_str_bool, is_str_str, is_str_tuple, is_str_list, is_tuple_int, is_tuple_bool, is_tuple_str, is_tuple_tuple, is_tuple_list, is_list_int, is_list_bool, is_list_str, is_list_tuple, is_list_list, strF, dDct, repLF, is_dict_int, is_dict_bool, is_dict_str, is_dict_tuple, is_dict_list, is_dict_dict, is_NoneType_dict, is_bool_dict, is_int_dict, is_str_dict, is_tuple_dict, is_list_dict]
    refine ⟨k, ixN_nat (by first | omega | (simp; omega)), ?_⟩
    have e : (M.map D.int).set k (.int v) = (M.set k v).map .int := by rw [List.map_set]
    rw [e]
    exact forms_tail hc3 a3 hn (by rw [List.length_set]; exact hM) (by omega)

theorem ok__law_forms_right (T : Txt K mg) : Ok P w K mg base 5 "_law_forms_right" ["draws", "size"] (spD K sp__law_forms_right) :=
  okOf T.d__law_forms_right fun f fd F => fnD (k := 4) sp__law_forms_right t__law_forms_right F sc__law_forms_right (fun x ds s hp => len__law_forms_right x ds s hp) (fun cdv A outer s H E hr z => by
    have hu := hr.units; have hnd := sc__law_forms_right.nd
    unfold t__law_forms_right r__law_forms_right_0 r__law_forms_right_1 r__law_forms_right_2 r__law_forms_right_3 r__law_forms_right_4 r__law_forms_right_5 l1__law_forms_right_0
    exact (dss_cons (ds_setLc 2 (own := [("k", 6)]) (c := (.one 6)) (tt := tYesD) (te := (dCallD sp__law_near (dCons (dVar 0) (dCons (dC (.int 9)) dNil)))) rfl hnd rfl rfl (sw_true rfl rfl rfl (by decide +kernel)) (di_rng1 rfl T.b_range (da_cons (de_add (de_var 1 rfl (by walk_at "vis") (by decide) (by decide)) de_int) da_nil rfl) rfl) (blkOk_by (N := nm__law_forms_right) (sc := defScope s__law_forms_right) (by decide +kernel)) (by decide) (fun _ _ _ _ _ => pg_name (i := 6) hnd rfl (by walk_at "locs") (by walk_at "fnn")) (fun _ _ _ _ _ => dts_nil) (fun _ _ _ _ _ => (dn_callD ((ok__law_near (P := P) (w := w) (base := base) T).mono (by decide)) hr takes0 rfl (by decide) (da_cons (de_var 0 rfl (by walk_at "vis") (by decide) (by decide)) (da_cons de_int da_nil rfl) rfl) rfl rfl)) (fun _ => rfl))
    (dss_cons (ds_set 3 hnd rfl (by walk_at "locs") (dn_callD ((ok__law_draw (P := P) (w := w) (base := base) T).mono (by decide)) hr (takes_of rfl rfl rfl rfl) rfl (by decide) (da_cons (de_var 0 rfl (by walk_at "vis") (by decide) (by decide)) (da_cons (de_add (de_var 1 rfl (by walk_at "vis") (by decide) (by decide)) de_int) da_nil rfl) rfl) rfl rfl) rfl (by walk_at "fnn"))
    (dss_cons (ds_asg (dn_callD ((ok__law_number (P := P) (w := w) (base := base) T).mono (by decide)) hr (takes_of rfl rfl rfl rfl) rfl (by decide) (da_cons (de_var 0 rfl (by walk_at "vis") (by decide) (by decide)) da_nil rfl) rfl rfl) (dg_sub (de_var 2 rfl (by walk_at "vis") (by decide) (by decide)) (de_var 3 rfl (by walk_at "vis") (by decide) (by decide)) (fun _ => rfl)) rfl rfl rfl)
    (dss_cons (ds_set 4 hnd rfl (by walk_at "locs") (de_lst (da_cons (de_callTy (f := tupF) call_tuple_of cd_tup rfl T.b_tuple (by decide +kernel) (da_cons (de_var 2 rfl (by walk_at "vis") (by decide) (by decide)) da_nil rfl) (by decide) (by decide) rfl rfl) (da_cons (de_var 2 rfl (by walk_at "vis") (by decide) (by decide)) (da_cons (de_callTy (f := tupF) call_tuple_of cd_tup rfl T.b_tuple (by decide +kernel) (da_cons (de_slice (de_var 2 rfl (by walk_at "vis") (by decide) (by decide)) (do_some de_int) do_none) da_nil rfl) (by decide) (by decide) rfl rfl) (da_cons (de_callTy (f := tupF) call_tuple_of cd_tup rfl T.b_tuple (by decide +kernel) (da_cons (de_add (de_var 2 rfl (by walk_at "vis") (by decide) (by decide)) (de_lst (da_cons de_int da_nil rfl) (by decide))) da_nil rfl) (by decide) (by decide) rfl rfl) (da_cons (de_callTy (f := tupF) call_tuple_of cd_tup rfl T.b_tuple (by decide +kernel) (da_cons (de_add (de_add (de_slice (de_var 2 rfl (by walk_at "vis") (by decide) (by decide)) do_none (do_some (de_var 3 rfl (by walk_at "vis") (by decide) (by decide)))) (de_lst (da_cons de_bl da_nil rfl) (by decide))) (de_slice (de_var 2 rfl (by walk_at "vis") (by decide) (by decide)) (do_some (de_add (de_var 3 rfl (by walk_at "vis") (by decide) (by decide)) de_int)) do_none)) da_nil rfl) (by decide) (by decide) rfl rfl) (da_cons (de_callTy (f := tupF) call_tuple_of cd_tup rfl T.b_tuple (by decide +kernel) (da_cons (de_add (de_add (de_slice (de_var 2 rfl (by walk_at "vis") (by decide) (by decide)) do_none (do_some (de_var 3 rfl (by walk_at "vis") (by decide) (by decide)))) (de_lst (da_cons de_str da_nil rfl) (by decide))) (de_slice (de_var 2 rfl (by walk_at "vis") (by decide) (by decide)) (do_some (de_add (de_var 3 rfl (by walk_at "vis") (by decide) (by decide)) de_int)) do_none)) da_nil rfl) (by decide) (by decide) rfl rfl) (da_cons (de_tup (da_cons (de_callTy (f := tupF) call_tuple_of cd_tup rfl T.b_tuple (by decide +kernel) (da_cons (de_var 2 rfl (by walk_at "vis") (by decide) (by decide)) da_nil rfl) (by decide) (by decide) rfl rfl) da_nil rfl) (by decide)) (da_cons de_non (da_cons (de_ix (de_var 2 rfl (by walk_at "vis") (by decide) (by decide)) (de_var 3 rfl (by walk_at "vis") (by decide) (by decide)) (fun _ _ => rfl)) da_nil rfl) rfl) rfl) rfl) rfl) rfl) rfl) rfl) rfl) (by decide)) rfl (by walk_at "fnn"))
    (dss_cons (ds_for (passes_of (K := fun e s'' => L2.CX P w outer H s E e s'') (E₁ := fun e s'' => L2.CX P w outer H s E e s'') rfl) rfl (di_seq (de_var 4 rfl (by walk_at "vis") (by decide) (by decide))) (dg_name 5 hnd rfl (by walk_at "locs") (by walk_at "fnn")) (dss_one (ds_if (dt_not (dt_tru (dn_callP ((ok__law_same (P := P) (w := w) (base := base) T 3).mono (by decide)) hr (takes_of rfl rfl rfl rfl) rfl (by decide) (da_cons (dn_callP ((ok_is_told_form (P := P) (w := w) (base := base) T).mono (by decide)) hr (takes_of rfl rfl rfl rfl) rfl (by decide) (da_cons (de_var 5 rfl (by walk_at "vis") (by decide) (by decide)) (da_cons (de_var 1 rfl (by walk_at "vis") (by decide) (by decide)) da_nil rfl) rfl) rfl rfl) (da_cons (dn_callP ((ok__law_is_form (P := P) (w := w) (base := base) T).mono (by decide)) hr (takes_of rfl rfl rfl rfl) rfl (by decide) (da_cons (de_var 5 rfl (by walk_at "vis") (by decide) (by decide)) (da_cons (de_var 1 rfl (by walk_at "vis") (by decide) (by decide)) da_nil rfl) rfl) rfl rfl) da_nil rfl) rfl) rfl rfl) (fun _ => rfl))) (dss_one (ds_ret de_bl)) dss_nil)) (fun _ => rfl))
    (dss_one (ds_ret de_bl)))))))) w__law_forms_right
/-! ### _law_points_right -/
def sp__law_points_right : SpcD Nat where
  pre := fun n ds s => ds = [.int n] ∧ 1 ≤ n ∧ n ≤ 8 ∧ 0 ≤ s.a
  res := fun _ o s' => o = .val (.bl true) ∧ 0 ≤ s'.a

def l1__law_points_right_0 : dS :=
  (sIf (dtNot (dtTru (dCallP (sp__law_same 3) (dCons (dCallP sp_is_told_point (dCons (dVar 8) (dCons (dVar 1) dNil))) (dCons (dCallP sp__law_is_point (dCons (dVar 8) (dCons (dVar 1) dNil))) dNil))))) (sRet (dC (.bl false))) sNil)
def r__law_points_right_9 : dS :=
  (sRet (dC (.bl true)))
def r__law_points_right_8 : dS :=
  (sSeq (sFor (srcSeq (dVar 7)) (gN 8) (l1__law_points_right_0)) (r__law_points_right_9))
def r__law_points_right_7 : dS :=
  (sSeq (sAsg (dLst (dCons (dVar 5) (dCons (dVar 6) (dCons (dCB lstF (dCons (dVar 5) dNil)) (dCons (dSl (dVar 5) (dPart (dC (.int 1))) dNoPart) (dCons (dOp addF (dVar 5) (dTup (dCons (dC (.int 1)) dNil))) (dCons (dCB tupF (dCons (dLc (srcSeq (dVar 5)) (.one 10) [10] tYesD (dUn negF (dVar 10))) dNil)) (dCons (dOp addF (dSl (dVar 5) dNoPart (dPart (dUn negF (dC (.int 1))))) (dTup (dCons (dC (.int 0)) dNil))) (dCons (dOp addF (dSl (dVar 5) dNoPart (dPart (dUn negF (dC (.int 1))))) (dTup (dCons (dC (.bl true)) dNil))) (dCons (dTup (dCons (dVar 5) dNil)) (dCons (dC .non) (dCons (dC (.int 3)) dNil)))))))))))) (gN 7)) (r__law_points_right_8))
def r__law_points_right_6 : dS :=
  (sSeq (sAsg (dCB tupF (dCons (dLc (srcSeq (dVar 5)) (.one 10) [10] tYesD (dOp mulF (dC (.int 2)) (dVar 10))) dNil)) (gN 6)) (r__law_points_right_7))
def r__law_points_right_5 : dS :=
  (sSeq (sAsg (dCallP sp__law_point (dCons (dVar 2) dNil)) (gN 5)) (r__law_points_right_6))
def r__law_points_right_4 : dS :=
  (sSeq (sIf (dtB (dOp eqF (dCallD sp__law_draw (dCons (dVar 0) (dCons (dC (.int 2)) dNil))) (dC (.int 0)))) (sAsg (dTup (dCons (dOp addF (dOp mulF (dCallD sp__law_near (dCons (dVar 0) (dCons (dC (.int 1)) dNil))) (dC (.int 2))) (dC (.int 1))) (dCons (dC (.int 99989)) dNil))) (gS (dVar 2) (dOp modF (dCB intF (dCons (dOp addF (dVar 3) (dC (.int 1))) dNil)) (dVar 1)))) sNil) (r__law_points_right_5))
def r__law_points_right_3 : dS :=
  (sSeq (sAsg (dOp ixF (dLst (dCons (dOp ixF (dVar 2) (dVar 3)) (dCons (dTup (dCons (dVar 4) (dCons (dC (.int 1)) dNil))) (dCons (dTup (dCons (dUn negF (dVar 4)) (dCons (dC (.int 1)) dNil))) (dCons (dTup (dCons (dC (.int 1)) (dCons (dVar 4) dNil))) (dCons (dCallP sp__law_ratio (dCons (dVar 4) (dCons (dC (.int 3)) dNil))) (dCons (dTup (dCons (dC (.int 1)) (dCons (dC (.int 99991)) dNil))) dNil))))))) (dCallD sp__law_draw (dCons (dVar 0) (dCons (dC (.int 6)) dNil)))) (gS (dVar 2) (dVar 3))) (r__law_points_right_4))
def r__law_points_right_2 : dS :=
  (sSeq (sAsg (dOp subF (dOp addF (dC (.int 1000000000)) (dCallD sp__law_draw (dCons (dVar 0) (dCons (dC (.int 3)) dNil)))) (dC (.int 1))) (gN 4)) (r__law_points_right_3))
def r__law_points_right_1 : dS :=
  (sSeq (sAsg (dCallD sp__law_draw (dCons (dVar 0) (dCons (dVar 1) dNil))) (gN 3)) (r__law_points_right_2))
def r__law_points_right_0 : dS :=
  (sSeq (sAsg (dLc (srcRng1 (dCons (dVar 1) dNil)) (.one 9) [9] tYesD (dCallP sp__law_ratio (dCons (dCallD sp__law_near (dCons (dVar 0) (dCons (dC (.int 30)) dNil))) (dCons (dOp addF (dC (.int 1)) (dCallD sp__law_draw (dCons (dVar 0) (dCons (dC (.int 9)) dNil)))) dNil)))) (gN 2)) (r__law_points_right_1))
def t__law_points_right : dS :=
  (r__law_points_right_0)
theorem len__law_points_right : ∀ x ds s, sp__law_points_right.pre x ds s → ds.length + 1 = 2 := fun x ds s h => by rw [h.1]; rfl
theorem nf2_pos {n d : Int} (h : 0 < d) : 0 < nf2 n d := by
  unfold nf2 sg
  rw [if_neg (by omega), Nat.gcd_comm]
  exact div_gcd_pos h
/-- a fraction of a row -/
def FrOk (a : Fr) : Prop := 0 < a.2 ∧ Bt 60 a.1 ∧ Bt 60 a.2
theorem fr_rt {n d : Int} (h : 0 < d) (b1 : Bt 60 n) (b2 : Bt 60 d) : FrOk (nf1 n d, nf2 n d) := ⟨nf2_pos h, bits_fdiv b1, bits_fdiv b2⟩
theorem b60 {x : Int} (h : x.natAbs < 2 ^ 60) : Bt 60 x := bt_iff.mpr h
def PtArg (h : Hh) (x e : D) : Prop := View h (fun _ => True) x e ∧ noA e = true ∧ ∀ L : List Int, e = tI L → Lb 8000 L
theorem useP_tpt {d e : D} {n : Int} {h : Hh} {Q : D → Hh → Prop} {E : XK'} (v : PtArg h d e) (n0 : 0 ≤ n) (n9 : n ≤ 90) (q : Q (.bl (tptB n e)) h) : useP sp_is_told_point [d, .int n] h Q E :=
  useP_mk ⟨e, n⟩ _ (.cons v.1 (Views.pures rfl)) ⟨rfl, v.2.1, n0, n9, v.2.2⟩ (fun o ho _ => by rw [ho]; exact q) (fun _ q => q)
theorem useP_lpt {d e : D} {n : Int} {h : Hh} {Q : D → Hh → Prop} {E : XK'} (v : PtArg h d e) (n0 : 0 ≤ n) (n9 : n ≤ 90) (q : Q (.bl (tptB n e)) h) : useP sp__law_is_point [d, .int n] h Q E :=
  useP_mk ⟨e, n⟩ _ (.cons v.1 (Views.pures rfl)) ⟨rfl, v.2.1, n0, n9, v.2.2⟩ (fun o ho _ => by rw [ho]; exact q) (fun _ q => q)
theorem pt_ints {h : Hh} {L : List Int} (lb : Lb 8000 L) : ∃ e, PtArg h (tI L) e := ⟨tI L, .pure (by unfold pureD; exact ints_pure _), by unfold noA; exact ints_noA _, fun M e => by rw [← tI_inj e]; exact lb⟩
theorem pt_odd {h : Hh} {es : List D} {d : D} (p : pureDs es = true) (q : noAs es = true) (hd : d ∈ es) (hi : isI' d = false) : ∃ e, PtArg h (.tup es) e := ⟨.tup es, .pure (by unfold pureD; exact p), by unfold noA; exact q, fun M e => by
  injection e with e
  subst e
  obtain ⟨i, _, rfl⟩ := List.mem_map.mp hd
  cases hi⟩
theorem tI_app {L : List Int} {k : Int} : D.tup (List.map D.int L ++ [D.int k]) = tI (L ++ [k]) := by rw [app_int]
theorem points_tail {c : List Int} {s : DrS} {n : Nat} {j : Hh} {R : List Fr} {u3 u4 : Option D} (hc : s.c = c) (ha : 0 ≤ s.a) (n1 : 1 ≤ n) (hn : n ≤ 8) (hR : R.length = n) (hq : ∀ a ∈ R, FrOk a) :
    r__law_points_right_5 (endD sp__law_points_right n c) [some (.ref 0), some (.int n), some (.ref 2), u3, u4, none, none, none, none, none, none] (.lst (drD 1 s) :: .lst (c.map .int) :: .lst (R.map prD) :: j) := by
  have pR : pureDs (R.map prD) = true := by
    clear hR hq
    induction R with
    | nil => rfl
    | cons a r ih => rw [List.map_cons]; unfold pureDs; rw [ih]; rfl
  simp only [r__law_points_right_5, dOp, dUn, dVar, dC, slot, startE, List.map, List.length, List.replicate, List.append, List.cons_append, List.nil_append, List.set, dAnd, dOr, dNot, dtB, dtAnd, dtOr, dtNot, dIf, dtTru, truF, dNil, dCons, dTup, dLst, dCB, sNil, sSeq, sRet, sRetN, sExpr, sIf, sAsg, gN, gT, gsNil, gsCons, gS, sPar, sAug, sWhile, sFor, sBrk, sCont, sNo, sRaise, dCallP_eq, dCallD_eq, List.length_map, List.getElem?_cons_succ, List.getElem?_concat_length, set_last, get_mid, get_mid2, eqF, neF, ltF, leF, gtF, geF, isF, notF, addF, subF, mulF, fdivF, modF, powF, negF, ixF, lenF, tupF, lstF, absF, intF, gcdF, maxF, minF, Rs.to, dIsi, dIsi2, dIsE, tyN, D.isNon, dM1, dM0, srcSeq, srcRng1, srcRng2, dLc, tYesD, iaddF, isBF, notBF, srcZip, srcEnumerate, repF, sumF, allF, anyF, intsOf_map, blsOf_map, dSl, dPart, dNoPart, sliceF, at0, at1, at2, at3, at4, ix0, ix1, ix2, ix3, Dn.g0, Dn.g1, Dn.g2, Dn.g3, Dn.g4, ex_some, decide_true, decide_false, Bool.not_true, Bool.not_false, ite_true, ite_false, if_true, if_false, List.reverse_cons, List.reverse_nil, outPost, wipeE, CTg.set, setAll, appF, extF, revF, popF, Nat.zero_add, Nat.reduceAdd, is_NoneType_int, is_NoneType_bool, is_NoneType_str, is_NoneType_tuple, is_NoneType_list, is_bool_int, is_bool_bool, is_bool_str, is_bool_tuple, is_bool_list, is_int_int, is_int_bool, is_int_str, is_int_tuple, is_int_list, is_str_int, is_str_bool, is_str_str, is_str_tuple, is_str_list, is_tuple_int, is_tuple_bool, is_tuple_str, is_tuple_tuple, is_tuple_list, is_list_int, is_list_bool, is_list_str, is_list_tuple, is_list_list, strF, dDct, repLF, is_dict_int, is_dict_bool, is_dict_str, is_dict_tuple, is_dict_list, is_dict_dict, is_NoneType_dict, is_bool_dict, is_int_dict, is_str_dict, is_tuple_dict, is_list_dict]
  refine useP_mk R [.lst (R.map prD)] (.cons (.own (by first | rfl | simp only [dOp, dUn, dVar, dC, slot, startE, List.map, List.length, List.replicate, List.append, List.cons_append, List.nil_append, List.set, dAnd, dOr, dNot, dtB, dtAnd, dtOr, dtNot, dIf, dtTru, truF, dNil, dCons, dTup, dLst, dCB, sNil, sSeq, sRet, sRetN, sExpr, sIf, sAsg, gN, gT, gsNil, gsCons, gS, sPar, sAug, sWhile, sFor, sBrk, sCont, sNo, sRaise, dCallP_eq, dCallD_eq, List.length_map, List.getElem?_cons_succ, List.getElem?_concat_length, set_last, get_mid, get_mid2, eqF, neF, ltF, leF, gtF, geF, isF, notF, addF, subF, mulF, fdivF, modF, powF, negF, ixF, lenF, tupF, lstF, absF, intF, gcdF, maxF, minF, Rs.to, dIsi, dIsi2, dIsE, tyN, D.isNon, dM1, dM0, srcSeq, srcRng1, srcRng2, dLc, tYesD, iaddF, isBF, notBF, srcZip, srcEnumerate, repF, sumF, allF, anyF, intsOf_map, blsOf_map, dSl, dPart, dNoPart, sliceF, at0, at1, at2, at3, at4, ix0, ix1, ix2, ix3, Dn.g0, Dn.g1, Dn.g2, Dn.g3, Dn.g4, ex_some, decide_true, decide_false, Bool.not_true, Bool.not_false, ite_true, ite_false, if_true, if_false, List.reverse_cons, List.reverse_nil, outPost, wipeE, CTg.set, setAll, appF, extF, revF, popF, Nat.zero_add, Nat.reduceAdd, is_NoneType_int, is_NoneType_bool, is_NoneType_str, is_NoneType_tuple, is_NoneType_list, is_bool_int, is_bool_bool, is_bool_str, is_bool_tuple, is_bool_list, is_int_int, is_int_bool, is_int_str, is_int_tuple, is_int_list, is_str_int, is_str_bool, is_str_str, is_str_tuple, is_str_list, is_tuple_int, is_tuple_bool, is_tuple_str, is_tuple_tuple, is_tuple_list, is_list_int, is_list_bool, is_list_str, is_list_tuple, is_list_list, strF, dDct, repLF, is_dict_int, is_dict_bool, is_dict_str, is_dict_tuple, is_dict_list, is_dict_dict, is_NoneType_dict, is_bool_dict, is_int_dict, is_str_dict, is_tuple_dict, is_list_dict]) trivial (Views.pures pR)) .nil) ⟨rfl, ⟨by omega, fun a h => (hq a h).1, fun a h => (hq a h).2⟩⟩ ?_ (fun _ q => q)
  rintro o ⟨L, rfl, hL, lb⟩ -
  have hL : L.length = n + 1 := by omega
  simp only [r__law_points_right_6, dOp, dUn, dVar, dC, slot, startE, List.map, List.length, List.replicate, List.append, List.cons_append, List.nil_append, List.set, dAnd, dOr, dNot, dtB, dtAnd, dtOr, dtNot, dIf, dtTru, truF, dNil, dCons, dTup, dLst, dCB, sNil, sSeq, sRet, sRetN, sExpr, sIf, sAsg, gN, gT, gsNil, gsCons, gS, sPar, sAug, sWhile, sFor, sBrk, sCont, sNo, sRaise, dCallP_eq, dCallD_eq, List.length_map, List.getElem?_cons_succ, List.getElem?_concat_length, set_last, get_mid, get_mid2, eqF, neF, ltF, leF, gtF, geF, isF, notF, addF, subF, mulF, fdivF, modF, powF, negF, ixF, lenF, tupF, lstF, absF, intF, gcdF, maxF, minF, Rs.to, dIsi, dIsi2, dIsE, tyN, D.isNon, dM1, dM0, srcSeq, srcRng1, srcRng2, dLc, tYesD, iaddF, isBF, notBF, srcZip, srcEnumerate, repF, sumF, allF, anyF, intsOf_map, blsOf_map, dSl, dPart, dNoPart, sliceF, at0, at1, at2, at3, at4, ix0, ix1, ix2, ix3, Dn.g0, Dn.g1, Dn.g2, Dn.g3, Dn.g4, ex_some, decide_true, decide_false, Bool.not_true, Bool.not_false, ite_true, ite_false, if_true, if_false, List.reverse_cons, List.reverse_nil, outPost, wipeE, CTg.set, setAll, appF, extF, revF, popF, Nat.zero_add, Nat.reduceAdd, is_NoneType_int, is_NoneType_bool, is_NoneType_str, is_NoneType_tuple, is_NoneType_list, is_bool_int, is_bool_bool, is_bool_str, is_bool_tuple, is_bool_list, is_int_int, is_int_bool, is_int_str, is_int_tuple, is_int_list, is_str_int, is_str_bool, is_str_str, is_str_tuple, is_str_list, is_tuple_int, is_tuple_bool, is_tuple_str, is_tuple_tuple, is_tuple_list, is_list_int, is_list_bool, is_list_str, is_list_tuple, is_list_list, strF, dDct, repLF, is_dict_int, is_dict_bool, is_dict_str, is_dict_tuple, is_dict_list, is_dict_dict, is_NoneType_dict, is_bool_dict, is_int_dict, is_str_dict, is_tuple_dict, is_list_dict]
  refine ⟨fun i acc h => acc = ((L.take i).map fun y => 2 * y).map .int ∧ h = _, ⟨rfl, rfl⟩, fun _ _ _ _ _ => trivial, ?_, ?_⟩
  · rintro i x acc h hx ⟨rfl, rfl⟩
    obtain ⟨hi, rfl⟩ := mapi_at hx
    simp only [dOp, dUn, dVar, dC, slot, startE, List.map, List.length, List.replicate, List.append, List.cons_append, List.nil_append, List.set, dAnd, dOr, dNot, dtB, dtAnd, dtOr, dtNot, dIf, dtTru, truF, dNil, dCons, dTup, dLst, dCB, sNil, sSeq, sRet, sRetN, sExpr, sIf, sAsg, gN, gT, gsNil, gsCons, gS, sPar, sAug, sWhile, sFor, sBrk, sCont, sNo, sRaise, dCallP_eq, dCallD_eq, List.length_map, List.getElem?_cons_succ, List.getElem?_concat_length, set_last, get_mid, get_mid2, eqF, neF, ltF, leF, gtF, geF, isF, notF, addF, subF, mulF, fdivF, modF, powF, negF, ixF, lenF, tupF, lstF, absF, intF, gcdF, maxF, minF, Rs.to, dIsi, dIsi2, dIsE, tyN, D.isNon, dM1, dM0, srcSeq, srcRng1, srcRng2, dLc, tYesD, iaddF, isBF, notBF, srcZip, srcEnumerate, repF, sumF, allF, anyF, intsOf_map, blsOf_map, dSl, dPart, dNoPart, sliceF, at0, at1, at2, at3, at4, ix0, ix1, ix2, ix3, Dn.g0, Dn.g1, Dn.g2, Dn.g3, Dn.g4, ex_some, decide_true, decide_false, Bool.not_true, Bool.not_false, ite_true, ite_false, if_true, if_false, List.reverse_cons, List.reverse_nil, outPost, wipeE, CTg.set, setAll, appF, extF, revF, popF, Nat.zero_add, Nat.reduceAdd, is_NoneType_int, is_NoneType_bool, is_NoneType_str, is_NoneType_tuple, is_NoneType_list, is_bool_int, is_bool_bool, is_bool_str, is_bool_tuple, is_bool_list, is_int_int, is_int_bool, is_int_str, is_int_tuple, is_int_list, is_str_int, is_str_bool, is_str_str, is_str_tuple, is_str_list, is_tuple_int, is_tuple_bool, is_tuple_str, is_tuple_tuple, is_tuple_list, is_list_int, is_list_bool, is_list_str, is_list_tuple, is_list_list, strF, dDct, repLF, is_dict_int, is_dict_bool, is_dict_str, is_dict_tuple, is_dict_list, is_dict_dict, is_NoneType_dict, is_bool_dict, is_int_dict, is_str_dict, is_tuple_dict, is_list_dict]
    refine ⟨bt_mulr' (by decide), sl2 (by simp; omega), ?_, trivial⟩
    rw [take_at hi]; simp
  · rintro acc h ⟨rfl, rfl⟩
    have l2 : Lb 2000 (L.map fun y => 2 * y) := lb_map (by omega) fun y hy => bt_mono (bits_mul (m := 10) (bt_iff.mpr (by decide)) (lb.2 y hy)) (by decide)
    have l3 : Lb 2000 (L.map fun y => -y) := lb_map (by omega) fun y hy => bt_mono (bits_neg (lb.2 y hy)) (by decide)
    obtain ⟨r1, er1, hr1, mr1⟩ := cut_int L (some 1) none
    obtain ⟨g1, eg1, lg1, mg1⟩ := cut_int L none (some (-1))
    have z1 : L.length + 1 ≤ sizeLine := Nat.le_of_lt (sl2 (by omega))
    have z2 : g1.length + 1 ≤ sizeLine := Nat.le_of_lt (sl2 (by omega))
    simp only [r__law_points_right_7, List.length_map, List.take_length, er1, eg1, dOp, dUn, dVar, dC, slot, startE, List.map, List.length, List.replicate, List.append, List.cons_append, List.nil_append, List.set, dAnd, dOr, dNot, dtB, dtAnd, dtOr, dtNot, dIf, dtTru, truF, dNil, dCons, dTup, dLst, dCB, sNil, sSeq, sRet, sRetN, sExpr, sIf, sAsg, gN, gT, gsNil, gsCons, gS, sPar, sAug, sWhile, sFor, sBrk, sCont, sNo, sRaise, dCallP_eq, dCallD_eq, List.length_map, List.getElem?_cons_succ, List.getElem?_concat_length, set_last, get_mid, get_mid2, eqF, neF, ltF, leF, gtF, geF, isF, notF, addF, subF, mulF, fdivF, modF, powF, negF, ixF, lenF, tupF, lstF, absF, intF, gcdF, maxF, minF, Rs.to, dIsi, dIsi2, dIsE, tyN, D.isNon, dM1, dM0, srcSeq, srcRng1, srcRng2, dLc, tYesD, iaddF, isBF, notBF, srcZip, srcEnumerate, repF, sumF, allF, anyF, intsOf_map, blsOf_map, dSl, dPart, dNoPart, sliceF, at0, at1, at2, at3, at4, ix0, ix1, ix2, ix3, Dn.g0, Dn.g1, Dn.g2, Dn.g3, Dn.g4, ex_some, decide_true, decide_false, Bool.not_true, Bool.not_false, ite_true, ite_false, if_true, if_false, List.reverse_cons, List.reverse_nil, outPost, wipeE, CTg.set, setAll, appF, extF, revF, popF, Nat.zero_add, Nat.reduceAdd, is_NoneType_int, is_NoneType_bool, is_NoneType_str, is_NoneType_tuple, is_NoneType_list, is_bool_int, is_bool_bool, is_bool_str, is_bool_tuple, is_bool_list, is_int_int, is_int_bool, is_int_str, is_int_tuple, is_int_list, is_str_int, is_str_bool, is_str_str, is_str_tuple, is_str_list, is_tuple_int, is_tuple_bool, is_tuple_str, is_tuple_tuple, is_tuple_list, is_list_int, is_list_bool, is_list_str, is_list_tuple, is_list_list, strF, dDct, repLF, is_dict_int, is_dict_bool, is_dict_str, is_dict_tuple, is_dict_list, is_dict_dict, is_NoneType_dict, is_bool_dict, is_int_dict, is_str_dict, is_tuple_dict, is_list_dict]
    refine ⟨z1, ?_⟩
    refine ⟨fun i acc h => acc = ((L.take i).map fun y => -y).map .int ∧ h = _, ⟨rfl, rfl⟩, fun _ _ _ _ _ => trivial, ?_, ?_⟩
    · rintro i x acc h hx ⟨rfl, rfl⟩
      obtain ⟨hi, rfl⟩ := mapi_at hx
      simp only [dOp, dUn, dVar, dC, slot, startE, List.map, List.length, List.replicate, List.append, List.cons_append, List.nil_append, List.set, dAnd, dOr, dNot, dtB, dtAnd, dtOr, dtNot, dIf, dtTru, truF, dNil, dCons, dTup, dLst, dCB, sNil, sSeq, sRet, sRetN, sExpr, sIf, sAsg, gN, gT, gsNil, gsCons, gS, sPar, sAug, sWhile, sFor, sBrk, sCont, sNo, sRaise, dCallP_eq, dCallD_eq, List.length_map, List.getElem?_cons_succ, List.getElem?_concat_length, set_last, get_mid, get_mid2, eqF, neF, ltF, leF, gtF, geF, isF, notF, addF, subF, mulF, fdivF, modF, powF, negF, ixF, lenF, tupF, lstF, absF, intF, gcdF, maxF, minF, Rs.to, dIsi, dIsi2, dIsE, tyN, D.isNon, dM1, dM0, srcSeq, srcRng1, srcRng2, dLc, tYesD, iaddF, isBF, notBF, srcZip, srcEnumerate, repF, sumF, allF, anyF, intsOf_map, blsOf_map, dSl, dPart, dNoPart, sliceF, at0, at1, at2, at3, at4, ix0, ix1, ix2, ix3, Dn.g0, Dn.g1, Dn.g2, Dn.g3, Dn.g4, ex_some, decide_true, decide_false, Bool.not_true, Bool.not_false, ite_true, ite_false, if_true, if_false, List.reverse_cons, List.reverse_nil, outPost, wipeE, CTg.set, setAll, appF, extF, revF, popF, Nat.zero_add, Nat.reduceAdd, is_NoneType_int, is_NoneType_bool, is_NoneType_str, is_NoneType_tuple, is_NoneType_list, is_bool_int, is_bool_bool, is_bool_str, is_bool_tuple, is_bool_list, is_int_int, is_int_bool, is_int_str, is_int_tuple, is_int_list, is_str_int, is_str_bool, is_str_str, is_str_tuple, is_str_list, is_tuple_int, is_tuple_bool, is_tuple_str, is_tuple_tuple, is_tuple_list, is_list_int, is_list_bool, is_list_str, is_list_tuple, is_list_list, strF, dDct, repLF, is_dict_int, is_dict_bool, is_dict_str, is_dict_tuple, is_dict_list, is_dict_dict, is_NoneType_dict, is_bool_dict, is_int_dict, is_str_dict, is_tuple_dict, is_list_dict]
      refine ⟨sl2 (by simp; omega), ?_, trivial⟩
      rw [take_at hi]; simp
    · rintro acc h ⟨rfl, rfl⟩
      simp only [List.length_map, List.take_length, dOp, dUn, dVar, dC, slot, startE, List.map, List.length, List.replicate, List.append, List.cons_append, List.nil_append, List.set, dAnd, dOr, dNot, dtB, dtAnd, dtOr, dtNot, dIf, dtTru, truF, dNil, dCons, dTup, dLst, dCB, sNil, sSeq, sRet, sRetN, sExpr, sIf, sAsg, gN, gT, gsNil, gsCons, gS, sPar, sAug, sWhile, sFor, sBrk, sCont, sNo, sRaise, dCallP_eq, dCallD_eq, List.length_map, List.getElem?_cons_succ, List.getElem?_concat_length, set_last, get_mid, get_mid2, eqF, neF, ltF, leF, gtF, geF, isF, notF, addF, subF, mulF, fdivF, modF, powF, negF, ixF, lenF, tupF, lstF, absF, intF, gcdF, maxF, minF, Rs.to, dIsi, dIsi2, dIsE, tyN, D.isNon, dM1, dM0, srcSeq, srcRng1, srcRng2, dLc, tYesD, iaddF, isBF, notBF, srcZip, srcEnumerate, repF, sumF, allF, anyF, intsOf_map, blsOf_map, dSl, dPart, dNoPart, sliceF, at0, at1, at2, at3, at4, ix0, ix1, ix2, ix3, Dn.g0, Dn.g1, Dn.g2, Dn.g3, Dn.g4, ex_some, decide_true, decide_false, Bool.not_true, Bool.not_false, ite_true, ite_false, if_true, if_false, List.reverse_cons, List.reverse_nil, outPost, wipeE, CTg.set, setAll, appF, extF, revF, popF, Nat.zero_add, Nat.reduceAdd, is_NoneType_int, is_NoneType_bool, is_NoneType_str, is_NoneType_tuple, is_NoneType_list, is_bool_int, is_bool_bool, is_bool_str, is_bool_tuple, is_bool_list, is_int_int, is_int_bool, is_int_str, is_int_tuple, is_int_list, is_str_int, is_str_bool, is_str_str, is_str_tuple, is_str_list, is_tuple_int, is_tuple_bool, is_tuple_str, is_tuple_tuple, is_tuple_list, is_list_int, is_list_bool, is_list_str, is_list_tuple, is_list_list, strF, dDct, repLF, is_dict_int, is_dict_bool, is_dict_str, is_dict_tuple, is_dict_list, is_dict_dict, is_NoneType_dict, is_bool_dict, is_int_dict, is_str_dict, is_tuple_dict, is_list_dict]
      refine ⟨z2, z2, ?_⟩
      simp only [r__law_points_right_8, List.getElem?_concat_length, get_mid, dOp, dUn, dVar, dC, slot, startE, List.map, List.length, List.replicate, List.append, List.cons_append, List.nil_append, List.set, dAnd, dOr, dNot, dtB, dtAnd, dtOr, dtNot, dIf, dtTru, truF, dNil, dCons, dTup, dLst, dCB, sNil, sSeq, sRet, sRetN, sExpr, sIf, sAsg, gN, gT, gsNil, gsCons, gS, sPar, sAug, sWhile, sFor, sBrk, sCont, sNo, sRaise, dCallP_eq, dCallD_eq, List.length_map, List.getElem?_cons_succ, List.getElem?_concat_length, set_last, get_mid, get_mid2, eqF, neF, ltF, leF, gtF, geF, isF, notF, addF, subF, mulF, fdivF, modF, powF, negF, ixF, lenF, tupF, lstF, absF, intF, gcdF, maxF, minF, Rs.to, dIsi, dIsi2, dIsE, tyN, D.isNon, dM1, dM0, srcSeq, srcRng1, srcRng2, dLc, tYesD, iaddF, isBF, notBF, srcZip, srcEnumerate, repF, sumF, allF, anyF, intsOf_map, blsOf_map, dSl, dPart, dNoPart, sliceF, at0, at1, at2, at3, at4, ix0, ix1, ix2, ix3, Dn.g0, Dn.g1, Dn.g2, Dn.g3, Dn.g4, ex_some, decide_true, decide_false, Bool.not_true, Bool.not_false, ite_true, ite_false, if_true, if_false, List.reverse_cons, List.reverse_nil, outPost, wipeE, CTg.set, setAll, appF, extF, revF, popF, Nat.zero_add, Nat.reduceAdd, is_NoneType_int, is_NoneType_bool, is_NoneType_str, is_NoneType_tuple, is_NoneType_list, is_bool_int, is_bool_bool, is_bool_str, is_bool_tuple, is_bool_list, is_int_int, is_int_bool, is_int_str, is_int_tuple, is_int_list, is_str_int, is_str_bool, is_str_str, is_str_tuple, is_str_list, is_tuple_int, is_tuple_bool, is_tuple_str, is_tuple_tuple, is_tuple_list, is_list_int, is_list_bool, is_list_str, is_list_tuple, is_list_list, strF, dDct, repLF, is_dict_int, is_dict_bool, is_dict_str, is_dict_tuple, is_dict_list, is_dict_dict, is_NoneType_dict, is_bool_dict, is_int_dict, is_str_dict, is_tuple_dict, is_list_dict]
      refine ⟨fun i e h => (∃ u v w, e = [some (.ref 0), some (.int n), some (.ref 2), u3, u4, some (tI L), some (tI (L.map fun y => 2 * y)), u, v, w, none]) ∧ h = _, ⟨⟨_, _, _, rfl⟩, rfl⟩, ?_, ?_, ?_⟩
      · rintro i e h hi ⟨_, rfl⟩
        first | rfl | simp only [List.getElem?_concat_length, get_mid, dOp, dUn, dVar, dC, slot, startE, List.map, List.length, List.replicate, List.append, List.cons_append, List.nil_append, List.set, dAnd, dOr, dNot, dtB, dtAnd, dtOr, dtNot, dIf, dtTru, truF, dNil, dCons, dTup, dLst, dCB, sNil, sSeq, sRet, sRetN, sExpr, sIf, sAsg, gN, gT, gsNil, gsCons, gS, sPar, sAug, sWhile, sFor, sBrk, sCont, sNo, sRaise, dCallP_eq, dCallD_eq, List.length_map, List.getElem?_cons_succ, List.getElem?_concat_length, set_last, get_mid, get_mid2, eqF, neF, ltF, leF, gtF, geF, isF, notF, addF, subF, mulF, fdivF, modF, powF, negF, ixF, lenF, tupF, lstF, absF, intF, gcdF, maxF, minF, Rs.to, dIsi, dIsi2, dIsE, tyN, D.isNon, dM1, dM0, srcSeq, srcRng1, srcRng2, dLc, tYesD, iaddF, isBF, notBF, srcZip, srcEnumerate, repF, sumF, allF, anyF, intsOf_map, blsOf_map, dSl, dPart, dNoPart, sliceF, at0, at1, at2, at3, at4, ix0, ix1, ix2, ix3, Dn.g0, Dn.g1, Dn.g2, Dn.g3, Dn.g4, ex_some, decide_true, decide_false, Bool.not_true, Bool.not_false, ite_true, ite_false, if_true, if_false, List.reverse_cons, List.reverse_nil, outPost, wipeE, CTg.set, setAll, appF, extF, revF, popF, Nat.zero_add, Nat.reduceAdd, is_NoneType_int, is_NoneType_bool, is_NoneType_str, is_NoneType_tuple, is_NoneType_list, is_bool_int, is_bool_bool, is_bool_str, is_bool_tuple, is_bool_list, is_int_int, is_int_bool, is_int_str, is_int_tuple, is_int_list, is_str_int, is_str_bool, is_str_str, is_str_tuple, is_str_list, is_tuple_int, is_tuple_bool, is_tuple_str, is_tuple_tuple, is_tuple_list, is_list_int, is_list_bool, is_list_str, is_list_tuple, is_list_list, strF, dDct, repLF, is_dict_int, is_dict_bool, is_dict_str, is_dict_tuple, is_dict_list, is_dict_dict, is_NoneType_dict, is_bool_dict, is_int_dict, is_str_dict, is_tuple_dict, is_list_dict]
      · rintro i x e h hx ⟨⟨u, v, w, rfl⟩, hh⟩
        have hm := List.mem_of_getElem? hx
        simp only [List.mem_cons, List.not_mem_nil, or_false] at hm
        obtain ⟨e, v⟩ : ∃ e, PtArg h x e := by
          rcases hm with rfl | rfl | rfl | rfl | rfl | rfl | rfl | rfl | rfl | rfl | rfl
          · exact pt_ints (lb.mono (by decide))
          · exact pt_ints (l2.mono (by decide))
          · exact ⟨.lst (L.map .int), .own (ds := L.map .int) (by rw [hh]; simp only [List.getElem?_cons_succ]; exact get_mid2) trivial (Views.pures (ints_pure _)), by unfold noA; exact ints_noA _, fun M e => by cases e⟩
          · exact pt_ints ⟨by omega, fun y hy => bt_mono (lb.2 y (mr1 y hy)) (by decide)⟩
          · have lx : Lb 8000 (L ++ [1]) := Lb.mk' (lb.mono (by decide)) (by omega) (bt_iff.mpr (by decide))
            rw [tI_app]
            exact pt_ints lx
          · exact pt_ints (l3.mono (by decide))
          · have lx : Lb 8000 (g1 ++ [0]) := Lb.mk' ⟨by omega, fun y hy => bt_mono (lb.2 y (mg1 y hy)) (by decide)⟩ (by omega) bt0
            rw [tI_app]
            exact pt_ints lx
          · exact pt_odd (d := .bl true) (pureDs_app (ints_pure _) rfl) (noAs_app (ints_noA _) rfl) (by simp) rfl
          · exact pt_odd (d := tI L) (by simp only [pureDs, pureD, ints_pure]; rfl) (by simp only [noAs, noA, ints_noA]; rfl) (by simp) rfl
          · exact ⟨_, .pure rfl, rfl, fun M e => by cases e⟩
          · exact ⟨_, .pure rfl, rfl, fun M e => by cases e⟩
        simp only [l1__law_points_right_0, dOp, dUn, dVar, dC, slot, startE, List.map, List.length, List.replicate, List.append, List.cons_append, List.nil_append, List.set, dAnd, dOr, dNot, dtB, dtAnd, dtOr, dtNot, dIf, dtTru, truF, dNil, dCons, dTup, dLst, dCB, sNil, sSeq, sRet, sRetN, sExpr, sIf, sAsg, gN, gT, gsNil, gsCons, gS, sPar, sAug, sWhile, sFor, sBrk, sCont, sNo, sRaise, dCallP_eq, dCallD_eq, List.length_map, List.getElem?_cons_succ, List.getElem?_concat_length, set_last, get_mid, get_mid2, eqF, neF, ltF, leF, gtF, geF, isF, notF, addF, subF, mulF, fdivF, modF, powF, negF, ixF, lenF, tupF, lstF, absF, intF, gcdF, maxF, minF, Rs.to, dIsi, dIsi2, dIsE, tyN, D.isNon, dM1, dM0, srcSeq, srcRng1, srcRng2, dLc, tYesD, iaddF, isBF, notBF, srcZip, srcEnumerate, repF, sumF, allF, anyF, intsOf_map, blsOf_map, dSl, dPart, dNoPart, sliceF, at0, at1, at2, at3, at4, ix0, ix1, ix2, ix3, Dn.g0, Dn.g1, Dn.g2, Dn.g3, Dn.g4, ex_some, decide_true, decide_false, Bool.not_true, Bool.not_false, ite_true, ite_false, if_true, if_false, List.reverse_cons, List.reverse_nil, outPost, wipeE, CTg.set, setAll, appF, extF, revF, popF, Nat.zero_add, Nat.reduceAdd, is_NoneType_int, is_NoneType_bool, is_NoneType_str, is_NoneType_tuple, is_NoneType_list, is_bool_int, is_bool_bool, is_bool_str, is_bool_tuple, is_bool_list, is_int_int, is_int_bool, is_int_str, is_int_tuple, is_int_list, is_str_int, is_str_bool, is_str_str, is_str_tuple, is_str_list, is_tuple_int, is_tuple_bool, is_tuple_str, is_tuple_tuple, is_tuple_list, is_list_int, is_list_bool, is_list_str, is_list_tuple, is_list_list, strF, dDct, repLF, is_dict_int, is_dict_bool, is_dict_str, is_dict_tuple, is_dict_list, is_dict_dict, is_NoneType_dict, is_bool_dict, is_int_dict, is_str_dict, is_tuple_dict, is_list_dict]
        refine useP_tpt v (by omega) (by omega) (useP_lpt v (by omega) (by omega) (useP_same rfl ?_))
        simp only [dOp, dUn, dVar, dC, slot, startE, List.map, List.length, List.replicate, List.append, List.cons_append, List.nil_append, List.set, dAnd, dOr, dNot, dtB, dtAnd, dtOr, dtNot, dIf, dtTru, truF, dNil, dCons, dTup, dLst, dCB, sNil, sSeq, sRet, sRetN, sExpr, sIf, sAsg, gN, gT, gsNil, gsCons, gS, sPar, sAug, sWhile, sFor, sBrk, sCont, sNo, sRaise, dCallP_eq, dCallD_eq, List.length_map, List.getElem?_cons_succ, List.getElem?_concat_length, set_last, get_mid, get_mid2, eqF, neF, ltF, leF, gtF, geF, isF, notF, addF, subF, mulF, fdivF, modF, powF, negF, ixF, lenF, tupF, lstF, absF, intF, gcdF, maxF, minF, Rs.to, dIsi, dIsi2, dIsE, tyN, D.isNon, dM1, dM0, srcSeq, srcRng1, srcRng2, dLc, tYesD, iaddF, isBF, notBF, srcZip, srcEnumerate, repF, sumF, allF, anyF, intsOf_map, blsOf_map, dSl, dPart, dNoPart, sliceF, at0, at1, at2, at3, at4, ix0, ix1, ix2, ix3, Dn.g0, Dn.g1, Dn.g2, Dn.g3, Dn.g4, ex_some, decide_true, decide_false, Bool.not_true, Bool.not_false, ite_true, ite_false, if_true, if_false, List.reverse_cons, List.reverse_nil, outPost, wipeE, CTg.set, setAll, appF, extF, revF, popF, Nat.zero_add, Nat.reduceAdd, is_NoneType_int, is_NoneType_bool, is_NoneType_str, is_NoneType_tuple, is_NoneType_list, is_bool_int, is_bool_bool, is_bool_str, is_bool_tuple, is_bool_list, is_int_int, is_int_bool, is_int_str, is_int_tuple, is_int_list, is_str_int, is_str_bool, is_str_str, is_str_tuple, is_str_list, is_tuple_int, is_tuple_bool, is_tuple_str, is_tuple_tuple, is_tuple_list, is_list_int, is_list_bool, is_list_str, is_list_tuple, is_list_list, strF, dDct, repLF, is_dict_int, is_dict_bool, is_dict_str, is_dict_tuple, is_dict_list, is_dict_dict, is_NoneType_dict, is_bool_dict, is_int_dict, is_str_dict, is_tuple_dict, is_list_dict]
        exact ⟨⟨_, _, _, rfl⟩, hh⟩
      · rintro e h ⟨⟨u, v, w, rfl⟩, rfl⟩
        simp only [r__law_points_right_9, dOp, dUn, dVar, dC, slot, startE, List.map, List.length, List.replicate, List.append, List.cons_append, List.nil_append, List.set, dAnd, dOr, dNot, dtB, dtAnd, dtOr, dtNot, dIf, dtTru, truF, dNil, dCons, dTup, dLst, dCB, sNil, sSeq, sRet, sRetN, sExpr, sIf, sAsg, gN, gT, gsNil, gsCons, gS, sPar, sAug, sWhile, sFor, sBrk, sCont, sNo, sRaise, dCallP_eq, dCallD_eq, List.length_map, List.getElem?_cons_succ, List.getElem?_concat_length, set_last, get_mid, get_mid2, eqF, neF, ltF, leF, gtF, geF, isF, notF, addF, subF, mulF, fdivF, modF, powF, negF, ixF, lenF, tupF, lstF, absF, intF, gcdF, maxF, minF, Rs.to, dIsi, dIsi2, dIsE, tyN, D.isNon, dM1, dM0, srcSeq, srcRng1, srcRng2, dLc, tYesD, iaddF, isBF, notBF, srcZip, srcEnumerate, repF, sumF, allF, anyF, intsOf_map, blsOf_map, dSl, dPart, dNoPart, sliceF, at0, at1, at2, at3, at4, ix0, ix1, ix2, ix3, Dn.g0, Dn.g1, Dn.g2, Dn.g3, Dn.g4, ex_some, decide_true, decide_false, Bool.not_true, Bool.not_false, ite_true, ite_false, if_true, if_false, List.reverse_cons, List.reverse_nil, outPost, wipeE, CTg.set, setAll, appF, extF, revF, popF, Nat.zero_add, Nat.reduceAdd, is_NoneType_int, is_NoneType_bool, is_NoneType_str, is_NoneType_tuple, is_NoneType_list, is_bool_int, is_bool_bool, is_bool_str, is_bool_tuple, is_bool_list, is_int_int, is_int_bool, is_int_str, is_int_tuple, is_int_list, is_str_int, is_str_bool, is_str_str, is_str_tuple, is_str_list, is_tuple_int, is_tuple_bool, is_tuple_str, is_tuple_tuple, is_tuple_list, is_list_int, is_list_bool, is_list_str, is_list_tuple, is_list_list, strF, dDct, repLF, is_dict_int, is_dict_bool, is_dict_str, is_dict_tuple, is_dict_list, is_dict_dict, is_NoneType_dict, is_bool_dict, is_int_dict, is_str_dict, is_tuple_dict, is_list_dict]
        exact rtD_val s hc rfl rfl rfl ⟨rfl, ha⟩
theorem fr_set {R : List Fr} (hq : ∀ a ∈ R, FrOk a) {k : Nat} {a : Fr} (h : FrOk a) : ∀ b ∈ R.set k a, FrOk b := fun b hb => by
  rcases List.mem_or_eq_of_mem_set hb with q | rfl
  · exact hq b q
  · exact h
theorem w__law_points_right : ∀ x ds s, sp__law_points_right.pre x ds s → t__law_points_right (endD sp__law_points_right x s.c) (startE nm__law_points_right.length (.ref 0 :: ds)) [.lst (drD 1 s), .lst (s.c.map .int)] := by
  rintro n ds s ⟨rfl, n1, hn, h3⟩
  simp only [t__law_points_right , r__law_points_right_0, nm__law_points_right, dOp, dUn, dVar, dC, slot, startE, List.map, List.length, List.replicate, List.append, List.cons_append, List.nil_append, List.set, dAnd, dOr, dNot, dtB, dtAnd, dtOr, dtNot, dIf, dtTru, truF, dNil, dCons, dTup, dLst, dCB, sNil, sSeq, sRet, sRetN, sExpr, sIf, sAsg, gN, gT, gsNil, gsCons, gS, sPar, sAug, sWhile, sFor, sBrk, sCont, sNo, sRaise, dCallP_eq, dCallD_eq, List.length_map, List.getElem?_cons_succ, List.getElem?_concat_length, set_last, get_mid, get_mid2, eqF, neF, ltF, leF, gtF, geF, isF, notF, addF, subF, mulF, fdivF, modF, powF, negF, ixF, lenF, tupF, lstF, absF, intF, gcdF, maxF, minF, Rs.to, dIsi, dIsi2, dIsE, tyN, D.isNon, dM1, dM0, srcSeq, srcRng1, srcRng2, dLc, tYesD, iaddF, isBF, notBF, srcZip, srcEnumerate, repF, sumF, allF, anyF, intsOf_map, blsOf_map, dSl, dPart, dNoPart, sliceF, at0, at1, at2, at3, at4, ix0, ix1, ix2, ix3, Dn.g0, Dn.g1, Dn.g2, Dn.g3, Dn.g4, ex_some, decide_true, decide_false, Bool.not_true, Bool.not_false, ite_true, ite_false, if_true, if_false, List.reverse_cons, List.reverse_nil, outPost, wipeE, CTg.set, setAll, appF, extF, revF, popF, Nat.zero_add, Nat.reduceAdd, is_NoneType_int, is_NoneType_bool, is_NoneType_str, is_NoneType_tuple, is_NoneType_list, is_bool_int, is_bool_bool, is_bool_str, is_bool_tuple, is_bool_list, is_int_int, is_int_bool, is_int_str, is_int_tuple, is_int_list, is_str_int, is_str_bool, is_str_str, is_str_tuple, is_str_list, is_tuple_int, is_tuple_bool, is_tuple_str, is_tuple_tuple, is_tuple_list, is_list_int, is_list_bool, is_list_str, is_list_tuple, is_list_list, strF, dDct, repLF, is_dict_int, is_dict_bool, is_dict_str, is_dict_tuple, is_dict_list, is_dict_dict, is_NoneType_dict, is_bool_dict, is_int_dict, is_str_dict, is_tuple_dict, is_list_dict]
  refine ⟨⟨by omega, by omega⟩, fun i acc h => ∃ (R : List Fr) (s' : DrS), acc = R.map prD ∧ h = [.lst (drD 1 s'), .lst (s.c.map .int)] ∧ s'.c = s.c ∧ 0 ≤ s'.a ∧ R.length = i ∧ ∀ a ∈ R, FrOk a, ⟨[], s, rfl, rfl, rfl, h3, rfl, fun _ h => by cases h⟩, fun _ _ _ _ _ => trivial, ?_, ?_⟩
  · rintro i y acc h hy ⟨R, s', rfl, rfl, hc', ha', hM, hq⟩
    obtain ⟨hi, rfl⟩ := ints_at hy
    try simp only [dOp, dUn, dVar, dC, slot, startE, List.map, List.length, List.replicate, List.append, List.cons_append, List.nil_append, List.set, dAnd, dOr, dNot, dtB, dtAnd, dtOr, dtNot, dIf, dtTru, truF, dNil, dCons, dTup, dLst, dCB, sNil, sSeq, sRet, sRetN, sExpr, sIf, sAsg, gN, gT, gsNil, gsCons, gS, sPar, sAug, sWhile, sFor, sBrk, sCont, sNo, sRaise, dCallP_eq, dCallD_eq, List.length_map, List.getElem?_cons_succ, List.getElem?_concat_length, set_last, get_mid, get_mid2, eqF, neF, ltF, leF, gtF, geF, isF, notF, addF, subF, mulF, fdivF, modF, powF, negF, ixF, lenF, tupF, lstF, absF, intF, gcdF, maxF, minF, Rs.to, dIsi, dIsi2, dIsE, tyN, D.isNon, dM1, dM0, srcSeq, srcRng1, srcRng2, dLc, tYesD, iaddF, isBF, notBF, srcZip, srcEnumerate, repF, sumF, allF, anyF, intsOf_map, blsOf_map, dSl, dPart, dNoPart, sliceF, at0, at1, at2, at3, at4, ix0, ix1, ix2, ix3, Dn.g0, Dn.g1, Dn.g2, Dn.g3, Dn.g4, ex_some, decide_true, decide_false, Bool.not_true, Bool.not_false, ite_true, ite_false, if_true, if_false, List.reverse_cons, List.reverse_nil, outPost, wipeE, CTg.set, setAll, appF, extF, revF, popF, Nat.zero_add, Nat.reduceAdd, is_NoneType_int, is_NoneType_bool, is_NoneType_str, is_NoneType_tuple, is_NoneType_list, is_bool_int, is_bool_bool, is_bool_str, is_bool_tuple, is_bool_list, is_int_int, is_int_bool, is_int_str, is_int_tuple, is_int_list, is_str_int, is_str_bool, is_str_str, is_str_tuple, is_str_list, is_tuple_int, is_tuple_bool, is_tuple_str, is_tuple_tuple, is_tuple_list, is_list_int, is_list_bool, is_list_str, is_list_tuple, is_list_list, strF, dDct, repLF, is_dict_int, is_dict_bool, is_dict_str, is_dict_tuple, is_dict_list, is_dict_dict, is_NoneType_dict, is_bool_dict, is_int_dict, is_str_dict, is_tuple_dict, is_list_dict]
    refine useD_01 30 hc' rfl ⟨rfl, by decide, by decide, ha'⟩ ?_
    rintro o s4 ⟨q, rfl, q0, q1, a4⟩ hc4
    refine ⟨_, rfl, ?_⟩
    try simp only [dOp, dUn, dVar, dC, slot, startE, List.map, List.length, List.replicate, List.append, List.cons_append, List.nil_append, List.set, dAnd, dOr, dNot, dtB, dtAnd, dtOr, dtNot, dIf, dtTru, truF, dNil, dCons, dTup, dLst, dCB, sNil, sSeq, sRet, sRetN, sExpr, sIf, sAsg, gN, gT, gsNil, gsCons, gS, sPar, sAug, sWhile, sFor, sBrk, sCont, sNo, sRaise, dCallP_eq, dCallD_eq, List.length_map, List.getElem?_cons_succ, List.getElem?_concat_length, set_last, get_mid, get_mid2, eqF, neF, ltF, leF, gtF, geF, isF, notF, addF, subF, mulF, fdivF, modF, powF, negF, ixF, lenF, tupF, lstF, absF, intF, gcdF, maxF, minF, Rs.to, dIsi, dIsi2, dIsE, tyN, D.isNon, dM1, dM0, srcSeq, srcRng1, srcRng2, dLc, tYesD, iaddF, isBF, notBF, srcZip, srcEnumerate, repF, sumF, allF, anyF, intsOf_map, blsOf_map, dSl, dPart, dNoPart, sliceF, at0, at1, at2, at3, at4, ix0, ix1, ix2, ix3, Dn.g0, Dn.g1, Dn.g2, Dn.g3, Dn.g4, ex_some, decide_true, decide_false, Bool.not_true, Bool.not_false, ite_true, ite_false, if_true, if_false, List.reverse_cons, List.reverse_nil, outPost, wipeE, CTg.set, setAll, appF, extF, revF, popF, Nat.zero_add, Nat.reduceAdd, is_NoneType_int, is_NoneType_bool, is_NoneType_str, is_NoneType_tuple, is_NoneType_list, is_bool_int, is_bool_bool, is_bool_str, is_bool_tuple, is_bool_list, is_int_int, is_int_bool, is_int_str, is_int_tuple, is_int_list, is_str_int, is_str_bool, is_str_str, is_str_tuple, is_str_list, is_tuple_int, is_tuple_bool, is_tuple_str, is_tuple_tuple, is_tuple_list, is_list_int, is_list_bool, is_list_str, is_list_tuple, is_list_list, strF, dDct, repLF, is_dict_int, is_dict_bool, is_dict_str, is_dict_tuple, is_dict_list, is_dict_dict, is_NoneType_dict, is_bool_dict, is_int_dict, is_str_dict, is_tuple_dict, is_list_dict]
    refine useD_01 9 hc4 rfl ⟨rfl, by decide, bt_lit (by decide) (by decide), a4⟩ ?_
    rintro o s5 ⟨w, rfl, w0, w1, a5⟩ hc5
    refine ⟨_, rfl, ?_⟩
    try simp only [dOp, dUn, dVar, dC, slot, startE, List.map, List.length, List.replicate, List.append, List.cons_append, List.nil_append, List.set, dAnd, dOr, dNot, dtB, dtAnd, dtOr, dtNot, dIf, dtTru, truF, dNil, dCons, dTup, dLst, dCB, sNil, sSeq, sRet, sRetN, sExpr, sIf, sAsg, gN, gT, gsNil, gsCons, gS, sPar, sAug, sWhile, sFor, sBrk, sCont, sNo, sRaise, dCallP_eq, dCallD_eq, List.length_map, List.getElem?_cons_succ, List.getElem?_concat_length, set_last, get_mid, get_mid2, eqF, neF, ltF, leF, gtF, geF, isF, notF, addF, subF, mulF, fdivF, modF, powF, negF, ixF, lenF, tupF, lstF, absF, intF, gcdF, maxF, minF, Rs.to, dIsi, dIsi2, dIsE, tyN, D.isNon, dM1, dM0, srcSeq, srcRng1, srcRng2, dLc, tYesD, iaddF, isBF, notBF, srcZip, srcEnumerate, repF, sumF, allF, anyF, intsOf_map, blsOf_map, dSl, dPart, dNoPart, sliceF, at0, at1, at2, at3, at4, ix0, ix1, ix2, ix3, Dn.g0, Dn.g1, Dn.g2, Dn.g3, Dn.g4, ex_some, decide_true, decide_false, Bool.not_true, Bool.not_false, ite_true, ite_false, if_true, if_false, List.reverse_cons, List.reverse_nil, outPost, wipeE, CTg.set, setAll, appF, extF, revF, popF, Nat.zero_add, Nat.reduceAdd, is_NoneType_int, is_NoneType_bool, is_NoneType_str, is_NoneType_tuple, is_NoneType_list, is_bool_int, is_bool_bool, is_bool_str, is_bool_tuple, is_bool_list, is_int_int, is_int_bool, is_int_str, is_int_tuple, is_int_list, is_str_int, is_str_bool, is_str_str, is_str_tuple, is_str_list, is_tuple_int, is_tuple_bool, is_tuple_str, is_tuple_tuple, is_tuple_list, is_list_int, is_list_bool, is_list_str, is_list_tuple, is_list_list, strF, dDct, repLF, is_dict_int, is_dict_bool, is_dict_str, is_dict_tuple, is_dict_list, is_dict_dict, is_NoneType_dict, is_bool_dict, is_int_dict, is_str_dict, is_tuple_dict, is_list_dict]
    refine useP_val (q, 1 + w) (rt q (1 + w)) rfl ⟨rfl, bt_mono (bt60 (by omega)) (by decide), bt_mono (bt60 (by omega)) (by decide), (show 1 + w ≠ 0 by omega)⟩ (fun o q => q) (fun ex q => q) ?_
    refine ⟨sl2 (by first | omega | (simp; omega)), R ++ [(nf1 q (1 + w), nf2 q (1 + w))], s5, by rw [List.map_append]; rfl, rfl, hc5, a5, by simp [hM], fun a ha => ?_⟩
    rcases List.mem_append.mp ha with z | z
    · exact hq a z
    · rw [List.mem_singleton] at z; rw [z]; exact fr_rt (by omega) (b60 (by omega)) (b60 (by omega))
  · rintro acc h ⟨R, s', rfl, rfl, hc', ha', hM, hq⟩
    rw [intsUp_len] at hM
    have hM : R.length = n := by omega
    simp only [r__law_points_right_1, dOp, dUn, dVar, dC, slot, startE, List.map, List.length, List.replicate, List.append, List.cons_append, List.nil_append, List.set, dAnd, dOr, dNot, dtB, dtAnd, dtOr, dtNot, dIf, dtTru, truF, dNil, dCons, dTup, dLst, dCB, sNil, sSeq, sRet, sRetN, sExpr, sIf, sAsg, gN, gT, gsNil, gsCons, gS, sPar, sAug, sWhile, sFor, sBrk, sCont, sNo, sRaise, dCallP_eq, dCallD_eq, List.length_map, List.getElem?_cons_succ, List.getElem?_concat_length, set_last, get_mid, get_mid2, eqF, neF, ltF, leF, gtF, geF, isF, notF, addF, subF, mulF, fdivF, modF, powF, negF, ixF, lenF, tupF, lstF, absF, intF, gcdF, maxF, minF, Rs.to, dIsi, dIsi2, dIsE, tyN, D.isNon, dM1, dM0, srcSeq, srcRng1, srcRng2, dLc, tYesD, iaddF, isBF, notBF, srcZip, srcEnumerate, repF, sumF, allF, anyF, intsOf_map, blsOf_map, dSl, dPart, dNoPart, sliceF, at0, at1, at2, at3, at4, ix0, ix1, ix2, ix3, Dn.g0, Dn.g1, Dn.g2, Dn.g3, Dn.g4, ex_some, decide_true, decide_false, Bool.not_true, Bool.not_false, ite_true, ite_false, if_true, if_false, List.reverse_cons, List.reverse_nil, outPost, wipeE, CTg.set, setAll, appF, extF, revF, popF, Nat.zero_add, Nat.reduceAdd, is_NoneType_int, is_NoneType_bool, is_NoneType_str, is_NoneType_tuple, is_NoneType_list, is_bool_int, is_bool_bool, is_bool_str, is_bool_tuple, is_bool_list, is_int_int, is_int_bool, is_int_str, is_int_tuple, is_int_list, is_str_int, is_str_bool, is_str_str, is_str_tuple, is_str_list, is_tuple_int, is_tuple_bool, is_tuple_str, is_tuple_tuple, is_tuple_list, is_list_int, is_list_bool, is_list_str, is_list_tuple, is_list_list, strF, dDct, repLF, is_dict_int, is_dict_bool, is_dict_str, is_dict_tuple, is_dict_list, is_dict_dict, is_NoneType_dict, is_bool_dict, is_int_dict, is_str_dict, is_tuple_dict, is_list_dict]
    refine useD_01 (n : Int) hc' rfl ⟨rfl, by omega, bt_lit (by omega) (by decide), ha'⟩ ?_
    rintro o s2 ⟨a, rfl, a0, a1, aa⟩ hc2
    refine ⟨_, rfl, ?_⟩
    obtain ⟨k, rfl⟩ : ∃ k : Nat, a = k := ⟨a.toNat, by omega⟩
    simp only [r__law_points_right_2, dOp, dUn, dVar, dC, slot, startE, List.map, List.length, List.replicate, List.append, List.cons_append, List.nil_append, List.set, dAnd, dOr, dNot, dtB, dtAnd, dtOr, dtNot, dIf, dtTru, truF, dNil, dCons, dTup, dLst, dCB, sNil, sSeq, sRet, sRetN, sExpr, sIf, sAsg, gN, gT, gsNil, gsCons, gS, sPar, sAug, sWhile, sFor, sBrk, sCont, sNo, sRaise, dCallP_eq, dCallD_eq, List.length_map, List.getElem?_cons_succ, List.getElem?_concat_length, set_last, get_mid, get_mid2, eqF, neF, ltF, leF, gtF, geF, isF, notF, addF, subF, mulF, fdivF, modF, powF, negF, ixF, lenF, tupF, lstF, absF, intF, gcdF, maxF, minF, Rs.to, dIsi, dIsi2, dIsE, tyN, D.isNon, dM1, dM0, srcSeq, srcRng1, srcRng2, dLc, tYesD, iaddF, isBF, notBF, srcZip, srcEnumerate, repF, sumF, allF, anyF, intsOf_map, blsOf_map, dSl, dPart, dNoPart, sliceF, at0, at1, at2, at3, at4, ix0, ix1, ix2, ix3, Dn.g0, Dn.g1, Dn.g2, Dn.g3, Dn.g4, ex_some, decide_true, decide_false, Bool.not_true, Bool.not_false, ite_true, ite_false, if_true, if_false, List.reverse_cons, List.reverse_nil, outPost, wipeE, CTg.set, setAll, appF, extF, revF, popF, Nat.zero_add, Nat.reduceAdd, is_NoneType_int, is_NoneType_bool, is_NoneType_str, is_NoneType_tuple, is_NoneType_list, is_bool_int, is_bool_bool, is_bool_str, is_bool_tuple, is_bool_list, is_int_int, is_int_bool, is_int_str, is_int_tuple, is_int_list, is_str_int, is_str_bool, is_str_str, is_str_tuple, is_str_list, is_tuple_int, is_tuple_bool, is_tuple_str, is_tuple_tuple, is_tuple_list, is_list_int, is_list_bool, is_list_str, is_list_tuple, is_list_list, strF, dDct, repLF, is_dict_int, is_dict_bool, is_dict_str, is_dict_tuple, is_dict_list, is_dict_dict, is_NoneType_dict, is_bool_dict, is_int_dict, is_str_dict, is_tuple_dict, is_list_dict]
    refine useD_01 3 hc2 rfl ⟨rfl, by decide, bt_lit (by decide) (by decide), aa⟩ ?_
    rintro o s3 ⟨w, rfl, w0, w1, a3⟩ hc3
    refine ⟨_, rfl, ?_⟩
    obtain ⟨ed, he⟩ : ∃ ed, 1000000000 + w - 1 = ed := ⟨_, rfl⟩
    have hk : k < R.length := by omega
    have ek : atI (R.map prD) (k : Int) = some (prD R[k]) := by
      rw [atN _ (by omega) (by rw [List.length_map]; omega), Int.toNat_natCast, List.getElem?_map, List.getElem?_eq_getElem hk]; rfl
    have hRk := hq _ (List.getElem_mem hk)
    generalize R[k] = rk at ek hRk
    simp only [r__law_points_right_3, ek, he, dOp, dUn, dVar, dC, slot, startE, List.map, List.length, List.replicate, List.append, List.cons_append, List.nil_append, List.set, dAnd, dOr, dNot, dtB, dtAnd, dtOr, dtNot, dIf, dtTru, truF, dNil, dCons, dTup, dLst, dCB, sNil, sSeq, sRet, sRetN, sExpr, sIf, sAsg, gN, gT, gsNil, gsCons, gS, sPar, sAug, sWhile, sFor, sBrk, sCont, sNo, sRaise, dCallP_eq, dCallD_eq, List.length_map, List.getElem?_cons_succ, List.getElem?_concat_length, set_last, get_mid, get_mid2, eqF, neF, ltF, leF, gtF, geF, isF, notF, addF, subF, mulF, fdivF, modF, powF, negF, ixF, lenF, tupF, lstF, absF, intF, gcdF, maxF, minF, Rs.to, dIsi, dIsi2, dIsE, tyN, D.isNon, dM1, dM0, srcSeq, srcRng1, srcRng2, dLc, tYesD, iaddF, isBF, notBF, srcZip, srcEnumerate, repF, sumF, allF, anyF, intsOf_map, blsOf_map, dSl, dPart, dNoPart, sliceF, at0, at1, at2, at3, at4, ix0, ix1, ix2, ix3, Dn.g0, Dn.g1, Dn.g2, Dn.g3, Dn.g4, ex_some, decide_true, decide_false, Bool.not_true, Bool.not_false, ite_true, ite_false, if_true, if_false, List.reverse_cons, List.reverse_nil, outPost, wipeE, CTg.set, setAll, appF, extF, revF, popF, Nat.zero_add, Nat.reduceAdd, is_NoneType_int, is_NoneType_bool, is_NoneType_str, is_NoneType_tuple, is_NoneType_list, is_bool_int, is_bool_bool, is_bool_str, is_bool_tuple, is_bool_list, is_int_int, is_int_bool, is_int_str, is_int_tuple, is_int_list, is_str_int, is_str_bool, is_str_str, is_str_tuple, is_str_list, is_tuple_int, is_tuple_bool, is_tuple_str, is_tuple_tuple, is_tuple_list, is_list_int, is_list_bool, is_list_str, is_list_tuple, is_list_list, strF, dDct, repLF, is_dict_int, is_dict_bool, is_dict_str, is_dict_tuple, is_dict_list, is_dict_dict, is_NoneType_dict, is_bool_dict, is_int_dict, is_str_dict, is_tuple_dict, is_list_dict]
    refine useP_val (ed, 3) (rt ed 3) rfl ⟨rfl, bt_mono (bt60 (by omega)) (by decide), bt_mono (bt60 (show (3 : Int).natAbs < 2 ^ 60 by decide)) (by decide), (show (3 : Int) ≠ 0 by decide)⟩ (fun o q => q) (fun ex q => q) ?_
    try simp only [dOp, dUn, dVar, dC, slot, startE, List.map, List.length, List.replicate, List.append, List.cons_append, List.nil_append, List.set, dAnd, dOr, dNot, dtB, dtAnd, dtOr, dtNot, dIf, dtTru, truF, dNil, dCons, dTup, dLst, dCB, sNil, sSeq, sRet, sRetN, sExpr, sIf, sAsg, gN, gT, gsNil, gsCons, gS, sPar, sAug, sWhile, sFor, sBrk, sCont, sNo, sRaise, dCallP_eq, dCallD_eq, List.length_map, List.getElem?_cons_succ, List.getElem?_concat_length, set_last, get_mid, get_mid2, eqF, neF, ltF, leF, gtF, geF, isF, notF, addF, subF, mulF, fdivF, modF, powF, negF, ixF, lenF, tupF, lstF, absF, intF, gcdF, maxF, minF, Rs.to, dIsi, dIsi2, dIsE, tyN, D.isNon, dM1, dM0, srcSeq, srcRng1, srcRng2, dLc, tYesD, iaddF, isBF, notBF, srcZip, srcEnumerate, repF, sumF, allF, anyF, intsOf_map, blsOf_map, dSl, dPart, dNoPart, sliceF, at0, at1, at2, at3, at4, ix0, ix1, ix2, ix3, Dn.g0, Dn.g1, Dn.g2, Dn.g3, Dn.g4, ex_some, decide_true, decide_false, Bool.not_true, Bool.not_false, ite_true, ite_false, if_true, if_false, List.reverse_cons, List.reverse_nil, outPost, wipeE, CTg.set, setAll, appF, extF, revF, popF, Nat.zero_add, Nat.reduceAdd, is_NoneType_int, is_NoneType_bool, is_NoneType_str, is_NoneType_tuple, is_NoneType_list, is_bool_int, is_bool_bool, is_bool_str, is_bool_tuple, is_bool_list, is_int_int, is_int_bool, is_int_str, is_int_tuple, is_int_list, is_str_int, is_str_bool, is_str_str, is_str_tuple, is_str_list, is_tuple_int, is_tuple_bool, is_tuple_str, is_tuple_tuple, is_tuple_list, is_list_int, is_list_bool, is_list_str, is_list_tuple, is_list_list, strF, dDct, repLF, is_dict_int, is_dict_bool, is_dict_str, is_dict_tuple, is_dict_list, is_dict_dict, is_NoneType_dict, is_bool_dict, is_int_dict, is_str_dict, is_tuple_dict, is_list_dict]
    refine useD_01 6 hc3 rfl ⟨rfl, by decide, bt_lit (by decide) (by decide), a3⟩ ?_
    rintro o s4 ⟨v, rfl, v0, v1, a4⟩ hc4
    refine ⟨_, rfl, ?_⟩
    try simp only [dOp, dUn, dVar, dC, slot, startE, List.map, List.length, List.replicate, List.append, List.cons_append, List.nil_append, List.set, dAnd, dOr, dNot, dtB, dtAnd, dtOr, dtNot, dIf, dtTru, truF, dNil, dCons, dTup, dLst, dCB, sNil, sSeq, sRet, sRetN, sExpr, sIf, sAsg, gN, gT, gsNil, gsCons, gS, sPar, sAug, sWhile, sFor, sBrk, sCont, sNo, sRaise, dCallP_eq, dCallD_eq, List.length_map, List.getElem?_cons_succ, List.getElem?_concat_length, set_last, get_mid, get_mid2, eqF, neF, ltF, leF, gtF, geF, isF, notF, addF, subF, mulF, fdivF, modF, powF, negF, ixF, lenF, tupF, lstF, absF, intF, gcdF, maxF, minF, Rs.to, dIsi, dIsi2, dIsE, tyN, D.isNon, dM1, dM0, srcSeq, srcRng1, srcRng2, dLc, tYesD, iaddF, isBF, notBF, srcZip, srcEnumerate, repF, sumF, allF, anyF, intsOf_map, blsOf_map, dSl, dPart, dNoPart, sliceF, at0, at1, at2, at3, at4, ix0, ix1, ix2, ix3, Dn.g0, Dn.g1, Dn.g2, Dn.g3, Dn.g4, ex_some, decide_true, decide_false, Bool.not_true, Bool.not_false, ite_true, ite_false, if_true, if_false, List.reverse_cons, List.reverse_nil, outPost, wipeE, CTg.set, setAll, appF, extF, revF, popF, Nat.zero_add, Nat.reduceAdd, is_NoneType_int, is_NoneType_bool, is_NoneType_str, is_NoneType_tuple, is_NoneType_list, is_bool_int, is_bool_bool, is_bool_str, is_bool_tuple, is_bool_list, is_int_int, is_int_bool, is_int_str, is_int_tuple, is_int_list, is_str_int, is_str_bool, is_str_str, is_str_tuple, is_str_list, is_tuple_int, is_tuple_bool, is_tuple_str, is_tuple_tuple, is_tuple_list, is_list_int, is_list_bool, is_list_str, is_list_tuple, is_list_list, strF, dDct, repLF, is_dict_int, is_dict_bool, is_dict_str, is_dict_tuple, is_dict_list, is_dict_dict, is_NoneType_dict, is_bool_dict, is_int_dict, is_str_dict, is_tuple_dict, is_list_dict]
    refine at_all v0 (by simpa using v1) ?_
    intro d hd
    obtain ⟨b, rfl, hb⟩ : ∃ b, d = prD b ∧ FrOk b := by
      simp only [List.mem_cons, List.not_mem_nil, or_false] at hd
      rcases hd with rfl | rfl | rfl | rfl | rfl | rfl
      · exact ⟨rk, rfl, hRk⟩
      · exact ⟨(ed, 1), rfl, (show (0 : Int) < 1 by decide), b60 (by omega), b60 (show (1 : Int).natAbs < 2 ^ 60 by decide)⟩
      · exact ⟨(-ed, 1), rfl, (show (0 : Int) < 1 by decide), b60 (by omega), b60 (show (1 : Int).natAbs < 2 ^ 60 by decide)⟩
      · exact ⟨(1, ed), rfl, show 0 < ed by omega, b60 (show (1 : Int).natAbs < 2 ^ 60 by decide), b60 (by omega)⟩
      · exact ⟨(nf1 ed 3, nf2 ed 3), rfl, fr_rt (by decide) (b60 (by omega)) (b60 (by decide))⟩
      · exact ⟨(1, 99991), rfl, by decide, b60 (by decide), b60 (by decide)⟩
    clear hd
    try simp only [dOp, dUn, dVar, dC, slot, startE, List.map, List.length, List.replicate, List.append, List.cons_append, List.nil_append, List.set, dAnd, dOr, dNot, dtB, dtAnd, dtOr, dtNot, dIf, dtTru, truF, dNil, dCons, dTup, dLst, dCB, sNil, sSeq, sRet, sRetN, sExpr, sIf, sAsg, gN, gT, gsNil, gsCons, gS, sPar, sAug, sWhile, sFor, sBrk, sCont, sNo, sRaise, dCallP_eq, dCallD_eq, List.length_map, List.getElem?_cons_succ, List.getElem?_concat_length, set_last, get_mid, get_mid2, eqF, neF, ltF, leF, gtF, geF, isF, notF, addF, subF, mulF, fdivF, modF, powF, negF, ixF, lenF, tupF, lstF, absF, intF, gcdF, maxF, minF, Rs.to, dIsi, dIsi2, dIsE, tyN, D.isNon, dM1, dM0, srcSeq, srcRng1, srcRng2, dLc, tYesD, iaddF, isBF, notBF, srcZip, srcEnumerate, repF, sumF, allF, anyF, intsOf_map, blsOf_map, dSl, dPart, dNoPart, sliceF, at0, at1, at2, at3, at4, ix0, ix1, ix2, ix3, Dn.g0, Dn.g1, Dn.g2, Dn.g3, Dn.g4, ex_some, decide_true, decide_false, Bool.not_true, Bool.not_false, ite_true, ite_false, if_true, if_false, List.reverse_cons, List.reverse_nil, outPost, wipeE, CTg.set, setAll, appF, extF, revF, popF, Nat.zero_add, Nat.reduceAdd, is_NoneType_int, is_NoneType_bool, is_NoneType_str, is_NoneType_tuple, is_NoneType_list, is_bool_int, is_bool_bool, is_bool_str, is_bool_tuple, is_bool_list, is_int_int, is_int_bool, is_int_str, is_int_tuple, is_int_list, is_str_int, is_str_bool, is_str_str, is_str_tuple, is_str_list, is_tuple_int, is_tuple_bool, is_tuple_str, is_tuple_tuple, is_tuple_list, is_list_int, is_list_bool, is_list_str, is_list_tuple, is_list_list, strF, dDct, repLF, is_dict_int, is_dict_bool, is_dict_str, is_dict_tuple, is_dict_list, is_dict_dict, is_NoneType_dict, is_bool_dict, is_int_dict, is_str_dict, is_tuple_dict, is_list_dict]
    refine ⟨k, ixN_nat (by first | omega | (simp; omega)), ?_⟩
    have e : (R.map prD).set k (prD b) = (R.set k b).map prD := by rw [List.map_set]
    rw [e]
    have hq2 := fr_set hq (k := k) hb
    have hl2 : (R.set k b).length = n := by rw [List.length_set]; exact hM
    generalize R.set k b = R2 at hq2 hl2
    simp only [r__law_points_right_4, dOp, dUn, dVar, dC, slot, startE, List.map, List.length, List.replicate, List.append, List.cons_append, List.nil_append, List.set, dAnd, dOr, dNot, dtB, dtAnd, dtOr, dtNot, dIf, dtTru, truF, dNil, dCons, dTup, dLst, dCB, sNil, sSeq, sRet, sRetN, sExpr, sIf, sAsg, gN, gT, gsNil, gsCons, gS, sPar, sAug, sWhile, sFor, sBrk, sCont, sNo, sRaise, dCallP_eq, dCallD_eq, List.length_map, List.getElem?_cons_succ, List.getElem?_concat_length, set_last, get_mid, get_mid2, eqF, neF, ltF, leF, gtF, geF, isF, notF, addF, subF, mulF, fdivF, modF, powF, negF, ixF, lenF, tupF, lstF, absF, intF, gcdF, maxF, minF, Rs.to, dIsi, dIsi2, dIsE, tyN, D.isNon, dM1, dM0, srcSeq, srcRng1, srcRng2, dLc, tYesD, iaddF, isBF, notBF, srcZip, srcEnumerate, repF, sumF, allF, anyF, intsOf_map, blsOf_map, dSl, dPart, dNoPart, sliceF, at0, at1, at2, at3, at4, ix0, ix1, ix2, ix3, Dn.g0, Dn.g1, Dn.g2, Dn.g3, Dn.g4, ex_some, decide_true, decide_false, Bool.not_true, Bool.not_false, ite_true, ite_false, if_true, if_false, List.reverse_cons, List.reverse_nil, outPost, wipeE, CTg.set, setAll, appF, extF, revF, popF, Nat.zero_add, Nat.reduceAdd, is_NoneType_int, is_NoneType_bool, is_NoneType_str, is_NoneType_tuple, is_NoneType_list, is_bool_int, is_bool_bool, is_bool_str, is_bool_tuple, is_bool_list, is_int_int, is_int_bool, is_int_str, is_int_tuple, is_int_list, is_str_int, is_str_bool, is_str_str, is_str_tuple, is_str_list, is_tuple_int, is_tuple_bool, is_tuple_str, is_tuple_tuple, is_tuple_list, is_list_int, is_list_bool, is_list_str, is_list_tuple, is_list_list, strF, dDct, repLF, is_dict_int, is_dict_bool, is_dict_str, is_dict_tuple, is_dict_list, is_dict_dict, is_NoneType_dict, is_bool_dict, is_int_dict, is_str_dict, is_tuple_dict, is_list_dict]
    refine useD_01 2 hc4 rfl ⟨rfl, by decide, bt_lit (by decide) (by decide), a4⟩ ?_
    rintro o s5 ⟨v, rfl, v0, v1, a5⟩ hc5
    refine ⟨_, rfl, ?_⟩
    by_cases hv : v = 0
    · simp only [hv, dOp, dUn, dVar, dC, slot, startE, List.map, List.length, List.replicate, List.append, List.cons_append, List.nil_append, List.set, dAnd, dOr, dNot, dtB, dtAnd, dtOr, dtNot, dIf, dtTru, truF, dNil, dCons, dTup, dLst, dCB, sNil, sSeq, sRet, sRetN, sExpr, sIf, sAsg, gN, gT, gsNil, gsCons, gS, sPar, sAug, sWhile, sFor, sBrk, sCont, sNo, sRaise, dCallP_eq, dCallD_eq, List.length_map, List.getElem?_cons_succ, List.getElem?_concat_length, set_last, get_mid, get_mid2, eqF, neF, ltF, leF, gtF, geF, isF, notF, addF, subF, mulF, fdivF, modF, powF, negF, ixF, lenF, tupF, lstF, absF, intF, gcdF, maxF, minF, Rs.to, dIsi, dIsi2, dIsE, tyN, D.isNon, dM1, dM0, srcSeq, srcRng1, srcRng2, dLc, tYesD, iaddF, isBF, notBF, srcZip, srcEnumerate, repF, sumF, allF, anyF, intsOf_map, blsOf_map, dSl, dPart, dNoPart, sliceF, at0, at1, at2, at3, at4, ix0, ix1, ix2, ix3, Dn.g0, Dn.g1, Dn.g2, Dn.g3, Dn.g4, ex_some, decide_true, decide_false, Bool.not_true, Bool.not_false, ite_true, ite_false, if_true, if_false, List.reverse_cons, List.reverse_nil, outPost, wipeE, CTg.set, setAll, appF, extF, revF, popF, Nat.zero_add, Nat.reduceAdd, is_NoneType_int, is_NoneType_bool, is_NoneType_str, is_NoneType_tuple, is_NoneType_list, is_bool_int, is_bool_bool, is_bool_str, is_bool_tuple, is_bool_list, is_int_int, is_int_bool, is_int_str, is_int_tuple, is_int_list, is_str_int, is_str_bool, is_str_str, is_str_tuple, is_str_list, is_tuple_int, is_tuple_bool, is_tuple_str, is_tuple_tuple, is_tuple_list, is_list_int, is_list_bool, is_list_str, is_list_tuple, is_list_list, strF, dDct, repLF, is_dict_int, is_dict_bool, is_dict_str, is_dict_tuple, is_dict_list, is_dict_dict, is_NoneType_dict, is_bool_dict, is_int_dict, is_str_dict, is_tuple_dict, is_list_dict]
      refine useD_01 1 hc5 rfl ⟨rfl, by decide, by decide, a5⟩ ?_
      rintro o s6 ⟨y, rfl, y0, y1, a6⟩ hc6
      refine ⟨_, rfl, ?_⟩
      have m1 := fm_lt (a := (k : Int) + 1) (b := (n : Int)) (by omega)
      obtain ⟨k2, hk2⟩ : ∃ k2 : Nat, ((k : Int) + 1).fmod n = k2 := ⟨(((k : Int) + 1).fmod n).toNat, by omega⟩
      simp only [hk2, dOp, dUn, dVar, dC, slot, startE, List.map, List.length, List.replicate, List.append, List.cons_append, List.nil_append, List.set, dAnd, dOr, dNot, dtB, dtAnd, dtOr, dtNot, dIf, dtTru, truF, dNil, dCons, dTup, dLst, dCB, sNil, sSeq, sRet, sRetN, sExpr, sIf, sAsg, gN, gT, gsNil, gsCons, gS, sPar, sAug, sWhile, sFor, sBrk, sCont, sNo, sRaise, dCallP_eq, dCallD_eq, List.length_map, List.getElem?_cons_succ, List.getElem?_concat_length, set_last, get_mid, get_mid2, eqF, neF, ltF, leF, gtF, geF, isF, notF, addF, subF, mulF, fdivF, modF, powF, negF, ixF, lenF, tupF, lstF, absF, intF, gcdF, maxF, minF, Rs.to, dIsi, dIsi2, dIsE, tyN, D.isNon, dM1, dM0, srcSeq, srcRng1, srcRng2, dLc, tYesD, iaddF, isBF, notBF, srcZip, srcEnumerate, repF, sumF, allF, anyF, intsOf_map, blsOf_map, dSl, dPart, dNoPart, sliceF, at0, at1, at2, at3, at4, ix0, ix1, ix2, ix3, Dn.g0, Dn.g1, Dn.g2, Dn.g3, Dn.g4, ex_some, decide_true, decide_false, Bool.not_true, Bool.not_false, ite_true, ite_false, if_true, if_false, List.reverse_cons, List.reverse_nil, outPost, wipeE, CTg.set, setAll, appF, extF, revF, popF, Nat.zero_add, Nat.reduceAdd, is_NoneType_int, is_NoneType_bool, is_NoneType_str, is_NoneType_tuple, is_NoneType_list, is_bool_int, is_bool_bool, is_bool_str, is_bool_tuple, is_bool_list, is_int_int, is_int_bool, is_int_str, is_int_tuple, is_int_list, is_str_int, is_str_bool, is_str_str, is_str_tuple, is_str_list, is_tuple_int, is_tuple_bool, is_tuple_str, is_tuple_tuple, is_tuple_list, is_list_int, is_list_bool, is_list_str, is_list_tuple, is_list_list, strF, dDct, repLF, is_dict_int, is_dict_bool, is_dict_str, is_dict_tuple, is_dict_list, is_dict_dict, is_NoneType_dict, is_bool_dict, is_int_dict, is_str_dict, is_tuple_dict, is_list_dict]
      refine ⟨bt_mulr (by decide), by omega, k2, ixN_nat (by first | omega | (simp; omega)), ?_⟩
      have e : (R2.map prD).set k2 (.tup [.int (y * 2 + 1), .int 99989]) = (R2.set k2 (y * 2 + 1, 99989)).map prD := by rw [List.map_set]; rfl
      rw [e]
      exact points_tail hc6 a6 n1 hn (by rw [List.length_set]; exact hl2) (fr_set hq2 ⟨(show (0 : Int) < 99989 by decide), b60 (by omega), b60 (show (99989 : Int).natAbs < 2 ^ 60 by decide)⟩)
    · simp only [hv, dOp, dUn, dVar, dC, slot, startE, List.map, List.length, List.replicate, List.append, List.cons_append, List.nil_append, List.set, dAnd, dOr, dNot, dtB, dtAnd, dtOr, dtNot, dIf, dtTru, truF, dNil, dCons, dTup, dLst, dCB, sNil, sSeq, sRet, sRetN, sExpr, sIf, sAsg, gN, gT, gsNil, gsCons, gS, sPar, sAug, sWhile, sFor, sBrk, sCont, sNo, sRaise, dCallP_eq, dCallD_eq, List.length_map, List.getElem?_cons_succ, List.getElem?_concat_length, set_last, get_mid, get_mid2, eqF, neF, ltF, leF, gtF, geF, isF, notF, addF, subF, mulF, fdivF, modF, powF, negF, ixF, lenF, tupF, lstF, absF, intF, gcdF, maxF, minF, Rs.to, dIsi, dIsi2, dIsE, tyN, D.isNon, dM1, dM0, srcSeq, srcRng1, srcRng2, dLc, tYesD, iaddF, isBF, notBF, srcZip, srcEnumerate, repF, sumF, allF, anyF, intsOf_map, blsOf_map, dSl, dPart, dNoPart, sliceF, at0, at1, at2, at3, at4, ix0, ix1, ix2, ix3, Dn.g0, Dn.g1, Dn.g2, Dn.g3, Dn.g4, ex_some, decide_true, decide_false, Bool.not_true, Bool.not_false, ite_true, ite_false, if_true, if_false, List.reverse_cons, List.reverse_nil, outPost, wipeE, CTg.set, setAll, appF, extF, revF, popF, Nat.zero_add, Nat.reduceAdd, is_NoneType_int, is_NoneType_bool, is_NoneType_str, is_NoneType_tuple, is_NoneType_list, is_bool_int, is_bool_bool, is_bool_str, is_bool_tuple, is_bool_list, is_int_int, is_int_bool, is_int_str, is_int_tuple, is_int_list, is_str_int, is_str_bool, is_str_str, is_str_tuple, is_str_list, is_tuple_int, is_tuple_bool, is_tuple_str, is_tuple_tuple, is_tuple_list, is_list_int, is_list_bool, is_list_str, is_list_tuple, is_list_list, strF, dDct, repLF, is_dict_int, is_dict_bool, is_dict_str, is_dict_tuple, is_dict_list, is_dict_dict, is_NoneType_dict, is_bool_dict, is_int_dict, is_str_dict, is_tuple_dict, is_list_dict]
      exact points_tail hc5 a5 n1 hn hl2 hq2

theorem ok__law_points_right (T : Txt K mg) : Ok P w K mg base 5 "_law_points_right" ["draws", "size"] (spD K sp__law_points_right) :=
  okOf T.d__law_points_right fun f fd F => fnD (k := 4) sp__law_points_right t__law_points_right F sc__law_points_right (fun x ds s hp => len__law_points_right x ds s hp) (fun cdv A outer s H E hr z => by
    have hu := hr.units; have hnd := sc__law_points_right.nd
    unfold t__law_points_right r__law_points_right_0 r__law_points_right_1 r__law_points_right_2 r__law_points_right_3 r__law_points_right_4 r__law_points_right_5 r__law_points_right_6 r__law_points_right_7 r__law_points_right_8 r__law_points_right_9 l1__law_points_right_0
    exact (dss_cons (ds_setLc 2 (own := [("k", 9)]) (c := (.one 9)) (tt := tYesD) (te := (dCallP sp__law_ratio (dCons (dCallD sp__law_near (dCons (dVar 0) (dCons (dC (.int 30)) dNil))) (dCons (dOp addF (dC (.int 1)) (dCallD sp__law_draw (dCons (dVar 0) (dCons (dC (.int 9)) dNil)))) dNil)))) rfl hnd rfl rfl (sw_true rfl rfl rfl (by decide +kernel)) (di_rng1 rfl T.b_range (da_cons (de_var 1 rfl (by walk_at "vis") (by decide) (by decide)) da_nil rfl) rfl) (blkOk_by (N := nm__law_points_right) (sc := defScope s__law_points_right) (by decide +kernel)) (by decide) (fun _ _ _ _ _ => pg_name (i := 9) hnd rfl (by walk_at "locs") (by walk_at "fnn")) (fun _ _ _ _ _ => dts_nil) (fun _ _ _ _ _ => (dn_callP ((ok__law_ratio (P := P) (w := w) (base := base) T).mono (by decide)) hr takes0 rfl (by decide) (da_cons (dn_callD ((ok__law_near (P := P) (w := w) (base := base) T).mono (by decide)) hr takes0 rfl (by decide) (da_cons (de_var 0 rfl (by walk_at "vis") (by decide) (by decide)) (da_cons de_int da_nil rfl) rfl) rfl rfl) (da_cons (de_add de_int (dn_callD ((ok__law_draw (P := P) (w := w) (base := base) T).mono (by decide)) hr takes0 rfl (by decide) (da_cons (de_var 0 rfl (by walk_at "vis") (by decide) (by decide)) (da_cons de_int da_nil rfl) rfl) rfl rfl)) da_nil rfl) rfl) rfl rfl)) (fun _ => rfl))
    (dss_cons (ds_set 3 hnd rfl (by walk_at "locs") (dn_callD ((ok__law_draw (P := P) (w := w) (base := base) T).mono (by decide)) hr (takes_of rfl rfl rfl rfl) rfl (by decide) (da_cons (de_var 0 rfl (by walk_at "vis") (by decide) (by decide)) (da_cons (de_var 1 rfl (by walk_at "vis") (by decide) (by decide)) da_nil rfl) rfl) rfl rfl) rfl (by walk_at "fnn"))
    (dss_cons (ds_set 4 hnd rfl (by walk_at "locs") (de_minus (de_add de_int (dn_callD ((ok__law_draw (P := P) (w := w) (base := base) T).mono (by decide)) hr (takes_of rfl rfl rfl rfl) rfl (by decide) (da_cons (de_var 0 rfl (by walk_at "vis") (by decide) (by decide)) (da_cons de_int da_nil rfl) rfl) rfl rfl)) de_int) rfl (by walk_at "fnn"))
    (dss_cons (ds_asg (de_ix (de_lst (da_cons (de_ix (de_var 2 rfl (by walk_at "vis") (by decide) (by decide)) (de_var 3 rfl (by walk_at "vis") (by decide) (by decide)) (fun _ _ => rfl)) (da_cons (de_tup (da_cons (de_var 4 rfl (by walk_at "vis") (by decide) (by decide)) (da_cons de_int da_nil rfl) rfl) (by decide)) (da_cons (de_tup (da_cons (de_neg (de_var 4 rfl (by walk_at "vis") (by decide) (by decide))) (da_cons de_int da_nil rfl) rfl) (by decide)) (da_cons (de_tup (da_cons de_int (da_cons (de_var 4 rfl (by walk_at "vis") (by decide) (by decide)) da_nil rfl) rfl) (by decide)) (da_cons (dn_callP ((ok__law_ratio (P := P) (w := w) (base := base) T).mono (by decide)) hr (takes_of rfl rfl rfl rfl) rfl (by decide) (da_cons (de_var 4 rfl (by walk_at "vis") (by decide) (by decide)) (da_cons de_int da_nil rfl) rfl) rfl rfl) (da_cons (de_tup (da_cons de_int (da_cons de_int da_nil rfl) rfl) (by decide)) da_nil rfl) rfl) rfl) rfl) rfl) rfl) (by decide)) (dn_callD ((ok__law_draw (P := P) (w := w) (base := base) T).mono (by decide)) hr (takes_of rfl rfl rfl rfl) rfl (by decide) (da_cons (de_var 0 rfl (by walk_at "vis") (by decide) (by decide)) (da_cons de_int da_nil rfl) rfl) rfl rfl) (fun _ _ => rfl)) (dg_sub (de_var 2 rfl (by walk_at "vis") (by decide) (by decide)) (de_var 3 rfl (by walk_at "vis") (by decide) (by decide)) (fun _ => rfl)) rfl rfl rfl)
    (dss_cons (ds_if (dt_cmp (op_eqA hu) od_eq (dn_callD ((ok__law_draw (P := P) (w := w) (base := base) T).mono (by decide)) hr (takes_of rfl rfl rfl rfl) rfl (by decide) (da_cons (de_var 0 rfl (by walk_at "vis") (by decide) (by decide)) (da_cons de_int da_nil rfl) rfl) rfl rfl) de_int (nomark _)) (dss_one (ds_asg (de_tup (da_cons (de_add (de_mul (dn_callD ((ok__law_near (P := P) (w := w) (base := base) T).mono (by decide)) hr (takes_of rfl rfl rfl rfl) rfl (by decide) (da_cons (de_var 0 rfl (by walk_at "vis") (by decide) (by decide)) (da_cons de_int da_nil rfl) rfl) rfl rfl) de_int) de_int) (da_cons de_int da_nil rfl) rfl) (by decide)) (dg_sub (de_var 2 rfl (by walk_at "vis") (by decide) (by decide)) (de_mod (de_callTy (f := intF) call_int1 cd_int rfl T.b_int (by decide +kernel) (da_cons (de_add (de_var 3 rfl (by walk_at "vis") (by decide) (by decide)) de_int) da_nil rfl) (by decide) (by decide) rfl rfl) (de_var 1 rfl (by walk_at "vis") (by decide) (by decide))) (fun _ => rfl)) rfl rfl rfl)) dss_nil)
    (dss_cons (ds_set 5 hnd rfl (by walk_at "locs") (dn_callP ((ok__law_point (P := P) (w := w) (base := base) T).mono (by decide)) hr (takes_of rfl rfl rfl rfl) rfl (by decide) (da_cons (de_var 2 rfl (by walk_at "vis") (by decide) (by decide)) da_nil rfl) rfl rfl) rfl (by walk_at "fnn"))
    (dss_cons (ds_set 6 hnd rfl (by walk_at "locs") (de_callTy (f := tupF) call_tuple_of cd_tup rfl T.b_tuple (by decide +kernel) (da_cons (de_lc (own := [("number", 10)]) (c := (.one 10)) (tt := tYesD) (te := (dOp mulF (dC (.int 2)) (dVar 10))) rfl hnd (di_seq (de_var 5 rfl (by walk_at "vis") (by decide) (by decide))) (blkOk_by (N := nm__law_points_right) (sc := defScope s__law_points_right) (by decide +kernel)) (by decide) (fun _ _ _ _ _ => pg_name (i := 10) hnd rfl (by walk_at "locs") (by walk_at "fnn")) (fun _ _ _ _ _ => dts_nil) (fun _ _ _ _ _ => (de_mul de_int (de_var 10 rfl (by walk_at "vis") (by decide) (by decide)))) (fun _ => rfl)) da_nil rfl) (by decide) (by decide) rfl rfl) rfl (by walk_at "fnn"))
    (dss_cons (ds_set 7 hnd rfl (by walk_at "locs") (de_lst (da_cons (de_var 5 rfl (by walk_at "vis") (by decide) (by decide)) (da_cons (de_var 6 rfl (by walk_at "vis") (by decide) (by decide)) (da_cons (de_callTy (f := lstF) call_list_of cd_lst rfl T.b_list (by decide +kernel) (da_cons (de_var 5 rfl (by walk_at "vis") (by decide) (by decide)) da_nil rfl) (by decide) (by decide) rfl rfl) (da_cons (de_slice (de_var 5 rfl (by walk_at "vis") (by decide) (by decide)) (do_some de_int) do_none) (da_cons (de_add (de_var 5 rfl (by walk_at "vis") (by decide) (by decide)) (de_tup (da_cons de_int da_nil rfl) (by decide))) (da_cons (de_callTy (f := tupF) call_tuple_of cd_tup rfl T.b_tuple (by decide +kernel) (da_cons (de_lc (own := [("number", 10)]) (c := (.one 10)) (tt := tYesD) (te := (dUn negF (dVar 10))) rfl hnd (di_seq (de_var 5 rfl (by walk_at "vis") (by decide) (by decide))) (blkOk_by (N := nm__law_points_right) (sc := defScope s__law_points_right) (by decide +kernel)) (by decide) (fun _ _ _ _ _ => pg_name (i := 10) hnd rfl (by walk_at "locs") (by walk_at "fnn")) (fun _ _ _ _ _ => dts_nil) (fun _ _ _ _ _ => (de_neg (de_var 10 rfl (by walk_at "vis") (by decide) (by decide)))) (fun _ => rfl)) da_nil rfl) (by decide) (by decide) rfl rfl) (da_cons (de_add (de_slice (de_var 5 rfl (by walk_at "vis") (by decide) (by decide)) do_none (do_some (de_neg de_int))) (de_tup (da_cons de_int da_nil rfl) (by decide))) (da_cons (de_add (de_slice (de_var 5 rfl (by walk_at "vis") (by decide) (by decide)) do_none (do_some (de_neg de_int))) (de_tup (da_cons de_bl da_nil rfl) (by decide))) (da_cons (de_tup (da_cons (de_var 5 rfl (by walk_at "vis") (by decide) (by decide)) da_nil rfl) (by decide)) (da_cons de_non (da_cons de_int da_nil rfl) rfl) rfl) rfl) rfl) rfl) rfl) rfl) rfl) rfl) rfl) (by decide)) rfl (by walk_at "fnn"))
    (dss_cons (ds_for (passes_of (K := fun e s'' => L2.CX P w outer H s E e s'') (E₁ := fun e s'' => L2.CX P w outer H s E e s'') rfl) rfl (di_seq (de_var 7 rfl (by walk_at "vis") (by decide) (by decide))) (dg_name 8 hnd rfl (by walk_at "locs") (by walk_at "fnn")) (dss_one (ds_if (dt_not (dt_tru (dn_callP ((ok__law_same (P := P) (w := w) (base := base) T 3).mono (by decide)) hr (takes_of rfl rfl rfl rfl) rfl (by decide) (da_cons (dn_callP ((ok_is_told_point (P := P) (w := w) (base := base) T).mono (by decide)) hr (takes_of rfl rfl rfl rfl) rfl (by decide) (da_cons (de_var 8 rfl (by walk_at "vis") (by decide) (by decide)) (da_cons (de_var 1 rfl (by walk_at "vis") (by decide) (by decide)) da_nil rfl) rfl) rfl rfl) (da_cons (dn_callP ((ok__law_is_point (P := P) (w := w) (base := base) T).mono (by decide)) hr (takes_of rfl rfl rfl rfl) rfl (by decide) (da_cons (de_var 8 rfl (by walk_at "vis") (by decide) (by decide)) (da_cons (de_var 1 rfl (by walk_at "vis") (by decide) (by decide)) da_nil rfl) rfl) rfl rfl) da_nil rfl) rfl) rfl rfl) (fun _ => rfl))) (dss_one (ds_ret de_bl)) dss_nil)) (fun _ => rfl))
    (dss_one (ds_ret de_bl)))))))))))) w__law_points_right
/-! ### law -/
abbrev sp_law : Spc (List Int) := lawSpc 63

def l2_law_0 : dS :=
  (sIf (dtNot (dtTru (dCallP sp__law_pairs_right (dCons (dCallD sp__law_pair (dCons (dVar 1) dNil)) dNil)))) (sRet (dC (.bl false))) sNil)
def l1_law_2 : dS :=
  (sIf (dtOr (dtNot (dtTru (dCallD sp__law_counts_right (dCons (dVar 1) dNil)))) (dtOr (dtNot (dtTru (dCallD sp__law_forms_right (dCons (dVar 1) (dCons (dVar 3) dNil))))) (dtNot (dtTru (dCallD sp__law_points_right (dCons (dVar 1) (dCons (dVar 3) dNil))))))) (sRet (dC (.bl false))) sNil)
def l1_law_1 : dS :=
  (sSeq (sFor (srcRng1 (dCons (dC (.int 4)) dNil)) (gN 4) (l2_law_0)) (l1_law_2))
def l1_law_0 : dS :=
  (sSeq (sAsg (dOp addF (dC (.int 1)) (dCallD sp__law_draw (dCons (dVar 1) (dCons (dC (.int 3)) dNil)))) (gN 3)) (l1_law_1))
def r_law_5 : dS :=
  (sRet (dC (.bl true)))
def r_law_4 : dS :=
  (sSeq (sFor (srcRng1 (dCons (dC (.int 5)) dNil)) (gN 2) (l1_law_0)) (r_law_5))
def r_law_3 : dS :=
  (sSeq (sIf (dtOr (dtNot (dtTru (dCallP sp__law_pairs_right (dCons (dTup (dCons (dC (.int 1)) (dCons (dC (.int 1000000001)) dNil))) dNil)))) (dtNot (dtTru (dCallP sp__law_pairs_right (dCons (dTup (dCons (dUn negF (dC (.int 1000000001))) (dCons (dC (.int 1)) dNil))) dNil))))) (sRet (dC (.bl false))) sNil) (r_law_4))
def r_law_2 : dS :=
  (sSeq (sIf (dtOr (dtNot (dtTru (dCallP (sp__law_same 3) (dCons (dCallP sp_is_told_form (dCons (dTup (dCons (dC (.int 1000000000)) (dCons (dC (.int 0)) (dCons (dUn negF (dC (.int 1000000000))) dNil)))) (dCons (dC (.int 2)) dNil))) (dCons (dC (.bl true)) dNil))))) (dtNot (dtTru (dCallP sp__law_pairs_right (dCons (dTup (dCons (dC (.int 1)) (dCons (dC (.int 1000000000)) dNil))) dNil))))) (sRet (dC (.bl false))) sNil) (r_law_3))
def r_law_1 : dS :=
  (sSeq (sIf (dtOr (dtNot (dtTru (dCallP (sp__law_same 3) (dCons (dCallP sp_is_told_ratio (dCons (dTup (dCons (dC (.int 3)) (dCons (dC (.int 4)) dNil))) dNil)) (dCons (dC (.bl true)) dNil))))) (dtNot (dtTru (dCallP (sp__law_same 3) (dCons (dCallP sp_is_told_point (dCons (dTup (dCons (dC (.int 1)) (dCons (dC (.int 2)) (dCons (dC (.int 3)) dNil)))) (dCons (dC (.int 2)) dNil))) (dCons (dC (.bl true)) dNil)))))) (sRet (dC (.bl false))) sNil) (r_law_2))
def r_law_0 : dS :=
  (sSeq (sAsg (dCallP sp__law_draws (dCons (dVar 0) dNil)) (gN 1)) (r_law_1))
def t_law : dS :=
  (r_law_0)
theorem len_law : ∀ x ds, sp_law.pre x ds → ds.length = 1 := fun x ds h => by rw [h.1]; rfl
abbrev HX (c : List Int) (s : DrS) (J : Hh) : Hh := .lst (c.map .int) :: .lst (drD 0 s) :: J
theorem useP_pairs {d e : D} {h : Hh} {Q : D → Hh → Prop} {E : XK'} (v : View h (fun _ => True) d e) (hn : noA e = true) (q : Q (.bl true) h) : useP sp__law_pairs_right [d] h Q E :=
  useP_mk e _ (.cons v .nil) ⟨rfl, hn⟩ (fun o ho _ => by rw [ho]; exact q) (fun _ q => q)
theorem told34 : toldB (.tup [.int 3, .int 4]) = true := by decide
theorem tpt123 : tptB 2 (.tup [.int 1, .int 2, .int 3]) = true := by decide +kernel
theorem tform1 : tformB 2 (.tup [.int 1000000000, .int 0, .int (-1000000000)]) = true := by decide +kernel
theorem law4 {c : List Int} {s : DrS} {j : Hh} {sc : Option D} (hc : s.c = c) (ha : 0 ≤ s.a) :
    r_law_4 (endP sp_law c) [sc, some (.ref 1), none, none, none] (HX c s j) := by
  simp only [r_law_4, dOp, dUn, dVar, dC, slot, startE, List.map, List.length, List.replicate, List.append, List.cons_append, List.nil_append, List.set, dAnd, dOr, dNot, dtB, dtAnd, dtOr, dtNot, dIf, dtTru, truF, dNil, dCons, dTup, dLst, dCB, sNil, sSeq, sRet, sRetN, sExpr, sIf, sAsg, gN, gT, gsNil, gsCons, gS, sPar, sAug, sWhile, sFor, sBrk, sCont, sNo, sRaise, dCallP_eq, dCallD_eq, List.length_map, List.getElem?_cons_succ, List.getElem?_concat_length, set_last, get_mid, get_mid2, eqF, neF, ltF, leF, gtF, geF, isF, notF, addF, subF, mulF, fdivF, modF, powF, negF, ixF, lenF, tupF, lstF, absF, intF, gcdF, maxF, minF, Rs.to, dIsi, dIsi2, dIsE, tyN, D.isNon, dM1, dM0, srcSeq, srcRng1, srcRng2, dLc, tYesD, iaddF, isBF, notBF, srcZip, srcEnumerate, repF, sumF, allF, anyF, intsOf_map, blsOf_map, dSl, dPart, dNoPart, sliceF, at0, at1, at2, at3, at4, ix0, ix1, ix2, ix3, Dn.g0, Dn.g1, Dn.g2, Dn.g3, Dn.g4, ex_some, decide_true, decide_false, Bool.not_true, Bool.not_false, ite_true, ite_false, if_true, if_false, List.reverse_cons, List.reverse_nil, outPost, wipeE, CTg.set, setAll, appF, extF, revF, popF, Nat.zero_add, Nat.reduceAdd, is_NoneType_int, is_NoneType_bool, is_NoneType_str, is_NoneType_tuple, is_NoneType_list, is_bool_int, is_bool_bool, is_bool_str, is_bool_tuple, is_bool_list, is_int_int, is_int_bool, is_int_str, is_int_tuple, is_int_list, is_str_int, is_str_bool, is_str_str, is_str_tuple, is_str_list, is_tuple_int, is_tuple_bool, is_tuple_str, is_tuple_tuple, is_tuple_list, is_list_int, is_list_bool, is_list_str, is_list_tuple, is_list_list, strF, dDct, repLF, is_dict_int, is_dict_bool, is_dict_str, is_dict_tuple, is_dict_list, is_dict_dict, is_NoneType_dict, is_bool_dict, is_int_dict, is_str_dict, is_tuple_dict, is_list_dict]
  refine ⟨by decide, fun i e h => (∃ u2 u3 u4, e = [sc, some (.ref 1), u2, u3, u4]) ∧ ∃ s' j', h = HX c s' j' ∧ s'.c = c ∧ 0 ≤ s'.a, ⟨⟨_, _, _, rfl⟩, s, j, rfl, hc, ha⟩, fun _ _ _ _ _ => trivial, ?_, ?_⟩
  · rintro i x e h hx ⟨⟨u2, u3, u4, rfl⟩, s', j', rfl, hc', ha'⟩
    simp only [l1_law_0, HX, dOp, dUn, dVar, dC, slot, startE, List.map, List.length, List.replicate, List.append, List.cons_append, List.nil_append, List.set, dAnd, dOr, dNot, dtB, dtAnd, dtOr, dtNot, dIf, dtTru, truF, dNil, dCons, dTup, dLst, dCB, sNil, sSeq, sRet, sRetN, sExpr, sIf, sAsg, gN, gT, gsNil, gsCons, gS, sPar, sAug, sWhile, sFor, sBrk, sCont, sNo, sRaise, dCallP_eq, dCallD_eq, List.length_map, List.getElem?_cons_succ, List.getElem?_concat_length, set_last, get_mid, get_mid2, eqF, neF, ltF, leF, gtF, geF, isF, notF, addF, subF, mulF, fdivF, modF, powF, negF, ixF, lenF, tupF, lstF, absF, intF, gcdF, maxF, minF, Rs.to, dIsi, dIsi2, dIsE, tyN, D.isNon, dM1, dM0, srcSeq, srcRng1, srcRng2, dLc, tYesD, iaddF, isBF, notBF, srcZip, srcEnumerate, repF, sumF, allF, anyF, intsOf_map, blsOf_map, dSl, dPart, dNoPart, sliceF, at0, at1, at2, at3, at4, ix0, ix1, ix2, ix3, Dn.g0, Dn.g1, Dn.g2, Dn.g3, Dn.g4, ex_some, decide_true, decide_false, Bool.not_true, Bool.not_false, ite_true, ite_false, if_true, if_false, List.reverse_cons, List.reverse_nil, outPost, wipeE, CTg.set, setAll, appF, extF, revF, popF, Nat.zero_add, Nat.reduceAdd, is_NoneType_int, is_NoneType_bool, is_NoneType_str, is_NoneType_tuple, is_NoneType_list, is_bool_int, is_bool_bool, is_bool_str, is_bool_tuple, is_bool_list, is_int_int, is_int_bool, is_int_str, is_int_tuple, is_int_list, is_str_int, is_str_bool, is_str_str, is_str_tuple, is_str_list, is_tuple_int, is_tuple_bool, is_tuple_str, is_tuple_tuple, is_tuple_list, is_list_int, is_list_bool, is_list_str, is_list_tuple, is_list_list, strF, dDct, repLF, is_dict_int, is_dict_bool, is_dict_str, is_dict_tuple, is_dict_list, is_dict_dict, is_NoneType_dict, is_bool_dict, is_int_dict, is_str_dict, is_tuple_dict, is_list_dict]
    refine useD_10 3 hc' rfl ⟨rfl, by decide, bt_lit (by decide) (by decide), ha'⟩ ?_
    rintro o s1 ⟨k, rfl, k0, k1, a1⟩ hc1
    refine ⟨_, rfl, ?_⟩
    obtain ⟨n, hn⟩ : ∃ n : Nat, 1 + k = n := ⟨(1 + k).toNat, by omega⟩
    have n3 : n ≤ 3 := by omega
    have n1 : 1 ≤ n := by omega
    simp only [l1_law_1, hn, dOp, dUn, dVar, dC, slot, startE, List.map, List.length, List.replicate, List.append, List.cons_append, List.nil_append, List.set, dAnd, dOr, dNot, dtB, dtAnd, dtOr, dtNot, dIf, dtTru, truF, dNil, dCons, dTup, dLst, dCB, sNil, sSeq, sRet, sRetN, sExpr, sIf, sAsg, gN, gT, gsNil, gsCons, gS, sPar, sAug, sWhile, sFor, sBrk, sCont, sNo, sRaise, dCallP_eq, dCallD_eq, List.length_map, List.getElem?_cons_succ, List.getElem?_concat_length, set_last, get_mid, get_mid2, eqF, neF, ltF, leF, gtF, geF, isF, notF, addF, subF, mulF, fdivF, modF, powF, negF, ixF, lenF, tupF, lstF, absF, intF, gcdF, maxF, minF, Rs.to, dIsi, dIsi2, dIsE, tyN, D.isNon, dM1, dM0, srcSeq, srcRng1, srcRng2, dLc, tYesD, iaddF, isBF, notBF, srcZip, srcEnumerate, repF, sumF, allF, anyF, intsOf_map, blsOf_map, dSl, dPart, dNoPart, sliceF, at0, at1, at2, at3, at4, ix0, ix1, ix2, ix3, Dn.g0, Dn.g1, Dn.g2, Dn.g3, Dn.g4, ex_some, decide_true, decide_false, Bool.not_true, Bool.not_false, ite_true, ite_false, if_true, if_false, List.reverse_cons, List.reverse_nil, outPost, wipeE, CTg.set, setAll, appF, extF, revF, popF, Nat.zero_add, Nat.reduceAdd, is_NoneType_int, is_NoneType_bool, is_NoneType_str, is_NoneType_tuple, is_NoneType_list, is_bool_int, is_bool_bool, is_bool_str, is_bool_tuple, is_bool_list, is_int_int, is_int_bool, is_int_str, is_int_tuple, is_int_list, is_str_int, is_str_bool, is_str_str, is_str_tuple, is_str_list, is_tuple_int, is_tuple_bool, is_tuple_str, is_tuple_tuple, is_tuple_list, is_list_int, is_list_bool, is_list_str, is_list_tuple, is_list_list, strF, dDct, repLF, is_dict_int, is_dict_bool, is_dict_str, is_dict_tuple, is_dict_list, is_dict_dict, is_NoneType_dict, is_bool_dict, is_int_dict, is_str_dict, is_tuple_dict, is_list_dict]
    refine ⟨by decide, fun i e h => (∃ u4, e = [sc, some (.ref 1), some x, some (.int n), u4]) ∧ ∃ s' j', h = HX c s' j' ∧ s'.c = c ∧ 0 ≤ s'.a, ⟨⟨_, rfl⟩, s1, j', rfl, hc1, a1⟩, fun _ _ _ _ _ => trivial, ?_, ?_⟩
    · rintro i y e h hy ⟨⟨u4, rfl⟩, s2, j2, rfl, hc2, a2⟩
      simp only [l2_law_0, HX, dOp, dUn, dVar, dC, slot, startE, List.map, List.length, List.replicate, List.append, List.cons_append, List.nil_append, List.set, dAnd, dOr, dNot, dtB, dtAnd, dtOr, dtNot, dIf, dtTru, truF, dNil, dCons, dTup, dLst, dCB, sNil, sSeq, sRet, sRetN, sExpr, sIf, sAsg, gN, gT, gsNil, gsCons, gS, sPar, sAug, sWhile, sFor, sBrk, sCont, sNo, sRaise, dCallP_eq, dCallD_eq, List.length_map, List.getElem?_cons_succ, List.getElem?_concat_length, set_last, get_mid, get_mid2, eqF, neF, ltF, leF, gtF, geF, isF, notF, addF, subF, mulF, fdivF, modF, powF, negF, ixF, lenF, tupF, lstF, absF, intF, gcdF, maxF, minF, Rs.to, dIsi, dIsi2, dIsE, tyN, D.isNon, dM1, dM0, srcSeq, srcRng1, srcRng2, dLc, tYesD, iaddF, isBF, notBF, srcZip, srcEnumerate, repF, sumF, allF, anyF, intsOf_map, blsOf_map, dSl, dPart, dNoPart, sliceF, at0, at1, at2, at3, at4, ix0, ix1, ix2, ix3, Dn.g0, Dn.g1, Dn.g2, Dn.g3, Dn.g4, ex_some, decide_true, decide_false, Bool.not_true, Bool.not_false, ite_true, ite_false, if_true, if_false, List.reverse_cons, List.reverse_nil, outPost, wipeE, CTg.set, setAll, appF, extF, revF, popF, Nat.zero_add, Nat.reduceAdd, is_NoneType_int, is_NoneType_bool, is_NoneType_str, is_NoneType_tuple, is_NoneType_list, is_bool_int, is_bool_bool, is_bool_str, is_bool_tuple, is_bool_list, is_int_int, is_int_bool, is_int_str, is_int_tuple, is_int_list, is_str_int, is_str_bool, is_str_str, is_str_tuple, is_str_list, is_tuple_int, is_tuple_bool, is_tuple_str, is_tuple_tuple, is_tuple_list, is_list_int, is_list_bool, is_list_str, is_list_tuple, is_list_list, strF, dDct, repLF, is_dict_int, is_dict_bool, is_dict_str, is_dict_tuple, is_dict_list, is_dict_dict, is_NoneType_dict, is_bool_dict, is_int_dict, is_str_dict, is_tuple_dict, is_list_dict]
      refine useD_10o () hc2 .nil ⟨rfl, a2⟩ ?_
      rintro o s3 ⟨e, hr, hn, a3⟩ hc3 -
      rcases hr with ⟨rfl, hp⟩ | ⟨es, rfl, hp, rfl⟩
      · simp only [dOp, dUn, dVar, dC, slot, startE, List.map, List.length, List.replicate, List.append, List.cons_append, List.nil_append, List.set, dAnd, dOr, dNot, dtB, dtAnd, dtOr, dtNot, dIf, dtTru, truF, dNil, dCons, dTup, dLst, dCB, sNil, sSeq, sRet, sRetN, sExpr, sIf, sAsg, gN, gT, gsNil, gsCons, gS, sPar, sAug, sWhile, sFor, sBrk, sCont, sNo, sRaise, dCallP_eq, dCallD_eq, List.length_map, List.getElem?_cons_succ, List.getElem?_concat_length, set_last, get_mid, get_mid2, eqF, neF, ltF, leF, gtF, geF, isF, notF, addF, subF, mulF, fdivF, modF, powF, negF, ixF, lenF, tupF, lstF, absF, intF, gcdF, maxF, minF, Rs.to, dIsi, dIsi2, dIsE, tyN, D.isNon, dM1, dM0, srcSeq, srcRng1, srcRng2, dLc, tYesD, iaddF, isBF, notBF, srcZip, srcEnumerate, repF, sumF, allF, anyF, intsOf_map, blsOf_map, dSl, dPart, dNoPart, sliceF, at0, at1, at2, at3, at4, ix0, ix1, ix2, ix3, Dn.g0, Dn.g1, Dn.g2, Dn.g3, Dn.g4, ex_some, decide_true, decide_false, Bool.not_true, Bool.not_false, ite_true, ite_false, if_true, if_false, List.reverse_cons, List.reverse_nil, outPost, wipeE, CTg.set, setAll, appF, extF, revF, popF, Nat.zero_add, Nat.reduceAdd, is_NoneType_int, is_NoneType_bool, is_NoneType_str, is_NoneType_tuple, is_NoneType_list, is_bool_int, is_bool_bool, is_bool_str, is_bool_tuple, is_bool_list, is_int_int, is_int_bool, is_int_str, is_int_tuple, is_int_list, is_str_int, is_str_bool, is_str_str, is_str_tuple, is_str_list, is_tuple_int, is_tuple_bool, is_tuple_str, is_tuple_tuple, is_tuple_list, is_list_int, is_list_bool, is_list_str, is_list_tuple, is_list_list, strF, dDct, repLF, is_dict_int, is_dict_bool, is_dict_str, is_dict_tuple, is_dict_list, is_dict_dict, is_NoneType_dict, is_bool_dict, is_int_dict, is_str_dict, is_tuple_dict, is_list_dict]
        refine useP_pairs (.pure hp) hn ?_
        simp only [dOp, dUn, dVar, dC, slot, startE, List.map, List.length, List.replicate, List.append, List.cons_append, List.nil_append, List.set, dAnd, dOr, dNot, dtB, dtAnd, dtOr, dtNot, dIf, dtTru, truF, dNil, dCons, dTup, dLst, dCB, sNil, sSeq, sRet, sRetN, sExpr, sIf, sAsg, gN, gT, gsNil, gsCons, gS, sPar, sAug, sWhile, sFor, sBrk, sCont, sNo, sRaise, dCallP_eq, dCallD_eq, List.length_map, List.getElem?_cons_succ, List.getElem?_concat_length, set_last, get_mid, get_mid2, eqF, neF, ltF, leF, gtF, geF, isF, notF, addF, subF, mulF, fdivF, modF, powF, negF, ixF, lenF, tupF, lstF, absF, intF, gcdF, maxF, minF, Rs.to, dIsi, dIsi2, dIsE, tyN, D.isNon, dM1, dM0, srcSeq, srcRng1, srcRng2, dLc, tYesD, iaddF, isBF, notBF, srcZip, srcEnumerate, repF, sumF, allF, anyF, intsOf_map, blsOf_map, dSl, dPart, dNoPart, sliceF, at0, at1, at2, at3, at4, ix0, ix1, ix2, ix3, Dn.g0, Dn.g1, Dn.g2, Dn.g3, Dn.g4, ex_some, decide_true, decide_false, Bool.not_true, Bool.not_false, ite_true, ite_false, if_true, if_false, List.reverse_cons, List.reverse_nil, outPost, wipeE, CTg.set, setAll, appF, extF, revF, popF, Nat.zero_add, Nat.reduceAdd, is_NoneType_int, is_NoneType_bool, is_NoneType_str, is_NoneType_tuple, is_NoneType_list, is_bool_int, is_bool_bool, is_bool_str, is_bool_tuple, is_bool_list, is_int_int, is_int_bool, is_int_str, is_int_tuple, is_int_list, is_str_int, is_str_bool, is_str_str, is_str_tuple, is_str_list, is_tuple_int, is_tuple_bool, is_tuple_str, is_tuple_tuple, is_tuple_list, is_list_int, is_list_bool, is_list_str, is_list_tuple, is_list_list, strF, dDct, repLF, is_dict_int, is_dict_bool, is_dict_str, is_dict_tuple, is_dict_list, is_dict_dict, is_NoneType_dict, is_bool_dict, is_int_dict, is_str_dict, is_tuple_dict, is_list_dict]
        exact ⟨⟨_, rfl⟩, s3, _, rfl, hc3, a3⟩
      · simp only [dOp, dUn, dVar, dC, slot, startE, List.map, List.length, List.replicate, List.append, List.cons_append, List.nil_append, List.set, dAnd, dOr, dNot, dtB, dtAnd, dtOr, dtNot, dIf, dtTru, truF, dNil, dCons, dTup, dLst, dCB, sNil, sSeq, sRet, sRetN, sExpr, sIf, sAsg, gN, gT, gsNil, gsCons, gS, sPar, sAug, sWhile, sFor, sBrk, sCont, sNo, sRaise, dCallP_eq, dCallD_eq, List.length_map, List.getElem?_cons_succ, List.getElem?_concat_length, set_last, get_mid, get_mid2, eqF, neF, ltF, leF, gtF, geF, isF, notF, addF, subF, mulF, fdivF, modF, powF, negF, ixF, lenF, tupF, lstF, absF, intF, gcdF, maxF, minF, Rs.to, dIsi, dIsi2, dIsE, tyN, D.isNon, dM1, dM0, srcSeq, srcRng1, srcRng2, dLc, tYesD, iaddF, isBF, notBF, srcZip, srcEnumerate, repF, sumF, allF, anyF, intsOf_map, blsOf_map, dSl, dPart, dNoPart, sliceF, at0, at1, at2, at3, at4, ix0, ix1, ix2, ix3, Dn.g0, Dn.g1, Dn.g2, Dn.g3, Dn.g4, ex_some, decide_true, decide_false, Bool.not_true, Bool.not_false, ite_true, ite_false, if_true, if_false, List.reverse_cons, List.reverse_nil, outPost, wipeE, CTg.set, setAll, appF, extF, revF, popF, Nat.zero_add, Nat.reduceAdd, is_NoneType_int, is_NoneType_bool, is_NoneType_str, is_NoneType_tuple, is_NoneType_list, is_bool_int, is_bool_bool, is_bool_str, is_bool_tuple, is_bool_list, is_int_int, is_int_bool, is_int_str, is_int_tuple, is_int_list, is_str_int, is_str_bool, is_str_str, is_str_tuple, is_str_list, is_tuple_int, is_tuple_bool, is_tuple_str, is_tuple_tuple, is_tuple_list, is_list_int, is_list_bool, is_list_str, is_list_tuple, is_list_list, strF, dDct, repLF, is_dict_int, is_dict_bool, is_dict_str, is_dict_tuple, is_dict_list, is_dict_dict, is_NoneType_dict, is_bool_dict, is_int_dict, is_str_dict, is_tuple_dict, is_list_dict]
        refine useP_pairs (e := .lst es) (.own (ds := es) (by simp only [List.getElem?_cons_succ, List.getElem?_concat_length]) trivial (Views.pures hp)) hn ?_
        simp only [dOp, dUn, dVar, dC, slot, startE, List.map, List.length, List.replicate, List.append, List.cons_append, List.nil_append, List.set, dAnd, dOr, dNot, dtB, dtAnd, dtOr, dtNot, dIf, dtTru, truF, dNil, dCons, dTup, dLst, dCB, sNil, sSeq, sRet, sRetN, sExpr, sIf, sAsg, gN, gT, gsNil, gsCons, gS, sPar, sAug, sWhile, sFor, sBrk, sCont, sNo, sRaise, dCallP_eq, dCallD_eq, List.length_map, List.getElem?_cons_succ, List.getElem?_concat_length, set_last, get_mid, get_mid2, eqF, neF, ltF, leF, gtF, geF, isF, notF, addF, subF, mulF, fdivF, modF, powF, negF, ixF, lenF, tupF, lstF, absF, intF, gcdF, maxF, minF, Rs.to, dIsi, dIsi2, dIsE, tyN, D.isNon, dM1, dM0, srcSeq, srcRng1, srcRng2, dLc, tYesD, iaddF, isBF, notBF, srcZip, srcEnumerate, repF, sumF, allF, anyF, intsOf_map, blsOf_map, dSl, dPart, dNoPart, sliceF, at0, at1, at2, at3, at4, ix0, ix1, ix2, ix3, Dn.g0, Dn.g1, Dn.g2, Dn.g3, Dn.g4, ex_some, decide_true, decide_false, Bool.not_true, Bool.not_false, ite_true, ite_false, if_true, if_false, List.reverse_cons, List.reverse_nil, outPost, wipeE, CTg.set, setAll, appF, extF, revF, popF, Nat.zero_add, Nat.reduceAdd, is_NoneType_int, is_NoneType_bool, is_NoneType_str, is_NoneType_tuple, is_NoneType_list, is_bool_int, is_bool_bool, is_bool_str, is_bool_tuple, is_bool_list, is_int_int, is_int_bool, is_int_str, is_int_tuple, is_int_list, is_str_int, is_str_bool, is_str_str, is_str_tuple, is_str_list, is_tuple_int, is_tuple_bool, is_tuple_str, is_tuple_tuple, is_tuple_list, is_list_int, is_list_bool, is_list_str, is_list_tuple, is_list_list, strF, dDct, repLF, is_dict_int, is_dict_bool, is_dict_str, is_dict_tuple, is_dict_list, is_dict_dict, is_NoneType_dict, is_bool_dict, is_int_dict, is_str_dict, is_tuple_dict, is_list_dict]
        exact ⟨⟨_, rfl⟩, s3, _, rfl, hc3, a3⟩
    · rintro e h ⟨⟨u4, rfl⟩, s2, j2, rfl, hc2, a2⟩
      simp only [l1_law_2, HX, dOp, dUn, dVar, dC, slot, startE, List.map, List.length, List.replicate, List.append, List.cons_append, List.nil_append, List.set, dAnd, dOr, dNot, dtB, dtAnd, dtOr, dtNot, dIf, dtTru, truF, dNil, dCons, dTup, dLst, dCB, sNil, sSeq, sRet, sRetN, sExpr, sIf, sAsg, gN, gT, gsNil, gsCons, gS, sPar, sAug, sWhile, sFor, sBrk, sCont, sNo, sRaise, dCallP_eq, dCallD_eq, List.length_map, List.getElem?_cons_succ, List.getElem?_concat_length, set_last, get_mid, get_mid2, eqF, neF, ltF, leF, gtF, geF, isF, notF, addF, subF, mulF, fdivF, modF, powF, negF, ixF, lenF, tupF, lstF, absF, intF, gcdF, maxF, minF, Rs.to, dIsi, dIsi2, dIsE, tyN, D.isNon, dM1, dM0, srcSeq, srcRng1, srcRng2, dLc, tYesD, iaddF, isBF, notBF, srcZip, srcEnumerate, repF, sumF, allF, anyF, intsOf_map, blsOf_map, dSl, dPart, dNoPart, sliceF, at0, at1, at2, at3, at4, ix0, ix1, ix2, ix3, Dn.g0, Dn.g1, Dn.g2, Dn.g3, Dn.g4, ex_some, decide_true, decide_false, Bool.not_true, Bool.not_false, ite_true, ite_false, if_true, if_false, List.reverse_cons, List.reverse_nil, outPost, wipeE, CTg.set, setAll, appF, extF, revF, popF, Nat.zero_add, Nat.reduceAdd, is_NoneType_int, is_NoneType_bool, is_NoneType_str, is_NoneType_tuple, is_NoneType_list, is_bool_int, is_bool_bool, is_bool_str, is_bool_tuple, is_bool_list, is_int_int, is_int_bool, is_int_str, is_int_tuple, is_int_list, is_str_int, is_str_bool, is_str_str, is_str_tuple, is_str_list, is_tuple_int, is_tuple_bool, is_tuple_str, is_tuple_tuple, is_tuple_list, is_list_int, is_list_bool, is_list_str, is_list_tuple, is_list_list, strF, dDct, repLF, is_dict_int, is_dict_bool, is_dict_str, is_dict_tuple, is_dict_list, is_dict_dict, is_NoneType_dict, is_bool_dict, is_int_dict, is_str_dict, is_tuple_dict, is_list_dict]
      refine useD_10 () hc2 rfl ⟨rfl, a2⟩ ?_
      rintro o s3 ⟨rfl, a3⟩ hc3
      refine ⟨_, rfl, ?_⟩
      simp only [dOp, dUn, dVar, dC, slot, startE, List.map, List.length, List.replicate, List.append, List.cons_append, List.nil_append, List.set, dAnd, dOr, dNot, dtB, dtAnd, dtOr, dtNot, dIf, dtTru, truF, dNil, dCons, dTup, dLst, dCB, sNil, sSeq, sRet, sRetN, sExpr, sIf, sAsg, gN, gT, gsNil, gsCons, gS, sPar, sAug, sWhile, sFor, sBrk, sCont, sNo, sRaise, dCallP_eq, dCallD_eq, List.length_map, List.getElem?_cons_succ, List.getElem?_concat_length, set_last, get_mid, get_mid2, eqF, neF, ltF, leF, gtF, geF, isF, notF, addF, subF, mulF, fdivF, modF, powF, negF, ixF, lenF, tupF, lstF, absF, intF, gcdF, maxF, minF, Rs.to, dIsi, dIsi2, dIsE, tyN, D.isNon, dM1, dM0, srcSeq, srcRng1, srcRng2, dLc, tYesD, iaddF, isBF, notBF, srcZip, srcEnumerate, repF, sumF, allF, anyF, intsOf_map, blsOf_map, dSl, dPart, dNoPart, sliceF, at0, at1, at2, at3, at4, ix0, ix1, ix2, ix3, Dn.g0, Dn.g1, Dn.g2, Dn.g3, Dn.g4, ex_some, decide_true, decide_false, Bool.not_true, Bool.not_false, ite_true, ite_false, if_true, if_false, List.reverse_cons, List.reverse_nil, outPost, wipeE, CTg.set, setAll, appF, extF, revF, popF, Nat.zero_add, Nat.reduceAdd, is_NoneType_int, is_NoneType_bool, is_NoneType_str, is_NoneType_tuple, is_NoneType_list, is_bool_int, is_bool_bool, is_bool_str, is_bool_tuple, is_bool_list, is_int_int, is_int_bool, is_int_str, is_int_tuple, is_int_list, is_str_int, is_str_bool, is_str_str, is_str_tuple, is_str_list, is_tuple_int, is_tuple_bool, is_tuple_str, is_tuple_tuple, is_tuple_list, is_list_int, is_list_bool, is_list_str, is_list_tuple, is_list_list, strF, dDct, repLF, is_dict_int, is_dict_bool, is_dict_str, is_dict_tuple, is_dict_list, is_dict_dict, is_NoneType_dict, is_bool_dict, is_int_dict, is_str_dict, is_tuple_dict, is_list_dict]
      refine useD_10 n hc3 rfl ⟨rfl, by omega, a3⟩ ?_
      rintro o s4 ⟨rfl, a4⟩ hc4
      refine ⟨_, rfl, ?_⟩
      simp only [dOp, dUn, dVar, dC, slot, startE, List.map, List.length, List.replicate, List.append, List.cons_append, List.nil_append, List.set, dAnd, dOr, dNot, dtB, dtAnd, dtOr, dtNot, dIf, dtTru, truF, dNil, dCons, dTup, dLst, dCB, sNil, sSeq, sRet, sRetN, sExpr, sIf, sAsg, gN, gT, gsNil, gsCons, gS, sPar, sAug, sWhile, sFor, sBrk, sCont, sNo, sRaise, dCallP_eq, dCallD_eq, List.length_map, List.getElem?_cons_succ, List.getElem?_concat_length, set_last, get_mid, get_mid2, eqF, neF, ltF, leF, gtF, geF, isF, notF, addF, subF, mulF, fdivF, modF, powF, negF, ixF, lenF, tupF, lstF, absF, intF, gcdF, maxF, minF, Rs.to, dIsi, dIsi2, dIsE, tyN, D.isNon, dM1, dM0, srcSeq, srcRng1, srcRng2, dLc, tYesD, iaddF, isBF, notBF, srcZip, srcEnumerate, repF, sumF, allF, anyF, intsOf_map, blsOf_map, dSl, dPart, dNoPart, sliceF, at0, at1, at2, at3, at4, ix0, ix1, ix2, ix3, Dn.g0, Dn.g1, Dn.g2, Dn.g3, Dn.g4, ex_some, decide_true, decide_false, Bool.not_true, Bool.not_false, ite_true, ite_false, if_true, if_false, List.reverse_cons, List.reverse_nil, outPost, wipeE, CTg.set, setAll, appF, extF, revF, popF, Nat.zero_add, Nat.reduceAdd, is_NoneType_int, is_NoneType_bool, is_NoneType_str, is_NoneType_tuple, is_NoneType_list, is_bool_int, is_bool_bool, is_bool_str, is_bool_tuple, is_bool_list, is_int_int, is_int_bool, is_int_str, is_int_tuple, is_int_list, is_str_int, is_str_bool, is_str_str, is_str_tuple, is_str_list, is_tuple_int, is_tuple_bool, is_tuple_str, is_tuple_tuple, is_tuple_list, is_list_int, is_list_bool, is_list_str, is_list_tuple, is_list_list, strF, dDct, repLF, is_dict_int, is_dict_bool, is_dict_str, is_dict_tuple, is_dict_list, is_dict_dict, is_NoneType_dict, is_bool_dict, is_int_dict, is_str_dict, is_tuple_dict, is_list_dict]
      refine useD_10 n hc4 rfl ⟨rfl, by omega, by omega, a4⟩ ?_
      rintro o s5 ⟨rfl, a5⟩ hc5
      refine ⟨_, rfl, ?_⟩
      simp only [dOp, dUn, dVar, dC, slot, startE, List.map, List.length, List.replicate, List.append, List.cons_append, List.nil_append, List.set, dAnd, dOr, dNot, dtB, dtAnd, dtOr, dtNot, dIf, dtTru, truF, dNil, dCons, dTup, dLst, dCB, sNil, sSeq, sRet, sRetN, sExpr, sIf, sAsg, gN, gT, gsNil, gsCons, gS, sPar, sAug, sWhile, sFor, sBrk, sCont, sNo, sRaise, dCallP_eq, dCallD_eq, List.length_map, List.getElem?_cons_succ, List.getElem?_concat_length, set_last, get_mid, get_mid2, eqF, neF, ltF, leF, gtF, geF, isF, notF, addF, subF, mulF, fdivF, modF, powF, negF, ixF, lenF, tupF, lstF, absF, intF, gcdF, maxF, minF, Rs.to, dIsi, dIsi2, dIsE, tyN, D.isNon, dM1, dM0, srcSeq, srcRng1, srcRng2, dLc, tYesD, iaddF, isBF, notBF, srcZip, srcEnumerate, repF, sumF, allF, anyF, intsOf_map, blsOf_map, dSl, dPart, dNoPart, sliceF, at0, at1, at2, at3, at4, ix0, ix1, ix2, ix3, Dn.g0, Dn.g1, Dn.g2, Dn.g3, Dn.g4, ex_some, decide_true, decide_false, Bool.not_true, Bool.not_false, ite_true, ite_false, if_true, if_false, List.reverse_cons, List.reverse_nil, outPost, wipeE, CTg.set, setAll, appF, extF, revF, popF, Nat.zero_add, Nat.reduceAdd, is_NoneType_int, is_NoneType_bool, is_NoneType_str, is_NoneType_tuple, is_NoneType_list, is_bool_int, is_bool_bool, is_bool_str, is_bool_tuple, is_bool_list, is_int_int, is_int_bool, is_int_str, is_int_tuple, is_int_list, is_str_int, is_str_bool, is_str_str, is_str_tuple, is_str_list, is_tuple_int, is_tuple_bool, is_tuple_str, is_tuple_tuple, is_tuple_list, is_list_int, is_list_bool, is_list_str, is_list_tuple, is_list_list, strF, dDct, repLF, is_dict_int, is_dict_bool, is_dict_str, is_dict_tuple, is_dict_list, is_dict_dict, is_NoneType_dict, is_bool_dict, is_int_dict, is_str_dict, is_tuple_dict, is_list_dict]
      exact ⟨⟨_, _, _, rfl⟩, s5, _, rfl, hc5, a5⟩
  · rintro e h ⟨⟨u2, u3, u4, rfl⟩, s', j', rfl, hc', ha'⟩
    simp only [r_law_5, dOp, dUn, dVar, dC, slot, startE, List.map, List.length, List.replicate, List.append, List.cons_append, List.nil_append, List.set, dAnd, dOr, dNot, dtB, dtAnd, dtOr, dtNot, dIf, dtTru, truF, dNil, dCons, dTup, dLst, dCB, sNil, sSeq, sRet, sRetN, sExpr, sIf, sAsg, gN, gT, gsNil, gsCons, gS, sPar, sAug, sWhile, sFor, sBrk, sCont, sNo, sRaise, dCallP_eq, dCallD_eq, List.length_map, List.getElem?_cons_succ, List.getElem?_concat_length, set_last, get_mid, get_mid2, eqF, neF, ltF, leF, gtF, geF, isF, notF, addF, subF, mulF, fdivF, modF, powF, negF, ixF, lenF, tupF, lstF, absF, intF, gcdF, maxF, minF, Rs.to, dIsi, dIsi2, dIsE, tyN, D.isNon, dM1, dM0, srcSeq, srcRng1, srcRng2, dLc, tYesD, iaddF, isBF, notBF, srcZip, srcEnumerate, repF, sumF, allF, anyF, intsOf_map, blsOf_map, dSl, dPart, dNoPart, sliceF, at0, at1, at2, at3, at4, ix0, ix1, ix2, ix3, Dn.g0, Dn.g1, Dn.g2, Dn.g3, Dn.g4, ex_some, decide_true, decide_false, Bool.not_true, Bool.not_false, ite_true, ite_false, if_true, if_false, List.reverse_cons, List.reverse_nil, outPost, wipeE, CTg.set, setAll, appF, extF, revF, popF, Nat.zero_add, Nat.reduceAdd, is_NoneType_int, is_NoneType_bool, is_NoneType_str, is_NoneType_tuple, is_NoneType_list, is_bool_int, is_bool_bool, is_bool_str, is_bool_tuple, is_bool_list, is_int_int, is_int_bool, is_int_str, is_int_tuple, is_int_list, is_str_int, is_str_bool, is_str_str, is_str_tuple, is_str_list, is_tuple_int, is_tuple_bool, is_tuple_str, is_tuple_tuple, is_tuple_list, is_list_int, is_list_bool, is_list_str, is_list_tuple, is_list_list, strF, dDct, repLF, is_dict_int, is_dict_bool, is_dict_str, is_dict_tuple, is_dict_list, is_dict_dict, is_NoneType_dict, is_bool_dict, is_int_dict, is_str_dict, is_tuple_dict, is_list_dict]
    exact rt_val rfl rfl
theorem w_law : ∀ x ds, sp_law.pre x ds → t_law (endP sp_law x) (startE nm_law.length ds) [] := by
  rintro c ds ⟨rfl, hl⟩
  simp only [t_law , r_law_0, nm_law, dOp, dUn, dVar, dC, slot, startE, List.map, List.length, List.replicate, List.append, List.cons_append, List.nil_append, List.set, dAnd, dOr, dNot, dtB, dtAnd, dtOr, dtNot, dIf, dtTru, truF, dNil, dCons, dTup, dLst, dCB, sNil, sSeq, sRet, sRetN, sExpr, sIf, sAsg, gN, gT, gsNil, gsCons, gS, sPar, sAug, sWhile, sFor, sBrk, sCont, sNo, sRaise, dCallP_eq, dCallD_eq, List.length_map, List.getElem?_cons_succ, List.getElem?_concat_length, set_last, get_mid, get_mid2, eqF, neF, ltF, leF, gtF, geF, isF, notF, addF, subF, mulF, fdivF, modF, powF, negF, ixF, lenF, tupF, lstF, absF, intF, gcdF, maxF, minF, Rs.to, dIsi, dIsi2, dIsE, tyN, D.isNon, dM1, dM0, srcSeq, srcRng1, srcRng2, dLc, tYesD, iaddF, isBF, notBF, srcZip, srcEnumerate, repF, sumF, allF, anyF, intsOf_map, blsOf_map, dSl, dPart, dNoPart, sliceF, at0, at1, at2, at3, at4, ix0, ix1, ix2, ix3, Dn.g0, Dn.g1, Dn.g2, Dn.g3, Dn.g4, ex_some, decide_true, decide_false, Bool.not_true, Bool.not_false, ite_true, ite_false, if_true, if_false, List.reverse_cons, List.reverse_nil, outPost, wipeE, CTg.set, setAll, appF, extF, revF, popF, Nat.zero_add, Nat.reduceAdd, is_NoneType_int, is_NoneType_bool, is_NoneType_str, is_NoneType_tuple, is_NoneType_list, is_bool_int, is_bool_bool, is_bool_str, is_bool_tuple, is_bool_list, is_int_int, is_int_bool, is_int_str, is_int_tuple, is_int_list, is_str_int, is_str_bool, is_str_str, is_str_tuple, is_str_list, is_tuple_int, is_tuple_bool, is_tuple_str, is_tuple_tuple, is_tuple_list, is_list_int, is_list_bool, is_list_str, is_list_tuple, is_list_list, strF, dDct, repLF, is_dict_int, is_dict_bool, is_dict_str, is_dict_tuple, is_dict_list, is_dict_dict, is_NoneType_dict, is_bool_dict, is_int_dict, is_str_dict, is_tuple_dict, is_list_dict]
  refine useP_mk c [.lst (c.map .int)] (.cons (.lst (Views.pures (ints_pure c))) .nil) rfl ?_ (fun _ q => q)
  rintro o rfl -
  simp only [r_law_1, dOp, dUn, dVar, dC, slot, startE, List.map, List.length, List.replicate, List.append, List.cons_append, List.nil_append, List.set, dAnd, dOr, dNot, dtB, dtAnd, dtOr, dtNot, dIf, dtTru, truF, dNil, dCons, dTup, dLst, dCB, sNil, sSeq, sRet, sRetN, sExpr, sIf, sAsg, gN, gT, gsNil, gsCons, gS, sPar, sAug, sWhile, sFor, sBrk, sCont, sNo, sRaise, dCallP_eq, dCallD_eq, List.length_map, List.getElem?_cons_succ, List.getElem?_concat_length, set_last, get_mid, get_mid2, eqF, neF, ltF, leF, gtF, geF, isF, notF, addF, subF, mulF, fdivF, modF, powF, negF, ixF, lenF, tupF, lstF, absF, intF, gcdF, maxF, minF, Rs.to, dIsi, dIsi2, dIsE, tyN, D.isNon, dM1, dM0, srcSeq, srcRng1, srcRng2, dLc, tYesD, iaddF, isBF, notBF, srcZip, srcEnumerate, repF, sumF, allF, anyF, intsOf_map, blsOf_map, dSl, dPart, dNoPart, sliceF, at0, at1, at2, at3, at4, ix0, ix1, ix2, ix3, Dn.g0, Dn.g1, Dn.g2, Dn.g3, Dn.g4, ex_some, decide_true, decide_false, Bool.not_true, Bool.not_false, ite_true, ite_false, if_true, if_false, List.reverse_cons, List.reverse_nil, outPost, wipeE, CTg.set, setAll, appF, extF, revF, popF, Nat.zero_add, Nat.reduceAdd, is_NoneType_int, is_NoneType_bool, is_NoneType_str, is_NoneType_tuple, is_NoneType_list, is_bool_int, is_bool_bool, is_bool_str, is_bool_tuple, is_bool_list, is_int_int, is_int_bool, is_int_str, is_int_tuple, is_int_list, is_str_int, is_str_bool, is_str_str, is_str_tuple, is_str_list, is_tuple_int, is_tuple_bool, is_tuple_str, is_tuple_tuple, is_tuple_list, is_list_int, is_list_bool, is_list_str, is_list_tuple, is_list_list, strF, dDct, repLF, is_dict_int, is_dict_bool, is_dict_str, is_dict_tuple, is_dict_list, is_dict_dict, is_NoneType_dict, is_bool_dict, is_int_dict, is_str_dict, is_tuple_dict, is_list_dict]
  refine useP_told rfl (useP_same told34 ?_)
  simp only [dOp, dUn, dVar, dC, slot, startE, List.map, List.length, List.replicate, List.append, List.cons_append, List.nil_append, List.set, dAnd, dOr, dNot, dtB, dtAnd, dtOr, dtNot, dIf, dtTru, truF, dNil, dCons, dTup, dLst, dCB, sNil, sSeq, sRet, sRetN, sExpr, sIf, sAsg, gN, gT, gsNil, gsCons, gS, sPar, sAug, sWhile, sFor, sBrk, sCont, sNo, sRaise, dCallP_eq, dCallD_eq, List.length_map, List.getElem?_cons_succ, List.getElem?_concat_length, set_last, get_mid, get_mid2, eqF, neF, ltF, leF, gtF, geF, isF, notF, addF, subF, mulF, fdivF, modF, powF, negF, ixF, lenF, tupF, lstF, absF, intF, gcdF, maxF, minF, Rs.to, dIsi, dIsi2, dIsE, tyN, D.isNon, dM1, dM0, srcSeq, srcRng1, srcRng2, dLc, tYesD, iaddF, isBF, notBF, srcZip, srcEnumerate, repF, sumF, allF, anyF, intsOf_map, blsOf_map, dSl, dPart, dNoPart, sliceF, at0, at1, at2, at3, at4, ix0, ix1, ix2, ix3, Dn.g0, Dn.g1, Dn.g2, Dn.g3, Dn.g4, ex_some, decide_true, decide_false, Bool.not_true, Bool.not_false, ite_true, ite_false, if_true, if_false, List.reverse_cons, List.reverse_nil, outPost, wipeE, CTg.set, setAll, appF, extF, revF, popF, Nat.zero_add, Nat.reduceAdd, is_NoneType_int, is_NoneType_bool, is_NoneType_str, is_NoneType_tuple, is_NoneType_list, is_bool_int, is_bool_bool, is_bool_str, is_bool_tuple, is_bool_list, is_int_int, is_int_bool, is_int_str, is_int_tuple, is_int_list, is_str_int, is_str_bool, is_str_str, is_str_tuple, is_str_list, is_tuple_int, is_tuple_bool, is_tuple_str, is_tuple_tuple, is_tuple_list, is_list_int, is_list_bool, is_list_str, is_list_tuple, is_list_list, strF, dDct, repLF, is_dict_int, is_dict_bool, is_dict_str, is_dict_tuple, is_dict_list, is_dict_dict, is_NoneType_dict, is_bool_dict, is_int_dict, is_str_dict, is_tuple_dict, is_list_dict]
  refine useP_tpt (e := tI [1, 2, 3]) ⟨.pure rfl, rfl, fun L e => by
    rw [← tI_inj e]
    exact ⟨by decide, fun x hx => bt_lit (by
      simp only [List.mem_cons, List.not_mem_nil, or_false] at hx
      rcases hx with rfl | rfl | rfl <;> decide) (by decide)⟩⟩ (by decide) (by decide) (useP_same tpt123 ?_)
  simp only [r_law_2, dOp, dUn, dVar, dC, slot, startE, List.map, List.length, List.replicate, List.append, List.cons_append, List.nil_append, List.set, dAnd, dOr, dNot, dtB, dtAnd, dtOr, dtNot, dIf, dtTru, truF, dNil, dCons, dTup, dLst, dCB, sNil, sSeq, sRet, sRetN, sExpr, sIf, sAsg, gN, gT, gsNil, gsCons, gS, sPar, sAug, sWhile, sFor, sBrk, sCont, sNo, sRaise, dCallP_eq, dCallD_eq, List.length_map, List.getElem?_cons_succ, List.getElem?_concat_length, set_last, get_mid, get_mid2, eqF, neF, ltF, leF, gtF, geF, isF, notF, addF, subF, mulF, fdivF, modF, powF, negF, ixF, lenF, tupF, lstF, absF, intF, gcdF, maxF, minF, Rs.to, dIsi, dIsi2, dIsE, tyN, D.isNon, dM1, dM0, srcSeq, srcRng1, srcRng2, dLc, tYesD, iaddF, isBF, notBF, srcZip, srcEnumerate, repF, sumF, allF, anyF, intsOf_map, blsOf_map, dSl, dPart, dNoPart, sliceF, at0, at1, at2, at3, at4, ix0, ix1, ix2, ix3, Dn.g0, Dn.g1, Dn.g2, Dn.g3, Dn.g4, ex_some, decide_true, decide_false, Bool.not_true, Bool.not_false, ite_true, ite_false, if_true, if_false, List.reverse_cons, List.reverse_nil, outPost, wipeE, CTg.set, setAll, appF, extF, revF, popF, Nat.zero_add, Nat.reduceAdd, is_NoneType_int, is_NoneType_bool, is_NoneType_str, is_NoneType_tuple, is_NoneType_list, is_bool_int, is_bool_bool, is_bool_str, is_bool_tuple, is_bool_list, is_int_int, is_int_bool, is_int_str, is_int_tuple, is_int_list, is_str_int, is_str_bool, is_str_str, is_str_tuple, is_str_list, is_tuple_int, is_tuple_bool, is_tuple_str, is_tuple_tuple, is_tuple_list, is_list_int, is_list_bool, is_list_str, is_list_tuple, is_list_list, strF, dDct, repLF, is_dict_int, is_dict_bool, is_dict_str, is_dict_tuple, is_dict_list, is_dict_dict, is_NoneType_dict, is_bool_dict, is_int_dict, is_str_dict, is_tuple_dict, is_list_dict]
  refine useP_tform (.pure rfl) rfl (by decide) (useP_same tform1 ?_)
  simp only [dOp, dUn, dVar, dC, slot, startE, List.map, List.length, List.replicate, List.append, List.cons_append, List.nil_append, List.set, dAnd, dOr, dNot, dtB, dtAnd, dtOr, dtNot, dIf, dtTru, truF, dNil, dCons, dTup, dLst, dCB, sNil, sSeq, sRet, sRetN, sExpr, sIf, sAsg, gN, gT, gsNil, gsCons, gS, sPar, sAug, sWhile, sFor, sBrk, sCont, sNo, sRaise, dCallP_eq, dCallD_eq, List.length_map, List.getElem?_cons_succ, List.getElem?_concat_length, set_last, get_mid, get_mid2, eqF, neF, ltF, leF, gtF, geF, isF, notF, addF, subF, mulF, fdivF, modF, powF, negF, ixF, lenF, tupF, lstF, absF, intF, gcdF, maxF, minF, Rs.to, dIsi, dIsi2, dIsE, tyN, D.isNon, dM1, dM0, srcSeq, srcRng1, srcRng2, dLc, tYesD, iaddF, isBF, notBF, srcZip, srcEnumerate, repF, sumF, allF, anyF, intsOf_map, blsOf_map, dSl, dPart, dNoPart, sliceF, at0, at1, at2, at3, at4, ix0, ix1, ix2, ix3, Dn.g0, Dn.g1, Dn.g2, Dn.g3, Dn.g4, ex_some, decide_true, decide_false, Bool.not_true, Bool.not_false, ite_true, ite_false, if_true, if_false, List.reverse_cons, List.reverse_nil, outPost, wipeE, CTg.set, setAll, appF, extF, revF, popF, Nat.zero_add, Nat.reduceAdd, is_NoneType_int, is_NoneType_bool, is_NoneType_str, is_NoneType_tuple, is_NoneType_list, is_bool_int, is_bool_bool, is_bool_str, is_bool_tuple, is_bool_list, is_int_int, is_int_bool, is_int_str, is_int_tuple, is_int_list, is_str_int, is_str_bool, is_str_str, is_str_tuple, is_str_list, is_tuple_int, is_tuple_bool, is_tuple_str, is_tuple_tuple, is_tuple_list, is_list_int, is_list_bool, is_list_str, is_list_tuple, is_list_list, strF, dDct, repLF, is_dict_int, is_dict_bool, is_dict_str, is_dict_tuple, is_dict_list, is_dict_dict, is_NoneType_dict, is_bool_dict, is_int_dict, is_str_dict, is_tuple_dict, is_list_dict]
  refine useP_pairs (.pure rfl) rfl ?_
  simp only [r_law_3, dOp, dUn, dVar, dC, slot, startE, List.map, List.length, List.replicate, List.append, List.cons_append, List.nil_append, List.set, dAnd, dOr, dNot, dtB, dtAnd, dtOr, dtNot, dIf, dtTru, truF, dNil, dCons, dTup, dLst, dCB, sNil, sSeq, sRet, sRetN, sExpr, sIf, sAsg, gN, gT, gsNil, gsCons, gS, sPar, sAug, sWhile, sFor, sBrk, sCont, sNo, sRaise, dCallP_eq, dCallD_eq, List.length_map, List.getElem?_cons_succ, List.getElem?_concat_length, set_last, get_mid, get_mid2, eqF, neF, ltF, leF, gtF, geF, isF, notF, addF, subF, mulF, fdivF, modF, powF, negF, ixF, lenF, tupF, lstF, absF, intF, gcdF, maxF, minF, Rs.to, dIsi, dIsi2, dIsE, tyN, D.isNon, dM1, dM0, srcSeq, srcRng1, srcRng2, dLc, tYesD, iaddF, isBF, notBF, srcZip, srcEnumerate, repF, sumF, allF, anyF, intsOf_map, blsOf_map, dSl, dPart, dNoPart, sliceF, at0, at1, at2, at3, at4, ix0, ix1, ix2, ix3, Dn.g0, Dn.g1, Dn.g2, Dn.g3, Dn.g4, ex_some, decide_true, decide_false, Bool.not_true, Bool.not_false, ite_true, ite_false, if_true, if_false, List.reverse_cons, List.reverse_nil, outPost, wipeE, CTg.set, setAll, appF, extF, revF, popF, Nat.zero_add, Nat.reduceAdd, is_NoneType_int, is_NoneType_bool, is_NoneType_str, is_NoneType_tuple, is_NoneType_list, is_bool_int, is_bool_bool, is_bool_str, is_bool_tuple, is_bool_list, is_int_int, is_int_bool, is_int_str, is_int_tuple, is_int_list, is_str_int, is_str_bool, is_str_str, is_str_tuple, is_str_list, is_tuple_int, is_tuple_bool, is_tuple_str, is_tuple_tuple, is_tuple_list, is_list_int, is_list_bool, is_list_str, is_list_tuple, is_list_list, strF, dDct, repLF, is_dict_int, is_dict_bool, is_dict_str, is_dict_tuple, is_dict_list, is_dict_dict, is_NoneType_dict, is_bool_dict, is_int_dict, is_str_dict, is_tuple_dict, is_list_dict]
  refine useP_pairs (.pure rfl) rfl ?_
  simp only [dOp, dUn, dVar, dC, slot, startE, List.map, List.length, List.replicate, List.append, List.cons_append, List.nil_append, List.set, dAnd, dOr, dNot, dtB, dtAnd, dtOr, dtNot, dIf, dtTru, truF, dNil, dCons, dTup, dLst, dCB, sNil, sSeq, sRet, sRetN, sExpr, sIf, sAsg, gN, gT, gsNil, gsCons, gS, sPar, sAug, sWhile, sFor, sBrk, sCont, sNo, sRaise, dCallP_eq, dCallD_eq, List.length_map, List.getElem?_cons_succ, List.getElem?_concat_length, set_last, get_mid, get_mid2, eqF, neF, ltF, leF, gtF, geF, isF, notF, addF, subF, mulF, fdivF, modF, powF, negF, ixF, lenF, tupF, lstF, absF, intF, gcdF, maxF, minF, Rs.to, dIsi, dIsi2, dIsE, tyN, D.isNon, dM1, dM0, srcSeq, srcRng1, srcRng2, dLc, tYesD, iaddF, isBF, notBF, srcZip, srcEnumerate, repF, sumF, allF, anyF, intsOf_map, blsOf_map, dSl, dPart, dNoPart, sliceF, at0, at1, at2, at3, at4, ix0, ix1, ix2, ix3, Dn.g0, Dn.g1, Dn.g2, Dn.g3, Dn.g4, ex_some, decide_true, decide_false, Bool.not_true, Bool.not_false, ite_true, ite_false, if_true, if_false, List.reverse_cons, List.reverse_nil, outPost, wipeE, CTg.set, setAll, appF, extF, revF, popF, Nat.zero_add, Nat.reduceAdd, is_NoneType_int, is_NoneType_bool, is_NoneType_str, is_NoneType_tuple, is_NoneType_list, is_bool_int, is_bool_bool, is_bool_str, is_bool_tuple, is_bool_list, is_int_int, is_int_bool, is_int_str, is_int_tuple, is_int_list, is_str_int, is_str_bool, is_str_str, is_str_tuple, is_str_list, is_tuple_int, is_tuple_bool, is_tuple_str, is_tuple_tuple, is_tuple_list, is_list_int, is_list_bool, is_list_str, is_list_tuple, is_list_list, strF, dDct, repLF, is_dict_int, is_dict_bool, is_dict_str, is_dict_tuple, is_dict_list, is_dict_dict, is_NoneType_dict, is_bool_dict, is_int_dict, is_str_dict, is_tuple_dict, is_list_dict]
  refine useP_pairs (.pure rfl) rfl ?_
  simp only [dOp, dUn, dVar, dC, slot, startE, List.map, List.length, List.replicate, List.append, List.cons_append, List.nil_append, List.set, dAnd, dOr, dNot, dtB, dtAnd, dtOr, dtNot, dIf, dtTru, truF, dNil, dCons, dTup, dLst, dCB, sNil, sSeq, sRet, sRetN, sExpr, sIf, sAsg, gN, gT, gsNil, gsCons, gS, sPar, sAug, sWhile, sFor, sBrk, sCont, sNo, sRaise, dCallP_eq, dCallD_eq, List.length_map, List.getElem?_cons_succ, List.getElem?_concat_length, set_last, get_mid, get_mid2, eqF, neF, ltF, leF, gtF, geF, isF, notF, addF, subF, mulF, fdivF, modF, powF, negF, ixF, lenF, tupF, lstF, absF, intF, gcdF, maxF, minF, Rs.to, dIsi, dIsi2, dIsE, tyN, D.isNon, dM1, dM0, srcSeq, srcRng1, srcRng2, dLc, tYesD, iaddF, isBF, notBF, srcZip, srcEnumerate, repF, sumF, allF, anyF, intsOf_map, blsOf_map, dSl, dPart, dNoPart, sliceF, at0, at1, at2, at3, at4, ix0, ix1, ix2, ix3, Dn.g0, Dn.g1, Dn.g2, Dn.g3, Dn.g4, ex_some, decide_true, decide_false, Bool.not_true, Bool.not_false, ite_true, ite_false, if_true, if_false, List.reverse_cons, List.reverse_nil, outPost, wipeE, CTg.set, setAll, appF, extF, revF, popF, Nat.zero_add, Nat.reduceAdd, is_NoneType_int, is_NoneType_bool, is_NoneType_str, is_NoneType_tuple, is_NoneType_list, is_bool_int, is_bool_bool, is_bool_str, is_bool_tuple, is_bool_list, is_int_int, is_int_bool, is_int_str, is_int_tuple, is_int_list, is_str_int, is_str_bool, is_str_str, is_str_tuple, is_str_list, is_tuple_int, is_tuple_bool, is_tuple_str, is_tuple_tuple, is_tuple_list, is_list_int, is_list_bool, is_list_str, is_list_tuple, is_list_list, strF, dDct, repLF, is_dict_int, is_dict_bool, is_dict_str, is_dict_tuple, is_dict_list, is_dict_dict, is_NoneType_dict, is_bool_dict, is_int_dict, is_str_dict, is_tuple_dict, is_list_dict]
  exact law4 (s := ⟨c, 0, 0, 1⟩) rfl (Int.le_refl 0)

theorem lawF (T : Txt K mg) {f : Addr} {fd : FuncData} (F : Fun K "law" "law" s_law f fd) : FnOk P w K mg base (L2.CX P w) 6 f fd ["script"] (spP K mg (lawSpc 63)) :=
  fnP (k := 5) (lawSpc 63) t_law F sc_law (fun x ds hp => len_law x ds hp) (fun cdv A outer s H E hr z => by
    have hu := hr.units; have hnd := sc_law.nd
    unfold t_law r_law_0 r_law_1 r_law_2 r_law_3 r_law_4 r_law_5 l1_law_0 l1_law_1 l1_law_2 l2_law_0
    exact (dss_cons (ds_set 1 hnd rfl (by walk_at "locs") (dn_callP ((ok__law_draws (P := P) (w := w) (base := base) T).mono (by decide)) hr (takes_of rfl rfl rfl rfl) rfl (by decide) (da_cons (de_var 0 rfl (by walk_at "vis") (by decide) (by decide)) da_nil rfl) rfl rfl) rfl (by walk_at "fnn"))
    (dss_cons (ds_if (dw_pt (dw_or (dt_not (dt_tru (dn_callP ((ok__law_same (P := P) (w := w) (base := base) T 3).mono (by decide)) hr (takes_of rfl rfl rfl rfl) rfl (by decide) (da_cons (dn_callP ((ok_is_told_ratio (P := P) (w := w) (base := base) T).mono (by decide)) hr (takes_of rfl rfl rfl rfl) rfl (by decide) (da_cons (de_tup (da_cons de_int (da_cons de_int da_nil rfl) rfl) (by decide)) da_nil rfl) rfl rfl) (da_cons de_bl da_nil rfl) rfl) rfl rfl) (fun _ => rfl))) (dw_or1 (dt_not (dt_tru (dn_callP ((ok__law_same (P := P) (w := w) (base := base) T 3).mono (by decide)) hr (takes_of rfl rfl rfl rfl) rfl (by decide) (da_cons (dn_callP ((ok_is_told_point (P := P) (w := w) (base := base) T).mono (by decide)) hr (takes_of rfl rfl rfl rfl) rfl (by decide) (da_cons (de_tup (da_cons de_int (da_cons de_int (da_cons de_int da_nil rfl) rfl) rfl) (by decide)) (da_cons de_int da_nil rfl) rfl) rfl rfl) (da_cons de_bl da_nil rfl) rfl) rfl rfl) (fun _ => rfl)))))) (dss_one (ds_ret de_bl)) dss_nil)
    (dss_cons (ds_if (dw_pt (dw_or (dt_not (dt_tru (dn_callP ((ok__law_same (P := P) (w := w) (base := base) T 3).mono (by decide)) hr (takes_of rfl rfl rfl rfl) rfl (by decide) (da_cons (dn_callP ((ok_is_told_form (P := P) (w := w) (base := base) T).mono (by decide)) hr (takes_of rfl rfl rfl rfl) rfl (by decide) (da_cons (de_tup (da_cons de_int (da_cons de_int (da_cons (de_neg de_int) da_nil rfl) rfl) rfl) (by decide)) (da_cons de_int da_nil rfl) rfl) rfl rfl) (da_cons de_bl da_nil rfl) rfl) rfl rfl) (fun _ => rfl))) (dw_or1 (dt_not (dt_tru (dn_callP ((ok__law_pairs_right (P := P) (w := w) (base := base) T).mono (by decide)) hr (takes_of rfl rfl rfl rfl) rfl (by decide) (da_cons (de_tup (da_cons de_int (da_cons de_int da_nil rfl) rfl) (by decide)) da_nil rfl) rfl rfl) (fun _ => rfl)))))) (dss_one (ds_ret de_bl)) dss_nil)
    (dss_cons (ds_if (dw_pt (dw_or (dt_not (dt_tru (dn_callP ((ok__law_pairs_right (P := P) (w := w) (base := base) T).mono (by decide)) hr (takes_of rfl rfl rfl rfl) rfl (by decide) (da_cons (de_tup (da_cons de_int (da_cons de_int da_nil rfl) rfl) (by decide)) da_nil rfl) rfl rfl) (fun _ => rfl))) (dw_or1 (dt_not (dt_tru (dn_callP ((ok__law_pairs_right (P := P) (w := w) (base := base) T).mono (by decide)) hr (takes_of rfl rfl rfl rfl) rfl (by decide) (da_cons (de_tup (da_cons (de_neg de_int) (da_cons de_int da_nil rfl) rfl) (by decide)) da_nil rfl) rfl rfl) (fun _ => rfl)))))) (dss_one (ds_ret de_bl)) dss_nil)
    (dss_cons (ds_for (passes_of (K := fun e s'' => L2.CX P w outer H s E e s'') (E₁ := fun e s'' => L2.CX P w outer H s E e s'') rfl) rfl (di_rng1 rfl T.b_range (da_cons de_int da_nil rfl) rfl) (dg_name 2 hnd rfl (by walk_at "locs") (by walk_at "fnn")) (dss_cons (ds_set 3 hnd rfl (by walk_at "locs") (de_add de_int (dn_callD ((ok__law_draw (P := P) (w := w) (base := base) T).mono (by decide)) hr (takes_of rfl rfl rfl rfl) rfl (by decide) (da_cons (de_var 1 rfl (by walk_at "vis") (by decide) (by decide)) (da_cons de_int da_nil rfl) rfl) rfl rfl)) rfl (by walk_at "fnn"))
    (dss_cons (ds_for (passes_of (K := fun e s'' => L2.CX P w outer H s E e s'') (E₁ := fun e s'' => L2.CX P w outer H s E e s'') rfl) rfl (di_rng1 rfl T.b_range (da_cons de_int da_nil rfl) rfl) (dg_name 4 hnd rfl (by walk_at "locs") (by walk_at "fnn")) (dss_one (ds_if (dt_not (dt_tru (dn_callP ((ok__law_pairs_right (P := P) (w := w) (base := base) T).mono (by decide)) hr (takes_of rfl rfl rfl rfl) rfl (by decide) (da_cons (dn_callD ((ok__law_pair (P := P) (w := w) (base := base) T).mono (by decide)) hr (takes_of rfl rfl rfl rfl) rfl (by decide) (da_cons (de_var 1 rfl (by walk_at "vis") (by decide) (by decide)) da_nil rfl) rfl rfl) da_nil rfl) rfl rfl) (fun _ => rfl))) (dss_one (ds_ret de_bl)) dss_nil)) (fun _ => rfl))
    (dss_one (ds_if (dw_pt (dw_or (dt_not (dt_tru (dn_callD ((ok__law_counts_right (P := P) (w := w) (base := base) T).mono (by decide)) hr (takes_of rfl rfl rfl rfl) rfl (by decide) (da_cons (de_var 1 rfl (by walk_at "vis") (by decide) (by decide)) da_nil rfl) rfl rfl) (fun _ => rfl))) (dw_or (dt_not (dt_tru (dn_callD ((ok__law_forms_right (P := P) (w := w) (base := base) T).mono (by decide)) hr (takes_of rfl rfl rfl rfl) rfl (by decide) (da_cons (de_var 1 rfl (by walk_at "vis") (by decide) (by decide)) (da_cons (de_var 3 rfl (by walk_at "vis") (by decide) (by decide)) da_nil rfl) rfl) rfl rfl) (fun _ => rfl))) (dw_or1 (dt_not (dt_tru (dn_callD ((ok__law_points_right (P := P) (w := w) (base := base) T).mono (by decide)) hr (takes_of rfl rfl rfl rfl) rfl (by decide) (da_cons (de_var 1 rfl (by walk_at "vis") (by decide) (by decide)) (da_cons (de_var 3 rfl (by walk_at "vis") (by decide) (by decide)) da_nil rfl) rfl) rfl rfl) (fun _ => rfl))))))) (dss_one (ds_ret de_bl)) dss_nil)))) (fun _ => rfl))
    (dss_one (ds_ret de_bl)))))))) w_law
theorem txt_of {hp : Heap} (X : K.In hp) (G : hp.Ns mainGlobals mg) {f0 : Addr} {od0 an0 : Option Addr} {sl0 : Array (Option Value)} {oc0 kV0 dc0 pm0 cd0 ct0 : Value} {f1 : Addr} {od1 an1 : Option Addr} {sl1 : Array (Option Value)} {oc1 kV1 dc1 pm1 cd1 ct1 : Value} {f2 : Addr} {od2 an2 : Option Addr} {sl2 : Array (Option Value)} {oc2 kV2 dc2 pm2 cd2 ct2 : Value} {f3 : Addr} {od3 an3 : Option Addr} {sl3 : Array (Option Value)} {oc3 kV3 dc3 pm3 cd3 ct3 : Value} {f4 : Addr} {od4 an4 : Option Addr} {sl4 : Array (Option Value)} {oc4 kV4 dc4 pm4 cd4 ct4 : Value} {f5 : Addr} {od5 an5 : Option Addr} {sl5 : Array (Option Value)} {oc5 kV5 dc5 pm5 cd5 ct5 : Value} {f6 : Addr} {od6 an6 : Option Addr} {sl6 : Array (Option Value)} {oc6 kV6 dc6 pm6 cd6 ct6 : Value} {f7 : Addr} {od7 an7 : Option Addr} {sl7 : Array (Option Value)} {oc7 kV7 dc7 pm7 cd7 ct7 : Value} {f8 : Addr} {od8 an8 : Option Addr} {sl8 : Array (Option Value)} {oc8 kV8 dc8 pm8 cd8 ct8 : Value} {f9 : Addr} {od9 an9 : Option Addr} {sl9 : Array (Option Value)} {oc9 kV9 dc9 pm9 cd9 ct9 : Value} {f10 : Addr} {od10 an10 : Option Addr} {sl10 : Array (Option Value)} {oc10 kV10 dc10 pm10 cd10 ct10 : Value} {f11 : Addr} {od11 an11 : Option Addr} {sl11 : Array (Option Value)} {oc11 kV11 dc11 pm11 cd11 ct11 : Value} {f12 : Addr} {od12 an12 : Option Addr} {sl12 : Array (Option Value)} {oc12 kV12 dc12 pm12 cd12 ct12 : Value} {f13 : Addr} {od13 an13 : Option Addr} {sl13 : Array (Option Value)} {oc13 kV13 dc13 pm13 cd13 ct13 : Value} {f14 : Addr} {od14 an14 : Option Addr} {sl14 : Array (Option Value)} {oc14 kV14 dc14 pm14 cd14 ct14 : Value} {f15 : Addr} {od15 an15 : Option Addr} {sl15 : Array (Option Value)} {oc15 kV15 dc15 pm15 cd15 ct15 : Value} {f16 : Addr} {od16 an16 : Option Addr} {sl16 : Array (Option Value)} {oc16 kV16 dc16 pm16 cd16 ct16 : Value} {f17 : Addr} {od17 an17 : Option Addr} {sl17 : Array (Option Value)} {oc17 kV17 dc17 pm17 cd17 ct17 : Value} {f18 : Addr} {od18 an18 : Option Addr} {sl18 : Array (Option Value)} {oc18 kV18 dc18 pm18 cd18 ct18 : Value} {f19 : Addr} {od19 an19 : Option Addr} {sl19 : Array (Option Value)} {oc19 kV19 dc19 pm19 cd19 ct19 : Value} {f20 : Addr} {od20 an20 : Option Addr} {sl20 : Array (Option Value)} {oc20 kV20 dc20 pm20 cd20 ct20 : Value} {f21 : Addr} {od21 an21 : Option Addr} {sl21 : Array (Option Value)} {oc21 kV21 dc21 pm21 cd21 ct21 : Value} {f22 : Addr} {od22 an22 : Option Addr} {sl22 : Array (Option Value)} {oc22 kV22 dc22 pm22 cd22 ct22 : Value} {f23 : Addr} {od23 an23 : Option Addr} {sl23 : Array (Option Value)} {oc23 kV23 dc23 pm23 cd23 ct23 : Value} {f24 : Addr} {od24 an24 : Option Addr} {sl24 : Array (Option Value)} {oc24 kV24 dc24 pm24 cd24 ct24 : Value} {f25 : Addr} {od25 an25 : Option Addr} {sl25 : Array (Option Value)} {oc25 kV25 dc25 pm25 cd25 ct25 : Value} {f26 : Addr} {od26 an26 : Option Addr} {sl26 : Array (Option Value)} {oc26 kV26 dc26 pm26 cd26 ct26 : Value} {f27 : Addr} {od27 an27 : Option Addr} {sl27 : Array (Option Value)} {oc27 kV27 dc27 pm27 cd27 ct27 : Value} {f28 : Addr} {od28 an28 : Option Addr} {sl28 : Array (Option Value)} {oc28 kV28 dc28 pm28 cd28 ct28 : Value} {f29 : Addr} {od29 an29 : Option Addr} {sl29 : Array (Option Value)} {oc29 kV29 dc29 pm29 cd29 ct29 : Value} {f30 : Addr} {od30 an30 : Option Addr} {sl30 : Array (Option Value)} {oc30 kV30 dc30 pm30 cd30 ct30 : Value} {f31 : Addr} {od31 an31 : Option Addr} {sl31 : Array (Option Value)} {oc31 kV31 dc31 pm31 cd31 ct31 : Value} {f32 : Addr} {od32 an32 : Option Addr} {sl32 : Array (Option Value)} {oc32 kV32 dc32 pm32 cd32 ct32 : Value} {gt_BOUND : Tok} {C_BadNumber : Addr}
  (a0 : PySem.W.nsIn K mainGlobals "_law_gcd" = some (some (.ref f0)))
  (l0 : K.lookup f0 = some ⟨oc0, od0, .func (PySem.W.fnOf "_law_gcd" "_law_gcd" (defArgs s__law_gcd) (defBody s__law_gcd) (defScope s__law_gcd) .none kV0 dc0 pm0 an0 cd0 ct0), sl0⟩)
  (c0 : PySem.W.codeIn K cd0 "_law_gcd" = true)
  (k0 : PySem.W.keepIn K (.ref f0) = true)
  (a1 : PySem.W.nsIn K mainGlobals "_law_draws" = some (some (.ref f1)))
  (l1 : K.lookup f1 = some ⟨oc1, od1, .func (PySem.W.fnOf "_law_draws" "_law_draws" (defArgs s__law_draws) (defBody s__law_draws) (defScope s__law_draws) .none kV1 dc1 pm1 an1 cd1 ct1), sl1⟩)
  (c1 : PySem.W.codeIn K cd1 "_law_draws" = true)
  (k1 : PySem.W.keepIn K (.ref f1) = true)
  (a2 : PySem.W.nsIn K mainGlobals "_law_draw" = some (some (.ref f2)))
  (l2 : K.lookup f2 = some ⟨oc2, od2, .func (PySem.W.fnOf "_law_draw" "_law_draw" (defArgs s__law_draw) (defBody s__law_draw) (defScope s__law_draw) .none kV2 dc2 pm2 an2 cd2 ct2), sl2⟩)
  (c2 : PySem.W.codeIn K cd2 "_law_draw" = true)
  (k2 : PySem.W.keepIn K (.ref f2) = true)
  (a3 : PySem.W.nsIn K mainGlobals "_law_near" = some (some (.ref f3)))
  (l3 : K.lookup f3 = some ⟨oc3, od3, .func (PySem.W.fnOf "_law_near" "_law_near" (defArgs s__law_near) (defBody s__law_near) (defScope s__law_near) .none kV3 dc3 pm3 an3 cd3 ct3), sl3⟩)
  (c3 : PySem.W.codeIn K cd3 "_law_near" = true)
  (k3 : PySem.W.keepIn K (.ref f3) = true)
  (a4 : PySem.W.nsIn K mainGlobals "_law_low" = some (some (.ref f4)))
  (l4 : K.lookup f4 = some ⟨oc4, od4, .func (PySem.W.fnOf "_law_low" "_law_low" (defArgs s__law_low) (defBody s__law_low) (defScope s__law_low) .none kV4 dc4 pm4 an4 cd4 ct4), sl4⟩)
  (c4 : PySem.W.codeIn K cd4 "_law_low" = true)
  (k4 : PySem.W.keepIn K (.ref f4) = true)
  (a5 : PySem.W.nsIn K mainGlobals "ratio" = some (some (.ref f5)))
  (l5 : K.lookup f5 = some ⟨oc5, od5, .func (PySem.W.fnOf "ratio" "ratio" (defArgs s_ratio) (defBody s_ratio) (defScope s_ratio) .none kV5 dc5 pm5 an5 cd5 ct5), sl5⟩)
  (c5 : PySem.W.codeIn K cd5 "ratio" = true)
  (k5 : PySem.W.keepIn K (.ref f5) = true)
  (a6 : PySem.W.nsIn K mainGlobals "_law_ratio" = some (some (.ref f6)))
  (l6 : K.lookup f6 = some ⟨oc6, od6, .func (PySem.W.fnOf "_law_ratio" "_law_ratio" (defArgs s__law_ratio) (defBody s__law_ratio) (defScope s__law_ratio) .none kV6 dc6 pm6 an6 cd6 ct6), sl6⟩)
  (c6 : PySem.W.codeIn K cd6 "_law_ratio" = true)
  (k6 : PySem.W.keepIn K (.ref f6) = true)
  (a7 : PySem.W.nsIn K mainGlobals "_law_same" = some (some (.ref f7)))
  (l7 : K.lookup f7 = some ⟨oc7, od7, .func (PySem.W.fnOf "_law_same" "_law_same" (defArgs s__law_same) (defBody s__law_same) (defScope s__law_same) .none kV7 dc7 pm7 an7 cd7 ct7), sl7⟩)
  (c7 : PySem.W.codeIn K cd7 "_law_same" = true)
  (k7 : PySem.W.keepIn K (.ref f7) = true)
  (a8 : PySem.W.nsIn K mainGlobals "is_whole" = some (some (.ref f8)))
  (l8 : K.lookup f8 = some ⟨oc8, od8, .func (PySem.W.fnOf "is_whole" "is_whole" (defArgs s_is_whole) (defBody s_is_whole) (defScope s_is_whole) .none kV8 dc8 pm8 an8 cd8 ct8), sl8⟩)
  (c8 : PySem.W.codeIn K cd8 "is_whole" = true)
  (k8 : PySem.W.keepIn K (.ref f8) = true)
  (a9 : PySem.W.nsIn K mainGlobals "_law_whole" = some (some (.ref f9)))
  (l9 : K.lookup f9 = some ⟨oc9, od9, .func (PySem.W.fnOf "_law_whole" "_law_whole" (defArgs s__law_whole) (defBody s__law_whole) (defScope s__law_whole) .none kV9 dc9 pm9 an9 cd9 ct9), sl9⟩)
  (c9 : PySem.W.codeIn K cd9 "_law_whole" = true)
  (k9 : PySem.W.keepIn K (.ref f9) = true)
  (a10 : PySem.W.nsIn K mainGlobals "is_count" = some (some (.ref f10)))
  (l10 : K.lookup f10 = some ⟨oc10, od10, .func (PySem.W.fnOf "is_count" "is_count" (defArgs s_is_count) (defBody s_is_count) (defScope s_is_count) .none kV10 dc10 pm10 an10 cd10 ct10), sl10⟩)
  (c10 : PySem.W.codeIn K cd10 "is_count" = true)
  (k10 : PySem.W.keepIn K (.ref f10) = true)
  (a11 : PySem.W.nsIn K mainGlobals "is_ratio" = some (some (.ref f11)))
  (l11 : K.lookup f11 = some ⟨oc11, od11, .func (PySem.W.fnOf "is_ratio" "is_ratio" (defArgs s_is_ratio) (defBody s_is_ratio) (defScope s_is_ratio) .none kV11 dc11 pm11 an11 cd11 ct11), sl11⟩)
  (c11 : PySem.W.codeIn K cd11 "is_ratio" = true)
  (k11 : PySem.W.keepIn K (.ref f11) = true)
  (a12 : PySem.W.nsIn K mainGlobals "_law_is_ratio" = some (some (.ref f12)))
  (l12 : K.lookup f12 = some ⟨oc12, od12, .func (PySem.W.fnOf "_law_is_ratio" "_law_is_ratio" (defArgs s__law_is_ratio) (defBody s__law_is_ratio) (defScope s__law_is_ratio) .none kV12 dc12 pm12 an12 cd12 ct12), sl12⟩)
  (c12 : PySem.W.codeIn K cd12 "_law_is_ratio" = true)
  (k12 : PySem.W.keepIn K (.ref f12) = true)
  (a13 : PySem.W.nsIn K mainGlobals "is_told_ratio" = some (some (.ref f13)))
  (l13 : K.lookup f13 = some ⟨oc13, od13, .func (PySem.W.fnOf "is_told_ratio" "is_told_ratio" (defArgs s_is_told_ratio) (defBody s_is_told_ratio) (defScope s_is_told_ratio) .none kV13 dc13 pm13 an13 cd13 ct13), sl13⟩)
  (c13 : PySem.W.codeIn K cd13 "is_told_ratio" = true)
  (k13 : PySem.W.keepIn K (.ref f13) = true)
  (a14 : PySem.W.nsIn K mainGlobals "is_positive" = some (some (.ref f14)))
  (l14 : K.lookup f14 = some ⟨oc14, od14, .func (PySem.W.fnOf "is_positive" "is_positive" (defArgs s_is_positive) (defBody s_is_positive) (defScope s_is_positive) .none kV14 dc14 pm14 an14 cd14 ct14), sl14⟩)
  (c14 : PySem.W.codeIn K cd14 "is_positive" = true)
  (k14 : PySem.W.keepIn K (.ref f14) = true)
  (a15 : PySem.W.nsIn K mainGlobals "is_form" = some (some (.ref f15)))
  (l15 : K.lookup f15 = some ⟨oc15, od15, .func (PySem.W.fnOf "is_form" "is_form" (defArgs s_is_form) (defBody s_is_form) (defScope s_is_form) .none kV15 dc15 pm15 an15 cd15 ct15), sl15⟩)
  (c15 : PySem.W.codeIn K cd15 "is_form" = true)
  (k15 : PySem.W.keepIn K (.ref f15) = true)
  (a16 : PySem.W.nsIn K mainGlobals "is_point" = some (some (.ref f16)))
  (l16 : K.lookup f16 = some ⟨oc16, od16, .func (PySem.W.fnOf "is_point" "is_point" (defArgs s_is_point) (defBody s_is_point) (defScope s_is_point) .none kV16 dc16 pm16 an16 cd16 ct16), sl16⟩)
  (c16 : PySem.W.codeIn K cd16 "is_point" = true)
  (k16 : PySem.W.keepIn K (.ref f16) = true)
  (a17 : PySem.W.nsIn K mainGlobals "is_told_form" = some (some (.ref f17)))
  (l17 : K.lookup f17 = some ⟨oc17, od17, .func (PySem.W.fnOf "is_told_form" "is_told_form" (defArgs s_is_told_form) (defBody s_is_told_form) (defScope s_is_told_form) .none kV17 dc17 pm17 an17 cd17 ct17), sl17⟩)
  (c17 : PySem.W.codeIn K cd17 "is_told_form" = true)
  (k17 : PySem.W.keepIn K (.ref f17) = true)
  (a18 : PySem.W.nsIn K mainGlobals "coords" = some (some (.ref f18)))
  (l18 : K.lookup f18 = some ⟨oc18, od18, .func (PySem.W.fnOf "coords" "coords" (defArgs s_coords) (defBody s_coords) (defScope s_coords) .none kV18 dc18 pm18 an18 cd18 ct18), sl18⟩)
  (c18 : PySem.W.codeIn K cd18 "coords" = true)
  (k18 : PySem.W.keepIn K (.ref f18) = true)
  (a19 : PySem.W.nsIn K mainGlobals "_law_coords" = some (some (.ref f19)))
  (l19 : K.lookup f19 = some ⟨oc19, od19, .func (PySem.W.fnOf "_law_coords" "_law_coords" (defArgs s__law_coords) (defBody s__law_coords) (defScope s__law_coords) .none kV19 dc19 pm19 an19 cd19 ct19), sl19⟩)
  (c19 : PySem.W.codeIn K cd19 "_law_coords" = true)
  (k19 : PySem.W.keepIn K (.ref f19) = true)
  (a20 : PySem.W.nsIn K mainGlobals "is_told_point" = some (some (.ref f20)))
  (l20 : K.lookup f20 = some ⟨oc20, od20, .func (PySem.W.fnOf "is_told_point" "is_told_point" (defArgs s_is_told_point) (defBody s_is_told_point) (defScope s_is_told_point) .none kV20 dc20 pm20 an20 cd20 ct20), sl20⟩)
  (c20 : PySem.W.codeIn K cd20 "is_told_point" = true)
  (k20 : PySem.W.keepIn K (.ref f20) = true)
  (a21 : PySem.W.nsIn K mainGlobals "_law_point" = some (some (.ref f21)))
  (l21 : K.lookup f21 = some ⟨oc21, od21, .func (PySem.W.fnOf "_law_point" "_law_point" (defArgs s__law_point) (defBody s__law_point) (defScope s__law_point) .none kV21 dc21 pm21 an21 cd21 ct21), sl21⟩)
  (c21 : PySem.W.codeIn K cd21 "_law_point" = true)
  (k21 : PySem.W.keepIn K (.ref f21) = true)
  (a22 : PySem.W.nsIn K mainGlobals "_law_is_told" = some (some (.ref f22)))
  (l22 : K.lookup f22 = some ⟨oc22, od22, .func (PySem.W.fnOf "_law_is_told" "_law_is_told" (defArgs s__law_is_told) (defBody s__law_is_told) (defScope s__law_is_told) .none kV22 dc22 pm22 an22 cd22 ct22), sl22⟩)
  (c22 : PySem.W.codeIn K cd22 "_law_is_told" = true)
  (k22 : PySem.W.keepIn K (.ref f22) = true)
  (a23 : PySem.W.nsIn K mainGlobals "_law_pairs_right" = some (some (.ref f23)))
  (l23 : K.lookup f23 = some ⟨oc23, od23, .func (PySem.W.fnOf "_law_pairs_right" "_law_pairs_right" (defArgs s__law_pairs_right) (defBody s__law_pairs_right) (defScope s__law_pairs_right) .none kV23 dc23 pm23 an23 cd23 ct23), sl23⟩)
  (c23 : PySem.W.codeIn K cd23 "_law_pairs_right" = true)
  (k23 : PySem.W.keepIn K (.ref f23) = true)
  (a24 : PySem.W.nsIn K mainGlobals "_law_is_form" = some (some (.ref f24)))
  (l24 : K.lookup f24 = some ⟨oc24, od24, .func (PySem.W.fnOf "_law_is_form" "_law_is_form" (defArgs s__law_is_form) (defBody s__law_is_form) (defScope s__law_is_form) .none kV24 dc24 pm24 an24 cd24 ct24), sl24⟩)
  (c24 : PySem.W.codeIn K cd24 "_law_is_form" = true)
  (k24 : PySem.W.keepIn K (.ref f24) = true)
  (a25 : PySem.W.nsIn K mainGlobals "_law_is_point" = some (some (.ref f25)))
  (l25 : K.lookup f25 = some ⟨oc25, od25, .func (PySem.W.fnOf "_law_is_point" "_law_is_point" (defArgs s__law_is_point) (defBody s__law_is_point) (defScope s__law_is_point) .none kV25 dc25 pm25 an25 cd25 ct25), sl25⟩)
  (c25 : PySem.W.codeIn K cd25 "_law_is_point" = true)
  (k25 : PySem.W.keepIn K (.ref f25) = true)
  (a26 : PySem.W.nsIn K mainGlobals "_law_odd_value" = some (some (.ref f26)))
  (l26 : K.lookup f26 = some ⟨oc26, od26, .func (PySem.W.fnOf "_law_odd_value" "_law_odd_value" (defArgs s__law_odd_value) (defBody s__law_odd_value) (defScope s__law_odd_value) .none kV26 dc26 pm26 an26 cd26 ct26), sl26⟩)
  (c26 : PySem.W.codeIn K cd26 "_law_odd_value" = true)
  (k26 : PySem.W.keepIn K (.ref f26) = true)
  (a27 : PySem.W.nsIn K mainGlobals "_law_pair" = some (some (.ref f27)))
  (l27 : K.lookup f27 = some ⟨oc27, od27, .func (PySem.W.fnOf "_law_pair" "_law_pair" (defArgs s__law_pair) (defBody s__law_pair) (defScope s__law_pair) .none kV27 dc27 pm27 an27 cd27 ct27), sl27⟩)
  (c27 : PySem.W.codeIn K cd27 "_law_pair" = true)
  (k27 : PySem.W.keepIn K (.ref f27) = true)
  (a28 : PySem.W.nsIn K mainGlobals "_law_counts_right" = some (some (.ref f28)))
  (l28 : K.lookup f28 = some ⟨oc28, od28, .func (PySem.W.fnOf "_law_counts_right" "_law_counts_right" (defArgs s__law_counts_right) (defBody s__law_counts_right) (defScope s__law_counts_right) .none kV28 dc28 pm28 an28 cd28 ct28), sl28⟩)
  (c28 : PySem.W.codeIn K cd28 "_law_counts_right" = true)
  (k28 : PySem.W.keepIn K (.ref f28) = true)
  (a29 : PySem.W.nsIn K mainGlobals "_law_number" = some (some (.ref f29)))
  (l29 : K.lookup f29 = some ⟨oc29, od29, .func (PySem.W.fnOf "_law_number" "_law_number" (defArgs s__law_number) (defBody s__law_number) (defScope s__law_number) .none kV29 dc29 pm29 an29 cd29 ct29), sl29⟩)
  (c29 : PySem.W.codeIn K cd29 "_law_number" = true)
  (k29 : PySem.W.keepIn K (.ref f29) = true)
  (a30 : PySem.W.nsIn K mainGlobals "_law_forms_right" = some (some (.ref f30)))
  (l30 : K.lookup f30 = some ⟨oc30, od30, .func (PySem.W.fnOf "_law_forms_right" "_law_forms_right" (defArgs s__law_forms_right) (defBody s__law_forms_right) (defScope s__law_forms_right) .none kV30 dc30 pm30 an30 cd30 ct30), sl30⟩)
  (c30 : PySem.W.codeIn K cd30 "_law_forms_right" = true)
  (k30 : PySem.W.keepIn K (.ref f30) = true)
  (a31 : PySem.W.nsIn K mainGlobals "_law_points_right" = some (some (.ref f31)))
  (l31 : K.lookup f31 = some ⟨oc31, od31, .func (PySem.W.fnOf "_law_points_right" "_law_points_right" (defArgs s__law_points_right) (defBody s__law_points_right) (defScope s__law_points_right) .none kV31 dc31 pm31 an31 cd31 ct31), sl31⟩)
  (c31 : PySem.W.codeIn K cd31 "_law_points_right" = true)
  (k31 : PySem.W.keepIn K (.ref f31) = true)
  (a32 : PySem.W.nsIn K mainGlobals "law" = some (some (.ref f32)))
  (l32 : K.lookup f32 = some ⟨oc32, od32, .func (PySem.W.fnOf "law" "law" (defArgs s_law) (defBody s_law) (defScope s_law) .none kV32 dc32 pm32 an32 cd32 ct32), sl32⟩)
  (c32 : PySem.W.codeIn K cd32 "law" = true)
  (k32 : PySem.W.keepIn K (.ref f32) = true)
  (z_abs : PySem.W.nsIn K mainGlobals "abs" = some none)
  (z_all : PySem.W.nsIn K mainGlobals "all" = some none)
  (z_bool : PySem.W.nsIn K mainGlobals "bool" = some none)
  (z_int : PySem.W.nsIn K mainGlobals "int" = some none)
  (z_isinstance : PySem.W.nsIn K mainGlobals "isinstance" = some none)
  (z_len : PySem.W.nsIn K mainGlobals "len" = some none)
  (z_list : PySem.W.nsIn K mainGlobals "list" = some none)
  (z_range : PySem.W.nsIn K mainGlobals "range" = some none)
  (z_str : PySem.W.nsIn K mainGlobals "str" = some none)
  (z_tuple : PySem.W.nsIn K mainGlobals "tuple" = some none)
  (z_gcd : PySem.W.nsIn K mainGlobals "gcd" = some (some (.builtin "math.gcd")))
  (gg_BOUND : PySem.W.nsIn K mainGlobals "BOUND" = some (some (.int 1000000000 gt_BOUND)))
  (ea_BadNumber : PySem.W.nsIn K mainGlobals "BadNumber" = some (some (.ref C_BadNumber)))
  (eq_BadNumber : PySem.W.excIn K C_BadNumber [.type "ValueError", .type "Exception", .type "BaseException", .type "object"] "ValueError.__new__" = true)
  (ek_BadNumber : PySem.W.keepIn K (.ref C_BadNumber) = true)
  (es_BadNumber : PySem.W.subIn K (.ref C_BadNumber) (.type "BaseException") = some true)
  (et_BadNumber : PySem.W.typeIn K (.ref C_BadNumber) = some (.type "type"))
  (ei_BadNumber : PySem.W.isClsIn K C_BadNumber = true) : Txt K mg :=
  { d__law_gcd := def_at X G a0 l0 c0 k0 fun _ _ _ _ _ _ us hl => match us, hl with | [_, _], _ => rfl,
    d__law_draws := def_at X G a1 l1 c1 k1 fun _ _ _ _ _ _ us hl => match us, hl with | [_], _ => rfl,
    d__law_draw := def_at X G a2 l2 c2 k2 fun _ _ _ _ _ _ us hl => match us, hl with | [_, _], _ => rfl,
    d__law_near := def_at X G a3 l3 c3 k3 fun _ _ _ _ _ _ us hl => match us, hl with | [_, _], _ => rfl,
    d__law_low := def_at X G a4 l4 c4 k4 fun _ _ _ _ _ _ us hl => match us, hl with | [_], _ => rfl,
    d_ratio := def_at X G a5 l5 c5 k5 fun _ _ _ _ _ _ us hl => match us, hl with | [_, _], _ => rfl,
    d__law_ratio := def_at X G a6 l6 c6 k6 fun _ _ _ _ _ _ us hl => match us, hl with | [_, _], _ => rfl,
    d__law_same := def_at X G a7 l7 c7 k7 fun _ _ _ _ _ _ us hl => match us, hl with | [_, _], _ => rfl,
    d_is_whole := def_at X G a8 l8 c8 k8 fun _ _ _ _ _ _ us hl => match us, hl with | [_], _ => rfl,
    d__law_whole := def_at X G a9 l9 c9 k9 fun _ _ _ _ _ _ us hl => match us, hl with | [_], _ => rfl,
    d_is_count := def_at X G a10 l10 c10 k10 fun _ _ _ _ _ _ us hl => match us, hl with | [_, _, _], _ => rfl,
    d_is_ratio := def_at X G a11 l11 c11 k11 fun _ _ _ _ _ _ us hl => match us, hl with | [_], _ => rfl,
    d__law_is_ratio := def_at X G a12 l12 c12 k12 fun _ _ _ _ _ _ us hl => match us, hl with | [_], _ => rfl,
    d_is_told_ratio := def_at X G a13 l13 c13 k13 fun _ _ _ _ _ _ us hl => match us, hl with | [_], _ => rfl,
    d_is_positive := def_at X G a14 l14 c14 k14 fun _ _ _ _ _ _ us hl => match us, hl with | [_], _ => rfl,
    d_is_form := def_at X G a15 l15 c15 k15 fun _ _ _ _ _ _ us hl => match us, hl with | [_, _], _ => rfl,
    d_is_point := def_at X G a16 l16 c16 k16 fun _ _ _ _ _ _ us hl => match us, hl with | [_, _], _ => rfl,
    d_is_told_form := def_at X G a17 l17 c17 k17 fun _ _ _ _ _ _ us hl => match us, hl with | [_, _], _ => rfl,
    d_coords := def_at X G a18 l18 c18 k18 fun _ _ _ _ _ _ us hl => match us, hl with | [_], _ => rfl,
    d__law_coords := def_at X G a19 l19 c19 k19 fun _ _ _ _ _ _ us hl => match us, hl with | [_], _ => rfl,
    d_is_told_point := def_at X G a20 l20 c20 k20 fun _ _ _ _ _ _ us hl => match us, hl with | [_, _], _ => rfl,
    d__law_point := def_at X G a21 l21 c21 k21 fun _ _ _ _ _ _ us hl => match us, hl with | [_], _ => rfl,
    d__law_is_told := def_at X G a22 l22 c22 k22 fun _ _ _ _ _ _ us hl => match us, hl with | [_], _ => rfl,
    d__law_pairs_right := def_at X G a23 l23 c23 k23 fun _ _ _ _ _ _ us hl => match us, hl with | [_], _ => rfl,
    d__law_is_form := def_at X G a24 l24 c24 k24 fun _ _ _ _ _ _ us hl => match us, hl with | [_, _], _ => rfl,
    d__law_is_point := def_at X G a25 l25 c25 k25 fun _ _ _ _ _ _ us hl => match us, hl with | [_, _], _ => rfl,
    d__law_odd_value := def_at X G a26 l26 c26 k26 fun _ _ _ _ _ _ us hl => match us, hl with | [_], _ => rfl,
    d__law_pair := def_at X G a27 l27 c27 k27 fun _ _ _ _ _ _ us hl => match us, hl with | [_], _ => rfl,
    d__law_counts_right := def_at X G a28 l28 c28 k28 fun _ _ _ _ _ _ us hl => match us, hl with | [_], _ => rfl,
    d__law_number := def_at X G a29 l29 c29 k29 fun _ _ _ _ _ _ us hl => match us, hl with | [_], _ => rfl,
    d__law_forms_right := def_at X G a30 l30 c30 k30 fun _ _ _ _ _ _ us hl => match us, hl with | [_, _], _ => rfl,
    d__law_points_right := def_at X G a31 l31 c31 k31 fun _ _ _ _ _ _ us hl => match us, hl with | [_, _], _ => rfl,
    d_law := def_at X G a32 l32 c32 k32 fun _ _ _ _ _ _ us hl => match us, hl with | [_], _ => rfl,
    b_abs := PySem.W.mg_none_of X G z_abs,
    b_all := PySem.W.mg_none_of X G z_all,
    b_bool := PySem.W.mg_none_of X G z_bool,
    b_int := PySem.W.mg_none_of X G z_int,
    b_isinstance := PySem.W.mg_none_of X G z_isinstance,
    b_len := PySem.W.mg_none_of X G z_len,
    b_list := PySem.W.mg_none_of X G z_list,
    b_range := PySem.W.mg_none_of X G z_range,
    b_str := PySem.W.mg_none_of X G z_str,
    b_tuple := PySem.W.mg_none_of X G z_tuple,
    m_gcd := PySem.W.mg_of X G z_gcd,
    g_BOUND := globI (PySem.W.mg_of X G gg_BOUND),
    x_BadNumber := ⟨_, (⟨PySem.W.mg_of X G ea_BadNumber, eq_BadNumber, ek_BadNumber, es_BadNumber, et_BadNumber, ei_BadNumber⟩ : ExcAt K mg "BadNumber" C_BadNumber)⟩ }
theorem law_fn (T : Txt K mg) {fa : Addr} (hfa : mg "law" = some (.ref fa)) : ∃ fd : FuncData, (∀ (s : Shared) (v : Value), BindsTo s fd ⟨[v], []⟩ [("script", v)]) ∧ ∀ base : Heap, FnOk P w K mg base (L2.CX P w) 6 fa fd ["script"] (spLaw0 63 K) := by
  obtain ⟨f, fd, g, F, b⟩ := T.d_law.ex
  rw [hfa] at g; injection g with g; injection g with g; subst g
  refine ⟨fd, fun s v => ?_, fun base => law_imp (lawF T F)⟩
  obtain ⟨oc, od, kV, doc, pm, an, cdv, ct, osl, rfl, lk, hcd⟩ := F.ex
  exact .of_eq rfl
end Law
open PySem PySem.W PyProof.Rows
set_option maxHeartbeats 0 in
theorem PySem.Challenge.cw_lastchip_k40_what_may_be_handed_in_holds : PySem.Challenge.rw_lastchip_k40_what_may_be_handed_in.Holds := by
  w_on; o_law; k_head; (case hw => w_witness2)
  k_fill
  refine Dn.walk_mine (l := PySem.Challenge.rw_lastchip_k40_what_may_be_handed_in) (k := 6) (x := "script") rfl rfl ⟨rfl, by decide, by decide⟩ (fun w h Y => PySem.W.kIn_of Y) ?F
  case F =>
    intro w mg fa h KX G hmg
    refine' Dn.cutT (fun T => ?main) (Law.txt_of (mg := mg) KX G ?a0 ?l0 ?c0 ?k0 ?a1 ?l1 ?c1 ?k1 ?a2 ?l2 ?c2 ?k2 ?a3 ?l3 ?c3 ?k3 ?a4 ?l4 ?c4 ?k4 ?a5 ?l5 ?c5 ?k5 ?a6 ?l6 ?c6 ?k6 ?a7 ?l7 ?c7 ?k7 ?a8 ?l8 ?c8 ?k8 ?a9 ?l9 ?c9 ?k9 ?a10 ?l10 ?c10 ?k10 ?a11 ?l11 ?c11 ?k11 ?a12 ?l12 ?c12 ?k12 ?a13 ?l13 ?c13 ?k13 ?a14 ?l14 ?c14 ?k14 ?a15 ?l15 ?c15 ?k15 ?a16 ?l16 ?c16 ?k16 ?a17 ?l17 ?c17 ?k17 ?a18 ?l18 ?c18 ?k18 ?a19 ?l19 ?c19 ?k19 ?a20 ?l20 ?c20 ?k20 ?a21 ?l21 ?c21 ?k21 ?a22 ?l22 ?c22 ?k22 ?a23 ?l23 ?c23 ?k23 ?a24 ?l24 ?c24 ?k24 ?a25 ?l25 ?c25 ?k25 ?a26 ?l26 ?c26 ?k26 ?a27 ?l27 ?c27 ?k27 ?a28 ?l28 ?c28 ?k28 ?a29 ?l29 ?c29 ?k29 ?a30 ?l30 ?c30 ?k30 ?a31 ?l31 ?c31 ?k31 ?a32 ?l32 ?c32 ?k32 ?z_abs ?z_all ?z_bool ?z_int ?z_isinstance ?z_len ?z_list ?z_range ?z_str ?z_tuple ?z_gcd ?gg_BOUND ?ea_BadNumber ?eq_BadNumber ?ek_BadNumber ?es_BadNumber ?et_BadNumber ?ei_BadNumber)
    (case a0 => k_is)
    (case l0 => k_is)
    (case c0 => k_is)
    (case k0 => k_is)
    (case a1 => k_is)
    (case l1 => k_is)
    (case c1 => k_is)
    (case k1 => k_is)
    (case a2 => k_is)
    (case l2 => k_is)
    (case c2 => k_is)
    (case k2 => k_is)
    (case a3 => k_is)
    (case l3 => k_is)
    (case c3 => k_is)
    (case k3 => k_is)
    (case a4 => k_is)
    (case l4 => k_is)
    (case c4 => k_is)
    (case k4 => k_is)
    (case a5 => k_is)
    (case l5 => k_is)
    (case c5 => k_is)
    (case k5 => k_is)
    (case a6 => k_is)
    (case l6 => k_is)
    (case c6 => k_is)
    (case k6 => k_is)
    (case a7 => k_is)
    (case l7 => k_is)
    (case c7 => k_is)
    (case k7 => k_is)
    (case a8 => k_is)
    (case l8 => k_is)
    (case c8 => k_is)
    (case k8 => k_is)
    (case a9 => k_is)
    (case l9 => k_is)
    (case c9 => k_is)
    (case k9 => k_is)
    (case a10 => k_is)
    (case l10 => k_is)
    (case c10 => k_is)
    (case k10 => k_is)
    (case a11 => k_is)
    (case l11 => k_is)
    (case c11 => k_is)
    (case k11 => k_is)
    (case a12 => k_is)
    (case l12 => k_is)
    (case c12 => k_is)
    (case k12 => k_is)
    (case a13 => k_is)
    (case l13 => k_is)
    (case c13 => k_is)
    (case k13 => k_is)
    (case a14 => k_is)
    (case l14 => k_is)
    (case c14 => k_is)
    (case k14 => k_is)
    (case a15 => k_is)
    (case l15 => k_is)
    (case c15 => k_is)
    (case k15 => k_is)
    (case a16 => k_is)
    (case l16 => k_is)
    (case c16 => k_is)
    (case k16 => k_is)
    (case a17 => k_is)
    (case l17 => k_is)
    (case c17 => k_is)
    (case k17 => k_is)
    (case a18 => k_is)
    (case l18 => k_is)
    (case c18 => k_is)
    (case k18 => k_is)
    (case a19 => k_is)
    (case l19 => k_is)
    (case c19 => k_is)
    (case k19 => k_is)
    (case a20 => k_is)
    (case l20 => k_is)
    (case c20 => k_is)
    (case k20 => k_is)
    (case a21 => k_is)
    (case l21 => k_is)
    (case c21 => k_is)
    (case k21 => k_is)
    (case a22 => k_is)
    (case l22 => k_is)
    (case c22 => k_is)
    (case k22 => k_is)
    (case a23 => k_is)
    (case l23 => k_is)
    (case c23 => k_is)
    (case k23 => k_is)
    (case a24 => k_is)
    (case l24 => k_is)
    (case c24 => k_is)
    (case k24 => k_is)
    (case a25 => k_is)
    (case l25 => k_is)
    (case c25 => k_is)
    (case k25 => k_is)
    (case a26 => k_is)
    (case l26 => k_is)
    (case c26 => k_is)
    (case k26 => k_is)
    (case a27 => k_is)
    (case l27 => k_is)
    (case c27 => k_is)
    (case k27 => k_is)
    (case a28 => k_is)
    (case l28 => k_is)
    (case c28 => k_is)
    (case k28 => k_is)
    (case a29 => k_is)
    (case l29 => k_is)
    (case c29 => k_is)
    (case k29 => k_is)
    (case a30 => k_is)
    (case l30 => k_is)
    (case c30 => k_is)
    (case k30 => k_is)
    (case a31 => k_is)
    (case l31 => k_is)
    (case c31 => k_is)
    (case k31 => k_is)
    (case a32 => k_is)
    (case l32 => k_is)
    (case c32 => k_is)
    (case k32 => k_is)
    (case z_abs => k_is)
    (case z_all => k_is)
    (case z_bool => k_is)
    (case z_int => k_is)
    (case z_isinstance => k_is)
    (case z_len => k_is)
    (case z_list => k_is)
    (case z_range => k_is)
    (case z_str => k_is)
    (case z_tuple => k_is)
    (case z_gcd => k_is)
    (case gg_BOUND => k_is)
    (case ea_BadNumber => k_is)
    (case eq_BadNumber => k_exc)
    (case ek_BadNumber => k_is)
    (case es_BadNumber => k_is)
    (case et_BadNumber => k_is)
    (case ei_BadNumber => k_is)
    case main =>
      obtain ⟨fd, hb, hF⟩ := Law.law_fn (P := PySem.Challenge.rw_lastchip_k40_what_may_be_handed_in.prog) (w := w) T hmg
      exact ⟨fd, hb, hF⟩
