import PyProof.Rows.All
import Wide.All
import OpenK.AllK
import Wide.FinOn
import HandS.ForMost
import HandS.SortInts
import HandS.TupAny
import HandS.IsInst
import HandS.Wide
import HandS.Flow
import HandS.More
import HandS.Zip
import HandS.Style
import HandS.Conv
import KE.KTupSum
import KE.KDictDisplayH
import PySem.Challenge.RW_diespeech_k03_shares_by_hand
set_option Elab.async false
set_option linter.all false
set_option autoImplicit false
set_option maxRecDepth 100000
set_option maxHeartbeats 8000000
/-! Ml: a small functional reading of the program's Python over data without addresses (D), a store of mutable things (Sto);
    tE, tT, tA, tS turn a reading into one of the hand layer's. -/
namespace Ml
open PySem L2

inductive D where
  | non | bl (b : Bool) | int (i : Int) | str (x : Str) | tup (ds : List D) | ref (i : Nat) | ro (ds : List D)
inductive Ob where
  | ro (ds : List D) | lst (ds : List D) | dK (lk : Bool) (kvs : List (Key × D)) | dT (lk : Bool) (kvs : List (List Key × D))
abbrev Ev := List (Option D)
abbrev Sto := List Ob
inductive Rs (α : Type) where
  | bad | ok (a : α) (st : Sto) | exc (c : Str) (ev : Ev) (st : Sto)
abbrev Mo (α : Type) := Ev → Sto → Rs α
def Rs.bind {α β : Type} (r : Rs α) (f : α → Sto → Rs β) : Rs β := match r with
  | .bad => .bad
  | .ok a st => f a st
  | .exc c e s => .exc c e s
@[simp] theorem Rs.bind_ok {α β : Type} (a : α) (st : Sto) (f : α → Sto → Rs β) : (Rs.ok a st).bind f = f a st := rfl
@[simp] theorem Rs.bind_bad {α β : Type} (f : α → Sto → Rs β) : (Rs.bad : Rs α).bind f = .bad := rfl
@[simp] theorem Rs.bind_exc {α β : Type} (c : Str) (e : Ev) (s : Sto) (f : α → Sto → Rs β) : (Rs.exc c e s : Rs α).bind f = .exc c e s := rfl

/-! ### what stands for what -/
def TupAt (K : PySem.W.Frag) (H : Hp) (a : Addr) (vs : List V) : Prop :=
  H a = some (.tup vs) ∨ ((∃ x, V.str x ∈ vs) ∧ ∃ (o : Obj) (its : Array Value) (n : Nat), K.lookup a = some o ∧ o.cls = .type "tuple" ∧ o.data = .seq its n ∧ its.size ≤ sizeLine ∧ Vals vs its.toList)
theorem TupAt.sq {K : PySem.W.Frag} {H : Hp} {a : Addr} {vs : List V} (h : TupAt K H a vs) : SqT K H a vs := h.imp (fun q => .inl q) (·.2)
/-- a list that nobody changes (the script) -/
def RoAt (K : PySem.W.Frag) (H : Hp) (mu : List Addr) (a : Addr) (vs : List V) : Prop :=
  (∃ o, H a = some (.frz o (.lst vs)) ∧ a ∉ mu) ∨ ∃ (o : Obj) (its : Array Value) (n : Nat), K.lookup a = some o ∧ o.cls = .type "list" ∧ o.dict = none ∧ o.data = .seq its n ∧ its.size ≤ sizeLine ∧ Vals vs its.toList
theorem RoAt.sq {K : PySem.W.Frag} {H : Hp} {mu : List Addr} {a : Addr} {vs : List V} (h : RoAt K H mu a vs) : SqL K H a vs := h.imp (fun ⟨o, q, _⟩ => .inr ⟨o, q⟩) id
mutual
inductive Rp (K : PySem.W.Frag) (H : Hp) (mu : List Addr) : V → D → Prop
  | non : Rp K H mu .non .non
  | bl (b : Bool) : Rp K H mu (.bl b) (.bl b)
  | int (i : Int) : Rp K H mu (.int i) (.int i)
  | str (x : Str) : Rp K H mu (.str x) (.str x)
  | tup {a : Addr} {vs : List V} {ds : List D} (h : TupAt K H a vs) (hs : Rps K H mu vs ds) : Rp K H mu (.ref a) (.tup ds)
  | ref {i : Nat} {a : Addr} (h : mu[i]? = some a) : Rp K H mu (.ref a) (.ref i)
  | ro {a : Addr} {vs : List V} {ds : List D} (h : RoAt K H mu a vs) (hs : Rps K H mu vs ds) : Rp K H mu (.ref a) (.ro ds)
inductive Rps (K : PySem.W.Frag) (H : Hp) (mu : List Addr) : List V → List D → Prop
  | nil : Rps K H mu [] []
  | cons {v : V} {d : D} {vs : List V} {ds : List D} (h : Rp K H mu v d) (hs : Rps K H mu vs ds) : Rps K H mu (v :: vs) (d :: ds)
end
/-- from (mu, H) on: new things may have come, the store's own things may have changed, all else stands -/
structure Ext (mu : List Addr) (H : Hp) (mu' : List Addr) (H' : Hp) : Prop where
  pre : ∃ r, mu' = mu ++ r
  tup : ∀ a vs, H a = some (.tup vs) → H' a = some (.tup vs)
  keep : ∀ a o, H a = some o → a ∉ mu → H' a = some o ∧ a ∉ mu'
  dom : ∀ a, H' a = none → H a = none
  frz : ∀ a o u, H a = some (.frz o u) → H' a = some (.frz o u)
theorem Ext.refl {mu : List Addr} {H : Hp} : Ext mu H mu H := ⟨⟨[], by simp⟩, fun _ _ h => h, fun _ _ h n => ⟨h, n⟩, fun _ h => h, fun _ _ _ h => h⟩
theorem upd_dom {H : Hp} {p : Addr} {o : HO} (a : Addr) (h : upd H p o a = none) : H a = none := by
  unfold upd at h
  split at h
  · cases h
  · exact h
theorem Ext.trans {mu mu1 mu2 : List Addr} {H H1 H2 : Hp} (a : Ext mu H mu1 H1) (b : Ext mu1 H1 mu2 H2) : Ext mu H mu2 H2 := by
  obtain ⟨r, e⟩ := a.pre
  obtain ⟨r', e'⟩ := b.pre
  refine ⟨⟨r ++ r', by rw [e', e, List.append_assoc]⟩, fun c vs h => b.tup c vs (a.tup c vs h), fun c o h n => ?_, fun c h => a.dom c (b.dom c h), fun c o u h => b.frz c o u (a.frz c o u h)⟩
  obtain ⟨h1, n1⟩ := a.keep c o h n
  exact b.keep c o h1 n1
structure Ext0 (mu : List Addr) (H : Hp) (mu' : List Addr) (H' : Hp) : Prop where
  pre : ∃ r, mu' = mu ++ r
  tup : ∀ a vs, H a = some (.tup vs) → H' a = some (.tup vs)
  ro : ∀ a o vs, H a = some (.frz o (.lst vs)) → a ∉ mu → H' a = some (.frz o (.lst vs)) ∧ a ∉ mu'
theorem Ext.e0 {mu mu' : List Addr} {H H' : Hp} (e : Ext mu H mu' H') : Ext0 mu H mu' H' := ⟨e.pre, e.tup, fun a o vs h n => e.keep a _ h n⟩
theorem Ext0.roAt {K : PySem.W.Frag} {mu mu' : List Addr} {H H' : Hp} (e : Ext0 mu H mu' H') {a : Addr} {vs : List V} (h : RoAt K H mu a vs) : RoAt K H' mu' a vs := h.imp (fun ⟨o, h, n⟩ => ⟨o, e.ro a o vs h n⟩) id
theorem Ext0.at {mu mu' : List Addr} {H H' : Hp} (e : Ext0 mu H mu' H') {i : Nat} {a : Addr} (h : mu[i]? = some a) : mu'[i]? = some a := by
  obtain ⟨r, q⟩ := e.pre
  rw [q, List.getElem?_append_left (List.getElem?_eq_some_iff.mp h).1]
  exact h
theorem Ext.at {mu mu' : List Addr} {H H' : Hp} (e : Ext mu H mu' H') {i : Nat} {a : Addr} (h : mu[i]? = some a) : mu'[i]? = some a := e.e0.at h
theorem Ext0.tupAt {K : PySem.W.Frag} {mu mu' : List Addr} {H H' : Hp} (e : Ext0 mu H mu' H') {a : Addr} {vs : List V} (h : TupAt K H a vs) : TupAt K H' a vs := h.imp (e.tup a vs) id
theorem Ext.tupAt {K : PySem.W.Frag} {mu mu' : List Addr} {H H' : Hp} (e : Ext mu H mu' H') {a : Addr} {vs : List V} (h : TupAt K H a vs) : TupAt K H' a vs := e.e0.tupAt h
mutual
theorem Rp.mono0 {K : PySem.W.Frag} {mu mu' : List Addr} {H H' : Hp} (e : Ext0 mu H mu' H') : ∀ {v : V} {d : D}, Rp K H mu v d → Rp K H' mu' v d
  | _, _, .non => .non
  | _, _, .bl b => .bl b
  | _, _, .int i => .int i
  | _, _, .str x => .str x
  | _, _, .tup h hs => .tup (e.tupAt h) (Rps.mono0 e hs)
  | _, _, .ref h => .ref (e.at h)
  | _, _, .ro h hs => .ro (e.roAt h) (Rps.mono0 e hs)
theorem Rps.mono0 {K : PySem.W.Frag} {mu mu' : List Addr} {H H' : Hp} (e : Ext0 mu H mu' H') : ∀ {vs : List V} {ds : List D}, Rps K H mu vs ds → Rps K H' mu' vs ds
  | _, _, .nil => .nil
  | _, _, .cons h hs => .cons (Rp.mono0 e h) (Rps.mono0 e hs)
end
theorem Rp.mono {K : PySem.W.Frag} {mu mu' : List Addr} {H H' : Hp} (e : Ext mu H mu' H') {v : V} {d : D} (h : Rp K H mu v d) : Rp K H' mu' v d := h.mono0 e.e0
theorem Rps.mono {K : PySem.W.Frag} {mu mu' : List Addr} {H H' : Hp} (e : Ext mu H mu' H') {vs : List V} {ds : List D} (h : Rps K H mu vs ds) : Rps K H' mu' vs ds := h.mono0 e.e0
theorem Rps.length {K : PySem.W.Frag} {H : Hp} {mu : List Addr} : ∀ {vs : List V} {ds : List D}, Rps K H mu vs ds → vs.length = ds.length
  | _, _, .nil => rfl
  | _, _, .cons _ hs => by simp [Rps.length hs]
theorem Rps.get {K : PySem.W.Frag} {H : Hp} {mu : List Addr} : ∀ {vs : List V} {ds : List D} {i : Nat} {d : D}, Rps K H mu vs ds → ds[i]? = some d → ∃ v, vs[i]? = some v ∧ Rp K H mu v d
  | _, _, i, _, .nil, e => by simp at e
  | _, _, 0, _, .cons h _, e => by simp at e; subst e; exact ⟨_, by simp, h⟩
  | _, _, i + 1, _, .cons _ hs, e => by
    obtain ⟨v, h1, h2⟩ := Rps.get (i := i) hs (by simpa using e)
    exact ⟨v, by simpa using h1, h2⟩
theorem Rps.getV {K : PySem.W.Frag} {H : Hp} {mu : List Addr} : ∀ {vs : List V} {ds : List D} {i : Nat} {v : V}, Rps K H mu vs ds → vs[i]? = some v → ∃ d, ds[i]? = some d ∧ Rp K H mu v d
  | _, _, i, _, .nil, e => by simp at e
  | _, _, 0, _, .cons h _, e => by simp at e; subst e; exact ⟨_, by simp, h⟩
  | _, _, i + 1, _, .cons _ hs, e => by
    obtain ⟨v, h1, h2⟩ := Rps.getV (i := i) hs (by simpa using e)
    exact ⟨v, by simpa using h1, h2⟩
theorem Rps.append {K : PySem.W.Frag} {H : Hp} {mu : List Addr} : ∀ {vs ws : List V} {ds es : List D}, Rps K H mu vs ds → Rps K H mu ws es → Rps K H mu (vs ++ ws) (ds ++ es)
  | _, _, _, _, .nil, h => h
  | _, _, _, _, .cons h hs, q => .cons h (Rps.append hs q)
theorem Rps.take {K : PySem.W.Frag} {H : Hp} {mu : List Addr} : ∀ {vs : List V} {ds : List D} (n : Nat), Rps K H mu vs ds → Rps K H mu (vs.take n) (ds.take n)
  | _, _, 0, _ => .nil
  | _, _, _ + 1, .nil => .nil
  | _, _, n + 1, .cons h hs => .cons h (Rps.take n hs)
theorem Rps.drop {K : PySem.W.Frag} {H : Hp} {mu : List Addr} : ∀ {vs : List V} {ds : List D} (n : Nat), Rps K H mu vs ds → Rps K H mu (vs.drop n) (ds.drop n)
  | _, _, 0, h => h
  | _, _, _ + 1, .nil => .nil
  | _, _, n + 1, .cons _ hs => Rps.drop n hs
theorem Rps.set {K : PySem.W.Frag} {H : Hp} {mu : List Addr} {v : V} {d : D} (q : Rp K H mu v d) : ∀ {vs : List V} {ds : List D} (n : Nat), Rps K H mu vs ds → Rps K H mu (vs.set n v) (ds.set n d)
  | _, _, _, .nil => .nil
  | _, _, 0, .cons _ hs => .cons q hs
  | _, _, n + 1, .cons h hs => .cons h (Rps.set q n hs)
theorem Rps.reverse {K : PySem.W.Frag} {H : Hp} {mu : List Addr} : ∀ {vs : List V} {ds : List D}, Rps K H mu vs ds → Rps K H mu vs.reverse ds.reverse
  | _, _, .nil => .nil
  | _, _, .cons h hs => by
    rw [List.reverse_cons, List.reverse_cons]
    exact (Rps.reverse hs).append (.cons h .nil)
/-- pairs of a dict -/
def KD {κ : Type} (K : PySem.W.Frag) (H : Hp) (mu : List Addr) : List (κ × V) → List (κ × D) → Prop := Paired fun p q => p.1 = q.1 ∧ Rp K H mu p.2 q.2
theorem KD.mono0 {κ : Type} {K : PySem.W.Frag} {mu mu' : List Addr} {H H' : Hp} (e : Ext0 mu H mu' H') {ps : List (κ × V)} {qs : List (κ × D)} (h : KD K H mu ps qs) : KD K H' mu' ps qs :=
  Paired.mapP h fun _ _ ⟨a, b⟩ => ⟨a, b.mono0 e⟩
theorem KD.mono {κ : Type} {K : PySem.W.Frag} {mu mu' : List Addr} {H H' : Hp} (e : Ext mu H mu' H') {ps : List (κ × V)} {qs : List (κ × D)} (h : KD K H mu ps qs) : KD K H' mu' ps qs := h.mono0 e.e0
/-- one thing of the store -/
def ObOk (K : PySem.W.Frag) (H : Hp) (mu : List Addr) (a : Addr) : Ob → Prop
  | .ro ds => ∃ o vs, H a = some (.frz o (.lst vs)) ∧ Rps K H mu vs ds
  | .lst ds => ∃ vs, H a = some (.lst vs) ∧ Rps K H mu vs ds
  | .dK true kvs => ∃ o ws, H a = some (.frz o (.dK ws)) ∧ KD K H mu ws kvs
  | .dK false kvs => ∃ ws, H a = some (.dK ws) ∧ KD K H mu ws kvs
  | .dT true kvs => ∃ o ws, H a = some (.frz o (.dT ws)) ∧ KD K H mu ws kvs
  | .dT false kvs => ∃ ws, H a = some (.dT ws) ∧ KD K H mu ws kvs
theorem ObOk.some {K : PySem.W.Frag} {H : Hp} {mu : List Addr} {a : Addr} {o : Ob} (h : ObOk K H mu a o) : ∃ u, H a = some u ∧ ∀ vs, u ≠ .tup vs := by
  cases o with
  | ro ds =>
    obtain ⟨o, vs, h, _⟩ := h
    exact ⟨_, h, fun _ z => by cases z⟩
  | lst ds => obtain ⟨vs, h, _⟩ := h; exact ⟨_, h, fun _ z => by cases z⟩
  | dK lk kvs => cases lk with
    | true => obtain ⟨o, ws, h, _⟩ := h; exact ⟨_, h, fun _ z => by cases z⟩
    | false => obtain ⟨ws, h, _⟩ := h; exact ⟨_, h, fun _ z => by cases z⟩
  | dT lk kvs => cases lk with
    | true => obtain ⟨o, ws, h, _⟩ := h; exact ⟨_, h, fun _ z => by cases z⟩
    | false => obtain ⟨ws, h, _⟩ := h; exact ⟨_, h, fun _ z => by cases z⟩
/-- its own object stands, the rest by Ext -/
theorem ObOk.mono0 {K : PySem.W.Frag} {mu mu' : List Addr} {H H' : Hp} (e : Ext0 mu H mu' H') {a : Addr} (ha : H' a = H a) {o : Ob} (h : ObOk K H mu a o) : ObOk K H' mu' a o := by
  cases o with
  | ro ds =>
    obtain ⟨o, vs, h, r⟩ := h
    exact ⟨o, vs, ha.trans h, r.mono0 e⟩
  | lst ds => obtain ⟨vs, h, r⟩ := h; exact ⟨vs, ha.trans h, r.mono0 e⟩
  | dK lk kvs => cases lk with
    | true => obtain ⟨o, ws, h, r⟩ := h; exact ⟨o, ws, ha.trans h, r.mono0 e⟩
    | false => obtain ⟨ws, h, r⟩ := h; exact ⟨ws, ha.trans h, r.mono0 e⟩
  | dT lk kvs => cases lk with
    | true => obtain ⟨o, ws, h, r⟩ := h; exact ⟨o, ws, ha.trans h, r.mono0 e⟩
    | false => obtain ⟨ws, h, r⟩ := h; exact ⟨ws, ha.trans h, r.mono0 e⟩
theorem ObOk.mono {K : PySem.W.Frag} {mu mu' : List Addr} {H H' : Hp} (e : Ext mu H mu' H') {a : Addr} (ha : H' a = H a) {o : Ob} (h : ObOk K H mu a o) : ObOk K H' mu' a o := h.mono0 e.e0 ha
structure RelSt (K : PySem.W.Frag) (H : Hp) (mu : List Addr) (st : Sto) : Prop where
  len : mu.length = st.length
  nd : mu.Nodup
  ob : ∀ (i : Nat) (a : Addr) (o : Ob), mu[i]? = some a → st[i]? = some o → ObOk K H mu a o
theorem RelSt.at {K : PySem.W.Frag} {H : Hp} {mu : List Addr} {st : Sto} (r : RelSt K H mu st) {i : Nat} {a : Addr} (h : mu[i]? = some a) : ∃ o, st[i]? = some o ∧ ObOk K H mu a o := by
  have hi : i < st.length := by rw [← r.len]; exact (List.getElem?_eq_some_iff.mp h).1
  exact ⟨st[i], List.getElem?_eq_getElem hi, r.ob i a _ h (List.getElem?_eq_getElem hi)⟩
theorem RelSt.notup {K : PySem.W.Frag} {H : Hp} {mu : List Addr} {st : Sto} (r : RelSt K H mu st) {a : Addr} (h : a ∈ mu) : ∃ u, H a = some u ∧ ∀ vs, u ≠ .tup vs := by
  obtain ⟨i, hi⟩ := List.getElem?_of_mem h
  obtain ⟨o, _, ok⟩ := r.at hi
  exact ok.some
theorem nodup_at {mu : List Addr} (hN : mu.Nodup) {i j : Nat} {x : Addr} (a : mu[i]? = some x) (b : mu[j]? = some x) : i = j := by
  obtain ⟨h1, e1⟩ := List.getElem?_eq_some_iff.mp a
  obtain ⟨h2, e2⟩ := List.getElem?_eq_some_iff.mp b
  exact (List.getElem_inj hN).mp (e1.trans e2.symm)
/-- a new thing that is not the store's -/
theorem ext_new {mu : List Addr} {H : Hp} {p : Addr} (hp : H p = none) (o : HO) : Ext mu H mu (upd H p o) :=
  ⟨⟨[], by simp⟩, fun a vs h => by rw [upd_ne (ne_of_none h hp)]; exact h, fun a u h n => ⟨by rw [upd_ne (ne_of_none h hp)]; exact h, n⟩, upd_dom, fun a o u h => by rw [upd_ne (ne_of_none h hp)]; exact h⟩
theorem RelSt.new {K : PySem.W.Frag} {H : Hp} {mu : List Addr} {st : Sto} (r : RelSt K H mu st) {p : Addr} (hp : H p = none) (o : HO) : RelSt K (upd H p o) mu st :=
  ⟨r.len, r.nd, fun i a ob h1 h2 => by
    have k := r.ob i a ob h1 h2
    obtain ⟨u, hu, _⟩ := k.some
    exact k.mono (ext_new hp o) (upd_ne (ne_of_none hu hp))⟩
/-- a thing that stands becomes the store's -/
theorem ext_push {mu : List Addr} {H : Hp} {p : Addr} (hp : H p = none) (o : HO) : Ext mu H (mu ++ [p]) (upd H p o) :=
  ⟨⟨[p], rfl⟩, fun a vs h => by rw [upd_ne (ne_of_none h hp)]; exact h, fun a u h n => ⟨by rw [upd_ne (ne_of_none h hp)]; exact h, by simp only [List.mem_append, List.mem_singleton, not_or]; exact ⟨n, ne_of_none h hp⟩⟩, upd_dom, fun a o u h => by rw [upd_ne (ne_of_none h hp)]; exact h⟩
theorem RelSt.fresh {K : PySem.W.Frag} {H : Hp} {mu : List Addr} {st : Sto} (r : RelSt K H mu st) {p : Addr} (hp : H p = none) : p ∉ mu := fun h => by
  obtain ⟨u, hu, _⟩ := r.notup h
  rw [hp] at hu; cases hu
theorem RelSt.push {K : PySem.W.Frag} {H : Hp} {mu : List Addr} {st : Sto} (r : RelSt K H mu st) {p : Addr} (hp : H p = none) {o : HO} {ob : Ob} (h : ObOk K (upd H p o) (mu ++ [p]) p ob) : RelSt K (upd H p o) (mu ++ [p]) (st ++ [ob]) := by
  refine ⟨by simp [r.len], ?_, fun i a u h1 h2 => ?_⟩
  · rw [List.nodup_append]
    refine ⟨r.nd, by simp, fun a ha b hb => ?_⟩
    simp only [List.mem_singleton] at hb
    subst hb
    intro e; subst e
    exact r.fresh hp ha
  · by_cases hi : i < mu.length
    · rw [List.getElem?_append_left hi] at h1
      rw [List.getElem?_append_left (by rw [← r.len]; exact hi)] at h2
      have k := r.ob i a u h1 h2
      obtain ⟨w, hw, _⟩ := k.some
      exact k.mono (ext_push hp o) (upd_ne (ne_of_none hw hp))
    · have hl := (List.getElem?_eq_some_iff.mp h1).1
      simp at hl
      have e : i = mu.length := by omega
      subst e
      rw [List.getElem?_append_right (Nat.le_refl _)] at h1
      rw [r.len, List.getElem?_append_right (Nat.le_refl _)] at h2
      simp at h1 h2
      subst h1; subst h2
      exact h
/-- an untracked (temporary) thing that stands becomes the store's -/
theorem ext_adopt {mu mu1 : List Addr} {H H' : Hp} {p : Addr} (e : Ext mu H mu1 H') (hp : H p = none) : Ext mu H (mu1 ++ [p]) H' := by
  obtain ⟨r, er⟩ := e.pre
  exact ⟨⟨r ++ [p], by rw [er, List.append_assoc]⟩, e.tup, fun a u h n => ⟨(e.keep a u h n).1, by simp only [List.mem_append, List.mem_singleton, not_or]; exact ⟨(e.keep a u h n).2, ne_of_none h hp⟩⟩, e.dom, e.frz⟩
/-- a thing of the store changes -/
theorem ext_write {K : PySem.W.Frag} {H : Hp} {mu : List Addr} {st : Sto} (r : RelSt K H mu st) {p : Addr} (hp : p ∈ mu) (hf : ∀ ob w, H p ≠ some (.frz ob w)) (o : HO) : Ext mu H mu (upd H p o) := by
  obtain ⟨u, hu, nt⟩ := r.notup hp
  exact ⟨⟨[], by simp⟩, fun a vs h => by
      rw [upd_ne]; exact h
      intro e; subst e; rw [h] at hu; cases hu; exact nt _ rfl,
    fun a w h n => ⟨by rw [upd_ne]; exact h; intro e; subst e; exact n hp, n⟩, upd_dom, fun a ob w h => by rw [upd_ne]; exact h; intro e; subst e; exact hf _ _ h⟩
theorem RelSt.write {K : PySem.W.Frag} {H : Hp} {mu : List Addr} {st : Sto} (r : RelSt K H mu st) {i : Nat} {p : Addr} (hi : mu[i]? = some p) {o : HO} {ob : Ob} (h : ObOk K (upd H p o) mu p ob) : RelSt K (upd H p o) mu (st.set i ob) := by
  have e0 : Ext0 mu H mu (upd H p o) := by
    obtain ⟨u, hu, nt⟩ := r.notup (List.mem_of_getElem? hi)
    exact ⟨⟨[], by simp⟩, fun a vs h' => by
      rw [upd_ne]; exact h'
      intro e; subst e; rw [h'] at hu; cases hu; exact nt _ rfl,
      fun a ob vs h' n => ⟨by rw [upd_ne]; exact h'; intro e; subst e; exact n (List.mem_of_getElem? hi), n⟩⟩
  refine ⟨by simp [r.len], r.nd, fun j a u h1 h2 => ?_⟩
  by_cases hj : j = i
  · subst hj
    rw [hi] at h1; cases h1
    rw [List.getElem?_set_self (by rw [← r.len]; exact (List.getElem?_eq_some_iff.mp hi).1)] at h2
    cases h2
    exact h
  · rw [List.getElem?_set_ne (Ne.symm hj)] at h2
    refine (r.ob j a u h1 h2).mono0 e0 (upd_ne ?_)
    intro e; subst e
    exact hj (nodup_at r.nd h1 hi)
/-- the frame's slots -/
def RelEv (K : PySem.W.Frag) (H : Hp) (mu : List Addr) (σ : L2.St) (ev : Ev) : Prop := σ.length = ev.length ∧ ∀ (i : Nat) (d : D), ev[i]? = some (some d) → ∃ v, σ[i]? = some (some v) ∧ Rp K H mu v d
theorem RelEv.mono {K : PySem.W.Frag} {mu mu' : List Addr} {H H' : Hp} {σ : L2.St} {ev : Ev} (r : RelEv K H mu σ ev) (e : Ext mu H mu' H') : RelEv K H' mu' σ ev :=
  ⟨r.1, fun i d h => let ⟨v, a, b⟩ := r.2 i d h; ⟨v, a, b.mono e⟩⟩
theorem RelEv.set {K : PySem.W.Frag} {mu : List Addr} {H : Hp} {σ : L2.St} {ev : Ev} (r : RelEv K H mu σ ev) {v : V} {d : D} (h : Rp K H mu v d) (i : Nat) : RelEv K H mu (σ.set i (some v)) (ev.set i (some d)) := by
  refine ⟨by simp [r.1], fun j e q => ?_⟩
  by_cases hj : i = j
  · subst hj
    have hl : i < ev.length := by
      have := (List.getElem?_eq_some_iff.mp q).1
      simpa using this
    rw [List.getElem?_set_self hl] at q
    cases q
    exact ⟨v, List.getElem?_set_self (by rw [r.1]; exact hl), h⟩
  · rw [List.getElem?_set_ne hj] at q ⊢
    exact r.2 j e q

/-! ### readings -/
abbrev Wx := Str → L2.St → Hp → Prop
/-- how what an expression gives stands for what its reading gives; H: where it began -/
structure RR (ξ α : Type) where
  r : Hp → Hp → List Addr → Sto → ξ → α → Prop
  anti : ∀ {mu mu1 mu2 : List Addr} {H H1 H2 : Hp} {st : Sto} {x : ξ} {a : α}, Ext mu H mu1 H1 → r H1 H2 mu2 st x a → r H H2 mu2 st x a
def Post {ξ α : Type} (K : PySem.W.Frag) (W : Wx) (R : RR ξ α) (mu : List Addr) (H : Hp) (r : Rs α) (Q : ξ → Hp → Prop) : Prop := match r with
  | .bad => False
  | .ok a st' => ∀ mu' x H', Ext mu H mu' H' → R.r H H' mu' st' x a → RelSt K H' mu' st' → Q x H'
  | .exc c ev' st' => ∀ mu' σ' H', Ext mu H mu' H' → RelEv K H' mu' σ' ev' → RelSt K H' mu' st' → W c σ' H'
theorem Post.from {ξ α : Type} {K : PySem.W.Frag} {W : Wx} {R : RR ξ α} {mu mu1 : List Addr} {H H1 : Hp} {r : Rs α} {Q : ξ → Hp → Prop} (h : Post K W R mu H r Q) (e : Ext mu H mu1 H1) : Post K W R mu1 H1 r Q := by
  cases r with
  | bad => exact h
  | ok a st => exact fun mu' x H' e' q => h mu' x H' (e.trans e') (R.anti e q)
  | exc c ev st => exact fun mu' σ' H' e' => h mu' σ' H' (e.trans e')
theorem Post.bind {ξ ζ α β : Type} {K : PySem.W.Frag} {W : Wx} {R : RR ξ α} {S : RR ζ β} {mu : List Addr} {H : Hp} {r : Rs α} {f : α → Sto → Rs β} {Q : ζ → Hp → Prop} {Q1 : ξ → Hp → Prop}
    (h : Post K W S mu H (r.bind f) Q)
    (k : ∀ a st1 mu1 x H1, r = .ok a st1 → Ext mu H mu1 H1 → R.r H H1 mu1 st1 x a → RelSt K H1 mu1 st1 → Post K W S mu1 H1 (f a st1) Q → Q1 x H1) : Post K W R mu H r Q1 := by
  cases r with
  | bad => exact h
  | ok a st => exact fun mu1 x H1 e r1 s1 => k a st mu1 x H1 rfl e r1 s1 (Post.from h e)
  | exc c ev st => exact h
def tG {ξ α : Type} (K : PySem.W.Frag) (W : Wx) (R : RR ξ α) (m : Mo α) : L2.St → Hp → (ξ → Hp → Prop) → Prop := fun σ H Q =>
  ∃ mu ev st, RelEv K H mu σ ev ∧ RelSt K H mu st ∧ Post K W R mu H (m ev st) Q
def RE (K : PySem.W.Frag) : RR V D := ⟨fun _ H mu _ v d => Rp K H mu v d, fun _ h => h⟩
def RB : RR Bool Bool := ⟨fun _ _ _ _ v d => v = d, fun _ h => h⟩
def RA (K : PySem.W.Frag) : RR (List V) (List D) := ⟨fun _ H mu _ v d => Rps K H mu v d, fun _ h => h⟩
/-- a new list that nobody holds yet -/
def RL (K : PySem.W.Frag) : RR V (List D) := ⟨fun H0 H mu _ v ds => ∃ p vs, v = .ref p ∧ H0 p = none ∧ H p = some (.lst vs) ∧ p ∉ mu ∧ Rps K H mu vs ds, fun e ⟨p, vs, a, b, c⟩ => ⟨p, vs, a, e.dom p b, c⟩⟩
abbrev tE (K : PySem.W.Frag) (W : Wx) (m : Mo D) : TE := tG K W (RE K) m
abbrev tT (K : PySem.W.Frag) (W : Wx) (m : Mo Bool) : TT := tG K W RB m
abbrev tA (K : PySem.W.Frag) (W : Wx) (m : Mo (List D)) : TA := tG K W (RA K) m
abbrev tL (K : PySem.W.Frag) (W : Wx) (m : Mo (List D)) : TE := tG K W (RL K) m
inductive Fl where
  | nx | rt (d : D) | bk | ct
abbrev Ms := Ev → Sto → Rs (Fl × Ev)
def PostS (K : PySem.W.Frag) (W : Wx) (mu : List Addr) (H : Hp) (r : Rs (Fl × Ev)) (D : Ends) : Prop := match r with
  | .bad => False
  | .ok (fl, ev') st' => ∀ mu' σ' H', Ext mu H mu' H' → RelEv K H' mu' σ' ev' → RelSt K H' mu' st' → (match fl with
    | .nx => D.nx σ' H'
    | .bk => D.bk σ' H'
    | .ct => D.ct σ' H'
    | .rt d => ∀ v, Rp K H' mu' v d → D.rt v H')
  | .exc c ev' st' => ∀ mu' σ' H', Ext mu H mu' H' → RelEv K H' mu' σ' ev' → RelSt K H' mu' st' → W c σ' H'
theorem PostS.from {K : PySem.W.Frag} {W : Wx} {mu mu1 : List Addr} {H H1 : Hp} {r : Rs (Fl × Ev)} {D : Ends} (h : PostS K W mu H r D) (e : Ext mu H mu1 H1) : PostS K W mu1 H1 r D := by
  cases r with
  | bad => exact h
  | ok a st => exact fun mu' x H' e' => h mu' x H' (e.trans e')
  | exc c ev st => exact fun mu' σ' H' e' => h mu' σ' H' (e.trans e')
def tS (K : PySem.W.Frag) (W : Wx) (m : Ms) : TS := fun D σ H => ∃ mu ev st, RelEv K H mu σ ev ∧ RelSt K H mu st ∧ PostS K W mu H (m ev st) D
/-- an expression first, then the rest of a statement -/
theorem PostS.bind {ξ α : Type} {K : PySem.W.Frag} {W : Wx} {R : RR ξ α} {mu : List Addr} {H : Hp} {r : Rs α} {f : α → Sto → Rs (Fl × Ev)} {D : Ends} {Q1 : ξ → Hp → Prop}
    (h : PostS K W mu H (r.bind f) D)
    (k : ∀ a st1 mu1 x H1, r = .ok a st1 → Ext mu H mu1 H1 → R.r H H1 mu1 st1 x a → RelSt K H1 mu1 st1 → PostS K W mu1 H1 (f a st1) D → Q1 x H1) : Post K W R mu H r Q1 := by
  cases r with
  | bad => exact h
  | ok a st => exact fun mu1 x H1 e r1 s1 => k a st mu1 x H1 rfl e r1 s1 (PostS.from h e)
  | exc c ev st => exact h
theorem PE.imp {X : Cx} {e : Expr} {t t' : TE} (h : PE X e t) (k : ∀ σ H Q, t' σ H Q → t σ H Q) : PE X e t' := ⟨fun pins s σ H Q I hw => h.run pins s σ H Q I (k σ H Q hw)⟩
theorem PT.imp {X : Cx} {e : Expr} {t t' : TT} (h : PT X e t) (k : ∀ σ H Q, t' σ H Q → t σ H Q) : PT X e t' := ⟨fun pins s σ H Q I hw => h.run pins s σ H Q I (k σ H Q hw)⟩
theorem PW.imp {X : Cx} {e : Expr} {t t' : TT} (h : PW X e t) (k : ∀ σ H Q, t' σ H Q → t σ H Q) : PW X e t' := ⟨fun wh pins s σ H Q I hw => h.run wh pins s σ H Q I (k σ H Q hw)⟩
theorem PA.imp {X : Cx} {e : List Expr} {t t' : TA} (h : PA X e t) (k : ∀ σ H Q, t' σ H Q → t σ H Q) : PA X e t' := ⟨fun pos pins s σ H Q I hw => h.run pos pins s σ H Q I (k σ H Q hw)⟩
theorem PS.imp {X : Cx} {e : Stmt} {t t' : TS} (h : PS X e t) (k : ∀ D σ H, t' D σ H → t D σ H) : PS X e t' := ⟨fun pins s σ H D I hw => h.run pins s σ H D I (k D σ H hw)⟩
theorem PSs.imp {X : Cx} {e : List Stmt} {t t' : TS} (h : PSs X e t) (k : ∀ D σ H, t' D σ H → t D σ H) : PSs X e t' := ⟨fun pins s σ H D I hw => h.run pins s σ H D I (k D σ H hw)⟩
end Ml

namespace Ml
open PySem L2
/-- the most items of a row, signs of a text -/
def lim : Nat := 1000000
theorem lim_le {n : Nat} (h : n ≤ lim) : n ≤ sizeLine := Nat.le_trans h (by rw [sizeLine_eq]; decide)
theorem lim_lt {n : Nat} (h : n ≤ lim) : n < sizeLine := Nat.lt_of_le_of_lt h (by rw [sizeLine_eq]; decide)

/-! ### names, constants, rows of expressions -/
def mC (d : D) : Mo D := fun _ st => .ok d st
def mVar (i : Nat) : Mo D := fun ev st => match ev[i]? with
  | some (some d) => .ok d st
  | _ => .bad
def mNil : Mo (List D) := fun _ st => .ok [] st
def mCons (m : Mo D) (r : Mo (List D)) : Mo (List D) := fun ev st => (m ev st).bind fun d st1 => (r ev st1).bind fun ds st2 => .ok (d :: ds) st2
def mTup (r : Mo (List D)) : Mo D := fun ev st => (r ev st).bind fun ds st1 => if ds.length ≤ lim then .ok (.tup ds) st1 else .bad
def mDisp (r : Mo (List D)) : Mo (List D) := fun ev st => (r ev st).bind fun ds st1 => if ds.length ≤ lim then .ok ds st1 else .bad
/-- a new list goes to the store -/
def mKeep (m : Mo (List D)) : Mo D := fun ev st => (m ev st).bind fun ds st1 => .ok (.ref st1.length) (st1 ++ [.lst ds])

variable {X : Cx} {W : Wx} {a b c e : Expr} {es rest : List Expr} {pos : Pos} {ma mb mc : Mo D} {mr : Mo (List D)} {ta tb : Mo Bool}
theorem me_var {i : Nat} {x : Str} (h : PE X (.Name x pos) (tVar i)) : PE X (.Name x pos) (tE X.K W (mVar i)) := by
  refine PE.imp h fun σ H Q ⟨mu, ev, st, he, hs, hp⟩ => ?_
  unfold mVar at hp
  split at hp
  · rename_i d q
    obtain ⟨v, hv, r⟩ := he.2 i d q
    exact ⟨v, hv, hp _ _ _ .refl r hs⟩
  · exact hp.elim
theorem me_int {i : Int} {j : Nat} : PE X (.Constant (.int i) j pos) (tE X.K W (mC (.int i))) := PE.imp pe_int fun σ H Q ⟨mu, ev, st, he, hs, hp⟩ => hp _ _ _ .refl (.int i) hs
theorem me_bl {i : Bool} {j : Nat} : PE X (.Constant (.bool i) j pos) (tE X.K W (mC (.bl i))) := PE.imp pe_bl fun σ H Q ⟨mu, ev, st, he, hs, hp⟩ => hp _ _ _ .refl (.bl i) hs
theorem me_non {j : Nat} : PE X (.Constant .none j pos) (tE X.K W (mC .non)) := PE.imp pe_non fun σ H Q ⟨mu, ev, st, he, hs, hp⟩ => hp _ _ _ .refl .non hs
theorem me_str {i : Str} {j : Nat} : PE X (.Constant (.str i) j pos) (tE X.K W (mC (.str i))) := PE.imp pe_str fun σ H Q ⟨mu, ev, st, he, hs, hp⟩ => hp _ _ _ .refl (.str i) hs
/-- a constant of the module: v stands for d wherever one is -/
theorem me_glob {x : Str} {v : V} {d : D} (h : PE X (.Name x pos) (tC v)) (r : ∀ H mu, Rp X.K H mu v d) : PE X (.Name x pos) (tE X.K W (mC d)) := PE.imp h fun σ H Q ⟨mu, ev, st, he, hs, hp⟩ => hp _ _ _ .refl (r _ _) hs
theorem ma_nil : PA X [] (tA X.K W mNil) := PA.imp pa_nil fun σ H Q ⟨mu, ev, st, he, hs, hp⟩ => hp _ _ _ .refl .nil hs
theorem ma_cons (ha : PE X e (tE X.K W ma)) (hr : PA X es (tA X.K W mr)) (hs : starEach (e :: es) X.env = (false, eval e X.env) :: starEach es X.env := by rfl) : PA X (e :: es) (tA X.K W (mCons ma mr)) := by
  refine PA.imp (pa_cons ha hr hs) fun σ H Q ⟨mu, ev, st, he, hst, hp⟩ => ?_
  refine ⟨mu, ev, st, he, hst, hp.bind fun d st1 mu1 x H1 _ e1 r1 s1 hp1 => ?_⟩
  refine ⟨mu1, ev, st1, he.mono e1, s1, hp1.bind fun ds st2 mu2 xs H2 _ e2 r2 s2 hp2 => ?_⟩
  exact hp2 _ _ _ .refl (.cons (Rp.mono e2 r1) r2) s2
theorem Rps.ctx {K : PySem.W.Frag} {H : Hp} {mu : List Addr} {p : Addr} {o : HO} (hp : H p = none) {vs : List V} {ds : List D} (h : Rps K H mu vs ds) : Rps K (upd H p o) mu vs ds := h.mono (ext_new hp o)
theorem me_tup {k : Nat} (h : PA X es (tA X.K W mr)) : PE X (.Tuple es k pos) (tE X.K W (mTup mr)) := by
  refine PE.imp (pe_tup h) fun σ H Q ⟨mu, ev, st, he, hst, hp⟩ => ?_
  refine ⟨mu, ev, st, he, hst, hp.bind fun ds st1 mu1 xs H1 _ e1 r1 s1 hp1 => ?_⟩
  split at hp1
  · rename_i hl
    refine ⟨by rw [Rps.length r1]; exact lim_le hl, fun p hn => ?_⟩
    exact hp1 _ _ _ (ext_new hn _) (.tup (.inl upd_same) (Rps.ctx hn r1)) (s1.new hn _)
  · exact hp1.elim
theorem ml_lst (h : PA X es (tA X.K W mr)) : PE X (.List es pos) (tL X.K W (mDisp mr)) := by
  refine PE.imp (pe_lst h) fun σ H Q ⟨mu, ev, st, he, hst, hp⟩ => ?_
  refine ⟨mu, ev, st, he, hst, hp.bind fun ds st1 mu1 xs H1 _ e1 r1 s1 hp1 => ?_⟩
  split at hp1
  · rename_i hl
    refine ⟨by rw [Rps.length r1]; exact lim_le hl, fun p hn => ?_⟩
    exact hp1 _ _ _ (ext_new hn _) ⟨p, xs, rfl, hn, upd_same, s1.fresh hn, Rps.ctx hn r1⟩ (s1.new hn _)
  · exact hp1.elim
theorem adopt {K : PySem.W.Frag} {H : Hp} {mu : List Addr} {st : Sto} (r : RelSt K H mu st) {p : Addr} {vs : List V} {ds : List D} (hp : H p = some (.lst vs)) (hn : p ∉ mu) (hr : Rps K H mu vs ds) :
    Rp K H (mu ++ [p]) (.ref p) (.ref st.length) ∧ RelSt K H (mu ++ [p]) (st ++ [.lst ds]) := by
  have q : mu.length = st.length := r.len
  have e0 : Ext0 mu H (mu ++ [p]) H := ⟨⟨[p], rfl⟩, fun _ _ h => h, fun a o vs h n => ⟨h, by simp only [List.mem_append, List.mem_singleton, not_or]; exact ⟨n, fun e => by subst e; rw [hp] at h; cases h⟩⟩⟩
  refine ⟨.ref (by rw [← q]; simp), ⟨by simp [q], ?_, fun i a u h1 h2 => ?_⟩⟩
  · rw [List.nodup_append]
    refine ⟨r.nd, by simp, fun a ha b hb => ?_⟩
    simp only [List.mem_singleton] at hb
    subst hb
    intro e; subst e
    exact hn ha
  · by_cases hi : i < mu.length
    · rw [List.getElem?_append_left hi] at h1
      rw [List.getElem?_append_left (by rw [← q]; exact hi)] at h2
      have k := r.ob i a u h1 h2
      exact k.mono0 e0 rfl
    · have hl := (List.getElem?_eq_some_iff.mp h1).1
      simp at hl
      have e : i = mu.length := by omega
      subst e
      rw [List.getElem?_append_right (Nat.le_refl _)] at h1
      rw [q, List.getElem?_append_right (Nat.le_refl _)] at h2
      simp at h1 h2
      subst h1; subst h2
      exact ⟨vs, hp, hr.mono0 e0⟩
theorem me_keep (h : PE X e (tL X.K W mr)) : PE X e (tE X.K W (mKeep mr)) := by
  refine PE.imp h fun σ H Q ⟨mu, ev, st, he, hst, hp⟩ => ?_
  refine ⟨mu, ev, st, he, hst, ?_⟩
  unfold mKeep at hp
  cases hr : mr ev st with
  | bad => rw [hr] at hp; exact hp
  | exc c e s => rw [hr] at hp; exact hp
  | ok ds st1 =>
    rw [hr] at hp
    intro mu1 x H1 e1 ⟨p, vs, ex, h0, hpp, hn, rs⟩ s1
    subst ex
    obtain ⟨k1, k2⟩ := adopt s1 hpp hn rs
    exact hp (mu1 ++ [p]) (.ref p) H1 (ext_adopt e1 h0) k1 k2
end Ml

namespace Ml
open PySem L2
/-! ### operators by values -/
abbrev G2 := D → D → Sto → Option (D × Sto)
abbrev G1 := D → Sto → Option (D × Sto)
abbrev GA := List D → Sto → Option (D × Sto)
def Rs.of {α : Type} : Option (α × Sto) → Rs α
  | some (d, st) => .ok d st
  | none => .bad
def mOp (g : G2) (ma mb : Mo D) : Mo D := fun ev st => (ma ev st).bind fun a st1 => (mb ev st1).bind fun b st2 => Rs.of (g a b st2)
def mUn (g : G1) (ma : Mo D) : Mo D := fun ev st => (ma ev st).bind fun a st1 => Rs.of (g a st1)
def mCB (g : GA) (mr : Mo (List D)) : Mo D := fun ev st => (mr ev st).bind fun ds st1 => Rs.of (g ds st1)
/-- the reading r of two values does what g does of two data -/
def OpS (K : PySem.W.Frag) (r : R2) (g : G2) : Prop := ∀ (mu : List Addr) (H : Hp) (st st' : Sto) (x y : V) (a b d : D) (Q : VK), RelSt K H mu st → Rp K H mu x a → Rp K H mu y b → g a b st = some (d, st') →
  (∀ mu' v H', Ext mu H mu' H' → Rp K H' mu' v d → RelSt K H' mu' st' → Q v H') → r x y H Q
def UnS (K : PySem.W.Frag) (r : V → Hp → VK → Prop) (g : G1) : Prop := ∀ (mu : List Addr) (H : Hp) (st st' : Sto) (x : V) (a d : D) (Q : VK), RelSt K H mu st → Rp K H mu x a → g a st = some (d, st') →
  (∀ mu' v H', Ext mu H mu' H' → Rp K H' mu' v d → RelSt K H' mu' st' → Q v H') → r x H Q
def CallS (K : PySem.W.Frag) (r : List V → Hp → VK → Prop) (g : GA) : Prop := ∀ (mu : List Addr) (H : Hp) (st st' : Sto) (xs : List V) (as : List D) (d : D) (Q : VK), RelSt K H mu st → Rps K H mu xs as → g as st = some (d, st') →
  (∀ mu' v H', Ext mu H mu' H' → Rp K H' mu' v d → RelSt K H' mu' st' → Q v H') → r xs H Q
variable {X : Cx} {W : Wx} {a b c e : Expr} {es rest : List Expr} {pos p : Pos} {ma mb mc : Mo D} {mr : Mo (List D)} {ta tb : Mo Bool}
theorem post_of {K : PySem.W.Frag} {mu : List Addr} {H : Hp} {o : Option (D × Sto)} {Q : VK} (h : Post K W (RE K) mu H (Rs.of o) Q) :
    ∃ d st', o = some (d, st') ∧ ∀ mu' v H', Ext mu H mu' H' → Rp K H' mu' v d → RelSt K H' mu' st' → Q v H' := by
  cases o with
  | none => exact h.elim
  | some p => obtain ⟨d, st'⟩ := p; exact ⟨d, st', rfl, h⟩
theorem opS_go {r : R2} {g : G2} (hs : OpS X.K r g) {σ : L2.St} {H : Hp} {Q : VK} (h : tE X.K W (mOp g ma mb) σ H Q) : tOp r (tE X.K W ma) (tE X.K W mb) σ H Q := by
  obtain ⟨mu, ev, st, he, hst, hp⟩ := h
  refine ⟨mu, ev, st, he, hst, hp.bind fun d st1 mu1 x H1 _ e1 r1 s1 hp1 => ?_⟩
  refine ⟨mu1, ev, st1, he.mono e1, s1, hp1.bind fun d2 st2 mu2 y H2 _ e2 r2 s2 hp2 => ?_⟩
  obtain ⟨d, st', eq, k⟩ := post_of hp2
  exact hs mu2 H2 st2 st' x y _ _ d Q s2 (Rp.mono e2 r1) r2 eq k
theorem me_op {op : Operator} {r : R2} {g : G2} (ho : OpR X (binaryOp op) r) (hs : OpS X.K r g) (ha : PE X a (tE X.K W ma)) (hb : PE X b (tE X.K W mb)) : PE X (.BinOp a op b pos) (tE X.K W (mOp g ma mb)) :=
  PE.imp (pe_op ho ha hb) fun _ _ _ h => opS_go hs h
theorem me_un {op : UnaryOp} {r : V → Hp → VK → Prop} {g : G1} (ho : UnR X (unaryOp op) r) (hs : UnS X.K r g) (ha : PE X a (tE X.K W ma)) : PE X (.UnaryOp op a pos) (tE X.K W (mUn g ma)) := by
  refine PE.imp (pe_un ho ha) fun σ H Q ⟨mu, ev, st, he, hst, hp⟩ => ?_
  refine ⟨mu, ev, st, he, hst, hp.bind fun d st1 mu1 x H1 _ e1 r1 s1 hp1 => ?_⟩
  obtain ⟨d, st', eq, k⟩ := post_of hp1
  exact hs mu1 H1 st1 st' x _ d Q s1 r1 eq k
theorem me_cmp {op : CmpOp} {r : R2} {g : G2} (ho : OpR X (compareOp op) r) (hs : OpS X.K r g) (ha : PE X a (tE X.K W ma)) (hb : PE X b (tE X.K W mb)) (hm : behindInMarks op b = false) : PE X (.Compare a [op] [b] pos) (tE X.K W (mOp g ma mb)) :=
  PE.imp (pe_cmpR ho ha hb hm) fun _ _ _ h => opS_go hs h
theorem me_ix {r : R2} {g : G2} (ho : IxR X r) (hs : OpS X.K r g) (ha : PE X a (tE X.K W ma)) (hb : PE X b (tE X.K W mb)) (hx : PlainIx b) : PE X (.Subscript a b pos) (tE X.K W (mOp g ma mb)) :=
  PE.imp (pe_ix ho ha hb hx) fun _ _ _ h => opS_go hs h
theorem callS_go {r : List V → Hp → VK → Prop} {g : GA} (hs : CallS X.K r g) {σ : L2.St} {H : Hp} {Q : VK} (h : tE X.K W (mCB g mr) σ H Q) : tCB r (tA X.K W mr) σ H Q := by
  obtain ⟨mu, ev, st, he, hst, hp⟩ := h
  refine ⟨mu, ev, st, he, hst, hp.bind fun d st1 mu1 x H1 _ e1 r1 s1 hp1 => ?_⟩
  obtain ⟨d, st', eq, k⟩ := post_of hp1
  exact hs mu1 H1 st1 st' x _ d Q s1 r1 eq k
theorem me_callB {id : String} {x : Str} {r : List V → Hp → VK → Prop} {g : GA} (hc : CallR X (.builtin id) r) (hs : CallS X.K r g) (hg : Gl X x) (hm : X.mg x = none) (hv : bootBuiltins x = some (.builtin id)) (ha : PA X (e :: es) (tA X.K W mr)) (hn : x ≠ "__name__" := by decide) (hdb : (x == ("__debug__" : Str)) = false := by decide)
    (he : starEach (e :: es) X.env = (false, eval e X.env) :: starEach es X.env := by rfl) (hpl : (backTo pos (starEach es X.env)).any (·.1) = false := by rfl) : PE X (.Call (.Name x p) (e :: es) [] pos) (tE X.K W (mCB g mr)) :=
  PE.imp (pe_callB hc hg hm hv ha hn hdb he hpl) fun _ _ _ h => callS_go hs h
theorem me_callTy {id : String} {x : Str} {r : List V → Hp → VK → Prop} {g : GA} (hc : CallR X (.type id) r) (hs : CallS X.K r g) (hg : Gl X x) (hm : X.mg x = none) (hv : bootBuiltins x = some (.type id)) (ha : PA X (e :: es) (tA X.K W mr)) (hn : x ≠ "__name__" := by decide) (hdb : (x == ("__debug__" : Str)) = false := by decide)
    (he : starEach (e :: es) X.env = (false, eval e X.env) :: starEach es X.env := by rfl) (hpl : (backTo pos (starEach es X.env)).any (·.1) = false := by rfl) : PE X (.Call (.Name x p) (e :: es) [] pos) (tE X.K W (mCB g mr)) :=
  PE.imp (pe_callTy hc hg hm hv ha hn hdb he hpl) fun _ _ _ h => callS_go hs h
theorem OpS.or {K : PySem.W.Frag} {r r' : R2} {g g' : G2} (h : OpS K r g) (h' : OpS K r' g') : OpS K (fun x y H Q => r x y H Q ∨ r' x y H Q) (fun a b st => match g a b st with | some z => some z | none => g' a b st) := by
  intro mu H st st' x y a b d Q hs hx hy e k
  simp only at e
  split at e
  · rename_i z q
    cases e
    exact .inl (h mu H st st' x y a b d Q hs hx hy q k)
  · exact .inr (h' mu H st st' x y a b d Q hs hx hy e k)
/-! ### whole numbers, texts, tuples -/
def gI (f : Int → Int → D) : G2 := fun a b st => match a, b with
  | .int i, .int j => some (f i j, st)
  | _, _ => none
def gIc (C : Int → Int → Bool) (f : Int → Int → D) : G2 := fun a b st => match a, b with
  | .int i, .int j => if C i j = true then some (f i j, st) else none
  | _, _ => none
/-- a value without address stands for itself -/
def vD : V → D
  | .bl b => .bl b
  | .int i => .int i
  | .str x => .str x
  | _ => .non
def plainV : V → Bool
  | .bl _ => true
  | .int _ => true
  | .str _ => true
  | .non => true
  | _ => false
theorem rp_plain {K : PySem.W.Frag} {H : Hp} {mu : List Addr} {v : V} (h : plainV v = true) : Rp K H mu v (vD v) := by
  cases v <;> first | exact .non | exact .bl _ | exact .int _ | exact .str _ | cases h
theorem opS_I0 {K : PySem.W.Frag} {f : Int → Int → V} (hf : ∀ i j, plainV (f i j) = true) : OpS K (rI0 f) (gI fun i j => vD (f i j)) := by
  intro mu H st st' x y a b d Q hs hx hy e k
  unfold gI at e
  split at e
  · cases e; cases hx; cases hy
    exact ⟨_, _, rfl, rfl, k _ _ _ .refl (rp_plain (hf _ _)) hs⟩
  · cases e
theorem opS_I {K : PySem.W.Frag} {C : Int → Int → Prop} {Cb : Int → Int → Bool} {f : Int → Int → V} (hC : ∀ i j, Cb i j = true → C i j) (hf : ∀ i j, plainV (f i j) = true) : OpS K (rI C f) (gIc Cb fun i j => vD (f i j)) := by
  intro mu H st st' x y a b d Q hs hx hy e k
  unfold gIc at e
  split at e
  · split at e
    · rename_i hc
      cases e; cases hx; cases hy
      exact ⟨_, _, rfl, rfl, hC _ _ hc, k _ _ _ .refl (rp_plain (hf _ _)) hs⟩
    · cases e
  · cases e
def gAddS : G2 := fun a b st => match a, b with
  | .str x, .str y => if x.length + y.length ≤ lim then some (.str (x ++ y), st) else none
  | _, _ => none
def gCatT : G2 := fun a b st => match a, b with
  | .tup xs, .tup ys => if xs.length + ys.length ≤ lim then some (.tup (xs ++ ys), st) else none
  | _, _ => none
theorem opS_addS {K : PySem.W.Frag} : OpS K (fun x y H Q => ∃ i j, x = .str i ∧ y = .str j ∧ i.length + j.length ≤ sizeLine ∧ Q (.str (i ++ j)) H) gAddS := by
  intro mu H st st' x y a b d Q hs hx hy e k
  unfold gAddS at e
  split at e
  · split at e
    · rename_i hc
      cases e; cases hx; cases hy
      exact ⟨_, _, rfl, rfl, lim_le hc, k _ _ _ .refl (.str _) hs⟩
    · cases e
  · cases e
theorem Rps.nil_iff {K : PySem.W.Frag} {H : Hp} {mu : List Addr} {vs : List V} {ds : List D} (h : Rps K H mu vs ds) : vs = [] ↔ ds = [] := by
  cases h <;> simp
theorem opS_catT {K : PySem.W.Frag} : OpS K (rCatA K) gCatT := by
  intro mu H st st' x y a b d Q hs hx hy e k
  unfold gCatT at e
  split at e
  · split at e
    · rename_i xs ys hc
      cases e
      cases hx with
      | tup h1 r1 =>
        cases hy with
        | tup h2 r2 =>
          rename_i p1 vs q1 ws
          refine ⟨p1, q1, vs, ws, rfl, rfl, h1.sq, h2.sq, by rw [Rps.length r1, Rps.length r2]; exact lim_le hc, fun e0 => ?_, fun e0 e1 => ?_, fun _ _ p hp => ?_⟩
          · have e1 := (Rps.nil_iff r1).mp e0
            subst e1
            exact k _ _ _ .refl (.tup h2 (by simpa using r2)) hs
          · have e2 := (Rps.nil_iff r2).mp e1
            subst e2
            exact k _ _ _ .refl (.tup h1 (by simpa using r1)) hs
          · exact k _ _ _ (ext_new hp _) (.tup (.inl upd_same) ((r1.append r2).ctx hp)) (hs.new hp _)
    · cases e
  · cases e
/-- + -/
def gAdd : G2 := fun a b st => match gI (fun i j => .int (i + j)) a b st with
  | some z => some z
  | none => match gAddS a b st with
    | some z => some z
    | none => gCatT a b st
def rAddA (K : PySem.W.Frag) : R2 := fun x y H Q => rI0 (fun i j => .int (i + j)) x y H Q ∨ (∃ i j, x = .str i ∧ y = .str j ∧ i.length + j.length ≤ sizeLine ∧ Q (.str (i ++ j)) H) ∨ rCatA K x y H Q
theorem op_addA : OpR X (binaryOp .Add) (rAddA X.K) := op_add.or (op_add_str.or op_catA)
theorem opS_add {K : PySem.W.Frag} : OpS K (rAddA K) gAdd := (opS_I0 (f := fun i j => .int (i + j)) (fun _ _ => rfl)).or (opS_addS.or opS_catT)
theorem me_add (ha : PE X a (tE X.K W ma)) (hb : PE X b (tE X.K W mb)) : PE X (.BinOp a .Add b pos) (tE X.K W (mOp gAdd ma mb)) := me_op op_addA opS_add ha hb
def gSub : G2 := gI fun i j => .int (i - j)
theorem me_sub (ha : PE X a (tE X.K W ma)) (hb : PE X b (tE X.K W mb)) : PE X (.BinOp a .Sub b pos) (tE X.K W (mOp gSub ma mb)) := me_op op_sub (opS_I0 (f := fun i j => .int (i - j)) (fun _ _ => rfl)) ha hb
def small64 (i : Int) : Bool := decide (i.natAbs < 18446744073709551616)
def gMul : G2 := gIc (fun i j => small64 i || small64 j) fun i j => .int (i * j)
theorem cmul_of {i j : Int} (h : (small64 i || small64 j) = true) : CMul i j := by
  unfold small64 at h
  rw [Bool.or_eq_true] at h
  unfold CMul
  rcases h with h | h
  · have h := of_decide_eq_true h
    left; constructor <;> omega
  · have h := of_decide_eq_true h
    right; constructor <;> omega
theorem me_mul (ha : PE X a (tE X.K W ma)) (hb : PE X b (tE X.K W mb)) : PE X (.BinOp a .Mult b pos) (tE X.K W (mOp gMul ma mb)) := me_op op_mul (opS_I (Cb := fun i j => small64 i || small64 j) (f := fun i j => .int (i * j)) (fun _ _ => cmul_of) (fun _ _ => rfl)) ha hb
def gMod : G2 := gIc (fun _ j => decide (0 < j)) fun i j => .int (i % j)
theorem me_mod (ha : PE X a (tE X.K W ma)) (hb : PE X b (tE X.K W mb)) : PE X (.BinOp a .Mod b pos) (tE X.K W (mOp gMod ma mb)) := me_op op_mod (opS_I (Cb := fun _ j => decide (0 < j)) (f := fun i j => .int (i % j)) (fun _ _ h => of_decide_eq_true h) (fun _ _ => rfl)) ha hb
/-- a divisor of at most 200 bits -/
def gDiv : G2 := gIc (fun _ j => decide (0 < j) && decide (j.natAbs < 2 ^ 200)) fun i j => .int (i / j)
theorem me_div (ha : PE X a (tE X.K W ma)) (hb : PE X b (tE X.K W mb)) : PE X (.BinOp a .FloorDiv b pos) (tE X.K W (mOp gDiv ma mb)) :=
  me_op op_fdivW (opS_I (Cb := fun _ j => decide (0 < j) && decide (j.natAbs < 2 ^ 200)) (f := fun i j => .int (i / j)) (fun _ _ h => by
    rw [Bool.and_eq_true] at h
    exact wide_div (b := 200) (of_decide_eq_true h.1) (of_decide_eq_true h.2) (by decide) (by decide)) (fun _ _ => rfl)) ha hb
def gNeg : G1 := fun a st => match a with
  | .int i => some (.int (-i), st)
  | _ => none
theorem me_neg (ha : PE X a (tE X.K W ma)) : PE X (.UnaryOp .USub a pos) (tE X.K W (mUn gNeg ma)) := by
  refine me_un un_neg ?_ ha
  intro mu H st st' x a d Q hs hx e k
  unfold gNeg at e
  split at e
  · cases e; cases hx; exact ⟨_, rfl, k _ _ _ .refl (.int _) hs⟩
  · cases e
def gLt : G2 := gI fun i j => .bl (decide (i < j))
def gLe : G2 := gI fun i j => .bl (decide (i ≤ j))
def gGt : G2 := gI fun i j => .bl (decide (j < i))
def gGe : G2 := gI fun i j => .bl (decide (j ≤ i))
theorem opS_lt {K : PySem.W.Frag} : OpS K (rI0 fun i j => .bl (decide (i < j))) gLt := opS_I0 (f := fun i j => .bl (decide (i < j))) fun _ _ => rfl
theorem opS_le {K : PySem.W.Frag} : OpS K (rI0 fun i j => .bl (decide (i ≤ j))) gLe := opS_I0 (f := fun i j => .bl (decide (i ≤ j))) fun _ _ => rfl
theorem opS_gt {K : PySem.W.Frag} : OpS K (rI0 fun i j => .bl (decide (j < i))) gGt := opS_I0 (f := fun i j => .bl (decide (j < i))) fun _ _ => rfl
theorem opS_ge {K : PySem.W.Frag} : OpS K (rI0 fun i j => .bl (decide (j ≤ i))) gGe := opS_I0 (f := fun i j => .bl (decide (j ≤ i))) fun _ _ => rfl

/-! ### == of data -/
mutual
def D.pd : D → PyData
  | .non => .none
  | .bl b => .bool b
  | .int i => .int i
  | .str x => .str x
  | .tup ds => .tuple (pds ds)
  | .ref _ => .none
  | .ro _ => .none
def pds : List D → List PyData
  | [] => []
  | d :: ds => d.pd :: pds ds
end
mutual
/-- no list within, at most n deep -/
def D.dok (n : Nat) : D → Bool
  | .non => true
  | .bl _ => true
  | .int _ => true
  | .str x => PyData.strOk x
  | .tup ds => match n with
    | 0 => false
    | k + 1 => doks k ds
  | .ref _ => false
  | .ro _ => false
def doks (n : Nat) : List D → Bool
  | [] => true
  | d :: ds => d.dok n && doks n ds
end
mutual
theorem Rp.dp {K : PySem.W.Frag} {H : Hp} {mu : List Addr} : ∀ {v : V} {d : D} {n : Nat}, Rp K H mu v d → d.dok n = true → Dp K H v d.pd
  | _, _, _, .non, _ => .non
  | _, _, _, .bl b, _ => .bl b
  | _, _, _, .int i, _ => .int i
  | _, _, _, .str x, _ => .str x
  | _, _, 0, .tup _ _, q => by simp [D.dok] at q
  | _, _, n + 1, .tup h hs, q => .tup h.sq (Rps.dp hs (by simpa [D.dok] using q))
  | _, _, _, .ref _, q => by simp [D.dok] at q
  | _, _, _, .ro _ _, q => by simp [D.dok] at q
theorem Rps.dp {K : PySem.W.Frag} {H : Hp} {mu : List Addr} : ∀ {vs : List V} {ds : List D} {n : Nat}, Rps K H mu vs ds → doks n ds = true → DpAll K H vs (pds ds)
  | _, _, _, .nil, _ => .nil
  | _, _, n, .cons h hs, q => by
    simp only [doks, Bool.and_eq_true] at q
    exact .cons (Rp.dp h q.1) (Rps.dp hs q.2)
end
mutual
theorem dok_can : ∀ {d : D} {n : Nat}, d.dok n = true → d.pd.canLay0 = true ∧ d.pd.depth ≤ n + 1
  | .non, n, _ => ⟨by simp [D.pd, PyData.canLay0], by simp [D.pd, PyData.depth]⟩
  | .bl b, n, _ => ⟨by simp [D.pd, PyData.canLay0], by simp [D.pd, PyData.depth]⟩
  | .int i, n, _ => ⟨by simp [D.pd, PyData.canLay0], by simp [D.pd, PyData.depth]⟩
  | .str x, n, q => ⟨by simpa [D.pd, PyData.canLay0, D.dok] using q, by simp [D.pd, PyData.depth]⟩
  | .tup ds, 0, q => by simp [D.dok] at q
  | .tup ds, n + 1, q => by
    have h := doks_can (ds := ds) (n := n) (by simpa [D.dok] using q)
    refine ⟨by simpa [D.pd, PyData.canLay0] using h.1, ?_⟩
    simp only [D.pd, PyData.depth]
    have := h.2
    omega
  | .ref _, _, q => by simp [D.dok] at q
  | .ro _, _, q => by simp [D.dok] at q
theorem doks_can : ∀ {ds : List D} {n : Nat}, doks n ds = true → PyData.canLayAll0 (pds ds) = true ∧ PyData.depthAll (pds ds) ≤ n + 1
  | [], n, _ => ⟨by simp [pds, PyData.canLayAll0], by simp [pds, PyData.depthAll]⟩
  | d :: ds, n, q => by
    simp only [doks, Bool.and_eq_true] at q
    have h1 := dok_can q.1
    have h2 := doks_can q.2
    refine ⟨by simp [pds, PyData.canLayAll0, h1.1, h2.1], ?_⟩
    simp only [pds, PyData.depthAll]
    have := h1.2; have := h2.2
    omega
end
theorem dok_shaped {d : D} (h : d.dok 60 = true) : SeqAt.shaped d.pd = true := by
  obtain ⟨h1, h2⟩ := dok_can h
  unfold SeqAt.shaped
  rw [h1, Bool.true_and]
  exact decide_eq_true (by omega)
def deq (a b : D) : Bool := PyData.eqv a.pd b.pd
/-- two texts, two whole numbers, two truths -/
def scalD : D → D → Bool
  | .str _, .str _ => true
  | .int _, .int _ => true
  | .bl _, .bl _ => true
  | _, _ => false
def gEq : G2 := fun a b st => if scalD a b then some (.bl (deq a b), st) else if a.dok 60 && b.dok 60 then some (.bl (deq a b), st) else none
def gNe : G2 := fun a b st => if scalD a b then some (.bl (!deq a b), st) else if a.dok 60 && b.dok 60 then some (.bl (!deq a b), st) else none
def rEqA (K : PySem.W.Frag) : R2 := fun x y H Q => rEq x y H Q ∨ rEqD K x y H Q
def rNeA (K : PySem.W.Frag) : R2 := fun x y H Q => rNe x y H Q ∨ rNeD K x y H Q
theorem op_eqA (hu : X.A.units + 64 < cLine) : OpR X (compareOp .Eq) (rEqA X.K) := op_eq.or (op_eqD hu)
theorem op_neA (hu : X.A.units + 64 < cLine) : OpR X (compareOp .NotEq) (rNeA X.K) := op_ne.or (op_neD hu)
theorem dec_bool {i j : Bool} : decide (V.bl i = V.bl j) = (i == j) := dec_bl
theorem scal_of {K : PySem.W.Frag} {H : Hp} {mu : List Addr} {x y : V} {a b : D} (h : scalD a b = true) (hx : Rp K H mu x a) (hy : Rp K H mu y b) : scal x y = true ∧ decide (x = y) = deq a b := by
  unfold scalD at h
  split at h
  · cases hx; cases hy
    exact ⟨rfl, dec_str⟩
  · cases hx; cases hy
    exact ⟨rfl, dec_int⟩
  · cases hx; cases hy
    exact ⟨rfl, dec_bl⟩
  · cases h
theorem opS_eq {K : PySem.W.Frag} : OpS K (rEqA K) gEq := by
  intro mu H st st' x y a b d Q hs hx hy e k
  unfold gEq at e
  split at e
  · rename_i hc
    obtain ⟨h1, h2⟩ := scal_of hc hx hy
    cases e
    refine .inl ⟨h1, ?_⟩
    rw [h2]
    exact k _ _ _ .refl (.bl _) hs
  · split at e
    · rename_i hc
      rw [Bool.and_eq_true] at hc
      cases e
      exact .inr ⟨_, _, hx.dp hc.1, hy.dp hc.2, dok_shaped hc.1, dok_shaped hc.2, k _ _ _ .refl (.bl _) hs⟩
    · cases e
theorem opS_ne {K : PySem.W.Frag} : OpS K (rNeA K) gNe := by
  intro mu H st st' x y a b d Q hs hx hy e k
  unfold gNe at e
  split at e
  · rename_i hc
    obtain ⟨h1, h2⟩ := scal_of hc hx hy
    cases e
    refine .inl ⟨h1, ?_⟩
    rw [h2]
    exact k _ _ _ .refl (.bl _) hs
  · split at e
    · rename_i hc
      rw [Bool.and_eq_true] at hc
      cases e
      exact .inr ⟨_, _, hx.dp hc.1, hy.dp hc.2, dok_shaped hc.1, dok_shaped hc.2, k _ _ _ .refl (.bl _) hs⟩
    · cases e
/-! ### is -/
def gIsN : G2 := fun a b st => match b with
  | .non => some (.bl (match a with | .non => true | _ => false), st)
  | .bl y => (match a with | .bl x => some (.bl (decide (x = y)), st) | _ => none)
  | _ => none
def gNotN : G2 := fun a b st => match b with
  | .non => some (.bl (match a with | .non => false | _ => true), st)
  | .bl y => (match a with | .bl x => some (.bl (!decide (x = y)), st) | _ => none)
  | _ => none
def rIsA : R2 := fun x y H Q => (y = .non ∧ Q (.bl (decide (x = .non))) H) ∨ rIsB x y H Q
def rNotA : R2 := fun x y H Q => (y = .non ∧ Q (.bl (!decide (x = .non))) H) ∨ rNotB x y H Q
theorem op_isA : OpR X (compareOp .Is) rIsA := op_isN.or op_isBl
theorem op_notA : OpR X (compareOp .IsNot) rNotA := op_notN.or op_notBl
theorem opS_is {K : PySem.W.Frag} : OpS K rIsA gIsN := by
  intro mu H st st' x y a b d Q hs hx hy e k
  unfold gIsN at e
  split at e
  · cases e; cases hy
    refine .inl ⟨rfl, k _ _ _ .refl ?_ hs⟩
    cases hx <;> exact .bl _
  · split at e
    · cases e; cases hx; cases hy
      exact .inr ⟨_, _, rfl, rfl, k _ _ _ .refl (.bl _) hs⟩
    · cases e
  · cases e
theorem opS_not {K : PySem.W.Frag} : OpS K rNotA gNotN := by
  intro mu H st st' x y a b d Q hs hx hy e k
  unfold gNotN at e
  split at e
  · cases e; cases hy
    refine .inl ⟨rfl, k _ _ _ .refl ?_ hs⟩
    cases hx <;> exact .bl _
  · split at e
    · cases e; cases hx; cases hy
      exact .inr ⟨_, _, rfl, rfl, k _ _ _ .refl (.bl _) hs⟩
    · cases e
  · cases e
end Ml

namespace Ml
open PySem L2
variable {X : Cx} {W : Wx} {a b c e : Expr} {es rest : List Expr} {pos p : Pos} {ma mb mc : Mo D} {mr : Mo (List D)} {ta tb : Mo Bool}
/-! ### in -/
def flatD : D → Bool
  | .non => true
  | .bl _ => true
  | .int _ => true
  | .str _ => true
  | _ => false
def vOf : D → V
  | .non => .non
  | .bl b => .bl b
  | .int i => .int i
  | .str x => .str x
  | _ => .non
/-- what a list or tuple holds -/
def seqOf (st : Sto) : D → Option (List D)
  | .tup ds => some ds
  | .ref i => match st[i]? with
    | some (.lst ds) => some ds
    | some (.ro ds) => some ds
    | _ => none
  | .ro ds => some ds
  | _ => none
def eqD (y x : D) : Bool := eqV (vOf y) (vOf x)
def inD (x : D) (ds : List D) : Bool := ds.any fun y => eqD y x
def gIn (neg : Bool) : G2 := fun a b st => match seqOf st b with
  | some ds => if flatD a && ds.all flatD then some (.bl (if neg then !inD a ds else inD a ds), st) else none
  | none => none
theorem Rp.flat {K : PySem.W.Frag} {H : Hp} {mu : List Addr} {v : V} {d : D} (h : Rp K H mu v d) (f : flatD d = true) : v = vOf d ∧ flatV v = true := by
  cases h <;> first | exact ⟨rfl, rfl⟩ | cases f
theorem Rps.flat {K : PySem.W.Frag} {H : Hp} {mu : List Addr} : ∀ {vs : List V} {ds : List D}, Rps K H mu vs ds → ds.all flatD = true → vs = ds.map vOf ∧ vs.all flatV = true
  | _, _, .nil, _ => ⟨rfl, rfl⟩
  | _, _, .cons h hs, f => by
    simp only [List.all_cons, Bool.and_eq_true] at f
    obtain ⟨e1, f1⟩ := h.flat f.1
    obtain ⟨e2, f2⟩ := Rps.flat hs f.2
    refine ⟨by rw [List.map_cons, ← e1, ← e2], ?_⟩
    rw [List.all_cons, f1, f2]; rfl
theorem inV_map (x : D) (ds : List D) : inV (vOf x) (ds.map vOf) = inD x ds := by
  unfold inV inD eqD
  rw [List.any_map]; rfl
/-- a list or tuple, as it is read -/
theorem seq_rel {K : PySem.W.Frag} {H : Hp} {mu : List Addr} {st : Sto} (hs : RelSt K H mu st) {v : V} {d : D} {ds : List D} (h : Rp K H mu v d) (e : seqOf st d = some ds) : ∃ q vs, v = .ref q ∧ (SqL K H q vs ∨ SqT K H q vs) ∧ Rps K H mu vs ds := by
  cases h with
  | tup h hs => cases e; exact ⟨_, _, rfl, .inr h.sq, hs⟩
  | ro h hs => cases e; exact ⟨_, _, rfl, .inl h.sq, hs⟩
  | ref h =>
    rename_i i q
    unfold seqOf at e
    simp only at e
    obtain ⟨o, ho, ok⟩ := hs.at h
    rw [ho] at e
    split at e
    · rename_i eq; cases e; cases eq
      obtain ⟨vs, h1, r⟩ := ok
      exact ⟨q, vs, rfl, .inl (.inl (.inl h1)), r⟩
    · rename_i eq; cases e; cases eq
      obtain ⟨od, vs, h1, r⟩ := ok
      exact ⟨q, vs, rfl, .inl (.inl (.inr ⟨od, h1⟩)), r⟩
    · cases e
  | _ => cases e
theorem opS_in {K : PySem.W.Frag} {neg : Bool} : OpS K (rIn K neg) (gIn neg) := by
  intro mu H st st' x y a b d Q hs hx hy e k
  unfold gIn at e
  split at e
  · rename_i ds hd
    split at e
    · rename_i hc
      rw [Bool.and_eq_true] at hc
      cases e
      obtain ⟨q, vs, rfl, sq, r⟩ := seq_rel hs hy hd
      obtain ⟨e1, f1⟩ := hx.flat hc.1
      obtain ⟨e2, f2⟩ := r.flat hc.2
      refine ⟨q, vs, rfl, sq, f1, f2, ?_⟩
      rw [e1, e2, inV_map]
      exact k _ _ _ .refl (.bl _) hs
    · cases e
  · cases e
/-! ### tests -/
def mTest (m : Mo D) : Mo Bool := fun ev st => (m ev st).bind fun d st1 => match d with
  | .bl b => .ok b st1
  | _ => .bad
/-- truth of any value -/
def truD (st : Sto) : D → Option Bool
  | .non => some false
  | .bl b => some b
  | .int i => some (i != 0)
  | .str x => if x.length ≤ lim then some ((x.length : Int) != 0) else none
  | .tup ds => some (!ds.isEmpty)
  | .ref i => match st[i]? with
    | some (.lst ds) => some (!ds.isEmpty)
    | some (.ro ds) => some (!ds.isEmpty)
    | _ => none
  | .ro ds => some (!ds.isEmpty)
def mTru (m : Mo D) : Mo Bool := fun ev st => (m ev st).bind fun d st1 => match truD st1 d with
  | some b => .ok b st1
  | none => .bad
def mTAnd (ta tb : Mo Bool) : Mo Bool := fun ev st => (ta ev st).bind fun b st1 => if b = true then tb ev st1 else .ok false st1
def mTOr (ta tb : Mo Bool) : Mo Bool := fun ev st => (ta ev st).bind fun b st1 => if b = true then .ok true st1 else tb ev st1
def mTNot (ta : Mo Bool) : Mo Bool := fun ev st => (ta ev st).bind fun b st1 => .ok (!b) st1
theorem tst_go {σ : L2.St} {H : Hp} {Q : Bool → Hp → Prop} {m : Mo D} (h : tT X.K W (mTest m) σ H Q) : tTest (tE X.K W m) σ H Q := by
  obtain ⟨mu, ev, st, he, hst, hp⟩ := h
  refine ⟨mu, ev, st, he, hst, hp.bind fun d st1 mu1 x H1 _ e1 r1 s1 hp1 => ?_⟩
  cases d <;> simp only at hp1 <;> first | exact hp1.elim | skip
  cases r1
  exact ⟨_, rfl, hp1 _ _ _ .refl rfl s1⟩
theorem mt_cmp {op : CmpOp} {r : R2} {g : G2} (ho : OpR X (compareOp op) r) (hs : OpS X.K r g) (ha : PE X a (tE X.K W ma)) (hb : PE X b (tE X.K W mb)) (hm : behindInMarks op b = false) : PT X (.Compare a [op] [b] pos) (tT X.K W (mTest (mOp g ma mb))) :=
  PT.imp (pt_cmpR ho ha hb hm) fun _ _ _ h => opS_go hs (tst_go h)
theorem tru_rel {K : PySem.W.Frag} {H : Hp} {mu : List Addr} {st : Sto} (s1 : RelSt K H mu st) {x : V} {d : D} {k : Bool} (r1 : Rp K H mu x d) (hk : truD st d = some k) : TruV K x H k := by
  cases r1 with
  | non => cases hk; rfl
  | bl b => cases hk; rfl
  | int i => cases hk; rfl
  | str x =>
    simp only [truD] at hk
    split at hk
    · rename_i hl
      cases hk; exact ⟨lim_le hl, rfl⟩
    · cases hk
  | tup h hs =>
    cases hk
    refine .inr (.inl ⟨_, h.sq, ?_⟩)
    cases hs <;> rfl
  | ro h hs =>
    cases hk
    refine .inl ⟨_, h.sq, ?_⟩
    cases hs <;> rfl
  | ref h =>
    simp only [truD] at hk
    obtain ⟨o, ho, ok⟩ := s1.at h
    rw [ho] at hk
    split at hk
    · rename_i eq; cases eq; cases hk
      obtain ⟨vs, h1, r⟩ := ok
      refine .inl ⟨vs, .inl (.inl h1), ?_⟩
      cases r <;> rfl
    · rename_i eq; cases eq; cases hk
      obtain ⟨od, vs, h1, r⟩ := ok
      refine .inl ⟨vs, .inl (.inr ⟨od, h1⟩), ?_⟩
      cases r <;> rfl
    · cases hk
theorem mt_tru (ha : PE X a (tE X.K W ma)) (he : ∀ whole, isTrue a X.env whole = (do let v ← whole; standAt a.pos; holding [v] (truthy v)) := by intro _; rfl) : PT X a (tT X.K W (mTru ma)) := by
  refine PT.imp (pt_truth ha he) fun σ H Q ⟨mu, ev, st, he, hst, hp⟩ => ?_
  refine ⟨mu, ev, st, he, hst, hp.bind fun d st1 mu1 x H1 _ e1 r1 s1 hp1 => ?_⟩
  split at hp1
  · rename_i k hk
    exact ⟨k, tru_rel s1 r1 hk, hp1 _ _ _ .refl rfl s1⟩
  · exact hp1.elim
theorem and_go {t u : Mo Bool} {σ : L2.St} {H : Hp} {Q : Bool → Hp → Prop} (h : tT X.K W (mTAnd t u) σ H Q) : tAnd (tT X.K W t) (tT X.K W u) σ H Q := by
  obtain ⟨mu, ev, st, he, hst, hp⟩ := h
  refine ⟨mu, ev, st, he, hst, hp.bind fun d st1 mu1 x H1 _ e1 r1 s1 hp1 => ?_⟩
  obtain rfl : x = d := r1
  cases x with
  | true => exact ⟨mu1, ev, st1, he.mono e1, s1, hp1⟩
  | false => exact hp1 _ _ _ .refl rfl s1
theorem or_go {t u : Mo Bool} {σ : L2.St} {H : Hp} {Q : Bool → Hp → Prop} (h : tT X.K W (mTOr t u) σ H Q) : tOr (tT X.K W t) (tT X.K W u) σ H Q := by
  obtain ⟨mu, ev, st, he, hst, hp⟩ := h
  refine ⟨mu, ev, st, he, hst, hp.bind fun d st1 mu1 x H1 _ e1 r1 s1 hp1 => ?_⟩
  obtain rfl : x = d := r1
  cases x with
  | true => exact hp1 _ _ _ .refl rfl s1
  | false => exact ⟨mu1, ev, st1, he.mono e1, s1, hp1⟩
theorem mw_and1 (ha : PT X a (tT X.K W ta)) : PW X (.BoolOp .And [a] pos) (tT X.K W ta) := pw_and1 ha
theorem mw_or1 (ha : PT X a (tT X.K W ta)) : PW X (.BoolOp .Or [a] pos) (tT X.K W ta) := pw_or1 ha
theorem mw_and (ha : PT X a (tT X.K W ta)) (hb : PW X (.BoolOp .And (b :: rest) pos) (tT X.K W tb)) : PW X (.BoolOp .And (a :: b :: rest) pos) (tT X.K W (mTAnd ta tb)) := PW.imp (pw_and ha hb) fun _ _ _ h => and_go h
theorem mw_or (ha : PT X a (tT X.K W ta)) (hb : PW X (.BoolOp .Or (b :: rest) pos) (tT X.K W tb)) : PW X (.BoolOp .Or (a :: b :: rest) pos) (tT X.K W (mTOr ta tb)) := PW.imp (pw_or ha hb) fun _ _ _ h => or_go h
theorem mt_w (h : PW X e (tT X.K W ta)) : PT X e (tT X.K W ta) := h.pt
theorem mt_not (ha : PT X a (tT X.K W ta)) : PT X (.UnaryOp .Not a pos) (tT X.K W (mTNot ta)) := by
  refine PT.imp (pt_not ha) fun σ H Q ⟨mu, ev, st, he, hst, hp⟩ => ?_
  refine ⟨mu, ev, st, he, hst, hp.bind fun d st1 mu1 x H1 _ e1 r1 s1 hp1 => ?_⟩
  obtain rfl : x = d := r1
  exact hp1 _ _ _ .refl rfl s1
/-! ### and, or, not as values (of truths); a if t else b; a < b < c -/
def mAnd (ma mb : Mo D) : Mo D := fun ev st => (ma ev st).bind fun d st1 => match d with
  | .bl true => mb ev st1
  | .bl false => .ok (.bl false) st1
  | _ => .bad
def mOr (ma mb : Mo D) : Mo D := fun ev st => (ma ev st).bind fun d st1 => match d with
  | .bl true => .ok (.bl true) st1
  | .bl false => mb ev st1
  | _ => .bad
def mNot (ma : Mo D) : Mo D := fun ev st => (ma ev st).bind fun d st1 => match truD st1 d with
  | some b => .ok (.bl (!b)) st1
  | none => .bad
def mIf (t : Mo Bool) (ma mb : Mo D) : Mo D := fun ev st => (t ev st).bind fun b st1 => if b = true then ma ev st1 else mb ev st1
def mChain (g g' : G2) (ma mb mc : Mo D) : Mo D := fun ev st => (ma ev st).bind fun x st1 => (mb ev st1).bind fun y st2 => (Rs.of (g x y st2)).bind fun z st3 => match z with
  | .bl true => (mc ev st3).bind fun w st4 => Rs.of (g' y w st4)
  | .bl false => .ok (.bl false) st3
  | _ => .bad
theorem me_one {op : BoolOp} (h : PE X a (tE X.K W ma)) : PE X (.BoolOp op [a] pos) (tE X.K W ma) := pe_one h
theorem me_and (ha : PE X a (tE X.K W ma)) (hb : PE X (.BoolOp .And (b :: rest) pos) (tE X.K W mb)) : PE X (.BoolOp .And (a :: b :: rest) pos) (tE X.K W (mAnd ma mb)) := by
  refine PE.imp (pe_and ha hb) fun σ H Q ⟨mu, ev, st, he, hst, hp⟩ => ?_
  refine ⟨mu, ev, st, he, hst, hp.bind fun d st1 mu1 x H1 _ e1 r1 s1 hp1 => ?_⟩
  split at hp1
  · cases r1; exact ⟨true, rfl, ⟨mu1, ev, st1, he.mono e1, s1, hp1⟩⟩
  · cases r1; exact ⟨false, rfl, hp1 _ _ _ .refl (.bl _) s1⟩
  · exact hp1.elim
theorem me_or (ha : PE X a (tE X.K W ma)) (hb : PE X (.BoolOp .Or (b :: rest) pos) (tE X.K W mb)) : PE X (.BoolOp .Or (a :: b :: rest) pos) (tE X.K W (mOr ma mb)) := by
  refine PE.imp (pe_or ha hb) fun σ H Q ⟨mu, ev, st, he, hst, hp⟩ => ?_
  refine ⟨mu, ev, st, he, hst, hp.bind fun d st1 mu1 x H1 _ e1 r1 s1 hp1 => ?_⟩
  split at hp1
  · cases r1; exact ⟨true, rfl, hp1 _ _ _ .refl (.bl _) s1⟩
  · cases r1; exact ⟨false, rfl, ⟨mu1, ev, st1, he.mono e1, s1, hp1⟩⟩
  · exact hp1.elim
theorem me_not (ha : PE X a (tE X.K W ma)) : PE X (.UnaryOp .Not a pos) (tE X.K W (mNot ma)) := by
  refine PE.imp (pe_notT ha) fun σ H Q ⟨mu, ev, st, he, hst, hp⟩ => ?_
  refine ⟨mu, ev, st, he, hst, hp.bind fun d st1 mu1 x H1 _ e1 r1 s1 hp1 => ?_⟩
  split at hp1
  · rename_i k hk
    exact ⟨k, tru_rel s1 r1 hk, hp1 _ _ _ .refl (.bl _) s1⟩
  · exact hp1.elim
theorem me_ifExp (hc : PT X c (tT X.K W ta)) (ha : PE X a (tE X.K W ma)) (hb : PE X b (tE X.K W mb)) : PE X (.IfExp c a b pos) (tE X.K W (mIf ta ma mb)) := by
  refine PE.imp (pe_ifExp hc ha hb) fun σ H Q ⟨mu, ev, st, he, hst, hp⟩ => ?_
  refine ⟨mu, ev, st, he, hst, hp.bind fun d st1 mu1 x H1 _ e1 r1 s1 hp1 => ?_⟩
  obtain rfl : x = d := r1
  cases x with
  | true => exact ⟨mu1, ev, st1, he.mono e1, s1, hp1⟩
  | false => exact ⟨mu1, ev, st1, he.mono e1, s1, hp1⟩
theorem chain_go {r r' : R2} {g g' : G2} (hs : OpS X.K r g) (hs' : OpS X.K r' g') {σ : L2.St} {H : Hp} {Q : VK} (h : tE X.K W (mChain g g' ma mb mc) σ H Q) : tChain r r' (tE X.K W ma) (tE X.K W mb) (tE X.K W mc) σ H Q := by
  obtain ⟨mu, ev, st, he, hst, hp⟩ := h
  refine ⟨mu, ev, st, he, hst, hp.bind fun d st1 mu1 x H1 _ e1 r1 s1 hp1 => ?_⟩
  refine ⟨mu1, ev, st1, he.mono e1, s1, hp1.bind fun d2 st2 mu2 y H2 _ e2 r2 s2 hp2 => ?_⟩
  cases eg : g d d2 st2 with
  | none => rw [eg] at hp2; exact hp2.elim
  | some z =>
    obtain ⟨d3, st3⟩ := z
    rw [eg] at hp2
    refine hs mu2 H2 st2 st3 x y _ _ d3 _ s2 (Rp.mono e2 r1) r2 eg fun mu3 v H3 e3 r3 s3 => ?_
    have hp3 := Post.from hp2 e3
    simp only [Rs.of, Rs.bind_ok] at hp3
    split at hp3
    · cases r3
      refine ⟨true, rfl, iteT ⟨mu3, ev, st3, (he.mono e1).mono (e2.trans e3), s3, hp3.bind fun d4 st4 mu4 w H4 _ e4 r4 s4 hp4 => ?_⟩⟩
      obtain ⟨d5, st5, eq, k⟩ := post_of hp4
      exact hs' mu4 H4 st4 st5 y w _ _ d5 Q s4 (Rp.mono (e3.trans e4) r2) r4 eq k
    · cases r3
      exact ⟨false, rfl, iteF (hp3 _ _ _ .refl (.bl _) s3)⟩
    · exact hp3.elim
theorem me_chain {op op' : CmpOp} {r r' : R2} {g g' : G2} (ho : OpR X (compareOp op) r) (hs : OpS X.K r g) (ho' : OpR X (compareOp op') r') (hs' : OpS X.K r' g') (ha : PE X a (tE X.K W ma)) (hb : PE X b (tE X.K W mb)) (hc : PE X c (tE X.K W mc))
    (hm : lastMarks [op, op'] [b, c] = false := by with_unfolding_all rfl) : PE X (.Compare a [op, op'] [b, c] pos) (tE X.K W (mChain g g' ma mb mc)) :=
  PE.imp (pe_chain ho ho' ha hb hc hm) fun _ _ _ h => chain_go hs hs' h
theorem mt_chain {op op' : CmpOp} {r r' : R2} {g g' : G2} (ho : OpR X (compareOp op) r) (hs : OpS X.K r g) (ho' : OpR X (compareOp op') r') (hs' : OpS X.K r' g') (ha : PE X a (tE X.K W ma)) (hb : PE X b (tE X.K W mb)) (hc : PE X c (tE X.K W mc))
    (hm : lastMarks [op, op'] [b, c] = false := by with_unfolding_all rfl) : PT X (.Compare a [op, op'] [b, c] pos) (tT X.K W (mTest (mChain g g' ma mb mc))) :=
  PT.imp (pt_chain ho ho' ha hb hc hm) fun _ _ _ h => chain_go hs hs' (tst_go h)
end Ml

namespace Ml
open PySem L2
variable {X : Cx} {W : Wx} {a b c e : Expr} {es rest : List Expr} {pos p q : Pos} {ma mb mc : Mo D} {mr : Mo (List D)} {ta tb : Mo Bool}
/-! ### an item -/
theorem Rps.atI {K : PySem.W.Frag} {H : Hp} {mu : List Addr} {vs : List V} {ds : List D} (h : Rps K H mu vs ds) {i : Int} {d : D} (e : L2.atI ds i = some d) : ∃ v, L2.atI vs i = some v ∧ Rp K H mu v d := by
  unfold L2.atI at e ⊢
  rw [Rps.length h]
  cases hx : ixN ds.length i with
  | none => rw [hx] at e; cases e
  | some j =>
    rw [hx] at e
    exact h.get e
def gIx : G2 := fun a b st => match b with
  | .int i => (match a with
    | .str z => if z.length ≤ lim then (match L2.atI z.cps.toList i with
      | some c => some (.str ⟨#[c]⟩, st)
      | none => none) else none
    | _ => match seqOf st a with
      | some ds => (match L2.atI ds i with
        | some d => some (d, st)
        | none => none)
      | none => none)
  | _ => none
theorem opS_ix {K : PySem.W.Frag} : OpS K (rIx K) gIx := by
  intro mu H st st' x y a b d Q hs hx hy e k
  unfold gIx at e
  split at e
  · cases hy
    split at e
    · cases hx
      split at e
      · rename_i hl
        split at e
        · rename_i c hc
          cases e
          exact .inr (.inr ⟨_, _, c, rfl, rfl, lim_le hl, hc, k _ _ _ .refl (.str _) hs⟩)
        · cases e
      · cases e
    · split at e
      · rename_i ds hd
        split at e
        · rename_i d' hd'
          cases e
          obtain ⟨q, vs, rfl, sq, r⟩ := seq_rel hs hx hd
          obtain ⟨v, hv, rv⟩ := r.atI hd'
          rcases sq with sq | sq
          · exact .inl ⟨q, vs, _, v, rfl, rfl, sq, hv, k _ _ _ .refl rv hs⟩
          · exact .inr (.inl ⟨q, vs, _, v, rfl, rfl, sq, hv, k _ _ _ .refl rv hs⟩)
        · cases e
      · cases e
  · cases e
theorem me_item (ha : PE X a (tE X.K W ma)) (hb : PE X b (tE X.K W mb)) (hx : PlainIx b := by exact fun _ _ => rfl) : PE X (.Subscript a b pos) (tE X.K W (mOp gIx ma mb)) := me_ix ix_seq opS_ix ha hb hx
/-! ### slices -/
abbrev MoO := Mo (Option Int)
def mNoPart : MoO := fun _ st => .ok none st
def mPart (m : Mo D) : MoO := fun ev st => (m ev st).bind fun d st1 => match d with
  | .int i => .ok (some i) st1
  | _ => .bad
def RO : RR (Option Int) (Option Int) := ⟨fun _ _ _ _ v d => v = d, fun _ h => h⟩
abbrev tO (K : PySem.W.Frag) (W : Wx) (m : MoO) : TO := tG K W RO m
theorem PO.imp {e : Option Expr} {t t' : TO} (h : PO X e t) (k : ∀ σ H Q, t' σ H Q → t σ H Q) : PO X e t' := ⟨fun pins s σ H Q I hw => h.run pins s σ H Q I (k σ H Q hw)⟩
theorem mo_none : PO X none (tO X.K W mNoPart) := PO.imp po_none fun σ H Q ⟨mu, ev, st, he, hs, hp⟩ => hp _ _ _ .refl rfl hs
theorem mo_some (h : PE X e (tE X.K W ma)) : PO X (some e) (tO X.K W (mPart ma)) := by
  refine PO.imp (po_some h) fun σ H Q ⟨mu, ev, st, he, hst, hp⟩ => ?_
  refine ⟨mu, ev, st, he, hst, hp.bind fun d st1 mu1 x H1 _ e1 r1 s1 hp1 => ?_⟩
  cases d <;> simp only at hp1 <;> first | exact hp1.elim | skip
  cases r1
  exact ⟨_, rfl, hp1 _ _ _ .refl rfl s1⟩
def cutD {α : Type} (ds : List α) (lo hi : Option Int) : List α := (ds.drop (HT.sIx ds.length 0 lo)).take (HT.sIx ds.length ds.length hi - HT.sIx ds.length 0 lo)
def gSl (a : D) (lo hi : Option Int) : Option D := match a with
  | .tup ds => some (.tup (cutD ds lo hi))
  | .str z => if z.length ≤ lim then some (.str (cutS z lo hi)) else none
  | _ => none
def mSl (ma : Mo D) (ml mh : MoO) : Mo D := fun ev st => (ma ev st).bind fun d st1 => (ml ev st1).bind fun lo st2 => (mh ev st2).bind fun hi st3 => match gSl d lo hi with
  | some d' => .ok d' st3
  | none => .bad
theorem cut_whole {α : Type} (ds : List α) (lo hi : Option Int) (h : HT.sIx ds.length 0 lo = 0 ∧ HT.sIx ds.length ds.length hi = ds.length) : cutD ds lo hi = ds := by
  unfold cutD
  rw [h.1, h.2]; simp
theorem Rps.cut {K : PySem.W.Frag} {H : Hp} {mu : List Addr} {vs : List V} {ds : List D} (h : Rps K H mu vs ds) (lo hi : Option Int) : Rps K H mu (cutV vs lo hi) (cutD ds lo hi) := by
  unfold cutV cutD
  rw [Rps.length h]
  exact (h.drop _).take _
theorem me_slice {lo hi : Option Expr} {ml mh : MoO} {p2 : Pos} (ha : PE X e (tE X.K W ma)) (hl : PO X lo (tO X.K W ml)) (hu : PO X hi (tO X.K W mh)) : PE X (.Subscript e (.Slice lo hi none p2) pos) (tE X.K W (mSl ma ml mh)) := by
  refine PE.imp (pe_slice (sl_tupA.or sl_str) ha hl hu) fun σ H Q ⟨mu, ev, st, he, hst, hp⟩ => ?_
  refine ⟨mu, ev, st, he, hst, hp.bind fun d st1 mu1 x H1 _ e1 r1 s1 hp1 => ?_⟩
  refine ⟨mu1, ev, st1, he.mono e1, s1, hp1.bind fun lo st2 mu2 l H2 _ e2 r2 s2 hp2 => ?_⟩
  refine ⟨mu2, ev, st2, (he.mono e1).mono e2, s2, hp2.bind fun hi st3 mu3 u H3 _ e3 r3 s3 hp3 => ?_⟩
  obtain rfl : l = lo := r2
  obtain rfl : u = hi := r3
  have r1 := Rp.mono (e2.trans e3) r1
  split at hp3
  · rename_i d' hd
    unfold gSl at hd
    split at hd
    · cases hd
      cases r1 with
      | tup ht hs =>
        rename_i q vs ds
        refine .inl ⟨_, _, rfl, ht.sq, fun hw => ?_, fun hw p hp => ?_⟩
        · refine hp3 _ _ _ .refl (.tup ht ?_) s3
          rw [cut_whole]; exact hs
          rw [← Rps.length hs]; exact hw
        · exact hp3 _ _ _ (ext_new hp _) (.tup (.inl upd_same) ((hs.cut l u).ctx hp)) (s3.new hp _)
    · split at hd
      · rename_i hz
        cases hd; cases r1
        exact .inr ⟨_, rfl, lim_le hz, hp3 _ _ _ .refl (.str _) s3⟩
      · cases hd
    · cases hd
  · exact hp3.elim
/-! ### len, int, abs, min, max, str, isinstance -/
def lenD (st : Sto) : D → Option Nat
  | .str x => if x.length ≤ lim then some x.length else none
  | d => (seqOf st d).map (·.length)
def gLen : GA := fun ds st => match ds with
  | [d] => (lenD st d).map fun n => (.int n, st)
  | _ => none
theorem callS_len {K : PySem.W.Frag} : CallS K (fun xs H Q => ∃ x n, xs = [x] ∧ LenV K x H n ∧ Q (.int n) H) gLen := by
  intro mu H st st' xs as d Q hs hx e k
  unfold gLen at e
  split at e
  · cases hx with
    | cons h1 h2 =>
      cases h2
      rename_i d0 v
      cases hn : lenD st d0 with
      | none => rw [hn] at e; cases e
      | some n =>
        rw [hn] at e
        cases e
        refine ⟨_, n, rfl, ?_, k _ _ _ .refl (.int _) hs⟩
        unfold lenD at hn
        split at hn
        · cases h1
          split at hn
          · rename_i hl; cases hn; exact ⟨lim_le hl, rfl⟩
          · cases hn
        · cases hq : seqOf st d0 with
          | none => rw [hq] at hn; cases hn
          | some ds =>
            rw [hq] at hn
            cases hn
            obtain ⟨q, vs, rfl, sq, r⟩ := seq_rel hs h1 hq
            rcases sq with sq | sq
            · exact .inl ⟨vs, sq, (Rps.length r).symm⟩
            · exact .inr ⟨vs, sq, (Rps.length r).symm⟩
  · cases e
def gInt : GA := fun ds st => match ds with
  | [.int i] => some (.int i, st)
  | [.bl b] => some (.int (if b then 1 else 0), st)
  | _ => none
theorem callS_int {K : PySem.W.Frag} : CallS K (fun xs H Q => (∃ i, xs = [.int i] ∧ Q (.int i) H) ∨ ∃ k, xs = [.bl k] ∧ Q (.int (if k then 1 else 0)) H) gInt := by
  intro mu H st st' xs as d Q hs hx e k
  unfold gInt at e
  split at e
  · cases e; cases hx with | cons h1 h2 => cases h2; cases h1; exact .inl ⟨_, rfl, k _ _ _ .refl (.int _) hs⟩
  · cases e; cases hx with | cons h1 h2 => cases h2; cases h1; exact .inr ⟨_, rfl, k _ _ _ .refl (.int _) hs⟩
  · cases e
def gAbs : GA := fun ds st => match ds with
  | [.int i] => some (.int (if i < 0 then -i else i), st)
  | _ => none
theorem callS_abs {K : PySem.W.Frag} : CallS K (fun xs H Q => ∃ i, xs = [.int i] ∧ Q (.int (if i < 0 then -i else i)) H) gAbs := by
  intro mu H st st' xs as d Q hs hx e k
  unfold gAbs at e
  split at e
  · cases e; cases hx with | cons h1 h2 => cases h2; cases h1; exact ⟨_, rfl, k _ _ _ .refl (.int _) hs⟩
  · cases e
def gMax : GA := fun ds st => match ds with
  | [.int i, .int j] => some (.int (if j > i then j else i), st)
  | _ => none
def gMin : GA := fun ds st => match ds with
  | [.int i, .int j] => some (.int (if j < i then j else i), st)
  | _ => none
theorem callS_max {K : PySem.W.Frag} : CallS K (fun xs H Q => ∃ i j, xs = [.int i, .int j] ∧ Q (.int (if j > i then j else i)) H) gMax := by
  intro mu H st st' xs as d Q hs hx e k
  unfold gMax at e
  split at e
  · cases e; cases hx with | cons h1 h2 => cases h2 with | cons h2 h3 => cases h3; cases h1; cases h2; exact ⟨_, _, rfl, k _ _ _ .refl (.int _) hs⟩
  · cases e
theorem callS_min {K : PySem.W.Frag} : CallS K (fun xs H Q => ∃ i j, xs = [.int i, .int j] ∧ Q (.int (if j < i then j else i)) H) gMin := by
  intro mu H st st' xs as d Q hs hx e k
  unfold gMin at e
  split at e
  · cases e; cases hx with | cons h1 h2 => cases h2 with | cons h2 h3 => cases h3; cases h1; cases h2; exact ⟨_, _, rfl, k _ _ _ .refl (.int _) hs⟩
  · cases e
def gStr : GA := fun ds st => match ds with
  | [.int i] => if i.natAbs < 1000000 then some (.str (toString i), st) else none
  | _ => none
theorem callS_str {K : PySem.W.Frag} : CallS K (fun xs H Q => ∃ i : Int, xs = [.int i] ∧ i.natAbs.log2 < 1920 ∧ Q (.str (toString i)) H) gStr := by
  intro mu H st st' xs as d Q hs hx e k
  unfold gStr at e
  split at e
  · split at e
    · rename_i hl
      cases e; cases hx with
      | cons h1 h2 =>
        cases h2; cases h1
        refine ⟨_, rfl, ?_, k _ _ _ .refl (.str _) hs⟩
        refine Nat.lt_of_le_of_lt (m := 20) ?_ (by decide)
        rename_i i
        by_cases h0 : i.natAbs = 0
        · rw [h0]; decide
        · exact Nat.le_of_lt ((Nat.log2_lt h0).mpr (Nat.lt_trans hl (by decide)))
    · cases e
  · cases e
def tyD (st : Sto) : D → Option String
  | .non => some "NoneType"
  | .bl _ => some "bool"
  | .int _ => some "int"
  | .str _ => some "str"
  | .tup _ => some "tuple"
  | .ref i => match st[i]? with
    | some (.lst _) => some "list"
    | some (.ro _) => some "list"
    | some (.dK _ _) => some "dict"
    | some (.dT false _) => some "dict"
    | _ => none
  | .ro _ => some "list"
def isiB (t c : String) : Bool := t == c || (t == "bool" && c == "int")
def okCls (c : String) : Bool := c == "int" || c == "bool" || c == "str" || c == "tuple" || c == "list"
def okTy (c : String) : Bool := c == "int" || c == "bool" || c == "str" || c == "tuple" || c == "list" || c == "NoneType" || c == "dict"
theorem kit_all {t c : String} (h : okTy t = true) (h' : okCls c = true) : kitB t c = some (isiB t c) := by
  simp only [okTy, okCls, Bool.or_eq_true, beq_iff_eq] at h h'
  rcases h' with (((h' | h') | h') | h') | h' <;> subst h' <;> rcases h with (((((h | h) | h) | h) | h) | h) | h <;> subst h <;> decide +kernel
theorem tyX_of {K : PySem.W.Frag} {H : Hp} {mu : List Addr} {st : Sto} (hs : RelSt K H mu st) {v : V} {d : D} {t : String} (h : Rp K H mu v d) (e : tyD st d = some t) : TyX K H v (.type t) ∧ okTy t = true := by
  cases h with
  | non => cases e; exact ⟨.base .non, by decide⟩
  | bl b => cases e; exact ⟨.base (.bl b), by decide⟩
  | int b => cases e; exact ⟨.base (.int b), by decide⟩
  | str b => cases e; exact ⟨.base (.str b), by decide⟩
  | tup h r =>
    cases e
    refine ⟨?_, by decide⟩
    rcases h with h | ⟨_, o, its, n, h1, h2, _⟩
    · exact .base (.tup h)
    · exact .kTuple h1 h2
  | ro h r =>
    cases e
    refine ⟨?_, by decide⟩
    rcases h with ⟨o, h, _⟩ | ⟨o, its, n, h1, h2, _⟩
    · exact .base (.frz h)
    · exact .kList h1 h2
  | ref h =>
    simp only [tyD] at e
    obtain ⟨o, ho, ok⟩ := hs.at h
    rw [ho] at e
    split at e
    · rename_i eq; cases eq; cases e
      obtain ⟨vs, h1, _⟩ := ok
      exact ⟨.base (.lst h1), by decide⟩
    · rename_i eq; cases eq; cases e
      obtain ⟨o, vs, h1, _⟩ := ok
      exact ⟨.base (.frz h1), by decide⟩
    · rename_i lk kvs eq; cases eq; cases e
      cases lk with
      | true => obtain ⟨o, ws, h1, _⟩ := ok; exact ⟨.fDict h1, by decide⟩
      | false => obtain ⟨ws, h1, _⟩ := ok; exact ⟨.base (.dK h1), by decide⟩
    · rename_i eq; cases eq; cases e
      obtain ⟨ws, h1, _⟩ := ok
      exact ⟨.base (.dT h1), by decide⟩
    · cases e
def mIsi (c : String) (m : Mo D) : Mo D := fun ev st => (m ev st).bind fun d st1 => match tyD st1 d with
  | some t => .ok (.bl (isiB t c)) st1
  | none => .bad
theorem me_isi {x : Str} {T : String} {p2 : Pos} (hg : Gl X "isinstance") (hm : X.mg "isinstance" = none) (hg2 : Gl X x) (hm2 : X.mg x = none) (hv2 : bootBuiltins x = some (.type T)) (hT : okCls T = true) (ha : PE X a (tE X.K W ma)) (hn2 : x ≠ "__name__" := by decide) (hd2 : (x == ("__debug__" : Str)) = false := by decide)
    (hs0 : starEach [.Name x p2] X.env = (false, eval (.Name x p2) X.env) :: starEach [] X.env := by rfl) (he : starEach [a, .Name x p2] X.env = (false, eval a X.env) :: starEach [.Name x p2] X.env := by rfl) (hpl : (backTo pos (starEach [.Name x p2] X.env)).any (·.1) = false := by rfl) :
    PE X (.Call (.Name "isinstance" p) [a, .Name x p2] [] pos) (tE X.K W (mIsi T ma)) := by
  refine PE.imp (pe_callB call_isi hg hm (by decide +kernel) (pa_cons ha (pa_cons (pe_bltn (v := .ty T) hg2 hm2 hv2 rfl hn2 hd2) pa_nil hs0) he) (by decide) (by decide) he hpl) fun σ H Q ⟨mu, ev, st, he, hst, hp⟩ => ?_
  refine ⟨mu, ev, st, he, hst, hp.bind fun d st1 mu1 x H1 _ e1 r1 s1 hp1 => ?_⟩
  split at hp1
  · rename_i t ht
    obtain ⟨ty, ok⟩ := tyX_of s1 r1 ht
    exact ⟨x, .ty T, .type t, .type T, isiB t T, rfl, .ty T, ty, kit_ty (kit_all ok hT), hp1 _ _ _ .refl (.bl _) s1⟩
  · exact hp1.elim
def mIsi2 (c c' : String) (m : Mo D) : Mo D := fun ev st => (m ev st).bind fun d st1 => match tyD st1 d with
  | some t => .ok (.bl (isiB t c || isiB t c')) st1
  | none => .bad
theorem me_isi2 {x y : Str} {T T' : String} {p2 p3 p4 : Pos} {k : Nat} (hg : Gl X "isinstance") (hm : X.mg "isinstance" = none) (hg2 : Gl X x) (hm2 : X.mg x = none) (hv2 : bootBuiltins x = some (.type T)) (hT : okCls T = true) (hg3 : Gl X y) (hm3 : X.mg y = none) (hv3 : bootBuiltins y = some (.type T')) (hT' : okCls T' = true)
    (ha : PE X a (tE X.K W ma)) (hn2 : x ≠ "__name__" := by decide) (hd2 : (x == ("__debug__" : Str)) = false := by decide) (hn3 : y ≠ "__name__" := by decide) (hd3 : (y == ("__debug__" : Str)) = false := by decide)
    (hs0 : starEach [.Tuple [.Name x p2, .Name y p3] k p4] X.env = (false, eval (.Tuple [.Name x p2, .Name y p3] k p4) X.env) :: starEach [] X.env := by rfl) (hs1 : starEach [.Name x p2, .Name y p3] X.env = (false, eval (.Name x p2) X.env) :: starEach [.Name y p3] X.env := by rfl) (hs2 : starEach [.Name y p3] X.env = (false, eval (.Name y p3) X.env) :: starEach [] X.env := by rfl)
    (he : starEach [a, .Tuple [.Name x p2, .Name y p3] k p4] X.env = (false, eval a X.env) :: starEach [.Tuple [.Name x p2, .Name y p3] k p4] X.env := by rfl) (hpl : (backTo pos (starEach [.Tuple [.Name x p2, .Name y p3] k p4] X.env)).any (·.1) = false := by rfl) :
    PE X (.Call (.Name "isinstance" p) [a, .Tuple [.Name x p2, .Name y p3] k p4] [] pos) (tE X.K W (mIsi2 T T' ma)) := by
  refine PE.imp (pe_callB call_isiT hg hm (by decide +kernel) (pa_cons ha (pa_cons (pe_tup (pa_cons (pe_bltn (v := .ty T) hg2 hm2 hv2 rfl hn2 hd2) (pa_cons (pe_bltn (v := .ty T') hg3 hm3 hv3 rfl hn3 hd3) pa_nil hs2) hs1)) pa_nil hs0) he) (by decide) (by decide) he hpl) fun σ H Q ⟨mu, ev, st, he, hst, hp⟩ => ?_
  refine ⟨mu, ev, st, he, hst, hp.bind fun d st1 mu1 x H1 _ e1 r1 s1 hp1 => ?_⟩
  split at hp1
  · rename_i t ht
    refine ⟨by show 2 ≤ sizeLine; decide, fun p hp => ?_⟩
    have s2 := s1.new hp (.tup [.ty T, .ty T'])
    obtain ⟨ty, ok⟩ := tyX_of s2 (Rp.mono (ext_new hp _) r1) ht
    refine ⟨x, p, [.ty T, .ty T'], .type t, [.type T, .type T'], isiB t T || isiB t T', rfl, upd_same, .cons (.ty T) (.cons (.ty T') .nil), ty, ?_, hp1 _ _ _ (ext_new hp _) (.bl _) s2⟩
    refine kitAny_cons (kit_ty (kit_all ok hT)) (fun e1 => ?_) (fun e1 => by rw [e1]; rfl)
    refine kitAny_cons (kit_ty (kit_all ok hT')) (fun e2 => ?_) (fun e2 => by rw [e2]; simp)
    rw [e1, e2]; rfl
  · exact hp1.elim
/-! ### a list that is read: a new one, or one of the store's -/
def RQ (K : PySem.W.Frag) : RR V (List D) := ⟨fun _ H mu _ v ds => ∃ p vs, v = .ref p ∧ SqL K H p vs ∧ Rps K H mu vs ds, fun _ h => h⟩
abbrev tQ (K : PySem.W.Frag) (W : Wx) (m : Mo (List D)) : TE := tG K W (RQ K) m
def mLst (m : Mo D) : Mo (List D) := fun ev st => (m ev st).bind fun d st1 => match d with
  | .ref i => (match st1[i]? with
    | some (.lst ds) => .ok ds st1
    | some (.ro ds) => .ok ds st1
    | _ => .bad)
  | .ro ds => .ok ds st1
  | _ => .bad
theorem mq_new (h : PE X e (tL X.K W mr)) : PE X e (tQ X.K W mr) := by
  refine PE.imp h fun σ H Q ⟨mu, ev, st, he, hst, hp⟩ => ⟨mu, ev, st, he, hst, ?_⟩
  cases hr : mr ev st with
  | bad => rw [hr] at hp; exact hp
  | exc c e s => rw [hr] at hp; exact hp
  | ok ds st1 =>
    rw [hr] at hp
    exact fun mu1 x H1 e1 ⟨p, vs, ex, h0, hpp, hn, rs⟩ s1 => hp mu1 x H1 e1 ⟨p, vs, ex, .inl (.inl hpp), rs⟩ s1
theorem mq_ref (h : PE X e (tE X.K W ma)) : PE X e (tQ X.K W (mLst ma)) := by
  refine PE.imp h fun σ H Q ⟨mu, ev, st, he, hst, hp⟩ => ?_
  refine ⟨mu, ev, st, he, hst, hp.bind fun d st1 mu1 x H1 _ e1 r1 s1 hp1 => ?_⟩
  split at hp1
  · cases r1 with
    | ref hi =>
      obtain ⟨o, ho, ok⟩ := s1.at hi
      rw [ho] at hp1
      split at hp1
      · rename_i eq; cases eq
        obtain ⟨vs, h1, r⟩ := ok
        exact hp1 _ _ _ .refl ⟨_, vs, rfl, .inl (.inl h1), r⟩ s1
      · rename_i eq; cases eq
        obtain ⟨od, vs, h1, r⟩ := ok
        exact hp1 _ _ _ .refl ⟨_, vs, rfl, .inl (.inr ⟨od, h1⟩), r⟩ s1
      · exact hp1.elim
  · cases r1 with
    | ro h r => exact hp1 _ _ _ .refl ⟨_, _, rfl, h.sq, r⟩ s1
  · exact hp1.elim
/-- a call of one list -/
def QS (K : PySem.W.Frag) {ξ α : Type} (R : RR ξ α) (r : List V → Hp → (ξ → Hp → Prop) → Prop) (g : List D → Option α) : Prop := ∀ (mu : List Addr) (H : Hp) (st : Sto) (p : Addr) (vs : List V) (ds : List D) (d : α) (Q : ξ → Hp → Prop), RelSt K H mu st → SqL K H p vs → Rps K H mu vs ds → g ds = some d →
  (∀ mu' v H', Ext mu H mu' H' → R.r H H' mu' st v d → RelSt K H' mu' st → Q v H') → r [.ref p] H Q
def mQ {α : Type} (g : List D → Option α) (mr : Mo (List D)) : Mo α := fun ev st => (mr ev st).bind fun ds st1 => match g ds with
  | some d => .ok d st1
  | none => .bad
theorem qs_go {r : List V → Hp → VK → Prop} {α : Type} {R : RR V α} {g : List D → Option α} (hs : QS X.K R r g) {σ : L2.St} {H : Hp} {Q : VK} (h : tG X.K W R (mQ g mr) σ H Q) : tCB r (tCons (tQ X.K W mr) tNil) σ H Q := by
  obtain ⟨mu, ev, st, he, hst, hp⟩ := h
  refine ⟨mu, ev, st, he, hst, hp.bind fun ds st1 mu1 x H1 _ e1 r1 s1 hp1 => ?_⟩
  obtain ⟨p, vs, rfl, sq, rs⟩ := r1
  cases hg : g ds with
  | none => rw [hg] at hp1; exact hp1.elim
  | some d =>
    rw [hg] at hp1
    exact hs mu1 H1 st1 p vs ds d Q s1 sq rs hg hp1
theorem mq_callB {id : String} {x : Str} {α : Type} {R : RR V α} {r : List V → Hp → VK → Prop} {g : List D → Option α} (hc : CallR X (.builtin id) r) (hs : QS X.K R r g) (hg : Gl X x) (hm : X.mg x = none) (hv : bootBuiltins x = some (.builtin id)) (ha : PE X e (tQ X.K W mr)) (hn : x ≠ "__name__" := by decide) (hdb : (x == ("__debug__" : Str)) = false := by decide)
    (he : starEach [e] X.env = (false, eval e X.env) :: starEach [] X.env := by rfl) : PE X (.Call (.Name x p) [e] [] pos) (tG X.K W R (mQ g mr)) :=
  PE.imp (pe_callB hc hg hm hv (pa_cons ha pa_nil he) hn hdb he rfl) fun _ _ _ h => qs_go (R := R) hs h
theorem mq_callTy {id : String} {x : Str} {α : Type} {R : RR V α} {r : List V → Hp → VK → Prop} {g : List D → Option α} (hc : CallR X (.type id) r) (hs : QS X.K R r g) (hg : Gl X x) (hm : X.mg x = none) (hv : bootBuiltins x = some (.type id)) (ha : PE X e (tQ X.K W mr)) (hn : x ≠ "__name__" := by decide) (hdb : (x == ("__debug__" : Str)) = false := by decide)
    (he : starEach [e] X.env = (false, eval e X.env) :: starEach [] X.env := by rfl) : PE X (.Call (.Name x p) [e] [] pos) (tG X.K W R (mQ g mr)) :=
  PE.imp (pe_callTy hc hg hm hv (pa_cons ha pa_nil he) hn hdb he rfl) fun _ _ _ h => qs_go (R := R) hs h
def intsOf : List D → Option (List Int)
  | [] => some []
  | .int i :: ds => (intsOf ds).map (i :: ·)
  | _ => none
def blsOf : List D → Option (List Bool)
  | [] => some []
  | .bl i :: ds => (blsOf ds).map (i :: ·)
  | _ => none
theorem Rps.ints {K : PySem.W.Frag} {H : Hp} {mu : List Addr} : ∀ {vs : List V} {ds : List D} {ns : List Int}, Rps K H mu vs ds → intsOf ds = some ns → vs = ns.map V.int
  | _, _, _, .nil, e => by cases e; rfl
  | _, _, ns, .cons h hs, e => by
    cases h <;> simp only [intsOf] at e <;> try cases e
    cases hq : intsOf _ with
    | none => rw [hq] at e; cases e
    | some ms =>
      rw [hq] at e; cases e
      rw [Rps.ints hs hq]; rfl
theorem Rps.bls {K : PySem.W.Frag} {H : Hp} {mu : List Addr} : ∀ {vs : List V} {ds : List D} {ns : List Bool}, Rps K H mu vs ds → blsOf ds = some ns → vs = ns.map V.bl
  | _, _, _, .nil, e => by cases e; rfl
  | _, _, ns, .cons h hs, e => by
    cases h <;> simp only [blsOf] at e <;> try cases e
    cases hq : blsOf _ with
    | none => rw [hq] at e; cases e
    | some ms =>
      rw [hq] at e; cases e
      rw [Rps.bls hs hq]; rfl
theorem Rps.of_ints {K : PySem.W.Frag} {H : Hp} {mu : List Addr} : ∀ ns : List Int, Rps K H mu (ns.map V.int) (ns.map D.int)
  | [] => .nil
  | n :: ns => .cons (.int n) (Rps.of_ints ns)
def gSum (ds : List D) : Option D := (intsOf ds).map fun ns => .int ns.sum
def gAny (ds : List D) : Option D := (blsOf ds).map fun ns => .bl (ns.any id)
def gAll (ds : List D) : Option D := (blsOf ds).map fun ns => .bl (ns.all id)
theorem qs_sum {K : PySem.W.Frag} : QS K (RE K) (rSum K) gSum := by
  intro mu H st p vs ds d Q hs sq rs e k
  unfold gSum at e
  cases hq : intsOf ds with
  | none => rw [hq] at e; cases e
  | some ns =>
    rw [hq] at e; cases e
    exact ⟨p, ns, rfl, by rw [← Rps.ints rs hq]; exact sq, k _ _ _ .refl (.int _) hs⟩
theorem qs_any {K : PySem.W.Frag} : QS K (RE K) (rAny K) gAny := by
  intro mu H st p vs ds d Q hs sq rs e k
  unfold gAny at e
  cases hq : blsOf ds with
  | none => rw [hq] at e; cases e
  | some ns =>
    rw [hq] at e; cases e
    exact ⟨p, ns, rfl, by rw [← Rps.bls rs hq]; exact sq, k _ _ _ .refl (.bl _) hs⟩
theorem qs_all {K : PySem.W.Frag} : QS K (RE K) (rAll K) gAll := by
  intro mu H st p vs ds d Q hs sq rs e k
  unfold gAll at e
  cases hq : blsOf ds with
  | none => rw [hq] at e; cases e
  | some ns =>
    rw [hq] at e; cases e
    exact ⟨p, ns, rfl, by rw [← Rps.bls rs hq]; exact sq, k _ _ _ .refl (.bl _) hs⟩
/-- rising -/
def insI (x : Int) : List Int → List Int
  | [] => [x]
  | y :: ys => if x ≤ y then x :: y :: ys else y :: insI x ys
def sortI : List Int → List Int
  | [] => []
  | x :: xs => insI x (sortI xs)
theorem insI_perm (x : Int) : ∀ ys, (insI x ys).Perm (x :: ys)
  | [] => .refl _
  | y :: ys => by
    unfold insI
    split
    · exact .refl _
    · exact ((insI_perm x ys).cons y).trans (.swap x y ys)
theorem sortI_perm : ∀ xs, (sortI xs).Perm xs
  | [] => .refl _
  | x :: xs => (insI_perm x _).trans ((sortI_perm xs).cons x)
theorem insI_sorted (x : Int) : ∀ ys, ys.Pairwise (· ≤ ·) → (insI x ys).Pairwise (· ≤ ·)
  | [], _ => by simp [insI]
  | y :: ys, h => by
    unfold insI
    rw [List.pairwise_cons] at h
    split
    · rename_i hxy
      rw [List.pairwise_cons]
      refine ⟨fun z hz => ?_, by rw [List.pairwise_cons]; exact h⟩
      rcases List.mem_cons.mp hz with rfl | hz
      · exact hxy
      · exact Int.le_trans hxy (h.1 z hz)
    · rename_i hxy
      rw [List.pairwise_cons]
      refine ⟨fun z hz => ?_, insI_sorted x ys h.2⟩
      rcases List.mem_cons.mp ((insI_perm x ys).mem_iff.mp hz) with rfl | hz
      · omega
      · exact h.1 z hz
theorem sortI_sorted : ∀ xs, (sortI xs).Pairwise (· ≤ ·)
  | [] => by simp [sortI]
  | x :: xs => insI_sorted x _ (sortI_sorted xs)
theorem sorted_one : ∀ {xs ys : List Int}, xs.Perm ys → xs.Pairwise (· ≤ ·) → ys.Pairwise (· ≤ ·) → xs = ys := by
  intro xs ys hp h1 h2
  exact hp.eq_of_pairwise (fun a b _ _ h h' => Int.le_antisymm h h') h1 h2
def gSorted (ds : List D) : Option (List D) := (intsOf ds).map fun ns => (sortI ns).map D.int
theorem qs_sorted {K : PySem.W.Frag} : QS K (RL K) (rSortedI K) gSorted := by
  intro mu H st p vs ds d Q hs sq rs e k
  unfold gSorted at e
  cases hq : intsOf ds with
  | none => rw [hq] at e; cases e
  | some ns =>
    rw [hq] at e; cases e
    refine ⟨p, ns, rfl, by rw [← Rps.ints rs hq]; exact sq, fun ns' p' hp hsd hn => ?_⟩
    have e1 : ns' = sortI ns := sorted_one (hp.trans (sortI_perm ns).symm) hsd (sortI_sorted ns)
    subst e1
    exact k _ _ _ (ext_new hn _) ⟨p', _, rfl, hn, upd_same, hs.fresh hn, Rps.of_ints _⟩ (hs.new hn _)
def gTupOf (ds : List D) : Option D := some (.tup ds)
theorem qs_tup {K : PySem.W.Frag} : QS K (RE K) (fun xs H Q => ∃ p ys, xs = [.ref p] ∧ ((SqL K H p ys ∧ ∀ l, H l = none → Q (.ref l) (upd H l (.tup ys))) ∨ (SqT K H p ys ∧ Q (.ref p) H))) gTupOf := by
  intro mu H st p vs ds d Q hs sq rs e k
  cases e
  exact ⟨p, vs, rfl, .inl ⟨sq, fun l hl => k _ _ _ (ext_new hl _) (.tup (.inl upd_same) (rs.ctx hl)) (hs.new hl _)⟩⟩
/-- l[i] of a list that is read (a new one) -/
def mItemQ (mr : Mo (List D)) (mb : Mo D) : Mo D := fun ev st => (mr ev st).bind fun ds st1 => (mb ev st1).bind fun d st2 => match d with
  | .int i => (match L2.atI ds i with
    | some z => .ok z st2
    | none => .bad)
  | _ => .bad
end Ml

namespace Ml
open PySem L2
variable {X : Cx} {W : Wx} {a b c e : Expr} {es rest : List Expr} {pos p q : Pos} {ma mb mc : Mo D} {mr : Mo (List D)} {ta tb : Mo Bool} {s1 s2 : Ms}
/-! ### statements -/
def mSkip : Ms := fun ev st => .ok (.nx, ev) st
def mSeq (s1 s2 : Ms) : Ms := fun ev st => match s1 ev st with
  | .ok (.nx, ev1) st1 => s2 ev1 st1
  | r => r
def mRet (m : Mo D) : Ms := fun ev st => (m ev st).bind fun d st1 => .ok (.rt d, ev) st1
def mRetN : Ms := fun ev st => .ok (.rt .non, ev) st
def mBreak : Ms := fun ev st => .ok (.bk, ev) st
def mSet (i : Nat) (m : Mo D) : Ms := fun ev st => (m ev st).bind fun d st1 => .ok (.nx, ev.set i (some d)) st1
def mIfS (t : Mo Bool) (s1 s2 : Ms) : Ms := fun ev st => (t ev st).bind fun b st1 => if b = true then s1 ev st1 else s2 ev st1
def mDrop (m : Mo D) : Ms := fun ev st => (m ev st).bind fun _ st1 => .ok (.nx, ev) st1
theorem mss_nil : PSs X [] (tS X.K W mSkip) := PSs.imp pss_nil fun D σ H ⟨mu, ev, st, he, hs, hp⟩ => hp _ _ _ .refl he hs
theorem PostS.seq {K : PySem.W.Frag} {mu : List Addr} {H : Hp} {s1 s2 : Ms} {ev : Ev} {st : Sto} {D : Ends} (h : PostS K W mu H (mSeq s1 s2 ev st) D) : PostS K W mu H (s1 ev st) { D with nx := tS K W s2 D } := by
  unfold mSeq at h
  cases hr : s1 ev st with
  | bad => rw [hr] at h; exact h
  | exc c e s => rw [hr] at h; exact h
  | ok r st1 =>
    obtain ⟨fl, ev1⟩ := r
    rw [hr] at h
    cases fl with
    | nx => exact fun mu' σ' H' e he hs => ⟨mu', ev1, st1, he, hs, PostS.from h e⟩
    | rt d => exact h
    | bk => exact h
    | ct => exact h
theorem mss_cons {s : Stmt} {r : List Stmt} (h1 : PS X s (tS X.K W s1)) (h2 : PSs X r (tS X.K W s2)) : PSs X (s :: r) (tS X.K W (mSeq s1 s2)) :=
  PSs.imp (pss_cons h1 h2) fun D σ H ⟨mu, ev, st, he, hs, hp⟩ => ⟨mu, ev, st, he, hs, PostS.seq hp⟩
theorem mss_one {s : Stmt} (h1 : PS X s (tS X.K W s1)) : PSs X [s] (tS X.K W s1) := pss_one h1
theorem ms_ret (h : PE X e (tE X.K W ma)) : PS X (.Return (some e) pos) (tS X.K W (mRet ma)) := by
  refine PS.imp (ps_ret h) fun D σ H ⟨mu, ev, st, he, hs, hp⟩ => ?_
  refine ⟨mu, ev, st, he, hs, hp.bind fun d st1 mu1 x H1 _ e1 r1 s1 hp1 => ?_⟩
  exact hp1 _ _ _ .refl (he.mono e1) s1 x r1
theorem ms_retN : PS X (.Return none pos) (tS X.K W mRetN) := PS.imp ps_retN fun D σ H ⟨mu, ev, st, he, hs, hp⟩ => hp _ _ _ .refl he hs .non .non
theorem ms_pass : PS X (.Pass pos) (tS X.K W mSkip) := PS.imp ps_pass fun D σ H ⟨mu, ev, st, he, hs, hp⟩ => hp _ _ _ .refl he hs
theorem ms_break : PS X (.Break pos) (tS X.K W mBreak) := PS.imp ps_break fun D σ H ⟨mu, ev, st, he, hs, hp⟩ => hp _ _ _ .refl he hs
theorem ms_set {i : Nat} {x : Str} {pos' : Pos} (hN : X.N.Nodup) (hi : X.N[i]? = some x) (hx : Loc X.env.scope x) (h : PE X e (tE X.K W ma)) (hs : swapsWith e (some (.Name x pos')) pos.line X.env = pure false := by rfl) (hf : X.fn x = true ∨ X.env.scope.names.lookup x = some .local := by first | exact .inl rfl | exact .inr rfl) :
    PS X (.Assign [.Name x pos'] e pos) (tS X.K W (mSet i ma)) := by
  refine PS.imp (ps_set hN hi hx h hs hf) fun D σ H ⟨mu, ev, st, he, hs, hp⟩ => ?_
  refine ⟨mu, ev, st, he, hs, hp.bind fun d st1 mu1 x H1 _ e1 r1 s1 hp1 => ?_⟩
  exact hp1 _ _ _ .refl ((he.mono e1).set r1 i) s1
theorem ms_if {A B : List Stmt} (hc : PT X c (tT X.K W ta)) (ha : PSs X A (tS X.K W s1)) (hb : PSs X B (tS X.K W s2)) : PS X (.If c A B pos) (tS X.K W (mIfS ta s1 s2)) := by
  refine PS.imp (ps_if hc ha hb) fun D σ H ⟨mu, ev, st, he, hs, hp⟩ => ?_
  refine ⟨mu, ev, st, he, hs, hp.bind fun d st1 mu1 x H1 _ e1 r1 s1 hp1 => ?_⟩
  obtain rfl : x = d := r1
  cases x with
  | true => exact ⟨mu1, ev, st1, he.mono e1, s1, hp1⟩
  | false => exact ⟨mu1, ev, st1, he.mono e1, s1, hp1⟩
theorem ms_expr (h : PE X e (tE X.K W ma)) (hs : swapsWith e none pos.line X.env = pure false := by rfl) : PS X (.Expr e pos) (tS X.K W (mDrop ma)) := by
  refine PS.imp (ps_expr h hs) fun D σ H ⟨mu, ev, st, he, hs, hp⟩ => ?_
  refine ⟨mu, ev, st, he, hs, hp.bind fun d st1 mu1 x H1 _ e1 r1 s1 hp1 => ?_⟩
  exact hp1 _ _ _ .refl (he.mono e1) s1
/-! ### targets -/
abbrev Gt := D → Ev → Option Ev
/-- slots beyond ws stand -/
def Frm (ws : List Nat) (σ σ' : L2.St) : Prop := σ'.length = σ.length ∧ ∀ i, i ∉ ws → σ'[i]? = σ[i]?
theorem Frm.trans {ws ws' : List Nat} {σ σ1 σ2 : L2.St} (a : Frm ws σ σ1) (b : Frm ws' σ1 σ2) : Frm (ws ++ ws') σ σ2 :=
  ⟨b.1.trans a.1, fun i h => by simp only [List.mem_append, not_or] at h; exact (b.2 i h.2).trans (a.2 i h.1)⟩
theorem frm_set (σ : L2.St) (i : Nat) (v : Option V) : Frm [i] σ (σ.set i v) := ⟨by simp, fun j h => by simp at h; exact List.getElem?_set_ne (Ne.symm h)⟩
def tGt (K : PySem.W.Frag) (ws : List Nat) (g : Gt) : TG := fun v σ H Q => ∃ mu d ev ev', Rp K H mu v d ∧ RelEv K H mu σ ev ∧ g d ev = some ev' ∧ ∀ σ', RelEv K H mu σ' ev' → Frm ws σ σ' → Q σ' H
abbrev Gts := List D → Ev → Option Ev
def tGts (K : PySem.W.Frag) (ws : List Nat) (g : Gts) : TGs := fun vs σ H Q => ∃ mu ds ev ev', Rps K H mu vs ds ∧ RelEv K H mu σ ev ∧ g ds ev = some ev' ∧ ∀ σ', RelEv K H mu σ' ev' → Frm ws σ σ' → Q σ' H
theorem PG.imp {t t' : TG} (h : PG X e t) (k : ∀ v σ H Q, t' v σ H Q → t v σ H Q) : PG X e t' := ⟨fun pins s σ H v u Q I r hw => h.run pins s σ H v u Q I r (k v σ H Q hw)⟩
theorem PGs.imp {t t' : TGs} (h : PGs X es t) (k : ∀ v σ H Q, t' v σ H Q → t v σ H Q) : PGs X es t' := ⟨fun pins s σ H v u Q I r hw => h.run pins s σ H v u Q I r (k v σ H Q hw)⟩
def gtName (i : Nat) : Gt := fun d ev => some (ev.set i (some d))
def gtsNil : Gts := fun ds ev => match ds with
  | [] => some ev
  | _ => none
def gtsCons (g : Gt) (gs : Gts) : Gts := fun ds ev => match ds with
  | d :: ds => (g d ev).bind (gs ds)
  | [] => none
def gtTup (n : Nat) (gs : Gts) : Gt := fun d ev => match d with
  | .tup ds => if ds.length = n then gs ds ev else none
  | _ => none
theorem mg_name {i : Nat} {x : Str} (hN : X.N.Nodup) (hi : X.N[i]? = some x) (hx : Loc X.env.scope x) (hf : X.fn x = true ∨ X.env.scope.names.lookup x = some .local := by first | exact .inl rfl | exact .inr rfl) : PG X (.Name x pos) (tGt X.K [i] (gtName i)) := by
  refine PG.imp (pg_name hN hi hx hf) fun v σ H Q ⟨mu, d, ev, ev', r, he, hg, hq⟩ => ?_
  cases hg
  exact hq _ (he.set r i) (frm_set _ _ _)
theorem mgs_nil : PGs X [] (tGts X.K [] gtsNil) := by
  refine PGs.imp pgs_nil fun vs σ H Q ⟨mu, ds, ev, ev', r, he, hg, hq⟩ => ?_
  cases r with
  | nil => cases hg; exact ⟨rfl, hq _ he ⟨rfl, fun _ _ => rfl⟩⟩
  | cons _ _ => cases hg
theorem mgs_cons {g : Gt} {gs : Gts} {ws ws' : List Nat} (h1 : PG X e (tGt X.K ws g)) (h2 : PGs X es (tGts X.K ws' gs)) (hs : (assignEach (e :: es) X.env).map (·.2) = assign e X.env :: (assignEach es X.env).map (·.2) := by rfl) : PGs X (e :: es) (tGts X.K (ws ++ ws') (gtsCons g gs)) := by
  refine PGs.imp (pgs_cons h1 h2 hs) fun vs σ H Q ⟨mu, ds, ev, ev', r, he, hg, hq⟩ => ?_
  cases r with
  | nil => cases hg
  | cons h hs =>
    simp only [gtsCons] at hg
    cases hg1 : g _ ev with
    | none => rw [hg1] at hg; cases hg
    | some ev1 =>
      rw [hg1] at hg
      exact ⟨_, _, rfl, mu, _, ev, ev1, h, he, hg1, fun σ' he' f' => ⟨mu, _, ev1, ev', hs, he', hg, fun σ'' he'' f'' => hq σ'' he'' (f'.trans f'')⟩⟩
theorem mg_tup {k n : Nat} {gs : Gts} {ws : List Nat} (hc : X.calm = true) (h : PGs X es (tGts X.K ws gs)) (hn : (assignEach es X.env).length = n := by rfl) (hst : (assignEach es X.env).findIdx? (·.1) = none := by rfl) : PG X (.Tuple es k pos) (tGt X.K ws (gtTup n gs)) := by
  refine PG.imp (pg_tup hc h hn hst) fun v σ H Q ⟨mu, d, ev, ev', r, he, hg, hq⟩ => ?_
  unfold gtTup at hg
  split at hg
  · split at hg
    · rename_i hl
      cases r with
      | tup ht hs => exact ⟨_, _, rfl, ht.sq, (Rps.length hs).trans hl, mu, _, ev, ev', hs, he, hg, hq⟩
    · cases hg
  · cases hg
def mAsg (m : Mo D) (g : Gt) : Ms := fun ev st => (m ev st).bind fun d st1 => match g d ev with
  | some ev' => .ok (.nx, ev') st1
  | none => .bad
theorem ms_asg {tg : Expr} {g : Gt} {ws : List Nat} (he : PE X e (tE X.K W ma)) (hg : PG X tg (tGt X.K ws g)) (hs : swapsWithSole [tg] e pos.line X.env = pure false := by rfl) (hw : swappedStores [tg] e X.env = pure none := by rfl)
    (h1 : (assignEach [tg] X.env).map (·.2) = [assign tg X.env] := by rfl) : PS X (.Assign [tg] e pos) (tS X.K W (mAsg ma g)) := by
  refine PS.imp (ps_asg he hg hs hw h1) fun D σ H ⟨mu, ev, st, he, hs, hp⟩ => ?_
  refine ⟨mu, ev, st, he, hs, hp.bind fun d st1 mu1 x H1 _ e1 r1 s1 hp1 => ?_⟩
  cases hgd : g d ev with
  | none => rw [hgd] at hp1; exact hp1.elim
  | some ev' =>
    rw [hgd] at hp1
    exact ⟨mu1, d, ev, ev', r1, he.mono e1, hgd, fun σ' he' _ => hp1 _ _ _ .refl he' s1⟩
/-- a, b = x, y -/
def mPar (i j : Nat) (mr : Mo (List D)) : Ms := fun ev st => (mr ev st).bind fun ds st1 => match ds with
  | [x, y] => .ok (.nx, (ev.set i (some x)).set j (some y)) st1
  | _ => .bad
theorem ms_par {i j : Nat} {x y : Str} {px py pt : Pos} {kt k2 : Nat} {pt2 : Pos} (hc : X.calm = true) (hN : X.N.Nodup) (hi : X.N[i]? = some x) (hj : X.N[j]? = some y) (hij : i ≠ j)
    (hx : X.env.scope.names.lookup x = some .local) (hy : X.env.scope.names.lookup y = some .local) (ha : PA X [a, b] (tA X.K W mr))
    (hw : swappedStores [.Tuple [.Name x px, .Name y py] kt pt] (.Tuple [a, b] k2 pt2) X.env = pure (some [x, y]))
    (hs : swapsWithSole [.Tuple [.Name x px, .Name y py] kt pt] (.Tuple [a, b] k2 pt2) pos.line X.env = pure false := by rfl) :
    PS X (.Assign [.Tuple [.Name x px, .Name y py] kt pt] (.Tuple [a, b] k2 pt2) pos) (tS X.K W (mPar i j mr)) := by
  refine PS.imp (ps_par hc hN hi hj hij hx hy ha hw hs) fun D σ H ⟨mu, ev, st, he, hs, hp⟩ => ?_
  refine ⟨mu, ev, st, he, hs, hp.bind fun ds st1 mu1 xs H1 _ e1 r1 s1 hp1 => ?_⟩
  split at hp1
  · cases r1 with
    | cons h1 h2 =>
      cases h2 with
      | cons h2 h3 =>
        cases h3
        exact ⟨_, _, rfl, hp1 _ _ _ .refl (((he.mono e1).set h1 i).set h2 j) s1⟩
  · exact hp1.elim
/-! ### what a loop walks -/
/-- the items ds in J's order, while inv holds; H0: where the walk began -/
structure IterOk (K : PySem.W.Frag) (H0 : Hp) (J : It) (ds : List D) (inv : Hp → List Addr → Prop) : Prop where
  go : ∀ (H : Hp) (mu : List Addr) (i : Nat) (x : D), inv H mu → ds[i]? = some x → J.go i H
  yld : ∀ (H : Hp) (mu : List Addr) (st : Sto) (i : Nat) (x : D) (v : V) (H' : Hp), RelSt K H mu st → inv H mu → ds[i]? = some x → J.yld i H v H' → Ext mu H mu H' ∧ Rp K H' mu v x ∧ RelSt K H' mu st
  stop : ∀ (H : Hp) (mu : List Addr), inv H mu → J.stop ds.length H
  keep : ∀ (H : Hp) (mu : List Addr) (H' : Hp) (mu' : List Addr), inv H mu → Ext mu H mu' H' → inv H' mu'
  tmp : ∀ (H : Hp) (mu : List Addr) (q : Addr) (l l' : List V), inv H mu → H0 q = none → H q = some (.lst l) → q ∉ mu → inv (upd H q (.lst l')) mu
def RI (K : PySem.W.Frag) : RR It (List D) := ⟨fun _ H mu _ J ds => ds.length ≤ lim ∧ ∃ inv, IterOk K H J ds inv ∧ inv H mu, fun _ h => h⟩
abbrev tI (K : PySem.W.Frag) (W : Wx) (m : Mo (List D)) : TI := tG K W (RI K) m
theorem PI.imp {tg : Expr} {t t' : TI} (h : PI X tg e t) (k : ∀ σ H R, t' σ H R → t σ H R) : PI X tg e t' := ⟨fun pins s σ H R I hw => h.run pins s σ H R I (k σ H R hw)⟩
def loop (g : Gt) (body : Ms) : List D → Ms
  | [] => fun ev st => .ok (.nx, ev) st
  | d :: ds => fun ev st => match g d ev with
    | none => .bad
    | some ev1 => match body ev1 st with
      | .ok (.nx, ev2) st2 => loop g body ds ev2 st2
      | .ok (.ct, ev2) st2 => loop g body ds ev2 st2
      | .ok (.bk, ev2) st2 => .ok (.nx, ev2) st2
      | .ok (.rt d, ev2) st2 => .ok (.rt d, ev2) st2
      | .bad => .bad
      | .exc c e s => .exc c e s
def mFor (mi : Mo (List D)) (g : Gt) (body : Ms) : Ms := fun ev st => (mi ev st).bind fun it st1 => loop g body it ev st1
theorem ms_for {tg : Expr} {body : List Stmt} {mi : Mo (List D)} {g : Gt} {ws : List Nat} (hp : PassesOwn (model X.prog X.w) X.A X.env X.xe) (hc : X.calm = true) (hi : PI X tg e (tI X.K W mi)) (hg : PG X tg (tGt X.K ws g)) (hb : PSs X body (tS X.K W s1))
    (hs : ∀ x, foldedSetIterable e X.env x = pure x := by intro _; rfl) : PS X (.For tg e body [] pos) (tS X.K W (mFor mi g s1)) := by
  refine PS.imp (ps_for hp hc hi hg hb hs) fun D σ H ⟨mu, ev, st, he, hs, hp⟩ => ?_
  refine ⟨mu, ev, st, he, hs, hp.bind fun it st1 mu1 J H1 _ e1 r1 s1' hp1 => ?_⟩
  obtain ⟨hl, inv, ok, hinv⟩ := r1
  refine ⟨fun i m σ H => m = it.length - i ∧ i ≤ it.length ∧ ∃ mu ev st, RelEv X.K H mu σ ev ∧ RelSt X.K H mu st ∧ inv H mu ∧ PostS X.K W mu H (loop g s1 (it.drop i) ev st) D, ⟨_, rfl, Nat.zero_le _, mu1, ev, st1, he.mono e1, s1', hinv, by simpa using hp1⟩, ?_⟩
  rintro i m σ H ⟨rfl, hi, mu, ev, st, he, hs, hinv, hp⟩
  by_cases hlt : i < it.length
  · have hx : it[i]? = some it[i] := List.getElem?_eq_getElem hlt
    refine .inr ⟨ok.go H mu i _ hinv hx, fun σ' H' => i + 1 ≤ it.length ∧ ∃ mu ev st, RelEv X.K H' mu σ' ev ∧ RelSt X.K H' mu st ∧ inv H' mu ∧ PostS X.K W mu H' (loop g s1 (it.drop (i + 1)) ev st) D, fun σ' H' h => ⟨_, by omega, rfl, h⟩, fun v H' y => ?_⟩
    obtain ⟨k1, k2, k3⟩ := ok.yld H mu st i _ v H' hs hinv hx y
    have k4 := ok.keep _ _ _ _ hinv k1
    have hp := PostS.from hp k1
    rw [List.drop_eq_getElem_cons hlt] at hp
    simp only [loop] at hp
    cases hg : g it[i] ev with
    | none => rw [hg] at hp; exact hp.elim
    | some ev1 =>
      rw [hg] at hp
      simp only at hp
      refine ⟨mu, _, ev, ev1, k2, he.mono k1, hg, fun σ' he' _ => ⟨mu, ev1, st, he', k3, ?_⟩⟩
      cases hb : s1 ev1 st with
      | bad => rw [hb] at hp; exact hp
      | exc c e s => rw [hb] at hp; exact hp
      | ok r st2 =>
        obtain ⟨fl, ev2⟩ := r
        rw [hb] at hp
        cases fl with
        | nx => exact fun mu' σ' H'' e' he' hs' => ⟨hlt, mu', ev2, st2, he', hs', ok.keep _ _ _ _ k4 e', PostS.from hp e'⟩
        | ct => exact fun mu' σ' H'' e' he' hs' => ⟨hlt, mu', ev2, st2, he', hs', ok.keep _ _ _ _ k4 e', PostS.from hp e'⟩
        | bk => exact hp
        | rt d => exact hp
  · have e0 : i = it.length := by omega
    subst e0
    rw [List.drop_length] at hp
    exact .inl ⟨ok.stop H mu hinv, hp _ _ _ .refl he hs⟩
/-- a tuple; numbers -/
def mItT (m : Mo D) : Mo (List D) := fun ev st => (m ev st).bind fun d st1 => match d with
  | .tup ds => if ds.length ≤ lim then .ok ds st1 else .bad
  | _ => .bad
theorem ne_tmp {H : Hp} {q : Addr} {l : List V} {a : Addr} {vs : List V} (h : H q = some (.lst l)) (ha : H a = some (.tup vs)) : a ≠ q := by
  intro e; subst e; rw [h] at ha; cases ha
theorem ext0_tmp {H : Hp} {mu : List Addr} {q : Addr} {l l' : List V} (h : H q = some (.lst l)) : Ext0 mu H mu (upd H q (.lst l')) :=
  ⟨⟨[], by simp⟩, fun a vs ha => by rw [upd_ne (ne_tmp h ha)]; exact ha, fun a o vs ha n => ⟨by rw [upd_ne (fun e => by subst e; rw [h] at ha; cases ha)]; exact ha, n⟩⟩
theorem RelSt.tmp {K : PySem.W.Frag} {H : Hp} {mu : List Addr} {st : Sto} (r : RelSt K H mu st) {q : Addr} {l l' : List V} (h : H q = some (.lst l)) (hn : q ∉ mu) : RelSt K (upd H q (.lst l')) mu st :=
  ⟨r.len, r.nd, fun i a o h1 h2 => (r.ob i a o h1 h2).mono0 (ext0_tmp h) (upd_ne fun e => hn (e ▸ List.mem_of_getElem? h1))⟩
theorem iter_tup {K : PySem.W.Frag} {H0 : Hp} {q : Addr} {vs : List V} {ds : List D} : IterOk K H0 (Itt K q) ds (fun H mu => TupAt K H q vs ∧ Rps K H mu vs ds) := by
  refine ⟨?_, ?_, ?_, ?_, ?_⟩
  · rintro H mu i x ⟨h1, h2⟩ hx
    obtain ⟨v, hv, _⟩ := h2.get hx
    exact ⟨vs, v, h1.sq, hv⟩
  · rintro H mu st i x v H' hst ⟨h1, h2⟩ hx ⟨e, hy⟩
    subst e
    obtain ⟨w, hw, rw'⟩ := h2.get hx
    have := hy vs h1.sq
    rw [hw] at this
    cases this
    exact ⟨.refl, rw', hst⟩
  · rintro H mu ⟨h1, h2⟩
    exact ⟨vs, h1.sq, Nat.le_of_eq (Rps.length h2)⟩
  · rintro H mu H' mu' ⟨h1, h2⟩ e
    exact ⟨e.tupAt h1, h2.mono e⟩
  · rintro H mu q' l l' ⟨h1, h2⟩ _ hq _
    exact ⟨(ext0_tmp (mu := mu) hq).tupAt h1, h2.mono0 (ext0_tmp hq)⟩
theorem mi_tup {tg : Expr} (h : PE X e (tE X.K W ma)) : PI X tg e (tI X.K W (mItT ma)) := by
  refine PI.imp (pi_tup h) fun σ H Q ⟨mu, ev, st, he, hs, hp⟩ => ?_
  refine ⟨mu, ev, st, he, hs, hp.bind fun d st1 mu1 x H1 _ e1 r1 s1 hp1 => ?_⟩
  split at hp1
  · split at hp1
    · rename_i hl
      cases r1 with
      | tup ht hr =>
        exact ⟨_, rfl, ⟨_, ht.sq⟩, hp1 _ _ _ .refl ⟨hl, _, iter_tup, ht, hr⟩ s1⟩
    · exact hp1.elim
  · exact hp1.elim
def rngD (lo : Int) (n : Nat) : List D := (List.range n).map fun i => D.int (lo + (i : Nat))
theorem rngD_get {lo : Int} {n i : Nat} {x : D} (h : (rngD lo n)[i]? = some x) : i < n ∧ x = .int (lo + (i : Nat)) := by
  unfold rngD at h
  rw [List.getElem?_map] at h
  cases hr : (List.range n)[i]? with
  | none => rw [hr] at h; cases h
  | some j =>
    rw [hr] at h
    obtain ⟨h1, h2⟩ := List.getElem?_eq_some_iff.mp hr
    rw [List.getElem_range] at h2
    subst h2
    rw [List.length_range] at h1
    simp only [Option.map_some, Option.some.injEq] at h
    exact ⟨h1, h.symm⟩
theorem rngD_len {lo : Int} {n : Nat} : (rngD lo n).length = n := by unfold rngD; simp
def mItR (mr : Mo (List D)) : Mo (List D) := fun ev st => (mr ev st).bind fun ds st1 => match ds with
  | [.int j] => if j.toNat ≤ lim ∧ -1000000000 ≤ j then .ok (rngD 0 j.toNat) st1 else .bad
  | _ => .bad
def mItR2 (mr : Mo (List D)) : Mo (List D) := fun ev st => (mr ev st).bind fun ds st1 => match ds with
  | [.int i, .int j] => if (j - i).toNat ≤ lim ∧ -1000000000 ≤ i ∧ i ≤ 1000000000 ∧ -1000000000 ≤ j ∧ j ≤ 1000000000 then .ok (rngD i (j - i).toNat) st1 else .bad
  | _ => .bad
theorem iter_rng {K : PySem.W.Frag} {H0 : Hp} {lo : Int} {n : Nat} : IterOk K H0 (Itr lo n) (rngD lo n) (fun _ _ => True) :=
  ⟨fun H mu i x _ hx => (rngD_get hx).1, fun H mu st i x v H' hst _ hx ⟨e1, e2⟩ => by
    obtain ⟨_, rfl⟩ := rngD_get hx
    subst e1; subst e2
    exact ⟨.refl, .int _, hst⟩, fun H mu _ => by show n ≤ (rngD lo n).length; rw [rngD_len]; exact Nat.le_refl _, fun _ _ _ _ _ _ => trivial, fun _ _ _ _ _ _ _ _ _ => trivial⟩
theorem mi_rng1 {tg : Expr} (hg : Gl X "range") (hm : X.mg "range" = none) (ha : PA X [a] (tA X.K W mr)) (hs : starEach [a] X.env = [(false, eval a X.env)] := by rfl) : PI X tg (.Call (.Name "range" p) [a] [] pos) (tI X.K W (mItR mr)) := by
  refine PI.imp (pi_range1 hg hm ha hs) fun σ H Q ⟨mu, ev, st, he, hs, hp⟩ => ?_
  refine ⟨mu, ev, st, he, hs, hp.bind fun ds st1 mu1 xs H1 _ e1 r1 s1 hp1 => ?_⟩
  split at hp1
  · split at hp1
    · rename_i hl
      cases r1 with
      | cons h1 h2 =>
        cases h2; cases h1
        exact ⟨_, rfl, by omega, by have := hl.1; unfold lim at this; omega, hp1 _ _ _ .refl ⟨by rw [rngD_len]; exact hl.1, _, iter_rng, trivial⟩ s1⟩
    · exact hp1.elim
  · exact hp1.elim
theorem mi_rng2 {tg : Expr} (hg : Gl X "range") (hm : X.mg "range" = none) (ha : PA X [a, b] (tA X.K W mr)) (hs : starEach [a, b] X.env = [(false, eval a X.env), (false, eval b X.env)] := by rfl) (hs2 : starEach [b] X.env = [(false, eval b X.env)] := by rfl) : PI X tg (.Call (.Name "range" p) [a, b] [] pos) (tI X.K W (mItR2 mr)) := by
  refine PI.imp (pi_range2 hg hm ha hs hs2) fun σ H Q ⟨mu, ev, st, he, hs, hp⟩ => ?_
  refine ⟨mu, ev, st, he, hs, hp.bind fun ds st1 mu1 xs H1 _ e1 r1 s1 hp1 => ?_⟩
  split at hp1
  · split at hp1
    · rename_i hl
      cases r1 with
      | cons h1 h2 =>
        cases h2 with
        | cons h2 h3 =>
          cases h3; cases h1; cases h2
          exact ⟨_, _, rfl, by omega, hp1 _ _ _ .refl ⟨by rw [rngD_len]; exact hl.1, _, iter_rng, trivial⟩ s1⟩
    · exact hp1.elim
  · exact hp1.elim
end Ml

namespace Ml
open PySem L2
variable {X : Cx} {W : Wx} {a b c e : Expr} {es rest : List Expr} {pos p q : Pos} {ma mb mc : Mo D} {mr : Mo (List D)} {ta tb : Mo Bool} {s1 s2 : Ms}
/-! ### comprehensions -/
def wipeD (ev : Ev) : List Nat → Ev
  | [] => ev
  | v :: vs => (wipeD ev vs).set v none
theorem wipeD_length (ev : Ev) : ∀ vs : List Nat, (wipeD ev vs).length = ev.length
  | [] => rfl
  | v :: vs => by unfold wipeD; rw [List.length_set, wipeD_length ev vs]
theorem wipeD_some {ev : Ev} {i : Nat} {x : D} : ∀ {vs : List Nat}, (wipeD ev vs)[i]? = some (some x) → ev[i]? = some (some x) ∧ i ∉ vs
  | [], h => ⟨h, by simp⟩
  | v :: vs, h => by
    unfold wipeD at h
    by_cases hi : v = i
    · subst hi
      by_cases hv : v < (wipeD ev vs).length
      · rw [List.getElem?_set_self hv] at h; cases h
      · rw [List.getElem?_eq_none (by simpa using hv)] at h; cases h
    · rw [List.getElem?_set_ne hi] at h
      obtain ⟨h1, h2⟩ := wipeD_some h
      exact ⟨h1, by simp only [List.mem_cons, not_or]; exact ⟨fun e => hi e.symm, h2⟩⟩
theorem RelEv.wipe {K : PySem.W.Frag} {H : Hp} {mu : List Addr} {σ : L2.St} {ev : Ev} (r : RelEv K H mu σ ev) (vs : List Nat) : RelEv K H mu (wipe σ vs) (wipeD ev vs) := by
  refine ⟨by rw [wipe_length, wipeD_length, r.1], fun i d h => ?_⟩
  obtain ⟨h1, h2⟩ := wipeD_some h
  obtain ⟨v, hv, rv⟩ := r.2 i d h1
  exact ⟨v, by rw [wipe_out h2]; exact hv, rv⟩
theorem wipe_at {σ : L2.St} {i : Nat} : ∀ {vs : List Nat}, i ∈ vs → (wipe σ vs)[i]? = if i < σ.length then some none else none
  | [], h => by simp at h
  | v :: vs, h => by
    unfold L2.wipe
    by_cases hi : v = i
    · subst hi
      by_cases hv : v < σ.length
      · rw [List.getElem?_set_self (by rw [wipe_length]; exact hv), if_pos hv]
      · rw [List.getElem?_eq_none (by rw [List.length_set, wipe_length]; omega), if_neg hv]
    · rw [List.getElem?_set_ne hi]
      exact wipe_at (by rcases List.mem_cons.mp h with h | h; exact absurd h.symm hi; exact h)
theorem wipe_frm {ws vs : List Nat} {σ σ' : L2.St} (f : Frm ws σ σ') (h : ∀ i ∈ ws, i ∈ vs) : wipe σ' vs = wipe σ vs := by
  apply List.ext_getElem?
  intro i
  by_cases hi : i ∈ vs
  · rw [wipe_at hi, wipe_at hi, f.1]
  · rw [wipe_out hi, wipe_out hi]
    exact f.2 i fun z => hi (h i z)
theorem wipe_wipe {vs : List Nat} {σ : L2.St} : wipe (wipe σ vs) vs = wipe σ vs := by
  apply List.ext_getElem?
  intro i
  by_cases hi : i ∈ vs
  · rw [wipe_at hi, wipe_at hi, wipe_length]
  · rw [wipe_out hi]
def lcLoop (g : Gt) (t : Mo Bool) (m : Mo D) : List D → Ev → Sto → Rs (List D)
  | [], _, st => .ok [] st
  | d :: ds, ev, st => match g d ev with
    | none => .bad
    | some ev1 => match t ev1 st with
      | .ok true st1 => (match m ev1 st1 with
        | .ok y st2 => (match lcLoop g t m ds ev st2 with
          | .ok ys st3 => .ok (y :: ys) st3
          | _ => .bad)
        | _ => .bad)
      | .ok false st1 => lcLoop g t m ds ev st1
      | _ => .bad
def mLc (vs : List Nat) (mi : Mo (List D)) (g : Gt) (t : Mo Bool) (m : Mo D) : Mo (List D) := fun ev st => (mi ev st).bind fun it st1 => lcLoop g t m it (wipeD ev vs) st1
abbrev W0 : Wx := fun _ _ _ => False
def mYes : Mo Bool := fun _ st => .ok true st
theorem mts_nil : PTs X [] (tT X.K W0 mYes) := ⟨fun pins s σ H Q I ⟨mu, ev, st, he, hs, hp⟩ => pts_nil.run pins s σ H Q I (hp _ _ _ .refl rfl hs)⟩
theorem mts_one (h : PT X c (tT X.K W0 ta)) : PTs X [c] (tT X.K W0 ta) := pts_one h
theorem ext_tmp {mu0 mu : List Addr} {H0 H : Hp} {q : Addr} {o : HO} (e : Ext mu0 H0 mu H) (h : H0 q = none) : Ext mu0 H0 mu (upd H q o) :=
  ⟨e.pre, fun a vs ha => by rw [upd_ne (ne_of_none ha h)]; exact e.tup a vs ha, fun a u ha n => ⟨by rw [upd_ne (ne_of_none ha h)]; exact (e.keep a u ha n).1, (e.keep a u ha n).2⟩, fun a ha => e.dom a (upd_dom a ha), fun a ob u ha => by rw [upd_ne (ne_of_none ha h)]; exact e.frz a ob u ha⟩
theorem lc_go {own : List Nat} {mi : Mo (List D)} {g : Gt} {ws : List Nat} {σ : L2.St} {H : Hp} {Q : VK} {K : PySem.W.Frag} {ta : Mo Bool} {ma : Mo D} (hw : ∀ i ∈ ws, i ∈ own) (h : tL K W (mLc own mi g ta ma) σ H Q) : tLc (tI K W mi) (tGt K ws g) (tT K W0 ta) (tE K W0 ma) own σ H Q := by
  obtain ⟨mu, ev, st, he, hst, hp⟩ := h
  refine ⟨mu, ev, st, he, hst, hp.bind fun it st1 mu1 J H1 _ e1 r1 s1 hp1 => ?_⟩
  obtain ⟨hl, inv, ok, hinv⟩ := r1
  intro q hq
  -- the invariant of the turns
  let fin (acc : List D) (r : Rs (List D)) (mu' : List Addr) (H' : Hp) : Prop := match r with
    | .ok ys st' => ∀ mu2 vs H2, Ext mu1 H1 mu2 H2 → H2 q = some (.lst vs) → q ∉ mu2 → Rps K H2 mu2 vs (acc ++ ys) → RelSt K H2 mu2 st' → Q (.ref q) H2
    | _ => False
  have start : fin [] (lcLoop g ta ma it (wipeD ev own) st1) mu1 H1 := by
    show (match lcLoop g ta ma it (wipeD ev own) st1 with
    | .ok ys st' => ∀ mu2 vs H2, Ext mu1 H1 mu2 H2 → H2 q = some (.lst vs) → q ∉ mu2 → Rps K H2 mu2 vs ([] ++ ys) → RelSt K H2 mu2 st' → Q (.ref q) H2
    | _ => False)
    have noexc : ∀ (it : List D) (evw : Ev) (st : Sto) (c : Str) (e : Ev) (s : Sto), lcLoop g ta ma it evw st ≠ .exc c e s := by
      intro it
      induction it with
      | nil => intro evw st c e s h; cases h
      | cons d ds ih =>
        intro evw st c e s h
        simp only [lcLoop] at h
        split at h
        · cases h
        · split at h
          · split at h
            · split at h <;> cases h
            · cases h
          · exact ih _ _ _ _ _ h
          · cases h
    cases hr : lcLoop g ta ma it (wipeD ev own) st1 with
    | bad => rw [hr] at hp1; exact hp1
    | exc c e s => exact absurd hr (noexc _ _ _ _ _ _)
    | ok ys st' =>
      rw [hr] at hp1
      exact fun mu2 vs H2 e2 h2 n2 r2 s2 => hp1 mu2 (.ref q) H2 e2 ⟨q, vs, rfl, hq, h2, n2, r2⟩ s2
  refine ⟨fun i m H => m = it.length - i ∧ i ≤ it.length ∧ ∃ mu st acc vs, Ext mu1 H1 mu H ∧ RelSt K H mu st ∧ inv H mu ∧ H q = some (.lst vs) ∧ q ∉ mu ∧ Rps K H mu vs acc ∧ acc.length ≤ i ∧ fin acc (lcLoop g ta ma (it.drop i) (wipeD ev own) st) mu H,
    ⟨_, rfl, Nat.zero_le _, mu1, st1, [], [], ext_new hq _, s1.new hq _, ok.keep _ _ _ _ hinv (ext_new hq _), upd_same, s1.fresh hq, .nil, Nat.le_refl _, start⟩, ?_⟩
  rintro i m H ⟨rfl, hi, mu, st, acc, vs, eE, hs, hinv, hqv, hqn, hr, hal, hf⟩
  have heW : RelEv K H mu (wipe σ own) (wipeD ev own) := ((he.mono e1).mono eE).wipe own
  by_cases hlt : i < it.length
  · have hx : it[i]? = some it[i] := List.getElem?_eq_getElem hlt
    refine .inr ⟨ok.go H mu i _ hinv hx, fun H' => i + 1 ≤ it.length ∧ ∃ mu st acc vs, Ext mu1 H1 mu H' ∧ RelSt K H' mu st ∧ inv H' mu ∧ H' q = some (.lst vs) ∧ q ∉ mu ∧ Rps K H' mu vs acc ∧ acc.length ≤ i + 1 ∧ fin acc (lcLoop g ta ma (it.drop (i + 1)) (wipeD ev own) st) mu H', fun H' h => ⟨_, by omega, rfl, h⟩, fun v H' y => ?_⟩
    obtain ⟨k1, k2, k3⟩ := ok.yld H mu st i _ v H' hs hinv hx y
    have k4 := ok.keep _ _ _ _ hinv k1
    have hqv' := k1.keep q _ hqv hqn
    rw [List.drop_eq_getElem_cons hlt] at hf
    simp only [lcLoop] at hf
    cases hgd : g it[i] (wipeD ev own) with
    | none => rw [hgd] at hf; exact hf.elim
    | some ev1 =>
      rw [hgd] at hf
      simp only at hf
      refine ⟨mu, _, wipeD ev own, ev1, k2, heW.mono k1, hgd, fun σ' he' fr => ⟨by rw [wipe_frm fr hw, wipe_wipe], mu, ev1, st, he', k3, ?_⟩⟩
      cases ht : ta ev1 st with
      | bad => rw [ht] at hf; exact hf
      | exc c e s => rw [ht] at hf; exact hf.elim
      | ok bb st2 =>
        rw [ht] at hf
        intro mu2 b2 H2 e2 rb s2
        obtain rfl : b2 = bb := rb
        have q2 := e2.keep q _ hqv'.1 hqv'.2
        cases b2 with
        | false =>
          exact iteF ⟨hlt, mu2, st2, acc, vs, (eE.trans k1).trans e2, s2, ok.keep _ _ _ _ k4 e2, q2.1, q2.2, hr.mono (k1.trans e2), by omega, hf⟩
        | true =>
          refine iteT ⟨mu2, ev1, st2, he'.mono e2, s2, ?_⟩
          simp only at hf
          cases hm : ma ev1 st2 with
          | bad => rw [hm] at hf; exact hf
          | exc c e s => rw [hm] at hf; exact hf.elim
          | ok yd st3 =>
            rw [hm] at hf
            intro mu3 yv H3 e3 r3 s3
            have q3 := e3.keep q _ q2.1 q2.2
            have hr3 : Rps K H3 mu3 vs acc := hr.mono ((k1.trans e2).trans e3)
            refine ⟨vs, q3.1, by rw [Rps.length hr3]; exact lim_lt (by omega), hlt, mu3, st3, acc ++ [yd], vs ++ [yv], ext_tmp (((eE.trans k1).trans e2).trans e3) hq, s3.tmp q3.1 q3.2, ok.tmp _ _ _ _ _ (ok.keep _ _ _ _ k4 (e2.trans e3)) hq q3.1 q3.2, upd_same, q3.2, ?_, by simp; omega, ?_⟩
            · exact (hr3.append (.cons r3 .nil)).mono0 (ext0_tmp q3.1)
            · simp only at hf
              cases hL : lcLoop g ta ma (it.drop (i + 1)) (wipeD ev own) st3 with
              | bad => rw [hL] at hf; exact hf
              | exc c e s => rw [hL] at hf; exact hf.elim
              | ok ys st4 =>
                rw [hL] at hf
                intro mu4 ws H4 e4 h4 n4 r4 s4
                refine hf mu4 ws H4 e4 h4 n4 ?_ s4
                simpa using r4
  · have e0 : i = it.length := by omega
    subst e0
    rw [List.drop_length] at hf
    refine .inl ⟨ok.stop H mu hinv, hf mu vs H eE hqv hqn ?_ hs⟩
    simpa using hr
theorem ml_lc {elt tg iter : Expr} {ifs : List Expr} {scope : Scope} {own : List (Str × Nat)} {mi : Mo (List D)} {g : Gt} {ws : List Nat} (hc : X.calm = true) (hN : X.N.Nodup) (hi : PI X tg iter (tI X.K W mi)) (ok : BlkOk X.N X.env.scope scope own) (hw : ∀ i ∈ ws, i ∈ own.map (·.2))
    (hg : ∀ (s : Shared) (H : Hp) (C : Addr) (cl : List (Str × Addr)) (fp : List Addr), PG (X.blk s H scope (compEnvC scope cl C X.env) fp) tg (tGt X.K ws g)) (ht : ∀ (s : Shared) (H : Hp) (C : Addr) (cl : List (Str × Addr)) (fp : List Addr), PTs (X.blk s H scope (compEnvC scope cl C X.env) fp) ifs (tT X.K W0 ta))
    (he : ∀ (s : Shared) (H : Hp) (C : Addr) (cl : List (Str × Addr)) (fp : List Addr), PE (X.blk s H scope (compEnvC scope cl C X.env) fp) elt (tE X.K W0 ma)) (hs : ∀ x, foldedSetIterable iter X.env x = pure x := by intro _; rfl) :
    PE X (.ListComp elt [⟨tg, iter, ifs, 0⟩] scope pos) (tL X.K W (mLc (own.map (·.2)) mi g ta ma)) := by
  refine PE.imp (pe_lc hc hN hi ok hg ht he hs) fun σ H Q h => ?_
  exact lc_go hw h
/-! ### zip of two tuples -/
def zipD : List D → List D → List D
  | x :: xs, y :: ys => .tup [x, y] :: zipD xs ys
  | _, _ => []
theorem zipD_len : ∀ xs ys, (zipD xs ys).length = min xs.length ys.length
  | [], _ => by simp [zipD]
  | _ :: _, [] => by simp [zipD]
  | x :: xs, y :: ys => by simp [zipD, zipD_len xs ys]
theorem zipD_get : ∀ {xs ys : List D} {i : Nat} {z : D}, (zipD xs ys)[i]? = some z → ∃ x y, xs[i]? = some x ∧ ys[i]? = some y ∧ z = .tup [x, y]
  | [], ys, i, z, h => by simp [zipD] at h
  | _ :: _, [], i, z, h => by simp [zipD] at h
  | x :: xs, y :: ys, 0, z, h => by simp [zipD] at h; exact ⟨x, y, rfl, rfl, h.symm⟩
  | x :: xs, y :: ys, i + 1, z, h => by
    simp only [zipD, List.getElem?_cons_succ] at h
    obtain ⟨a, b, h1, h2, h3⟩ := zipD_get h
    exact ⟨a, b, by simpa using h1, by simpa using h2, h3⟩
def mZip (mr : Mo (List D)) : Mo (List D) := fun ev st => (mr ev st).bind fun ds st1 => match ds with
  | [.tup xs, .tup ys] => if (zipD xs ys).length ≤ lim then .ok (zipD xs ys) st1 else .bad
  | _ => .bad
theorem iter_zip {K : PySem.W.Frag} {H0 : Hp} {q r : Addr} {vs ws : List V} {xs ys : List D} : IterOk K H0 (RZ.ItzT K q r) (zipD xs ys) (fun H mu => TupAt K H q vs ∧ Rps K H mu vs xs ∧ TupAt K H r ws ∧ Rps K H mu ws ys) := by
  refine ⟨?_, ?_, ?_, ?_, ?_⟩
  · rintro H mu i z ⟨h1, h2, h3, h4⟩ hz
    obtain ⟨x, y, hx, hy, rfl⟩ := zipD_get hz
    obtain ⟨v, hv, _⟩ := h2.get hx
    obtain ⟨w, hw, _⟩ := h4.get hy
    exact ⟨vs, ws, v, w, h1.sq, h3.sq, hv, hw⟩
  · rintro H mu st i z v H' hst ⟨h1, h2, h3, h4⟩ hz ⟨T, x', y', rfl, hT, rfl, hx', hy'⟩
    obtain ⟨x, y, hx, hy, rfl⟩ := zipD_get hz
    obtain ⟨v, hv, rv⟩ := h2.get hx
    obtain ⟨w, hw, rw'⟩ := h4.get hy
    have e1 := hx' vs h1.sq
    rw [hv] at e1; cases e1
    have e2 := hy' ws h3.sq
    rw [hw] at e2; cases e2
    exact ⟨ext_new hT _, .tup (.inl upd_same) (.cons (rv.mono (ext_new hT _)) (.cons (rw'.mono (ext_new hT _)) .nil)), hst.new hT _⟩
  · rintro H mu ⟨h1, h2, h3, h4⟩
    refine ⟨vs, ws, h1.sq, h3.sq, ?_⟩
    rw [zipD_len, Rps.length h2, Rps.length h4]
    omega
  · rintro H mu H' mu' ⟨h1, h2, h3, h4⟩ e
    exact ⟨e.tupAt h1, h2.mono e, e.tupAt h3, h4.mono e⟩
  · rintro H mu q' l l' ⟨h1, h2, h3, h4⟩ _ hq _
    exact ⟨(ext0_tmp (mu := mu) hq).tupAt h1, h2.mono0 (ext0_tmp hq), (ext0_tmp (mu := mu) hq).tupAt h3, h4.mono0 (ext0_tmp hq)⟩
theorem mi_zip {e2 : Expr} {tpos : Pos} {elts : List Expr} {kk : Nat} (hg : Gl X "zip") (hm : X.mg "zip" = none) (ha : PA X [e, e2] (tA X.K W mr))
    (hs : starEach [e, e2] X.env = (false, eval e X.env) :: starEach [e2] X.env := by rfl) (hpl : (backTo pos (starEach [e2] X.env)).any (·.1) = false := by rfl) :
    PI X (.Tuple elts kk tpos) (.Call (.Name "zip" p) [e, e2] [] pos) (tI X.K W (mZip mr)) := by
  refine PI.imp (RZ.pi_zipA hg hm ha hs hpl) fun σ H Q ⟨mu, ev, st, he, hs, hp⟩ => ?_
  refine ⟨mu, ev, st, he, hs, hp.bind fun ds st1 mu1 xs H1 _ e1 r1 s1 hp1 => ?_⟩
  split at hp1
  · split at hp1
    · rename_i hl
      cases r1 with
      | cons h1 h2 =>
        cases h2 with
        | cons h2 h3 =>
          cases h3
          cases h1 with
          | tup t1 r1 =>
            cases h2 with
            | tup t2 r2 =>
              exact ⟨_, _, _, _, rfl, .inr ⟨t1.sq, t2.sq, hp1 _ _ _ .refl ⟨hl, _, iter_zip, t1, r1, t2, r2⟩ s1⟩⟩
    · exact hp1.elim
  · exact hp1.elim
/-! ### the call of a def -/
def PostV (K : PySem.W.Frag) (mu : List Addr) (H : Hp) (r : Rs D) (Q : VK) : Prop := match r with
  | .ok d st' => ∀ mu' v H', Ext mu H mu' H' → Rp K H' mu' v d → RelSt K H' mu' st' → Q v H'
  | _ => False
abbrev Fm := List D → Sto → Rs D
/-- what a def promises that does what c does of its arguments' data (and lets nothing out) -/
def spM (K : PySem.W.Frag) (n : Nat) (c : Fm) : Sp := fun vs H Q _ => vs.length = n ∧ ∃ mu ds st, Rps K H mu vs ds ∧ RelSt K H mu st ∧ PostV K mu H (c ds st) Q
def mCall (c : Fm) (mr : Mo (List D)) : Mo D := fun ev st => (mr ev st).bind fun ds st1 => match c ds st1 with
  | .ok d st2 => .ok d st2
  | _ => .bad
theorem call_go {n : Nat} {c : Fm} {σ : L2.St} {H : Hp} {Q : VK} {K : PySem.W.Frag} (hl : ∀ ds st d st', c ds st = .ok d st' → ds.length = n) (h : tE K W (mCall c mr) σ H Q) : tCall (spM K n c) [] E0 (tA K W mr) σ H Q := by
  obtain ⟨mu, ev, st, he, hst, hp⟩ := h
  refine ⟨mu, ev, st, he, hst, hp.bind fun ds st1 mu1 xs H1 _ e1 r1 s1 hp1 => ?_⟩
  rw [List.append_nil]
  cases hc : c ds st1 with
  | bad => rw [hc] at hp1; exact hp1.elim
  | exc _ _ _ => rw [hc] at hp1; exact hp1.elim
  | ok d st2 =>
    rw [hc] at hp1
    refine ⟨(Rps.length r1).trans (hl _ _ _ _ hc), mu1, ds, st1, r1, s1, ?_⟩
    rw [hc]
    exact hp1
theorem me_call {k n : Nat} {f : Addr} {fd : FuncData} {ps : List Str} {c : Fm} {x : Str} (hl : ∀ ds st d st', c ds st = .ok d st' → ds.length = n) (F : FnOk X.prog X.w X.K X.mg X.base CX0 k f fd ps (spM X.K n c)) (hr : Room k X.A) (hg : Gl X x) (hm : X.mg x = some (.ref f)) (hk : PySem.W.keepIn X.K (.ref f) = true) (hb : Binds X.K fd ps [])
    (ha : PA X (e :: es) (tA X.K W mr)) (hdb : (x == ("__debug__" : Str)) = false := by decide) (he : starEach (e :: es) X.env = (false, eval e X.env) :: starEach es X.env := by rfl) (hpl : (backTo pos (starEach es X.env)).any (·.1) = false := by rfl) :
    PE X (.Call (.Name x p) (e :: es) [] pos) (tE X.K W (mCall c mr)) :=
  PE.imp (pe_call F hr hg hm hk hb .nil pass0 ha hdb he hpl) fun _ _ _ h => call_go hl h
/-- f() -/
theorem me_call0 {k : Nat} {f : Addr} {fd : FuncData} {ps : List Str} {c : Fm} {x : Str} (hl : ∀ ds st d st', c ds st = .ok d st' → ds.length = 0) (F : FnOk X.prog X.w X.K X.mg X.base CX0 k f fd ps (spM X.K 0 c)) (hr : Room k X.A) (hg : Gl X x) (hm : X.mg x = some (.ref f)) (hk : PySem.W.keepIn X.K (.ref f) = true) (hb : Binds X.K fd ps [])
    (hdb : (x == ("__debug__" : Str)) = false := by decide) : PE X (.Call (.Name x p) [] [] pos) (tE X.K W (mCall c mNil)) := by
  refine PE.imp (pe_call0 F hr hg hm hk hb .nil pass0 hdb) fun σ H Q h => ?_
  have := call_go hl h
  obtain ⟨mu, ev, st, he, hst, hp⟩ := this
  exact hp _ _ _ .refl .nil hst
/-! ### a def's body -/
def fnM (n k : Nat) (body : Ms) : Fm := fun ds st => if ds.length = n then (match body (ds.map some ++ List.replicate (k - n) none) st with
  | .ok (.rt d, _) st' => .ok d st'
  | .ok (.nx, _) st' => .ok .non st'
  | _ => .bad) else .bad
theorem fnM_len {n k : Nat} {body : Ms} {ds : List D} {st : Sto} {d : D} {st' : Sto} (h : fnM n k body ds st = .ok d st') : ds.length = n := by
  unfold fnM at h
  split at h
  · assumption
  · cases h
theorem rel_start {K : PySem.W.Frag} {H : Hp} {mu : List Addr} {N : List Str} {vs : List V} {ds : List D} (h : Rps K H mu vs ds) : RelEv K H mu (start N vs) (ds.map some ++ List.replicate (N.length - ds.length) none) := by
  have hl := Rps.length h
  refine ⟨by unfold L2.start; simp [hl], fun i d q => ?_⟩
  by_cases hi : i < ds.length
  · rw [List.getElem?_append_left (by simpa using hi), List.getElem?_map] at q
    cases hd : ds[i]? with
    | none => rw [hd] at q; cases q
    | some d' =>
      rw [hd] at q
      simp only [Option.map_some, Option.some.injEq] at q
      subst q
      obtain ⟨v, hv, r⟩ := h.get hd
      refine ⟨v, ?_, r⟩
      unfold L2.start
      rw [List.getElem?_append_left (by rw [List.length_map, hl]; exact hi), List.getElem?_map, hv]
      rfl
  · rw [List.getElem?_append_right (by simpa using hi)] at q
    rw [List.getElem?_replicate] at q
    split at q <;> cases q
theorem fn_go {K : PySem.W.Frag} {N : List Str} {n k : Nat} {body : Ms} {vs : List V} {H : Hp} {Q : VK} {E : XK} (hk : N.length = k) (h : spM K n (fnM n k body) vs H Q E) : tS K W0 body { nx := fun _ H' => Q .non H', rt := Q } (start N vs) H := by
  obtain ⟨hl, mu, ds, st, hr, hs, hp⟩ := h
  have hd : ds.length = n := (Rps.length hr).symm.trans hl
  have hst := rel_start (N := N) hr
  rw [hk, hd] at hst
  refine ⟨mu, _, st, hst, hs, ?_⟩
  unfold fnM at hp
  rw [if_pos hd] at hp
  cases hb : body (ds.map some ++ List.replicate (k - n) none) st with
  | bad => rw [hb] at hp; exact hp
  | exc c e s => rw [hb] at hp; exact hp.elim
  | ok r st' =>
    obtain ⟨fl, ev'⟩ := r
    rw [hb] at hp
    cases fl with
    | nx => exact fun mu' σ' H' e he hs => hp mu' .non H' e .non hs
    | rt d => exact fun mu' σ' H' e he hs v rv => hp mu' v H' e rv hs
    | bk => exact hp.elim
    | ct => exact hp.elim
/-- a def of the text whose body reads as m keeps the promise of m -/
theorem fn_ok {P : Program} {w : World} {K : PySem.W.Frag} {mg : Str → Option Value} {base : Heap} {x qual : Str} {st : Stmt} {f : Addr} {fd : FuncData} {N ps : List Str} {k n : Nat} {body : Ms} (F : Fun K x qual st f fd) (S : FnScope N ps (defScope st)) (hn : ps.length = n)
    (hb : ∀ (cdv : Value) (A : Around) (outer : List Env) (s : Shared) (H : Hp) (E : XK), Room k (A.deeper (PyProof.Rows.envOfC qual (defScope st) s.heap.objs.size f cdv)) → PSs (cxOf CX0 P w K mg base N qual (defScope st) f cdv A outer s H E).nox (defBody st) (tS K W0 body)) :
    FnOk P w K mg base CX0 (k + 1) f fd ps (spM K n (fnM n N.length body)) := by
  refine F.ok S (fun vs H Q E h => h.1.trans hn.symm) (fun cdv A outer s H vs Q E hr h => ⟨_, hb cdv A outer s H E hr, fn_go rfl h⟩)
theorem fn_zero {P : Program} {w : World} {K : PySem.W.Frag} {mg : Str → Option Value} {base : Heap} {f : Addr} {fd : FuncData} {ps : List Str} {n : Nat} : FnOk P w K mg base CX0 0 f fd ps (spM K n fun _ _ => .bad) := by
  have no : ∀ vs H Q E, ¬ spM K n (fun _ _ => .bad) vs H Q E := fun vs H Q E ⟨_, _, _, _, _, _, h⟩ => h
  exact ⟨fun vs H Q E h => absurd h (no vs H Q E), fun A outer s H args us vs Q E _ _ _ _ h => absurd h (no vs H Q E)⟩
end Ml

namespace Ml
open PySem L2
variable {X : Cx} {W : Wx} {a b c e : Expr} {es rest : List Expr} {pos p q : Pos} {ma mb mc : Mo D} {mr : Mo (List D)} {ta tb : Mo Bool} {s1 s2 : Ms}
/-! ### dicts -/
section
variable {κ : Type} [DecidableEq κ]
def valD (kvs : List (κ × D)) (k : κ) : Option D := (kvs.find? fun kv => decide (kv.1 = k)).map (·.2)
def putD (kvs : List (κ × D)) (k : κ) (v : D) : List (κ × D) :=
  if kvs.any fun kv => decide (kv.1 = k) then kvs.map fun kv => if kv.1 = k then (kv.1, v) else kv else kvs ++ [(k, v)]
theorem KD.length {K : PySem.W.Frag} {H : Hp} {mu : List Addr} {ws : List (κ × V)} {kvs : List (κ × D)} (h : KD K H mu ws kvs) : ws.length = kvs.length := Paired.length h
theorem KD.val {K : PySem.W.Frag} {H : Hp} {mu : List Addr} {ws : List (κ × V)} {kvs : List (κ × D)} (h : KD K H mu ws kvs) (k : κ) : (∃ v d, valV ws k = some v ∧ valD kvs k = some d ∧ Rp K H mu v d) ∨ (valV ws k = none ∧ valD kvs k = none) := by
  unfold KD at h
  induction h with
  | nil => exact .inr ⟨rfl, rfl⟩
  | cons r t ih =>
    rename_i p q _ _
    obtain ⟨e, r⟩ := r
    unfold valV valD at ih ⊢
    by_cases hk : p.1 = k
    · have hq : q.1 = k := e ▸ hk
      rw [List.find?_cons_of_pos (by simpa using hk), List.find?_cons_of_pos (by simpa using hq)]
      exact .inl ⟨_, _, rfl, rfl, r⟩
    · have hq : ¬ q.1 = k := e ▸ hk
      rw [List.find?_cons_of_neg (by simpa using hk), List.find?_cons_of_neg (by simpa using hq)]
      exact ih
theorem KD.any {K : PySem.W.Frag} {H : Hp} {mu : List Addr} {ws : List (κ × V)} {kvs : List (κ × D)} (h : KD K H mu ws kvs) (k : κ) : (ws.any fun kv => decide (kv.1 = k)) = kvs.any fun kv => decide (kv.1 = k) := by
  unfold KD at h
  induction h with
  | nil => rfl
  | cons r t ih => rw [List.any_cons, List.any_cons, ih, r.1]
theorem paired_append {α β : Type} {R : α → β → Prop} : ∀ {xs : List α} {ys : List β} {xs' : List α} {ys' : List β}, Paired R xs ys → Paired R xs' ys' → Paired R (xs ++ xs') (ys ++ ys')
  | _, _, _, _, .nil, h => h
  | _, _, _, _, .cons r t, h => .cons r (paired_append t h)
theorem paired_map {α β γ δ : Type} {R : α → β → Prop} {S : γ → δ → Prop} {f : α → γ} {g : β → δ} : ∀ {xs : List α} {ys : List β}, Paired R xs ys → (∀ x y, R x y → S (f x) (g y)) → Paired S (xs.map f) (ys.map g)
  | _, _, .nil, _ => .nil
  | _, _, .cons r t, h => .cons (h _ _ r) (paired_map t h)
theorem KD.put {K : PySem.W.Frag} {H : Hp} {mu : List Addr} {ws : List (κ × V)} {kvs : List (κ × D)} (h : KD K H mu ws kvs) (k : κ) {v : V} {d : D} (r : Rp K H mu v d) : KD K H mu (putK ws k v) (putD kvs k d) := by
  unfold putK putD
  rw [h.any k]
  split
  · refine paired_map h fun p q r' => ?_
    by_cases hk : p.1 = k
    · have hq : q.1 = k := r'.1 ▸ hk
      rw [if_pos hk, if_pos hq]
      exact ⟨r'.1, r⟩
    · have hq : ¬ q.1 = k := r'.1 ▸ hk
      rw [if_neg hk, if_neg hq]
      exact r'
  · exact paired_append h (.cons ⟨rfl, r⟩ .nil)
end
def keyOf : D → Option Key
  | .int i => some (.inl i)
  | .str x => some (.inr x)
  | _ => none
theorem key_rel {K : PySem.W.Frag} {H : Hp} {mu : List Addr} {v : V} {d : D} {k : Key} (r : Rp K H mu v d) (e : keyOf d = some k) : v = kV k := by
  cases r <;> simp only [keyOf] at e <;> cases e <;> rfl
/-- a new dict that nobody holds yet -/
def RD (K : PySem.W.Frag) : RR V (List (Key × D)) := ⟨fun H0 H mu _ v kvs => ∃ p ws, v = .ref p ∧ H0 p = none ∧ H p = some (.dK ws) ∧ p ∉ mu ∧ KD K H mu ws kvs, fun e ⟨p, vs, a, b, c⟩ => ⟨p, vs, a, e.dom p b, c⟩⟩
abbrev tD (K : PySem.W.Frag) (W : Wx) (m : Mo (List (Key × D))) : TE := tG K W (RD K) m
def mPairs : List (Mo D × Mo D) → Mo (List (Key × D))
  | [], _, st => .ok [] st
  | (mk, mv) :: r, ev, st => (mk ev st).bind fun k st1 => (mv ev st1).bind fun v st2 => match keyOf k with
    | some kk => (mPairs r ev st2).bind fun ps st3 => .ok ((kk, v) :: ps) st3
    | none => .bad
def mergeD (kvs more : List (Key × D)) : List (Key × D) := more.foldl (fun acc kv => putD acc kv.1 kv.2) kvs
def mDictD (ps : List (Mo D × Mo D)) : Mo (List (Key × D)) := fun ev st => (mPairs ps ev st).bind fun kvs st1 => if kvs.length ≤ 15 then .ok (mergeD [] kvs) st1 else .bad
theorem KD.merge {K : PySem.W.Frag} {H : Hp} {mu : List Addr} : ∀ {more : List (Key × V)} {more' : List (Key × D)}, KD K H mu more more' → ∀ {ws : List (Key × V)} {kvs : List (Key × D)}, KD K H mu ws kvs → KD K H mu (mergeK ws more) (mergeD kvs more')
  | _, _, .nil, _, _, h => h
  | _, _, .cons r t, ws, kvs, h => by
    rename_i p q ps qs
    have e : p.1 = q.1 := r.1
    show KD K H mu (mergeK (putK ws p.1 p.2) ps) (mergeD (putD kvs q.1 q.2) qs)
    rw [← e]
    exact KD.merge t (h.put _ r.2)
abbrev trsOf (K : PySem.W.Frag) (W : Wx) (ps : List (Mo D × Mo D)) : List (TE × TE) := ps.map fun z => (tE K W z.1, tE K W z.2)
theorem mps_nil : PPs X pos [] [] (trsOf X.K W []) := pps_nil
theorem mps_cons {k v : Expr} {ks : List (Option Expr)} {vs : List Expr} {mk mv : Mo D} {ps : List (Mo D × Mo D)} (hk : PE X k (tE X.K W mk)) (hv : PE X v (tE X.K W mv)) (hr : PPs X pos ks vs (trsOf X.K W ps)) : PPs X pos (some k :: ks) (v :: vs) (trsOf X.K W ((mk, mv) :: ps)) := pps_cons hk hv hr
def RPs (K : PySem.W.Frag) : RR (List (V × V)) (List (Key × D)) := ⟨fun _ H mu _ xs kvs => ∃ ws : List (Key × V), xs = ws.map (fun kv => (kV kv.1, kv.2)) ∧ KD K H mu ws kvs, fun _ h => h⟩
theorem pairs_go {K : PySem.W.Frag} : ∀ {ps : List (Mo D × Mo D)} {σ : L2.St} {H : Hp} {Q : List (V × V) → Hp → Prop}, tG K W (RPs K) (mPairs ps) σ H Q → tPairs (trsOf K W ps) σ H Q
  | [], σ, H, Q, ⟨mu, ev, st, he, hst, hp⟩ => hp _ _ _ .refl ⟨[], rfl, .nil⟩ hst
  | (mk, mv) :: r, σ, H, Q, ⟨mu, ev, st, he, hst, hp⟩ => by
    refine ⟨mu, ev, st, he, hst, hp.bind fun k st1 mu1 x H1 _ e1 r1 s1 hp1 => ?_⟩
    refine ⟨mu1, ev, st1, he.mono e1, s1, hp1.bind fun v st2 mu2 y H2 _ e2 r2 s2 hp2 => ?_⟩
    cases hk : keyOf k with
    | none => rw [hk] at hp2; exact hp2.elim
    | some kk =>
      rw [hk] at hp2
      refine pairs_go ⟨mu2, ev, st2, (he.mono e1).mono e2, s2, hp2.bind fun kvs st3 mu3 xs H3 _ e3 r3 s3 hp3 => ?_⟩
      obtain ⟨ws, rfl, hw⟩ := r3
      refine hp3 _ _ _ .refl ⟨(kk, y) :: ws, ?_, .cons ⟨rfl, Rp.mono e3 r2⟩ hw⟩ s3
      rw [key_rel (Rp.mono (e2.trans e3) r1) hk]
      rfl
theorem ext0_tmpD {H : Hp} {mu : List Addr} {q : Addr} {l : List (Key × V)} {o : HO} (h : H q = some (.dK l)) : Ext0 mu H mu (upd H q o) :=
  ⟨⟨[], by simp⟩, fun a vs ha => by rw [upd_ne (fun e => by subst e; rw [h] at ha; cases ha)]; exact ha, fun a o vs ha n => ⟨by rw [upd_ne (fun e => by subst e; rw [h] at ha; cases ha)]; exact ha, n⟩⟩
theorem RelSt.tmpD {K : PySem.W.Frag} {H : Hp} {mu : List Addr} {st : Sto} (r : RelSt K H mu st) {q : Addr} {l : List (Key × V)} {o : HO} (h : H q = some (.dK l)) (hn : q ∉ mu) : RelSt K (upd H q o) mu st :=
  ⟨r.len, r.nd, fun i a ob h1 h2 => (r.ob i a ob h1 h2).mono0 (ext0_tmpD h) (upd_ne fun e => hn (e ▸ List.mem_of_getElem? h1))⟩
theorem md_disp {keys : List (Option Expr)} {values : List Expr} {ps : List (Mo D × Mo D)} (h : PPs X pos keys values (trsOf X.K W ps)) (hall : keys.all (·.isSome) = true := by rfl) (hl : keys.length = values.length := by rfl) (h0 : keys ≠ [] := by exact (fun z => by cases z)) (h15 : keys.length ≤ 15 := by decide) :
    PE X (.Dict keys values pos) (tD X.K W (mDictD ps)) := by
  refine PE.imp (pe_disp h hall hl h0 h15) fun σ H Q ⟨mu, ev, st, he, hst, hp⟩ => ?_
  intro q hq
  have e0 : Ext mu H mu (upd H q (.dK [])) := ext_new hq _
  unfold mDictD at hp
  refine pairs_go ⟨mu, ev, st, he.mono e0, hst.new hq _, ?_⟩
  cases hr : mPairs ps ev st with
  | bad => rw [hr] at hp; exact hp
  | exc c e s => rw [hr] at hp; exact fun mu' σ' H' e' => hp mu' σ' H' (e0.trans e')
  | ok kvs st1 =>
    rw [hr] at hp
    simp only [Rs.bind_ok] at hp
    intro mu1 xs H1 e1 ⟨ws, ex, hw⟩ s1
    subst ex
    have k1 := e1.keep q _ upd_same (hst.fresh hq)
    refine ⟨k1.1, ws, rfl, ?_⟩
    split at hp
    · rename_i hl
      refine ⟨by rw [hw.length]; exact hl, ?_⟩
      refine hp mu1 (.ref q) _ (ext_tmp (e0.trans e1) hq) ⟨q, _, rfl, hq, upd_same, k1.2, ?_⟩ (s1.tmpD k1.1 k1.2)
      exact (KD.merge hw .nil).mono0 (ext0_tmpD k1.1)
    · exact hp.elim
/-- {..}.get(k, x) of a new dict -/
def mGetN (md : Mo (List (Key × D))) (mk mx : Mo D) : Mo D := fun ev st => (md ev st).bind fun kvs st1 => (mk ev st1).bind fun k st2 => (mx ev st2).bind fun x st3 => match keyOf k with
  | some kk => .ok ((valD kvs kk).getD x) st3
  | none => .bad
theorem me_getN {apos cpos : Pos} {md : Mo (List (Key × D))} {o f : Expr} {mk mx : Mo D} (hu : X.A.units + 1 < cLine) (ho : PE X o (tD X.K W md)) (he : PE X e (tE X.K W mk)) (hf : PE X f (tE X.K W mx)) (m : M2 X o "get" apos e f cpos := by exact ⟨rfl, rfl, rfl, rfl⟩) : PE X (.Call (.Attribute o "get" apos) [e, f] [] cpos) (tE X.K W (mGetN md mk mx)) := by
  refine PE.imp (pe_dget2 hu ho he hf m) fun σ H Q ⟨mu, ev, st, he, hst, hp⟩ => ?_
  refine ⟨mu, ev, st, he, hst, hp.bind fun kvs st1 mu1 v H1 _ e1 r1 s1 hp1 => ?_⟩
  obtain ⟨q, ws, rfl, _, hq, hn, hk⟩ := r1
  refine ⟨q, rfl, .inl ⟨ws, .inl hq⟩, mu1, ev, st1, he.mono e1, s1, hp1.bind fun k st2 mu2 y H2 _ e2 r2 s2 hp2 => ?_⟩
  refine ⟨mu2, ev, st2, (he.mono e1).mono e2, s2, hp2.bind fun x st3 mu3 z H3 _ e3 r3 s3 hp3 => ?_⟩
  cases hkk : keyOf k with
  | none => rw [hkk] at hp3; exact hp3.elim
  | some kk =>
    rw [hkk] at hp3
    have q3 := (e2.trans e3).keep q _ hq hn
    refine ⟨valV ws kk, .inl ⟨ws, kk, .inl q3.1, key_rel (Rp.mono e3 r2) hkk, rfl⟩, hp3 _ _ _ .refl ?_ s3⟩
    rcases (hk.mono (e2.trans e3)).val kk with ⟨v, d, h1, h2, h3⟩ | ⟨h1, h2⟩
    · rw [h1, h2]; exact h3
    · rw [h1, h2]; exact r3
/-- {..}[k] of a new dict -/
def mAtN (md : Mo (List (Key × D))) (mk : Mo D) : Mo D := fun ev st => (md ev st).bind fun kvs st1 => (mk ev st1).bind fun k st2 => match keyOf k with
  | some kk => (match valD kvs kk with
    | some d => .ok d st2
    | none => .bad)
  | none => .bad
theorem me_atN {md : Mo (List (Key × D))} {o i : Expr} {mk : Mo D} (hu : X.A.units + 1 < cLine) (ho : PE X o (tD X.K W md)) (hi : PE X i (tE X.K W mk)) (hs : NoSl i := by exact fun _ _ => rfl) : PE X (.Subscript o i pos) (tE X.K W (mAtN md mk)) := by
  refine PE.imp (pe_dget hu ho hi hs) fun σ H Q ⟨mu, ev, st, he, hst, hp⟩ => ?_
  refine ⟨mu, ev, st, he, hst, hp.bind fun kvs st1 mu1 v H1 _ e1 r1 s1 hp1 => ?_⟩
  obtain ⟨q, ws, rfl, _, hq, hn, hk⟩ := r1
  refine ⟨mu1, ev, st1, he.mono e1, s1, hp1.bind fun k st2 mu2 y H2 _ e2 r2 s2 hp2 => ?_⟩
  cases hkk : keyOf k with
  | none => rw [hkk] at hp2; exact hp2.elim
  | some kk =>
    rw [hkk] at hp2
    simp only at hp2
    have q3 := e2.keep q _ hq hn
    rcases (hk.mono e2).val kk with ⟨v, d, h1, h2, h3⟩ | ⟨h1, h2⟩
    · rw [h2] at hp2
      exact ⟨q, v, rfl, .inl ⟨ws, kk, .inl q3.1, key_rel r2 hkk, h1.symm⟩, hp2 _ _ _ .refl h3 s2⟩
    · rw [h2] at hp2; exact hp2.elim
end Ml

namespace Ml
open PySem L2
variable {X : Cx} {W : Wx} {a b c e : Expr} {es rest : List Expr} {pos p q : Pos} {ma mb mc : Mo D} {mr : Mo (List D)} {ta tb : Mo Bool} {s1 s2 : Ms}
/-! ### name = [..] on one line -/
theorem ms_setLc {i : Nat} {y : Str} {py spos : Pos} {elt tg iter : Expr} {ifs : List Expr} {scope : Scope} {own : List (Str × Nat)} {mi : Mo (List D)} {g : Gt} {ws : List Nat} (hc : X.calm = true) (hN : X.N.Nodup) (hy : X.N[i]? = some y) (hyl : X.env.scope.names.lookup y = some .local)
    (hsw : swapsWith (.ListComp elt [⟨tg, iter, ifs, 0⟩] scope pos) (some (.Name y py)) spos.line X.env = pure true) (hi : PI X tg iter (tI X.K W mi)) (ok : BlkOk X.N X.env.scope scope own) (hw : ∀ i ∈ ws, i ∈ own.map (·.2))
    (hg : ∀ (s : Shared) (H : Hp) (C : Addr) (cl : List (Str × Addr)) (fp : List Addr), PG (X.blk s H scope (compEnvC scope cl C X.env) fp) tg (tGt X.K ws g)) (ht : ∀ (s : Shared) (H : Hp) (C : Addr) (cl : List (Str × Addr)) (fp : List Addr), PTs (X.blk s H scope (compEnvC scope cl C X.env) fp) ifs (tT X.K W0 ta))
    (he : ∀ (s : Shared) (H : Hp) (C : Addr) (cl : List (Str × Addr)) (fp : List Addr), PE (X.blk s H scope (compEnvC scope cl C X.env) fp) elt (tE X.K W0 ma)) (hs : ∀ x, foldedSetIterable iter X.env x = pure x := by intro _; rfl) :
    PS X (.Assign [.Name y py] (.ListComp elt [⟨tg, iter, ifs, 0⟩] scope pos) spos) (tS X.K W (mSet i (mKeep (mLc (own.map (·.2)) mi g ta ma)))) := by
  refine PS.imp (ps_setLc hc hN hy hyl hsw hi ok hg ht he hs) fun D σ H ⟨mu, ev, st, he, hs, hp⟩ => ?_
  refine lc_go (W := W) hw ⟨mu, ev, st, he, hs, ?_⟩
  unfold mSet mKeep at hp
  cases hr : mLc (own.map (·.2)) mi g ta ma ev st with
  | bad => rw [hr] at hp; exact hp
  | exc c e s => rw [hr] at hp; exact hp
  | ok ds st1 =>
    rw [hr] at hp
    intro mu1 x H1 e1 ⟨p, vs, ex, h0, hpp, hn, rs⟩ s1
    subst ex
    obtain ⟨k1, k2⟩ := adopt s1 hpp hn rs
    exact hp (mu1 ++ [p]) _ H1 (ext_adopt e1 h0) ((he.mono (ext_adopt e1 h0)).set k1 i) k2
/-! ### the built-ins' names -/
theorem bt_len : bootBuiltins "len" = some (.builtin "len") := by decide +kernel
theorem bt_abs : bootBuiltins "abs" = some (.builtin "abs") := by decide +kernel
theorem bt_min : bootBuiltins "min" = some (.builtin "min") := by decide +kernel
theorem bt_max : bootBuiltins "max" = some (.builtin "max") := by decide +kernel
theorem bt_sum : bootBuiltins "sum" = some (.builtin "sum") := by decide +kernel
theorem bt_any : bootBuiltins "any" = some (.builtin "any") := by decide +kernel
theorem bt_all : bootBuiltins "all" = some (.builtin "all") := by decide +kernel
theorem bt_sorted : bootBuiltins "sorted" = some (.builtin "sorted") := by decide +kernel
theorem bt_int : bootBuiltins "int" = some (.type "int") := by decide +kernel
theorem bt_str : bootBuiltins "str" = some (.type "str") := by decide +kernel
theorem bt_bool : bootBuiltins "bool" = some (.type "bool") := by decide +kernel
theorem bt_tuple : bootBuiltins "tuple" = some (.type "tuple") := by decide +kernel
theorem bt_list : bootBuiltins "list" = some (.type "list") := by decide +kernel
theorem bt_set : bootBuiltins "set" = some (.type "set") := by decide +kernel
theorem ok_int : okCls "int" = true := by decide
theorem ok_str : okCls "str" = true := by decide
theorem ok_bool : okCls "bool" = true := by decide
theorem ok_tuple : okCls "tuple" = true := by decide
theorem ok_list : okCls "list" = true := by decide
/-! ### the law's end -/
theorem rp_script {K : PySem.W.Frag} {H : Hp} {a : Addr} {ns : List Int} (hO : Only H) (hS : SqL K H a (ns.map V.int)) : Rp K H [] (.ref a) (.ro (ns.map D.int)) := by
  refine .ro (vs := ns.map V.int) ?_ (Rps.of_ints ns)
  rcases hS with (h | ⟨o, h⟩) | h
  · rcases hO a with q | ⟨o, xs, q⟩
    · rw [q] at h; cases h
    · rw [q] at h; cases h
  · exact .inl ⟨o, h, by simp⟩
  · exact .inr h
theorem walk_m {l : PySem.W.OpenLaw} {q : Program} {loose : List Str} {XP : (Str → Option Value) → Heap → Prop} {YP : World → Heap → Prop} {d : DefRec} {K : Params → PySem.W.Frag} {k : Nat} {c : Fm} (hn : l.most = some 63) (hdf : d.params.defaults = []) (hr : Room k callerA)
    (hY : ∀ (w : World) (h : Heap), YP w h → (K w.params).In h)
    (F : ∀ (w : World) (mg : Str → Option Value) (fa : Addr) (h : Heap), (K w.params).In h → h.Ns mainGlobals mg → mg d.name = some (.ref fa) →
      ∃ fd : FuncData, (∀ (s : Shared) (u : Value), BindsTo s fd ⟨[u], []⟩ [("script", u)]) ∧ ∀ base : Heap, (K w.params).In base → base.Ns mainGlobals mg → FnOk l.prog w (K w.params) mg base CX0 k fa fd ["script"] (spM (K w.params) 1 c))
    (hl : ∀ ns : List Int, ns.length ≤ 63 → ∃ st', c [.ro (ns.map D.int)] [] = .ok (.bl true) st') :
    PySem.W.WalkO q loose XP YP l.row.toRowW d [] (fun f vs => PySem.call f vs) := by
  refine L2.walk_of (n := 63) (k := k) (x := "script") (CX := fun _ => CX0) (sp := fun w => spM (K w.params) 1 c) hn (by decide) hdf hr hY F (fun w H a ns hlen hO hS => ?_) fun _ _ _ _ _ z => z
  obtain ⟨st', e⟩ := hl ns hlen
  refine ⟨rfl, [], [.ro (ns.map D.int)], [], .cons (rp_script hO hS) .nil, ⟨rfl, .nil, fun i a o h _ => by simp at h⟩, ?_⟩
  rw [e]
  intro mu' v H' _ r _
  cases r
  rfl
end Ml

namespace Ml
open PySem L2 PyProof.Rows
section
variable {X : Cx} {pins : List (Addr × Obj)} {σ : L2.St} {H : Hp} {s : Shared} {Q : VK} {r : Value} {ns : List Int}
/-- sorted(r), the items collected being whole numbers -/
theorem sort_behind (I : Inv X pins σ H s) (hz : ns.length ≤ sizeLine)
    (hcol : ∀ (R : List Value → Shared → Prop) (E : Value → Shared → Prop), (∀ (g : Heap) (tk : Nat) (acc : List Value), (∀ b o, s.heap.get? b = some o → g.get? b = some o) → IntsAre acc ns → R acc { s with heap := g, toks := tk }) → wpAny (model X.prog X.w) X.A.in1 (collect r) R E s)
    (q : ∀ (ms : List Int) (p : Addr), ms.Perm ns → ms.Pairwise (· ≤ ·) → H p = none → Q (.ref p) (upd H p (.lst (ms.map V.int)))) :
    wpAny (model X.prog X.w) X.A (call (.builtin "sorted") [r]) (EP X pins σ Q) X.xe s := by
  refine Calls.call_function_entry kind_sorted plain_sorted entry_sorted (args_sorted1 _) ?_
  unfold Builtin.«sorted»
  refine wpAny_bind (m := checkCount "sorted" 1 1 _) (wpAny_pure ?_)
  refine wpAny_bind (hcol _ _ fun g tk acc hk hI => ?_)
  have hzA : acc.length ≤ sizeLine := by rw [hI.length]; exact hz
  have I1 : Inv X pins σ H { s with heap := g, toks := tk } := I.kept hk
  refine wpAny_bind (wpAny_newList ?_ hzA)
  have hoL : (g.push (seqObj "list" acc.toArray 0)).get? g.objs.size = some (seqObj "list" acc.toArray 0) := Heap.get?_push_size _ rfl
  show wpAny _ _ _ _ _ { s with heap := g.push (seqObj "list" acc.toArray 0), toks := tk }
  refine wpAny_bind (wpAny_holding (wpAny_call_entry slot_list_sort ⟨_, hoL, rfl⟩ entry_list_sort
    (SrtO.list_sort_ord (s := { s with heap := g.push (seqObj "list" acc.toArray 0), toks := tk }) SrtO.swo_int hoL hzA (fun h2 => SrtO.ints_sortable hI h2) fun out hs hb => ⟨_, rfl, ?_⟩) (args_list_sort _)))
  obtain ⟨k1, k2, k3⟩ := SrtO.ints_out hI hs hb
  obtain ⟨ep, he⟩ := sortedHeap_at (vs := acc) (out := out.toArray) hoL
  have hlen : ((out.map SrtO.iv).map V.int).length ≤ sizeLine := by rw [List.length_map, k2.length_eq]; exact hz
  refine wpAny_pure ⟨_, rfl, .ref g.objs.size, upd H g.objs.size (.lst ((out.map SrtO.iv).map V.int)), I1.laid (t' := tk) (fun b u e => ?_) (Nat.le_refl _) ⟨hlen, out, ep, vals_of_ints k1, he⟩, rfl, q _ _ k2 k3 (I1.hok.fresh (Nat.le_refl _))⟩
  have hb : b < g.objs.size := Heap.lt_size e
  rw [sortedHeap_old (Nat.ne_of_lt hb) (by rw [size_push']; exact Nat.lt_succ_of_lt hb)]
  exact Heap.get?_push_of_some _ e
end
section
variable {X : Cx}
/-- sorted(t), t a tuple of whole numbers -/
def rSortedT (K : PySem.W.Frag) : List V → Hp → VK → Prop := fun vs H Q => ∃ (a : Addr) (ns : List Int), vs = [V.ref a] ∧ SqT K H a (ns.map V.int) ∧
  ∀ (ms : List Int) (p : Addr), ms.Perm ns → ms.Pairwise (· ≤ ·) → H p = none → Q (.ref p) (upd H p (.lst (ms.map V.int)))
theorem cr_sortedTup : CallR X (.builtin "sorted") (rSortedT X.K) := by
  intro pins s σ H vs us Q I r h
  obtain ⟨a, ns, rfl, hs, q⟩ := h
  rw [Vals.ref1 r]
  obtain ⟨its, rv, ⟨o, ho, hc, n, hd⟩, hz⟩ := I.tuple hs
  rw [List.length_map] at hz
  refine sort_behind I hz (fun R E k => ?_) q
  have hl := rv.length
  rw [List.length_map] at hl
  exact wpAny_collect_seq a (.inr rfl) ho hc hd (fun g hk => k g s.toks its hk rv.ints) (by rw [List.size_toArray]; omega)
/-- sorted(d), d a dict whose keys are whole numbers -/
def rSortedD : List V → Hp → VK → Prop := fun vs H Q => ∃ (a : Addr) (kvs : List (Key × V)) (ns : List Int), vs = [V.ref a] ∧ Rd H a (.dK kvs) ∧ kvs.map (·.1) = ns.map Sum.inl ∧
  ∀ (ms : List Int) (p : Addr), ms.Perm ns → ms.Pairwise (· ≤ ·) → H p = none → Q (.ref p) (upd H p (.lst (ms.map V.int)))
theorem cr_sortedDict (hcalm : X.calm = true) : CallR X (.builtin "sorted") rSortedD := by
  intro pins s σ H vs us Q I r h
  obtain ⟨a, kvs, ns, rfl, hd, hks, q⟩ := h
  rw [Vals.ref1 r]
  obtain ⟨z, lo, ws, rel, dd⟩ := dk_rd I.hok hd
  obtain ⟨ep, hat⟩ := dd.dictAt
  have hkeys : ws.map (·.1) = ns.map Sum.inl := rel.keys.symm.trans hks
  have hl : ws.length = ns.length := by
    have e := congrArg List.length hkeys
    rwa [List.length_map, List.length_map] at e
  have hz : ns.length ≤ sizeLine := by rw [← hl, ← rel.length]; exact z
  refine sort_behind I hz (fun R E k => ?_) q
  refine PySem.W.kdu_collect (A := X.A.in1) (PySem.W.kdl_dict (knd := mixKind X.prog X.w) (kvs := ws) (ep := ep) lo) (I.ok.hd hcalm) hat (by rw [hl]; exact hz) fun g tk acc hk hacc => k g tk acc.toList hk ?_
  have hv : Vals (ns.map V.int) acc.toList := by
    refine vals_of_at (by rw [List.length_map, show acc.toList.length = acc.size from Array.length_toList, hacc.1, hl]) fun j x u e1 e2 => ?_
    obtain ⟨kk, y, e3, e4⟩ := hacc.2 j u (by rw [← Array.getElem?_toList]; exact e2)
    have e5 : (ws.map (·.1))[j]? = some kk := by rw [List.getElem?_map, e3]; all_goals rfl
    rw [hkeys, List.getElem?_map] at e5
    rw [List.getElem?_map] at e1
    cases e6 : ns[j]? with
    | none => rw [e6] at e1; cases e1
    | some n =>
      rw [e6] at e1 e5
      have e7 : Sum.inl n = kk := Option.some.inj e5
      have e8 : V.int n = x := Option.some.inj e1
      subst e7; subst e8
      exact relV_key (k := Sum.inl n) e4
  exact hv.ints
/-- sum(t), t a tuple of whole numbers -/
def rSumT (K : PySem.W.Frag) : List V → Hp → VK → Prop := fun vs H Q => ∃ (a : Addr) (ns : List Int), vs = [V.ref a] ∧ SqT K H a (ns.map V.int) ∧ Q (.int ns.sum) H
theorem cr_sumT (hcalm : X.calm = true) : CallR X (.builtin "sum") (rSumT X.K) := by
  intro pins s σ H vs us Q I r h
  obtain ⟨a, ns, rfl, hs, q⟩ := h
  rw [Vals.ref1 r]
  obtain ⟨its, rv, ht, hz⟩ := I.tuple hs
  have hi := rv.ints
  obtain ⟨xs, hx⟩ := hi.allInts.items
  have hn : numsOf its.toArray.toList = ns := by rw [show its.toArray.toList = its from rfl, hi.numsOf]
  have ht' : s.heap.IsTuple a its.toArray := ht
  rw [hx] at ht' hn
  rw [nums_intItems] at hn
  refine PySem.W.ktm_sumG (I.ok.hd hcalm) ht' fun g tk t' hk => ?_
  rw [preSum_eq, List.take_of_length_le (by simp), hn]
  exact ⟨.int ns.sum, H, I.kept hk, ⟨t', rfl⟩, q⟩
end
end Ml

namespace Ml
open PySem L2
variable {X : Cx} {W : Wx} {a b c e o i : Expr} {es rest : List Expr} {pos p q apos cpos pos' : Pos} {ma mb mc mk mx : Mo D} {mr mq : Mo (List D)} {ta tb : Mo Bool} {s1 s2 : Ms}
/-! ### while -/
def whl (t : Mo Bool) (body : Ms) : Nat → Ms
  | 0 => fun _ _ => .bad
  | n + 1 => fun ev st => match t ev st with
    | .ok true st1 => (match body ev st1 with
      | .ok (.nx, ev2) st2 => whl t body n ev2 st2
      | .ok (.ct, ev2) st2 => whl t body n ev2 st2
      | .ok (.bk, ev2) st2 => .ok (.nx, ev2) st2
      | .ok (.rt d, ev2) st2 => .ok (.rt d, ev2) st2
      | .bad => .bad
      | .exc c e s => .exc c e s)
    | .ok false st1 => .ok (.nx, ev) st1
    | .bad => .bad
    | .exc c e s => .exc c e s
def mWhile (n : Nat) (t : Mo Bool) (body : Ms) : Ms := whl t body n
theorem ms_while {n : Nat} {body : List Stmt} (hp : PassesOwn (model X.prog X.w) X.A X.env X.xe) (hc : PT X c (tT X.K W ta)) (hb : PSs X body (tS X.K W s1)) : PS X (.While c body [] pos) (tS X.K W (mWhile n ta s1)) := by
  refine PS.imp (ps_while hp hc hb) fun D σ H ⟨mu, ev, st, he, hs, hp⟩ => ?_
  refine ⟨fun m σ H => ∃ mu ev st, RelEv X.K H mu σ ev ∧ RelSt X.K H mu st ∧ PostS X.K W mu H (whl ta s1 m ev st) D, ⟨n, mu, ev, st, he, hs, hp⟩, ?_⟩
  rintro m σ H ⟨mu, ev, st, he, hs, hp⟩
  cases m with
  | zero => exact hp.elim
  | succ m =>
    refine ⟨mu, ev, st, he, hs, ?_⟩
    simp only [whl] at hp
    cases ht : ta ev st with
    | bad => rw [ht] at hp; exact hp
    | exc c e s => rw [ht] at hp; exact hp
    | ok bb st1 =>
      rw [ht] at hp
      intro mu1 x H1 e1 rb s1'
      obtain rfl : x = bb := rb
      have hp := PostS.from hp e1
      cases x with
      | false => exact iteF (hp _ _ _ .refl (he.mono e1) s1')
      | true =>
        refine iteT ⟨fun σ' H' => ∃ mu ev st, RelEv X.K H' mu σ' ev ∧ RelSt X.K H' mu st ∧ PostS X.K W mu H' (whl ta s1 m ev st) D, fun σ' H' h => ⟨m, Nat.lt_succ_self _, h⟩, mu1, ev, st1, he.mono e1, s1', ?_⟩
        simp only at hp
        cases hb : s1 ev st1 with
        | bad => rw [hb] at hp; exact hp
        | exc c e s => rw [hb] at hp; exact hp
        | ok r st2 =>
          obtain ⟨fl, ev2⟩ := r
          rw [hb] at hp
          cases fl with
          | nx => exact fun mu' σ' H'' e' he' hs' => ⟨mu', ev2, st2, he', hs', PostS.from hp e'⟩
          | ct => exact fun mu' σ' H'' e' he' hs' => ⟨mu', ev2, st2, he', hs', PostS.from hp e'⟩
          | bk => exact hp
          | rt d => exact hp
/-! ### dicts of the store -/
def mDNew {κ : Type} : Mo (List (κ × D)) := fun _ st => .ok [] st
theorem md_newK : PE X (.Dict [] [] pos) (tD X.K W mDNew) :=
  PE.imp pe_dnewK fun σ H Q ⟨mu, ev, st, he, hs, hp⟩ => fun q hq => hp _ _ _ (ext_new hq _) ⟨q, [], rfl, hq, upd_same, hs.fresh hq, .nil⟩ (hs.new hq _)
/-- a new dict with tuple keys that nobody holds yet -/
def RDT (K : PySem.W.Frag) : RR V (List (List Key × D)) := ⟨fun H0 H mu _ v kvs => ∃ p ws, v = .ref p ∧ H0 p = none ∧ H p = some (.dT ws) ∧ p ∉ mu ∧ KD K H mu ws kvs, fun e ⟨p, vs, a, b, c⟩ => ⟨p, vs, a, e.dom p b, c⟩⟩
abbrev tDT (K : PySem.W.Frag) (W : Wx) (m : Mo (List (List Key × D))) : TE := tG K W (RDT K) m
theorem md_newT : PE X (.Dict [] [] pos) (tDT X.K W mDNew) :=
  PE.imp pe_dnewT fun σ H Q ⟨mu, ev, st, he, hs, hp⟩ => fun q hq => hp _ _ _ (ext_new hq _) ⟨q, [], rfl, hq, upd_same, hs.fresh hq, .nil⟩ (hs.new hq _)
def mKeepD (m : Mo (List (Key × D))) : Mo D := fun ev st => (m ev st).bind fun ds st1 => .ok (.ref st1.length) (st1 ++ [.dK false ds])
def mKeepT (m : Mo (List (List Key × D))) : Mo D := fun ev st => (m ev st).bind fun ds st1 => .ok (.ref st1.length) (st1 ++ [.dT false ds])
/-- what stands at p, nobody's, becomes the store's -/
theorem adopt_any {K : PySem.W.Frag} {H : Hp} {mu : List Addr} {st : Sto} (r : RelSt K H mu st) {p : Addr} {u : HO} {ob : Ob} (hp : H p = some u) (hf : ∀ o w, u ≠ .frz o w) (hn : p ∉ mu) (hr : ∀ mu', Ext0 mu H mu' H → ObOk K H mu' p ob) :
    Rp K H (mu ++ [p]) (.ref p) (.ref st.length) ∧ RelSt K H (mu ++ [p]) (st ++ [ob]) := by
  have q : mu.length = st.length := r.len
  have e0 : Ext0 mu H (mu ++ [p]) H := ⟨⟨[p], rfl⟩, fun _ _ h => h, fun a o vs h n => ⟨h, by simp only [List.mem_append, List.mem_singleton, not_or]; exact ⟨n, fun e => by subst e; rw [hp] at h; exact hf _ _ (Option.some.inj h)⟩⟩⟩
  refine ⟨.ref (by rw [← q]; simp), ⟨by simp [q], ?_, fun i a u h1 h2 => ?_⟩⟩
  · rw [List.nodup_append]
    refine ⟨r.nd, by simp, fun a ha b hb => ?_⟩
    simp only [List.mem_singleton] at hb
    subst hb
    intro e; subst e
    exact hn ha
  · by_cases hi : i < mu.length
    · rw [List.getElem?_append_left hi] at h1
      rw [List.getElem?_append_left (by rw [← q]; exact hi)] at h2
      exact (r.ob i a u h1 h2).mono0 e0 rfl
    · have hl := (List.getElem?_eq_some_iff.mp h1).1
      simp at hl
      have e : i = mu.length := by omega
      subst e
      rw [List.getElem?_append_right (Nat.le_refl _)] at h1
      rw [q, List.getElem?_append_right (Nat.le_refl _)] at h2
      simp at h1 h2
      subst h1; subst h2
      exact hr _ e0
theorem me_keepD {md : Mo (List (Key × D))} (h : PE X e (tD X.K W md)) : PE X e (tE X.K W (mKeepD md)) := by
  refine PE.imp h fun σ H Q ⟨mu, ev, st, he, hst, hp⟩ => ?_
  refine ⟨mu, ev, st, he, hst, ?_⟩
  unfold mKeepD at hp
  cases hr : md ev st with
  | bad => rw [hr] at hp; exact hp
  | exc c e s => rw [hr] at hp; exact hp
  | ok ds st1 =>
    rw [hr] at hp
    intro mu1 x H1 e1 ⟨p, ws, ex, h0, hpp, hn, rs⟩ s1
    subst ex
    obtain ⟨k1, k2⟩ := adopt_any (ob := .dK false ds) s1 hpp (fun _ _ z => by cases z) hn (fun mu' e0 => ⟨ws, hpp, rs.mono0 e0⟩)
    exact hp (mu1 ++ [p]) (.ref p) H1 (ext_adopt e1 h0) k1 k2
theorem me_keepT {md : Mo (List (List Key × D))} (h : PE X e (tDT X.K W md)) : PE X e (tE X.K W (mKeepT md)) := by
  refine PE.imp h fun σ H Q ⟨mu, ev, st, he, hst, hp⟩ => ?_
  refine ⟨mu, ev, st, he, hst, ?_⟩
  unfold mKeepT at hp
  cases hr : md ev st with
  | bad => rw [hr] at hp; exact hp
  | exc c e s => rw [hr] at hp; exact hp
  | ok ds st1 =>
    rw [hr] at hp
    intro mu1 x H1 e1 ⟨p, ws, ex, h0, hpp, hn, rs⟩ s1
    subst ex
    obtain ⟨k1, k2⟩ := adopt_any (ob := .dT false ds) s1 hpp (fun _ _ z => by cases z) hn (fun mu' e0 => ⟨ws, hpp, rs.mono0 e0⟩)
    exact hp (mu1 ++ [p]) (.ref p) H1 (ext_adopt e1 h0) k1 k2
/-- the whole numbers of a tuple, as a key -/
def keysOf (d : D) : Option (List Key) := match d with
  | .tup ds => (intsOf ds).map fun ns => ns.map Sum.inl
  | _ => none
theorem keys_rel {K : PySem.W.Frag} {H : Hp} {mu : List Addr} {v : V} {d : D} {k : List Key} (r : Rp K H mu v d) (e : keysOf d = some k) : ∃ b, v = .ref b ∧ H b = some (.tup (k.map kV)) := by
  unfold keysOf at e
  split at e
  · rename_i ds
    cases hq : intsOf ds with
    | none => rw [hq] at e; cases e
    | some ns =>
      rw [hq] at e; cases e
      cases r with
      | tup h hs =>
        have ev := Rps.ints hs hq
        subst ev
        have e2 : (ns.map Sum.inl).map kV = ns.map V.int := by rw [List.map_map]; rfl
        rw [e2]
        rcases h with h | ⟨⟨x, hx⟩, _⟩
        · exact ⟨_, rfl, h⟩
        · rw [List.mem_map] at hx
          obtain ⟨n, _, hn⟩ := hx
          cases hn
  · cases e
/-- what a dict of the store holds at a key -/
def getD1 (st : Sto) (d k : D) : Option (Option D) := match d with
  | .ref i => (match st[i]? with
    | some (.dK _ kvs) => (keyOf k).map fun kk => valD kvs kk
    | some (.dT _ kvs) => (keysOf k).map fun kk => valD kvs kk
    | _ => none)
  | _ => none
theorem get_rel {K : PySem.W.Frag} {H : Hp} {mu : List Addr} {st : Sto} (hs : RelSt K H mu st) {x y : V} {d k : D} {r : Option D} (hx : Rp K H mu x d) (hy : Rp K H mu y k) (e : getD1 st d k = some r) :
    ∃ a ov, x = .ref a ∧ DGet H a y ov ∧ IsD H a ∧ ((∃ v d', ov = some v ∧ r = some d' ∧ Rp K H mu v d') ∨ (ov = none ∧ r = none)) := by
  unfold getD1 at e
  split at e
  · cases hx with
    | ref hi =>
      obtain ⟨ob, ho, ok⟩ := hs.at hi
      rw [ho] at e
      split at e
      · rename_i lk kvs eq; cases eq
        cases hk : keyOf k with
        | none => rw [hk] at e; cases e
        | some kk =>
          rw [hk] at e; cases e
          obtain ⟨ws, hw, hkd⟩ : ∃ ws, Rd H _ (.dK ws) ∧ KD K H mu ws kvs := by
            cases lk with
            | true => obtain ⟨od, ws, h1, h2⟩ := ok; exact ⟨ws, .inr ⟨od, h1⟩, h2⟩
            | false => obtain ⟨ws, h1, h2⟩ := ok; exact ⟨ws, .inl h1, h2⟩
          refine ⟨_, valV ws kk, rfl, .inl ⟨ws, kk, hw, key_rel hy hk, rfl⟩, .inl ⟨ws, hw⟩, ?_⟩
          rcases hkd.val kk with ⟨v, d', h1, h2, h3⟩ | ⟨h1, h2⟩
          · exact .inl ⟨v, d', h1, h2, h3⟩
          · exact .inr ⟨h1, h2⟩
      · rename_i lk kvs eq; cases eq
        cases hk : keysOf k with
        | none => rw [hk] at e; cases e
        | some kk =>
          rw [hk] at e; cases e
          obtain ⟨ws, hw, hkd⟩ : ∃ ws, Rd H _ (.dT ws) ∧ KD K H mu ws kvs := by
            cases lk with
            | true => obtain ⟨od, ws, h1, h2⟩ := ok; exact ⟨ws, .inr ⟨od, h1⟩, h2⟩
            | false => obtain ⟨ws, h1, h2⟩ := ok; exact ⟨ws, .inl h1, h2⟩
          obtain ⟨b, rfl, hb⟩ := keys_rel hy hk
          refine ⟨_, valV ws kk, rfl, .inr ⟨ws, kk, b, hw, rfl, hb, rfl⟩, .inr ⟨ws, hw⟩, ?_⟩
          rcases hkd.val kk with ⟨v, d', h1, h2, h3⟩ | ⟨h1, h2⟩
          · exact .inl ⟨v, d', h1, h2, h3⟩
          · exact .inr ⟨h1, h2⟩
      · cases e
  · cases e
/-- d[k] -/
def mDAt (ma mk : Mo D) : Mo D := fun ev st => (ma ev st).bind fun d st1 => (mk ev st1).bind fun k st2 => match getD1 st2 d k with
  | some (some v) => .ok v st2
  | _ => .bad
theorem me_dat (hu : X.A.units + 1 < cLine) (ho : PE X o (tE X.K W ma)) (hi : PE X i (tE X.K W mk)) (hs : NoSl i := by exact fun _ _ => rfl) : PE X (.Subscript o i pos) (tE X.K W (mDAt ma mk)) := by
  refine PE.imp (pe_dget hu ho hi hs) fun σ H Q ⟨mu, ev, st, he, hst, hp⟩ => ?_
  refine ⟨mu, ev, st, he, hst, hp.bind fun d st1 mu1 x H1 _ e1 r1 s1 hp1 => ?_⟩
  refine ⟨mu1, ev, st1, he.mono e1, s1, hp1.bind fun k st2 mu2 y H2 _ e2 r2 s2 hp2 => ?_⟩
  split at hp2
  · rename_i v hg
    obtain ⟨a, ov, rfl, hd, _, h | ⟨_, h⟩⟩ := get_rel s2 (Rp.mono e2 r1) r2 hg
    · obtain ⟨v', d', rfl, e3, r3⟩ := h
      cases e3
      exact ⟨a, v', rfl, hd, hp2 _ _ _ .refl r3 s2⟩
    · cases h
  · exact hp2.elim
/-- d.get(k, x) -/
def isDct (st : Sto) : D → Bool
  | .ref i => (match st[i]? with
    | some (.dK _ _) => true
    | some (.dT _ _) => true
    | _ => false)
  | _ => false
def mDGet (ma mk mx : Mo D) : Mo D := fun ev st => (ma ev st).bind fun d st1 => if isDct st1 d = true then (mk ev st1).bind fun k st2 => (mx ev st2).bind fun x st3 => match getD1 st3 d k with
  | some r => .ok (r.getD x) st3
  | none => .bad else .bad
theorem isDct_rel {K : PySem.W.Frag} {H : Hp} {mu : List Addr} {st : Sto} (hs : RelSt K H mu st) {x : V} {d : D} (hx : Rp K H mu x d) (h : isDct st d = true) : ∃ a, x = .ref a ∧ IsD H a := by
  unfold isDct at h
  split at h
  · cases hx with
    | ref hi =>
      obtain ⟨ob, ho, ok⟩ := hs.at hi
      rw [ho] at h
      split at h
      · rename_i lk kvs eq; cases eq
        cases lk with
        | true => obtain ⟨od, ws, h1, h2⟩ := ok; exact ⟨_, rfl, .inl ⟨ws, .inr ⟨od, h1⟩⟩⟩
        | false => obtain ⟨ws, h1, h2⟩ := ok; exact ⟨_, rfl, .inl ⟨ws, .inl h1⟩⟩
      · rename_i lk kvs eq; cases eq
        cases lk with
        | true => obtain ⟨od, ws, h1, h2⟩ := ok; exact ⟨_, rfl, .inr ⟨ws, .inr ⟨od, h1⟩⟩⟩
        | false => obtain ⟨ws, h1, h2⟩ := ok; exact ⟨_, rfl, .inr ⟨ws, .inl h1⟩⟩
      · cases h
  · cases h
theorem me_dget {f : Expr} (hu : X.A.units + 1 < cLine) (ho : PE X o (tE X.K W ma)) (he : PE X e (tE X.K W mk)) (hf : PE X f (tE X.K W mx)) (m : M2 X o "get" apos e f cpos := by exact ⟨rfl, rfl, rfl, rfl⟩) : PE X (.Call (.Attribute o "get" apos) [e, f] [] cpos) (tE X.K W (mDGet ma mk mx)) := by
  refine PE.imp (pe_dget2 hu ho he hf m) fun σ H Q ⟨mu, ev, st, he, hst, hp⟩ => ?_
  refine ⟨mu, ev, st, he, hst, hp.bind fun d st1 mu1 v H1 _ e1 r1 s1 hp1 => ?_⟩
  split at hp1
  · rename_i hd
    obtain ⟨a, rfl, isd⟩ := isDct_rel s1 r1 hd
    refine ⟨a, rfl, isd, mu1, ev, st1, he.mono e1, s1, hp1.bind fun k st2 mu2 y H2 _ e2 r2 s2 hp2 => ?_⟩
    refine ⟨mu2, ev, st2, (he.mono e1).mono e2, s2, hp2.bind fun x st3 mu3 z H3 _ e3 r3 s3 hp3 => ?_⟩
    split at hp3
    · rename_i r hg
      obtain ⟨a', ov, ea, hd, _, h⟩ := get_rel s3 (Rp.mono (e2.trans e3) r1) (Rp.mono e3 r2) hg
      cases ea
      refine ⟨ov, hd, hp3 _ _ _ .refl ?_ s3⟩
      rcases h with ⟨v, d', rfl, rfl, rv⟩ | ⟨rfl, rfl⟩
      · exact rv
      · exact r3
    · exact hp3.elim
  · exact hp1.elim
/-- d[k] = v -/
def putD1 (st : Sto) (d k v : D) : Option Sto := match d with
  | .ref i => (match st[i]? with
    | some (.dK false kvs) => (match keyOf k with
      | some kk => if kvs.length ≤ lim then some (st.set i (.dK false (putD kvs kk v))) else none
      | none => none)
    | some (.dT false kvs) => (match keysOf k with
      | some kk => if kvs.length ≤ lim then some (st.set i (.dT false (putD kvs kk v))) else none
      | none => none)
    | some (.lst ds) => (match k with
      | .int j => (match ixN ds.length j with
        | some n => some (st.set i (.lst (ds.set n v)))
        | none => none)
      | _ => none)
    | _ => none)
  | _ => none
theorem put_rel {K : PySem.W.Frag} {H : Hp} {mu : List Addr} {st st' : Sto} (hs : RelSt K H mu st) {x y z : V} {d k v : D} (hx : Rp K H mu x d) (hy : Rp K H mu y k) (hz : Rp K H mu z v) (e : putD1 st d k v = some st') (hd : isDct st d = true) :
    ∃ a H', x = .ref a ∧ DPut H a y z H' ∧ Ext mu H mu H' ∧ RelSt K H' mu st' := by
  unfold putD1 at e
  split at e
  · cases hx with
    | ref hi =>
      obtain ⟨ob, ho, ok⟩ := hs.at hi
      rw [ho] at e
      split at e
      · rename_i kvs eq; cases eq
        split at e
        · rename_i kk hk
          split at e
          · rename_i hl
            cases e
            obtain ⟨ws, h1, h2⟩ := ok
            have ext := ext_write hs (List.mem_of_getElem? hi) (fun ob w z => by rw [h1] at z; cases z) (.dK (putK ws kk z))
            exact ⟨_, _, rfl, .inl ⟨ws, kk, h1, key_rel hy hk, by rw [h2.length]; exact lim_lt hl, rfl⟩, ext, hs.write hi ⟨_, upd_same, (h2.put kk hz).mono ext⟩⟩
          · cases e
        · cases e
      · rename_i kvs eq; cases eq
        split at e
        · rename_i kk hk
          split at e
          · rename_i hl
            cases e
            obtain ⟨ws, h1, h2⟩ := ok
            obtain ⟨b, rfl, hb⟩ := keys_rel hy hk
            have ext := ext_write hs (List.mem_of_getElem? hi) (fun ob w z => by rw [h1] at z; cases z) (.dT (putK ws kk z))
            exact ⟨_, _, rfl, .inr ⟨ws, kk, b, h1, rfl, hb, by rw [h2.length]; exact lim_lt hl, rfl⟩, ext, hs.write hi ⟨_, upd_same, (h2.put kk hz).mono ext⟩⟩
          · cases e
        · cases e
      · rename_i ds eq; cases eq
        simp only [isDct, ho] at hd
        cases hd
      · cases e
  · cases e
def mDPut (ma mk mv : Mo D) : Ms := fun ev st => (mv ev st).bind fun v st1 => (ma ev st1).bind fun d st2 => (mk ev st2).bind fun k st3 => if isDct st3 d = true then (match putD1 st3 d k v with
  | some st4 => .ok (.nx, ev) st4
  | none => .bad) else .bad
theorem ms_dput {v : Expr} {mv : Mo D} (hu : X.A.units + 1 < cLine) (ho : PE X o (tE X.K W ma)) (hi : PE X i (tE X.K W mk)) (hv : PE X v (tE X.K W mv)) (hs : swapsWith v (some (.Subscript o i pos')) pos.line X.env = pure false := by rfl) :
    PS X (.Assign [.Subscript o i pos'] v pos) (tS X.K W (mDPut ma mk mv)) := by
  refine PS.imp (ps_dput hu ho hi hv hs) fun D σ H ⟨mu, ev, st, he, hst, hp⟩ => ?_
  refine ⟨mu, ev, st, he, hst, hp.bind fun v st1 mu1 z H1 _ e1 r1 s1 hp1 => ?_⟩
  refine ⟨mu1, ev, st1, he.mono e1, s1, hp1.bind fun d st2 mu2 x H2 _ e2 r2 s2 hp2 => ?_⟩
  refine ⟨mu2, ev, st2, (he.mono e1).mono e2, s2, hp2.bind fun k st3 mu3 y H3 _ e3 r3 s3 hp3 => ?_⟩
  split at hp3
  · rename_i hd
    split at hp3
    · rename_i st4 hput
      obtain ⟨a, H4, rfl, dp, ext, s4⟩ := put_rel s3 (Rp.mono e3 r2) r3 (Rp.mono (e2.trans e3) r1) hput hd
      exact ⟨a, H4, rfl, dp, hp3 _ _ _ ext ((((he.mono e1).mono e2).mono e3).mono ext) s4⟩
    · exact hp3.elim
  · exact hp3.elim
/-- xs[i] = v, a list of the store's -/
def mLPut (ma mk mv : Mo D) : Ms := fun ev st => (mv ev st).bind fun v st1 => (ma ev st1).bind fun d st2 => (mk ev st2).bind fun k st3 => match d, k with
  | .ref i, .int j => (match st3[i]? with
    | some (.lst ds) => (match ixN ds.length j with
      | some n => .ok (.nx, ev) (st3.set i (.lst (ds.set n v)))
      | none => .bad)
    | _ => .bad)
  | _, _ => .bad
theorem ms_lput {v : Expr} {mv : Mo D} (ho : PE X o (tE X.K W ma)) (hi : PE X i (tE X.K W mk)) (hv : PE X v (tE X.K W mv)) (hg : PG X (.Subscript o i pos') (L2.gSub (tE X.K W ma) (tE X.K W mk) rSetL)) (hs : swapsWithSole [.Subscript o i pos'] v pos.line X.env = pure false := by rfl) (hw : swappedStores [.Subscript o i pos'] v X.env = pure none := by rfl)
    (h1 : (assignEach [.Subscript o i pos'] X.env).map (·.2) = [assign (.Subscript o i pos') X.env] := by rfl) : PS X (.Assign [.Subscript o i pos'] v pos) (tS X.K W (mLPut ma mk mv)) := by
  refine PS.imp (ps_asg hv hg hs hw h1) fun D σ H ⟨mu, ev, st, he, hst, hp⟩ => ?_
  refine ⟨mu, ev, st, he, hst, hp.bind fun v st1 mu1 z H1 _ e1 r1 s1 hp1 => ?_⟩
  refine ⟨mu1, ev, st1, he.mono e1, s1, hp1.bind fun d st2 mu2 x H2 _ e2 r2 s2 hp2 => ?_⟩
  refine ⟨mu2, ev, st2, (he.mono e1).mono e2, s2, hp2.bind fun k st3 mu3 y H3 _ e3 r3 s3 hp3 => ?_⟩
  split at hp3
  · have r2 := Rp.mono e3 r2
    cases r2 with
    | ref hi =>
      cases r3
      obtain ⟨ob, ho, ok⟩ := s3.at hi
      rw [ho] at hp3
      split at hp3
      · rename_i ds eq; cases eq
        obtain ⟨vs, hq, rs⟩ := ok
        split at hp3
        · rename_i n hn
          have ext := ext_write s3 (List.mem_of_getElem? hi) (fun ob w z => by rw [hq] at z; cases z) (.lst (vs.set n z))
          refine ⟨_, vs, _, n, rfl, rfl, hq, by rw [Rps.length rs]; exact hn, ?_⟩
          exact hp3 _ _ _ ext ((((he.mono e1).mono e2).mono e3).mono ext) (s3.write hi ⟨_, upd_same, (rs.set (Rp.mono (e2.trans e3) r1) n).mono ext⟩)
        · exact hp3.elim
      · exact hp3.elim
  · exact hp3.elim
theorem ms_lput' {v : Expr} {mv : Mo D} (ho : PE X o (tE X.K W ma)) (hi : PE X i (tE X.K W mk)) (hv : PE X v (tE X.K W mv)) (ha : ∀ v, assign (.Subscript o i pos') X.env v = (do
      let ov ← holding [v] (eval o X.env)
      let iv ← holding [v, ov] (eval i X.env)
      standAt pos'
      holding [v, ov, iv] (setItem ov iv v)
      release [v, ov, iv] []) := by intro _; rfl) (hs : swapsWithSole [.Subscript o i pos'] v pos.line X.env = pure false := by rfl) (hw : swappedStores [.Subscript o i pos'] v X.env = pure none := by rfl)
    (h1 : (assignEach [.Subscript o i pos'] X.env).map (·.2) = [assign (.Subscript o i pos') X.env] := by rfl) : PS X (.Assign [.Subscript o i pos'] v pos) (tS X.K W (mLPut ma mk mv)) :=
  ms_lput ho hi hv (pg_sub ho hi set_list ha) hs hw h1
end Ml

namespace Ml
open PySem L2
variable {X : Cx} {W : Wx} {a b c e o i : Expr} {es rest : List Expr} {pos p q apos cpos pos' : Pos} {ma mb mc mk mx : Mo D} {mr mq : Mo (List D)} {ta tb : Mo Bool} {s1 s2 : Ms}
/-! ### what is walked is locked meanwhile -/
def lockO : Ob → Option Ob
  | .lst ds => some (.ro ds)
  | .dK false kvs => some (.dK true kvs)
  | .dT false kvs => some (.dT true kvs)
  | _ => none
def unlockO : Ob → Option Ob
  | .ro ds => some (.lst ds)
  | .dK true kvs => some (.dK false kvs)
  | .dT true kvs => some (.dT false kvs)
  | _ => none
/-- the items of a locked thing -/
def itemsO : Ob → Option (List D)
  | .ro ds => if ds.length ≤ lim then some ds else none
  | .dK true kvs => if kvs.length ≤ lim then some (kvs.map fun z => match z.1 with | .inl i => D.int i | .inr x => D.str x) else none
  | .dT true kvs => if kvs.length ≤ lim then some (kvs.map fun z => D.tup (z.1.map fun w => match w with | .inl i => D.int i | .inr x => D.str x)) else none
  | _ => none
def keyD : Key → D
  | .inl i => .int i
  | .inr x => .str x
theorem lock_rel {K : PySem.W.Frag} {H : Hp} {mu : List Addr} {st : Sto} {n : Nat} {d : Addr} {ob ob' : Ob} (hs : RelSt K H mu st) (hi : mu[n]? = some d) (ho : st[n]? = some ob) (hl : lockO ob = some ob') :
    ∃ u, H d = some u ∧ Mut (some u) ∧ (∀ od, Ext0 mu H mu (upd H d (.frz od u)) ∧ RelSt K (upd H d (.frz od u)) mu (st.set n ob')) ∧ (∀ o w, u ≠ .frz o w) ∧ (∀ vs, u ≠ .tup vs) := by
  have hd : d ∈ mu := List.mem_of_getElem? hi
  have go : ∀ u, H d = some u → Mut (some u) → (∀ o w, u ≠ .frz o w) → (∀ vs, u ≠ .tup vs) → (∀ od, Ext0 mu H mu (upd H d (.frz od u)) → ObOk K (upd H d (.frz od u)) mu d ob') →
      ∃ u, H d = some u ∧ Mut (some u) ∧ (∀ od, Ext0 mu H mu (upd H d (.frz od u)) ∧ RelSt K (upd H d (.frz od u)) mu (st.set n ob')) ∧ (∀ o w, u ≠ .frz o w) ∧ (∀ vs, u ≠ .tup vs) := fun u hu mt nf nt h => by
    refine ⟨u, hu, mt, fun od => ?_, nf, nt⟩
    have e0 : Ext0 mu H mu (upd H d (.frz od u)) := ⟨⟨[], by simp⟩, fun a vs ha => by rw [upd_ne (fun e => by subst e; rw [hu] at ha; exact nt _ (Option.some.inj ha))]; exact ha, fun a ob vs ha na => ⟨by rw [upd_ne (fun e => by subst e; exact na hd)]; exact ha, na⟩⟩
    exact ⟨e0, hs.write hi (h od e0)⟩
  have ok := hs.ob n d ob hi ho
  cases ob with
  | ro ds => cases hl
  | lst ds =>
    cases hl
    obtain ⟨vs, h1, r⟩ := ok
    exact go _ h1 trivial (fun _ _ z => by cases z) (fun _ z => by cases z) fun od e0 => ⟨od, vs, upd_same, r.mono0 e0⟩
  | dK lk kvs =>
    cases lk with
    | true => cases hl
    | false =>
      cases hl
      obtain ⟨ws, h1, r⟩ := ok
      exact go _ h1 trivial (fun _ _ z => by cases z) (fun _ z => by cases z) fun od e0 => ⟨od, ws, upd_same, r.mono0 e0⟩
  | dT lk kvs =>
    cases lk with
    | true => cases hl
    | false =>
      cases hl
      obtain ⟨ws, h1, r⟩ := ok
      exact go _ h1 trivial (fun _ _ z => by cases z) (fun _ z => by cases z) fun od e0 => ⟨od, ws, upd_same, r.mono0 e0⟩
/-- from within the lock to behind it -/
theorem unlock_rel {K : PySem.W.Frag} {H H' : Hp} {mu mu' : List Addr} {st' : Sto} {n : Nat} {d : Addr} {od : Obj} {u : HO} {ob ob' : Ob} (hu : H d = some u) (nf : ∀ o w, u ≠ .frz o w) (nt : ∀ vs, u ≠ .tup vs) (hi : mu[n]? = some d) (e : Ext mu (upd H d (.frz od u)) mu' H') (hs : RelSt K H' mu' st')
    (ho : st'[n]? = some ob) (hl : unlockO ob = some ob') (hmt : (∃ vs, u = .lst vs) ∨ (∃ ws, u = .dK ws) ∨ ∃ ws, u = .dT ws) :
    H' d = some (.frz od u) ∧ Ext mu H mu' (upd H' d u) ∧ Ext0 mu' H' mu' (upd H' d u) ∧ RelSt K (upd H' d u) mu' (st'.set n ob') := by
  have hd : d ∈ mu := List.mem_of_getElem? hi
  have hi' : mu'[n]? = some d := e.at hi
  have hd' : d ∈ mu' := List.mem_of_getElem? hi'
  have h1 : H' d = some (.frz od u) := e.frz d od u upd_same
  have ext : Ext mu H mu' (upd H' d u) := by
    refine ⟨e.pre, fun a vs ha => ?_, fun a o ha na => ?_, fun a ha => ?_, fun a o w ha => ?_⟩
    · have ne : a ≠ d := fun z => by subst z; rw [hu] at ha; exact nt _ (Option.some.inj ha)
      rw [upd_ne ne]
      exact e.tup a vs (by rw [upd_ne ne]; exact ha)
    · have ne : a ≠ d := fun z => by subst z; exact na hd
      rw [upd_ne ne]
      exact e.keep a o (by rw [upd_ne ne]; exact ha) na
    · have ne : a ≠ d := fun z => by subst z; rw [upd_same] at ha; cases ha
      rw [upd_ne ne] at ha
      have := e.dom a ha
      rwa [upd_ne ne] at this
    · have ne : a ≠ d := fun z => by subst z; rw [hu] at ha; exact nf _ _ (Option.some.inj ha)
      rw [upd_ne ne]
      exact e.frz a o w (by rw [upd_ne ne]; exact ha)
  have e0 : Ext0 mu' H' mu' (upd H' d u) := ⟨⟨[], by simp⟩, fun a vs ha => by rw [upd_ne (fun z => by subst z; rw [h1] at ha; cases ha)]; exact ha, fun a ob vs ha na => ⟨by rw [upd_ne (fun z => by subst z; exact na hd')]; exact ha, na⟩⟩
  refine ⟨h1, ext, e0, hs.write hi' ?_⟩
  have ok := hs.ob n d ob hi' ho
  cases ob with
  | lst ds => cases hl
  | ro ds =>
    cases hl
    obtain ⟨o2, vs, h2, r⟩ := ok
    rw [h1] at h2; cases h2
    exact ⟨vs, upd_same, r.mono0 e0⟩
  | dK lk kvs =>
    cases lk with
    | false => cases hl
    | true =>
      cases hl
      obtain ⟨o2, ws, h2, r⟩ := ok
      rw [h1] at h2; cases h2
      exact ⟨ws, upd_same, r.mono0 e0⟩
  | dT lk kvs =>
    cases lk with
    | false => cases hl
    | true =>
      cases hl
      obtain ⟨o2, ws, h2, r⟩ := ok
      rw [h1] at h2; cases h2
      exact ⟨ws, upd_same, r.mono0 e0⟩
theorem RelEv.mono0 {K : PySem.W.Frag} {mu mu' : List Addr} {H H' : Hp} {σ : L2.St} {ev : Ev} (r : RelEv K H mu σ ev) (e : Ext0 mu H mu' H') : RelEv K H' mu' σ ev :=
  ⟨r.1, fun i d h => let ⟨v, a, b⟩ := r.2 i d h; ⟨v, a, b.mono0 e⟩⟩
/-! the iterators of locked things -/
theorem iter_ro {K : PySem.W.Frag} {H0 : Hp} {d : Addr} {od : Obj} {vs : List V} {ds : List D} : IterOk K H0 (Itl K d) ds (fun H mu => H d = some (.frz od (.lst vs)) ∧ Rps K H mu vs ds) := by
  refine ⟨?_, ?_, ?_, ?_, ?_⟩
  · rintro H mu i x ⟨h1, h2⟩ hx
    obtain ⟨v, hv, _⟩ := h2.get hx
    exact ⟨vs, v, .inl (.inr ⟨od, h1⟩), hv⟩
  · rintro H mu st i x v H' hst ⟨h1, h2⟩ hx ⟨e, hy⟩
    subst e
    obtain ⟨w, hw, rw'⟩ := h2.get hx
    have := hy vs (.inl (.inr ⟨od, h1⟩))
    rw [hw] at this
    cases this
    exact ⟨.refl, rw', hst⟩
  · rintro H mu ⟨h1, h2⟩
    exact ⟨vs, .inl (.inr ⟨od, h1⟩), Nat.le_of_eq (Rps.length h2)⟩
  · rintro H mu H' mu' ⟨h1, h2⟩ e
    exact ⟨e.frz _ _ _ h1, h2.mono e⟩
  · rintro H mu q' l l' ⟨h1, h2⟩ _ hq _
    exact ⟨by rw [upd_ne (fun e => by subst e; rw [hq] at h1; cases h1)]; exact h1, h2.mono0 (ext0_tmp hq)⟩
theorem iter_dK {K : PySem.W.Frag} {H0 : Hp} {d : Addr} {od : Obj} {ws : List (Key × V)} {ks : List Key} (hk : ws.map (·.1) = ks) : IterOk K H0 (Itk d od ws) (ks.map keyD) (fun H mu => H d = some (.frz od (.dK ws))) := by
  have hl : ws.length = ks.length := by rw [← hk, List.length_map]
  have get : ∀ {i x}, (ks.map keyD)[i]? = some x → ∃ k v, ws[i]? = some (k, v) ∧ x = keyD k := fun {i x} h => by
    rw [← hk, List.map_map, List.getElem?_map] at h
    cases e : ws[i]? with
    | none => rw [e] at h; cases h
    | some z =>
      rw [e] at h
      obtain ⟨k, v⟩ := z
      exact ⟨k, v, e, (Option.some.inj h).symm⟩
  refine ⟨?_, ?_, ?_, ?_, ?_⟩
  · rintro H mu i x h1 hx
    obtain ⟨k, v, e, _⟩ := get hx
    exact ⟨h1, (List.getElem?_eq_some_iff.mp e).1⟩
  · rintro H mu st i x v H' hst h1 hx ⟨e, k, v', hk', rfl⟩
    subst e
    obtain ⟨k2, v2, e2, rfl⟩ := get hx
    rw [hk'] at e2; cases e2
    refine ⟨.refl, ?_, hst⟩
    cases k with
    | inl i => exact .int i
    | inr x => exact .str x
  · rintro H mu h1
    exact ⟨h1, by rw [List.length_map, hl]; exact Nat.le_refl _⟩
  · rintro H mu H' mu' h1 e
    exact e.frz _ _ _ h1
  · rintro H mu q' l l' h1 _ hq _
    show upd H q' (.lst l') d = _
    rw [upd_ne (fun e => by subst e; rw [hq] at h1; cases h1)]
    exact h1
theorem iter_dT {K : PySem.W.Frag} {H0 : Hp} {d : Addr} {od : Obj} {ws : List (List Key × V)} {ks : List (List Key)} (hk : ws.map (·.1) = ks) : IterOk K H0 (Itkt d od ws) (ks.map fun (k : List Key) => D.tup (k.map keyD)) (fun H mu => H d = some (.frz od (.dT ws))) := by
  have hl : ws.length = ks.length := by rw [← hk, List.length_map]
  have get : ∀ {i x}, (ks.map fun (k : List Key) => D.tup (k.map keyD))[i]? = some x → ∃ (k : List Key) (v : V), ws[i]? = some (k, v) ∧ x = D.tup (k.map keyD) := fun {i x} h => by
    rw [← hk, List.map_map, List.getElem?_map] at h
    cases e : ws[i]? with
    | none => rw [e] at h; cases h
    | some z =>
      rw [e] at h
      obtain ⟨k, v⟩ := z
      exact ⟨k, v, e, (Option.some.inj h).symm⟩
  have rk : ∀ {K H mu} (k : List Key), Rps K H mu (k.map kV) (k.map keyD) := fun {K H mu} k => by
    induction k with
    | nil => exact .nil
    | cons x xs ih =>
      refine .cons ?_ ih
      cases x with
      | inl i => exact .int i
      | inr z => exact .str z
  refine ⟨?_, ?_, ?_, ?_, ?_⟩
  · rintro H mu i x h1 hx
    obtain ⟨k, v, e, _⟩ := get hx
    exact ⟨h1, (List.getElem?_eq_some_iff.mp e).1⟩
  · rintro H mu st i x v H' hst h1 hx ⟨e, k, v', q, hk', rfl, hq⟩
    subst e
    obtain ⟨k2, v2, e2, rfl⟩ := get hx
    rw [hk'] at e2; cases e2
    exact ⟨.refl, .tup (.inl hq) (rk k), hst⟩
  · rintro H mu h1
    exact ⟨h1, by rw [List.length_map, hl]; exact Nat.le_refl _⟩
  · rintro H mu H' mu' h1 e
    exact e.frz _ _ _ h1
  · rintro H mu q' l l' h1 _ hq _
    show upd H q' (.lst l') d = _
    rw [upd_ne (fun e => by subst e; rw [hq] at h1; cases h1)]
    exact h1
/-- a locked thing walked: the three kinds -/
inductive Kd where
  | lst | dK | dT
def itemsK (k : Kd) (ob : Ob) : Option (List D) := match k, ob with
  | .lst, .ro ds => if ds.length ≤ lim then some ds else none
  | .dK, .dK true kvs => if kvs.length ≤ lim then some ((kvs.map (·.1)).map keyD) else none
  | .dT, .dT true kvs => if kvs.length ≤ lim then some ((kvs.map (·.1)).map fun k => D.tup (k.map keyD)) else none
  | _, _ => none
def mItK (k : Kd) (ma : Mo D) : Mo (List D) := fun ev st => (ma ev st).bind fun d st1 => match d with
  | .ref j => (match st1[j]? with
    | some ob => (match itemsK k ob with
      | some ds => .ok ds st1
      | none => .bad)
    | none => .bad)
  | _ => .bad
theorem KD.keys {κ : Type} {K : PySem.W.Frag} {H : Hp} {mu : List Addr} {ws : List (κ × V)} {kvs : List (κ × D)} (h : KD K H mu ws kvs) : ws.map (·.1) = kvs.map (·.1) := by
  unfold KD at h
  induction h with
  | nil => rfl
  | cons r t ih => rw [List.map_cons, List.map_cons, ih, r.1]
theorem mi_lst {tg : Expr} (h : PE X e (tE X.K W ma)) : PI X tg e (tI X.K W (mItK .lst ma)) := by
  refine PI.imp (pi_list h) fun σ H Q ⟨mu, ev, st, he, hs, hp⟩ => ?_
  refine ⟨mu, ev, st, he, hs, hp.bind fun d st1 mu1 x H1 _ e1 r1 s1 hp1 => ?_⟩
  split at hp1
  · cases r1 with
    | ref hi =>
      obtain ⟨ob, ho, ok⟩ := s1.at hi
      rw [ho] at hp1
      simp only at hp1
      split at hp1
      · rename_i ds hds
        cases ob with
        | ro l =>
          simp only [itemsK] at hds
          split at hds
          · rename_i hl
            cases hds
            obtain ⟨od, vs, hv, rs⟩ := ok
            exact ⟨_, rfl, ⟨vs, .inl (.inr ⟨od, hv⟩)⟩, hp1 _ _ _ .refl ⟨hl, _, iter_ro, hv, rs⟩ s1⟩
          · cases hds
        | lst l => cases hds
        | dK lk l => cases hds
        | dT lk l => cases hds
      · exact hp1.elim
  · exact hp1.elim
theorem mi_dK {tg : Expr} (h : PE X e (tE X.K W ma)) : PI X tg e (tI X.K W (mItK .dK ma)) := by
  refine PI.imp (pi_keys h) fun σ H Q ⟨mu, ev, st, he, hs, hp⟩ => ?_
  refine ⟨mu, ev, st, he, hs, hp.bind fun d st1 mu1 x H1 _ e1 r1 s1 hp1 => ?_⟩
  split at hp1
  · cases r1 with
    | ref hi =>
      obtain ⟨ob, ho, ok⟩ := s1.at hi
      rw [ho] at hp1
      simp only at hp1
      split at hp1
      · rename_i ds hds
        cases ob with
        | dK lk l =>
          cases lk with
          | false => cases hds
          | true =>
            simp only [itemsK] at hds
            split at hds
            · rename_i hl
              cases hds
              obtain ⟨od, ws, hv, rs⟩ := ok
              exact ⟨_, od, rfl, .inl ⟨ws, hv, hp1 _ _ _ .refl ⟨by rw [List.length_map, List.length_map]; exact hl, _, iter_dK rs.keys, hv⟩ s1⟩⟩
            · cases hds
        | lst l => cases hds
        | ro l => cases hds
        | dT lk l => cases hds
      · exact hp1.elim
  · exact hp1.elim
theorem mi_dT {tg : Expr} (h : PE X e (tE X.K W ma)) : PI X tg e (tI X.K W (mItK .dT ma)) := by
  refine PI.imp (pi_keys h) fun σ H Q ⟨mu, ev, st, he, hs, hp⟩ => ?_
  refine ⟨mu, ev, st, he, hs, hp.bind fun d st1 mu1 x H1 _ e1 r1 s1 hp1 => ?_⟩
  split at hp1
  · cases r1 with
    | ref hi =>
      obtain ⟨ob, ho, ok⟩ := s1.at hi
      rw [ho] at hp1
      simp only at hp1
      split at hp1
      · rename_i ds hds
        cases ob with
        | dT lk l =>
          cases lk with
          | false => cases hds
          | true =>
            simp only [itemsK] at hds
            split at hds
            · rename_i hl
              cases hds
              obtain ⟨od, ws, hv, rs⟩ := ok
              exact ⟨_, od, rfl, .inr ⟨ws, hv, hp1 _ _ _ .refl ⟨by rw [List.length_map, List.length_map]; exact hl, _, iter_dT rs.keys, hv⟩ s1⟩⟩
            · cases hds
        | lst l => cases hds
        | ro l => cases hds
        | dK lk l => cases hds
      · exact hp1.elim
  · exact hp1.elim
/-- a new list walked -/
theorem iter_new {K : PySem.W.Frag} {H0 : Hp} {q : Addr} {vs : List V} {ds : List D} (h0 : H0 q ≠ none) : IterOk K H0 (Itl K q) ds (fun H mu => H q = some (.lst vs) ∧ q ∉ mu ∧ Rps K H mu vs ds) := by
  refine ⟨?_, ?_, ?_, ?_, ?_⟩
  · rintro H mu i x ⟨h1, _, h2⟩ hx
    obtain ⟨v, hv, _⟩ := h2.get hx
    exact ⟨vs, v, .inl (.inl h1), hv⟩
  · rintro H mu st i x v H' hst ⟨h1, _, h2⟩ hx ⟨e, hy⟩
    subst e
    obtain ⟨w, hw, rw'⟩ := h2.get hx
    have := hy vs (.inl (.inl h1))
    rw [hw] at this
    cases this
    exact ⟨.refl, rw', hst⟩
  · rintro H mu ⟨h1, _, h2⟩
    exact ⟨vs, .inl (.inl h1), Nat.le_of_eq (Rps.length h2)⟩
  · rintro H mu H' mu' ⟨h1, hn, h2⟩ e
    have k := e.keep _ _ h1 hn
    exact ⟨k.1, k.2, h2.mono e⟩
  · rintro H mu q' l l' ⟨h1, hn, h2⟩ hq0 hq hqn
    exact ⟨by rw [upd_ne (fun e => by subst e; exact h0 hq0)]; exact h1, hn, h2.mono0 (ext0_tmp hq)⟩
def mItN (mr : Mo (List D)) : Mo (List D) := fun ev st => (mr ev st).bind fun ds st1 => if ds.length ≤ lim then .ok ds st1 else .bad
theorem mi_new {tg : Expr} (h : PE X e (tL X.K W mr)) : PI X tg e (tI X.K W (mItN mr)) := by
  refine PI.imp (pi_list h) fun σ H Q ⟨mu, ev, st, he, hs, hp⟩ => ?_
  refine ⟨mu, ev, st, he, hs, hp.bind fun ds st1 mu1 x H1 _ e1 r1 s1 hp1 => ?_⟩
  obtain ⟨q, vs, rfl, h0, hq, hn, rs⟩ := r1
  split at hp1
  · rename_i hl
    exact ⟨q, rfl, ⟨vs, .inl (.inl hq)⟩, hp1 _ _ _ .refl ⟨hl, _, iter_new (by rw [hq]; simp), hq, hn, rs⟩ s1⟩
  · exact hp1.elim
/-! locks -/
def unl {α : Type} (n : Nat) (r : Rs α) : Rs α := match r with
  | .ok z st' => (match st'[n]? with
    | some ob => (match unlockO ob with
      | some ob' => .ok z (st'.set n ob')
      | none => .bad)
    | none => .bad)
  | _ => .bad
def lockN {α : Type} (ma : Mo D) (m : Mo α) : Mo α := fun ev st => match ma ev st with
  | .ok (.ref n) _ => (match st[n]? with
    | some ob => (match lockO ob with
      | some ob' => unl n (m ev (st.set n ob'))
      | none => .bad)
    | none => .bad)
  | _ => .bad
theorem mut_kinds {K : PySem.W.Frag} {H : Hp} {mu : List Addr} {d : Addr} {ob ob' : Ob} {u : HO} (ok : ObOk K H mu d ob) (hl : lockO ob = some ob') (hu : H d = some u) : (∃ vs, u = .lst vs) ∨ (∃ ws, u = .dK ws) ∨ ∃ ws, u = .dT ws := by
  cases ob with
  | ro ds => cases hl
  | lst ds => obtain ⟨vs, h1, _⟩ := ok; rw [h1] at hu; cases hu; exact .inl ⟨_, rfl⟩
  | dK lk kvs =>
    cases lk with
    | true => cases hl
    | false => obtain ⟨ws, h1, _⟩ := ok; rw [h1] at hu; cases hu; exact .inr (.inl ⟨_, rfl⟩)
  | dT lk kvs =>
    cases lk with
    | true => cases hl
    | false => obtain ⟨ws, h1, _⟩ := ok; rw [h1] at hu; cases hu; exact .inr (.inr ⟨_, rfl⟩)
theorem lock_open {K : PySem.W.Frag} {H : Hp} {mu : List Addr} {ev : Ev} {st : Sto} {α : Type} {m : Mo α} (hs : RelSt K H mu st) {P : Rs α → Prop} (hbad : ¬ P .bad) (h : P (lockN ma m ev st)) :
    ∃ n d ob ob', mu[n]? = some d ∧ st[n]? = some ob ∧ lockO ob = some ob' ∧ P (unl n (m ev (st.set n ob'))) := by
  unfold lockN at h
  split at h
  · rename_i n _ _
    split at h
    · rename_i ob ho
      split at h
      · rename_i ob' hl
        have hn : n < mu.length := by rw [hs.len]; exact (List.getElem?_eq_some_iff.mp ho).1
        exact ⟨n, mu[n], ob, ob', List.getElem?_eq_getElem hn, ho, hl, h⟩
      · exact absurd h hbad
    · exact absurd h hbad
  · exact absurd h hbad
theorem ms_lock {st : Stmt} (h : PS X st (tS X.K W s1)) : PS X st (tS X.K W (lockN ma s1)) := by
  refine PS.imp (ps_lock h) fun D σ H ⟨mu, ev, st, he, hs, hp⟩ => ?_
  obtain ⟨n, d, ob, ob', hi, ho, hl, hp⟩ := lock_open (P := fun r => PostS X.K W mu H r D) hs (fun z => z) hp
  obtain ⟨u, hu, mt, hod, nf, nt⟩ := lock_rel hs hi ho hl
  have kd := mut_kinds (hs.ob n d ob hi ho) hl hu
  refine ⟨d, u, hu, mt, fun od => ⟨mu, ev, st.set n ob', he.mono0 (hod od).1, (hod od).2, ?_⟩⟩
  cases hr : s1 ev (st.set n ob') with
  | bad => rw [hr] at hp; exact hp
  | exc c e s => rw [hr] at hp; exact hp.elim
  | ok z st' =>
    obtain ⟨fl, ev'⟩ := z
    rw [hr] at hp
    unfold unl at hp
    simp only at hp
    split at hp
    · rename_i o2 ho2
      split at hp
      · rename_i o3 ho3
        intro mu' σ' H' e' he' hs'
        obtain ⟨k1, k2, k3, k4⟩ := unlock_rel hu nf nt hi e' hs' ho2 ho3 kd
        have fin := hp mu' σ' (upd H' d u) k2 (he'.mono0 k3) k4
        cases fl with
        | nx => exact ⟨k1, fin⟩
        | bk => exact ⟨k1, fin⟩
        | ct => exact ⟨k1, fin⟩
        | rt d0 => exact fun v rv => ⟨k1, fin v (rv.mono0 k3)⟩
      · exact hp.elim
    · exact hp.elim
theorem ml_lock (h : PE X e (tL X.K W mr)) : PE X e (tL X.K W (lockN ma mr)) := by
  refine PE.imp (pe_lock h) fun σ H Q ⟨mu, ev, st, he, hs, hp⟩ => ?_
  obtain ⟨n, d, ob, ob', hi, ho, hl, hp⟩ := lock_open (P := fun r => Post X.K W (RL X.K) mu H r Q) hs (fun z => z) hp
  obtain ⟨u, hu, mt, hod, nf, nt⟩ := lock_rel hs hi ho hl
  have kd := mut_kinds (hs.ob n d ob hi ho) hl hu
  refine ⟨d, u, hu, mt, fun od => ⟨mu, ev, st.set n ob', he.mono0 (hod od).1, (hod od).2, ?_⟩⟩
  cases hr : mr ev (st.set n ob') with
  | bad => rw [hr] at hp; exact hp
  | exc c e s => rw [hr] at hp; exact hp.elim
  | ok ds st' =>
    rw [hr] at hp
    unfold unl at hp
    simp only at hp
    split at hp
    · rename_i o2 ho2
      split at hp
      · rename_i o3 ho3
        intro mu' x H' e' ⟨q, vs, ex, h0, hq, hn, rs⟩ hs'
        obtain ⟨k1, k2, k3, k4⟩ := unlock_rel hu nf nt hi e' hs' ho2 ho3 kd
        have ne : q ≠ d := fun z => by subst z; rw [k1] at hq; cases hq
        refine ⟨k1, hp mu' x (upd H' d u) k2 ⟨q, vs, ex, by rwa [upd_ne ne] at h0, by rw [upd_ne ne]; exact hq, hn, rs.mono0 k3⟩ k4⟩
      · exact hp.elim
    · exact hp.elim
/-! sorted(d), sorted(t), sum(t) -/
def RQT (K : PySem.W.Frag) : RR V (List D) := ⟨fun _ H mu _ v ds => ∃ p vs, v = .ref p ∧ SqT K H p vs ∧ Rps K H mu vs ds, fun _ h => h⟩
abbrev tQT (K : PySem.W.Frag) (W : Wx) (m : Mo (List D)) : TE := tG K W (RQT K) m
def mTupOf (m : Mo D) : Mo (List D) := fun ev st => (m ev st).bind fun d st1 => match d with
  | .tup ds => .ok ds st1
  | _ => .bad
theorem mqt_of (h : PE X e (tE X.K W ma)) : PE X e (tQT X.K W (mTupOf ma)) := by
  refine PE.imp h fun σ H Q ⟨mu, ev, st, he, hst, hp⟩ => ?_
  refine ⟨mu, ev, st, he, hst, hp.bind fun d st1 mu1 x H1 _ e1 r1 s1 hp1 => ?_⟩
  split at hp1
  · cases r1 with
    | tup h hs => exact hp1 _ _ _ .refl ⟨_, _, rfl, h.sq, hs⟩ s1
  · exact hp1.elim
theorem me_sumT (hg : Gl X "sum") (hm : X.mg "sum" = none) (hc : X.calm = true) (ha : PE X e (tE X.K W ma)) (he : starEach [e] X.env = (false, eval e X.env) :: starEach [] X.env := by rfl) : PE X (.Call (.Name "sum" p) [e] [] pos) (tE X.K W (mQ gSum (mTupOf ma))) := by
  refine PE.imp (pe_callB (cr_sumT hc) hg hm bt_sum (pa_cons (mqt_of ha) pa_nil he) (by decide) (by decide) he rfl) fun σ H Q ⟨mu, ev, st, he, hst, hp⟩ => ?_
  refine ⟨mu, ev, st, he, hst, hp.bind fun ds st1 mu1 x H1 _ e1 r1 s1 hp1 => ?_⟩
  obtain ⟨q, vs, rfl, sq, rs⟩ := r1
  unfold gSum at hp1
  cases hq : intsOf ds with
  | none => rw [hq] at hp1; exact hp1.elim
  | some ns =>
    rw [hq] at hp1
    exact ⟨q, ns, rfl, by rw [← Rps.ints rs hq]; exact sq, hp1 _ _ _ .refl (.int _) s1⟩
theorem ml_sortedT (hg : Gl X "sorted") (hm : X.mg "sorted" = none) (ha : PE X e (tE X.K W ma)) (he : starEach [e] X.env = (false, eval e X.env) :: starEach [] X.env := by rfl) : PE X (.Call (.Name "sorted" p) [e] [] pos) (tL X.K W (mQ gSorted (mTupOf ma))) := by
  refine PE.imp (pe_callB cr_sortedTup hg hm bt_sorted (pa_cons (mqt_of ha) pa_nil he) (by decide) (by decide) he rfl) fun σ H Q ⟨mu, ev, st, he, hst, hp⟩ => ?_
  refine ⟨mu, ev, st, he, hst, hp.bind fun ds st1 mu1 x H1 _ e1 r1 s1 hp1 => ?_⟩
  obtain ⟨q, vs, rfl, sq, rs⟩ := r1
  unfold gSorted at hp1
  cases hq : intsOf ds with
  | none => rw [hq] at hp1; exact hp1.elim
  | some ns =>
    rw [hq] at hp1
    refine ⟨q, ns, rfl, by rw [← Rps.ints rs hq]; exact sq, fun ns' p' hp hsd hn => ?_⟩
    have e1 : ns' = sortI ns := sorted_one (hp.trans (sortI_perm ns).symm) hsd (sortI_sorted ns)
    subst e1
    exact hp1 _ _ _ (ext_new hn _) ⟨p', _, rfl, hn, upd_same, s1.fresh hn, Rps.of_ints _⟩ (s1.new hn _)
/-- the keys of a dict, whole numbers -/
def keyInts : List Key → Option (List Int)
  | [] => some []
  | .inl i :: ks => (keyInts ks).map (i :: ·)
  | _ => none
theorem keyInts_eq : ∀ {ks : List Key} {ns : List Int}, keyInts ks = some ns → ks = ns.map Sum.inl
  | [], ns, h => by cases h; rfl
  | .inl i :: ks, ns, h => by
    simp only [keyInts] at h
    cases hq : keyInts ks with
    | none => rw [hq] at h; cases h
    | some ms => rw [hq] at h; cases h; rw [keyInts_eq hq]; rfl
  | .inr x :: ks, ns, h => by cases h
def mSortedD (ma : Mo D) : Mo (List D) := fun ev st => (ma ev st).bind fun d st1 => match d with
  | .ref j => (match st1[j]? with
    | some (.dK _ kvs) => (match keyInts (kvs.map (·.1)) with
      | some ns => .ok ((sortI ns).map D.int) st1
      | none => .bad)
    | _ => .bad)
  | _ => .bad
theorem ml_sortedD (hg : Gl X "sorted") (hm : X.mg "sorted" = none) (hc : X.calm = true) (ha : PE X e (tE X.K W ma)) (he : starEach [e] X.env = (false, eval e X.env) :: starEach [] X.env := by rfl) : PE X (.Call (.Name "sorted" p) [e] [] pos) (tL X.K W (mSortedD ma)) := by
  refine PE.imp (pe_callB (cr_sortedDict hc) hg hm bt_sorted (pa_cons ha pa_nil he) (by decide) (by decide) he rfl) fun σ H Q ⟨mu, ev, st, he, hst, hp⟩ => ?_
  refine ⟨mu, ev, st, he, hst, hp.bind fun d st1 mu1 x H1 _ e1 r1 s1 hp1 => ?_⟩
  split at hp1
  · cases r1 with
    | ref hi =>
      obtain ⟨ob, ho, ok⟩ := s1.at hi
      rw [ho] at hp1
      split at hp1
      · rename_i lk kvs eq; cases eq
        obtain ⟨ws, hw, hkd⟩ : ∃ ws, Rd H1 _ (.dK ws) ∧ KD X.K H1 mu1 ws kvs := by
          cases lk with
          | true => obtain ⟨od, ws, h1, h2⟩ := ok; exact ⟨ws, .inr ⟨od, h1⟩, h2⟩
          | false => obtain ⟨ws, h1, h2⟩ := ok; exact ⟨ws, .inl h1, h2⟩
        split at hp1
        · rename_i ns hns
          refine ⟨_, ws, ns, rfl, hw, hkd.keys.trans (keyInts_eq hns), fun ns' p' hp hsd hn => ?_⟩
          have e1 : ns' = sortI ns := sorted_one (hp.trans (sortI_perm ns).symm) hsd (sortI_sorted ns)
          subst e1
          exact hp1 _ _ _ (ext_new hn _) ⟨p', _, rfl, hn, upd_same, s1.fresh hn, Rps.of_ints _⟩ (s1.new hn _)
        · exact hp1.elim
      · exact hp1.elim
  · exact hp1.elim
end Ml

namespace Ml
open PySem L2
variable {X : Cx} {W : Wx} {a b c e o i : Expr} {es rest : List Expr} {pos p q apos cpos pos' : Pos} {ma mb mc mk mx mv : Mo D} {mr mq : Mo (List D)} {ta tb : Mo Bool} {s1 s2 : Ms}
/-! ### a dict display of one pair, the key a tuple of whole numbers -/
def tDisp1T (tk tv : TE) : TE := fun σ H Q => ∀ p, H p = none → tPairs [(tk, tv)] σ (upd H p (.dT [])) fun ps H2 => H2 p = some (.dT []) ∧ ∃ (ks : List Key) (b : Addr) (v : V), ps = [(.ref b, v)] ∧ H2 b = some (.tup (ks.map kV)) ∧ Q (.ref p) (upd H2 p (.dT [(ks, v)]))
theorem pe_disp1T {k v : Expr} {tk tv : TE} (hu : X.A.units + 1 < cLine) (hk : PE X k tk) (hv : PE X v tv) : PE X (.Dict [some k] [v] pos) (tDisp1T tk tv) := by
  refine ⟨fun pins s σ H Q I q => ?_⟩
  have hn := I.hok.fresh (Nat.le_refl s.heap.objs.size)
  have I1 := I.laid (a := s.heap.objs.size) (o := .dT []) (h' := s.heap.push { cls := .type "dict", data := .dict #[] }) (t' := s.toks) (fun _ _ q => Heap.get?_push_of_some _ q) (Nat.le_refl _) (dt_empty s.heap I.big)
  have h : PPs X pos [some k] [v] [(tk, tv)] := pps_cons hk hv pps_nil
  rw [arm_eval_Dict, zip_pairTrees [some k] [v] X.env pos rfl rfl, dictDisplay_pairs (pairTrees [some k] [v] X.env pos) (by intro z; cases z) (by show 1 < 17; decide)]
  refine wpAny_bind (wpAny_standAt (wpAny_bind (wpAny_subDictH (knd := tupleKind (mixKind X.prog X.w)) (show X.A.units < cLine by omega) (by show 1 ≤ 15; decide)
    (thn (h.run pins _ σ _ _ I1 (q _ hn)) fun ws s2 ⟨ps, H2, I2, rel, e, ks, b, v', ep, eb, q2⟩ => ?_))))
  subst ep
  cases rel with
  | @cons p w ps ws h1 h2 =>
  cases h2
  obtain ⟨w1, w2⟩ := w
  cases (show w1 = Value.ref b from h1.1)
  obtain ⟨z, hd, xs0, r0, dd⟩ := dt_of I2.hok e
  cases r0
  refine ⟨[(ks, b, w2)], ⟨rfl, rfl, key_of I2.hok eb, True.intro⟩, dd, fun h' tk dd' hs => wpAny_pure ⟨.ref s.heap.objs.size, _, ?_, rfl, q2⟩⟩
  obtain ⟨q, es, ep, hq, g2, g3, g4, _, g5⟩ := dd'
  refine d_write I2 (by rw [e]; exact True.intro) hs ⟨q, hq⟩ ⟨by rw [sizeLine_eq, List.length_singleton]; decide, hd, [(ks, b, w2)], .cons ⟨rfl, ?_, h1.2⟩ .nil, q, es, ep, hq, g2, g3, g4, g5⟩
  rw [upd_ne (ne_of eb e (fun z => nomatch z))]
  exact eb
theorem ext0_tmpT {H : Hp} {mu : List Addr} {q : Addr} {l : List (List Key × V)} {o : HO} (h : H q = some (.dT l)) : Ext0 mu H mu (upd H q o) :=
  ⟨⟨[], by simp⟩, fun a vs ha => by rw [upd_ne (fun e => by subst e; rw [h] at ha; cases ha)]; exact ha, fun a o vs ha n => ⟨by rw [upd_ne (fun e => by subst e; rw [h] at ha; cases ha)]; exact ha, n⟩⟩
theorem RelSt.tmpT {K : PySem.W.Frag} {H : Hp} {mu : List Addr} {st : Sto} (r : RelSt K H mu st) {q : Addr} {l : List (List Key × V)} {o : HO} (h : H q = some (.dT l)) (hn : q ∉ mu) : RelSt K (upd H q o) mu st :=
  ⟨r.len, r.nd, fun i a ob h1 h2 => (r.ob i a ob h1 h2).mono0 (ext0_tmpT h) (upd_ne fun e => hn (e ▸ List.mem_of_getElem? h1))⟩
def mDict1T (mk mv : Mo D) : Mo (List (List Key × D)) := fun ev st => (mk ev st).bind fun k st1 => (mv ev st1).bind fun v st2 => match keysOf k with
  | some ks => .ok [(ks, v)] st2
  | none => .bad
theorem md_disp1T {k v : Expr} (hu : X.A.units + 1 < cLine) (hk : PE X k (tE X.K W mk)) (hv : PE X v (tE X.K W mv)) : PE X (.Dict [some k] [v] pos) (tDT X.K W (mDict1T mk mv)) := by
  refine PE.imp (pe_disp1T hu hk hv) fun σ H Q ⟨mu, ev, st, he, hst, hp⟩ => ?_
  intro q hq
  have e0 : Ext mu H mu (upd H q (.dT [])) := ext_new hq _
  unfold mDict1T at hp
  refine ⟨mu, ev, st, he.mono e0, hst.new hq _, ?_⟩
  cases hr : mk ev st with
  | bad => rw [hr] at hp; exact hp
  | exc c e s => rw [hr] at hp; exact fun mu' σ' H' e' => hp mu' σ' H' (e0.trans e')
  | ok k1 st1 =>
    rw [hr] at hp
    intro mu1 x H1 e1 r1 s1
    refine ⟨mu1, ev, st1, (he.mono e0).mono e1, s1, ?_⟩
    simp only [Rs.bind_ok] at hp
    cases hr2 : mv ev st1 with
    | bad => rw [hr2] at hp; exact hp
    | exc c e s => rw [hr2] at hp; exact fun mu' σ' H' e' => hp mu' σ' H' (e0.trans (e1.trans e'))
    | ok v1 st2 =>
      rw [hr2] at hp
      simp only [Rs.bind_ok] at hp
      intro mu2 y H2 e2 r2 s2
      have k2 := (e1.trans e2).keep q _ upd_same (hst.fresh hq)
      refine ⟨k2.1, ?_⟩
      split at hp
      · rename_i ks hks
        obtain ⟨b, rfl, hb⟩ := keys_rel (Rp.mono e2 r1) hks
        refine ⟨ks, b, y, rfl, hb, ?_⟩
        refine hp mu2 (.ref q) _ (ext_tmp (e0.trans (e1.trans e2)) hq) ⟨q, _, rfl, hq, upd_same, k2.2, ?_⟩ (s2.tmpT k2.1 k2.2)
        exact .cons ⟨rfl, r2.mono0 (ext0_tmpT k2.1)⟩ .nil
      · exact hp.elim
/-! ### lists as operands: new ones, or those of the store -/
inductive Lo where
  | r (d : D) | n (ds : List D)
def loR (K : PySem.W.Frag) (H0 H : Hp) (mu : List Addr) (st : Sto) (v : V) : Lo → Prop
  | .r d => Rp K H mu v d
  | .n ds => (RL K).r H0 H mu st v ds
def RX (K : PySem.W.Frag) : RR V Lo := ⟨fun H0 H mu st v z => loR K H0 H mu st v z, fun {_ _ _ _ _ _ _ _ z} e h => by
    cases z with
    | r d => exact h
    | n ds => exact (RL K).anti e h⟩
abbrev tX (K : PySem.W.Frag) (W : Wx) (m : Mo Lo) : TE := tG K W (RX K) m
def mLoR (m : Mo D) : Mo Lo := fun ev st => (m ev st).bind fun d st1 => .ok (.r d) st1
def mLoN (m : Mo (List D)) : Mo Lo := fun ev st => (m ev st).bind fun d st1 => .ok (.n d) st1
theorem mx_ref (h : PE X e (tE X.K W ma)) : PE X e (tX X.K W (mLoR ma)) := by
  refine PE.imp h fun σ H Q ⟨mu, ev, st, he, hst, hp⟩ => ?_
  exact ⟨mu, ev, st, he, hst, hp.bind fun d st1 mu1 x H1 _ e1 r1 s1 hp1 => hp1 _ _ _ .refl r1 s1⟩
theorem mx_new (h : PE X e (tL X.K W mr)) : PE X e (tX X.K W (mLoN mr)) := by
  refine PE.imp h fun σ H Q ⟨mu, ev, st, he, hst, hp⟩ => ?_
  unfold mLoN at hp
  refine ⟨mu, ev, st, he, hst, ?_⟩
  cases hr : mr ev st with
  | bad => rw [hr] at hp; exact hp
  | exc c e s => rw [hr] at hp; exact hp
  | ok ds st1 =>
    rw [hr] at hp
    exact fun mu1 x H1 e1 r1 s1 => hp mu1 x H1 e1 r1 s1
/-- what the operand holds, at the end -/
def loAt (st : Sto) : Lo → Option (List D)
  | .r (.ref i) => (match st[i]? with
    | some (.lst ds) => some ds
    | _ => none)
  | .r _ => none
  | .n ds => some ds
theorem lo_rel {K : PySem.W.Frag} {H0 H1 H2 : Hp} {mu1 mu2 : List Addr} {st1 st2 : Sto} {v : V} {z : Lo} {ds : List D} (h : loR K H0 H1 mu1 st1 v z) (e : Ext mu1 H1 mu2 H2) (hs : RelSt K H2 mu2 st2) (hz : loAt st2 z = some ds) :
    ∃ p vs, v = .ref p ∧ H2 p = some (.lst vs) ∧ Rps K H2 mu2 vs ds := by
  cases z with
  | n ds' =>
    cases hz
    obtain ⟨p, vs, rfl, _, hp, hn, rs⟩ := h
    have k := e.keep p _ hp hn
    exact ⟨p, vs, rfl, k.1, rs.mono e⟩
  | r d =>
    unfold loAt at hz
    split at hz
    · rename_i i eq
      cases eq
      have h := Rp.mono e h
      cases h with
      | ref hi =>
        obtain ⟨ob, ho, ok⟩ := hs.at hi
        rw [ho] at hz
        split at hz
        · rename_i ds' eq; cases eq; cases hz
          obtain ⟨vs, h1, h2⟩ := ok
          exact ⟨_, vs, rfl, h1, h2⟩
        · cases hz
    · cases hz
    · rename_i eq; cases eq
variable {xa xb : Mo Lo}
def mCat (xa xb : Mo Lo) : Mo (List D) := fun ev st => (xa ev st).bind fun u st1 => (xb ev st1).bind fun v st2 => match loAt st2 u, loAt st2 v with
  | some ds, some es => if ds.length + es.length ≤ lim then .ok (ds ++ es) st2 else .bad
  | _, _ => .bad
theorem ml_cat (ha : PE X a (tX X.K W xa)) (hb : PE X b (tX X.K W xb)) : PE X (.BinOp a .Add b pos) (tL X.K W (mCat xa xb)) := by
  refine PE.imp (pe_op op_cat ha hb) fun σ H Q ⟨mu, ev, st, he, hst, hp⟩ => ?_
  refine ⟨mu, ev, st, he, hst, hp.bind fun u st1 mu1 x H1 _ e1 r1 s1 hp1 => ?_⟩
  refine ⟨mu1, ev, st1, he.mono e1, s1, hp1.bind fun v st2 mu2 y H2 _ e2 r2 s2 hp2 => ?_⟩
  split at hp2
  · rename_i ds es h1 h2
    obtain ⟨p1, vs, rfl, k1, k2⟩ := lo_rel r1 e2 s2 h1
    obtain ⟨p2, ws, rfl, k3, k4⟩ := lo_rel r2 .refl s2 h2
    split at hp2
    · rename_i hl
      refine ⟨p1, p2, vs, ws, rfl, rfl, k1, k3, ?_, fun p hp => hp2 _ _ _ (ext_new hp _) ⟨p, _, rfl, hp, upd_same, s2.fresh hp, (k2.append k4).mono (ext_new hp _)⟩ (s2.new hp _)⟩
      rw [k2.length, k4.length]; exact lim_le hl
    · exact hp2.elim
  · exact hp2.elim
theorem Rps.rep {K : PySem.W.Frag} {H : Hp} {mu : List Addr} {vs : List V} {ds : List D} (h : Rps K H mu vs ds) : ∀ n, Rps K H mu (List.replicate n vs).flatten (List.replicate n ds).flatten
  | 0 => .nil
  | n + 1 => by
    rw [List.replicate_succ, List.replicate_succ, List.flatten_cons, List.flatten_cons]
    exact h.append (h.rep n)
def mRep (xa : Mo Lo) (mb : Mo D) : Mo (List D) := fun ev st => (xa ev st).bind fun u st1 => (mb ev st1).bind fun v st2 => match loAt st2 u, v with
  | some ds, .int k => if -(2 ^ 63) ≤ k ∧ k < 2 ^ 63 ∧ ds.length * k.toNat ≤ lim then .ok (List.replicate k.toNat ds).flatten st2 else .bad
  | _, _ => .bad
theorem ml_rep (ha : PE X a (tX X.K W xa)) (hb : PE X b (tE X.K W mb)) : PE X (.BinOp a .Mult b pos) (tL X.K W (mRep xa mb)) := by
  refine PE.imp (pe_op op_rep ha hb) fun σ H Q ⟨mu, ev, st, he, hst, hp⟩ => ?_
  refine ⟨mu, ev, st, he, hst, hp.bind fun u st1 mu1 x H1 _ e1 r1 s1 hp1 => ?_⟩
  refine ⟨mu1, ev, st1, he.mono e1, s1, hp1.bind fun v st2 mu2 y H2 _ e2 r2 s2 hp2 => ?_⟩
  split at hp2
  · rename_i ds k h1 _
    obtain ⟨p1, vs, rfl, k1, k2⟩ := lo_rel r1 e2 s2 h1
    cases r2
    split at hp2
    · rename_i hl
      refine ⟨p1, k, vs, rfl, rfl, k1, hl.1, hl.2.1, ?_, fun p hp => hp2 _ _ _ (ext_new hp _) ⟨p, _, rfl, hp, upd_same, s2.fresh hp, (k2.rep _).mono (ext_new hp _)⟩ (s2.new hp _)⟩
      rw [k2.length]; exact lim_le hl.2.2
    · exact hp2.elim
  · exact hp2.elim
/-! list == list -/
theorem lst_shaped {ds : List D} (h : doks 59 ds = true) : SeqAt.shaped (.list (pds ds)) = true := by
  obtain ⟨h1, h2⟩ := doks_can h
  unfold SeqAt.shaped
  rw [show PyData.canLay0 (.list (pds ds)) = true by simpa [PyData.canLay0] using h1, Bool.true_and]
  refine decide_eq_true ?_
  simp only [PyData.depth]
  omega
def leq (ds es : List D) : Bool := PyData.eqv (.list (pds ds)) (.list (pds es))
def mCmpL (f : Bool → Bool) (xa xb : Mo Lo) : Mo D := fun ev st => (xa ev st).bind fun u st1 => (xb ev st1).bind fun v st2 => match loAt st2 u, loAt st2 v with
  | some ds, some es => if doks 59 ds && doks 59 es then .ok (.bl (f (leq ds es))) st2 else .bad
  | _, _ => .bad
theorem cmpL_go (f : Bool → Bool) {σ : L2.St} {H : Hp} {Q : VK} (h : tE X.K W (mCmpL f xa xb) σ H Q) :
    tOp (fun x y H Q => ∃ d e, Dp X.K H x d ∧ Dp X.K H y e ∧ SeqAt.shaped d = true ∧ SeqAt.shaped e = true ∧ Q (.bl (f (PyData.eqv d e))) H) (tX X.K W xa) (tX X.K W xb) σ H Q := by
  obtain ⟨mu, ev, st, he, hst, hp⟩ := h
  refine ⟨mu, ev, st, he, hst, hp.bind fun u st1 mu1 x H1 _ e1 r1 s1 hp1 => ?_⟩
  refine ⟨mu1, ev, st1, he.mono e1, s1, hp1.bind fun v st2 mu2 y H2 _ e2 r2 s2 hp2 => ?_⟩
  split at hp2
  · rename_i ds es h1 h2
    obtain ⟨p1, vs, rfl, k1, k2⟩ := lo_rel r1 e2 s2 h1
    obtain ⟨p2, ws, rfl, k3, k4⟩ := lo_rel r2 .refl s2 h2
    split at hp2
    · rename_i hl
      rw [Bool.and_eq_true] at hl
      exact ⟨_, _, .lst (.inl (.inl k1)) (k2.dp hl.1), .lst (.inl (.inl k3)) (k4.dp hl.2), lst_shaped hl.1, lst_shaped hl.2, hp2 _ _ _ .refl (.bl _) s2⟩
    · exact hp2.elim
  · exact hp2.elim
theorem me_eqL (hu : X.A.units + 64 < cLine) (ha : PE X a (tX X.K W xa)) (hb : PE X b (tX X.K W xb)) : PE X (.Compare a [.Eq] [b] pos) (tE X.K W (mCmpL id xa xb)) :=
  PE.imp (pe_cmpR (op_eqD hu) ha hb (nomark _)) fun _ _ _ h => cmpL_go id h
theorem me_neL (hu : X.A.units + 64 < cLine) (ha : PE X a (tX X.K W xa)) (hb : PE X b (tX X.K W xb)) : PE X (.Compare a [.NotEq] [b] pos) (tE X.K W (mCmpL (!·) xa xb)) :=
  PE.imp (pe_cmpR (op_neD hu) ha hb (nomark _)) fun _ _ _ h => cmpL_go (!·) h
theorem mt_eqL (hu : X.A.units + 64 < cLine) (ha : PE X a (tX X.K W xa)) (hb : PE X b (tX X.K W xb)) : PT X (.Compare a [.Eq] [b] pos) (tT X.K W (mTest (mCmpL id xa xb))) :=
  PT.imp (pt_cmpR (op_eqD hu) ha hb (nomark _)) fun _ _ _ h => cmpL_go id (tst_go h)
theorem mt_neL (hu : X.A.units + 64 < cLine) (ha : PE X a (tX X.K W xa)) (hb : PE X b (tX X.K W xb)) : PT X (.Compare a [.NotEq] [b] pos) (tT X.K W (mTest (mCmpL (!·) xa xb))) :=
  PT.imp (pt_cmpR (op_neD hu) ha hb (nomark _)) fun _ _ _ h => cmpL_go (!·) (tst_go h)
/-! list(t) -/
theorem qs_list {K : PySem.W.Frag} : QS K (RL K) (fun xs H Q => ∃ p ys, xs = [.ref p] ∧ (SqL K H p ys ∨ SqT K H p ys) ∧ ∀ l, H l = none → Q (.ref l) (upd H l (.lst ys))) some := by
  intro mu H st p vs ds d Q hs sq rs e k
  cases e
  exact ⟨p, vs, rfl, .inl sq, fun l hl => k _ _ _ (ext_new hl _) ⟨l, _, rfl, hl, upd_same, hs.fresh hl, rs.mono (ext_new hl _)⟩ (hs.new hl _)⟩
theorem ml_listT (hg : Gl X "list") (hm : X.mg "list" = none) (ha : PE X e (tE X.K W ma)) (he : starEach [e] X.env = (false, eval e X.env) :: starEach [] X.env := by rfl) : PE X (.Call (.Name "list" p) [e] [] pos) (tL X.K W (mTupOf ma)) := by
  refine PE.imp (pe_callTy call_list_of hg hm bt_list (pa_cons (mqt_of ha) pa_nil he) (by decide) (by decide) he rfl) fun σ H Q ⟨mu, ev, st, he, hst, hp⟩ => ?_
  refine ⟨mu, ev, st, he, hst, ?_⟩
  cases hr : mTupOf ma ev st with
  | bad => rw [hr] at hp; exact hp
  | exc c e s => rw [hr] at hp; exact hp
  | ok ds st1 =>
  rw [hr] at hp
  intro mu1 x H1 e1 r1 s1
  have hp1 := Post.from hp e1
  obtain ⟨q, vs, rfl, sq, rs⟩ := r1
  exact ⟨q, vs, rfl, .inr sq, fun l hl => hp1 _ _ _ (ext_new hl _) ⟨l, _, rfl, hl, upd_same, s1.fresh hl, rs.mono (ext_new hl _)⟩ (s1.new hl _)⟩
/-! xs.append(v), xs.extend(ys) of a list of the store -/
def isLst (st : Sto) : D → Bool
  | .ref i => (match st[i]? with
    | some (.lst _) => true
    | _ => false)
  | _ => false
theorem isLst_rel {K : PySem.W.Frag} {H : Hp} {mu : List Addr} {st : Sto} (hs : RelSt K H mu st) {x : V} {d : D} (hx : Rp K H mu x d) (h : isLst st d = true) : tyV K "list" x H := by
  unfold isLst at h
  split at h
  · cases hx with
    | ref hi =>
      obtain ⟨ob, ho, ok⟩ := hs.at hi
      rw [ho] at h
      split at h
      · rename_i ds eq; cases eq
        obtain ⟨vs, h1, h2⟩ := ok
        exact .inl ⟨rfl, _, .inl (.inl h1)⟩
      · cases h
  · cases h
def mAppend (ma mv : Mo D) : Mo D := fun ev st => (ma ev st).bind fun d st1 => if isLst st1 d = true then (mv ev st1).bind fun v st2 => match d with
  | .ref i => (match st2[i]? with
    | some (.lst ds) => if ds.length + 1 ≤ lim then .ok .non (st2.set i (.lst (ds ++ [v]))) else .bad
    | _ => .bad)
  | _ => .bad else .bad
theorem me_append (ho : PE X o (tE X.K W ma)) (hv : PE X e (tE X.K W mv)) (hbase : attributeBase o "append" X.env (eval o X.env) = eval o X.env := by rfl)
    (hfew : ((backTo cpos (starEach [e] X.env)).all (fun x => !x.1) && (backToKw cpos (keywordEach [] X.env)).all (fun x => x.1.isSome)
      && decide ([e].length + ([] : List Keyword).length + (if ([] : List Keyword).isEmpty then 0 else 1) < 30)) = true := by rfl)
    (hline : (apos.endLine == cpos.line) = true := by rfl) (hs : starEach [e] X.env = (false, eval e X.env) :: starEach [] X.env := by rfl) :
    PE X (.Call (.Attribute o "append" apos) [e] [] cpos) (tE X.K W (mAppend ma mv)) := by
  refine PE.imp (pe_bm PySem.F.plainAttrs_list PySem.F.slot_list_append PySem.F.type_list_append mt_append ho (pa_cons hv pa_nil hs) hbase hfew hline hs rfl) fun σ H Q ⟨mu, ev, st, he, hst, hp⟩ => ?_
  refine ⟨mu, ev, st, he, hst, hp.bind fun d st1 mu1 x H1 _ e1 r1 s1 hp1 => ?_⟩
  split at hp1
  · rename_i hl
    refine ⟨isLst_rel s1 r1 hl, ?_⟩
    refine ⟨mu1, ev, st1, he.mono e1, s1, hp1.bind fun v st2 mu2 y H2 _ e2 r2 s2 hp2 => ?_⟩
    have r1 := Rp.mono e2 r1
    split at hp2
    · cases r1 with
      | ref hi =>
        obtain ⟨ob, ho, ok⟩ := s2.at hi
        rw [ho] at hp2
        split at hp2
        · rename_i ds eq; cases eq
          obtain ⟨vs, h1, h2⟩ := ok
          split at hp2
          · rename_i hz
            have e0 : Ext mu2 H2 mu2 (upd H2 _ (.lst (vs ++ [y]))) := ext_write s2 (List.mem_of_getElem? hi) (fun ob w z => by rw [h1] at z; cases z) _
            refine ⟨_, vs, y, rfl, rfl, h1, by rw [h2.length]; exact lim_lt (by omega), ?_⟩
            exact hp2 _ _ _ e0 .non (s2.write hi ⟨_, upd_same, (h2.append (.cons r2 .nil)).mono e0⟩)
          · exact hp2.elim
        · exact hp2.elim
    · exact hp2.elim
  · exact hp1.elim
/-! a list or dict just told by a call is locked for good -/
theorem pe_frz {t : TE} (h : PE X e t) : PE X e (fun σ H Q => t σ H fun x H1 => ∃ d u, H1 d = some u ∧ Mut (some u) ∧ ∀ od, Q x (upd H1 d (.frz od u))) := by
  refine ⟨fun pins s σ H Q I hw => ?_⟩
  refine thn (h.run pins s σ H _ I hw) fun v s1 ⟨x, H1, I1, r, d, u, hd, mu, q⟩ => ?_
  obtain ⟨od, I2⟩ := I1.lock hd mu
  exact ⟨x, _, I2, r, q od⟩
def mFrz (ma : Mo D) : Mo D := fun ev st => (ma ev st).bind fun d st1 => match d with
  | .ref n => (match st1[n]? with
    | some ob => (match lockO ob with
      | some ob' => .ok (.ref n) (st1.set n ob')
      | none => .bad)
    | none => .bad)
  | _ => .bad
theorem me_frz (h : PE X e (tE X.K W ma)) : PE X e (tE X.K W (mFrz ma)) := by
  refine PE.imp (pe_frz h) fun σ H Q ⟨mu, ev, st, he, hst, hp⟩ => ?_
  refine ⟨mu, ev, st, he, hst, hp.bind fun d st1 mu1 x H1 _ e1 r1 s1 hp1 => ?_⟩
  split at hp1
  · cases r1 with
    | ref hi =>
      obtain ⟨ob, ho, ok⟩ := s1.at hi
      rw [ho] at hp1
      simp only at hp1
      split at hp1
      · rename_i ob' hl
        obtain ⟨u, hu, mt, hod, nf, nt⟩ := lock_rel s1 hi ho hl
        refine ⟨_, u, hu, mt, fun od => hp1 mu1 _ _ (ext_write s1 (List.mem_of_getElem? hi) (fun ob w z => by rw [hu] at z; exact nf _ _ (Option.some.inj z)) _) (.ref hi) (hod od).2⟩
      · exact hp1.elim
  · exact hp1.elim
end Ml

/-! The readings of the program's defs and of the law's (printed by gen.py). -/
namespace Ml
open PySem L2
def d_DICE : D := .tup [.str "dice", .str "high", .str "low", .str "again", .str "burst", .str "count"]
def m_divisor : Ms :=
  (mSeq (mWhile 1000 (mTest (mOp gNe (mVar 1) (mC (.int 0)))) (mPar 0 1 (mCons (mVar 1) (mCons (mOp gMod (mVar 0) (mVar 1)) mNil)))) (mRet (mVar 0)))
def m_fraction (c_divisor : Fm) : Ms :=
  (mSeq (mSet 2 (mCall c_divisor (mCons (mCB gAbs (mCons (mVar 0) mNil)) (mCons (mVar 1) mNil)))) (mRet (mTup (mCons (mOp gDiv (mVar 0) (mVar 2)) (mCons (mOp gDiv (mVar 1) (mVar 2)) mNil)))))
def m_sum_of (c_fraction : Fm) : Ms :=
  (mRet (mCall c_fraction (mCons (mOp gAdd (mOp gMul (mOp gIx (mVar 0) (mC (.int 0))) (mOp gIx (mVar 1) (mC (.int 1)))) (mOp gMul (mOp gIx (mVar 1) (mC (.int 0))) (mOp gIx (mVar 0) (mC (.int 1))))) (mCons (mOp gMul (mOp gIx (mVar 0) (mC (.int 1))) (mOp gIx (mVar 1) (mC (.int 1)))) mNil))))
def m_product (c_fraction : Fm) : Ms :=
  (mRet (mCall c_fraction (mCons (mOp gMul (mOp gIx (mVar 0) (mC (.int 0))) (mOp gIx (mVar 1) (mC (.int 0)))) (mCons (mOp gMul (mOp gIx (mVar 0) (mC (.int 1))) (mOp gIx (mVar 1) (mC (.int 1)))) mNil))))
def m_added (c_sum_of : Fm) : Ms :=
  (mDPut (mVar 0) (mVar 1) (mCall c_sum_of (mCons (mDGet (mVar 0) (mVar 1) (mTup (mCons (mC (.int 0)) (mCons (mC (.int 1)) mNil)))) (mCons (mVar 2) mNil))))
def m_put_together (c_added c_of_two c_product : Fm) : Ms :=
  (mSeq (mSet 3 (mKeepD mDNew)) (mSeq (lockN (mVar 0) (mFor (mItK .dK (mVar 0)) (gtName 4) (lockN (mVar 1) (mFor (mItK .dK (mVar 1)) (gtName 5) (mDrop (mCall c_added (mCons (mVar 3) (mCons (mCall c_of_two (mCons (mVar 2) (mCons (mVar 4) (mCons (mVar 5) mNil)))) (mCons (mCall c_product (mCons (mDAt (mVar 0) (mVar 4)) (mCons (mDAt (mVar 1) (mVar 5)) mNil))) mNil))))))))) (mRet (mVar 3))))
def m_of_two : Ms :=
  (mSeq (mIfS (mTest (mOp gEq (mVar 0) (mC (.str "plus")))) (mRet (mOp gAdd (mVar 1) (mVar 2))) mSkip) (mSeq (mIfS (mTest (mOp gEq (mVar 0) (mC (.str "less")))) (mRet (mOp gSub (mVar 1) (mVar 2))) mSkip) (mSeq (mIfS (mTest (mOp gEq (mVar 0) (mC (.str "most")))) (mRet (mCB gMax (mCons (mVar 1) (mCons (mVar 2) mNil)))) mSkip) (mSeq (mIfS (mTest (mOp gEq (mVar 0) (mC (.str "least")))) (mRet (mCB gMin (mCons (mVar 1) (mCons (mVar 2) mNil)))) mSkip) (mRet (mCB gInt (mCons (mOp gGt (mVar 1) (mVar 2)) mNil)))))))
def m_one_die (c_added c_one_die c_product : Fm) : Ms :=
  (mSeq (mSet 3 (mKeepD mDNew)) (mSeq (mFor (mItR2 (mCons (mC (.int 1)) (mCons (mOp gAdd (mVar 1) (mC (.int 1))) mNil))) (gtName 4) (mIfS (mTest (mOp gEq (mVar 0) (mC (.str "count")))) (mDrop (mCall c_added (mCons (mVar 3) (mCons (mCB gInt (mCons (mOp gGe (mVar 4) (mVar 2)) mNil)) (mCons (mTup (mCons (mC (.int 1)) (mCons (mVar 1) mNil))) mNil))))) (mIfS (mTOr (mTAnd (mTest (mOp gEq (mVar 0) (mC (.str "again")))) (mTest (mOp gLe (mVar 4) (mVar 2)))) (mTAnd (mTest (mOp gEq (mVar 0) (mC (.str "burst")))) (mTAnd (mTest (mOp gEq (mVar 4) (mVar 1))) (mTest (mOp gGt (mVar 2) (mC (.int 0))))))) (mSeq (mSet 5 (mCall c_one_die (mCons (mOp gIx (mTup (mCons (mC (.str "dice")) (mCons (mC (.str "burst")) mNil))) (mCB gInt (mCons (mOp gEq (mVar 0) (mC (.str "burst"))) mNil))) (mCons (mVar 1) (mCons (mOp gSub (mVar 2) (mC (.int 1))) mNil))))) (lockN (mVar 5) (mFor (mItK .dK (mVar 5)) (gtName 6) (mDrop (mCall c_added (mCons (mVar 3) (mCons (mOp gAdd (mVar 6) (mOp gMul (mVar 4) (mCB gInt (mCons (mOp gEq (mVar 0) (mC (.str "burst"))) mNil)))) (mCons (mCall c_product (mCons (mDAt (mVar 5) (mVar 6)) (mCons (mTup (mCons (mC (.int 1)) (mCons (mVar 1) mNil))) mNil))) mNil)))))))) (mDrop (mCall c_added (mCons (mVar 3) (mCons (mVar 4) (mCons (mTup (mCons (mC (.int 1)) (mCons (mVar 1) mNil))) mNil)))))))) (mRet (mVar 3))))
def m_kept_shares (c_added c_product : Fm) : Ms :=
  (mSeq (mSet 4 (mKeepT (mDict1T (mTup mNil) (mTup (mCons (mC (.int 1)) (mCons (mC (.int 1)) mNil)))))) (mSeq (mFor (mItR (mCons (mVar 1) mNil)) (gtName 5) (mSeq (mSet 6 (mKeepT mDNew)) (mSeq (lockN (mVar 4) (mFor (mItK .dT (mVar 4)) (gtName 7) (mFor (mItR2 (mCons (mC (.int 1)) (mCons (mOp gAdd (mVar 2) (mC (.int 1))) mNil))) (gtName 8) (mDrop (mCall c_added (mCons (mVar 6) (mCons (mQ gTupOf (mQ gSorted (mTupOf (mOp gAdd (mVar 7) (mTup (mCons (mVar 8) mNil)))))) (mCons (mCall c_product (mCons (mDAt (mVar 4) (mVar 7)) (mCons (mTup (mCons (mC (.int 1)) (mCons (mVar 2) mNil))) mNil))) mNil)))))))) (mSet 4 (mVar 6))))) (mSeq (mSet 9 (mKeepD mDNew)) (mSeq (lockN (mVar 4) (mFor (mItK .dT (mVar 4)) (gtName 7) (mSeq (mSet 10 (mSl (mVar 7) mNoPart (mPart (mVar 3)))) (mSeq (mIfS (mTest (mOp gEq (mVar 0) (mC (.str "high")))) (mSet 10 (mSl (mVar 7) (mPart (mOp gSub (mVar 1) (mVar 3))) mNoPart)) mSkip) (mDrop (mCall c_added (mCons (mVar 9) (mCons (mQ gSum (mTupOf (mVar 10))) (mCons (mDAt (mVar 4) (mVar 7)) mNil))))))))) (mRet (mVar 9))))))
def m_book_of (c_added c_book_of c_kept_shares c_one_die c_put_together : Fm) : Ms :=
  (mSeq (mSet 1 (mOp gIx (mVar 0) (mC (.int 0)))) (mSeq (mIfS (mTest (mOp gEq (mVar 1) (mC (.str "number")))) (mRet (mKeepD (mDictD [((mOp gIx (mVar 0) (mC (.int 1))), (mTup (mCons (mC (.int 1)) (mCons (mC (.int 1)) mNil))))]))) mSkip) (mSeq (mIfS (mTest (mOp (gIn false) (mVar 1) (mTup (mCons (mC (.str "high")) (mCons (mC (.str "low")) mNil))))) (mRet (mCall c_kept_shares (mCons (mVar 1) (mCons (mOp gIx (mVar 0) (mC (.int 1))) (mCons (mOp gIx (mVar 0) (mC (.int 2))) (mCons (mOp gIx (mVar 0) (mC (.int 3))) mNil)))))) mSkip) (mSeq (mIfS (mTest (mOp (gIn false) (mVar 1) (mC d_DICE))) (mSeq (mSet 2 (mCall c_one_die (mCons (mVar 1) (mCons (mOp gIx (mVar 0) (mC (.int 2))) (mCons (mOp gIx (mOp gAdd (mVar 0) (mTup (mCons (mC (.int 0)) mNil))) (mC (.int 3))) mNil))))) (mSeq (mSet 3 (mKeepD (mDictD [((mC (.int 0)), (mTup (mCons (mC (.int 1)) (mCons (mC (.int 1)) mNil))))]))) (mSeq (mFor (mItR (mCons (mOp gIx (mVar 0) (mC (.int 1))) mNil)) (gtName 4) (mSet 3 (mCall c_put_together (mCons (mVar 3) (mCons (mVar 2) (mCons (mC (.str "plus")) mNil)))))) (mRet (mVar 3))))) mSkip) (mSeq (mIfS (mTest (mOp gEq (mVar 1) (mC (.str "times")))) (mSeq (mSet 3 (mKeepD mDNew)) (mSeq (mSet 5 (mCall c_book_of (mCons (mOp gIx (mVar 0) (mC (.int 2))) mNil))) (mSeq (lockN (mVar 5) (mFor (mItK .dK (mVar 5)) (gtName 6) (mDrop (mCall c_added (mCons (mVar 3) (mCons (mOp gMul (mVar 6) (mOp gIx (mVar 0) (mC (.int 1)))) (mCons (mDAt (mVar 5) (mVar 6)) mNil))))))) (mRet (mVar 3))))) mSkip) (mRet (mCall c_put_together (mCons (mCall c_book_of (mCons (mOp gIx (mVar 0) (mC (.int 1))) mNil)) (mCons (mCall c_book_of (mCons (mOp gIx (mVar 0) (mC (.int 2))) mNil)) (mCons (mVar 1) mNil))))))))))
def m_shares (c_book_of : Fm) : Ms :=
  (mSeq (mSet 1 (mCall c_book_of (mCons (mVar 0) mNil))) (mRet (mQ gTupOf (mLc [2] (mItN (mSortedD (mVar 1))) (gtName 2) mYes (mTup (mCons (mVar 2) (mCons (mDAt (mVar 1) (mVar 2)) mNil)))))))
def m_f_law_cell : Ms :=
  (mSeq (mIfS (mTest (mOp gLt (mVar 1) (mCB gLen (mCons (mVar 0) mNil)))) (mRet (mOp gIx (mVar 0) (mVar 1))) mSkip) (mRet (mC (.int 0))))
def m_f_law_mix : Ms :=
  (mSeq (mSet 3 (mOp gMod (mOp gMul (mVar 0) (mC (.int 48271))) (mVar 1))) (mRet (mOp gMod (mOp gMod (mOp gMul (mVar 3) (mOp gAdd (mVar 3) (mC (.int 7)))) (mVar 1)) (mVar 2))))
def m_law (c_f_law_cell c_f_law_mix c_shares : Fm) : Ms :=
  (mSeq (mSet 1 (mOp gAdd (mC (.int 2)) (mCall c_f_law_mix (mCons (mCall c_f_law_cell (mCons (mVar 0) (mCons (mC (.int 0)) mNil))) (mCons (mC (.int 9901)) (mCons (mC (.int 5)) mNil)))))) (mSeq (mSet 2 (mQ gTupOf (mLc [4] (mItR2 (mCons (mC (.int 1)) (mCons (mOp gAdd (mVar 1) (mC (.int 1))) mNil))) (gtName 4) mYes (mTup (mCons (mVar 4) (mCons (mTup (mCons (mC (.int 1)) (mCons (mVar 1) mNil))) mNil)))))) (mSeq (mIfS (mTest (mCmpL (!·) (mLoN (mLc [5] (mItT (mTup (mCons (mTup (mCons (mC (.str "dice")) (mCons (mC (.int 1)) (mCons (mVar 1) mNil)))) (mCons (mTup (mCons (mC (.str "high")) (mCons (mC (.int 1)) (mCons (mVar 1) (mCons (mC (.int 1)) mNil))))) (mCons (mTup (mCons (mC (.str "low")) (mCons (mC (.int 1)) (mCons (mVar 1) (mCons (mC (.int 1)) mNil))))) mNil))))) (gtName 5) mYes (mCall c_shares (mCons (mVar 5) mNil)))) (mLoN (mRep (mLoN (mDisp (mCons (mVar 2) mNil))) (mC (.int 3)))))) (mRet (mC (.bl false))) mSkip) (mSeq (mIfS (mTest (mOp gNe (mCall c_shares (mCons (mTup (mCons (mC (.str "high")) (mCons (mC (.int 2)) (mCons (mC (.int 2)) (mCons (mC (.int 1)) mNil))))) mNil)) (mTup (mCons (mTup (mCons (mC (.int 1)) (mCons (mTup (mCons (mC (.int 1)) (mCons (mC (.int 4)) mNil))) mNil))) (mCons (mTup (mCons (mC (.int 2)) (mCons (mTup (mCons (mC (.int 3)) (mCons (mC (.int 4)) mNil))) mNil))) mNil))))) (mRet (mC (.bl false))) mSkip) (mSeq (mIfS (mTest (mOp gNe (mCall c_shares (mCons (mTup (mCons (mC (.str "low")) (mCons (mC (.int 2)) (mCons (mC (.int 2)) (mCons (mC (.int 1)) mNil))))) mNil)) (mTup (mCons (mTup (mCons (mC (.int 1)) (mCons (mTup (mCons (mC (.int 3)) (mCons (mC (.int 4)) mNil))) mNil))) (mCons (mTup (mCons (mC (.int 2)) (mCons (mTup (mCons (mC (.int 1)) (mCons (mC (.int 4)) mNil))) mNil))) mNil))))) (mRet (mC (.bl false))) mSkip) (mSeq (mIfS (mTest (mOp gNe (mCall c_shares (mCons (mTup (mCons (mC (.str "again")) (mCons (mC (.int 1)) (mCons (mC (.int 2)) (mCons (mC (.int 1)) mNil))))) mNil)) (mTup (mCons (mTup (mCons (mC (.int 1)) (mCons (mTup (mCons (mC (.int 1)) (mCons (mC (.int 4)) mNil))) mNil))) (mCons (mTup (mCons (mC (.int 2)) (mCons (mTup (mCons (mC (.int 3)) (mCons (mC (.int 4)) mNil))) mNil))) mNil))))) (mRet (mC (.bl false))) mSkip) (mSeq (mIfS (mTest (mOp gNe (mCall c_shares (mCons (mTup (mCons (mC (.str "count")) (mCons (mC (.int 2)) (mCons (mC (.int 2)) (mCons (mC (.int 2)) mNil))))) mNil)) (mTup (mCons (mTup (mCons (mC (.int 0)) (mCons (mTup (mCons (mC (.int 1)) (mCons (mC (.int 4)) mNil))) mNil))) (mCons (mTup (mCons (mC (.int 1)) (mCons (mTup (mCons (mC (.int 1)) (mCons (mC (.int 2)) mNil))) mNil))) (mCons (mTup (mCons (mC (.int 2)) (mCons (mTup (mCons (mC (.int 1)) (mCons (mC (.int 4)) mNil))) mNil))) mNil)))))) (mRet (mC (.bl false))) mSkip) (mSeq (mIfS (mTest (mOp gNe (mCall c_shares (mCons (mTup (mCons (mC (.str "burst")) (mCons (mC (.int 1)) (mCons (mC (.int 2)) (mCons (mC (.int 1)) mNil))))) mNil)) (mTup (mCons (mTup (mCons (mC (.int 1)) (mCons (mTup (mCons (mC (.int 1)) (mCons (mC (.int 2)) mNil))) mNil))) (mCons (mTup (mCons (mC (.int 3)) (mCons (mTup (mCons (mC (.int 1)) (mCons (mC (.int 4)) mNil))) mNil))) (mCons (mTup (mCons (mC (.int 4)) (mCons (mTup (mCons (mC (.int 1)) (mCons (mC (.int 4)) mNil))) mNil))) mNil)))))) (mRet (mC (.bl false))) mSkip) (mSeq (mIfS (mTest (mOp gNe (mCall c_shares (mCons (mTup (mCons (mC (.str "burst")) (mCons (mC (.int 1)) (mCons (mC (.int 2)) (mCons (mC (.int 2)) mNil))))) mNil)) (mTup (mCons (mTup (mCons (mC (.int 1)) (mCons (mTup (mCons (mC (.int 1)) (mCons (mC (.int 2)) mNil))) mNil))) (mCons (mTup (mCons (mC (.int 3)) (mCons (mTup (mCons (mC (.int 1)) (mCons (mC (.int 4)) mNil))) mNil))) (mCons (mTup (mCons (mC (.int 5)) (mCons (mTup (mCons (mC (.int 1)) (mCons (mC (.int 8)) mNil))) mNil))) (mCons (mTup (mCons (mC (.int 6)) (mCons (mTup (mCons (mC (.int 1)) (mCons (mC (.int 8)) mNil))) mNil))) mNil))))))) (mRet (mC (.bl false))) mSkip) (mSeq (mSet 3 (mTup (mCons (mC (.str "dice")) (mCons (mC (.int 1)) (mCons (mC (.int 2)) mNil))))) (mSeq (mIfS (mTest (mOp gNe (mCall c_shares (mCons (mTup (mCons (mC (.str "beats")) (mCons (mVar 3) (mCons (mVar 3) mNil)))) mNil)) (mTup (mCons (mTup (mCons (mC (.int 0)) (mCons (mTup (mCons (mC (.int 3)) (mCons (mC (.int 4)) mNil))) mNil))) (mCons (mTup (mCons (mC (.int 1)) (mCons (mTup (mCons (mC (.int 1)) (mCons (mC (.int 4)) mNil))) mNil))) mNil))))) (mRet (mC (.bl false))) mSkip) (mSeq (mIfS (mTest (mOp gNe (mCall c_shares (mCons (mTup (mCons (mC (.str "less")) (mCons (mVar 3) (mCons (mVar 3) mNil)))) mNil)) (mTup (mCons (mTup (mCons (mUn gNeg (mC (.int 1))) (mCons (mTup (mCons (mC (.int 1)) (mCons (mC (.int 4)) mNil))) mNil))) (mCons (mTup (mCons (mC (.int 0)) (mCons (mTup (mCons (mC (.int 1)) (mCons (mC (.int 2)) mNil))) mNil))) (mCons (mTup (mCons (mC (.int 1)) (mCons (mTup (mCons (mC (.int 1)) (mCons (mC (.int 4)) mNil))) mNil))) mNil)))))) (mRet (mC (.bl false))) mSkip) (mRet (mAnd (mOp gEq (mCall c_shares (mCons (mTup (mCons (mC (.str "times")) (mCons (mC (.int 3)) (mCons (mVar 3) mNil)))) mNil)) (mTup (mCons (mTup (mCons (mC (.int 3)) (mCons (mTup (mCons (mC (.int 1)) (mCons (mC (.int 2)) mNil))) mNil))) (mCons (mTup (mCons (mC (.int 6)) (mCons (mTup (mCons (mC (.int 1)) (mCons (mC (.int 2)) mNil))) mNil))) mNil)))) (mOp gEq (mCall c_shares (mCons (mTup (mCons (mC (.str "times")) (mCons (mC (.int 0)) (mCons (mVar 3) mNil)))) mNil)) (mTup (mCons (mTup (mCons (mC (.int 0)) (mCons (mTup (mCons (mC (.int 1)) (mCons (mC (.int 1)) mNil))) mNil))) mNil)))))))))))))))))
end Ml
namespace L03
open PySem L2 Ml
inductive Fn where
  | divisor | fraction | sum_of | product | added | put_together | of_two | one_die | kept_shares | book_of | shares | f_law_cell | f_law_mix | law
def tbl (C : Fn → Fm) : Fn → Fm
  | .divisor => fnM 2 2 (m_divisor )
  | .fraction => fnM 2 3 (m_fraction (C .divisor))
  | .sum_of => fnM 2 2 (m_sum_of (C .fraction))
  | .product => fnM 2 2 (m_product (C .fraction))
  | .added => fnM 3 3 (m_added (C .sum_of))
  | .put_together => fnM 3 6 (m_put_together (C .added) (C .of_two) (C .product))
  | .of_two => fnM 3 3 (m_of_two )
  | .one_die => fnM 3 7 (m_one_die (C .added) (C .one_die) (C .product))
  | .kept_shares => fnM 4 11 (m_kept_shares (C .added) (C .product))
  | .book_of => fnM 1 7 (m_book_of (C .added) (C .book_of) (C .kept_shares) (C .one_die) (C .put_together))
  | .shares => fnM 1 3 (m_shares (C .book_of))
  | .f_law_cell => fnM 2 2 (m_f_law_cell )
  | .f_law_mix => fnM 3 4 (m_f_law_mix )
  | .law => fnM 1 6 (m_law (C .f_law_cell) (C .f_law_mix) (C .shares))
def callN : Nat → Fn → Fm
  | 0 => fun _ _ _ => .bad
  | n + 1 => tbl (callN n)
def ar : Fn → Nat
  | .divisor => 2
  | .fraction => 2
  | .sum_of => 2
  | .product => 2
  | .added => 3
  | .put_together => 3
  | .of_two => 3
  | .one_die => 3
  | .kept_shares => 4
  | .book_of => 1
  | .shares => 1
  | .f_law_cell => 2
  | .f_law_mix => 3
  | .law => 1
theorem callN_len : ∀ (n : Nat) (f : Fn) (ds : List D) (st : Sto) (d : D) (st' : Sto), callN n f ds st = .ok d st' → ds.length = ar f
  | 0, _, _, _, _, _, h => by cases h
  | n + 1, f, ds, st, d, st', h => by cases f <;> exact fnM_len h
end L03

/-! Each def of the text does what its reading does (printed by gen.py). -/
namespace L03
open PySem L2 Ml
def top (i : Nat) : Stmt := PySem.Challenge.pw_diespeech_k03_shares_by_hand.main.body.getD i (.Pass ⟨0, 0, 0, 0⟩)
abbrev s_divisor : Stmt := top 1
abbrev s_fraction : Stmt := top 2
abbrev s_sum_of : Stmt := top 3
abbrev s_product : Stmt := top 4
abbrev s_added : Stmt := top 7
abbrev s_put_together : Stmt := top 8
abbrev s_of_two : Stmt := top 9
abbrev s_one_die : Stmt := top 10
abbrev s_kept_shares : Stmt := top 11
abbrev s_book_of : Stmt := top 12
abbrev s_shares : Stmt := top 13
abbrev s_f_law_cell : Stmt := top 15
abbrev s_f_law_mix : Stmt := top 16
abbrev s_law : Stmt := top 17
def st : Fn → Stmt
  | .divisor => s_divisor
  | .fraction => s_fraction
  | .sum_of => s_sum_of
  | .product => s_product
  | .added => s_added
  | .put_together => s_put_together
  | .of_two => s_of_two
  | .one_die => s_one_die
  | .kept_shares => s_kept_shares
  | .book_of => s_book_of
  | .shares => s_shares
  | .f_law_cell => s_f_law_cell
  | .f_law_mix => s_f_law_mix
  | .law => s_law
def nm : Fn → Str
  | .divisor => "divisor"
  | .fraction => "fraction"
  | .sum_of => "sum_of"
  | .product => "product"
  | .added => "added"
  | .put_together => "put_together"
  | .of_two => "of_two"
  | .one_die => "one_die"
  | .kept_shares => "kept_shares"
  | .book_of => "book_of"
  | .shares => "shares"
  | .f_law_cell => "_law_cell"
  | .f_law_mix => "_law_mix"
  | .law => "law"
def ps : Fn → List Str
  | .divisor => ["one", "other"]
  | .fraction => ["upper", "lower"]
  | .sum_of => ["one", "other"]
  | .product => ["one", "other"]
  | .added => ["book", "worth", "share"]
  | .put_together => ["one", "other", "word"]
  | .of_two => ["word", "mine", "yours"]
  | .one_die => ["word", "sides", "last"]
  | .kept_shares => ["word", "many", "sides", "kept"]
  | .book_of => ["saying"]
  | .shares => ["saying"]
  | .f_law_cell => ["script", "k"]
  | .f_law_mix => ["cell", "prime", "many"]
  | .law => ["script"]
/-- what the top has written -/
structure Tx (K : PySem.W.Frag) (mg : Str → Option Value) (ad : Fn → Addr) (fd : Fn → FuncData) (a_DICE : Addr) : Prop where
  f : ∀ f, Fun K (nm f) (nm f) (st f) (ad f) (fd f)
  m : ∀ f, mg (nm f) = some (.ref (ad f))
  k : ∀ f, PySem.W.keepIn K (.ref (ad f)) = true
  b : ∀ f, Binds K (fd f) (ps f) []
  b_abs : mg "abs" = none
  b_int : mg "int" = none
  b_len : mg "len" = none
  b_max : mg "max" = none
  b_min : mg "min" = none
  b_range : mg "range" = none
  b_sorted : mg "sorted" = none
  b_sum : mg "sum" = none
  b_tuple : mg "tuple" = none
  g_DICE : mg "DICE" = some (.ref a_DICE)
  r_DICE : ∀ H mu, Rp K H mu (.ref a_DICE) d_DICE
section
variable {P : Program} {w : World} {K : PySem.W.Frag} {mg : Str → Option Value} {base : Heap} {ad : Fn → Addr} {fd : Fn → FuncData} {a_DICE : Addr}
theorem sc_divisor : FnScope ["one", "other"] (ps .divisor) (defScope s_divisor) := ⟨rfl, rfl, rfl, by decide +kernel, rfl, by decide +kernel, by decide +kernel⟩
theorem ok_divisor {n : Nat} (T : Tx K mg ad fd a_DICE) (IH : ∀ g, FnOk P w K mg base CX0 n (ad g) (fd g) (ps g) (spM K (ar g) (callN n g))) : FnOk P w K mg base CX0 (n + 1) (ad .divisor) (fd .divisor) (ps .divisor) (spM K (ar .divisor) (callN (n + 1) .divisor)) :=
  have S := sc_divisor
  fn_ok (T.f .divisor) sc_divisor rfl fun cdv A outer s H E hr =>
  (mss_cons (ms_while PassesOwn.never (mt_cmp (op_neA hr.units) opS_ne (me_var (pv 1)) me_int (nomark _)) (mss_one (ms_par (i := 0) (j := 1) rfl S.nd rfl rfl (by decide) rfl rfl (ma_cons (me_var (pv 1)) (ma_cons (me_mod (me_var (pv 0)) (me_var (pv 1))) ma_nil)) (by rfl)))) (mss_one (ms_ret (me_var (pv 0)))))
theorem sc_fraction : FnScope ["upper", "lower", "by"] (ps .fraction) (defScope s_fraction) := ⟨rfl, rfl, rfl, by decide +kernel, rfl, by decide +kernel, by decide +kernel⟩
theorem ok_fraction {n : Nat} (T : Tx K mg ad fd a_DICE) (IH : ∀ g, FnOk P w K mg base CX0 n (ad g) (fd g) (ps g) (spM K (ar g) (callN n g))) : FnOk P w K mg base CX0 (n + 1) (ad .fraction) (fd .fraction) (ps .fraction) (spM K (ar .fraction) (callN (n + 1) .fraction)) :=
  have S := sc_fraction
  fn_ok (T.f .fraction) sc_fraction rfl fun cdv A outer s H E hr =>
  (mss_cons (ms_set (i := 2) S.nd rfl (by first | exact Or.inl rfl | exact Or.inr rfl) (me_call (callN_len _ _) (IH .divisor) hr rfl (T.m .divisor) (T.k .divisor) (T.b .divisor) (ma_cons (me_callB call_abs callS_abs rfl T.b_abs bt_abs (ma_cons (me_var (pv 0)) ma_nil)) (ma_cons (me_var (pv 1)) ma_nil)))) (mss_one (ms_ret (me_tup (ma_cons (me_div (me_var (pv 0)) (me_var (pv 2))) (ma_cons (me_div (me_var (pv 1)) (me_var (pv 2))) ma_nil))))))
theorem sc_sum_of : FnScope ["one", "other"] (ps .sum_of) (defScope s_sum_of) := ⟨rfl, rfl, rfl, by decide +kernel, rfl, by decide +kernel, by decide +kernel⟩
theorem ok_sum_of {n : Nat} (T : Tx K mg ad fd a_DICE) (IH : ∀ g, FnOk P w K mg base CX0 n (ad g) (fd g) (ps g) (spM K (ar g) (callN n g))) : FnOk P w K mg base CX0 (n + 1) (ad .sum_of) (fd .sum_of) (ps .sum_of) (spM K (ar .sum_of) (callN (n + 1) .sum_of)) :=
  have S := sc_sum_of
  fn_ok (T.f .sum_of) sc_sum_of rfl fun cdv A outer s H E hr =>
  (mss_one (ms_ret (me_call (callN_len _ _) (IH .fraction) hr rfl (T.m .fraction) (T.k .fraction) (T.b .fraction) (ma_cons (me_add (me_mul (me_item (me_var (pv 0)) me_int) (me_item (me_var (pv 1)) me_int)) (me_mul (me_item (me_var (pv 1)) me_int) (me_item (me_var (pv 0)) me_int))) (ma_cons (me_mul (me_item (me_var (pv 0)) me_int) (me_item (me_var (pv 1)) me_int)) ma_nil)))))
theorem sc_product : FnScope ["one", "other"] (ps .product) (defScope s_product) := ⟨rfl, rfl, rfl, by decide +kernel, rfl, by decide +kernel, by decide +kernel⟩
theorem ok_product {n : Nat} (T : Tx K mg ad fd a_DICE) (IH : ∀ g, FnOk P w K mg base CX0 n (ad g) (fd g) (ps g) (spM K (ar g) (callN n g))) : FnOk P w K mg base CX0 (n + 1) (ad .product) (fd .product) (ps .product) (spM K (ar .product) (callN (n + 1) .product)) :=
  have S := sc_product
  fn_ok (T.f .product) sc_product rfl fun cdv A outer s H E hr =>
  (mss_one (ms_ret (me_call (callN_len _ _) (IH .fraction) hr rfl (T.m .fraction) (T.k .fraction) (T.b .fraction) (ma_cons (me_mul (me_item (me_var (pv 0)) me_int) (me_item (me_var (pv 1)) me_int)) (ma_cons (me_mul (me_item (me_var (pv 0)) me_int) (me_item (me_var (pv 1)) me_int)) ma_nil)))))
theorem sc_added : FnScope ["book", "worth", "share"] (ps .added) (defScope s_added) := ⟨rfl, rfl, rfl, by decide +kernel, rfl, by decide +kernel, by decide +kernel⟩
theorem ok_added {n : Nat} (T : Tx K mg ad fd a_DICE) (IH : ∀ g, FnOk P w K mg base CX0 n (ad g) (fd g) (ps g) (spM K (ar g) (callN n g))) : FnOk P w K mg base CX0 (n + 1) (ad .added) (fd .added) (ps .added) (spM K (ar .added) (callN (n + 1) .added)) :=
  have S := sc_added
  fn_ok (T.f .added) sc_added rfl fun cdv A outer s H E hr =>
  (mss_one (ms_dput (hu_of hr) (me_var (pv 0)) (me_var (pv 1)) (me_call (callN_len _ _) (IH .sum_of) hr rfl (T.m .sum_of) (T.k .sum_of) (T.b .sum_of) (ma_cons (me_dget (hu_of hr) (me_var (pv 0)) (me_var (pv 1)) (me_tup (ma_cons me_int (ma_cons me_int ma_nil)))) (ma_cons (me_var (pv 2)) ma_nil)))))
theorem sc_put_together : FnScope ["one", "other", "word", "found", "mine", "yours"] (ps .put_together) (defScope s_put_together) := ⟨rfl, rfl, rfl, by decide +kernel, rfl, by decide +kernel, by decide +kernel⟩
theorem ok_put_together {n : Nat} (T : Tx K mg ad fd a_DICE) (IH : ∀ g, FnOk P w K mg base CX0 n (ad g) (fd g) (ps g) (spM K (ar g) (callN n g))) : FnOk P w K mg base CX0 (n + 1) (ad .put_together) (fd .put_together) (ps .put_together) (spM K (ar .put_together) (callN (n + 1) .put_together)) :=
  have S := sc_put_together
  fn_ok (T.f .put_together) sc_put_together rfl fun cdv A outer s H E hr =>
  (mss_cons (ms_set (i := 3) S.nd rfl (by first | exact Or.inl rfl | exact Or.inr rfl) (me_keepD md_newK)) (mss_cons (ms_lock (ma := (mVar 0)) (ms_for PassesOwn.never rfl (mi_dK (me_var (pv 0))) (mg_name (i := 4) S.nd rfl (by first | exact Or.inl rfl | exact Or.inr rfl)) (mss_one (ms_lock (ma := (mVar 1)) (ms_for PassesOwn.never rfl (mi_dK (me_var (pv 1))) (mg_name (i := 5) S.nd rfl (by first | exact Or.inl rfl | exact Or.inr rfl)) (mss_one (ms_expr (me_call (callN_len _ _) (IH .added) hr rfl (T.m .added) (T.k .added) (T.b .added) (ma_cons (me_var (pv 3)) (ma_cons (me_call (callN_len _ _) (IH .of_two) hr rfl (T.m .of_two) (T.k .of_two) (T.b .of_two) (ma_cons (me_var (pv 2)) (ma_cons (me_var (pv 4)) (ma_cons (me_var (pv 5)) ma_nil)))) (ma_cons (me_call (callN_len _ _) (IH .product) hr rfl (T.m .product) (T.k .product) (T.b .product) (ma_cons (me_dat (hu_of hr) (me_var (pv 0)) (me_var (pv 4))) (ma_cons (me_dat (hu_of hr) (me_var (pv 1)) (me_var (pv 5))) ma_nil))) ma_nil))))))))))) (mss_one (ms_ret (me_var (pv 3))))))
theorem sc_of_two : FnScope ["word", "mine", "yours"] (ps .of_two) (defScope s_of_two) := ⟨rfl, rfl, rfl, by decide +kernel, rfl, by decide +kernel, by decide +kernel⟩
theorem ok_of_two {n : Nat} (T : Tx K mg ad fd a_DICE) (IH : ∀ g, FnOk P w K mg base CX0 n (ad g) (fd g) (ps g) (spM K (ar g) (callN n g))) : FnOk P w K mg base CX0 (n + 1) (ad .of_two) (fd .of_two) (ps .of_two) (spM K (ar .of_two) (callN (n + 1) .of_two)) :=
  have S := sc_of_two
  fn_ok (T.f .of_two) sc_of_two rfl fun cdv A outer s H E hr =>
  (mss_cons (ms_if (mt_cmp (op_eqA hr.units) opS_eq (me_var (pv 0)) me_str (nomark _)) (mss_one (ms_ret (me_add (me_var (pv 1)) (me_var (pv 2))))) mss_nil) (mss_cons (ms_if (mt_cmp (op_eqA hr.units) opS_eq (me_var (pv 0)) me_str (nomark _)) (mss_one (ms_ret (me_sub (me_var (pv 1)) (me_var (pv 2))))) mss_nil) (mss_cons (ms_if (mt_cmp (op_eqA hr.units) opS_eq (me_var (pv 0)) me_str (nomark _)) (mss_one (ms_ret (me_callB (call_max2 rfl) callS_max rfl T.b_max bt_max (ma_cons (me_var (pv 1)) (ma_cons (me_var (pv 2)) ma_nil))))) mss_nil) (mss_cons (ms_if (mt_cmp (op_eqA hr.units) opS_eq (me_var (pv 0)) me_str (nomark _)) (mss_one (ms_ret (me_callB (call_min2 rfl) callS_min rfl T.b_min bt_min (ma_cons (me_var (pv 1)) (ma_cons (me_var (pv 2)) ma_nil))))) mss_nil) (mss_one (ms_ret (me_callTy call_int1 callS_int rfl T.b_int bt_int (ma_cons (me_cmp op_gt opS_gt (me_var (pv 1)) (me_var (pv 2)) (nomark _)) ma_nil))))))))
theorem sc_one_die : FnScope ["word", "sides", "last", "found", "face", "more", "worth"] (ps .one_die) (defScope s_one_die) := ⟨rfl, rfl, rfl, by decide +kernel, rfl, by decide +kernel, by decide +kernel⟩
theorem ok_one_die {n : Nat} (T : Tx K mg ad fd a_DICE) (IH : ∀ g, FnOk P w K mg base CX0 n (ad g) (fd g) (ps g) (spM K (ar g) (callN n g))) : FnOk P w K mg base CX0 (n + 1) (ad .one_die) (fd .one_die) (ps .one_die) (spM K (ar .one_die) (callN (n + 1) .one_die)) :=
  have S := sc_one_die
  fn_ok (T.f .one_die) sc_one_die rfl fun cdv A outer s H E hr =>
  (mss_cons (ms_set (i := 3) S.nd rfl (by first | exact Or.inl rfl | exact Or.inr rfl) (me_keepD md_newK)) (mss_cons (ms_for PassesOwn.never rfl (mi_rng2 rfl T.b_range (ma_cons me_int (ma_cons (me_add (me_var (pv 1)) me_int) ma_nil))) (mg_name (i := 4) S.nd rfl (by first | exact Or.inl rfl | exact Or.inr rfl)) (mss_one (ms_if (mt_cmp (op_eqA hr.units) opS_eq (me_var (pv 0)) me_str (nomark _)) (mss_one (ms_expr (me_call (callN_len _ _) (IH .added) hr rfl (T.m .added) (T.k .added) (T.b .added) (ma_cons (me_var (pv 3)) (ma_cons (me_callTy call_int1 callS_int rfl T.b_int bt_int (ma_cons (me_cmp op_ge opS_ge (me_var (pv 4)) (me_var (pv 2)) (nomark _)) ma_nil)) (ma_cons (me_tup (ma_cons me_int (ma_cons (me_var (pv 1)) ma_nil))) ma_nil)))))) (mss_one (ms_if (mt_w (mw_or (mt_w (mw_and (mt_cmp (op_eqA hr.units) opS_eq (me_var (pv 0)) me_str (nomark _)) (mw_and1 (mt_cmp op_le opS_le (me_var (pv 4)) (me_var (pv 2)) (nomark _))))) (mw_or1 (mt_w (mw_and (mt_cmp (op_eqA hr.units) opS_eq (me_var (pv 0)) me_str (nomark _)) (mw_and (mt_cmp (op_eqA hr.units) opS_eq (me_var (pv 4)) (me_var (pv 1)) (nomark _)) (mw_and1 (mt_cmp op_gt opS_gt (me_var (pv 2)) me_int (nomark _))))))))) (mss_cons (ms_set (i := 5) S.nd rfl (by first | exact Or.inl rfl | exact Or.inr rfl) (me_call (callN_len _ _) (IH .one_die) hr rfl (T.m .one_die) (T.k .one_die) (T.b .one_die) (ma_cons (me_item (me_tup (ma_cons me_str (ma_cons me_str ma_nil))) (me_callTy call_int1 callS_int rfl T.b_int bt_int (ma_cons (me_cmp (op_eqA hr.units) opS_eq (me_var (pv 0)) me_str (nomark _)) ma_nil))) (ma_cons (me_var (pv 1)) (ma_cons (me_sub (me_var (pv 2)) me_int) ma_nil))))) (mss_one (ms_lock (ma := (mVar 5)) (ms_for PassesOwn.never rfl (mi_dK (me_var (pv 5))) (mg_name (i := 6) S.nd rfl (by first | exact Or.inl rfl | exact Or.inr rfl)) (mss_one (ms_expr (me_call (callN_len _ _) (IH .added) hr rfl (T.m .added) (T.k .added) (T.b .added) (ma_cons (me_var (pv 3)) (ma_cons (me_add (me_var (pv 6)) (me_mul (me_var (pv 4)) (me_callTy call_int1 callS_int rfl T.b_int bt_int (ma_cons (me_cmp (op_eqA hr.units) opS_eq (me_var (pv 0)) me_str (nomark _)) ma_nil)))) (ma_cons (me_call (callN_len _ _) (IH .product) hr rfl (T.m .product) (T.k .product) (T.b .product) (ma_cons (me_dat (hu_of hr) (me_var (pv 5)) (me_var (pv 6))) (ma_cons (me_tup (ma_cons me_int (ma_cons (me_var (pv 1)) ma_nil))) ma_nil))) ma_nil)))))))))) (mss_one (ms_expr (me_call (callN_len _ _) (IH .added) hr rfl (T.m .added) (T.k .added) (T.b .added) (ma_cons (me_var (pv 3)) (ma_cons (me_var (pv 4)) (ma_cons (me_tup (ma_cons me_int (ma_cons (me_var (pv 1)) ma_nil))) ma_nil))))))))))) (mss_one (ms_ret (me_var (pv 3))))))
theorem sc_kept_shares : FnScope ["word", "many", "sides", "kept", "rows", "turn", "longer", "row", "face", "found", "some"] (ps .kept_shares) (defScope s_kept_shares) := ⟨rfl, rfl, rfl, by decide +kernel, rfl, by decide +kernel, by decide +kernel⟩
theorem ok_kept_shares {n : Nat} (T : Tx K mg ad fd a_DICE) (IH : ∀ g, FnOk P w K mg base CX0 n (ad g) (fd g) (ps g) (spM K (ar g) (callN n g))) : FnOk P w K mg base CX0 (n + 1) (ad .kept_shares) (fd .kept_shares) (ps .kept_shares) (spM K (ar .kept_shares) (callN (n + 1) .kept_shares)) :=
  have S := sc_kept_shares
  fn_ok (T.f .kept_shares) sc_kept_shares rfl fun cdv A outer s H E hr =>
  (mss_cons (ms_set (i := 4) S.nd rfl (by first | exact Or.inl rfl | exact Or.inr rfl) (me_keepT (md_disp1T (hu_of hr) (me_tup ma_nil) (me_tup (ma_cons me_int (ma_cons me_int ma_nil)))))) (mss_cons (ms_for PassesOwn.never rfl (mi_rng1 rfl T.b_range (ma_cons (me_var (pv 1)) ma_nil)) (mg_name (i := 5) S.nd rfl (by first | exact Or.inl rfl | exact Or.inr rfl)) (mss_cons (ms_set (i := 6) S.nd rfl (by first | exact Or.inl rfl | exact Or.inr rfl) (me_keepT md_newT)) (mss_cons (ms_lock (ma := (mVar 4)) (ms_for PassesOwn.never rfl (mi_dT (me_var (pv 4))) (mg_name (i := 7) S.nd rfl (by first | exact Or.inl rfl | exact Or.inr rfl)) (mss_one (ms_for PassesOwn.never rfl (mi_rng2 rfl T.b_range (ma_cons me_int (ma_cons (me_add (me_var (pv 2)) me_int) ma_nil))) (mg_name (i := 8) S.nd rfl (by first | exact Or.inl rfl | exact Or.inr rfl)) (mss_one (ms_expr (me_call (callN_len _ _) (IH .added) hr rfl (T.m .added) (T.k .added) (T.b .added) (ma_cons (me_var (pv 6)) (ma_cons (mq_callTy call_tuple_of qs_tup rfl T.b_tuple bt_tuple (mq_new (ml_sortedT rfl T.b_sorted (me_add (me_var (pv 7)) (me_tup (ma_cons (me_var (pv 8)) ma_nil)))))) (ma_cons (me_call (callN_len _ _) (IH .product) hr rfl (T.m .product) (T.k .product) (T.b .product) (ma_cons (me_dat (hu_of hr) (me_var (pv 4)) (me_var (pv 7))) (ma_cons (me_tup (ma_cons me_int (ma_cons (me_var (pv 2)) ma_nil))) ma_nil))) ma_nil)))))))))) (mss_one (ms_set (i := 4) S.nd rfl (by first | exact Or.inl rfl | exact Or.inr rfl) (me_var (pv 6))))))) (mss_cons (ms_set (i := 9) S.nd rfl (by first | exact Or.inl rfl | exact Or.inr rfl) (me_keepD md_newK)) (mss_cons (ms_lock (ma := (mVar 4)) (ms_for PassesOwn.never rfl (mi_dT (me_var (pv 4))) (mg_name (i := 7) S.nd rfl (by first | exact Or.inl rfl | exact Or.inr rfl)) (mss_cons (ms_set (i := 10) S.nd rfl (by first | exact Or.inl rfl | exact Or.inr rfl) (me_slice (me_var (pv 7)) mo_none (mo_some (me_var (pv 3))))) (mss_cons (ms_if (mt_cmp (op_eqA hr.units) opS_eq (me_var (pv 0)) me_str (nomark _)) (mss_one (ms_set (i := 10) S.nd rfl (by first | exact Or.inl rfl | exact Or.inr rfl) (me_slice (me_var (pv 7)) (mo_some (me_sub (me_var (pv 1)) (me_var (pv 3)))) mo_none))) mss_nil) (mss_one (ms_expr (me_call (callN_len _ _) (IH .added) hr rfl (T.m .added) (T.k .added) (T.b .added) (ma_cons (me_var (pv 9)) (ma_cons (me_sumT rfl T.b_sum rfl (me_var (pv 10))) (ma_cons (me_dat (hu_of hr) (me_var (pv 4)) (me_var (pv 7))) ma_nil)))))))))) (mss_one (ms_ret (me_var (pv 9))))))))
theorem sc_book_of : FnScope ["saying", "word", "die", "found", "turn", "book", "worth"] (ps .book_of) (defScope s_book_of) := ⟨rfl, rfl, rfl, by decide +kernel, rfl, by decide +kernel, by decide +kernel⟩
theorem ok_book_of {n : Nat} (T : Tx K mg ad fd a_DICE) (IH : ∀ g, FnOk P w K mg base CX0 n (ad g) (fd g) (ps g) (spM K (ar g) (callN n g))) : FnOk P w K mg base CX0 (n + 1) (ad .book_of) (fd .book_of) (ps .book_of) (spM K (ar .book_of) (callN (n + 1) .book_of)) :=
  have S := sc_book_of
  fn_ok (T.f .book_of) sc_book_of rfl fun cdv A outer s H E hr =>
  (mss_cons (ms_set (i := 1) S.nd rfl (by first | exact Or.inl rfl | exact Or.inr rfl) (me_item (me_var (pv 0)) me_int)) (mss_cons (ms_if (mt_cmp (op_eqA hr.units) opS_eq (me_var (pv 1)) me_str (nomark _)) (mss_one (ms_ret (me_keepD (md_disp (mps_cons (me_item (me_var (pv 0)) me_int) (me_tup (ma_cons me_int (ma_cons me_int ma_nil))) mps_nil))))) mss_nil) (mss_cons (ms_if (mt_cmp op_in_seq opS_in (me_var (pv 1)) (me_tup (ma_cons me_str (ma_cons me_str ma_nil))) (by rfl)) (mss_one (ms_ret (me_call (callN_len _ _) (IH .kept_shares) hr rfl (T.m .kept_shares) (T.k .kept_shares) (T.b .kept_shares) (ma_cons (me_var (pv 1)) (ma_cons (me_item (me_var (pv 0)) me_int) (ma_cons (me_item (me_var (pv 0)) me_int) (ma_cons (me_item (me_var (pv 0)) me_int) ma_nil))))))) mss_nil) (mss_cons (ms_if (mt_cmp op_in_seq opS_in (me_var (pv 1)) (me_glob (pe_glob (v := .ref a_DICE) rfl T.g_DICE rfl) T.r_DICE) (by rfl)) (mss_cons (ms_set (i := 2) S.nd rfl (by first | exact Or.inl rfl | exact Or.inr rfl) (me_call (callN_len _ _) (IH .one_die) hr rfl (T.m .one_die) (T.k .one_die) (T.b .one_die) (ma_cons (me_var (pv 1)) (ma_cons (me_item (me_var (pv 0)) me_int) (ma_cons (me_item (me_add (me_var (pv 0)) (me_tup (ma_cons me_int ma_nil))) me_int) ma_nil))))) (mss_cons (ms_set (i := 3) S.nd rfl (by first | exact Or.inl rfl | exact Or.inr rfl) (me_keepD (md_disp (mps_cons me_int (me_tup (ma_cons me_int (ma_cons me_int ma_nil))) mps_nil)))) (mss_cons (ms_for PassesOwn.never rfl (mi_rng1 rfl T.b_range (ma_cons (me_item (me_var (pv 0)) me_int) ma_nil)) (mg_name (i := 4) S.nd rfl (by first | exact Or.inl rfl | exact Or.inr rfl)) (mss_one (ms_set (i := 3) S.nd rfl (by first | exact Or.inl rfl | exact Or.inr rfl) (me_call (callN_len _ _) (IH .put_together) hr rfl (T.m .put_together) (T.k .put_together) (T.b .put_together) (ma_cons (me_var (pv 3)) (ma_cons (me_var (pv 2)) (ma_cons me_str ma_nil))))))) (mss_one (ms_ret (me_var (pv 3))))))) mss_nil) (mss_cons (ms_if (mt_cmp (op_eqA hr.units) opS_eq (me_var (pv 1)) me_str (nomark _)) (mss_cons (ms_set (i := 3) S.nd rfl (by first | exact Or.inl rfl | exact Or.inr rfl) (me_keepD md_newK)) (mss_cons (ms_set (i := 5) S.nd rfl (by first | exact Or.inl rfl | exact Or.inr rfl) (me_call (callN_len _ _) (IH .book_of) hr rfl (T.m .book_of) (T.k .book_of) (T.b .book_of) (ma_cons (me_item (me_var (pv 0)) me_int) ma_nil))) (mss_cons (ms_lock (ma := (mVar 5)) (ms_for PassesOwn.never rfl (mi_dK (me_var (pv 5))) (mg_name (i := 6) S.nd rfl (by first | exact Or.inl rfl | exact Or.inr rfl)) (mss_one (ms_expr (me_call (callN_len _ _) (IH .added) hr rfl (T.m .added) (T.k .added) (T.b .added) (ma_cons (me_var (pv 3)) (ma_cons (me_mul (me_var (pv 6)) (me_item (me_var (pv 0)) me_int)) (ma_cons (me_dat (hu_of hr) (me_var (pv 5)) (me_var (pv 6))) ma_nil)))))))) (mss_one (ms_ret (me_var (pv 3))))))) mss_nil) (mss_one (ms_ret (me_call (callN_len _ _) (IH .put_together) hr rfl (T.m .put_together) (T.k .put_together) (T.b .put_together) (ma_cons (me_call (callN_len _ _) (IH .book_of) hr rfl (T.m .book_of) (T.k .book_of) (T.b .book_of) (ma_cons (me_item (me_var (pv 0)) me_int) ma_nil)) (ma_cons (me_call (callN_len _ _) (IH .book_of) hr rfl (T.m .book_of) (T.k .book_of) (T.b .book_of) (ma_cons (me_item (me_var (pv 0)) me_int) ma_nil)) (ma_cons (me_var (pv 1)) ma_nil)))))))))))
theorem sc_shares : FnScope ["saying", "book", "worth"] (ps .shares) (defScope s_shares) := ⟨rfl, rfl, rfl, by decide +kernel, rfl, by decide +kernel, by decide +kernel⟩
theorem ok_shares {n : Nat} (T : Tx K mg ad fd a_DICE) (IH : ∀ g, FnOk P w K mg base CX0 n (ad g) (fd g) (ps g) (spM K (ar g) (callN n g))) : FnOk P w K mg base CX0 (n + 1) (ad .shares) (fd .shares) (ps .shares) (spM K (ar .shares) (callN (n + 1) .shares)) :=
  have S := sc_shares
  fn_ok (T.f .shares) sc_shares rfl fun cdv A outer s H E hr =>
  (mss_cons (ms_set (i := 1) S.nd rfl (by first | exact Or.inl rfl | exact Or.inr rfl) (me_call (callN_len _ _) (IH .book_of) hr rfl (T.m .book_of) (T.k .book_of) (T.b .book_of) (ma_cons (me_var (pv 0)) ma_nil))) (mss_one (ms_ret (mq_callTy call_tuple_of qs_tup rfl T.b_tuple bt_tuple (mq_new (ml_lc rfl S.nd (own := [("worth", 2)]) (mi_new (ml_sortedD rfl T.b_sorted rfl (me_var (pv 1)))) (blkOk_by (own := [("worth", 2)]) (N := ["saying", "book", "worth"]) (sc := defScope s_shares) (by decide +kernel)) (by decide) (fun _ _ _ _ _ => (mg_name (i := 2) S.nd rfl (by first | exact Or.inl rfl | exact Or.inr rfl))) (fun _ _ _ _ _ => mts_nil) (fun _ _ _ _ _ => (me_tup (ma_cons (me_var (pv 2)) (ma_cons (me_dat (hu_of hr) (me_var (pv 1)) (me_var (pv 2))) ma_nil))))))))))
theorem sc_f_law_cell : FnScope ["script", "k"] (ps .f_law_cell) (defScope s_f_law_cell) := ⟨rfl, rfl, rfl, by decide +kernel, rfl, by decide +kernel, by decide +kernel⟩
theorem ok_f_law_cell {n : Nat} (T : Tx K mg ad fd a_DICE) (IH : ∀ g, FnOk P w K mg base CX0 n (ad g) (fd g) (ps g) (spM K (ar g) (callN n g))) : FnOk P w K mg base CX0 (n + 1) (ad .f_law_cell) (fd .f_law_cell) (ps .f_law_cell) (spM K (ar .f_law_cell) (callN (n + 1) .f_law_cell)) :=
  have S := sc_f_law_cell
  fn_ok (T.f .f_law_cell) sc_f_law_cell rfl fun cdv A outer s H E hr =>
  (mss_cons (ms_if (mt_cmp op_lt opS_lt (me_var (pv 1)) (me_callB call_len callS_len rfl T.b_len bt_len (ma_cons (me_var (pv 0)) ma_nil)) (nomark _)) (mss_one (ms_ret (me_item (me_var (pv 0)) (me_var (pv 1))))) mss_nil) (mss_one (ms_ret me_int)))
theorem sc_f_law_mix : FnScope ["cell", "prime", "many", "blend"] (ps .f_law_mix) (defScope s_f_law_mix) := ⟨rfl, rfl, rfl, by decide +kernel, rfl, by decide +kernel, by decide +kernel⟩
theorem ok_f_law_mix {n : Nat} (T : Tx K mg ad fd a_DICE) (IH : ∀ g, FnOk P w K mg base CX0 n (ad g) (fd g) (ps g) (spM K (ar g) (callN n g))) : FnOk P w K mg base CX0 (n + 1) (ad .f_law_mix) (fd .f_law_mix) (ps .f_law_mix) (spM K (ar .f_law_mix) (callN (n + 1) .f_law_mix)) :=
  have S := sc_f_law_mix
  fn_ok (T.f .f_law_mix) sc_f_law_mix rfl fun cdv A outer s H E hr =>
  (mss_cons (ms_set (i := 3) S.nd rfl (by first | exact Or.inl rfl | exact Or.inr rfl) (me_mod (me_mul (me_var (pv 0)) me_int) (me_var (pv 1)))) (mss_one (ms_ret (me_mod (me_mod (me_mul (me_var (pv 3)) (me_add (me_var (pv 3)) me_int)) (me_var (pv 1))) (me_var (pv 2))))))
theorem sc_law : FnScope ["script", "sides", "flat", "die", "face", "one"] (ps .law) (defScope s_law) := ⟨rfl, rfl, rfl, by decide +kernel, rfl, by decide +kernel, by decide +kernel⟩
theorem ok_law {n : Nat} (T : Tx K mg ad fd a_DICE) (IH : ∀ g, FnOk P w K mg base CX0 n (ad g) (fd g) (ps g) (spM K (ar g) (callN n g))) : FnOk P w K mg base CX0 (n + 1) (ad .law) (fd .law) (ps .law) (spM K (ar .law) (callN (n + 1) .law)) :=
  have S := sc_law
  fn_ok (T.f .law) sc_law rfl fun cdv A outer s H E hr =>
  (mss_cons (ms_set (i := 1) S.nd rfl (by first | exact Or.inl rfl | exact Or.inr rfl) (me_add me_int (me_call (callN_len _ _) (IH .f_law_mix) hr rfl (T.m .f_law_mix) (T.k .f_law_mix) (T.b .f_law_mix) (ma_cons (me_call (callN_len _ _) (IH .f_law_cell) hr rfl (T.m .f_law_cell) (T.k .f_law_cell) (T.b .f_law_cell) (ma_cons (me_var (pv 0)) (ma_cons me_int ma_nil))) (ma_cons me_int (ma_cons me_int ma_nil)))))) (mss_cons (ms_set (i := 2) S.nd rfl (by first | exact Or.inl rfl | exact Or.inr rfl) (mq_callTy call_tuple_of qs_tup rfl T.b_tuple bt_tuple (mq_new (ml_lc rfl S.nd (own := [("face", 4)]) (mi_rng2 rfl T.b_range (ma_cons me_int (ma_cons (me_add (me_var (pv 1)) me_int) ma_nil))) (blkOk_by (own := [("face", 4)]) (N := ["script", "sides", "flat", "die", "face", "one"]) (sc := defScope s_law) (by decide +kernel)) (by decide) (fun _ _ _ _ _ => (mg_name (i := 4) S.nd rfl (by first | exact Or.inl rfl | exact Or.inr rfl))) (fun _ _ _ _ _ => mts_nil) (fun _ _ _ _ _ => (me_tup (ma_cons (me_var (pv 4)) (ma_cons (me_tup (ma_cons me_int (ma_cons (me_var (pv 1)) ma_nil))) ma_nil)))))))) (mss_cons (ms_if (mt_neL hr.units (mx_new (ml_lc rfl S.nd (own := [("one", 5)]) (mi_tup (me_tup (ma_cons (me_tup (ma_cons me_str (ma_cons me_int (ma_cons (me_var (pv 1)) ma_nil)))) (ma_cons (me_tup (ma_cons me_str (ma_cons me_int (ma_cons (me_var (pv 1)) (ma_cons me_int ma_nil))))) (ma_cons (me_tup (ma_cons me_str (ma_cons me_int (ma_cons (me_var (pv 1)) (ma_cons me_int ma_nil))))) ma_nil))))) (blkOk_by (own := [("one", 5)]) (N := ["script", "sides", "flat", "die", "face", "one"]) (sc := defScope s_law) (by decide +kernel)) (by decide) (fun _ _ _ _ _ => (mg_name (i := 5) S.nd rfl (by first | exact Or.inl rfl | exact Or.inr rfl))) (fun _ _ _ _ _ => mts_nil) (fun _ _ _ _ _ => (me_call (callN_len _ _) (IH .shares) hr rfl (T.m .shares) (T.k .shares) (T.b .shares) (ma_cons (me_var (pv 5)) ma_nil))))) (mx_new (ml_rep (mx_new (ml_lst (ma_cons (me_var (pv 2)) ma_nil))) me_int))) (mss_one (ms_ret me_bl)) mss_nil) (mss_cons (ms_if (mt_cmp (op_neA hr.units) opS_ne (me_call (callN_len _ _) (IH .shares) hr rfl (T.m .shares) (T.k .shares) (T.b .shares) (ma_cons (me_tup (ma_cons me_str (ma_cons me_int (ma_cons me_int (ma_cons me_int ma_nil))))) ma_nil)) (me_tup (ma_cons (me_tup (ma_cons me_int (ma_cons (me_tup (ma_cons me_int (ma_cons me_int ma_nil))) ma_nil))) (ma_cons (me_tup (ma_cons me_int (ma_cons (me_tup (ma_cons me_int (ma_cons me_int ma_nil))) ma_nil))) ma_nil))) (nomark _)) (mss_one (ms_ret me_bl)) mss_nil) (mss_cons (ms_if (mt_cmp (op_neA hr.units) opS_ne (me_call (callN_len _ _) (IH .shares) hr rfl (T.m .shares) (T.k .shares) (T.b .shares) (ma_cons (me_tup (ma_cons me_str (ma_cons me_int (ma_cons me_int (ma_cons me_int ma_nil))))) ma_nil)) (me_tup (ma_cons (me_tup (ma_cons me_int (ma_cons (me_tup (ma_cons me_int (ma_cons me_int ma_nil))) ma_nil))) (ma_cons (me_tup (ma_cons me_int (ma_cons (me_tup (ma_cons me_int (ma_cons me_int ma_nil))) ma_nil))) ma_nil))) (nomark _)) (mss_one (ms_ret me_bl)) mss_nil) (mss_cons (ms_if (mt_cmp (op_neA hr.units) opS_ne (me_call (callN_len _ _) (IH .shares) hr rfl (T.m .shares) (T.k .shares) (T.b .shares) (ma_cons (me_tup (ma_cons me_str (ma_cons me_int (ma_cons me_int (ma_cons me_int ma_nil))))) ma_nil)) (me_tup (ma_cons (me_tup (ma_cons me_int (ma_cons (me_tup (ma_cons me_int (ma_cons me_int ma_nil))) ma_nil))) (ma_cons (me_tup (ma_cons me_int (ma_cons (me_tup (ma_cons me_int (ma_cons me_int ma_nil))) ma_nil))) ma_nil))) (nomark _)) (mss_one (ms_ret me_bl)) mss_nil) (mss_cons (ms_if (mt_cmp (op_neA hr.units) opS_ne (me_call (callN_len _ _) (IH .shares) hr rfl (T.m .shares) (T.k .shares) (T.b .shares) (ma_cons (me_tup (ma_cons me_str (ma_cons me_int (ma_cons me_int (ma_cons me_int ma_nil))))) ma_nil)) (me_tup (ma_cons (me_tup (ma_cons me_int (ma_cons (me_tup (ma_cons me_int (ma_cons me_int ma_nil))) ma_nil))) (ma_cons (me_tup (ma_cons me_int (ma_cons (me_tup (ma_cons me_int (ma_cons me_int ma_nil))) ma_nil))) (ma_cons (me_tup (ma_cons me_int (ma_cons (me_tup (ma_cons me_int (ma_cons me_int ma_nil))) ma_nil))) ma_nil)))) (nomark _)) (mss_one (ms_ret me_bl)) mss_nil) (mss_cons (ms_if (mt_cmp (op_neA hr.units) opS_ne (me_call (callN_len _ _) (IH .shares) hr rfl (T.m .shares) (T.k .shares) (T.b .shares) (ma_cons (me_tup (ma_cons me_str (ma_cons me_int (ma_cons me_int (ma_cons me_int ma_nil))))) ma_nil)) (me_tup (ma_cons (me_tup (ma_cons me_int (ma_cons (me_tup (ma_cons me_int (ma_cons me_int ma_nil))) ma_nil))) (ma_cons (me_tup (ma_cons me_int (ma_cons (me_tup (ma_cons me_int (ma_cons me_int ma_nil))) ma_nil))) (ma_cons (me_tup (ma_cons me_int (ma_cons (me_tup (ma_cons me_int (ma_cons me_int ma_nil))) ma_nil))) ma_nil)))) (nomark _)) (mss_one (ms_ret me_bl)) mss_nil) (mss_cons (ms_if (mt_cmp (op_neA hr.units) opS_ne (me_call (callN_len _ _) (IH .shares) hr rfl (T.m .shares) (T.k .shares) (T.b .shares) (ma_cons (me_tup (ma_cons me_str (ma_cons me_int (ma_cons me_int (ma_cons me_int ma_nil))))) ma_nil)) (me_tup (ma_cons (me_tup (ma_cons me_int (ma_cons (me_tup (ma_cons me_int (ma_cons me_int ma_nil))) ma_nil))) (ma_cons (me_tup (ma_cons me_int (ma_cons (me_tup (ma_cons me_int (ma_cons me_int ma_nil))) ma_nil))) (ma_cons (me_tup (ma_cons me_int (ma_cons (me_tup (ma_cons me_int (ma_cons me_int ma_nil))) ma_nil))) (ma_cons (me_tup (ma_cons me_int (ma_cons (me_tup (ma_cons me_int (ma_cons me_int ma_nil))) ma_nil))) ma_nil))))) (nomark _)) (mss_one (ms_ret me_bl)) mss_nil) (mss_cons (ms_set (i := 3) S.nd rfl (by first | exact Or.inl rfl | exact Or.inr rfl) (me_tup (ma_cons me_str (ma_cons me_int (ma_cons me_int ma_nil))))) (mss_cons (ms_if (mt_cmp (op_neA hr.units) opS_ne (me_call (callN_len _ _) (IH .shares) hr rfl (T.m .shares) (T.k .shares) (T.b .shares) (ma_cons (me_tup (ma_cons me_str (ma_cons (me_var (pv 3)) (ma_cons (me_var (pv 3)) ma_nil)))) ma_nil)) (me_tup (ma_cons (me_tup (ma_cons me_int (ma_cons (me_tup (ma_cons me_int (ma_cons me_int ma_nil))) ma_nil))) (ma_cons (me_tup (ma_cons me_int (ma_cons (me_tup (ma_cons me_int (ma_cons me_int ma_nil))) ma_nil))) ma_nil))) (nomark _)) (mss_one (ms_ret me_bl)) mss_nil) (mss_cons (ms_if (mt_cmp (op_neA hr.units) opS_ne (me_call (callN_len _ _) (IH .shares) hr rfl (T.m .shares) (T.k .shares) (T.b .shares) (ma_cons (me_tup (ma_cons me_str (ma_cons (me_var (pv 3)) (ma_cons (me_var (pv 3)) ma_nil)))) ma_nil)) (me_tup (ma_cons (me_tup (ma_cons (me_neg me_int) (ma_cons (me_tup (ma_cons me_int (ma_cons me_int ma_nil))) ma_nil))) (ma_cons (me_tup (ma_cons me_int (ma_cons (me_tup (ma_cons me_int (ma_cons me_int ma_nil))) ma_nil))) (ma_cons (me_tup (ma_cons me_int (ma_cons (me_tup (ma_cons me_int (ma_cons me_int ma_nil))) ma_nil))) ma_nil)))) (nomark _)) (mss_one (ms_ret me_bl)) mss_nil) (mss_one (ms_ret (me_and (me_cmp (op_eqA hr.units) opS_eq (me_call (callN_len _ _) (IH .shares) hr rfl (T.m .shares) (T.k .shares) (T.b .shares) (ma_cons (me_tup (ma_cons me_str (ma_cons me_int (ma_cons (me_var (pv 3)) ma_nil)))) ma_nil)) (me_tup (ma_cons (me_tup (ma_cons me_int (ma_cons (me_tup (ma_cons me_int (ma_cons me_int ma_nil))) ma_nil))) (ma_cons (me_tup (ma_cons me_int (ma_cons (me_tup (ma_cons me_int (ma_cons me_int ma_nil))) ma_nil))) ma_nil))) (nomark _)) (me_one (me_cmp (op_eqA hr.units) opS_eq (me_call (callN_len _ _) (IH .shares) hr rfl (T.m .shares) (T.k .shares) (T.b .shares) (ma_cons (me_tup (ma_cons me_str (ma_cons me_int (ma_cons (me_var (pv 3)) ma_nil)))) ma_nil)) (me_tup (ma_cons (me_tup (ma_cons me_int (ma_cons (me_tup (ma_cons me_int (ma_cons me_int ma_nil))) ma_nil))) ma_nil)) (nomark _))))))))))))))))))
theorem all_ok (T : Tx K mg ad fd a_DICE) : ∀ n f, FnOk P w K mg base CX0 n (ad f) (fd f) (ps f) (spM K (ar f) (callN n f))
  | 0, f => fn_zero
  | n + 1, f => by
    have IH := all_ok T n
    cases f
    · exact ok_divisor T IH
    · exact ok_fraction T IH
    · exact ok_sum_of T IH
    · exact ok_product T IH
    · exact ok_added T IH
    · exact ok_put_together T IH
    · exact ok_of_two T IH
    · exact ok_one_die T IH
    · exact ok_kept_shares T IH
    · exact ok_book_of T IH
    · exact ok_shares T IH
    · exact ok_f_law_cell T IH
    · exact ok_f_law_mix T IH
    · exact ok_law T IH
end
theorem all_mk {P : Program} {w : World} {K : PySem.W.Frag} {h : Heap} {mg : Str → Option Value} {fa : Addr} (lv : Nat) (X : K.In h) (G : h.Ns mainGlobals mg) (hfa : mg "law" = some (.ref fa))
    {f_divisor : Addr} {oc_divisor kV_divisor dc_divisor pm_divisor cd_divisor ct_divisor : Value} {od_divisor an_divisor : Option Addr} {sl_divisor : Array (Option Value)}
    {f_fraction : Addr} {oc_fraction kV_fraction dc_fraction pm_fraction cd_fraction ct_fraction : Value} {od_fraction an_fraction : Option Addr} {sl_fraction : Array (Option Value)}
    {f_sum_of : Addr} {oc_sum_of kV_sum_of dc_sum_of pm_sum_of cd_sum_of ct_sum_of : Value} {od_sum_of an_sum_of : Option Addr} {sl_sum_of : Array (Option Value)}
    {f_product : Addr} {oc_product kV_product dc_product pm_product cd_product ct_product : Value} {od_product an_product : Option Addr} {sl_product : Array (Option Value)}
    {f_added : Addr} {oc_added kV_added dc_added pm_added cd_added ct_added : Value} {od_added an_added : Option Addr} {sl_added : Array (Option Value)}
    {f_put_together : Addr} {oc_put_together kV_put_together dc_put_together pm_put_together cd_put_together ct_put_together : Value} {od_put_together an_put_together : Option Addr} {sl_put_together : Array (Option Value)}
    {f_of_two : Addr} {oc_of_two kV_of_two dc_of_two pm_of_two cd_of_two ct_of_two : Value} {od_of_two an_of_two : Option Addr} {sl_of_two : Array (Option Value)}
    {f_one_die : Addr} {oc_one_die kV_one_die dc_one_die pm_one_die cd_one_die ct_one_die : Value} {od_one_die an_one_die : Option Addr} {sl_one_die : Array (Option Value)}
    {f_kept_shares : Addr} {oc_kept_shares kV_kept_shares dc_kept_shares pm_kept_shares cd_kept_shares ct_kept_shares : Value} {od_kept_shares an_kept_shares : Option Addr} {sl_kept_shares : Array (Option Value)}
    {f_book_of : Addr} {oc_book_of kV_book_of dc_book_of pm_book_of cd_book_of ct_book_of : Value} {od_book_of an_book_of : Option Addr} {sl_book_of : Array (Option Value)}
    {f_shares : Addr} {oc_shares kV_shares dc_shares pm_shares cd_shares ct_shares : Value} {od_shares an_shares : Option Addr} {sl_shares : Array (Option Value)}
    {f_f_law_cell : Addr} {oc_f_law_cell kV_f_law_cell dc_f_law_cell pm_f_law_cell cd_f_law_cell ct_f_law_cell : Value} {od_f_law_cell an_f_law_cell : Option Addr} {sl_f_law_cell : Array (Option Value)}
    {f_f_law_mix : Addr} {oc_f_law_mix kV_f_law_mix dc_f_law_mix pm_f_law_mix cd_f_law_mix ct_f_law_mix : Value} {od_f_law_mix an_f_law_mix : Option Addr} {sl_f_law_mix : Array (Option Value)}
    {f_law : Addr} {oc_law kV_law dc_law pm_law cd_law ct_law : Value} {od_law an_law : Option Addr} {sl_law : Array (Option Value)}
    {a_DICE : Addr} {u0_DICE u1_DICE u2_DICE u3_DICE u4_DICE u5_DICE : Tok} {q_DICE : Option Addr} {n_DICE : Nat} {w_DICE : Array (Option Value)}
    (a_f_divisor : PySem.W.nsIn K mainGlobals "divisor" = some (some (.ref f_divisor))) (l_f_divisor : K.lookup f_divisor = some ⟨oc_divisor, od_divisor, .func (PySem.W.fnOf "divisor" "divisor" (defArgs s_divisor) (defBody s_divisor) (defScope s_divisor) .none kV_divisor dc_divisor pm_divisor an_divisor cd_divisor ct_divisor), sl_divisor⟩) (c_f_divisor : PySem.W.codeIn K cd_divisor "divisor" = true) (k_f_divisor : PySem.W.keepIn K (.ref f_divisor) = true)
    (a_f_fraction : PySem.W.nsIn K mainGlobals "fraction" = some (some (.ref f_fraction))) (l_f_fraction : K.lookup f_fraction = some ⟨oc_fraction, od_fraction, .func (PySem.W.fnOf "fraction" "fraction" (defArgs s_fraction) (defBody s_fraction) (defScope s_fraction) .none kV_fraction dc_fraction pm_fraction an_fraction cd_fraction ct_fraction), sl_fraction⟩) (c_f_fraction : PySem.W.codeIn K cd_fraction "fraction" = true) (k_f_fraction : PySem.W.keepIn K (.ref f_fraction) = true)
    (a_f_sum_of : PySem.W.nsIn K mainGlobals "sum_of" = some (some (.ref f_sum_of))) (l_f_sum_of : K.lookup f_sum_of = some ⟨oc_sum_of, od_sum_of, .func (PySem.W.fnOf "sum_of" "sum_of" (defArgs s_sum_of) (defBody s_sum_of) (defScope s_sum_of) .none kV_sum_of dc_sum_of pm_sum_of an_sum_of cd_sum_of ct_sum_of), sl_sum_of⟩) (c_f_sum_of : PySem.W.codeIn K cd_sum_of "sum_of" = true) (k_f_sum_of : PySem.W.keepIn K (.ref f_sum_of) = true)
    (a_f_product : PySem.W.nsIn K mainGlobals "product" = some (some (.ref f_product))) (l_f_product : K.lookup f_product = some ⟨oc_product, od_product, .func (PySem.W.fnOf "product" "product" (defArgs s_product) (defBody s_product) (defScope s_product) .none kV_product dc_product pm_product an_product cd_product ct_product), sl_product⟩) (c_f_product : PySem.W.codeIn K cd_product "product" = true) (k_f_product : PySem.W.keepIn K (.ref f_product) = true)
    (a_f_added : PySem.W.nsIn K mainGlobals "added" = some (some (.ref f_added))) (l_f_added : K.lookup f_added = some ⟨oc_added, od_added, .func (PySem.W.fnOf "added" "added" (defArgs s_added) (defBody s_added) (defScope s_added) .none kV_added dc_added pm_added an_added cd_added ct_added), sl_added⟩) (c_f_added : PySem.W.codeIn K cd_added "added" = true) (k_f_added : PySem.W.keepIn K (.ref f_added) = true)
    (a_f_put_together : PySem.W.nsIn K mainGlobals "put_together" = some (some (.ref f_put_together))) (l_f_put_together : K.lookup f_put_together = some ⟨oc_put_together, od_put_together, .func (PySem.W.fnOf "put_together" "put_together" (defArgs s_put_together) (defBody s_put_together) (defScope s_put_together) .none kV_put_together dc_put_together pm_put_together an_put_together cd_put_together ct_put_together), sl_put_together⟩) (c_f_put_together : PySem.W.codeIn K cd_put_together "put_together" = true) (k_f_put_together : PySem.W.keepIn K (.ref f_put_together) = true)
    (a_f_of_two : PySem.W.nsIn K mainGlobals "of_two" = some (some (.ref f_of_two))) (l_f_of_two : K.lookup f_of_two = some ⟨oc_of_two, od_of_two, .func (PySem.W.fnOf "of_two" "of_two" (defArgs s_of_two) (defBody s_of_two) (defScope s_of_two) .none kV_of_two dc_of_two pm_of_two an_of_two cd_of_two ct_of_two), sl_of_two⟩) (c_f_of_two : PySem.W.codeIn K cd_of_two "of_two" = true) (k_f_of_two : PySem.W.keepIn K (.ref f_of_two) = true)
    (a_f_one_die : PySem.W.nsIn K mainGlobals "one_die" = some (some (.ref f_one_die))) (l_f_one_die : K.lookup f_one_die = some ⟨oc_one_die, od_one_die, .func (PySem.W.fnOf "one_die" "one_die" (defArgs s_one_die) (defBody s_one_die) (defScope s_one_die) .none kV_one_die dc_one_die pm_one_die an_one_die cd_one_die ct_one_die), sl_one_die⟩) (c_f_one_die : PySem.W.codeIn K cd_one_die "one_die" = true) (k_f_one_die : PySem.W.keepIn K (.ref f_one_die) = true)
    (a_f_kept_shares : PySem.W.nsIn K mainGlobals "kept_shares" = some (some (.ref f_kept_shares))) (l_f_kept_shares : K.lookup f_kept_shares = some ⟨oc_kept_shares, od_kept_shares, .func (PySem.W.fnOf "kept_shares" "kept_shares" (defArgs s_kept_shares) (defBody s_kept_shares) (defScope s_kept_shares) .none kV_kept_shares dc_kept_shares pm_kept_shares an_kept_shares cd_kept_shares ct_kept_shares), sl_kept_shares⟩) (c_f_kept_shares : PySem.W.codeIn K cd_kept_shares "kept_shares" = true) (k_f_kept_shares : PySem.W.keepIn K (.ref f_kept_shares) = true)
    (a_f_book_of : PySem.W.nsIn K mainGlobals "book_of" = some (some (.ref f_book_of))) (l_f_book_of : K.lookup f_book_of = some ⟨oc_book_of, od_book_of, .func (PySem.W.fnOf "book_of" "book_of" (defArgs s_book_of) (defBody s_book_of) (defScope s_book_of) .none kV_book_of dc_book_of pm_book_of an_book_of cd_book_of ct_book_of), sl_book_of⟩) (c_f_book_of : PySem.W.codeIn K cd_book_of "book_of" = true) (k_f_book_of : PySem.W.keepIn K (.ref f_book_of) = true)
    (a_f_shares : PySem.W.nsIn K mainGlobals "shares" = some (some (.ref f_shares))) (l_f_shares : K.lookup f_shares = some ⟨oc_shares, od_shares, .func (PySem.W.fnOf "shares" "shares" (defArgs s_shares) (defBody s_shares) (defScope s_shares) .none kV_shares dc_shares pm_shares an_shares cd_shares ct_shares), sl_shares⟩) (c_f_shares : PySem.W.codeIn K cd_shares "shares" = true) (k_f_shares : PySem.W.keepIn K (.ref f_shares) = true)
    (a_f_f_law_cell : PySem.W.nsIn K mainGlobals "_law_cell" = some (some (.ref f_f_law_cell))) (l_f_f_law_cell : K.lookup f_f_law_cell = some ⟨oc_f_law_cell, od_f_law_cell, .func (PySem.W.fnOf "_law_cell" "_law_cell" (defArgs s_f_law_cell) (defBody s_f_law_cell) (defScope s_f_law_cell) .none kV_f_law_cell dc_f_law_cell pm_f_law_cell an_f_law_cell cd_f_law_cell ct_f_law_cell), sl_f_law_cell⟩) (c_f_f_law_cell : PySem.W.codeIn K cd_f_law_cell "_law_cell" = true) (k_f_f_law_cell : PySem.W.keepIn K (.ref f_f_law_cell) = true)
    (a_f_f_law_mix : PySem.W.nsIn K mainGlobals "_law_mix" = some (some (.ref f_f_law_mix))) (l_f_f_law_mix : K.lookup f_f_law_mix = some ⟨oc_f_law_mix, od_f_law_mix, .func (PySem.W.fnOf "_law_mix" "_law_mix" (defArgs s_f_law_mix) (defBody s_f_law_mix) (defScope s_f_law_mix) .none kV_f_law_mix dc_f_law_mix pm_f_law_mix an_f_law_mix cd_f_law_mix ct_f_law_mix), sl_f_law_mix⟩) (c_f_f_law_mix : PySem.W.codeIn K cd_f_law_mix "_law_mix" = true) (k_f_f_law_mix : PySem.W.keepIn K (.ref f_f_law_mix) = true)
    (a_f_law : PySem.W.nsIn K mainGlobals "law" = some (some (.ref f_law))) (l_f_law : K.lookup f_law = some ⟨oc_law, od_law, .func (PySem.W.fnOf "law" "law" (defArgs s_law) (defBody s_law) (defScope s_law) .none kV_law dc_law pm_law an_law cd_law ct_law), sl_law⟩) (c_f_law : PySem.W.codeIn K cd_law "law" = true) (k_f_law : PySem.W.keepIn K (.ref f_law) = true)
    (z_abs : PySem.W.nsIn K mainGlobals "abs" = some none)
    (z_int : PySem.W.nsIn K mainGlobals "int" = some none)
    (z_len : PySem.W.nsIn K mainGlobals "len" = some none)
    (z_max : PySem.W.nsIn K mainGlobals "max" = some none)
    (z_min : PySem.W.nsIn K mainGlobals "min" = some none)
    (z_range : PySem.W.nsIn K mainGlobals "range" = some none)
    (z_sorted : PySem.W.nsIn K mainGlobals "sorted" = some none)
    (z_sum : PySem.W.nsIn K mainGlobals "sum" = some none)
    (z_tuple : PySem.W.nsIn K mainGlobals "tuple" = some none)
    (g_DICE : PySem.W.nsIn K mainGlobals "DICE" = some (some (.ref a_DICE))) (l_DICE : K.lookup a_DICE = some ⟨.type "tuple", q_DICE, .seq #[(.str "dice" u0_DICE), (.str "high" u1_DICE), (.str "low" u2_DICE), (.str "again" u3_DICE), (.str "burst" u4_DICE), (.str "count" u5_DICE)] n_DICE, w_DICE⟩) :
    ∃ fd : FuncData, (∀ (s : Shared) (v : Value), BindsTo s fd ⟨[v], []⟩ [("script", v)]) ∧ ∀ base : Heap, K.In base → base.Ns mainGlobals mg → FnOk P w K mg base CX0 lv fa fd ["script"] (spM K 1 (callN lv .law)) := by
  have e := hfa.symm.trans (PySem.W.mg_of X G a_f_law)
  cases e
  have F_divisor := fun_mk (st := s_divisor) l_f_divisor c_f_divisor k_f_divisor
  have b_divisor := F_divisor.binds (ps := ps .divisor) fun _ _ _ _ _ _ us hl => match us, hl with | [_, _], _ => rfl
  have F_fraction := fun_mk (st := s_fraction) l_f_fraction c_f_fraction k_f_fraction
  have b_fraction := F_fraction.binds (ps := ps .fraction) fun _ _ _ _ _ _ us hl => match us, hl with | [_, _], _ => rfl
  have F_sum_of := fun_mk (st := s_sum_of) l_f_sum_of c_f_sum_of k_f_sum_of
  have b_sum_of := F_sum_of.binds (ps := ps .sum_of) fun _ _ _ _ _ _ us hl => match us, hl with | [_, _], _ => rfl
  have F_product := fun_mk (st := s_product) l_f_product c_f_product k_f_product
  have b_product := F_product.binds (ps := ps .product) fun _ _ _ _ _ _ us hl => match us, hl with | [_, _], _ => rfl
  have F_added := fun_mk (st := s_added) l_f_added c_f_added k_f_added
  have b_added := F_added.binds (ps := ps .added) fun _ _ _ _ _ _ us hl => match us, hl with | [_, _, _], _ => rfl
  have F_put_together := fun_mk (st := s_put_together) l_f_put_together c_f_put_together k_f_put_together
  have b_put_together := F_put_together.binds (ps := ps .put_together) fun _ _ _ _ _ _ us hl => match us, hl with | [_, _, _], _ => rfl
  have F_of_two := fun_mk (st := s_of_two) l_f_of_two c_f_of_two k_f_of_two
  have b_of_two := F_of_two.binds (ps := ps .of_two) fun _ _ _ _ _ _ us hl => match us, hl with | [_, _, _], _ => rfl
  have F_one_die := fun_mk (st := s_one_die) l_f_one_die c_f_one_die k_f_one_die
  have b_one_die := F_one_die.binds (ps := ps .one_die) fun _ _ _ _ _ _ us hl => match us, hl with | [_, _, _], _ => rfl
  have F_kept_shares := fun_mk (st := s_kept_shares) l_f_kept_shares c_f_kept_shares k_f_kept_shares
  have b_kept_shares := F_kept_shares.binds (ps := ps .kept_shares) fun _ _ _ _ _ _ us hl => match us, hl with | [_, _, _, _], _ => rfl
  have F_book_of := fun_mk (st := s_book_of) l_f_book_of c_f_book_of k_f_book_of
  have b_book_of := F_book_of.binds (ps := ps .book_of) fun _ _ _ _ _ _ us hl => match us, hl with | [_], _ => rfl
  have F_shares := fun_mk (st := s_shares) l_f_shares c_f_shares k_f_shares
  have b_shares := F_shares.binds (ps := ps .shares) fun _ _ _ _ _ _ us hl => match us, hl with | [_], _ => rfl
  have F_f_law_cell := fun_mk (st := s_f_law_cell) l_f_f_law_cell c_f_f_law_cell k_f_f_law_cell
  have b_f_law_cell := F_f_law_cell.binds (ps := ps .f_law_cell) fun _ _ _ _ _ _ us hl => match us, hl with | [_, _], _ => rfl
  have F_f_law_mix := fun_mk (st := s_f_law_mix) l_f_f_law_mix c_f_f_law_mix k_f_f_law_mix
  have b_f_law_mix := F_f_law_mix.binds (ps := ps .f_law_mix) fun _ _ _ _ _ _ us hl => match us, hl with | [_, _, _], _ => rfl
  have F_law := fun_mk (st := s_law) l_f_law c_f_law k_f_law
  have b_law := F_law.binds (ps := ps .law) fun _ _ _ _ _ _ us hl => match us, hl with | [_], _ => rfl
  let ad : Fn → Addr := fun f => match f with | .divisor => f_divisor | .fraction => f_fraction | .sum_of => f_sum_of | .product => f_product | .added => f_added | .put_together => f_put_together | .of_two => f_of_two | .one_die => f_one_die | .kept_shares => f_kept_shares | .book_of => f_book_of | .shares => f_shares | .f_law_cell => f_f_law_cell | .f_law_mix => f_f_law_mix | .law => fa
  let fd : Fn → FuncData := fun f => match f with | .divisor => PySem.W.fnOf "divisor" "divisor" (defArgs s_divisor) (defBody s_divisor) (defScope s_divisor) .none kV_divisor dc_divisor pm_divisor an_divisor cd_divisor ct_divisor | .fraction => PySem.W.fnOf "fraction" "fraction" (defArgs s_fraction) (defBody s_fraction) (defScope s_fraction) .none kV_fraction dc_fraction pm_fraction an_fraction cd_fraction ct_fraction | .sum_of => PySem.W.fnOf "sum_of" "sum_of" (defArgs s_sum_of) (defBody s_sum_of) (defScope s_sum_of) .none kV_sum_of dc_sum_of pm_sum_of an_sum_of cd_sum_of ct_sum_of | .product => PySem.W.fnOf "product" "product" (defArgs s_product) (defBody s_product) (defScope s_product) .none kV_product dc_product pm_product an_product cd_product ct_product | .added => PySem.W.fnOf "added" "added" (defArgs s_added) (defBody s_added) (defScope s_added) .none kV_added dc_added pm_added an_added cd_added ct_added | .put_together => PySem.W.fnOf "put_together" "put_together" (defArgs s_put_together) (defBody s_put_together) (defScope s_put_together) .none kV_put_together dc_put_together pm_put_together an_put_together cd_put_together ct_put_together | .of_two => PySem.W.fnOf "of_two" "of_two" (defArgs s_of_two) (defBody s_of_two) (defScope s_of_two) .none kV_of_two dc_of_two pm_of_two an_of_two cd_of_two ct_of_two | .one_die => PySem.W.fnOf "one_die" "one_die" (defArgs s_one_die) (defBody s_one_die) (defScope s_one_die) .none kV_one_die dc_one_die pm_one_die an_one_die cd_one_die ct_one_die | .kept_shares => PySem.W.fnOf "kept_shares" "kept_shares" (defArgs s_kept_shares) (defBody s_kept_shares) (defScope s_kept_shares) .none kV_kept_shares dc_kept_shares pm_kept_shares an_kept_shares cd_kept_shares ct_kept_shares | .book_of => PySem.W.fnOf "book_of" "book_of" (defArgs s_book_of) (defBody s_book_of) (defScope s_book_of) .none kV_book_of dc_book_of pm_book_of an_book_of cd_book_of ct_book_of | .shares => PySem.W.fnOf "shares" "shares" (defArgs s_shares) (defBody s_shares) (defScope s_shares) .none kV_shares dc_shares pm_shares an_shares cd_shares ct_shares | .f_law_cell => PySem.W.fnOf "_law_cell" "_law_cell" (defArgs s_f_law_cell) (defBody s_f_law_cell) (defScope s_f_law_cell) .none kV_f_law_cell dc_f_law_cell pm_f_law_cell an_f_law_cell cd_f_law_cell ct_f_law_cell | .f_law_mix => PySem.W.fnOf "_law_mix" "_law_mix" (defArgs s_f_law_mix) (defBody s_f_law_mix) (defScope s_f_law_mix) .none kV_f_law_mix dc_f_law_mix pm_f_law_mix an_f_law_mix cd_f_law_mix ct_f_law_mix | .law => PySem.W.fnOf "law" "law" (defArgs s_law) (defBody s_law) (defScope s_law) .none kV_law dc_law pm_law an_law cd_law ct_law
  have T : Tx K mg ad fd a_DICE := {
    f := fun f => by
      cases f
      · exact F_divisor
      · exact F_fraction
      · exact F_sum_of
      · exact F_product
      · exact F_added
      · exact F_put_together
      · exact F_of_two
      · exact F_one_die
      · exact F_kept_shares
      · exact F_book_of
      · exact F_shares
      · exact F_f_law_cell
      · exact F_f_law_mix
      · exact F_law
    m := fun f => by
      cases f
      · exact PySem.W.mg_of X G a_f_divisor
      · exact PySem.W.mg_of X G a_f_fraction
      · exact PySem.W.mg_of X G a_f_sum_of
      · exact PySem.W.mg_of X G a_f_product
      · exact PySem.W.mg_of X G a_f_added
      · exact PySem.W.mg_of X G a_f_put_together
      · exact PySem.W.mg_of X G a_f_of_two
      · exact PySem.W.mg_of X G a_f_one_die
      · exact PySem.W.mg_of X G a_f_kept_shares
      · exact PySem.W.mg_of X G a_f_book_of
      · exact PySem.W.mg_of X G a_f_shares
      · exact PySem.W.mg_of X G a_f_f_law_cell
      · exact PySem.W.mg_of X G a_f_f_law_mix
      · exact PySem.W.mg_of X G a_f_law
    k := fun f => by
      cases f
      · exact k_f_divisor
      · exact k_f_fraction
      · exact k_f_sum_of
      · exact k_f_product
      · exact k_f_added
      · exact k_f_put_together
      · exact k_f_of_two
      · exact k_f_one_die
      · exact k_f_kept_shares
      · exact k_f_book_of
      · exact k_f_shares
      · exact k_f_f_law_cell
      · exact k_f_f_law_mix
      · exact k_f_law
    b := fun f => by
      cases f
      · exact b_divisor
      · exact b_fraction
      · exact b_sum_of
      · exact b_product
      · exact b_added
      · exact b_put_together
      · exact b_of_two
      · exact b_one_die
      · exact b_kept_shares
      · exact b_book_of
      · exact b_shares
      · exact b_f_law_cell
      · exact b_f_law_mix
      · exact b_law
    b_abs := PySem.W.mg_none_of X G z_abs
    b_int := PySem.W.mg_none_of X G z_int
    b_len := PySem.W.mg_none_of X G z_len
    b_max := PySem.W.mg_none_of X G z_max
    b_min := PySem.W.mg_none_of X G z_min
    b_range := PySem.W.mg_none_of X G z_range
    b_sorted := PySem.W.mg_none_of X G z_sorted
    b_sum := PySem.W.mg_none_of X G z_sum
    b_tuple := PySem.W.mg_none_of X G z_tuple
    g_DICE := PySem.W.mg_of X G g_DICE
    r_DICE := fun H mu => .tup (vs := [.str "dice", .str "high", .str "low", .str "again", .str "burst", .str "count"]) (.inr ⟨⟨"dice", by simp⟩, _, _, _, l_DICE, rfl, rfl, by show 6 ≤ sizeLine; decide, (.cons ⟨_, rfl⟩ (.cons ⟨_, rfl⟩ (.cons ⟨_, rfl⟩ (.cons ⟨_, rfl⟩ (.cons ⟨_, rfl⟩ (.cons ⟨_, rfl⟩ .nil))))))⟩) (.cons (.str _) (.cons (.str _) (.cons (.str _) (.cons (.str _) (.cons (.str _) (.cons (.str _) .nil))))))
  }
  exact ⟨_, fun s v => .of_eq rfl, fun base _ _ => all_ok T lv .law⟩
end L03

/-! Equations of the readings' combinators, for simp. -/
namespace Ml
open PySem L2
theorem ofString_inj {a b : String} : Str.ofString a = Str.ofString b ↔ a = b := by
  constructor
  · intro h
    rw [Str.ofString_eq_toList, Str.ofString_eq_toList] at h
    have h1 : (a.toList.map Char.toNat).toArray = (b.toList.map Char.toNat).toArray := by injection h
    have h2 : a.toList.map Char.toNat = b.toList.map Char.toNat := by simpa using congrArg Array.toList h1
    have h3 : a.toList = b.toList := by
      have inj : ∀ {x y : Char}, x.toNat = y.toNat → x = y := fun {x y} h => Char.ext (UInt32.toNat_inj.mp h)
      exact (List.map_inj_right (fun x y h => inj h)).mp h2
    exact String.toList_inj.mp h3
  · rintro rfl; rfl
@[simp] theorem ofString_eq_iff {a b : String} : (Str.ofString a = Str.ofString b) = (a = b) := propext ofString_inj
@[simp] theorem ofString_beq {a b : String} : (Str.ofString a == Str.ofString b) = (a == b) := by
  rw [Bool.eq_iff_iff]; simp
variable {ev : Ev} {st : Sto} {ma mb mc : Mo D} {mr : Mo (List D)} {ta tb : Mo Bool} {s1 s2 : Ms}
@[simp] theorem e_C (d : D) : mC d ev st = .ok d st := rfl
@[simp] theorem e_Var (i : Nat) : mVar i ev st = match ev[i]? with | some (some d) => .ok d st | _ => .bad := rfl
@[simp] theorem e_Nil : mNil ev st = .ok [] st := rfl
@[simp] theorem e_Cons : mCons ma mr ev st = (ma ev st).bind fun d st1 => (mr ev st1).bind fun ds st2 => .ok (d :: ds) st2 := rfl
@[simp] theorem e_Tup : mTup mr ev st = (mr ev st).bind fun ds st1 => if ds.length ≤ lim then .ok (.tup ds) st1 else .bad := rfl
@[simp] theorem e_Disp : mDisp mr ev st = (mr ev st).bind fun ds st1 => if ds.length ≤ lim then .ok ds st1 else .bad := rfl
@[simp] theorem e_Keep : mKeep mr ev st = (mr ev st).bind fun ds st1 => .ok (.ref st1.length) (st1 ++ [.lst ds]) := rfl
@[simp] theorem e_Op (g : G2) : mOp g ma mb ev st = (ma ev st).bind fun a st1 => (mb ev st1).bind fun b st2 => Rs.of (g a b st2) := rfl
@[simp] theorem e_Un (g : G1) : mUn g ma ev st = (ma ev st).bind fun a st1 => Rs.of (g a st1) := rfl
@[simp] theorem e_CB (g : GA) : mCB g mr ev st = (mr ev st).bind fun ds st1 => Rs.of (g ds st1) := rfl
@[simp] theorem e_of_some {α : Type} (d : α) (st : Sto) : Rs.of (some (d, st)) = .ok d st := rfl
@[simp] theorem e_of_none {α : Type} : Rs.of (none : Option (α × Sto)) = .bad := rfl
@[simp] theorem e_addI (i j : Int) : gAdd (.int i) (.int j) st = some (.int (i + j), st) := rfl
@[simp] theorem e_addS (x y : Str) : gAdd (.str x) (.str y) st = if x.length + y.length ≤ lim then some (.str (x ++ y), st) else none := by
  simp [gAdd, gI, gAddS, gCatT]; split <;> simp_all
@[simp] theorem e_addT (xs ys : List D) : gAdd (.tup xs) (.tup ys) st = if xs.length + ys.length ≤ lim then some (.tup (xs ++ ys), st) else none := by
  simp [gAdd, gI, gAddS, gCatT]
@[simp] theorem e_sub (i j : Int) : gSub (.int i) (.int j) st = some (.int (i - j), st) := rfl
@[simp] theorem e_mul (i j : Int) : gMul (.int i) (.int j) st = if (small64 i || small64 j) = true then some (.int (i * j), st) else none := rfl
@[simp] theorem e_mod (i j : Int) : gMod (.int i) (.int j) st = if 0 < j then some (.int (i % j), st) else none := by simp [gMod, gIc]
@[simp] theorem e_div (i j : Int) : gDiv (.int i) (.int j) st = if 0 < j ∧ j.natAbs < 2 ^ 200 then some (.int (i / j), st) else none := by simp [gDiv, gIc]
@[simp] theorem e_neg (i : Int) : gNeg (.int i) st = some (.int (-i), st) := rfl
@[simp] theorem e_lt (i j : Int) : gLt (.int i) (.int j) st = some (.bl (decide (i < j)), st) := rfl
@[simp] theorem e_le (i j : Int) : gLe (.int i) (.int j) st = some (.bl (decide (i ≤ j)), st) := rfl
@[simp] theorem e_gt (i j : Int) : gGt (.int i) (.int j) st = some (.bl (decide (j < i)), st) := rfl
@[simp] theorem e_ge (i j : Int) : gGe (.int i) (.int j) st = some (.bl (decide (j ≤ i)), st) := rfl
@[simp] theorem e_eqS (x y : Str) : gEq (.str x) (.str y) st = some (.bl (x == y), st) := rfl
@[simp] theorem e_eqI (x y : Int) : gEq (.int x) (.int y) st = some (.bl (x == y), st) := rfl
@[simp] theorem e_eqB (x y : Bool) : gEq (.bl x) (.bl y) st = some (.bl (x == y), st) := rfl
@[simp] theorem e_neS (x y : Str) : gNe (.str x) (.str y) st = some (.bl (!(x == y)), st) := rfl
@[simp] theorem e_neI (x y : Int) : gNe (.int x) (.int y) st = some (.bl (!(x == y)), st) := rfl
@[simp] theorem e_isN (d : D) : gIsN d .non st = some (.bl (match d with | .non => true | _ => false), st) := rfl
@[simp] theorem e_isB (x y : Bool) : gIsN (.bl x) (.bl y) st = some (.bl (decide (x = y)), st) := rfl
@[simp] theorem e_notN (d : D) : gNotN d .non st = some (.bl (match d with | .non => false | _ => true), st) := rfl
@[simp] theorem e_notB (x y : Bool) : gNotN (.bl x) (.bl y) st = some (.bl (!decide (x = y)), st) := rfl
@[simp] theorem e_in (a : D) (ds : List D) (neg : Bool) : gIn neg a (.tup ds) st = if flatD a && ds.all flatD then some (.bl (if neg then !inD a ds else inD a ds), st) else none := rfl
@[simp] theorem e_flatS (x : Str) : flatD (.str x) = true := rfl
@[simp] theorem e_flatI (x : Int) : flatD (.int x) = true := rfl
@[simp] theorem e_inNil (a : D) : inD a [] = false := rfl
@[simp] theorem e_inS (x y : Str) (ds : List D) : inD (.str x) (.str y :: ds) = ((y == x) || inD (.str x) ds) := by
  unfold inD eqD
  rw [List.any_cons]
  congr 1
@[simp] theorem e_Test (m : Mo D) : mTest m ev st = (m ev st).bind fun d st1 => match d with | .bl b => .ok b st1 | _ => .bad := rfl
@[simp] theorem e_Tru (m : Mo D) : mTru m ev st = (m ev st).bind fun d st1 => match truD st1 d with | some b => .ok b st1 | none => .bad := rfl
@[simp] theorem e_truB (b : Bool) : truD st (.bl b) = some b := rfl
@[simp] theorem e_truI (b : Int) : truD st (.int b) = some (b != 0) := rfl
@[simp] theorem e_TAnd : mTAnd ta tb ev st = (ta ev st).bind fun b st1 => if b = true then tb ev st1 else .ok false st1 := rfl
@[simp] theorem e_TOr : mTOr ta tb ev st = (ta ev st).bind fun b st1 => if b = true then .ok true st1 else tb ev st1 := rfl
@[simp] theorem e_TNot : mTNot ta ev st = (ta ev st).bind fun b st1 => .ok (!b) st1 := rfl
@[simp] theorem e_And : mAnd ma mb ev st = (ma ev st).bind fun d st1 => match d with | .bl true => mb ev st1 | .bl false => .ok (.bl false) st1 | _ => .bad := rfl
@[simp] theorem e_Or : mOr ma mb ev st = (ma ev st).bind fun d st1 => match d with | .bl true => .ok (.bl true) st1 | .bl false => mb ev st1 | _ => .bad := rfl
@[simp] theorem e_Not : mNot ma ev st = (ma ev st).bind fun d st1 => match truD st1 d with | some b => .ok (.bl (!b)) st1 | none => .bad := rfl
@[simp] theorem e_If : mIf ta ma mb ev st = (ta ev st).bind fun b st1 => if b = true then ma ev st1 else mb ev st1 := rfl
@[simp] theorem e_Chain (g g' : G2) : mChain g g' ma mb mc ev st = (ma ev st).bind fun x st1 => (mb ev st1).bind fun y st2 => (Rs.of (g x y st2)).bind fun z st3 => match z with | .bl true => (mc ev st3).bind fun w st4 => Rs.of (g' y w st4) | .bl false => .ok (.bl false) st3 | _ => .bad := rfl
@[simp] theorem e_ixT (ds : List D) (i : Int) : gIx (.tup ds) (.int i) st = match L2.atI ds i with | some d => some (d, st) | none => none := rfl
@[simp] theorem e_ixR (ds : List D) (i : Int) : gIx (.ro ds) (.int i) st = match L2.atI ds i with | some d => some (d, st) | none => none := rfl
theorem e_ixL {i : Nat} {ds : List D} {k : Int} (h : st[i]? = some (.lst ds)) : gIx (.ref i) (.int k) st = match L2.atI ds k with | some d => some (d, st) | none => none := by
  simp only [gIx, seqOf, h]
  all_goals rfl
@[simp] theorem at_0 {α : Type} (x : α) (xs : List α) : L2.atI (x :: xs) 0 = some x := by simp [L2.atI, ixN]
@[simp] theorem at_1 {α : Type} (x y : α) (xs : List α) : L2.atI (x :: y :: xs) 1 = some y := by
  have h : (1 : Int) < ((x :: y :: xs).length : Nat) := by simp; omega
  simp only [L2.atI, ixN]
  rw [if_pos (by decide), if_pos h]; rfl
@[simp] theorem at_2 {α : Type} (x y z : α) (xs : List α) : L2.atI (x :: y :: z :: xs) 2 = some z := by
  have h : (2 : Int) < ((x :: y :: z :: xs).length : Nat) := by simp; omega
  simp only [L2.atI, ixN]
  rw [if_pos (by decide), if_pos h]; rfl
@[simp] theorem at_3 {α : Type} (x y z w : α) (xs : List α) : L2.atI (x :: y :: z :: w :: xs) 3 = some w := by
  have h : (3 : Int) < ((x :: y :: z :: w :: xs).length : Nat) := by simp; omega
  simp only [L2.atI, ixN]
  rw [if_pos (by decide), if_pos h]; rfl
@[simp] theorem e_NoPart : mNoPart ev st = .ok none st := rfl
@[simp] theorem e_Part : mPart ma ev st = (ma ev st).bind fun d st1 => match d with | .int i => .ok (some i) st1 | _ => .bad := rfl
@[simp] theorem e_slT (ds : List D) (lo hi : Option Int) : gSl (.tup ds) lo hi = some (.tup (cutD ds lo hi)) := rfl
@[simp] theorem e_Sl (ml mh : MoO) : mSl ma ml mh ev st = (ma ev st).bind fun d st1 => (ml ev st1).bind fun lo st2 => (mh ev st2).bind fun hi st3 => match gSl d lo hi with | some d' => .ok d' st3 | none => .bad := rfl
@[simp] theorem e_lenT (ds : List D) : gLen [.tup ds] st = some (.int ds.length, st) := rfl
@[simp] theorem e_lenR (ds : List D) : gLen [.ro ds] st = some (.int ds.length, st) := rfl
@[simp] theorem e_intI (i : Int) : gInt [.int i] st = some (.int i, st) := rfl
@[simp] theorem e_intB (b : Bool) : gInt [.bl b] st = some (.int (if b then 1 else 0), st) := rfl
@[simp] theorem e_abs (i : Int) : gAbs [.int i] st = some (.int (if i < 0 then -i else i), st) := rfl
@[simp] theorem e_max (i j : Int) : gMax [.int i, .int j] st = some (.int (if j > i then j else i), st) := rfl
@[simp] theorem e_min (i j : Int) : gMin [.int i, .int j] st = some (.int (if j < i then j else i), st) := rfl
@[simp] theorem e_str (i : Int) : gStr [.int i] st = if i.natAbs < 1000000 then some (.str (toString i), st) else none := rfl
@[simp] theorem e_Isi (c : String) : mIsi c ma ev st = (ma ev st).bind fun d st1 => match tyD st1 d with | some t => .ok (.bl (isiB t c)) st1 | none => .bad := rfl
@[simp] theorem e_Isi2 (c c' : String) : mIsi2 c c' ma ev st = (ma ev st).bind fun d st1 => match tyD st1 d with | some t => .ok (.bl (isiB t c || isiB t c')) st1 | none => .bad := rfl
@[simp] theorem ty_non : tyD st .non = some "NoneType" := rfl
@[simp] theorem ty_bl (b : Bool) : tyD st (.bl b) = some "bool" := rfl
@[simp] theorem ty_int (i : Int) : tyD st (.int i) = some "int" := rfl
@[simp] theorem ty_str (x : Str) : tyD st (.str x) = some "str" := rfl
@[simp] theorem ty_tup (ds : List D) : tyD st (.tup ds) = some "tuple" := rfl
@[simp] theorem isi_eq (a : String) : isiB a a = true := by simp [isiB]
@[simp] theorem isi_1 : isiB "tuple" "bool" = false := by decide
@[simp] theorem isi_2 : isiB "int" "tuple" = false := by decide
@[simp] theorem isi_3 : isiB "int" "bool" = false := by decide
@[simp] theorem isi_4 : isiB "int" "str" = false := by decide
@[simp] theorem isi_5 : isiB "str" "tuple" = false := by decide
@[simp] theorem isi_6 : isiB "str" "bool" = false := by decide
@[simp] theorem isi_7 : isiB "str" "int" = false := by decide
@[simp] theorem isi_8 : isiB "bool" "int" = true := by decide
@[simp] theorem isi_9 : isiB "bool" "tuple" = false := by decide
@[simp] theorem isi_10 : isiB "NoneType" "tuple" = false := by decide
@[simp] theorem isi_11 : isiB "NoneType" "int" = false := by decide
@[simp] theorem isi_12 : isiB "tuple" "int" = false := by decide
@[simp] theorem isi_13 : isiB "tuple" "str" = false := by decide
@[simp] theorem isi_14 : isiB "bool" "str" = false := by decide
@[simp] theorem isi_15 : isiB "NoneType" "bool" = false := by decide
@[simp] theorem isi_16 : isiB "NoneType" "str" = false := by decide
@[simp] theorem e_Q {α : Type} (g : List D → Option α) : mQ g mr ev st = (mr ev st).bind fun ds st1 => match g ds with | some d => .ok d st1 | none => .bad := rfl
@[simp] theorem e_sumN : gSum [] = some (.int 0) := rfl
@[simp] theorem e_tupOf (ds : List D) : gTupOf ds = some (.tup ds) := rfl
@[simp] theorem e_sorted (ns : List Int) : gSorted (ns.map D.int) = some ((sortI ns).map D.int) := by
  have h : ∀ ns : List Int, intsOf (ns.map D.int) = some ns := fun ns => by
    induction ns with
    | nil => rfl
    | cons n ns ih => simp [intsOf, ih]
  simp [gSorted, h]
theorem intsOf_map (ns : List Int) : intsOf (ns.map D.int) = some ns := by
  induction ns with
  | nil => rfl
  | cons n ns ih => simp [intsOf, ih]
theorem blsOf_map (ns : List Bool) : blsOf (ns.map D.bl) = some ns := by
  induction ns with
  | nil => rfl
  | cons n ns ih => simp [blsOf, ih]
@[simp] theorem e_sum (ns : List Int) : gSum (ns.map D.int) = some (.int ns.sum) := by simp [gSum, intsOf_map]
@[simp] theorem e_sum1 (a : Int) : gSum [.int a] = some (.int a) := by simp [gSum, intsOf]
@[simp] theorem e_sum2 (a b : Int) : gSum [.int a, .int b] = some (.int (a + b)) := by simp [gSum, intsOf]
@[simp] theorem e_sort2 (a b : Int) : gSorted [.int a, .int b] = some (if a ≤ b then [.int a, .int b] else [.int b, .int a]) := by
  simp only [gSorted, intsOf, Option.map_some, sortI, insI]
  split <;> rfl
@[simp] theorem e_all (ns : List Bool) : gAll (ns.map D.bl) = some (.bl (ns.all id)) := by simp [gAll, blsOf_map]
@[simp] theorem e_Skip : mSkip ev st = .ok (.nx, ev) st := rfl
@[simp] theorem e_Seq : mSeq s1 s2 ev st = match s1 ev st with | .ok (.nx, ev1) st1 => s2 ev1 st1 | r => r := rfl
@[simp] theorem e_Ret : mRet ma ev st = (ma ev st).bind fun d st1 => .ok (.rt d, ev) st1 := rfl
@[simp] theorem e_Set (i : Nat) : mSet i ma ev st = (ma ev st).bind fun d st1 => .ok (.nx, ev.set i (some d)) st1 := rfl
@[simp] theorem e_IfS : mIfS ta s1 s2 ev st = (ta ev st).bind fun b st1 => if b = true then s1 ev st1 else s2 ev st1 := rfl
@[simp] theorem e_Drop : mDrop ma ev st = (ma ev st).bind fun _ st1 => .ok (.nx, ev) st1 := rfl
@[simp] theorem e_gtName (i : Nat) (d : D) : gtName i d ev = some (ev.set i (some d)) := rfl
@[simp] theorem e_gtsNil : gtsNil [] ev = some ev := rfl
@[simp] theorem e_gtsCons (g : Gt) (gs : Gts) (d : D) (ds : List D) : gtsCons g gs (d :: ds) ev = (g d ev).bind (gs ds) := rfl
@[simp] theorem e_gtTup (n : Nat) (gs : Gts) (ds : List D) : gtTup n gs (.tup ds) ev = if ds.length = n then gs ds ev else none := rfl
@[simp] theorem e_Asg (g : Gt) : mAsg ma g ev st = (ma ev st).bind fun d st1 => match g d ev with | some ev' => .ok (.nx, ev') st1 | none => .bad := rfl
@[simp] theorem e_Par (i j : Nat) : mPar i j mr ev st = (mr ev st).bind fun ds st1 => match ds with | [x, y] => .ok (.nx, (ev.set i (some x)).set j (some y)) st1 | _ => .bad := rfl
@[simp] theorem e_For (mi : Mo (List D)) (g : Gt) (b : Ms) : mFor mi g b ev st = (mi ev st).bind fun it st1 => loop g b it ev st1 := rfl
@[simp] theorem e_ItT : mItT ma ev st = (ma ev st).bind fun d st1 => match d with | .tup ds => if ds.length ≤ lim then .ok ds st1 else .bad | _ => .bad := rfl
@[simp] theorem e_ItR : mItR mr ev st = (mr ev st).bind fun ds st1 => match ds with | [.int j] => if j.toNat ≤ lim ∧ -1000000000 ≤ j then .ok (rngD 0 j.toNat) st1 else .bad | _ => .bad := rfl
@[simp] theorem e_ItR2 : mItR2 mr ev st = (mr ev st).bind fun ds st1 => match ds with | [.int i, .int j] => if (j - i).toNat ≤ lim ∧ -1000000000 ≤ i ∧ i ≤ 1000000000 ∧ -1000000000 ≤ j ∧ j ≤ 1000000000 then .ok (rngD i (j - i).toNat) st1 else .bad | _ => .bad := rfl
@[simp] theorem e_Lc (vs : List Nat) (mi : Mo (List D)) (g : Gt) (t : Mo Bool) (m : Mo D) : mLc vs mi g t m ev st = (mi ev st).bind fun it st1 => lcLoop g t m it (wipeD ev vs) st1 := rfl
@[simp] theorem e_lcN (g : Gt) (t : Mo Bool) (m : Mo D) : lcLoop g t m [] ev st = .ok [] st := rfl
@[simp] theorem e_lcC (g : Gt) (t : Mo Bool) (m : Mo D) (d : D) (ds : List D) : lcLoop g t m (d :: ds) ev st = match g d ev with
    | none => .bad
    | some ev1 => match t ev1 st with
      | .ok true st1 => (match m ev1 st1 with
        | .ok y st2 => (match lcLoop g t m ds ev st2 with
          | .ok ys st3 => .ok (y :: ys) st3
          | _ => .bad)
        | _ => .bad)
      | .ok false st1 => lcLoop g t m ds ev st1
      | _ => .bad := rfl
@[simp] theorem e_wN : wipeD ev [] = ev := rfl
@[simp] theorem e_wC (v : Nat) (vs : List Nat) : wipeD ev (v :: vs) = (wipeD ev vs).set v none := rfl
@[simp] theorem e_Yes : mYes ev st = .ok true st := rfl
@[simp] theorem e_Zip : mZip mr ev st = (mr ev st).bind fun ds st1 => match ds with | [.tup xs, .tup ys] => if (zipD xs ys).length ≤ lim then .ok (zipD xs ys) st1 else .bad | _ => .bad := rfl
@[simp] theorem e_Call (c : Fm) : mCall c mr ev st = (mr ev st).bind fun ds st1 => match c ds st1 with | .ok d st2 => .ok d st2 | _ => .bad := rfl
@[simp] theorem e_GetN (md : Mo (List (Key × D))) (mk mx : Mo D) : mGetN md mk mx ev st = (md ev st).bind fun kvs st1 => (mk ev st1).bind fun k st2 => (mx ev st2).bind fun x st3 => match keyOf k with | some kk => .ok ((valD kvs kk).getD x) st3 | none => .bad := rfl
@[simp] theorem e_DictD (ps : List (Mo D × Mo D)) : mDictD ps ev st = (mPairs ps ev st).bind fun kvs st1 => if kvs.length ≤ 15 then .ok (mergeD [] kvs) st1 else .bad := rfl
@[simp] theorem e_PairsN : mPairs [] ev st = .ok [] st := rfl
@[simp] theorem e_PairsC (mk mv : Mo D) (r : List (Mo D × Mo D)) : mPairs ((mk, mv) :: r) ev st = (mk ev st).bind fun k st1 => (mv ev st1).bind fun v st2 => match keyOf k with | some kk => (mPairs r ev st2).bind fun ps st3 => .ok ((kk, v) :: ps) st3 | none => .bad := rfl
@[simp] theorem e_keyI (i : Int) : keyOf (.int i) = some (.inl i) := rfl
@[simp] theorem e_keyS (x : Str) : keyOf (.str x) = some (.inr x) := rfl
theorem lim_10 {n : Nat} (h : n ≤ 1000) : n ≤ lim := Nat.le_trans h (by decide)
@[simp] theorem lim0 : 0 ≤ lim := Nat.zero_le _
@[simp] theorem lim1 : 1 ≤ lim := by decide
@[simp] theorem lim2 : 2 ≤ lim := by decide
@[simp] theorem lim3 : 3 ≤ lim := by decide
@[simp] theorem lim4 : 4 ≤ lim := by decide
@[simp] theorem lim5 : 5 ≤ lim := by decide
@[simp] theorem lim6 : 6 ≤ lim := by decide
theorem small_of {i : Int} (h : -1000000 ≤ i) (h' : i ≤ 1000000) : small64 i = true := decide_eq_true (by omega)
/-! ### loops -/
theorem loop_inv {g : Gt} {body : Ms} {I : Ev → Prop} : ∀ {ds : List D}, (∀ d ∈ ds, ∀ ev st, I ev → ∃ ev1 ev2 st2, g d ev = some ev1 ∧ body ev1 st = .ok (.nx, ev2) st2 ∧ I ev2) → ∀ ev st, I ev → ∃ ev' st', loop g body ds ev st = .ok (.nx, ev') st' ∧ I ev'
  | [], _, ev, st, h => ⟨ev, st, rfl, h⟩
  | d :: ds, hs, ev, st, h => by
    obtain ⟨ev1, ev2, st2, h1, h2, h3⟩ := hs d List.mem_cons_self ev st h
    obtain ⟨ev', st', h4, h5⟩ := loop_inv (fun d hd => hs d (List.mem_cons_of_mem _ hd)) ev2 st2 h3
    refine ⟨ev', st', ?_, h5⟩
    simp only [loop, h1, h2, h4]
end Ml

namespace Ml
open PySem L2
/-! ### cells and draws -/
def mixv (c p m : Int) : Int := c * 48271 % p * (c * 48271 % p + 7) % p % m
theorem mixv_pos {c p m : Int} (h : 0 < m) : 0 ≤ mixv c p m := Int.emod_nonneg _ (by omega)
theorem mixv_lt {c p m : Int} (h : 0 < m) : mixv c p m < m := Int.emod_lt_of_pos _ h
theorem mix_ok {c p m : Int} {st : Sto} (h1 : 0 < p) (h2 : p < 10000) (h3 : 0 < m) : fnM 3 4 m_f_law_mix [.int c, .int p, .int m] st = .ok (.int (mixv c p m)) st := by
  have h4 : 0 ≤ c * 48271 % p := Int.emod_nonneg _ (by omega)
  have h5 : c * 48271 % p < p := Int.emod_lt_of_pos _ h1
  have h6 : small64 48271 = true := by decide
  have h7 : small64 (c * 48271 % p) = true := small_of (by omega) (by omega)
  simp [fnM, m_f_law_mix, h6, h7, h1, h3, mixv]
theorem cell_ok {ns : List Int} {k : Int} {st : Sto} (h1 : 0 ≤ k) : ∃ c : Int, fnM 2 2 m_f_law_cell [.ro (ns.map D.int), .int k] st = .ok (.int c) st := by
  by_cases h : k < (ns.length : Int)
  · have hk : k.toNat < ns.length := by omega
    have e := atI_nat (xs := ns.map D.int) (j := k.toNat) (v := .int ns[k.toNat]) (by simp only [List.getElem?_map, List.getElem?_eq_getElem hk, Option.map_some])
    rw [Int.toNat_of_nonneg h1] at e
    refine ⟨ns[k.toNat], ?_⟩
    simp [fnM, m_f_law_cell, h, e]
  · refine ⟨0, ?_⟩
    simp [fnM, m_f_law_cell, h]
/-! ### sayings -/
end Ml

namespace L03
open PySem L2 Ml
def lv : Nat := 12
def okT : Rs (Fl × Ev) → Bool
  | .ok (.rt (.bl true), _) _ => true
  | _ => false
theorem okT_of {r : Rs (Fl × Ev)} (h : okT r = true) : ∃ ev st, r = .ok (.rt (.bl true), ev) st := by
  unfold okT at h
  split at h
  · exact ⟨_, _, rfl⟩
  · cases h
theorem first_set {ma : Mo D} {B : Ms} {d : D} {k : Int} (h : ma [some d, none, none, none, none, none] [] = .ok (.int k) []) (hB : okT (B [some d, some (.int k), none, none, none, none] []) = true) :
    ∃ st', fnM 1 6 (mSeq (mSet 1 ma) B) [d] [] = .ok (.bl true) st' := by
  obtain ⟨ev, st, e⟩ := okT_of hB
  refine ⟨st, ?_⟩
  show (if 1 = 1 then (match mSeq (mSet 1 ma) B [some d, none, none, none, none, none] [] with
    | .ok (.rt d, _) st' => .ok d st'
    | .ok (.nx, _) st' => .ok .non st'
    | _ => .bad) else .bad : Rs D) = _
  have e2 : mSeq (mSet 1 ma) B [some d, none, none, none, none, none] [] = .ok (.rt (.bl true), ev) st := by
    simp only [mSeq, mSet, h, Rs.bind]
    exact e
  rw [e2]
  rfl
theorem law_true (ns : List Int) (h : ns.length ≤ 63) : ∃ st', callN lv .law [.ro (ns.map D.int)] [] = .ok (.bl true) st' := by
  generalize hd : D.ro (ns.map D.int) = d
  show ∃ st', fnM 1 6 (m_law (callN 11 .f_law_cell) (callN 11 .f_law_mix) (callN 11 .shares)) [d] [] = .ok (.bl true) st'
  obtain ⟨c, hc⟩ : ∃ c : Int, callN 11 .f_law_cell [d, .int 0] [] = .ok (.int c) [] := by subst hd; exact cell_ok (by decide)
  have hm : callN 11 .f_law_mix [.int c, .int 9901, .int 5] [] = .ok (.int (mixv c 9901 5)) [] := mix_ok (by decide) (by decide) (by decide)
  have h0 := mixv_pos (c := c) (p := 9901) (m := 5) (by decide)
  have h1 := mixv_lt (c := c) (p := 9901) (m := 5) (by decide)
  generalize hk : mixv c 9901 5 = k at *
  generalize callN 11 .f_law_cell = c1 at *
  generalize callN 11 .f_law_mix = c2 at *
  unfold m_law
  refine first_set (k := 2 + k) ?_ ?_
  · simp [hc, hm]
  · have hkk : k = 0 ∨ k = 1 ∨ k = 2 ∨ k = 3 ∨ k = 4 := by omega
    clear hc hm hk h0 h1 hd h
    rcases hkk with rfl | rfl | rfl | rfl | rfl
    · kernel_rfl
    · kernel_rfl
    · kernel_rfl
    · kernel_rfl
    · kernel_rfl
end L03

open PySem PySem.W PyProof.Rows
set_option maxRecDepth 100000 in
set_option maxHeartbeats 0 in
theorem PySem.Challenge.cw_diespeech_k03_shares_by_hand_holds : PySem.Challenge.rw_diespeech_k03_shares_by_hand.Holds := by
  w_on; o_law; k_head; (case hw => w_witness2)
  k_fill
  refine Ml.walk_m (l := PySem.Challenge.rw_diespeech_k03_shares_by_hand) (k := L03.lv) (c := L03.callN L03.lv .law) rfl rfl ⟨rfl, by decide, by decide⟩ (fun w h Y => PySem.W.kIn_of Y) ?F L03.law_true
  case F =>
    intro w mg fa h KX G hmg
    refine' L03.all_mk L03.lv KX G hmg ?a_f_divisor ?l_f_divisor ?c_f_divisor ?k_f_divisor ?a_f_fraction ?l_f_fraction ?c_f_fraction ?k_f_fraction ?a_f_sum_of ?l_f_sum_of ?c_f_sum_of ?k_f_sum_of ?a_f_product ?l_f_product ?c_f_product ?k_f_product ?a_f_added ?l_f_added ?c_f_added ?k_f_added ?a_f_put_together ?l_f_put_together ?c_f_put_together ?k_f_put_together ?a_f_of_two ?l_f_of_two ?c_f_of_two ?k_f_of_two ?a_f_one_die ?l_f_one_die ?c_f_one_die ?k_f_one_die ?a_f_kept_shares ?l_f_kept_shares ?c_f_kept_shares ?k_f_kept_shares ?a_f_book_of ?l_f_book_of ?c_f_book_of ?k_f_book_of ?a_f_shares ?l_f_shares ?c_f_shares ?k_f_shares ?a_f_f_law_cell ?l_f_f_law_cell ?c_f_f_law_cell ?k_f_f_law_cell ?a_f_f_law_mix ?l_f_f_law_mix ?c_f_f_law_mix ?k_f_f_law_mix ?a_f_law ?l_f_law ?c_f_law ?k_f_law ?z_abs ?z_int ?z_len ?z_max ?z_min ?z_range ?z_sorted ?z_sum ?z_tuple ?g_DICE ?l_DICE
    (case a_f_divisor => k_is)
    (case l_f_divisor => k_is)
    (case c_f_divisor => k_is)
    (case k_f_divisor => k_is)
    (case a_f_fraction => k_is)
    (case l_f_fraction => k_is)
    (case c_f_fraction => k_is)
    (case k_f_fraction => k_is)
    (case a_f_sum_of => k_is)
    (case l_f_sum_of => k_is)
    (case c_f_sum_of => k_is)
    (case k_f_sum_of => k_is)
    (case a_f_product => k_is)
    (case l_f_product => k_is)
    (case c_f_product => k_is)
    (case k_f_product => k_is)
    (case a_f_added => k_is)
    (case l_f_added => k_is)
    (case c_f_added => k_is)
    (case k_f_added => k_is)
    (case a_f_put_together => k_is)
    (case l_f_put_together => k_is)
    (case c_f_put_together => k_is)
    (case k_f_put_together => k_is)
    (case a_f_of_two => k_is)
    (case l_f_of_two => k_is)
    (case c_f_of_two => k_is)
    (case k_f_of_two => k_is)
    (case a_f_one_die => k_is)
    (case l_f_one_die => k_is)
    (case c_f_one_die => k_is)
    (case k_f_one_die => k_is)
    (case a_f_kept_shares => k_is)
    (case l_f_kept_shares => k_is)
    (case c_f_kept_shares => k_is)
    (case k_f_kept_shares => k_is)
    (case a_f_book_of => k_is)
    (case l_f_book_of => k_is)
    (case c_f_book_of => k_is)
    (case k_f_book_of => k_is)
    (case a_f_shares => k_is)
    (case l_f_shares => k_is)
    (case c_f_shares => k_is)
    (case k_f_shares => k_is)
    (case a_f_f_law_cell => k_is)
    (case l_f_f_law_cell => k_is)
    (case c_f_f_law_cell => k_is)
    (case k_f_f_law_cell => k_is)
    (case a_f_f_law_mix => k_is)
    (case l_f_f_law_mix => k_is)
    (case c_f_f_law_mix => k_is)
    (case k_f_f_law_mix => k_is)
    (case a_f_law => k_is)
    (case l_f_law => k_is)
    (case c_f_law => k_is)
    (case k_f_law => k_is)
    (case z_abs => k_is)
    (case z_int => k_is)
    (case z_len => k_is)
    (case z_max => k_is)
    (case z_min => k_is)
    (case z_range => k_is)
    (case z_sorted => k_is)
    (case z_sum => k_is)
    (case z_tuple => k_is)
    (case g_DICE => k_is)
    (case l_DICE => k_is)
#print axioms PySem.Challenge.cw_diespeech_k03_shares_by_hand_holds
