import PyProof.Rows.All
import Wide.All
import OpenK.AllK
import Wide.FinOn
import HandS.ForMost
import HandS.SortInts
import HandS.TupAny
import HandS.IsInst
import HandS.Wide
import HandS.Flow
import HandS.More
import HandS.Zip
import HandS.Style
import PySem.Challenge.RW_diespeech_k14_simpler
set_option Elab.async false
set_option linter.all false
set_option autoImplicit false
set_option maxRecDepth 100000
set_option maxHeartbeats 8000000
/-! Ml: a small functional reading of the program's Python over data without addresses (D), a store of mutable things (Sto);
    tE, tT, tA, tS turn a reading into one of the hand layer's. -/
namespace Ml
open PySem L2

inductive D where
  | non | bl (b : Bool) | int (i : Int) | str (x : Str) | tup (ds : List D) | ref (i : Nat) | ro (ds : List D)
inductive Ob where
  | ro (ds : List D) | lst (ds : List D) | dK (lk : Bool) (kvs : List (Key × D)) | dT (lk : Bool) (kvs : List (List Key × D))
abbrev Ev := List (Option D)
abbrev Sto := List Ob
inductive Rs (α : Type) where
  | bad | ok (a : α) (st : Sto) | exc (c : Str) (ev : Ev) (st : Sto)
abbrev Mo (α : Type) := Ev → Sto → Rs α
def Rs.bind {α β : Type} (r : Rs α) (f : α → Sto → Rs β) : Rs β := match r with
  | .bad => .bad
  | .ok a st => f a st
  | .exc c e s => .exc c e s
@[simp] theorem Rs.bind_ok {α β : Type} (a : α) (st : Sto) (f : α → Sto → Rs β) : (Rs.ok a st).bind f = f a st := rfl
@[simp] theorem Rs.bind_bad {α β : Type} (f : α → Sto → Rs β) : (Rs.bad : Rs α).bind f = .bad := rfl
@[simp] theorem Rs.bind_exc {α β : Type} (c : Str) (e : Ev) (s : Sto) (f : α → Sto → Rs β) : (Rs.exc c e s : Rs α).bind f = .exc c e s := rfl

/-! ### what stands for what -/
def TupAt (K : PySem.W.Frag) (H : Hp) (a : Addr) (vs : List V) : Prop :=
  H a = some (.tup vs) ∨ ∃ (o : Obj) (its : Array Value) (n : Nat), K.lookup a = some o ∧ o.cls = .type "tuple" ∧ o.data = .seq its n ∧ its.size ≤ sizeLine ∧ Vals vs its.toList
theorem TupAt.sq {K : PySem.W.Frag} {H : Hp} {a : Addr} {vs : List V} (h : TupAt K H a vs) : SqT K H a vs := h.imp (fun q => .inl q) id
/-- a list that nobody changes (the script) -/
def RoAt (K : PySem.W.Frag) (H : Hp) (mu : List Addr) (a : Addr) (vs : List V) : Prop :=
  (∃ o, H a = some (.frz o (.lst vs)) ∧ a ∉ mu) ∨ ∃ (o : Obj) (its : Array Value) (n : Nat), K.lookup a = some o ∧ o.cls = .type "list" ∧ o.dict = none ∧ o.data = .seq its n ∧ its.size ≤ sizeLine ∧ Vals vs its.toList
theorem RoAt.sq {K : PySem.W.Frag} {H : Hp} {mu : List Addr} {a : Addr} {vs : List V} (h : RoAt K H mu a vs) : SqL K H a vs := h.imp (fun ⟨o, q, _⟩ => .inr ⟨o, q⟩) id
mutual
inductive Rp (K : PySem.W.Frag) (H : Hp) (mu : List Addr) : V → D → Prop
  | non : Rp K H mu .non .non
  | bl (b : Bool) : Rp K H mu (.bl b) (.bl b)
  | int (i : Int) : Rp K H mu (.int i) (.int i)
  | str (x : Str) : Rp K H mu (.str x) (.str x)
  | tup {a : Addr} {vs : List V} {ds : List D} (h : TupAt K H a vs) (hs : Rps K H mu vs ds) : Rp K H mu (.ref a) (.tup ds)
  | ref {i : Nat} {a : Addr} (h : mu[i]? = some a) : Rp K H mu (.ref a) (.ref i)
  | ro {a : Addr} {vs : List V} {ds : List D} (h : RoAt K H mu a vs) (hs : Rps K H mu vs ds) : Rp K H mu (.ref a) (.ro ds)
inductive Rps (K : PySem.W.Frag) (H : Hp) (mu : List Addr) : List V → List D → Prop
  | nil : Rps K H mu [] []
  | cons {v : V} {d : D} {vs : List V} {ds : List D} (h : Rp K H mu v d) (hs : Rps K H mu vs ds) : Rps K H mu (v :: vs) (d :: ds)
end
/-- from (mu, H) on: new things may have come, the store's own things may have changed, all else stands -/
structure Ext (mu : List Addr) (H : Hp) (mu' : List Addr) (H' : Hp) : Prop where
  pre : ∃ r, mu' = mu ++ r
  tup : ∀ a vs, H a = some (.tup vs) → H' a = some (.tup vs)
  keep : ∀ a o, H a = some o → a ∉ mu → H' a = some o ∧ a ∉ mu'
  dom : ∀ a, H' a = none → H a = none
  frz : ∀ a o u, H a = some (.frz o u) → H' a = some (.frz o u)
theorem Ext.refl {mu : List Addr} {H : Hp} : Ext mu H mu H := ⟨⟨[], by simp⟩, fun _ _ h => h, fun _ _ h n => ⟨h, n⟩, fun _ h => h, fun _ _ _ h => h⟩
theorem upd_dom {H : Hp} {p : Addr} {o : HO} (a : Addr) (h : upd H p o a = none) : H a = none := by
  unfold upd at h
  split at h
  · cases h
  · exact h
theorem Ext.trans {mu mu1 mu2 : List Addr} {H H1 H2 : Hp} (a : Ext mu H mu1 H1) (b : Ext mu1 H1 mu2 H2) : Ext mu H mu2 H2 := by
  obtain ⟨r, e⟩ := a.pre
  obtain ⟨r', e'⟩ := b.pre
  refine ⟨⟨r ++ r', by rw [e', e, List.append_assoc]⟩, fun c vs h => b.tup c vs (a.tup c vs h), fun c o h n => ?_, fun c h => a.dom c (b.dom c h), fun c o u h => b.frz c o u (a.frz c o u h)⟩
  obtain ⟨h1, n1⟩ := a.keep c o h n
  exact b.keep c o h1 n1
structure Ext0 (mu : List Addr) (H : Hp) (mu' : List Addr) (H' : Hp) : Prop where
  pre : ∃ r, mu' = mu ++ r
  tup : ∀ a vs, H a = some (.tup vs) → H' a = some (.tup vs)
  ro : ∀ a o vs, H a = some (.frz o (.lst vs)) → a ∉ mu → H' a = some (.frz o (.lst vs)) ∧ a ∉ mu'
theorem Ext.e0 {mu mu' : List Addr} {H H' : Hp} (e : Ext mu H mu' H') : Ext0 mu H mu' H' := ⟨e.pre, e.tup, fun a o vs h n => e.keep a _ h n⟩
theorem Ext0.roAt {K : PySem.W.Frag} {mu mu' : List Addr} {H H' : Hp} (e : Ext0 mu H mu' H') {a : Addr} {vs : List V} (h : RoAt K H mu a vs) : RoAt K H' mu' a vs := h.imp (fun ⟨o, h, n⟩ => ⟨o, e.ro a o vs h n⟩) id
theorem Ext0.at {mu mu' : List Addr} {H H' : Hp} (e : Ext0 mu H mu' H') {i : Nat} {a : Addr} (h : mu[i]? = some a) : mu'[i]? = some a := by
  obtain ⟨r, q⟩ := e.pre
  rw [q, List.getElem?_append_left (List.getElem?_eq_some_iff.mp h).1]
  exact h
theorem Ext.at {mu mu' : List Addr} {H H' : Hp} (e : Ext mu H mu' H') {i : Nat} {a : Addr} (h : mu[i]? = some a) : mu'[i]? = some a := e.e0.at h
theorem Ext0.tupAt {K : PySem.W.Frag} {mu mu' : List Addr} {H H' : Hp} (e : Ext0 mu H mu' H') {a : Addr} {vs : List V} (h : TupAt K H a vs) : TupAt K H' a vs := h.imp (e.tup a vs) id
theorem Ext.tupAt {K : PySem.W.Frag} {mu mu' : List Addr} {H H' : Hp} (e : Ext mu H mu' H') {a : Addr} {vs : List V} (h : TupAt K H a vs) : TupAt K H' a vs := e.e0.tupAt h
mutual
theorem Rp.mono0 {K : PySem.W.Frag} {mu mu' : List Addr} {H H' : Hp} (e : Ext0 mu H mu' H') : ∀ {v : V} {d : D}, Rp K H mu v d → Rp K H' mu' v d
  | _, _, .non => .non
  | _, _, .bl b => .bl b
  | _, _, .int i => .int i
  | _, _, .str x => .str x
  | _, _, .tup h hs => .tup (e.tupAt h) (Rps.mono0 e hs)
  | _, _, .ref h => .ref (e.at h)
  | _, _, .ro h hs => .ro (e.roAt h) (Rps.mono0 e hs)
theorem Rps.mono0 {K : PySem.W.Frag} {mu mu' : List Addr} {H H' : Hp} (e : Ext0 mu H mu' H') : ∀ {vs : List V} {ds : List D}, Rps K H mu vs ds → Rps K H' mu' vs ds
  | _, _, .nil => .nil
  | _, _, .cons h hs => .cons (Rp.mono0 e h) (Rps.mono0 e hs)
end
theorem Rp.mono {K : PySem.W.Frag} {mu mu' : List Addr} {H H' : Hp} (e : Ext mu H mu' H') {v : V} {d : D} (h : Rp K H mu v d) : Rp K H' mu' v d := h.mono0 e.e0
theorem Rps.mono {K : PySem.W.Frag} {mu mu' : List Addr} {H H' : Hp} (e : Ext mu H mu' H') {vs : List V} {ds : List D} (h : Rps K H mu vs ds) : Rps K H' mu' vs ds := h.mono0 e.e0
theorem Rps.length {K : PySem.W.Frag} {H : Hp} {mu : List Addr} : ∀ {vs : List V} {ds : List D}, Rps K H mu vs ds → vs.length = ds.length
  | _, _, .nil => rfl
  | _, _, .cons _ hs => by simp [Rps.length hs]
theorem Rps.get {K : PySem.W.Frag} {H : Hp} {mu : List Addr} : ∀ {vs : List V} {ds : List D} {i : Nat} {d : D}, Rps K H mu vs ds → ds[i]? = some d → ∃ v, vs[i]? = some v ∧ Rp K H mu v d
  | _, _, i, _, .nil, e => by simp at e
  | _, _, 0, _, .cons h _, e => by simp at e; subst e; exact ⟨_, by simp, h⟩
  | _, _, i + 1, _, .cons _ hs, e => by
    obtain ⟨v, h1, h2⟩ := Rps.get (i := i) hs (by simpa using e)
    exact ⟨v, by simpa using h1, h2⟩
theorem Rps.getV {K : PySem.W.Frag} {H : Hp} {mu : List Addr} : ∀ {vs : List V} {ds : List D} {i : Nat} {v : V}, Rps K H mu vs ds → vs[i]? = some v → ∃ d, ds[i]? = some d ∧ Rp K H mu v d
  | _, _, i, _, .nil, e => by simp at e
  | _, _, 0, _, .cons h _, e => by simp at e; subst e; exact ⟨_, by simp, h⟩
  | _, _, i + 1, _, .cons _ hs, e => by
    obtain ⟨v, h1, h2⟩ := Rps.getV (i := i) hs (by simpa using e)
    exact ⟨v, by simpa using h1, h2⟩
theorem Rps.append {K : PySem.W.Frag} {H : Hp} {mu : List Addr} : ∀ {vs ws : List V} {ds es : List D}, Rps K H mu vs ds → Rps K H mu ws es → Rps K H mu (vs ++ ws) (ds ++ es)
  | _, _, _, _, .nil, h => h
  | _, _, _, _, .cons h hs, q => .cons h (Rps.append hs q)
theorem Rps.take {K : PySem.W.Frag} {H : Hp} {mu : List Addr} : ∀ {vs : List V} {ds : List D} (n : Nat), Rps K H mu vs ds → Rps K H mu (vs.take n) (ds.take n)
  | _, _, 0, _ => .nil
  | _, _, _ + 1, .nil => .nil
  | _, _, n + 1, .cons h hs => .cons h (Rps.take n hs)
theorem Rps.drop {K : PySem.W.Frag} {H : Hp} {mu : List Addr} : ∀ {vs : List V} {ds : List D} (n : Nat), Rps K H mu vs ds → Rps K H mu (vs.drop n) (ds.drop n)
  | _, _, 0, h => h
  | _, _, _ + 1, .nil => .nil
  | _, _, n + 1, .cons _ hs => Rps.drop n hs
theorem Rps.set {K : PySem.W.Frag} {H : Hp} {mu : List Addr} {v : V} {d : D} (q : Rp K H mu v d) : ∀ {vs : List V} {ds : List D} (n : Nat), Rps K H mu vs ds → Rps K H mu (vs.set n v) (ds.set n d)
  | _, _, _, .nil => .nil
  | _, _, 0, .cons _ hs => .cons q hs
  | _, _, n + 1, .cons h hs => .cons h (Rps.set q n hs)
theorem Rps.reverse {K : PySem.W.Frag} {H : Hp} {mu : List Addr} : ∀ {vs : List V} {ds : List D}, Rps K H mu vs ds → Rps K H mu vs.reverse ds.reverse
  | _, _, .nil => .nil
  | _, _, .cons h hs => by
    rw [List.reverse_cons, List.reverse_cons]
    exact (Rps.reverse hs).append (.cons h .nil)
/-- pairs of a dict -/
def KD {κ : Type} (K : PySem.W.Frag) (H : Hp) (mu : List Addr) : List (κ × V) → List (κ × D) → Prop := Paired fun p q => p.1 = q.1 ∧ Rp K H mu p.2 q.2
theorem KD.mono0 {κ : Type} {K : PySem.W.Frag} {mu mu' : List Addr} {H H' : Hp} (e : Ext0 mu H mu' H') {ps : List (κ × V)} {qs : List (κ × D)} (h : KD K H mu ps qs) : KD K H' mu' ps qs :=
  Paired.mapP h fun _ _ ⟨a, b⟩ => ⟨a, b.mono0 e⟩
theorem KD.mono {κ : Type} {K : PySem.W.Frag} {mu mu' : List Addr} {H H' : Hp} (e : Ext mu H mu' H') {ps : List (κ × V)} {qs : List (κ × D)} (h : KD K H mu ps qs) : KD K H' mu' ps qs := h.mono0 e.e0
/-- one thing of the store -/
def ObOk (K : PySem.W.Frag) (H : Hp) (mu : List Addr) (a : Addr) : Ob → Prop
  | .ro ds => ∃ vs, Rd H a (.lst vs) ∧ Rps K H mu vs ds
  | .lst ds => ∃ vs, H a = some (.lst vs) ∧ Rps K H mu vs ds
  | .dK true kvs => ∃ o ws, H a = some (.frz o (.dK ws)) ∧ KD K H mu ws kvs
  | .dK false kvs => ∃ ws, H a = some (.dK ws) ∧ KD K H mu ws kvs
  | .dT true kvs => ∃ o ws, H a = some (.frz o (.dT ws)) ∧ KD K H mu ws kvs
  | .dT false kvs => ∃ ws, H a = some (.dT ws) ∧ KD K H mu ws kvs
theorem ObOk.some {K : PySem.W.Frag} {H : Hp} {mu : List Addr} {a : Addr} {o : Ob} (h : ObOk K H mu a o) : ∃ u, H a = some u ∧ ∀ vs, u ≠ .tup vs := by
  cases o with
  | ro ds =>
    obtain ⟨vs, h | ⟨q, h⟩, _⟩ := h
    · exact ⟨_, h, fun _ z => by cases z⟩
    · exact ⟨_, h, fun _ z => by cases z⟩
  | lst ds => obtain ⟨vs, h, _⟩ := h; exact ⟨_, h, fun _ z => by cases z⟩
  | dK lk kvs => cases lk with
    | true => obtain ⟨o, ws, h, _⟩ := h; exact ⟨_, h, fun _ z => by cases z⟩
    | false => obtain ⟨ws, h, _⟩ := h; exact ⟨_, h, fun _ z => by cases z⟩
  | dT lk kvs => cases lk with
    | true => obtain ⟨o, ws, h, _⟩ := h; exact ⟨_, h, fun _ z => by cases z⟩
    | false => obtain ⟨ws, h, _⟩ := h; exact ⟨_, h, fun _ z => by cases z⟩
/-- its own object stands, the rest by Ext -/
theorem ObOk.mono0 {K : PySem.W.Frag} {mu mu' : List Addr} {H H' : Hp} (e : Ext0 mu H mu' H') {a : Addr} (ha : H' a = H a) {o : Ob} (h : ObOk K H mu a o) : ObOk K H' mu' a o := by
  cases o with
  | ro ds =>
    obtain ⟨vs, h, r⟩ := h
    refine ⟨vs, ?_, r.mono0 e⟩
    unfold Rd at h ⊢
    rw [ha]; exact h
  | lst ds => obtain ⟨vs, h, r⟩ := h; exact ⟨vs, ha.trans h, r.mono0 e⟩
  | dK lk kvs => cases lk with
    | true => obtain ⟨o, ws, h, r⟩ := h; exact ⟨o, ws, ha.trans h, r.mono0 e⟩
    | false => obtain ⟨ws, h, r⟩ := h; exact ⟨ws, ha.trans h, r.mono0 e⟩
  | dT lk kvs => cases lk with
    | true => obtain ⟨o, ws, h, r⟩ := h; exact ⟨o, ws, ha.trans h, r.mono0 e⟩
    | false => obtain ⟨ws, h, r⟩ := h; exact ⟨ws, ha.trans h, r.mono0 e⟩
theorem ObOk.mono {K : PySem.W.Frag} {mu mu' : List Addr} {H H' : Hp} (e : Ext mu H mu' H') {a : Addr} (ha : H' a = H a) {o : Ob} (h : ObOk K H mu a o) : ObOk K H' mu' a o := h.mono0 e.e0 ha
structure RelSt (K : PySem.W.Frag) (H : Hp) (mu : List Addr) (st : Sto) : Prop where
  len : mu.length = st.length
  nd : mu.Nodup
  ob : ∀ (i : Nat) (a : Addr) (o : Ob), mu[i]? = some a → st[i]? = some o → ObOk K H mu a o
theorem RelSt.at {K : PySem.W.Frag} {H : Hp} {mu : List Addr} {st : Sto} (r : RelSt K H mu st) {i : Nat} {a : Addr} (h : mu[i]? = some a) : ∃ o, st[i]? = some o ∧ ObOk K H mu a o := by
  have hi : i < st.length := by rw [← r.len]; exact (List.getElem?_eq_some_iff.mp h).1
  exact ⟨st[i], List.getElem?_eq_getElem hi, r.ob i a _ h (List.getElem?_eq_getElem hi)⟩
theorem RelSt.notup {K : PySem.W.Frag} {H : Hp} {mu : List Addr} {st : Sto} (r : RelSt K H mu st) {a : Addr} (h : a ∈ mu) : ∃ u, H a = some u ∧ ∀ vs, u ≠ .tup vs := by
  obtain ⟨i, hi⟩ := List.getElem?_of_mem h
  obtain ⟨o, _, ok⟩ := r.at hi
  exact ok.some
theorem nodup_at {mu : List Addr} (hN : mu.Nodup) {i j : Nat} {x : Addr} (a : mu[i]? = some x) (b : mu[j]? = some x) : i = j := by
  obtain ⟨h1, e1⟩ := List.getElem?_eq_some_iff.mp a
  obtain ⟨h2, e2⟩ := List.getElem?_eq_some_iff.mp b
  exact (List.getElem_inj hN).mp (e1.trans e2.symm)
/-- a new thing that is not the store's -/
theorem ext_new {mu : List Addr} {H : Hp} {p : Addr} (hp : H p = none) (o : HO) : Ext mu H mu (upd H p o) :=
  ⟨⟨[], by simp⟩, fun a vs h => by rw [upd_ne (ne_of_none h hp)]; exact h, fun a u h n => ⟨by rw [upd_ne (ne_of_none h hp)]; exact h, n⟩, upd_dom, fun a o u h => by rw [upd_ne (ne_of_none h hp)]; exact h⟩
theorem RelSt.new {K : PySem.W.Frag} {H : Hp} {mu : List Addr} {st : Sto} (r : RelSt K H mu st) {p : Addr} (hp : H p = none) (o : HO) : RelSt K (upd H p o) mu st :=
  ⟨r.len, r.nd, fun i a ob h1 h2 => by
    have k := r.ob i a ob h1 h2
    obtain ⟨u, hu, _⟩ := k.some
    exact k.mono (ext_new hp o) (upd_ne (ne_of_none hu hp))⟩
/-- a thing that stands becomes the store's -/
theorem ext_push {mu : List Addr} {H : Hp} {p : Addr} (hp : H p = none) (o : HO) : Ext mu H (mu ++ [p]) (upd H p o) :=
  ⟨⟨[p], rfl⟩, fun a vs h => by rw [upd_ne (ne_of_none h hp)]; exact h, fun a u h n => ⟨by rw [upd_ne (ne_of_none h hp)]; exact h, by simp only [List.mem_append, List.mem_singleton, not_or]; exact ⟨n, ne_of_none h hp⟩⟩, upd_dom, fun a o u h => by rw [upd_ne (ne_of_none h hp)]; exact h⟩
theorem RelSt.fresh {K : PySem.W.Frag} {H : Hp} {mu : List Addr} {st : Sto} (r : RelSt K H mu st) {p : Addr} (hp : H p = none) : p ∉ mu := fun h => by
  obtain ⟨u, hu, _⟩ := r.notup h
  rw [hp] at hu; cases hu
theorem RelSt.push {K : PySem.W.Frag} {H : Hp} {mu : List Addr} {st : Sto} (r : RelSt K H mu st) {p : Addr} (hp : H p = none) {o : HO} {ob : Ob} (h : ObOk K (upd H p o) (mu ++ [p]) p ob) : RelSt K (upd H p o) (mu ++ [p]) (st ++ [ob]) := by
  refine ⟨by simp [r.len], ?_, fun i a u h1 h2 => ?_⟩
  · rw [List.nodup_append]
    refine ⟨r.nd, by simp, fun a ha b hb => ?_⟩
    simp only [List.mem_singleton] at hb
    subst hb
    intro e; subst e
    exact r.fresh hp ha
  · by_cases hi : i < mu.length
    · rw [List.getElem?_append_left hi] at h1
      rw [List.getElem?_append_left (by rw [← r.len]; exact hi)] at h2
      have k := r.ob i a u h1 h2
      obtain ⟨w, hw, _⟩ := k.some
      exact k.mono (ext_push hp o) (upd_ne (ne_of_none hw hp))
    · have hl := (List.getElem?_eq_some_iff.mp h1).1
      simp at hl
      have e : i = mu.length := by omega
      subst e
      rw [List.getElem?_append_right (Nat.le_refl _)] at h1
      rw [r.len, List.getElem?_append_right (Nat.le_refl _)] at h2
      simp at h1 h2
      subst h1; subst h2
      exact h
/-- an untracked (temporary) thing that stands becomes the store's -/
theorem ext_adopt {mu mu1 : List Addr} {H H' : Hp} {p : Addr} (e : Ext mu H mu1 H') (hp : H p = none) : Ext mu H (mu1 ++ [p]) H' := by
  obtain ⟨r, er⟩ := e.pre
  exact ⟨⟨r ++ [p], by rw [er, List.append_assoc]⟩, e.tup, fun a u h n => ⟨(e.keep a u h n).1, by simp only [List.mem_append, List.mem_singleton, not_or]; exact ⟨(e.keep a u h n).2, ne_of_none h hp⟩⟩, e.dom, e.frz⟩
/-- a thing of the store changes -/
theorem ext_write {K : PySem.W.Frag} {H : Hp} {mu : List Addr} {st : Sto} (r : RelSt K H mu st) {p : Addr} (hp : p ∈ mu) (hf : ∀ ob w, H p ≠ some (.frz ob w)) (o : HO) : Ext mu H mu (upd H p o) := by
  obtain ⟨u, hu, nt⟩ := r.notup hp
  exact ⟨⟨[], by simp⟩, fun a vs h => by
      rw [upd_ne]; exact h
      intro e; subst e; rw [h] at hu; cases hu; exact nt _ rfl,
    fun a w h n => ⟨by rw [upd_ne]; exact h; intro e; subst e; exact n hp, n⟩, upd_dom, fun a ob w h => by rw [upd_ne]; exact h; intro e; subst e; exact hf _ _ h⟩
theorem RelSt.write {K : PySem.W.Frag} {H : Hp} {mu : List Addr} {st : Sto} (r : RelSt K H mu st) {i : Nat} {p : Addr} (hi : mu[i]? = some p) {o : HO} {ob : Ob} (h : ObOk K (upd H p o) mu p ob) : RelSt K (upd H p o) mu (st.set i ob) := by
  have e0 : Ext0 mu H mu (upd H p o) := by
    obtain ⟨u, hu, nt⟩ := r.notup (List.mem_of_getElem? hi)
    exact ⟨⟨[], by simp⟩, fun a vs h' => by
      rw [upd_ne]; exact h'
      intro e; subst e; rw [h'] at hu; cases hu; exact nt _ rfl,
      fun a ob vs h' n => ⟨by rw [upd_ne]; exact h'; intro e; subst e; exact n (List.mem_of_getElem? hi), n⟩⟩
  refine ⟨by simp [r.len], r.nd, fun j a u h1 h2 => ?_⟩
  by_cases hj : j = i
  · subst hj
    rw [hi] at h1; cases h1
    rw [List.getElem?_set_self (by rw [← r.len]; exact (List.getElem?_eq_some_iff.mp hi).1)] at h2
    cases h2
    exact h
  · rw [List.getElem?_set_ne (Ne.symm hj)] at h2
    refine (r.ob j a u h1 h2).mono0 e0 (upd_ne ?_)
    intro e; subst e
    exact hj (nodup_at r.nd h1 hi)
/-- the frame's slots -/
def RelEv (K : PySem.W.Frag) (H : Hp) (mu : List Addr) (σ : L2.St) (ev : Ev) : Prop := σ.length = ev.length ∧ ∀ (i : Nat) (d : D), ev[i]? = some (some d) → ∃ v, σ[i]? = some (some v) ∧ Rp K H mu v d
theorem RelEv.mono {K : PySem.W.Frag} {mu mu' : List Addr} {H H' : Hp} {σ : L2.St} {ev : Ev} (r : RelEv K H mu σ ev) (e : Ext mu H mu' H') : RelEv K H' mu' σ ev :=
  ⟨r.1, fun i d h => let ⟨v, a, b⟩ := r.2 i d h; ⟨v, a, b.mono e⟩⟩
theorem RelEv.set {K : PySem.W.Frag} {mu : List Addr} {H : Hp} {σ : L2.St} {ev : Ev} (r : RelEv K H mu σ ev) {v : V} {d : D} (h : Rp K H mu v d) (i : Nat) : RelEv K H mu (σ.set i (some v)) (ev.set i (some d)) := by
  refine ⟨by simp [r.1], fun j e q => ?_⟩
  by_cases hj : i = j
  · subst hj
    have hl : i < ev.length := by
      have := (List.getElem?_eq_some_iff.mp q).1
      simpa using this
    rw [List.getElem?_set_self hl] at q
    cases q
    exact ⟨v, List.getElem?_set_self (by rw [r.1]; exact hl), h⟩
  · rw [List.getElem?_set_ne hj] at q ⊢
    exact r.2 j e q

/-! ### readings -/
abbrev Wx := Str → L2.St → Hp → Prop
/-- how what an expression gives stands for what its reading gives; H: where it began -/
structure RR (ξ α : Type) where
  r : Hp → Hp → List Addr → Sto → ξ → α → Prop
  anti : ∀ {mu mu1 mu2 : List Addr} {H H1 H2 : Hp} {st : Sto} {x : ξ} {a : α}, Ext mu H mu1 H1 → r H1 H2 mu2 st x a → r H H2 mu2 st x a
def Post {ξ α : Type} (K : PySem.W.Frag) (W : Wx) (R : RR ξ α) (mu : List Addr) (H : Hp) (r : Rs α) (Q : ξ → Hp → Prop) : Prop := match r with
  | .bad => False
  | .ok a st' => ∀ mu' x H', Ext mu H mu' H' → R.r H H' mu' st' x a → RelSt K H' mu' st' → Q x H'
  | .exc c ev' st' => ∀ mu' σ' H', Ext mu H mu' H' → RelEv K H' mu' σ' ev' → RelSt K H' mu' st' → W c σ' H'
theorem Post.from {ξ α : Type} {K : PySem.W.Frag} {W : Wx} {R : RR ξ α} {mu mu1 : List Addr} {H H1 : Hp} {r : Rs α} {Q : ξ → Hp → Prop} (h : Post K W R mu H r Q) (e : Ext mu H mu1 H1) : Post K W R mu1 H1 r Q := by
  cases r with
  | bad => exact h
  | ok a st => exact fun mu' x H' e' q => h mu' x H' (e.trans e') (R.anti e q)
  | exc c ev st => exact fun mu' σ' H' e' => h mu' σ' H' (e.trans e')
theorem Post.bind {ξ ζ α β : Type} {K : PySem.W.Frag} {W : Wx} {R : RR ξ α} {S : RR ζ β} {mu : List Addr} {H : Hp} {r : Rs α} {f : α → Sto → Rs β} {Q : ζ → Hp → Prop} {Q1 : ξ → Hp → Prop}
    (h : Post K W S mu H (r.bind f) Q)
    (k : ∀ a st1 mu1 x H1, r = .ok a st1 → Ext mu H mu1 H1 → R.r H H1 mu1 st1 x a → RelSt K H1 mu1 st1 → Post K W S mu1 H1 (f a st1) Q → Q1 x H1) : Post K W R mu H r Q1 := by
  cases r with
  | bad => exact h
  | ok a st => exact fun mu1 x H1 e r1 s1 => k a st mu1 x H1 rfl e r1 s1 (Post.from h e)
  | exc c ev st => exact h
def tG {ξ α : Type} (K : PySem.W.Frag) (W : Wx) (R : RR ξ α) (m : Mo α) : L2.St → Hp → (ξ → Hp → Prop) → Prop := fun σ H Q =>
  ∃ mu ev st, RelEv K H mu σ ev ∧ RelSt K H mu st ∧ Post K W R mu H (m ev st) Q
def RE (K : PySem.W.Frag) : RR V D := ⟨fun _ H mu _ v d => Rp K H mu v d, fun _ h => h⟩
def RB : RR Bool Bool := ⟨fun _ _ _ _ v d => v = d, fun _ h => h⟩
def RA (K : PySem.W.Frag) : RR (List V) (List D) := ⟨fun _ H mu _ v d => Rps K H mu v d, fun _ h => h⟩
/-- a new list that nobody holds yet -/
def RL (K : PySem.W.Frag) : RR V (List D) := ⟨fun H0 H mu _ v ds => ∃ p vs, v = .ref p ∧ H0 p = none ∧ H p = some (.lst vs) ∧ p ∉ mu ∧ Rps K H mu vs ds, fun e ⟨p, vs, a, b, c⟩ => ⟨p, vs, a, e.dom p b, c⟩⟩
abbrev tE (K : PySem.W.Frag) (W : Wx) (m : Mo D) : TE := tG K W (RE K) m
abbrev tT (K : PySem.W.Frag) (W : Wx) (m : Mo Bool) : TT := tG K W RB m
abbrev tA (K : PySem.W.Frag) (W : Wx) (m : Mo (List D)) : TA := tG K W (RA K) m
abbrev tL (K : PySem.W.Frag) (W : Wx) (m : Mo (List D)) : TE := tG K W (RL K) m
inductive Fl where
  | nx | rt (d : D) | bk | ct
abbrev Ms := Ev → Sto → Rs (Fl × Ev)
def PostS (K : PySem.W.Frag) (W : Wx) (mu : List Addr) (H : Hp) (r : Rs (Fl × Ev)) (D : Ends) : Prop := match r with
  | .bad => False
  | .ok (fl, ev') st' => ∀ mu' σ' H', Ext mu H mu' H' → RelEv K H' mu' σ' ev' → RelSt K H' mu' st' → (match fl with
    | .nx => D.nx σ' H'
    | .bk => D.bk σ' H'
    | .ct => D.ct σ' H'
    | .rt d => ∀ v, Rp K H' mu' v d → D.rt v H')
  | .exc c ev' st' => ∀ mu' σ' H', Ext mu H mu' H' → RelEv K H' mu' σ' ev' → RelSt K H' mu' st' → W c σ' H'
theorem PostS.from {K : PySem.W.Frag} {W : Wx} {mu mu1 : List Addr} {H H1 : Hp} {r : Rs (Fl × Ev)} {D : Ends} (h : PostS K W mu H r D) (e : Ext mu H mu1 H1) : PostS K W mu1 H1 r D := by
  cases r with
  | bad => exact h
  | ok a st => exact fun mu' x H' e' => h mu' x H' (e.trans e')
  | exc c ev st => exact fun mu' σ' H' e' => h mu' σ' H' (e.trans e')
def tS (K : PySem.W.Frag) (W : Wx) (m : Ms) : TS := fun D σ H => ∃ mu ev st, RelEv K H mu σ ev ∧ RelSt K H mu st ∧ PostS K W mu H (m ev st) D
/-- an expression first, then the rest of a statement -/
theorem PostS.bind {ξ α : Type} {K : PySem.W.Frag} {W : Wx} {R : RR ξ α} {mu : List Addr} {H : Hp} {r : Rs α} {f : α → Sto → Rs (Fl × Ev)} {D : Ends} {Q1 : ξ → Hp → Prop}
    (h : PostS K W mu H (r.bind f) D)
    (k : ∀ a st1 mu1 x H1, r = .ok a st1 → Ext mu H mu1 H1 → R.r H H1 mu1 st1 x a → RelSt K H1 mu1 st1 → PostS K W mu1 H1 (f a st1) D → Q1 x H1) : Post K W R mu H r Q1 := by
  cases r with
  | bad => exact h
  | ok a st => exact fun mu1 x H1 e r1 s1 => k a st mu1 x H1 rfl e r1 s1 (PostS.from h e)
  | exc c ev st => exact h
theorem PE.imp {X : Cx} {e : Expr} {t t' : TE} (h : PE X e t) (k : ∀ σ H Q, t' σ H Q → t σ H Q) : PE X e t' := ⟨fun pins s σ H Q I hw => h.run pins s σ H Q I (k σ H Q hw)⟩
theorem PT.imp {X : Cx} {e : Expr} {t t' : TT} (h : PT X e t) (k : ∀ σ H Q, t' σ H Q → t σ H Q) : PT X e t' := ⟨fun pins s σ H Q I hw => h.run pins s σ H Q I (k σ H Q hw)⟩
theorem PW.imp {X : Cx} {e : Expr} {t t' : TT} (h : PW X e t) (k : ∀ σ H Q, t' σ H Q → t σ H Q) : PW X e t' := ⟨fun wh pins s σ H Q I hw => h.run wh pins s σ H Q I (k σ H Q hw)⟩
theorem PA.imp {X : Cx} {e : List Expr} {t t' : TA} (h : PA X e t) (k : ∀ σ H Q, t' σ H Q → t σ H Q) : PA X e t' := ⟨fun pos pins s σ H Q I hw => h.run pos pins s σ H Q I (k σ H Q hw)⟩
theorem PS.imp {X : Cx} {e : Stmt} {t t' : TS} (h : PS X e t) (k : ∀ D σ H, t' D σ H → t D σ H) : PS X e t' := ⟨fun pins s σ H D I hw => h.run pins s σ H D I (k D σ H hw)⟩
theorem PSs.imp {X : Cx} {e : List Stmt} {t t' : TS} (h : PSs X e t) (k : ∀ D σ H, t' D σ H → t D σ H) : PSs X e t' := ⟨fun pins s σ H D I hw => h.run pins s σ H D I (k D σ H hw)⟩
end Ml

namespace Ml
open PySem L2
/-- the most items of a row, signs of a text -/
def lim : Nat := 1000000
theorem lim_le {n : Nat} (h : n ≤ lim) : n ≤ sizeLine := Nat.le_trans h (by rw [sizeLine_eq]; decide)
theorem lim_lt {n : Nat} (h : n ≤ lim) : n < sizeLine := Nat.lt_of_le_of_lt h (by rw [sizeLine_eq]; decide)

/-! ### names, constants, rows of expressions -/
def mC (d : D) : Mo D := fun _ st => .ok d st
def mVar (i : Nat) : Mo D := fun ev st => match ev[i]? with
  | some (some d) => .ok d st
  | _ => .bad
def mNil : Mo (List D) := fun _ st => .ok [] st
def mCons (m : Mo D) (r : Mo (List D)) : Mo (List D) := fun ev st => (m ev st).bind fun d st1 => (r ev st1).bind fun ds st2 => .ok (d :: ds) st2
def mTup (r : Mo (List D)) : Mo D := fun ev st => (r ev st).bind fun ds st1 => if ds.length ≤ lim then .ok (.tup ds) st1 else .bad
def mDisp (r : Mo (List D)) : Mo (List D) := fun ev st => (r ev st).bind fun ds st1 => if ds.length ≤ lim then .ok ds st1 else .bad
/-- a new list goes to the store -/
def mKeep (m : Mo (List D)) : Mo D := fun ev st => (m ev st).bind fun ds st1 => .ok (.ref st1.length) (st1 ++ [.lst ds])

variable {X : Cx} {W : Wx} {a b c e : Expr} {es rest : List Expr} {pos : Pos} {ma mb mc : Mo D} {mr : Mo (List D)} {ta tb : Mo Bool}
theorem me_var {i : Nat} {x : Str} (h : PE X (.Name x pos) (tVar i)) : PE X (.Name x pos) (tE X.K W (mVar i)) := by
  refine PE.imp h fun σ H Q ⟨mu, ev, st, he, hs, hp⟩ => ?_
  unfold mVar at hp
  split at hp
  · rename_i d q
    obtain ⟨v, hv, r⟩ := he.2 i d q
    exact ⟨v, hv, hp _ _ _ .refl r hs⟩
  · exact hp.elim
theorem me_int {i : Int} {j : Nat} : PE X (.Constant (.int i) j pos) (tE X.K W (mC (.int i))) := PE.imp pe_int fun σ H Q ⟨mu, ev, st, he, hs, hp⟩ => hp _ _ _ .refl (.int i) hs
theorem me_bl {i : Bool} {j : Nat} : PE X (.Constant (.bool i) j pos) (tE X.K W (mC (.bl i))) := PE.imp pe_bl fun σ H Q ⟨mu, ev, st, he, hs, hp⟩ => hp _ _ _ .refl (.bl i) hs
theorem me_non {j : Nat} : PE X (.Constant .none j pos) (tE X.K W (mC .non)) := PE.imp pe_non fun σ H Q ⟨mu, ev, st, he, hs, hp⟩ => hp _ _ _ .refl .non hs
theorem me_str {i : Str} {j : Nat} : PE X (.Constant (.str i) j pos) (tE X.K W (mC (.str i))) := PE.imp pe_str fun σ H Q ⟨mu, ev, st, he, hs, hp⟩ => hp _ _ _ .refl (.str i) hs
/-- a constant of the module: v stands for d wherever one is -/
theorem me_glob {x : Str} {v : V} {d : D} (h : PE X (.Name x pos) (tC v)) (r : ∀ H mu, Rp X.K H mu v d) : PE X (.Name x pos) (tE X.K W (mC d)) := PE.imp h fun σ H Q ⟨mu, ev, st, he, hs, hp⟩ => hp _ _ _ .refl (r _ _) hs
theorem ma_nil : PA X [] (tA X.K W mNil) := PA.imp pa_nil fun σ H Q ⟨mu, ev, st, he, hs, hp⟩ => hp _ _ _ .refl .nil hs
theorem ma_cons (ha : PE X e (tE X.K W ma)) (hr : PA X es (tA X.K W mr)) (hs : starEach (e :: es) X.env = (false, eval e X.env) :: starEach es X.env := by rfl) : PA X (e :: es) (tA X.K W (mCons ma mr)) := by
  refine PA.imp (pa_cons ha hr hs) fun σ H Q ⟨mu, ev, st, he, hst, hp⟩ => ?_
  refine ⟨mu, ev, st, he, hst, hp.bind fun d st1 mu1 x H1 _ e1 r1 s1 hp1 => ?_⟩
  refine ⟨mu1, ev, st1, he.mono e1, s1, hp1.bind fun ds st2 mu2 xs H2 _ e2 r2 s2 hp2 => ?_⟩
  exact hp2 _ _ _ .refl (.cons (Rp.mono e2 r1) r2) s2
theorem Rps.ctx {K : PySem.W.Frag} {H : Hp} {mu : List Addr} {p : Addr} {o : HO} (hp : H p = none) {vs : List V} {ds : List D} (h : Rps K H mu vs ds) : Rps K (upd H p o) mu vs ds := h.mono (ext_new hp o)
theorem me_tup {k : Nat} (h : PA X es (tA X.K W mr)) : PE X (.Tuple es k pos) (tE X.K W (mTup mr)) := by
  refine PE.imp (pe_tup h) fun σ H Q ⟨mu, ev, st, he, hst, hp⟩ => ?_
  refine ⟨mu, ev, st, he, hst, hp.bind fun ds st1 mu1 xs H1 _ e1 r1 s1 hp1 => ?_⟩
  split at hp1
  · rename_i hl
    refine ⟨by rw [Rps.length r1]; exact lim_le hl, fun p hn => ?_⟩
    exact hp1 _ _ _ (ext_new hn _) (.tup (.inl upd_same) (Rps.ctx hn r1)) (s1.new hn _)
  · exact hp1.elim
theorem ml_lst (h : PA X es (tA X.K W mr)) : PE X (.List es pos) (tL X.K W (mDisp mr)) := by
  refine PE.imp (pe_lst h) fun σ H Q ⟨mu, ev, st, he, hst, hp⟩ => ?_
  refine ⟨mu, ev, st, he, hst, hp.bind fun ds st1 mu1 xs H1 _ e1 r1 s1 hp1 => ?_⟩
  split at hp1
  · rename_i hl
    refine ⟨by rw [Rps.length r1]; exact lim_le hl, fun p hn => ?_⟩
    exact hp1 _ _ _ (ext_new hn _) ⟨p, xs, rfl, hn, upd_same, s1.fresh hn, Rps.ctx hn r1⟩ (s1.new hn _)
  · exact hp1.elim
theorem adopt {K : PySem.W.Frag} {H : Hp} {mu : List Addr} {st : Sto} (r : RelSt K H mu st) {p : Addr} {vs : List V} {ds : List D} (hp : H p = some (.lst vs)) (hn : p ∉ mu) (hr : Rps K H mu vs ds) :
    Rp K H (mu ++ [p]) (.ref p) (.ref st.length) ∧ RelSt K H (mu ++ [p]) (st ++ [.lst ds]) := by
  have q : mu.length = st.length := r.len
  have e0 : Ext0 mu H (mu ++ [p]) H := ⟨⟨[p], rfl⟩, fun _ _ h => h, fun a o vs h n => ⟨h, by simp only [List.mem_append, List.mem_singleton, not_or]; exact ⟨n, fun e => by subst e; rw [hp] at h; cases h⟩⟩⟩
  refine ⟨.ref (by rw [← q]; simp), ⟨by simp [q], ?_, fun i a u h1 h2 => ?_⟩⟩
  · rw [List.nodup_append]
    refine ⟨r.nd, by simp, fun a ha b hb => ?_⟩
    simp only [List.mem_singleton] at hb
    subst hb
    intro e; subst e
    exact hn ha
  · by_cases hi : i < mu.length
    · rw [List.getElem?_append_left hi] at h1
      rw [List.getElem?_append_left (by rw [← q]; exact hi)] at h2
      have k := r.ob i a u h1 h2
      exact k.mono0 e0 rfl
    · have hl := (List.getElem?_eq_some_iff.mp h1).1
      simp at hl
      have e : i = mu.length := by omega
      subst e
      rw [List.getElem?_append_right (Nat.le_refl _)] at h1
      rw [q, List.getElem?_append_right (Nat.le_refl _)] at h2
      simp at h1 h2
      subst h1; subst h2
      exact ⟨vs, hp, hr.mono0 e0⟩
theorem me_keep (h : PE X e (tL X.K W mr)) : PE X e (tE X.K W (mKeep mr)) := by
  refine PE.imp h fun σ H Q ⟨mu, ev, st, he, hst, hp⟩ => ?_
  refine ⟨mu, ev, st, he, hst, ?_⟩
  unfold mKeep at hp
  cases hr : mr ev st with
  | bad => rw [hr] at hp; exact hp
  | exc c e s => rw [hr] at hp; exact hp
  | ok ds st1 =>
    rw [hr] at hp
    intro mu1 x H1 e1 ⟨p, vs, ex, h0, hpp, hn, rs⟩ s1
    subst ex
    obtain ⟨k1, k2⟩ := adopt s1 hpp hn rs
    exact hp (mu1 ++ [p]) (.ref p) H1 (ext_adopt e1 h0) k1 k2
end Ml

namespace Ml
open PySem L2
/-! ### operators by values -/
abbrev G2 := D → D → Sto → Option (D × Sto)
abbrev G1 := D → Sto → Option (D × Sto)
abbrev GA := List D → Sto → Option (D × Sto)
def Rs.of {α : Type} : Option (α × Sto) → Rs α
  | some (d, st) => .ok d st
  | none => .bad
def mOp (g : G2) (ma mb : Mo D) : Mo D := fun ev st => (ma ev st).bind fun a st1 => (mb ev st1).bind fun b st2 => Rs.of (g a b st2)
def mUn (g : G1) (ma : Mo D) : Mo D := fun ev st => (ma ev st).bind fun a st1 => Rs.of (g a st1)
def mCB (g : GA) (mr : Mo (List D)) : Mo D := fun ev st => (mr ev st).bind fun ds st1 => Rs.of (g ds st1)
/-- the reading r of two values does what g does of two data -/
def OpS (K : PySem.W.Frag) (r : R2) (g : G2) : Prop := ∀ (mu : List Addr) (H : Hp) (st st' : Sto) (x y : V) (a b d : D) (Q : VK), RelSt K H mu st → Rp K H mu x a → Rp K H mu y b → g a b st = some (d, st') →
  (∀ mu' v H', Ext mu H mu' H' → Rp K H' mu' v d → RelSt K H' mu' st' → Q v H') → r x y H Q
def UnS (K : PySem.W.Frag) (r : V → Hp → VK → Prop) (g : G1) : Prop := ∀ (mu : List Addr) (H : Hp) (st st' : Sto) (x : V) (a d : D) (Q : VK), RelSt K H mu st → Rp K H mu x a → g a st = some (d, st') →
  (∀ mu' v H', Ext mu H mu' H' → Rp K H' mu' v d → RelSt K H' mu' st' → Q v H') → r x H Q
def CallS (K : PySem.W.Frag) (r : List V → Hp → VK → Prop) (g : GA) : Prop := ∀ (mu : List Addr) (H : Hp) (st st' : Sto) (xs : List V) (as : List D) (d : D) (Q : VK), RelSt K H mu st → Rps K H mu xs as → g as st = some (d, st') →
  (∀ mu' v H', Ext mu H mu' H' → Rp K H' mu' v d → RelSt K H' mu' st' → Q v H') → r xs H Q
variable {X : Cx} {W : Wx} {a b c e : Expr} {es rest : List Expr} {pos p : Pos} {ma mb mc : Mo D} {mr : Mo (List D)} {ta tb : Mo Bool}
theorem post_of {K : PySem.W.Frag} {mu : List Addr} {H : Hp} {o : Option (D × Sto)} {Q : VK} (h : Post K W (RE K) mu H (Rs.of o) Q) :
    ∃ d st', o = some (d, st') ∧ ∀ mu' v H', Ext mu H mu' H' → Rp K H' mu' v d → RelSt K H' mu' st' → Q v H' := by
  cases o with
  | none => exact h.elim
  | some p => obtain ⟨d, st'⟩ := p; exact ⟨d, st', rfl, h⟩
theorem opS_go {r : R2} {g : G2} (hs : OpS X.K r g) {σ : L2.St} {H : Hp} {Q : VK} (h : tE X.K W (mOp g ma mb) σ H Q) : tOp r (tE X.K W ma) (tE X.K W mb) σ H Q := by
  obtain ⟨mu, ev, st, he, hst, hp⟩ := h
  refine ⟨mu, ev, st, he, hst, hp.bind fun d st1 mu1 x H1 _ e1 r1 s1 hp1 => ?_⟩
  refine ⟨mu1, ev, st1, he.mono e1, s1, hp1.bind fun d2 st2 mu2 y H2 _ e2 r2 s2 hp2 => ?_⟩
  obtain ⟨d, st', eq, k⟩ := post_of hp2
  exact hs mu2 H2 st2 st' x y _ _ d Q s2 (Rp.mono e2 r1) r2 eq k
theorem me_op {op : Operator} {r : R2} {g : G2} (ho : OpR X (binaryOp op) r) (hs : OpS X.K r g) (ha : PE X a (tE X.K W ma)) (hb : PE X b (tE X.K W mb)) : PE X (.BinOp a op b pos) (tE X.K W (mOp g ma mb)) :=
  PE.imp (pe_op ho ha hb) fun _ _ _ h => opS_go hs h
theorem me_un {op : UnaryOp} {r : V → Hp → VK → Prop} {g : G1} (ho : UnR X (unaryOp op) r) (hs : UnS X.K r g) (ha : PE X a (tE X.K W ma)) : PE X (.UnaryOp op a pos) (tE X.K W (mUn g ma)) := by
  refine PE.imp (pe_un ho ha) fun σ H Q ⟨mu, ev, st, he, hst, hp⟩ => ?_
  refine ⟨mu, ev, st, he, hst, hp.bind fun d st1 mu1 x H1 _ e1 r1 s1 hp1 => ?_⟩
  obtain ⟨d, st', eq, k⟩ := post_of hp1
  exact hs mu1 H1 st1 st' x _ d Q s1 r1 eq k
theorem me_cmp {op : CmpOp} {r : R2} {g : G2} (ho : OpR X (compareOp op) r) (hs : OpS X.K r g) (ha : PE X a (tE X.K W ma)) (hb : PE X b (tE X.K W mb)) (hm : behindInMarks op b = false) : PE X (.Compare a [op] [b] pos) (tE X.K W (mOp g ma mb)) :=
  PE.imp (pe_cmpR ho ha hb hm) fun _ _ _ h => opS_go hs h
theorem me_ix {r : R2} {g : G2} (ho : IxR X r) (hs : OpS X.K r g) (ha : PE X a (tE X.K W ma)) (hb : PE X b (tE X.K W mb)) (hx : PlainIx b) : PE X (.Subscript a b pos) (tE X.K W (mOp g ma mb)) :=
  PE.imp (pe_ix ho ha hb hx) fun _ _ _ h => opS_go hs h
theorem callS_go {r : List V → Hp → VK → Prop} {g : GA} (hs : CallS X.K r g) {σ : L2.St} {H : Hp} {Q : VK} (h : tE X.K W (mCB g mr) σ H Q) : tCB r (tA X.K W mr) σ H Q := by
  obtain ⟨mu, ev, st, he, hst, hp⟩ := h
  refine ⟨mu, ev, st, he, hst, hp.bind fun d st1 mu1 x H1 _ e1 r1 s1 hp1 => ?_⟩
  obtain ⟨d, st', eq, k⟩ := post_of hp1
  exact hs mu1 H1 st1 st' x _ d Q s1 r1 eq k
theorem me_callB {id : String} {x : Str} {r : List V → Hp → VK → Prop} {g : GA} (hc : CallR X (.builtin id) r) (hs : CallS X.K r g) (hg : Gl X x) (hm : X.mg x = none) (hv : bootBuiltins x = some (.builtin id)) (ha : PA X (e :: es) (tA X.K W mr)) (hn : x ≠ "__name__" := by decide) (hdb : (x == ("__debug__" : Str)) = false := by decide)
    (he : starEach (e :: es) X.env = (false, eval e X.env) :: starEach es X.env := by rfl) (hpl : (backTo pos (starEach es X.env)).any (·.1) = false := by rfl) : PE X (.Call (.Name x p) (e :: es) [] pos) (tE X.K W (mCB g mr)) :=
  PE.imp (pe_callB hc hg hm hv ha hn hdb he hpl) fun _ _ _ h => callS_go hs h
theorem me_callTy {id : String} {x : Str} {r : List V → Hp → VK → Prop} {g : GA} (hc : CallR X (.type id) r) (hs : CallS X.K r g) (hg : Gl X x) (hm : X.mg x = none) (hv : bootBuiltins x = some (.type id)) (ha : PA X (e :: es) (tA X.K W mr)) (hn : x ≠ "__name__" := by decide) (hdb : (x == ("__debug__" : Str)) = false := by decide)
    (he : starEach (e :: es) X.env = (false, eval e X.env) :: starEach es X.env := by rfl) (hpl : (backTo pos (starEach es X.env)).any (·.1) = false := by rfl) : PE X (.Call (.Name x p) (e :: es) [] pos) (tE X.K W (mCB g mr)) :=
  PE.imp (pe_callTy hc hg hm hv ha hn hdb he hpl) fun _ _ _ h => callS_go hs h
theorem OpS.or {K : PySem.W.Frag} {r r' : R2} {g g' : G2} (h : OpS K r g) (h' : OpS K r' g') : OpS K (fun x y H Q => r x y H Q ∨ r' x y H Q) (fun a b st => match g a b st with | some z => some z | none => g' a b st) := by
  intro mu H st st' x y a b d Q hs hx hy e k
  simp only at e
  split at e
  · rename_i z q
    cases e
    exact .inl (h mu H st st' x y a b d Q hs hx hy q k)
  · exact .inr (h' mu H st st' x y a b d Q hs hx hy e k)
/-! ### whole numbers, texts, tuples -/
def gI (f : Int → Int → D) : G2 := fun a b st => match a, b with
  | .int i, .int j => some (f i j, st)
  | _, _ => none
def gIc (C : Int → Int → Bool) (f : Int → Int → D) : G2 := fun a b st => match a, b with
  | .int i, .int j => if C i j = true then some (f i j, st) else none
  | _, _ => none
/-- a value without address stands for itself -/
def vD : V → D
  | .bl b => .bl b
  | .int i => .int i
  | .str x => .str x
  | _ => .non
def plainV : V → Bool
  | .bl _ => true
  | .int _ => true
  | .str _ => true
  | .non => true
  | _ => false
theorem rp_plain {K : PySem.W.Frag} {H : Hp} {mu : List Addr} {v : V} (h : plainV v = true) : Rp K H mu v (vD v) := by
  cases v <;> first | exact .non | exact .bl _ | exact .int _ | exact .str _ | cases h
theorem opS_I0 {K : PySem.W.Frag} {f : Int → Int → V} (hf : ∀ i j, plainV (f i j) = true) : OpS K (rI0 f) (gI fun i j => vD (f i j)) := by
  intro mu H st st' x y a b d Q hs hx hy e k
  unfold gI at e
  split at e
  · cases e; cases hx; cases hy
    exact ⟨_, _, rfl, rfl, k _ _ _ .refl (rp_plain (hf _ _)) hs⟩
  · cases e
theorem opS_I {K : PySem.W.Frag} {C : Int → Int → Prop} {Cb : Int → Int → Bool} {f : Int → Int → V} (hC : ∀ i j, Cb i j = true → C i j) (hf : ∀ i j, plainV (f i j) = true) : OpS K (rI C f) (gIc Cb fun i j => vD (f i j)) := by
  intro mu H st st' x y a b d Q hs hx hy e k
  unfold gIc at e
  split at e
  · split at e
    · rename_i hc
      cases e; cases hx; cases hy
      exact ⟨_, _, rfl, rfl, hC _ _ hc, k _ _ _ .refl (rp_plain (hf _ _)) hs⟩
    · cases e
  · cases e
def gAddS : G2 := fun a b st => match a, b with
  | .str x, .str y => if x.length + y.length ≤ lim then some (.str (x ++ y), st) else none
  | _, _ => none
def gCatT : G2 := fun a b st => match a, b with
  | .tup xs, .tup ys => if xs.length + ys.length ≤ lim then some (.tup (xs ++ ys), st) else none
  | _, _ => none
theorem opS_addS {K : PySem.W.Frag} : OpS K (fun x y H Q => ∃ i j, x = .str i ∧ y = .str j ∧ i.length + j.length ≤ sizeLine ∧ Q (.str (i ++ j)) H) gAddS := by
  intro mu H st st' x y a b d Q hs hx hy e k
  unfold gAddS at e
  split at e
  · split at e
    · rename_i hc
      cases e; cases hx; cases hy
      exact ⟨_, _, rfl, rfl, lim_le hc, k _ _ _ .refl (.str _) hs⟩
    · cases e
  · cases e
theorem Rps.nil_iff {K : PySem.W.Frag} {H : Hp} {mu : List Addr} {vs : List V} {ds : List D} (h : Rps K H mu vs ds) : vs = [] ↔ ds = [] := by
  cases h <;> simp
theorem opS_catT {K : PySem.W.Frag} : OpS K (rCatA K) gCatT := by
  intro mu H st st' x y a b d Q hs hx hy e k
  unfold gCatT at e
  split at e
  · split at e
    · rename_i xs ys hc
      cases e
      cases hx with
      | tup h1 r1 =>
        cases hy with
        | tup h2 r2 =>
          rename_i p1 vs q1 ws
          refine ⟨p1, q1, vs, ws, rfl, rfl, h1.sq, h2.sq, by rw [Rps.length r1, Rps.length r2]; exact lim_le hc, fun e0 => ?_, fun e0 e1 => ?_, fun _ _ p hp => ?_⟩
          · have e1 := (Rps.nil_iff r1).mp e0
            subst e1
            exact k _ _ _ .refl (.tup h2 (by simpa using r2)) hs
          · have e2 := (Rps.nil_iff r2).mp e1
            subst e2
            exact k _ _ _ .refl (.tup h1 (by simpa using r1)) hs
          · exact k _ _ _ (ext_new hp _) (.tup (.inl upd_same) ((r1.append r2).ctx hp)) (hs.new hp _)
    · cases e
  · cases e
/-- + -/
def gAdd : G2 := fun a b st => match gI (fun i j => .int (i + j)) a b st with
  | some z => some z
  | none => match gAddS a b st with
    | some z => some z
    | none => gCatT a b st
def rAddA (K : PySem.W.Frag) : R2 := fun x y H Q => rI0 (fun i j => .int (i + j)) x y H Q ∨ (∃ i j, x = .str i ∧ y = .str j ∧ i.length + j.length ≤ sizeLine ∧ Q (.str (i ++ j)) H) ∨ rCatA K x y H Q
theorem op_addA : OpR X (binaryOp .Add) (rAddA X.K) := op_add.or (op_add_str.or op_catA)
theorem opS_add {K : PySem.W.Frag} : OpS K (rAddA K) gAdd := (opS_I0 (f := fun i j => .int (i + j)) (fun _ _ => rfl)).or (opS_addS.or opS_catT)
theorem me_add (ha : PE X a (tE X.K W ma)) (hb : PE X b (tE X.K W mb)) : PE X (.BinOp a .Add b pos) (tE X.K W (mOp gAdd ma mb)) := me_op op_addA opS_add ha hb
def gSub : G2 := gI fun i j => .int (i - j)
theorem me_sub (ha : PE X a (tE X.K W ma)) (hb : PE X b (tE X.K W mb)) : PE X (.BinOp a .Sub b pos) (tE X.K W (mOp gSub ma mb)) := me_op op_sub (opS_I0 (f := fun i j => .int (i - j)) (fun _ _ => rfl)) ha hb
def small64 (i : Int) : Bool := decide (i.natAbs < 18446744073709551616)
def gMul : G2 := gIc (fun i j => small64 i || small64 j) fun i j => .int (i * j)
theorem cmul_of {i j : Int} (h : (small64 i || small64 j) = true) : CMul i j := by
  unfold small64 at h
  rw [Bool.or_eq_true] at h
  unfold CMul
  rcases h with h | h
  · have h := of_decide_eq_true h
    left; constructor <;> omega
  · have h := of_decide_eq_true h
    right; constructor <;> omega
theorem me_mul (ha : PE X a (tE X.K W ma)) (hb : PE X b (tE X.K W mb)) : PE X (.BinOp a .Mult b pos) (tE X.K W (mOp gMul ma mb)) := me_op op_mul (opS_I (Cb := fun i j => small64 i || small64 j) (f := fun i j => .int (i * j)) (fun _ _ => cmul_of) (fun _ _ => rfl)) ha hb
def gMod : G2 := gIc (fun _ j => decide (0 < j)) fun i j => .int (i % j)
theorem me_mod (ha : PE X a (tE X.K W ma)) (hb : PE X b (tE X.K W mb)) : PE X (.BinOp a .Mod b pos) (tE X.K W (mOp gMod ma mb)) := me_op op_mod (opS_I (Cb := fun _ j => decide (0 < j)) (f := fun i j => .int (i % j)) (fun _ _ h => of_decide_eq_true h) (fun _ _ => rfl)) ha hb
/-- a divisor of at most 200 bits -/
def gDiv : G2 := gIc (fun _ j => decide (0 < j) && decide (j.natAbs < 2 ^ 200)) fun i j => .int (i / j)
theorem me_div (ha : PE X a (tE X.K W ma)) (hb : PE X b (tE X.K W mb)) : PE X (.BinOp a .FloorDiv b pos) (tE X.K W (mOp gDiv ma mb)) :=
  me_op op_fdivW (opS_I (Cb := fun _ j => decide (0 < j) && decide (j.natAbs < 2 ^ 200)) (f := fun i j => .int (i / j)) (fun _ _ h => by
    rw [Bool.and_eq_true] at h
    exact wide_div (b := 200) (of_decide_eq_true h.1) (of_decide_eq_true h.2) (by decide) (by decide)) (fun _ _ => rfl)) ha hb
def gNeg : G1 := fun a st => match a with
  | .int i => some (.int (-i), st)
  | _ => none
theorem me_neg (ha : PE X a (tE X.K W ma)) : PE X (.UnaryOp .USub a pos) (tE X.K W (mUn gNeg ma)) := by
  refine me_un un_neg ?_ ha
  intro mu H st st' x a d Q hs hx e k
  unfold gNeg at e
  split at e
  · cases e; cases hx; exact ⟨_, rfl, k _ _ _ .refl (.int _) hs⟩
  · cases e
def gLt : G2 := gI fun i j => .bl (decide (i < j))
def gLe : G2 := gI fun i j => .bl (decide (i ≤ j))
def gGt : G2 := gI fun i j => .bl (decide (j < i))
def gGe : G2 := gI fun i j => .bl (decide (j ≤ i))
theorem opS_lt {K : PySem.W.Frag} : OpS K (rI0 fun i j => .bl (decide (i < j))) gLt := opS_I0 (f := fun i j => .bl (decide (i < j))) fun _ _ => rfl
theorem opS_le {K : PySem.W.Frag} : OpS K (rI0 fun i j => .bl (decide (i ≤ j))) gLe := opS_I0 (f := fun i j => .bl (decide (i ≤ j))) fun _ _ => rfl
theorem opS_gt {K : PySem.W.Frag} : OpS K (rI0 fun i j => .bl (decide (j < i))) gGt := opS_I0 (f := fun i j => .bl (decide (j < i))) fun _ _ => rfl
theorem opS_ge {K : PySem.W.Frag} : OpS K (rI0 fun i j => .bl (decide (j ≤ i))) gGe := opS_I0 (f := fun i j => .bl (decide (j ≤ i))) fun _ _ => rfl

/-! ### == of data -/
mutual
def D.pd : D → PyData
  | .non => .none
  | .bl b => .bool b
  | .int i => .int i
  | .str x => .str x
  | .tup ds => .tuple (pds ds)
  | .ref _ => .none
  | .ro _ => .none
def pds : List D → List PyData
  | [] => []
  | d :: ds => d.pd :: pds ds
end
mutual
/-- no list within, at most n deep -/
def D.dok (n : Nat) : D → Bool
  | .non => true
  | .bl _ => true
  | .int _ => true
  | .str x => PyData.strOk x
  | .tup ds => match n with
    | 0 => false
    | k + 1 => doks k ds
  | .ref _ => false
  | .ro _ => false
def doks (n : Nat) : List D → Bool
  | [] => true
  | d :: ds => d.dok n && doks n ds
end
mutual
theorem Rp.dp {K : PySem.W.Frag} {H : Hp} {mu : List Addr} : ∀ {v : V} {d : D} {n : Nat}, Rp K H mu v d → d.dok n = true → Dp K H v d.pd
  | _, _, _, .non, _ => .non
  | _, _, _, .bl b, _ => .bl b
  | _, _, _, .int i, _ => .int i
  | _, _, _, .str x, _ => .str x
  | _, _, 0, .tup _ _, q => by simp [D.dok] at q
  | _, _, n + 1, .tup h hs, q => .tup h.sq (Rps.dp hs (by simpa [D.dok] using q))
  | _, _, _, .ref _, q => by simp [D.dok] at q
  | _, _, _, .ro _ _, q => by simp [D.dok] at q
theorem Rps.dp {K : PySem.W.Frag} {H : Hp} {mu : List Addr} : ∀ {vs : List V} {ds : List D} {n : Nat}, Rps K H mu vs ds → doks n ds = true → DpAll K H vs (pds ds)
  | _, _, _, .nil, _ => .nil
  | _, _, n, .cons h hs, q => by
    simp only [doks, Bool.and_eq_true] at q
    exact .cons (Rp.dp h q.1) (Rps.dp hs q.2)
end
mutual
theorem dok_can : ∀ {d : D} {n : Nat}, d.dok n = true → d.pd.canLay0 = true ∧ d.pd.depth ≤ n + 1
  | .non, n, _ => ⟨by simp [D.pd, PyData.canLay0], by simp [D.pd, PyData.depth]⟩
  | .bl b, n, _ => ⟨by simp [D.pd, PyData.canLay0], by simp [D.pd, PyData.depth]⟩
  | .int i, n, _ => ⟨by simp [D.pd, PyData.canLay0], by simp [D.pd, PyData.depth]⟩
  | .str x, n, q => ⟨by simpa [D.pd, PyData.canLay0, D.dok] using q, by simp [D.pd, PyData.depth]⟩
  | .tup ds, 0, q => by simp [D.dok] at q
  | .tup ds, n + 1, q => by
    have h := doks_can (ds := ds) (n := n) (by simpa [D.dok] using q)
    refine ⟨by simpa [D.pd, PyData.canLay0] using h.1, ?_⟩
    simp only [D.pd, PyData.depth]
    have := h.2
    omega
  | .ref _, _, q => by simp [D.dok] at q
  | .ro _, _, q => by simp [D.dok] at q
theorem doks_can : ∀ {ds : List D} {n : Nat}, doks n ds = true → PyData.canLayAll0 (pds ds) = true ∧ PyData.depthAll (pds ds) ≤ n + 1
  | [], n, _ => ⟨by simp [pds, PyData.canLayAll0], by simp [pds, PyData.depthAll]⟩
  | d :: ds, n, q => by
    simp only [doks, Bool.and_eq_true] at q
    have h1 := dok_can q.1
    have h2 := doks_can q.2
    refine ⟨by simp [pds, PyData.canLayAll0, h1.1, h2.1], ?_⟩
    simp only [pds, PyData.depthAll]
    have := h1.2; have := h2.2
    omega
end
theorem dok_shaped {d : D} (h : d.dok 60 = true) : SeqAt.shaped d.pd = true := by
  obtain ⟨h1, h2⟩ := dok_can h
  unfold SeqAt.shaped
  rw [h1, Bool.true_and]
  exact decide_eq_true (by omega)
def deq (a b : D) : Bool := PyData.eqv a.pd b.pd
/-- two texts, two whole numbers, two truths -/
def scalD : D → D → Bool
  | .str _, .str _ => true
  | .int _, .int _ => true
  | .bl _, .bl _ => true
  | _, _ => false
def gEq : G2 := fun a b st => if scalD a b then some (.bl (deq a b), st) else if a.dok 60 && b.dok 60 then some (.bl (deq a b), st) else none
def gNe : G2 := fun a b st => if scalD a b then some (.bl (!deq a b), st) else if a.dok 60 && b.dok 60 then some (.bl (!deq a b), st) else none
def rEqA (K : PySem.W.Frag) : R2 := fun x y H Q => rEq x y H Q ∨ rEqD K x y H Q
def rNeA (K : PySem.W.Frag) : R2 := fun x y H Q => rNe x y H Q ∨ rNeD K x y H Q
theorem op_eqA (hu : X.A.units + 64 < cLine) : OpR X (compareOp .Eq) (rEqA X.K) := op_eq.or (op_eqD hu)
theorem op_neA (hu : X.A.units + 64 < cLine) : OpR X (compareOp .NotEq) (rNeA X.K) := op_ne.or (op_neD hu)
theorem dec_bool {i j : Bool} : decide (V.bl i = V.bl j) = (i == j) := dec_bl
theorem scal_of {K : PySem.W.Frag} {H : Hp} {mu : List Addr} {x y : V} {a b : D} (h : scalD a b = true) (hx : Rp K H mu x a) (hy : Rp K H mu y b) : scal x y = true ∧ decide (x = y) = deq a b := by
  unfold scalD at h
  split at h
  · cases hx; cases hy
    exact ⟨rfl, dec_str⟩
  · cases hx; cases hy
    exact ⟨rfl, dec_int⟩
  · cases hx; cases hy
    exact ⟨rfl, dec_bl⟩
  · cases h
theorem opS_eq {K : PySem.W.Frag} : OpS K (rEqA K) gEq := by
  intro mu H st st' x y a b d Q hs hx hy e k
  unfold gEq at e
  split at e
  · rename_i hc
    obtain ⟨h1, h2⟩ := scal_of hc hx hy
    cases e
    refine .inl ⟨h1, ?_⟩
    rw [h2]
    exact k _ _ _ .refl (.bl _) hs
  · split at e
    · rename_i hc
      rw [Bool.and_eq_true] at hc
      cases e
      exact .inr ⟨_, _, hx.dp hc.1, hy.dp hc.2, dok_shaped hc.1, dok_shaped hc.2, k _ _ _ .refl (.bl _) hs⟩
    · cases e
theorem opS_ne {K : PySem.W.Frag} : OpS K (rNeA K) gNe := by
  intro mu H st st' x y a b d Q hs hx hy e k
  unfold gNe at e
  split at e
  · rename_i hc
    obtain ⟨h1, h2⟩ := scal_of hc hx hy
    cases e
    refine .inl ⟨h1, ?_⟩
    rw [h2]
    exact k _ _ _ .refl (.bl _) hs
  · split at e
    · rename_i hc
      rw [Bool.and_eq_true] at hc
      cases e
      exact .inr ⟨_, _, hx.dp hc.1, hy.dp hc.2, dok_shaped hc.1, dok_shaped hc.2, k _ _ _ .refl (.bl _) hs⟩
    · cases e
/-! ### is -/
def gIsN : G2 := fun a b st => match b with
  | .non => some (.bl (match a with | .non => true | _ => false), st)
  | .bl y => (match a with | .bl x => some (.bl (decide (x = y)), st) | _ => none)
  | _ => none
def gNotN : G2 := fun a b st => match b with
  | .non => some (.bl (match a with | .non => false | _ => true), st)
  | .bl y => (match a with | .bl x => some (.bl (!decide (x = y)), st) | _ => none)
  | _ => none
def rIsA : R2 := fun x y H Q => (y = .non ∧ Q (.bl (decide (x = .non))) H) ∨ rIsB x y H Q
def rNotA : R2 := fun x y H Q => (y = .non ∧ Q (.bl (!decide (x = .non))) H) ∨ rNotB x y H Q
theorem op_isA : OpR X (compareOp .Is) rIsA := op_isN.or op_isBl
theorem op_notA : OpR X (compareOp .IsNot) rNotA := op_notN.or op_notBl
theorem opS_is {K : PySem.W.Frag} : OpS K rIsA gIsN := by
  intro mu H st st' x y a b d Q hs hx hy e k
  unfold gIsN at e
  split at e
  · cases e; cases hy
    refine .inl ⟨rfl, k _ _ _ .refl ?_ hs⟩
    cases hx <;> exact .bl _
  · split at e
    · cases e; cases hx; cases hy
      exact .inr ⟨_, _, rfl, rfl, k _ _ _ .refl (.bl _) hs⟩
    · cases e
  · cases e
theorem opS_not {K : PySem.W.Frag} : OpS K rNotA gNotN := by
  intro mu H st st' x y a b d Q hs hx hy e k
  unfold gNotN at e
  split at e
  · cases e; cases hy
    refine .inl ⟨rfl, k _ _ _ .refl ?_ hs⟩
    cases hx <;> exact .bl _
  · split at e
    · cases e; cases hx; cases hy
      exact .inr ⟨_, _, rfl, rfl, k _ _ _ .refl (.bl _) hs⟩
    · cases e
  · cases e
end Ml

namespace Ml
open PySem L2
variable {X : Cx} {W : Wx} {a b c e : Expr} {es rest : List Expr} {pos p : Pos} {ma mb mc : Mo D} {mr : Mo (List D)} {ta tb : Mo Bool}
/-! ### in -/
def flatD : D → Bool
  | .non => true
  | .bl _ => true
  | .int _ => true
  | .str _ => true
  | _ => false
def vOf : D → V
  | .non => .non
  | .bl b => .bl b
  | .int i => .int i
  | .str x => .str x
  | _ => .non
/-- what a list or tuple holds -/
def seqOf (st : Sto) : D → Option (List D)
  | .tup ds => some ds
  | .ref i => match st[i]? with
    | some (.lst ds) => some ds
    | some (.ro ds) => some ds
    | _ => none
  | .ro ds => some ds
  | _ => none
def eqD (y x : D) : Bool := eqV (vOf y) (vOf x)
def inD (x : D) (ds : List D) : Bool := ds.any fun y => eqD y x
def gIn (neg : Bool) : G2 := fun a b st => match seqOf st b with
  | some ds => if flatD a && ds.all flatD then some (.bl (if neg then !inD a ds else inD a ds), st) else none
  | none => none
theorem Rp.flat {K : PySem.W.Frag} {H : Hp} {mu : List Addr} {v : V} {d : D} (h : Rp K H mu v d) (f : flatD d = true) : v = vOf d ∧ flatV v = true := by
  cases h <;> first | exact ⟨rfl, rfl⟩ | cases f
theorem Rps.flat {K : PySem.W.Frag} {H : Hp} {mu : List Addr} : ∀ {vs : List V} {ds : List D}, Rps K H mu vs ds → ds.all flatD = true → vs = ds.map vOf ∧ vs.all flatV = true
  | _, _, .nil, _ => ⟨rfl, rfl⟩
  | _, _, .cons h hs, f => by
    simp only [List.all_cons, Bool.and_eq_true] at f
    obtain ⟨e1, f1⟩ := h.flat f.1
    obtain ⟨e2, f2⟩ := Rps.flat hs f.2
    refine ⟨by rw [List.map_cons, ← e1, ← e2], ?_⟩
    rw [List.all_cons, f1, f2]; rfl
theorem inV_map (x : D) (ds : List D) : inV (vOf x) (ds.map vOf) = inD x ds := by
  unfold inV inD eqD
  rw [List.any_map]; rfl
/-- a list or tuple, as it is read -/
theorem seq_rel {K : PySem.W.Frag} {H : Hp} {mu : List Addr} {st : Sto} (hs : RelSt K H mu st) {v : V} {d : D} {ds : List D} (h : Rp K H mu v d) (e : seqOf st d = some ds) : ∃ q vs, v = .ref q ∧ (SqL K H q vs ∨ SqT K H q vs) ∧ Rps K H mu vs ds := by
  cases h with
  | tup h hs => cases e; exact ⟨_, _, rfl, .inr h.sq, hs⟩
  | ro h hs => cases e; exact ⟨_, _, rfl, .inl h.sq, hs⟩
  | ref h =>
    rename_i i q
    unfold seqOf at e
    simp only at e
    obtain ⟨o, ho, ok⟩ := hs.at h
    rw [ho] at e
    split at e
    · rename_i eq; cases e; cases eq
      obtain ⟨vs, h1, r⟩ := ok
      exact ⟨q, vs, rfl, .inl (.inl (.inl h1)), r⟩
    · rename_i eq; cases e; cases eq
      obtain ⟨vs, h1, r⟩ := ok
      exact ⟨q, vs, rfl, .inl (.inl h1), r⟩
    · cases e
  | _ => cases e
theorem opS_in {K : PySem.W.Frag} {neg : Bool} : OpS K (rIn K neg) (gIn neg) := by
  intro mu H st st' x y a b d Q hs hx hy e k
  unfold gIn at e
  split at e
  · rename_i ds hd
    split at e
    · rename_i hc
      rw [Bool.and_eq_true] at hc
      cases e
      obtain ⟨q, vs, rfl, sq, r⟩ := seq_rel hs hy hd
      obtain ⟨e1, f1⟩ := hx.flat hc.1
      obtain ⟨e2, f2⟩ := r.flat hc.2
      refine ⟨q, vs, rfl, sq, f1, f2, ?_⟩
      rw [e1, e2, inV_map]
      exact k _ _ _ .refl (.bl _) hs
    · cases e
  · cases e
/-! ### tests -/
def mTest (m : Mo D) : Mo Bool := fun ev st => (m ev st).bind fun d st1 => match d with
  | .bl b => .ok b st1
  | _ => .bad
/-- truth of any value -/
def truD (st : Sto) : D → Option Bool
  | .non => some false
  | .bl b => some b
  | .int i => some (i != 0)
  | .str x => if x.length ≤ lim then some ((x.length : Int) != 0) else none
  | .tup ds => some (!ds.isEmpty)
  | .ref i => match st[i]? with
    | some (.lst ds) => some (!ds.isEmpty)
    | some (.ro ds) => some (!ds.isEmpty)
    | _ => none
  | .ro ds => some (!ds.isEmpty)
def mTru (m : Mo D) : Mo Bool := fun ev st => (m ev st).bind fun d st1 => match truD st1 d with
  | some b => .ok b st1
  | none => .bad
def mTAnd (ta tb : Mo Bool) : Mo Bool := fun ev st => (ta ev st).bind fun b st1 => if b = true then tb ev st1 else .ok false st1
def mTOr (ta tb : Mo Bool) : Mo Bool := fun ev st => (ta ev st).bind fun b st1 => if b = true then .ok true st1 else tb ev st1
def mTNot (ta : Mo Bool) : Mo Bool := fun ev st => (ta ev st).bind fun b st1 => .ok (!b) st1
theorem tst_go {σ : L2.St} {H : Hp} {Q : Bool → Hp → Prop} {m : Mo D} (h : tT X.K W (mTest m) σ H Q) : tTest (tE X.K W m) σ H Q := by
  obtain ⟨mu, ev, st, he, hst, hp⟩ := h
  refine ⟨mu, ev, st, he, hst, hp.bind fun d st1 mu1 x H1 _ e1 r1 s1 hp1 => ?_⟩
  cases d <;> simp only at hp1 <;> first | exact hp1.elim | skip
  cases r1
  exact ⟨_, rfl, hp1 _ _ _ .refl rfl s1⟩
theorem mt_cmp {op : CmpOp} {r : R2} {g : G2} (ho : OpR X (compareOp op) r) (hs : OpS X.K r g) (ha : PE X a (tE X.K W ma)) (hb : PE X b (tE X.K W mb)) (hm : behindInMarks op b = false) : PT X (.Compare a [op] [b] pos) (tT X.K W (mTest (mOp g ma mb))) :=
  PT.imp (pt_cmpR ho ha hb hm) fun _ _ _ h => opS_go hs (tst_go h)
theorem tru_rel {K : PySem.W.Frag} {H : Hp} {mu : List Addr} {st : Sto} (s1 : RelSt K H mu st) {x : V} {d : D} {k : Bool} (r1 : Rp K H mu x d) (hk : truD st d = some k) : TruV K x H k := by
  cases r1 with
  | non => cases hk; rfl
  | bl b => cases hk; rfl
  | int i => cases hk; rfl
  | str x =>
    simp only [truD] at hk
    split at hk
    · rename_i hl
      cases hk; exact ⟨lim_le hl, rfl⟩
    · cases hk
  | tup h hs =>
    cases hk
    refine .inr (.inl ⟨_, h.sq, ?_⟩)
    cases hs <;> rfl
  | ro h hs =>
    cases hk
    refine .inl ⟨_, h.sq, ?_⟩
    cases hs <;> rfl
  | ref h =>
    simp only [truD] at hk
    obtain ⟨o, ho, ok⟩ := s1.at h
    rw [ho] at hk
    split at hk
    · rename_i eq; cases eq; cases hk
      obtain ⟨vs, h1, r⟩ := ok
      refine .inl ⟨vs, .inl (.inl h1), ?_⟩
      cases r <;> rfl
    · rename_i eq; cases eq; cases hk
      obtain ⟨vs, h1, r⟩ := ok
      refine .inl ⟨vs, .inl h1, ?_⟩
      cases r <;> rfl
    · cases hk
theorem mt_tru (ha : PE X a (tE X.K W ma)) (he : ∀ whole, isTrue a X.env whole = (do let v ← whole; standAt a.pos; holding [v] (truthy v)) := by intro _; rfl) : PT X a (tT X.K W (mTru ma)) := by
  refine PT.imp (pt_truth ha he) fun σ H Q ⟨mu, ev, st, he, hst, hp⟩ => ?_
  refine ⟨mu, ev, st, he, hst, hp.bind fun d st1 mu1 x H1 _ e1 r1 s1 hp1 => ?_⟩
  split at hp1
  · rename_i k hk
    exact ⟨k, tru_rel s1 r1 hk, hp1 _ _ _ .refl rfl s1⟩
  · exact hp1.elim
theorem and_go {t u : Mo Bool} {σ : L2.St} {H : Hp} {Q : Bool → Hp → Prop} (h : tT X.K W (mTAnd t u) σ H Q) : tAnd (tT X.K W t) (tT X.K W u) σ H Q := by
  obtain ⟨mu, ev, st, he, hst, hp⟩ := h
  refine ⟨mu, ev, st, he, hst, hp.bind fun d st1 mu1 x H1 _ e1 r1 s1 hp1 => ?_⟩
  obtain rfl : x = d := r1
  cases x with
  | true => exact ⟨mu1, ev, st1, he.mono e1, s1, hp1⟩
  | false => exact hp1 _ _ _ .refl rfl s1
theorem or_go {t u : Mo Bool} {σ : L2.St} {H : Hp} {Q : Bool → Hp → Prop} (h : tT X.K W (mTOr t u) σ H Q) : tOr (tT X.K W t) (tT X.K W u) σ H Q := by
  obtain ⟨mu, ev, st, he, hst, hp⟩ := h
  refine ⟨mu, ev, st, he, hst, hp.bind fun d st1 mu1 x H1 _ e1 r1 s1 hp1 => ?_⟩
  obtain rfl : x = d := r1
  cases x with
  | true => exact hp1 _ _ _ .refl rfl s1
  | false => exact ⟨mu1, ev, st1, he.mono e1, s1, hp1⟩
theorem mw_and1 (ha : PT X a (tT X.K W ta)) : PW X (.BoolOp .And [a] pos) (tT X.K W ta) := pw_and1 ha
theorem mw_or1 (ha : PT X a (tT X.K W ta)) : PW X (.BoolOp .Or [a] pos) (tT X.K W ta) := pw_or1 ha
theorem mw_and (ha : PT X a (tT X.K W ta)) (hb : PW X (.BoolOp .And (b :: rest) pos) (tT X.K W tb)) : PW X (.BoolOp .And (a :: b :: rest) pos) (tT X.K W (mTAnd ta tb)) := PW.imp (pw_and ha hb) fun _ _ _ h => and_go h
theorem mw_or (ha : PT X a (tT X.K W ta)) (hb : PW X (.BoolOp .Or (b :: rest) pos) (tT X.K W tb)) : PW X (.BoolOp .Or (a :: b :: rest) pos) (tT X.K W (mTOr ta tb)) := PW.imp (pw_or ha hb) fun _ _ _ h => or_go h
theorem mt_w (h : PW X e (tT X.K W ta)) : PT X e (tT X.K W ta) := h.pt
theorem mt_not (ha : PT X a (tT X.K W ta)) : PT X (.UnaryOp .Not a pos) (tT X.K W (mTNot ta)) := by
  refine PT.imp (pt_not ha) fun σ H Q ⟨mu, ev, st, he, hst, hp⟩ => ?_
  refine ⟨mu, ev, st, he, hst, hp.bind fun d st1 mu1 x H1 _ e1 r1 s1 hp1 => ?_⟩
  obtain rfl : x = d := r1
  exact hp1 _ _ _ .refl rfl s1
/-! ### and, or, not as values (of truths); a if t else b; a < b < c -/
def mAnd (ma mb : Mo D) : Mo D := fun ev st => (ma ev st).bind fun d st1 => match d with
  | .bl true => mb ev st1
  | .bl false => .ok (.bl false) st1
  | _ => .bad
def mOr (ma mb : Mo D) : Mo D := fun ev st => (ma ev st).bind fun d st1 => match d with
  | .bl true => .ok (.bl true) st1
  | .bl false => mb ev st1
  | _ => .bad
def mNot (ma : Mo D) : Mo D := fun ev st => (ma ev st).bind fun d st1 => match truD st1 d with
  | some b => .ok (.bl (!b)) st1
  | none => .bad
def mIf (t : Mo Bool) (ma mb : Mo D) : Mo D := fun ev st => (t ev st).bind fun b st1 => if b = true then ma ev st1 else mb ev st1
def mChain (g g' : G2) (ma mb mc : Mo D) : Mo D := fun ev st => (ma ev st).bind fun x st1 => (mb ev st1).bind fun y st2 => (Rs.of (g x y st2)).bind fun z st3 => match z with
  | .bl true => (mc ev st3).bind fun w st4 => Rs.of (g' y w st4)
  | .bl false => .ok (.bl false) st3
  | _ => .bad
theorem me_one {op : BoolOp} (h : PE X a (tE X.K W ma)) : PE X (.BoolOp op [a] pos) (tE X.K W ma) := pe_one h
theorem me_and (ha : PE X a (tE X.K W ma)) (hb : PE X (.BoolOp .And (b :: rest) pos) (tE X.K W mb)) : PE X (.BoolOp .And (a :: b :: rest) pos) (tE X.K W (mAnd ma mb)) := by
  refine PE.imp (pe_and ha hb) fun σ H Q ⟨mu, ev, st, he, hst, hp⟩ => ?_
  refine ⟨mu, ev, st, he, hst, hp.bind fun d st1 mu1 x H1 _ e1 r1 s1 hp1 => ?_⟩
  split at hp1
  · cases r1; exact ⟨true, rfl, ⟨mu1, ev, st1, he.mono e1, s1, hp1⟩⟩
  · cases r1; exact ⟨false, rfl, hp1 _ _ _ .refl (.bl _) s1⟩
  · exact hp1.elim
theorem me_or (ha : PE X a (tE X.K W ma)) (hb : PE X (.BoolOp .Or (b :: rest) pos) (tE X.K W mb)) : PE X (.BoolOp .Or (a :: b :: rest) pos) (tE X.K W (mOr ma mb)) := by
  refine PE.imp (pe_or ha hb) fun σ H Q ⟨mu, ev, st, he, hst, hp⟩ => ?_
  refine ⟨mu, ev, st, he, hst, hp.bind fun d st1 mu1 x H1 _ e1 r1 s1 hp1 => ?_⟩
  split at hp1
  · cases r1; exact ⟨true, rfl, hp1 _ _ _ .refl (.bl _) s1⟩
  · cases r1; exact ⟨false, rfl, ⟨mu1, ev, st1, he.mono e1, s1, hp1⟩⟩
  · exact hp1.elim
theorem me_not (ha : PE X a (tE X.K W ma)) : PE X (.UnaryOp .Not a pos) (tE X.K W (mNot ma)) := by
  refine PE.imp (pe_notT ha) fun σ H Q ⟨mu, ev, st, he, hst, hp⟩ => ?_
  refine ⟨mu, ev, st, he, hst, hp.bind fun d st1 mu1 x H1 _ e1 r1 s1 hp1 => ?_⟩
  split at hp1
  · rename_i k hk
    exact ⟨k, tru_rel s1 r1 hk, hp1 _ _ _ .refl (.bl _) s1⟩
  · exact hp1.elim
theorem me_ifExp (hc : PT X c (tT X.K W ta)) (ha : PE X a (tE X.K W ma)) (hb : PE X b (tE X.K W mb)) : PE X (.IfExp c a b pos) (tE X.K W (mIf ta ma mb)) := by
  refine PE.imp (pe_ifExp hc ha hb) fun σ H Q ⟨mu, ev, st, he, hst, hp⟩ => ?_
  refine ⟨mu, ev, st, he, hst, hp.bind fun d st1 mu1 x H1 _ e1 r1 s1 hp1 => ?_⟩
  obtain rfl : x = d := r1
  cases x with
  | true => exact ⟨mu1, ev, st1, he.mono e1, s1, hp1⟩
  | false => exact ⟨mu1, ev, st1, he.mono e1, s1, hp1⟩
theorem chain_go {r r' : R2} {g g' : G2} (hs : OpS X.K r g) (hs' : OpS X.K r' g') {σ : L2.St} {H : Hp} {Q : VK} (h : tE X.K W (mChain g g' ma mb mc) σ H Q) : tChain r r' (tE X.K W ma) (tE X.K W mb) (tE X.K W mc) σ H Q := by
  obtain ⟨mu, ev, st, he, hst, hp⟩ := h
  refine ⟨mu, ev, st, he, hst, hp.bind fun d st1 mu1 x H1 _ e1 r1 s1 hp1 => ?_⟩
  refine ⟨mu1, ev, st1, he.mono e1, s1, hp1.bind fun d2 st2 mu2 y H2 _ e2 r2 s2 hp2 => ?_⟩
  cases eg : g d d2 st2 with
  | none => rw [eg] at hp2; exact hp2.elim
  | some z =>
    obtain ⟨d3, st3⟩ := z
    rw [eg] at hp2
    refine hs mu2 H2 st2 st3 x y _ _ d3 _ s2 (Rp.mono e2 r1) r2 eg fun mu3 v H3 e3 r3 s3 => ?_
    have hp3 := Post.from hp2 e3
    simp only [Rs.of, Rs.bind_ok] at hp3
    split at hp3
    · cases r3
      refine ⟨true, rfl, iteT ⟨mu3, ev, st3, (he.mono e1).mono (e2.trans e3), s3, hp3.bind fun d4 st4 mu4 w H4 _ e4 r4 s4 hp4 => ?_⟩⟩
      obtain ⟨d5, st5, eq, k⟩ := post_of hp4
      exact hs' mu4 H4 st4 st5 y w _ _ d5 Q s4 (Rp.mono (e3.trans e4) r2) r4 eq k
    · cases r3
      exact ⟨false, rfl, iteF (hp3 _ _ _ .refl (.bl _) s3)⟩
    · exact hp3.elim
theorem me_chain {op op' : CmpOp} {r r' : R2} {g g' : G2} (ho : OpR X (compareOp op) r) (hs : OpS X.K r g) (ho' : OpR X (compareOp op') r') (hs' : OpS X.K r' g') (ha : PE X a (tE X.K W ma)) (hb : PE X b (tE X.K W mb)) (hc : PE X c (tE X.K W mc))
    (hm : lastMarks [op, op'] [b, c] = false := by with_unfolding_all rfl) : PE X (.Compare a [op, op'] [b, c] pos) (tE X.K W (mChain g g' ma mb mc)) :=
  PE.imp (pe_chain ho ho' ha hb hc hm) fun _ _ _ h => chain_go hs hs' h
theorem mt_chain {op op' : CmpOp} {r r' : R2} {g g' : G2} (ho : OpR X (compareOp op) r) (hs : OpS X.K r g) (ho' : OpR X (compareOp op') r') (hs' : OpS X.K r' g') (ha : PE X a (tE X.K W ma)) (hb : PE X b (tE X.K W mb)) (hc : PE X c (tE X.K W mc))
    (hm : lastMarks [op, op'] [b, c] = false := by with_unfolding_all rfl) : PT X (.Compare a [op, op'] [b, c] pos) (tT X.K W (mTest (mChain g g' ma mb mc))) :=
  PT.imp (pt_chain ho ho' ha hb hc hm) fun _ _ _ h => chain_go hs hs' (tst_go h)
end Ml

namespace Ml
open PySem L2
variable {X : Cx} {W : Wx} {a b c e : Expr} {es rest : List Expr} {pos p q : Pos} {ma mb mc : Mo D} {mr : Mo (List D)} {ta tb : Mo Bool}
/-! ### an item -/
theorem Rps.atI {K : PySem.W.Frag} {H : Hp} {mu : List Addr} {vs : List V} {ds : List D} (h : Rps K H mu vs ds) {i : Int} {d : D} (e : L2.atI ds i = some d) : ∃ v, L2.atI vs i = some v ∧ Rp K H mu v d := by
  unfold L2.atI at e ⊢
  rw [Rps.length h]
  cases hx : ixN ds.length i with
  | none => rw [hx] at e; cases e
  | some j =>
    rw [hx] at e
    exact h.get e
def gIx : G2 := fun a b st => match b with
  | .int i => (match a with
    | .str z => if z.length ≤ lim then (match L2.atI z.cps.toList i with
      | some c => some (.str ⟨#[c]⟩, st)
      | none => none) else none
    | _ => match seqOf st a with
      | some ds => (match L2.atI ds i with
        | some d => some (d, st)
        | none => none)
      | none => none)
  | _ => none
theorem opS_ix {K : PySem.W.Frag} : OpS K (rIx K) gIx := by
  intro mu H st st' x y a b d Q hs hx hy e k
  unfold gIx at e
  split at e
  · cases hy
    split at e
    · cases hx
      split at e
      · rename_i hl
        split at e
        · rename_i c hc
          cases e
          exact .inr (.inr ⟨_, _, c, rfl, rfl, lim_le hl, hc, k _ _ _ .refl (.str _) hs⟩)
        · cases e
      · cases e
    · split at e
      · rename_i ds hd
        split at e
        · rename_i d' hd'
          cases e
          obtain ⟨q, vs, rfl, sq, r⟩ := seq_rel hs hx hd
          obtain ⟨v, hv, rv⟩ := r.atI hd'
          rcases sq with sq | sq
          · exact .inl ⟨q, vs, _, v, rfl, rfl, sq, hv, k _ _ _ .refl rv hs⟩
          · exact .inr (.inl ⟨q, vs, _, v, rfl, rfl, sq, hv, k _ _ _ .refl rv hs⟩)
        · cases e
      · cases e
  · cases e
theorem me_item (ha : PE X a (tE X.K W ma)) (hb : PE X b (tE X.K W mb)) (hx : PlainIx b := by exact fun _ _ => rfl) : PE X (.Subscript a b pos) (tE X.K W (mOp gIx ma mb)) := me_ix ix_seq opS_ix ha hb hx
/-! ### slices -/
abbrev MoO := Mo (Option Int)
def mNoPart : MoO := fun _ st => .ok none st
def mPart (m : Mo D) : MoO := fun ev st => (m ev st).bind fun d st1 => match d with
  | .int i => .ok (some i) st1
  | _ => .bad
def RO : RR (Option Int) (Option Int) := ⟨fun _ _ _ _ v d => v = d, fun _ h => h⟩
abbrev tO (K : PySem.W.Frag) (W : Wx) (m : MoO) : TO := tG K W RO m
theorem PO.imp {e : Option Expr} {t t' : TO} (h : PO X e t) (k : ∀ σ H Q, t' σ H Q → t σ H Q) : PO X e t' := ⟨fun pins s σ H Q I hw => h.run pins s σ H Q I (k σ H Q hw)⟩
theorem mo_none : PO X none (tO X.K W mNoPart) := PO.imp po_none fun σ H Q ⟨mu, ev, st, he, hs, hp⟩ => hp _ _ _ .refl rfl hs
theorem mo_some (h : PE X e (tE X.K W ma)) : PO X (some e) (tO X.K W (mPart ma)) := by
  refine PO.imp (po_some h) fun σ H Q ⟨mu, ev, st, he, hst, hp⟩ => ?_
  refine ⟨mu, ev, st, he, hst, hp.bind fun d st1 mu1 x H1 _ e1 r1 s1 hp1 => ?_⟩
  cases d <;> simp only at hp1 <;> first | exact hp1.elim | skip
  cases r1
  exact ⟨_, rfl, hp1 _ _ _ .refl rfl s1⟩
def cutD {α : Type} (ds : List α) (lo hi : Option Int) : List α := (ds.drop (HT.sIx ds.length 0 lo)).take (HT.sIx ds.length ds.length hi - HT.sIx ds.length 0 lo)
def gSl (a : D) (lo hi : Option Int) : Option D := match a with
  | .tup ds => some (.tup (cutD ds lo hi))
  | .str z => if z.length ≤ lim then some (.str (cutS z lo hi)) else none
  | _ => none
def mSl (ma : Mo D) (ml mh : MoO) : Mo D := fun ev st => (ma ev st).bind fun d st1 => (ml ev st1).bind fun lo st2 => (mh ev st2).bind fun hi st3 => match gSl d lo hi with
  | some d' => .ok d' st3
  | none => .bad
theorem cut_whole {α : Type} (ds : List α) (lo hi : Option Int) (h : HT.sIx ds.length 0 lo = 0 ∧ HT.sIx ds.length ds.length hi = ds.length) : cutD ds lo hi = ds := by
  unfold cutD
  rw [h.1, h.2]; simp
theorem Rps.cut {K : PySem.W.Frag} {H : Hp} {mu : List Addr} {vs : List V} {ds : List D} (h : Rps K H mu vs ds) (lo hi : Option Int) : Rps K H mu (cutV vs lo hi) (cutD ds lo hi) := by
  unfold cutV cutD
  rw [Rps.length h]
  exact (h.drop _).take _
theorem me_slice {lo hi : Option Expr} {ml mh : MoO} {p2 : Pos} (ha : PE X e (tE X.K W ma)) (hl : PO X lo (tO X.K W ml)) (hu : PO X hi (tO X.K W mh)) : PE X (.Subscript e (.Slice lo hi none p2) pos) (tE X.K W (mSl ma ml mh)) := by
  refine PE.imp (pe_slice (sl_tupA.or sl_str) ha hl hu) fun σ H Q ⟨mu, ev, st, he, hst, hp⟩ => ?_
  refine ⟨mu, ev, st, he, hst, hp.bind fun d st1 mu1 x H1 _ e1 r1 s1 hp1 => ?_⟩
  refine ⟨mu1, ev, st1, he.mono e1, s1, hp1.bind fun lo st2 mu2 l H2 _ e2 r2 s2 hp2 => ?_⟩
  refine ⟨mu2, ev, st2, (he.mono e1).mono e2, s2, hp2.bind fun hi st3 mu3 u H3 _ e3 r3 s3 hp3 => ?_⟩
  obtain rfl : l = lo := r2
  obtain rfl : u = hi := r3
  have r1 := Rp.mono (e2.trans e3) r1
  split at hp3
  · rename_i d' hd
    unfold gSl at hd
    split at hd
    · cases hd
      cases r1 with
      | tup ht hs =>
        rename_i q vs ds
        refine .inl ⟨_, _, rfl, ht.sq, fun hw => ?_, fun hw p hp => ?_⟩
        · refine hp3 _ _ _ .refl (.tup ht ?_) s3
          rw [cut_whole]; exact hs
          rw [← Rps.length hs]; exact hw
        · exact hp3 _ _ _ (ext_new hp _) (.tup (.inl upd_same) ((hs.cut l u).ctx hp)) (s3.new hp _)
    · split at hd
      · rename_i hz
        cases hd; cases r1
        exact .inr ⟨_, rfl, lim_le hz, hp3 _ _ _ .refl (.str _) s3⟩
      · cases hd
    · cases hd
  · exact hp3.elim
/-! ### len, int, abs, min, max, str, isinstance -/
def lenD (st : Sto) : D → Option Nat
  | .str x => if x.length ≤ lim then some x.length else none
  | d => (seqOf st d).map (·.length)
def gLen : GA := fun ds st => match ds with
  | [d] => (lenD st d).map fun n => (.int n, st)
  | _ => none
theorem callS_len {K : PySem.W.Frag} : CallS K (fun xs H Q => ∃ x n, xs = [x] ∧ LenV K x H n ∧ Q (.int n) H) gLen := by
  intro mu H st st' xs as d Q hs hx e k
  unfold gLen at e
  split at e
  · cases hx with
    | cons h1 h2 =>
      cases h2
      rename_i d0 v
      cases hn : lenD st d0 with
      | none => rw [hn] at e; cases e
      | some n =>
        rw [hn] at e
        cases e
        refine ⟨_, n, rfl, ?_, k _ _ _ .refl (.int _) hs⟩
        unfold lenD at hn
        split at hn
        · cases h1
          split at hn
          · rename_i hl; cases hn; exact ⟨lim_le hl, rfl⟩
          · cases hn
        · cases hq : seqOf st d0 with
          | none => rw [hq] at hn; cases hn
          | some ds =>
            rw [hq] at hn
            cases hn
            obtain ⟨q, vs, rfl, sq, r⟩ := seq_rel hs h1 hq
            rcases sq with sq | sq
            · exact .inl ⟨vs, sq, (Rps.length r).symm⟩
            · exact .inr ⟨vs, sq, (Rps.length r).symm⟩
  · cases e
def gInt : GA := fun ds st => match ds with
  | [.int i] => some (.int i, st)
  | [.bl b] => some (.int (if b then 1 else 0), st)
  | _ => none
theorem callS_int {K : PySem.W.Frag} : CallS K (fun xs H Q => (∃ i, xs = [.int i] ∧ Q (.int i) H) ∨ ∃ k, xs = [.bl k] ∧ Q (.int (if k then 1 else 0)) H) gInt := by
  intro mu H st st' xs as d Q hs hx e k
  unfold gInt at e
  split at e
  · cases e; cases hx with | cons h1 h2 => cases h2; cases h1; exact .inl ⟨_, rfl, k _ _ _ .refl (.int _) hs⟩
  · cases e; cases hx with | cons h1 h2 => cases h2; cases h1; exact .inr ⟨_, rfl, k _ _ _ .refl (.int _) hs⟩
  · cases e
def gAbs : GA := fun ds st => match ds with
  | [.int i] => some (.int (if i < 0 then -i else i), st)
  | _ => none
theorem callS_abs {K : PySem.W.Frag} : CallS K (fun xs H Q => ∃ i, xs = [.int i] ∧ Q (.int (if i < 0 then -i else i)) H) gAbs := by
  intro mu H st st' xs as d Q hs hx e k
  unfold gAbs at e
  split at e
  · cases e; cases hx with | cons h1 h2 => cases h2; cases h1; exact ⟨_, rfl, k _ _ _ .refl (.int _) hs⟩
  · cases e
def gMax : GA := fun ds st => match ds with
  | [.int i, .int j] => some (.int (if j > i then j else i), st)
  | _ => none
def gMin : GA := fun ds st => match ds with
  | [.int i, .int j] => some (.int (if j < i then j else i), st)
  | _ => none
theorem callS_max {K : PySem.W.Frag} : CallS K (fun xs H Q => ∃ i j, xs = [.int i, .int j] ∧ Q (.int (if j > i then j else i)) H) gMax := by
  intro mu H st st' xs as d Q hs hx e k
  unfold gMax at e
  split at e
  · cases e; cases hx with | cons h1 h2 => cases h2 with | cons h2 h3 => cases h3; cases h1; cases h2; exact ⟨_, _, rfl, k _ _ _ .refl (.int _) hs⟩
  · cases e
theorem callS_min {K : PySem.W.Frag} : CallS K (fun xs H Q => ∃ i j, xs = [.int i, .int j] ∧ Q (.int (if j < i then j else i)) H) gMin := by
  intro mu H st st' xs as d Q hs hx e k
  unfold gMin at e
  split at e
  · cases e; cases hx with | cons h1 h2 => cases h2 with | cons h2 h3 => cases h3; cases h1; cases h2; exact ⟨_, _, rfl, k _ _ _ .refl (.int _) hs⟩
  · cases e
def gStr : GA := fun ds st => match ds with
  | [.int i] => if i.natAbs < 1000000 then some (.str (toString i), st) else none
  | _ => none
theorem callS_str {K : PySem.W.Frag} : CallS K (fun xs H Q => ∃ i : Int, xs = [.int i] ∧ i.natAbs.log2 < 1920 ∧ Q (.str (toString i)) H) gStr := by
  intro mu H st st' xs as d Q hs hx e k
  unfold gStr at e
  split at e
  · split at e
    · rename_i hl
      cases e; cases hx with
      | cons h1 h2 =>
        cases h2; cases h1
        refine ⟨_, rfl, ?_, k _ _ _ .refl (.str _) hs⟩
        refine Nat.lt_of_le_of_lt (m := 20) ?_ (by decide)
        rename_i i
        by_cases h0 : i.natAbs = 0
        · rw [h0]; decide
        · exact Nat.le_of_lt ((Nat.log2_lt h0).mpr (Nat.lt_trans hl (by decide)))
    · cases e
  · cases e
def tyD (st : Sto) : D → Option String
  | .non => some "NoneType"
  | .bl _ => some "bool"
  | .int _ => some "int"
  | .str _ => some "str"
  | .tup _ => some "tuple"
  | .ref i => match st[i]? with
    | some (.lst _) => some "list"
    | some (.ro _) => some "list"
    | some (.dK _ _) => some "dict"
    | some (.dT false _) => some "dict"
    | _ => none
  | .ro _ => some "list"
def isiB (t c : String) : Bool := t == c || (t == "bool" && c == "int")
def okCls (c : String) : Bool := c == "int" || c == "bool" || c == "str" || c == "tuple" || c == "list"
def okTy (c : String) : Bool := c == "int" || c == "bool" || c == "str" || c == "tuple" || c == "list" || c == "NoneType" || c == "dict"
theorem kit_all {t c : String} (h : okTy t = true) (h' : okCls c = true) : kitB t c = some (isiB t c) := by
  simp only [okTy, okCls, Bool.or_eq_true, beq_iff_eq] at h h'
  rcases h' with (((h' | h') | h') | h') | h' <;> subst h' <;> rcases h with (((((h | h) | h) | h) | h) | h) | h <;> subst h <;> decide +kernel
theorem tyX_of {K : PySem.W.Frag} {H : Hp} {mu : List Addr} {st : Sto} (hs : RelSt K H mu st) {v : V} {d : D} {t : String} (h : Rp K H mu v d) (e : tyD st d = some t) : TyX K H v (.type t) ∧ okTy t = true := by
  cases h with
  | non => cases e; exact ⟨.base .non, by decide⟩
  | bl b => cases e; exact ⟨.base (.bl b), by decide⟩
  | int b => cases e; exact ⟨.base (.int b), by decide⟩
  | str b => cases e; exact ⟨.base (.str b), by decide⟩
  | tup h r =>
    cases e
    refine ⟨?_, by decide⟩
    rcases h with h | ⟨o, its, n, h1, h2, _⟩
    · exact .base (.tup h)
    · exact .kTuple h1 h2
  | ro h r =>
    cases e
    refine ⟨?_, by decide⟩
    rcases h with ⟨o, h, _⟩ | ⟨o, its, n, h1, h2, _⟩
    · exact .base (.frz h)
    · exact .kList h1 h2
  | ref h =>
    simp only [tyD] at e
    obtain ⟨o, ho, ok⟩ := hs.at h
    rw [ho] at e
    split at e
    · rename_i eq; cases eq; cases e
      obtain ⟨vs, h1, _⟩ := ok
      exact ⟨.base (.lst h1), by decide⟩
    · rename_i eq; cases eq; cases e
      obtain ⟨vs, h1 | ⟨o, h1⟩, _⟩ := ok
      · exact ⟨.base (.lst h1), by decide⟩
      · exact ⟨.base (.frz h1), by decide⟩
    · rename_i lk kvs eq; cases eq; cases e
      cases lk with
      | true => obtain ⟨o, ws, h1, _⟩ := ok; exact ⟨.fDict h1, by decide⟩
      | false => obtain ⟨ws, h1, _⟩ := ok; exact ⟨.base (.dK h1), by decide⟩
    · rename_i eq; cases eq; cases e
      obtain ⟨ws, h1, _⟩ := ok
      exact ⟨.base (.dT h1), by decide⟩
    · cases e
def mIsi (c : String) (m : Mo D) : Mo D := fun ev st => (m ev st).bind fun d st1 => match tyD st1 d with
  | some t => .ok (.bl (isiB t c)) st1
  | none => .bad
theorem me_isi {x : Str} {T : String} {p2 : Pos} (hg : Gl X "isinstance") (hm : X.mg "isinstance" = none) (hg2 : Gl X x) (hm2 : X.mg x = none) (hv2 : bootBuiltins x = some (.type T)) (hT : okCls T = true) (ha : PE X a (tE X.K W ma)) (hn2 : x ≠ "__name__" := by decide) (hd2 : (x == ("__debug__" : Str)) = false := by decide)
    (hs0 : starEach [.Name x p2] X.env = (false, eval (.Name x p2) X.env) :: starEach [] X.env := by rfl) (he : starEach [a, .Name x p2] X.env = (false, eval a X.env) :: starEach [.Name x p2] X.env := by rfl) (hpl : (backTo pos (starEach [.Name x p2] X.env)).any (·.1) = false := by rfl) :
    PE X (.Call (.Name "isinstance" p) [a, .Name x p2] [] pos) (tE X.K W (mIsi T ma)) := by
  refine PE.imp (pe_callB call_isi hg hm (by decide +kernel) (pa_cons ha (pa_cons (pe_bltn (v := .ty T) hg2 hm2 hv2 rfl hn2 hd2) pa_nil hs0) he) (by decide) (by decide) he hpl) fun σ H Q ⟨mu, ev, st, he, hst, hp⟩ => ?_
  refine ⟨mu, ev, st, he, hst, hp.bind fun d st1 mu1 x H1 _ e1 r1 s1 hp1 => ?_⟩
  split at hp1
  · rename_i t ht
    obtain ⟨ty, ok⟩ := tyX_of s1 r1 ht
    exact ⟨x, .ty T, .type t, .type T, isiB t T, rfl, .ty T, ty, kit_ty (kit_all ok hT), hp1 _ _ _ .refl (.bl _) s1⟩
  · exact hp1.elim
def mIsi2 (c c' : String) (m : Mo D) : Mo D := fun ev st => (m ev st).bind fun d st1 => match tyD st1 d with
  | some t => .ok (.bl (isiB t c || isiB t c')) st1
  | none => .bad
theorem me_isi2 {x y : Str} {T T' : String} {p2 p3 p4 : Pos} {k : Nat} (hg : Gl X "isinstance") (hm : X.mg "isinstance" = none) (hg2 : Gl X x) (hm2 : X.mg x = none) (hv2 : bootBuiltins x = some (.type T)) (hT : okCls T = true) (hg3 : Gl X y) (hm3 : X.mg y = none) (hv3 : bootBuiltins y = some (.type T')) (hT' : okCls T' = true)
    (ha : PE X a (tE X.K W ma)) (hn2 : x ≠ "__name__" := by decide) (hd2 : (x == ("__debug__" : Str)) = false := by decide) (hn3 : y ≠ "__name__" := by decide) (hd3 : (y == ("__debug__" : Str)) = false := by decide)
    (hs0 : starEach [.Tuple [.Name x p2, .Name y p3] k p4] X.env = (false, eval (.Tuple [.Name x p2, .Name y p3] k p4) X.env) :: starEach [] X.env := by rfl) (hs1 : starEach [.Name x p2, .Name y p3] X.env = (false, eval (.Name x p2) X.env) :: starEach [.Name y p3] X.env := by rfl) (hs2 : starEach [.Name y p3] X.env = (false, eval (.Name y p3) X.env) :: starEach [] X.env := by rfl)
    (he : starEach [a, .Tuple [.Name x p2, .Name y p3] k p4] X.env = (false, eval a X.env) :: starEach [.Tuple [.Name x p2, .Name y p3] k p4] X.env := by rfl) (hpl : (backTo pos (starEach [.Tuple [.Name x p2, .Name y p3] k p4] X.env)).any (·.1) = false := by rfl) :
    PE X (.Call (.Name "isinstance" p) [a, .Tuple [.Name x p2, .Name y p3] k p4] [] pos) (tE X.K W (mIsi2 T T' ma)) := by
  refine PE.imp (pe_callB call_isiT hg hm (by decide +kernel) (pa_cons ha (pa_cons (pe_tup (pa_cons (pe_bltn (v := .ty T) hg2 hm2 hv2 rfl hn2 hd2) (pa_cons (pe_bltn (v := .ty T') hg3 hm3 hv3 rfl hn3 hd3) pa_nil hs2) hs1)) pa_nil hs0) he) (by decide) (by decide) he hpl) fun σ H Q ⟨mu, ev, st, he, hst, hp⟩ => ?_
  refine ⟨mu, ev, st, he, hst, hp.bind fun d st1 mu1 x H1 _ e1 r1 s1 hp1 => ?_⟩
  split at hp1
  · rename_i t ht
    refine ⟨by show 2 ≤ sizeLine; decide, fun p hp => ?_⟩
    have s2 := s1.new hp (.tup [.ty T, .ty T'])
    obtain ⟨ty, ok⟩ := tyX_of s2 (Rp.mono (ext_new hp _) r1) ht
    refine ⟨x, p, [.ty T, .ty T'], .type t, [.type T, .type T'], isiB t T || isiB t T', rfl, upd_same, .cons (.ty T) (.cons (.ty T') .nil), ty, ?_, hp1 _ _ _ (ext_new hp _) (.bl _) s2⟩
    refine kitAny_cons (kit_ty (kit_all ok hT)) (fun e1 => ?_) (fun e1 => by rw [e1]; rfl)
    refine kitAny_cons (kit_ty (kit_all ok hT')) (fun e2 => ?_) (fun e2 => by rw [e2]; simp)
    rw [e1, e2]; rfl
  · exact hp1.elim
/-! ### a list that is read: a new one, or one of the store's -/
def RQ (K : PySem.W.Frag) : RR V (List D) := ⟨fun _ H mu _ v ds => ∃ p vs, v = .ref p ∧ SqL K H p vs ∧ Rps K H mu vs ds, fun _ h => h⟩
abbrev tQ (K : PySem.W.Frag) (W : Wx) (m : Mo (List D)) : TE := tG K W (RQ K) m
def mLst (m : Mo D) : Mo (List D) := fun ev st => (m ev st).bind fun d st1 => match d with
  | .ref i => (match st1[i]? with
    | some (.lst ds) => .ok ds st1
    | some (.ro ds) => .ok ds st1
    | _ => .bad)
  | .ro ds => .ok ds st1
  | _ => .bad
theorem mq_new (h : PE X e (tL X.K W mr)) : PE X e (tQ X.K W mr) := by
  refine PE.imp h fun σ H Q ⟨mu, ev, st, he, hst, hp⟩ => ⟨mu, ev, st, he, hst, ?_⟩
  cases hr : mr ev st with
  | bad => rw [hr] at hp; exact hp
  | exc c e s => rw [hr] at hp; exact hp
  | ok ds st1 =>
    rw [hr] at hp
    exact fun mu1 x H1 e1 ⟨p, vs, ex, h0, hpp, hn, rs⟩ s1 => hp mu1 x H1 e1 ⟨p, vs, ex, .inl (.inl hpp), rs⟩ s1
theorem mq_ref (h : PE X e (tE X.K W ma)) : PE X e (tQ X.K W (mLst ma)) := by
  refine PE.imp h fun σ H Q ⟨mu, ev, st, he, hst, hp⟩ => ?_
  refine ⟨mu, ev, st, he, hst, hp.bind fun d st1 mu1 x H1 _ e1 r1 s1 hp1 => ?_⟩
  split at hp1
  · cases r1 with
    | ref hi =>
      obtain ⟨o, ho, ok⟩ := s1.at hi
      rw [ho] at hp1
      split at hp1
      · rename_i eq; cases eq
        obtain ⟨vs, h1, r⟩ := ok
        exact hp1 _ _ _ .refl ⟨_, vs, rfl, .inl (.inl h1), r⟩ s1
      · rename_i eq; cases eq
        obtain ⟨vs, h1, r⟩ := ok
        exact hp1 _ _ _ .refl ⟨_, vs, rfl, .inl h1, r⟩ s1
      · exact hp1.elim
  · cases r1 with
    | ro h r => exact hp1 _ _ _ .refl ⟨_, _, rfl, h.sq, r⟩ s1
  · exact hp1.elim
/-- a call of one list -/
def QS (K : PySem.W.Frag) {ξ α : Type} (R : RR ξ α) (r : List V → Hp → (ξ → Hp → Prop) → Prop) (g : List D → Option α) : Prop := ∀ (mu : List Addr) (H : Hp) (st : Sto) (p : Addr) (vs : List V) (ds : List D) (d : α) (Q : ξ → Hp → Prop), RelSt K H mu st → SqL K H p vs → Rps K H mu vs ds → g ds = some d →
  (∀ mu' v H', Ext mu H mu' H' → R.r H H' mu' st v d → RelSt K H' mu' st → Q v H') → r [.ref p] H Q
def mQ {α : Type} (g : List D → Option α) (mr : Mo (List D)) : Mo α := fun ev st => (mr ev st).bind fun ds st1 => match g ds with
  | some d => .ok d st1
  | none => .bad
theorem qs_go {r : List V → Hp → VK → Prop} {α : Type} {R : RR V α} {g : List D → Option α} (hs : QS X.K R r g) {σ : L2.St} {H : Hp} {Q : VK} (h : tG X.K W R (mQ g mr) σ H Q) : tCB r (tCons (tQ X.K W mr) tNil) σ H Q := by
  obtain ⟨mu, ev, st, he, hst, hp⟩ := h
  refine ⟨mu, ev, st, he, hst, hp.bind fun ds st1 mu1 x H1 _ e1 r1 s1 hp1 => ?_⟩
  obtain ⟨p, vs, rfl, sq, rs⟩ := r1
  cases hg : g ds with
  | none => rw [hg] at hp1; exact hp1.elim
  | some d =>
    rw [hg] at hp1
    exact hs mu1 H1 st1 p vs ds d Q s1 sq rs hg hp1
theorem mq_callB {id : String} {x : Str} {α : Type} {R : RR V α} {r : List V → Hp → VK → Prop} {g : List D → Option α} (hc : CallR X (.builtin id) r) (hs : QS X.K R r g) (hg : Gl X x) (hm : X.mg x = none) (hv : bootBuiltins x = some (.builtin id)) (ha : PE X e (tQ X.K W mr)) (hn : x ≠ "__name__" := by decide) (hdb : (x == ("__debug__" : Str)) = false := by decide)
    (he : starEach [e] X.env = (false, eval e X.env) :: starEach [] X.env := by rfl) : PE X (.Call (.Name x p) [e] [] pos) (tG X.K W R (mQ g mr)) :=
  PE.imp (pe_callB hc hg hm hv (pa_cons ha pa_nil he) hn hdb he rfl) fun _ _ _ h => qs_go (R := R) hs h
theorem mq_callTy {id : String} {x : Str} {α : Type} {R : RR V α} {r : List V → Hp → VK → Prop} {g : List D → Option α} (hc : CallR X (.type id) r) (hs : QS X.K R r g) (hg : Gl X x) (hm : X.mg x = none) (hv : bootBuiltins x = some (.type id)) (ha : PE X e (tQ X.K W mr)) (hn : x ≠ "__name__" := by decide) (hdb : (x == ("__debug__" : Str)) = false := by decide)
    (he : starEach [e] X.env = (false, eval e X.env) :: starEach [] X.env := by rfl) : PE X (.Call (.Name x p) [e] [] pos) (tG X.K W R (mQ g mr)) :=
  PE.imp (pe_callTy hc hg hm hv (pa_cons ha pa_nil he) hn hdb he rfl) fun _ _ _ h => qs_go (R := R) hs h
def intsOf : List D → Option (List Int)
  | [] => some []
  | .int i :: ds => (intsOf ds).map (i :: ·)
  | _ => none
def blsOf : List D → Option (List Bool)
  | [] => some []
  | .bl i :: ds => (blsOf ds).map (i :: ·)
  | _ => none
theorem Rps.ints {K : PySem.W.Frag} {H : Hp} {mu : List Addr} : ∀ {vs : List V} {ds : List D} {ns : List Int}, Rps K H mu vs ds → intsOf ds = some ns → vs = ns.map V.int
  | _, _, _, .nil, e => by cases e; rfl
  | _, _, ns, .cons h hs, e => by
    cases h <;> simp only [intsOf] at e <;> try cases e
    cases hq : intsOf _ with
    | none => rw [hq] at e; cases e
    | some ms =>
      rw [hq] at e; cases e
      rw [Rps.ints hs hq]; rfl
theorem Rps.bls {K : PySem.W.Frag} {H : Hp} {mu : List Addr} : ∀ {vs : List V} {ds : List D} {ns : List Bool}, Rps K H mu vs ds → blsOf ds = some ns → vs = ns.map V.bl
  | _, _, _, .nil, e => by cases e; rfl
  | _, _, ns, .cons h hs, e => by
    cases h <;> simp only [blsOf] at e <;> try cases e
    cases hq : blsOf _ with
    | none => rw [hq] at e; cases e
    | some ms =>
      rw [hq] at e; cases e
      rw [Rps.bls hs hq]; rfl
theorem Rps.of_ints {K : PySem.W.Frag} {H : Hp} {mu : List Addr} : ∀ ns : List Int, Rps K H mu (ns.map V.int) (ns.map D.int)
  | [] => .nil
  | n :: ns => .cons (.int n) (Rps.of_ints ns)
def gSum (ds : List D) : Option D := (intsOf ds).map fun ns => .int ns.sum
def gAny (ds : List D) : Option D := (blsOf ds).map fun ns => .bl (ns.any id)
def gAll (ds : List D) : Option D := (blsOf ds).map fun ns => .bl (ns.all id)
theorem qs_sum {K : PySem.W.Frag} : QS K (RE K) (rSum K) gSum := by
  intro mu H st p vs ds d Q hs sq rs e k
  unfold gSum at e
  cases hq : intsOf ds with
  | none => rw [hq] at e; cases e
  | some ns =>
    rw [hq] at e; cases e
    exact ⟨p, ns, rfl, by rw [← Rps.ints rs hq]; exact sq, k _ _ _ .refl (.int _) hs⟩
theorem qs_any {K : PySem.W.Frag} : QS K (RE K) (rAny K) gAny := by
  intro mu H st p vs ds d Q hs sq rs e k
  unfold gAny at e
  cases hq : blsOf ds with
  | none => rw [hq] at e; cases e
  | some ns =>
    rw [hq] at e; cases e
    exact ⟨p, ns, rfl, by rw [← Rps.bls rs hq]; exact sq, k _ _ _ .refl (.bl _) hs⟩
theorem qs_all {K : PySem.W.Frag} : QS K (RE K) (rAll K) gAll := by
  intro mu H st p vs ds d Q hs sq rs e k
  unfold gAll at e
  cases hq : blsOf ds with
  | none => rw [hq] at e; cases e
  | some ns =>
    rw [hq] at e; cases e
    exact ⟨p, ns, rfl, by rw [← Rps.bls rs hq]; exact sq, k _ _ _ .refl (.bl _) hs⟩
/-- rising -/
def insI (x : Int) : List Int → List Int
  | [] => [x]
  | y :: ys => if x ≤ y then x :: y :: ys else y :: insI x ys
def sortI : List Int → List Int
  | [] => []
  | x :: xs => insI x (sortI xs)
theorem insI_perm (x : Int) : ∀ ys, (insI x ys).Perm (x :: ys)
  | [] => .refl _
  | y :: ys => by
    unfold insI
    split
    · exact .refl _
    · exact ((insI_perm x ys).cons y).trans (.swap x y ys)
theorem sortI_perm : ∀ xs, (sortI xs).Perm xs
  | [] => .refl _
  | x :: xs => (insI_perm x _).trans ((sortI_perm xs).cons x)
theorem insI_sorted (x : Int) : ∀ ys, ys.Pairwise (· ≤ ·) → (insI x ys).Pairwise (· ≤ ·)
  | [], _ => by simp [insI]
  | y :: ys, h => by
    unfold insI
    rw [List.pairwise_cons] at h
    split
    · rename_i hxy
      rw [List.pairwise_cons]
      refine ⟨fun z hz => ?_, by rw [List.pairwise_cons]; exact h⟩
      rcases List.mem_cons.mp hz with rfl | hz
      · exact hxy
      · exact Int.le_trans hxy (h.1 z hz)
    · rename_i hxy
      rw [List.pairwise_cons]
      refine ⟨fun z hz => ?_, insI_sorted x ys h.2⟩
      rcases List.mem_cons.mp ((insI_perm x ys).mem_iff.mp hz) with rfl | hz
      · omega
      · exact h.1 z hz
theorem sortI_sorted : ∀ xs, (sortI xs).Pairwise (· ≤ ·)
  | [] => by simp [sortI]
  | x :: xs => insI_sorted x _ (sortI_sorted xs)
theorem sorted_one : ∀ {xs ys : List Int}, xs.Perm ys → xs.Pairwise (· ≤ ·) → ys.Pairwise (· ≤ ·) → xs = ys := by
  intro xs ys hp h1 h2
  exact hp.eq_of_pairwise (fun a b _ _ h h' => Int.le_antisymm h h') h1 h2
def gSorted (ds : List D) : Option (List D) := (intsOf ds).map fun ns => (sortI ns).map D.int
theorem qs_sorted {K : PySem.W.Frag} : QS K (RL K) (rSortedI K) gSorted := by
  intro mu H st p vs ds d Q hs sq rs e k
  unfold gSorted at e
  cases hq : intsOf ds with
  | none => rw [hq] at e; cases e
  | some ns =>
    rw [hq] at e; cases e
    refine ⟨p, ns, rfl, by rw [← Rps.ints rs hq]; exact sq, fun ns' p' hp hsd hn => ?_⟩
    have e1 : ns' = sortI ns := sorted_one (hp.trans (sortI_perm ns).symm) hsd (sortI_sorted ns)
    subst e1
    exact k _ _ _ (ext_new hn _) ⟨p', _, rfl, hn, upd_same, hs.fresh hn, Rps.of_ints _⟩ (hs.new hn _)
def gTupOf (ds : List D) : Option D := some (.tup ds)
theorem qs_tup {K : PySem.W.Frag} : QS K (RE K) (fun xs H Q => ∃ p ys, xs = [.ref p] ∧ ((SqL K H p ys ∧ ∀ l, H l = none → Q (.ref l) (upd H l (.tup ys))) ∨ (SqT K H p ys ∧ Q (.ref p) H))) gTupOf := by
  intro mu H st p vs ds d Q hs sq rs e k
  cases e
  exact ⟨p, vs, rfl, .inl ⟨sq, fun l hl => k _ _ _ (ext_new hl _) (.tup (.inl upd_same) (rs.ctx hl)) (hs.new hl _)⟩⟩
/-- l[i] of a list that is read (a new one) -/
def mItemQ (mr : Mo (List D)) (mb : Mo D) : Mo D := fun ev st => (mr ev st).bind fun ds st1 => (mb ev st1).bind fun d st2 => match d with
  | .int i => (match L2.atI ds i with
    | some z => .ok z st2
    | none => .bad)
  | _ => .bad
end Ml

namespace Ml
open PySem L2
variable {X : Cx} {W : Wx} {a b c e : Expr} {es rest : List Expr} {pos p q : Pos} {ma mb mc : Mo D} {mr : Mo (List D)} {ta tb : Mo Bool} {s1 s2 : Ms}
/-! ### statements -/
def mSkip : Ms := fun ev st => .ok (.nx, ev) st
def mSeq (s1 s2 : Ms) : Ms := fun ev st => match s1 ev st with
  | .ok (.nx, ev1) st1 => s2 ev1 st1
  | r => r
def mRet (m : Mo D) : Ms := fun ev st => (m ev st).bind fun d st1 => .ok (.rt d, ev) st1
def mRetN : Ms := fun ev st => .ok (.rt .non, ev) st
def mBreak : Ms := fun ev st => .ok (.bk, ev) st
def mSet (i : Nat) (m : Mo D) : Ms := fun ev st => (m ev st).bind fun d st1 => .ok (.nx, ev.set i (some d)) st1
def mIfS (t : Mo Bool) (s1 s2 : Ms) : Ms := fun ev st => (t ev st).bind fun b st1 => if b = true then s1 ev st1 else s2 ev st1
def mDrop (m : Mo D) : Ms := fun ev st => (m ev st).bind fun _ st1 => .ok (.nx, ev) st1
theorem mss_nil : PSs X [] (tS X.K W mSkip) := PSs.imp pss_nil fun D σ H ⟨mu, ev, st, he, hs, hp⟩ => hp _ _ _ .refl he hs
theorem PostS.seq {K : PySem.W.Frag} {mu : List Addr} {H : Hp} {s1 s2 : Ms} {ev : Ev} {st : Sto} {D : Ends} (h : PostS K W mu H (mSeq s1 s2 ev st) D) : PostS K W mu H (s1 ev st) { D with nx := tS K W s2 D } := by
  unfold mSeq at h
  cases hr : s1 ev st with
  | bad => rw [hr] at h; exact h
  | exc c e s => rw [hr] at h; exact h
  | ok r st1 =>
    obtain ⟨fl, ev1⟩ := r
    rw [hr] at h
    cases fl with
    | nx => exact fun mu' σ' H' e he hs => ⟨mu', ev1, st1, he, hs, PostS.from h e⟩
    | rt d => exact h
    | bk => exact h
    | ct => exact h
theorem mss_cons {s : Stmt} {r : List Stmt} (h1 : PS X s (tS X.K W s1)) (h2 : PSs X r (tS X.K W s2)) : PSs X (s :: r) (tS X.K W (mSeq s1 s2)) :=
  PSs.imp (pss_cons h1 h2) fun D σ H ⟨mu, ev, st, he, hs, hp⟩ => ⟨mu, ev, st, he, hs, PostS.seq hp⟩
theorem mss_one {s : Stmt} (h1 : PS X s (tS X.K W s1)) : PSs X [s] (tS X.K W s1) := pss_one h1
theorem ms_ret (h : PE X e (tE X.K W ma)) : PS X (.Return (some e) pos) (tS X.K W (mRet ma)) := by
  refine PS.imp (ps_ret h) fun D σ H ⟨mu, ev, st, he, hs, hp⟩ => ?_
  refine ⟨mu, ev, st, he, hs, hp.bind fun d st1 mu1 x H1 _ e1 r1 s1 hp1 => ?_⟩
  exact hp1 _ _ _ .refl (he.mono e1) s1 x r1
theorem ms_retN : PS X (.Return none pos) (tS X.K W mRetN) := PS.imp ps_retN fun D σ H ⟨mu, ev, st, he, hs, hp⟩ => hp _ _ _ .refl he hs .non .non
theorem ms_pass : PS X (.Pass pos) (tS X.K W mSkip) := PS.imp ps_pass fun D σ H ⟨mu, ev, st, he, hs, hp⟩ => hp _ _ _ .refl he hs
theorem ms_break : PS X (.Break pos) (tS X.K W mBreak) := PS.imp ps_break fun D σ H ⟨mu, ev, st, he, hs, hp⟩ => hp _ _ _ .refl he hs
theorem ms_set {i : Nat} {x : Str} {pos' : Pos} (hN : X.N.Nodup) (hi : X.N[i]? = some x) (hx : Loc X.env.scope x) (h : PE X e (tE X.K W ma)) (hs : swapsWith e (some (.Name x pos')) pos.line X.env = pure false := by rfl) (hf : X.fn x = true ∨ X.env.scope.names.lookup x = some .local := by first | exact .inl rfl | exact .inr rfl) :
    PS X (.Assign [.Name x pos'] e pos) (tS X.K W (mSet i ma)) := by
  refine PS.imp (ps_set hN hi hx h hs hf) fun D σ H ⟨mu, ev, st, he, hs, hp⟩ => ?_
  refine ⟨mu, ev, st, he, hs, hp.bind fun d st1 mu1 x H1 _ e1 r1 s1 hp1 => ?_⟩
  exact hp1 _ _ _ .refl ((he.mono e1).set r1 i) s1
theorem ms_if {A B : List Stmt} (hc : PT X c (tT X.K W ta)) (ha : PSs X A (tS X.K W s1)) (hb : PSs X B (tS X.K W s2)) : PS X (.If c A B pos) (tS X.K W (mIfS ta s1 s2)) := by
  refine PS.imp (ps_if hc ha hb) fun D σ H ⟨mu, ev, st, he, hs, hp⟩ => ?_
  refine ⟨mu, ev, st, he, hs, hp.bind fun d st1 mu1 x H1 _ e1 r1 s1 hp1 => ?_⟩
  obtain rfl : x = d := r1
  cases x with
  | true => exact ⟨mu1, ev, st1, he.mono e1, s1, hp1⟩
  | false => exact ⟨mu1, ev, st1, he.mono e1, s1, hp1⟩
theorem ms_expr (h : PE X e (tE X.K W ma)) (hs : swapsWith e none pos.line X.env = pure false := by rfl) : PS X (.Expr e pos) (tS X.K W (mDrop ma)) := by
  refine PS.imp (ps_expr h hs) fun D σ H ⟨mu, ev, st, he, hs, hp⟩ => ?_
  refine ⟨mu, ev, st, he, hs, hp.bind fun d st1 mu1 x H1 _ e1 r1 s1 hp1 => ?_⟩
  exact hp1 _ _ _ .refl (he.mono e1) s1
/-! ### targets -/
abbrev Gt := D → Ev → Option Ev
/-- slots beyond ws stand -/
def Frm (ws : List Nat) (σ σ' : L2.St) : Prop := σ'.length = σ.length ∧ ∀ i, i ∉ ws → σ'[i]? = σ[i]?
theorem Frm.trans {ws ws' : List Nat} {σ σ1 σ2 : L2.St} (a : Frm ws σ σ1) (b : Frm ws' σ1 σ2) : Frm (ws ++ ws') σ σ2 :=
  ⟨b.1.trans a.1, fun i h => by simp only [List.mem_append, not_or] at h; exact (b.2 i h.2).trans (a.2 i h.1)⟩
theorem frm_set (σ : L2.St) (i : Nat) (v : Option V) : Frm [i] σ (σ.set i v) := ⟨by simp, fun j h => by simp at h; exact List.getElem?_set_ne (Ne.symm h)⟩
def tGt (K : PySem.W.Frag) (ws : List Nat) (g : Gt) : TG := fun v σ H Q => ∃ mu d ev ev', Rp K H mu v d ∧ RelEv K H mu σ ev ∧ g d ev = some ev' ∧ ∀ σ', RelEv K H mu σ' ev' → Frm ws σ σ' → Q σ' H
abbrev Gts := List D → Ev → Option Ev
def tGts (K : PySem.W.Frag) (ws : List Nat) (g : Gts) : TGs := fun vs σ H Q => ∃ mu ds ev ev', Rps K H mu vs ds ∧ RelEv K H mu σ ev ∧ g ds ev = some ev' ∧ ∀ σ', RelEv K H mu σ' ev' → Frm ws σ σ' → Q σ' H
theorem PG.imp {t t' : TG} (h : PG X e t) (k : ∀ v σ H Q, t' v σ H Q → t v σ H Q) : PG X e t' := ⟨fun pins s σ H v u Q I r hw => h.run pins s σ H v u Q I r (k v σ H Q hw)⟩
theorem PGs.imp {t t' : TGs} (h : PGs X es t) (k : ∀ v σ H Q, t' v σ H Q → t v σ H Q) : PGs X es t' := ⟨fun pins s σ H v u Q I r hw => h.run pins s σ H v u Q I r (k v σ H Q hw)⟩
def gtName (i : Nat) : Gt := fun d ev => some (ev.set i (some d))
def gtsNil : Gts := fun ds ev => match ds with
  | [] => some ev
  | _ => none
def gtsCons (g : Gt) (gs : Gts) : Gts := fun ds ev => match ds with
  | d :: ds => (g d ev).bind (gs ds)
  | [] => none
def gtTup (n : Nat) (gs : Gts) : Gt := fun d ev => match d with
  | .tup ds => if ds.length = n then gs ds ev else none
  | _ => none
theorem mg_name {i : Nat} {x : Str} (hN : X.N.Nodup) (hi : X.N[i]? = some x) (hx : Loc X.env.scope x) (hf : X.fn x = true ∨ X.env.scope.names.lookup x = some .local := by first | exact .inl rfl | exact .inr rfl) : PG X (.Name x pos) (tGt X.K [i] (gtName i)) := by
  refine PG.imp (pg_name hN hi hx hf) fun v σ H Q ⟨mu, d, ev, ev', r, he, hg, hq⟩ => ?_
  cases hg
  exact hq _ (he.set r i) (frm_set _ _ _)
theorem mgs_nil : PGs X [] (tGts X.K [] gtsNil) := by
  refine PGs.imp pgs_nil fun vs σ H Q ⟨mu, ds, ev, ev', r, he, hg, hq⟩ => ?_
  cases r with
  | nil => cases hg; exact ⟨rfl, hq _ he ⟨rfl, fun _ _ => rfl⟩⟩
  | cons _ _ => cases hg
theorem mgs_cons {g : Gt} {gs : Gts} {ws ws' : List Nat} (h1 : PG X e (tGt X.K ws g)) (h2 : PGs X es (tGts X.K ws' gs)) (hs : (assignEach (e :: es) X.env).map (·.2) = assign e X.env :: (assignEach es X.env).map (·.2) := by rfl) : PGs X (e :: es) (tGts X.K (ws ++ ws') (gtsCons g gs)) := by
  refine PGs.imp (pgs_cons h1 h2 hs) fun vs σ H Q ⟨mu, ds, ev, ev', r, he, hg, hq⟩ => ?_
  cases r with
  | nil => cases hg
  | cons h hs =>
    simp only [gtsCons] at hg
    cases hg1 : g _ ev with
    | none => rw [hg1] at hg; cases hg
    | some ev1 =>
      rw [hg1] at hg
      exact ⟨_, _, rfl, mu, _, ev, ev1, h, he, hg1, fun σ' he' f' => ⟨mu, _, ev1, ev', hs, he', hg, fun σ'' he'' f'' => hq σ'' he'' (f'.trans f'')⟩⟩
theorem mg_tup {k n : Nat} {gs : Gts} {ws : List Nat} (hc : X.calm = true) (h : PGs X es (tGts X.K ws gs)) (hn : (assignEach es X.env).length = n := by rfl) (hst : (assignEach es X.env).findIdx? (·.1) = none := by rfl) : PG X (.Tuple es k pos) (tGt X.K ws (gtTup n gs)) := by
  refine PG.imp (pg_tup hc h hn hst) fun v σ H Q ⟨mu, d, ev, ev', r, he, hg, hq⟩ => ?_
  unfold gtTup at hg
  split at hg
  · split at hg
    · rename_i hl
      cases r with
      | tup ht hs => exact ⟨_, _, rfl, ht.sq, (Rps.length hs).trans hl, mu, _, ev, ev', hs, he, hg, hq⟩
    · cases hg
  · cases hg
def mAsg (m : Mo D) (g : Gt) : Ms := fun ev st => (m ev st).bind fun d st1 => match g d ev with
  | some ev' => .ok (.nx, ev') st1
  | none => .bad
theorem ms_asg {tg : Expr} {g : Gt} {ws : List Nat} (he : PE X e (tE X.K W ma)) (hg : PG X tg (tGt X.K ws g)) (hs : swapsWithSole [tg] e pos.line X.env = pure false := by rfl) (hw : swappedStores [tg] e X.env = pure none := by rfl)
    (h1 : (assignEach [tg] X.env).map (·.2) = [assign tg X.env] := by rfl) : PS X (.Assign [tg] e pos) (tS X.K W (mAsg ma g)) := by
  refine PS.imp (ps_asg he hg hs hw h1) fun D σ H ⟨mu, ev, st, he, hs, hp⟩ => ?_
  refine ⟨mu, ev, st, he, hs, hp.bind fun d st1 mu1 x H1 _ e1 r1 s1 hp1 => ?_⟩
  cases hgd : g d ev with
  | none => rw [hgd] at hp1; exact hp1.elim
  | some ev' =>
    rw [hgd] at hp1
    exact ⟨mu1, d, ev, ev', r1, he.mono e1, hgd, fun σ' he' _ => hp1 _ _ _ .refl he' s1⟩
/-- a, b = x, y -/
def mPar (i j : Nat) (mr : Mo (List D)) : Ms := fun ev st => (mr ev st).bind fun ds st1 => match ds with
  | [x, y] => .ok (.nx, (ev.set i (some x)).set j (some y)) st1
  | _ => .bad
theorem ms_par {i j : Nat} {x y : Str} {px py pt : Pos} {kt k2 : Nat} {pt2 : Pos} (hc : X.calm = true) (hN : X.N.Nodup) (hi : X.N[i]? = some x) (hj : X.N[j]? = some y) (hij : i ≠ j)
    (hx : X.env.scope.names.lookup x = some .local) (hy : X.env.scope.names.lookup y = some .local) (ha : PA X [a, b] (tA X.K W mr))
    (hw : swappedStores [.Tuple [.Name x px, .Name y py] kt pt] (.Tuple [a, b] k2 pt2) X.env = pure (some [x, y]))
    (hs : swapsWithSole [.Tuple [.Name x px, .Name y py] kt pt] (.Tuple [a, b] k2 pt2) pos.line X.env = pure false := by rfl) :
    PS X (.Assign [.Tuple [.Name x px, .Name y py] kt pt] (.Tuple [a, b] k2 pt2) pos) (tS X.K W (mPar i j mr)) := by
  refine PS.imp (ps_par hc hN hi hj hij hx hy ha hw hs) fun D σ H ⟨mu, ev, st, he, hs, hp⟩ => ?_
  refine ⟨mu, ev, st, he, hs, hp.bind fun ds st1 mu1 xs H1 _ e1 r1 s1 hp1 => ?_⟩
  split at hp1
  · cases r1 with
    | cons h1 h2 =>
      cases h2 with
      | cons h2 h3 =>
        cases h3
        exact ⟨_, _, rfl, hp1 _ _ _ .refl (((he.mono e1).set h1 i).set h2 j) s1⟩
  · exact hp1.elim
/-! ### what a loop walks -/
/-- the items ds in J's order, while inv holds; H0: where the walk began -/
structure IterOk (K : PySem.W.Frag) (H0 : Hp) (J : It) (ds : List D) (inv : Hp → List Addr → Prop) : Prop where
  go : ∀ (H : Hp) (mu : List Addr) (i : Nat) (x : D), inv H mu → ds[i]? = some x → J.go i H
  yld : ∀ (H : Hp) (mu : List Addr) (st : Sto) (i : Nat) (x : D) (v : V) (H' : Hp), RelSt K H mu st → inv H mu → ds[i]? = some x → J.yld i H v H' → Ext mu H mu H' ∧ Rp K H' mu v x ∧ RelSt K H' mu st
  stop : ∀ (H : Hp) (mu : List Addr), inv H mu → J.stop ds.length H
  keep : ∀ (H : Hp) (mu : List Addr) (H' : Hp) (mu' : List Addr), inv H mu → Ext mu H mu' H' → inv H' mu'
  tmp : ∀ (H : Hp) (mu : List Addr) (q : Addr) (l l' : List V), inv H mu → H0 q = none → H q = some (.lst l) → q ∉ mu → inv (upd H q (.lst l')) mu
def RI (K : PySem.W.Frag) : RR It (List D) := ⟨fun _ H mu _ J ds => ds.length ≤ lim ∧ ∃ inv, IterOk K H J ds inv ∧ inv H mu, fun _ h => h⟩
abbrev tI (K : PySem.W.Frag) (W : Wx) (m : Mo (List D)) : TI := tG K W (RI K) m
theorem PI.imp {tg : Expr} {t t' : TI} (h : PI X tg e t) (k : ∀ σ H R, t' σ H R → t σ H R) : PI X tg e t' := ⟨fun pins s σ H R I hw => h.run pins s σ H R I (k σ H R hw)⟩
def loop (g : Gt) (body : Ms) : List D → Ms
  | [] => fun ev st => .ok (.nx, ev) st
  | d :: ds => fun ev st => match g d ev with
    | none => .bad
    | some ev1 => match body ev1 st with
      | .ok (.nx, ev2) st2 => loop g body ds ev2 st2
      | .ok (.ct, ev2) st2 => loop g body ds ev2 st2
      | .ok (.bk, ev2) st2 => .ok (.nx, ev2) st2
      | .ok (.rt d, ev2) st2 => .ok (.rt d, ev2) st2
      | .bad => .bad
      | .exc c e s => .exc c e s
def mFor (mi : Mo (List D)) (g : Gt) (body : Ms) : Ms := fun ev st => (mi ev st).bind fun it st1 => loop g body it ev st1
theorem ms_for {tg : Expr} {body : List Stmt} {mi : Mo (List D)} {g : Gt} {ws : List Nat} (hp : PassesOwn (model X.prog X.w) X.A X.env X.xe) (hc : X.calm = true) (hi : PI X tg e (tI X.K W mi)) (hg : PG X tg (tGt X.K ws g)) (hb : PSs X body (tS X.K W s1))
    (hs : ∀ x, foldedSetIterable e X.env x = pure x := by intro _; rfl) : PS X (.For tg e body [] pos) (tS X.K W (mFor mi g s1)) := by
  refine PS.imp (ps_for hp hc hi hg hb hs) fun D σ H ⟨mu, ev, st, he, hs, hp⟩ => ?_
  refine ⟨mu, ev, st, he, hs, hp.bind fun it st1 mu1 J H1 _ e1 r1 s1' hp1 => ?_⟩
  obtain ⟨hl, inv, ok, hinv⟩ := r1
  refine ⟨fun i m σ H => m = it.length - i ∧ i ≤ it.length ∧ ∃ mu ev st, RelEv X.K H mu σ ev ∧ RelSt X.K H mu st ∧ inv H mu ∧ PostS X.K W mu H (loop g s1 (it.drop i) ev st) D, ⟨_, rfl, Nat.zero_le _, mu1, ev, st1, he.mono e1, s1', hinv, by simpa using hp1⟩, ?_⟩
  rintro i m σ H ⟨rfl, hi, mu, ev, st, he, hs, hinv, hp⟩
  by_cases hlt : i < it.length
  · have hx : it[i]? = some it[i] := List.getElem?_eq_getElem hlt
    refine .inr ⟨ok.go H mu i _ hinv hx, fun σ' H' => i + 1 ≤ it.length ∧ ∃ mu ev st, RelEv X.K H' mu σ' ev ∧ RelSt X.K H' mu st ∧ inv H' mu ∧ PostS X.K W mu H' (loop g s1 (it.drop (i + 1)) ev st) D, fun σ' H' h => ⟨_, by omega, rfl, h⟩, fun v H' y => ?_⟩
    obtain ⟨k1, k2, k3⟩ := ok.yld H mu st i _ v H' hs hinv hx y
    have k4 := ok.keep _ _ _ _ hinv k1
    have hp := PostS.from hp k1
    rw [List.drop_eq_getElem_cons hlt] at hp
    simp only [loop] at hp
    cases hg : g it[i] ev with
    | none => rw [hg] at hp; exact hp.elim
    | some ev1 =>
      rw [hg] at hp
      simp only at hp
      refine ⟨mu, _, ev, ev1, k2, he.mono k1, hg, fun σ' he' _ => ⟨mu, ev1, st, he', k3, ?_⟩⟩
      cases hb : s1 ev1 st with
      | bad => rw [hb] at hp; exact hp
      | exc c e s => rw [hb] at hp; exact hp
      | ok r st2 =>
        obtain ⟨fl, ev2⟩ := r
        rw [hb] at hp
        cases fl with
        | nx => exact fun mu' σ' H'' e' he' hs' => ⟨hlt, mu', ev2, st2, he', hs', ok.keep _ _ _ _ k4 e', PostS.from hp e'⟩
        | ct => exact fun mu' σ' H'' e' he' hs' => ⟨hlt, mu', ev2, st2, he', hs', ok.keep _ _ _ _ k4 e', PostS.from hp e'⟩
        | bk => exact hp
        | rt d => exact hp
  · have e0 : i = it.length := by omega
    subst e0
    rw [List.drop_length] at hp
    exact .inl ⟨ok.stop H mu hinv, hp _ _ _ .refl he hs⟩
/-- a tuple; numbers -/
def mItT (m : Mo D) : Mo (List D) := fun ev st => (m ev st).bind fun d st1 => match d with
  | .tup ds => if ds.length ≤ lim then .ok ds st1 else .bad
  | _ => .bad
theorem ne_tmp {H : Hp} {q : Addr} {l : List V} {a : Addr} {vs : List V} (h : H q = some (.lst l)) (ha : H a = some (.tup vs)) : a ≠ q := by
  intro e; subst e; rw [h] at ha; cases ha
theorem ext0_tmp {H : Hp} {mu : List Addr} {q : Addr} {l l' : List V} (h : H q = some (.lst l)) : Ext0 mu H mu (upd H q (.lst l')) :=
  ⟨⟨[], by simp⟩, fun a vs ha => by rw [upd_ne (ne_tmp h ha)]; exact ha, fun a o vs ha n => ⟨by rw [upd_ne (fun e => by subst e; rw [h] at ha; cases ha)]; exact ha, n⟩⟩
theorem RelSt.tmp {K : PySem.W.Frag} {H : Hp} {mu : List Addr} {st : Sto} (r : RelSt K H mu st) {q : Addr} {l l' : List V} (h : H q = some (.lst l)) (hn : q ∉ mu) : RelSt K (upd H q (.lst l')) mu st :=
  ⟨r.len, r.nd, fun i a o h1 h2 => (r.ob i a o h1 h2).mono0 (ext0_tmp h) (upd_ne fun e => hn (e ▸ List.mem_of_getElem? h1))⟩
theorem iter_tup {K : PySem.W.Frag} {H0 : Hp} {q : Addr} {vs : List V} {ds : List D} : IterOk K H0 (Itt K q) ds (fun H mu => TupAt K H q vs ∧ Rps K H mu vs ds) := by
  refine ⟨?_, ?_, ?_, ?_, ?_⟩
  · rintro H mu i x ⟨h1, h2⟩ hx
    obtain ⟨v, hv, _⟩ := h2.get hx
    exact ⟨vs, v, h1.sq, hv⟩
  · rintro H mu st i x v H' hst ⟨h1, h2⟩ hx ⟨e, hy⟩
    subst e
    obtain ⟨w, hw, rw'⟩ := h2.get hx
    have := hy vs h1.sq
    rw [hw] at this
    cases this
    exact ⟨.refl, rw', hst⟩
  · rintro H mu ⟨h1, h2⟩
    exact ⟨vs, h1.sq, Nat.le_of_eq (Rps.length h2)⟩
  · rintro H mu H' mu' ⟨h1, h2⟩ e
    exact ⟨e.tupAt h1, h2.mono e⟩
  · rintro H mu q' l l' ⟨h1, h2⟩ _ hq _
    exact ⟨(ext0_tmp (mu := mu) hq).tupAt h1, h2.mono0 (ext0_tmp hq)⟩
theorem mi_tup {tg : Expr} (h : PE X e (tE X.K W ma)) : PI X tg e (tI X.K W (mItT ma)) := by
  refine PI.imp (pi_tup h) fun σ H Q ⟨mu, ev, st, he, hs, hp⟩ => ?_
  refine ⟨mu, ev, st, he, hs, hp.bind fun d st1 mu1 x H1 _ e1 r1 s1 hp1 => ?_⟩
  split at hp1
  · split at hp1
    · rename_i hl
      cases r1 with
      | tup ht hr =>
        exact ⟨_, rfl, ⟨_, ht.sq⟩, hp1 _ _ _ .refl ⟨hl, _, iter_tup, ht, hr⟩ s1⟩
    · exact hp1.elim
  · exact hp1.elim
def rngD (lo : Int) (n : Nat) : List D := (List.range n).map fun i => D.int (lo + (i : Nat))
theorem rngD_get {lo : Int} {n i : Nat} {x : D} (h : (rngD lo n)[i]? = some x) : i < n ∧ x = .int (lo + (i : Nat)) := by
  unfold rngD at h
  rw [List.getElem?_map] at h
  cases hr : (List.range n)[i]? with
  | none => rw [hr] at h; cases h
  | some j =>
    rw [hr] at h
    obtain ⟨h1, h2⟩ := List.getElem?_eq_some_iff.mp hr
    rw [List.getElem_range] at h2
    subst h2
    rw [List.length_range] at h1
    simp only [Option.map_some, Option.some.injEq] at h
    exact ⟨h1, h.symm⟩
theorem rngD_len {lo : Int} {n : Nat} : (rngD lo n).length = n := by unfold rngD; simp
def mItR (mr : Mo (List D)) : Mo (List D) := fun ev st => (mr ev st).bind fun ds st1 => match ds with
  | [.int j] => if j.toNat ≤ lim ∧ -1000000000 ≤ j then .ok (rngD 0 j.toNat) st1 else .bad
  | _ => .bad
def mItR2 (mr : Mo (List D)) : Mo (List D) := fun ev st => (mr ev st).bind fun ds st1 => match ds with
  | [.int i, .int j] => if (j - i).toNat ≤ lim ∧ -1000000000 ≤ i ∧ i ≤ 1000000000 ∧ -1000000000 ≤ j ∧ j ≤ 1000000000 then .ok (rngD i (j - i).toNat) st1 else .bad
  | _ => .bad
theorem iter_rng {K : PySem.W.Frag} {H0 : Hp} {lo : Int} {n : Nat} : IterOk K H0 (Itr lo n) (rngD lo n) (fun _ _ => True) :=
  ⟨fun H mu i x _ hx => (rngD_get hx).1, fun H mu st i x v H' hst _ hx ⟨e1, e2⟩ => by
    obtain ⟨_, rfl⟩ := rngD_get hx
    subst e1; subst e2
    exact ⟨.refl, .int _, hst⟩, fun H mu _ => by show n ≤ (rngD lo n).length; rw [rngD_len]; exact Nat.le_refl _, fun _ _ _ _ _ _ => trivial, fun _ _ _ _ _ _ _ _ _ => trivial⟩
theorem mi_rng1 {tg : Expr} (hg : Gl X "range") (hm : X.mg "range" = none) (ha : PA X [a] (tA X.K W mr)) (hs : starEach [a] X.env = [(false, eval a X.env)] := by rfl) : PI X tg (.Call (.Name "range" p) [a] [] pos) (tI X.K W (mItR mr)) := by
  refine PI.imp (pi_range1 hg hm ha hs) fun σ H Q ⟨mu, ev, st, he, hs, hp⟩ => ?_
  refine ⟨mu, ev, st, he, hs, hp.bind fun ds st1 mu1 xs H1 _ e1 r1 s1 hp1 => ?_⟩
  split at hp1
  · split at hp1
    · rename_i hl
      cases r1 with
      | cons h1 h2 =>
        cases h2; cases h1
        exact ⟨_, rfl, by omega, by have := hl.1; unfold lim at this; omega, hp1 _ _ _ .refl ⟨by rw [rngD_len]; exact hl.1, _, iter_rng, trivial⟩ s1⟩
    · exact hp1.elim
  · exact hp1.elim
theorem mi_rng2 {tg : Expr} (hg : Gl X "range") (hm : X.mg "range" = none) (ha : PA X [a, b] (tA X.K W mr)) (hs : starEach [a, b] X.env = [(false, eval a X.env), (false, eval b X.env)] := by rfl) (hs2 : starEach [b] X.env = [(false, eval b X.env)] := by rfl) : PI X tg (.Call (.Name "range" p) [a, b] [] pos) (tI X.K W (mItR2 mr)) := by
  refine PI.imp (pi_range2 hg hm ha hs hs2) fun σ H Q ⟨mu, ev, st, he, hs, hp⟩ => ?_
  refine ⟨mu, ev, st, he, hs, hp.bind fun ds st1 mu1 xs H1 _ e1 r1 s1 hp1 => ?_⟩
  split at hp1
  · split at hp1
    · rename_i hl
      cases r1 with
      | cons h1 h2 =>
        cases h2 with
        | cons h2 h3 =>
          cases h3; cases h1; cases h2
          exact ⟨_, _, rfl, by omega, hp1 _ _ _ .refl ⟨by rw [rngD_len]; exact hl.1, _, iter_rng, trivial⟩ s1⟩
    · exact hp1.elim
  · exact hp1.elim
end Ml

namespace Ml
open PySem L2
variable {X : Cx} {W : Wx} {a b c e : Expr} {es rest : List Expr} {pos p q : Pos} {ma mb mc : Mo D} {mr : Mo (List D)} {ta tb : Mo Bool} {s1 s2 : Ms}
/-! ### comprehensions -/
def wipeD (ev : Ev) : List Nat → Ev
  | [] => ev
  | v :: vs => (wipeD ev vs).set v none
theorem wipeD_length (ev : Ev) : ∀ vs : List Nat, (wipeD ev vs).length = ev.length
  | [] => rfl
  | v :: vs => by unfold wipeD; rw [List.length_set, wipeD_length ev vs]
theorem wipeD_some {ev : Ev} {i : Nat} {x : D} : ∀ {vs : List Nat}, (wipeD ev vs)[i]? = some (some x) → ev[i]? = some (some x) ∧ i ∉ vs
  | [], h => ⟨h, by simp⟩
  | v :: vs, h => by
    unfold wipeD at h
    by_cases hi : v = i
    · subst hi
      by_cases hv : v < (wipeD ev vs).length
      · rw [List.getElem?_set_self hv] at h; cases h
      · rw [List.getElem?_eq_none (by simpa using hv)] at h; cases h
    · rw [List.getElem?_set_ne hi] at h
      obtain ⟨h1, h2⟩ := wipeD_some h
      exact ⟨h1, by simp only [List.mem_cons, not_or]; exact ⟨fun e => hi e.symm, h2⟩⟩
theorem RelEv.wipe {K : PySem.W.Frag} {H : Hp} {mu : List Addr} {σ : L2.St} {ev : Ev} (r : RelEv K H mu σ ev) (vs : List Nat) : RelEv K H mu (wipe σ vs) (wipeD ev vs) := by
  refine ⟨by rw [wipe_length, wipeD_length, r.1], fun i d h => ?_⟩
  obtain ⟨h1, h2⟩ := wipeD_some h
  obtain ⟨v, hv, rv⟩ := r.2 i d h1
  exact ⟨v, by rw [wipe_out h2]; exact hv, rv⟩
theorem wipe_at {σ : L2.St} {i : Nat} : ∀ {vs : List Nat}, i ∈ vs → (wipe σ vs)[i]? = if i < σ.length then some none else none
  | [], h => by simp at h
  | v :: vs, h => by
    unfold L2.wipe
    by_cases hi : v = i
    · subst hi
      by_cases hv : v < σ.length
      · rw [List.getElem?_set_self (by rw [wipe_length]; exact hv), if_pos hv]
      · rw [List.getElem?_eq_none (by rw [List.length_set, wipe_length]; omega), if_neg hv]
    · rw [List.getElem?_set_ne hi]
      exact wipe_at (by rcases List.mem_cons.mp h with h | h; exact absurd h.symm hi; exact h)
theorem wipe_frm {ws vs : List Nat} {σ σ' : L2.St} (f : Frm ws σ σ') (h : ∀ i ∈ ws, i ∈ vs) : wipe σ' vs = wipe σ vs := by
  apply List.ext_getElem?
  intro i
  by_cases hi : i ∈ vs
  · rw [wipe_at hi, wipe_at hi, f.1]
  · rw [wipe_out hi, wipe_out hi]
    exact f.2 i fun z => hi (h i z)
theorem wipe_wipe {vs : List Nat} {σ : L2.St} : wipe (wipe σ vs) vs = wipe σ vs := by
  apply List.ext_getElem?
  intro i
  by_cases hi : i ∈ vs
  · rw [wipe_at hi, wipe_at hi, wipe_length]
  · rw [wipe_out hi]
def lcLoop (g : Gt) (t : Mo Bool) (m : Mo D) : List D → Ev → Sto → Rs (List D)
  | [], _, st => .ok [] st
  | d :: ds, ev, st => match g d ev with
    | none => .bad
    | some ev1 => match t ev1 st with
      | .ok true st1 => (match m ev1 st1 with
        | .ok y st2 => (match lcLoop g t m ds ev st2 with
          | .ok ys st3 => .ok (y :: ys) st3
          | _ => .bad)
        | _ => .bad)
      | .ok false st1 => lcLoop g t m ds ev st1
      | _ => .bad
def mLc (vs : List Nat) (mi : Mo (List D)) (g : Gt) (t : Mo Bool) (m : Mo D) : Mo (List D) := fun ev st => (mi ev st).bind fun it st1 => lcLoop g t m it (wipeD ev vs) st1
abbrev W0 : Wx := fun _ _ _ => False
def mYes : Mo Bool := fun _ st => .ok true st
theorem mts_nil : PTs X [] (tT X.K W0 mYes) := ⟨fun pins s σ H Q I ⟨mu, ev, st, he, hs, hp⟩ => pts_nil.run pins s σ H Q I (hp _ _ _ .refl rfl hs)⟩
theorem mts_one (h : PT X c (tT X.K W0 ta)) : PTs X [c] (tT X.K W0 ta) := pts_one h
theorem ext_tmp {mu0 mu : List Addr} {H0 H : Hp} {q : Addr} {o : HO} (e : Ext mu0 H0 mu H) (h : H0 q = none) : Ext mu0 H0 mu (upd H q o) :=
  ⟨e.pre, fun a vs ha => by rw [upd_ne (ne_of_none ha h)]; exact e.tup a vs ha, fun a u ha n => ⟨by rw [upd_ne (ne_of_none ha h)]; exact (e.keep a u ha n).1, (e.keep a u ha n).2⟩, fun a ha => e.dom a (upd_dom a ha), fun a ob u ha => by rw [upd_ne (ne_of_none ha h)]; exact e.frz a ob u ha⟩
theorem lc_go {own : List Nat} {mi : Mo (List D)} {g : Gt} {ws : List Nat} {σ : L2.St} {H : Hp} {Q : VK} {K : PySem.W.Frag} {ta : Mo Bool} {ma : Mo D} (hw : ∀ i ∈ ws, i ∈ own) (h : tL K W (mLc own mi g ta ma) σ H Q) : tLc (tI K W mi) (tGt K ws g) (tT K W0 ta) (tE K W0 ma) own σ H Q := by
  obtain ⟨mu, ev, st, he, hst, hp⟩ := h
  refine ⟨mu, ev, st, he, hst, hp.bind fun it st1 mu1 J H1 _ e1 r1 s1 hp1 => ?_⟩
  obtain ⟨hl, inv, ok, hinv⟩ := r1
  intro q hq
  -- the invariant of the turns
  let fin (acc : List D) (r : Rs (List D)) (mu' : List Addr) (H' : Hp) : Prop := match r with
    | .ok ys st' => ∀ mu2 vs H2, Ext mu1 H1 mu2 H2 → H2 q = some (.lst vs) → q ∉ mu2 → Rps K H2 mu2 vs (acc ++ ys) → RelSt K H2 mu2 st' → Q (.ref q) H2
    | _ => False
  have start : fin [] (lcLoop g ta ma it (wipeD ev own) st1) mu1 H1 := by
    show (match lcLoop g ta ma it (wipeD ev own) st1 with
    | .ok ys st' => ∀ mu2 vs H2, Ext mu1 H1 mu2 H2 → H2 q = some (.lst vs) → q ∉ mu2 → Rps K H2 mu2 vs ([] ++ ys) → RelSt K H2 mu2 st' → Q (.ref q) H2
    | _ => False)
    have noexc : ∀ (it : List D) (evw : Ev) (st : Sto) (c : Str) (e : Ev) (s : Sto), lcLoop g ta ma it evw st ≠ .exc c e s := by
      intro it
      induction it with
      | nil => intro evw st c e s h; cases h
      | cons d ds ih =>
        intro evw st c e s h
        simp only [lcLoop] at h
        split at h
        · cases h
        · split at h
          · split at h
            · split at h <;> cases h
            · cases h
          · exact ih _ _ _ _ _ h
          · cases h
    cases hr : lcLoop g ta ma it (wipeD ev own) st1 with
    | bad => rw [hr] at hp1; exact hp1
    | exc c e s => exact absurd hr (noexc _ _ _ _ _ _)
    | ok ys st' =>
      rw [hr] at hp1
      exact fun mu2 vs H2 e2 h2 n2 r2 s2 => hp1 mu2 (.ref q) H2 e2 ⟨q, vs, rfl, hq, h2, n2, r2⟩ s2
  refine ⟨fun i m H => m = it.length - i ∧ i ≤ it.length ∧ ∃ mu st acc vs, Ext mu1 H1 mu H ∧ RelSt K H mu st ∧ inv H mu ∧ H q = some (.lst vs) ∧ q ∉ mu ∧ Rps K H mu vs acc ∧ acc.length ≤ i ∧ fin acc (lcLoop g ta ma (it.drop i) (wipeD ev own) st) mu H,
    ⟨_, rfl, Nat.zero_le _, mu1, st1, [], [], ext_new hq _, s1.new hq _, ok.keep _ _ _ _ hinv (ext_new hq _), upd_same, s1.fresh hq, .nil, Nat.le_refl _, start⟩, ?_⟩
  rintro i m H ⟨rfl, hi, mu, st, acc, vs, eE, hs, hinv, hqv, hqn, hr, hal, hf⟩
  have heW : RelEv K H mu (wipe σ own) (wipeD ev own) := ((he.mono e1).mono eE).wipe own
  by_cases hlt : i < it.length
  · have hx : it[i]? = some it[i] := List.getElem?_eq_getElem hlt
    refine .inr ⟨ok.go H mu i _ hinv hx, fun H' => i + 1 ≤ it.length ∧ ∃ mu st acc vs, Ext mu1 H1 mu H' ∧ RelSt K H' mu st ∧ inv H' mu ∧ H' q = some (.lst vs) ∧ q ∉ mu ∧ Rps K H' mu vs acc ∧ acc.length ≤ i + 1 ∧ fin acc (lcLoop g ta ma (it.drop (i + 1)) (wipeD ev own) st) mu H', fun H' h => ⟨_, by omega, rfl, h⟩, fun v H' y => ?_⟩
    obtain ⟨k1, k2, k3⟩ := ok.yld H mu st i _ v H' hs hinv hx y
    have k4 := ok.keep _ _ _ _ hinv k1
    have hqv' := k1.keep q _ hqv hqn
    rw [List.drop_eq_getElem_cons hlt] at hf
    simp only [lcLoop] at hf
    cases hgd : g it[i] (wipeD ev own) with
    | none => rw [hgd] at hf; exact hf.elim
    | some ev1 =>
      rw [hgd] at hf
      simp only at hf
      refine ⟨mu, _, wipeD ev own, ev1, k2, heW.mono k1, hgd, fun σ' he' fr => ⟨by rw [wipe_frm fr hw, wipe_wipe], mu, ev1, st, he', k3, ?_⟩⟩
      cases ht : ta ev1 st with
      | bad => rw [ht] at hf; exact hf
      | exc c e s => rw [ht] at hf; exact hf.elim
      | ok bb st2 =>
        rw [ht] at hf
        intro mu2 b2 H2 e2 rb s2
        obtain rfl : b2 = bb := rb
        have q2 := e2.keep q _ hqv'.1 hqv'.2
        cases b2 with
        | false =>
          exact iteF ⟨hlt, mu2, st2, acc, vs, (eE.trans k1).trans e2, s2, ok.keep _ _ _ _ k4 e2, q2.1, q2.2, hr.mono (k1.trans e2), by omega, hf⟩
        | true =>
          refine iteT ⟨mu2, ev1, st2, he'.mono e2, s2, ?_⟩
          simp only at hf
          cases hm : ma ev1 st2 with
          | bad => rw [hm] at hf; exact hf
          | exc c e s => rw [hm] at hf; exact hf.elim
          | ok yd st3 =>
            rw [hm] at hf
            intro mu3 yv H3 e3 r3 s3
            have q3 := e3.keep q _ q2.1 q2.2
            have hr3 : Rps K H3 mu3 vs acc := hr.mono ((k1.trans e2).trans e3)
            refine ⟨vs, q3.1, by rw [Rps.length hr3]; exact lim_lt (by omega), hlt, mu3, st3, acc ++ [yd], vs ++ [yv], ext_tmp (((eE.trans k1).trans e2).trans e3) hq, s3.tmp q3.1 q3.2, ok.tmp _ _ _ _ _ (ok.keep _ _ _ _ k4 (e2.trans e3)) hq q3.1 q3.2, upd_same, q3.2, ?_, by simp; omega, ?_⟩
            · exact (hr3.append (.cons r3 .nil)).mono0 (ext0_tmp q3.1)
            · simp only at hf
              cases hL : lcLoop g ta ma (it.drop (i + 1)) (wipeD ev own) st3 with
              | bad => rw [hL] at hf; exact hf
              | exc c e s => rw [hL] at hf; exact hf.elim
              | ok ys st4 =>
                rw [hL] at hf
                intro mu4 ws H4 e4 h4 n4 r4 s4
                refine hf mu4 ws H4 e4 h4 n4 ?_ s4
                simpa using r4
  · have e0 : i = it.length := by omega
    subst e0
    rw [List.drop_length] at hf
    refine .inl ⟨ok.stop H mu hinv, hf mu vs H eE hqv hqn ?_ hs⟩
    simpa using hr
theorem ml_lc {elt tg iter : Expr} {ifs : List Expr} {scope : Scope} {own : List (Str × Nat)} {mi : Mo (List D)} {g : Gt} {ws : List Nat} (hc : X.calm = true) (hN : X.N.Nodup) (hi : PI X tg iter (tI X.K W mi)) (ok : BlkOk X.N X.env.scope scope own) (hw : ∀ i ∈ ws, i ∈ own.map (·.2))
    (hg : ∀ (s : Shared) (H : Hp) (C : Addr) (cl : List (Str × Addr)) (fp : List Addr), PG (X.blk s H scope (compEnvC scope cl C X.env) fp) tg (tGt X.K ws g)) (ht : ∀ (s : Shared) (H : Hp) (C : Addr) (cl : List (Str × Addr)) (fp : List Addr), PTs (X.blk s H scope (compEnvC scope cl C X.env) fp) ifs (tT X.K W0 ta))
    (he : ∀ (s : Shared) (H : Hp) (C : Addr) (cl : List (Str × Addr)) (fp : List Addr), PE (X.blk s H scope (compEnvC scope cl C X.env) fp) elt (tE X.K W0 ma)) (hs : ∀ x, foldedSetIterable iter X.env x = pure x := by intro _; rfl) :
    PE X (.ListComp elt [⟨tg, iter, ifs, 0⟩] scope pos) (tL X.K W (mLc (own.map (·.2)) mi g ta ma)) := by
  refine PE.imp (pe_lc hc hN hi ok hg ht he hs) fun σ H Q h => ?_
  exact lc_go hw h
/-! ### zip of two tuples -/
def zipD : List D → List D → List D
  | x :: xs, y :: ys => .tup [x, y] :: zipD xs ys
  | _, _ => []
theorem zipD_len : ∀ xs ys, (zipD xs ys).length = min xs.length ys.length
  | [], _ => by simp [zipD]
  | _ :: _, [] => by simp [zipD]
  | x :: xs, y :: ys => by simp [zipD, zipD_len xs ys]
theorem zipD_get : ∀ {xs ys : List D} {i : Nat} {z : D}, (zipD xs ys)[i]? = some z → ∃ x y, xs[i]? = some x ∧ ys[i]? = some y ∧ z = .tup [x, y]
  | [], ys, i, z, h => by simp [zipD] at h
  | _ :: _, [], i, z, h => by simp [zipD] at h
  | x :: xs, y :: ys, 0, z, h => by simp [zipD] at h; exact ⟨x, y, rfl, rfl, h.symm⟩
  | x :: xs, y :: ys, i + 1, z, h => by
    simp only [zipD, List.getElem?_cons_succ] at h
    obtain ⟨a, b, h1, h2, h3⟩ := zipD_get h
    exact ⟨a, b, by simpa using h1, by simpa using h2, h3⟩
def mZip (mr : Mo (List D)) : Mo (List D) := fun ev st => (mr ev st).bind fun ds st1 => match ds with
  | [.tup xs, .tup ys] => if (zipD xs ys).length ≤ lim then .ok (zipD xs ys) st1 else .bad
  | _ => .bad
theorem iter_zip {K : PySem.W.Frag} {H0 : Hp} {q r : Addr} {vs ws : List V} {xs ys : List D} : IterOk K H0 (RZ.ItzT K q r) (zipD xs ys) (fun H mu => TupAt K H q vs ∧ Rps K H mu vs xs ∧ TupAt K H r ws ∧ Rps K H mu ws ys) := by
  refine ⟨?_, ?_, ?_, ?_, ?_⟩
  · rintro H mu i z ⟨h1, h2, h3, h4⟩ hz
    obtain ⟨x, y, hx, hy, rfl⟩ := zipD_get hz
    obtain ⟨v, hv, _⟩ := h2.get hx
    obtain ⟨w, hw, _⟩ := h4.get hy
    exact ⟨vs, ws, v, w, h1.sq, h3.sq, hv, hw⟩
  · rintro H mu st i z v H' hst ⟨h1, h2, h3, h4⟩ hz ⟨T, x', y', rfl, hT, rfl, hx', hy'⟩
    obtain ⟨x, y, hx, hy, rfl⟩ := zipD_get hz
    obtain ⟨v, hv, rv⟩ := h2.get hx
    obtain ⟨w, hw, rw'⟩ := h4.get hy
    have e1 := hx' vs h1.sq
    rw [hv] at e1; cases e1
    have e2 := hy' ws h3.sq
    rw [hw] at e2; cases e2
    exact ⟨ext_new hT _, .tup (.inl upd_same) (.cons (rv.mono (ext_new hT _)) (.cons (rw'.mono (ext_new hT _)) .nil)), hst.new hT _⟩
  · rintro H mu ⟨h1, h2, h3, h4⟩
    refine ⟨vs, ws, h1.sq, h3.sq, ?_⟩
    rw [zipD_len, Rps.length h2, Rps.length h4]
    omega
  · rintro H mu H' mu' ⟨h1, h2, h3, h4⟩ e
    exact ⟨e.tupAt h1, h2.mono e, e.tupAt h3, h4.mono e⟩
  · rintro H mu q' l l' ⟨h1, h2, h3, h4⟩ _ hq _
    exact ⟨(ext0_tmp (mu := mu) hq).tupAt h1, h2.mono0 (ext0_tmp hq), (ext0_tmp (mu := mu) hq).tupAt h3, h4.mono0 (ext0_tmp hq)⟩
theorem mi_zip {e2 : Expr} {tpos : Pos} {elts : List Expr} {kk : Nat} (hg : Gl X "zip") (hm : X.mg "zip" = none) (ha : PA X [e, e2] (tA X.K W mr))
    (hs : starEach [e, e2] X.env = (false, eval e X.env) :: starEach [e2] X.env := by rfl) (hpl : (backTo pos (starEach [e2] X.env)).any (·.1) = false := by rfl) :
    PI X (.Tuple elts kk tpos) (.Call (.Name "zip" p) [e, e2] [] pos) (tI X.K W (mZip mr)) := by
  refine PI.imp (RZ.pi_zipA hg hm ha hs hpl) fun σ H Q ⟨mu, ev, st, he, hs, hp⟩ => ?_
  refine ⟨mu, ev, st, he, hs, hp.bind fun ds st1 mu1 xs H1 _ e1 r1 s1 hp1 => ?_⟩
  split at hp1
  · split at hp1
    · rename_i hl
      cases r1 with
      | cons h1 h2 =>
        cases h2 with
        | cons h2 h3 =>
          cases h3
          cases h1 with
          | tup t1 r1 =>
            cases h2 with
            | tup t2 r2 =>
              exact ⟨_, _, _, _, rfl, .inr ⟨t1.sq, t2.sq, hp1 _ _ _ .refl ⟨hl, _, iter_zip, t1, r1, t2, r2⟩ s1⟩⟩
    · exact hp1.elim
  · exact hp1.elim
/-! ### the call of a def -/
def PostV (K : PySem.W.Frag) (mu : List Addr) (H : Hp) (r : Rs D) (Q : VK) : Prop := match r with
  | .ok d st' => ∀ mu' v H', Ext mu H mu' H' → Rp K H' mu' v d → RelSt K H' mu' st' → Q v H'
  | _ => False
abbrev Fm := List D → Sto → Rs D
/-- what a def promises that does what c does of its arguments' data (and lets nothing out) -/
def spM (K : PySem.W.Frag) (n : Nat) (c : Fm) : Sp := fun vs H Q _ => vs.length = n ∧ ∃ mu ds st, Rps K H mu vs ds ∧ RelSt K H mu st ∧ PostV K mu H (c ds st) Q
def mCall (c : Fm) (mr : Mo (List D)) : Mo D := fun ev st => (mr ev st).bind fun ds st1 => match c ds st1 with
  | .ok d st2 => .ok d st2
  | _ => .bad
theorem call_go {n : Nat} {c : Fm} {σ : L2.St} {H : Hp} {Q : VK} {K : PySem.W.Frag} (hl : ∀ ds st d st', c ds st = .ok d st' → ds.length = n) (h : tE K W (mCall c mr) σ H Q) : tCall (spM K n c) [] E0 (tA K W mr) σ H Q := by
  obtain ⟨mu, ev, st, he, hst, hp⟩ := h
  refine ⟨mu, ev, st, he, hst, hp.bind fun ds st1 mu1 xs H1 _ e1 r1 s1 hp1 => ?_⟩
  rw [List.append_nil]
  cases hc : c ds st1 with
  | bad => rw [hc] at hp1; exact hp1.elim
  | exc _ _ _ => rw [hc] at hp1; exact hp1.elim
  | ok d st2 =>
    rw [hc] at hp1
    refine ⟨(Rps.length r1).trans (hl _ _ _ _ hc), mu1, ds, st1, r1, s1, ?_⟩
    rw [hc]
    exact hp1
theorem me_call {k n : Nat} {f : Addr} {fd : FuncData} {ps : List Str} {c : Fm} {x : Str} (hl : ∀ ds st d st', c ds st = .ok d st' → ds.length = n) (F : FnOk X.prog X.w X.K X.mg X.base CX0 k f fd ps (spM X.K n c)) (hr : Room k X.A) (hg : Gl X x) (hm : X.mg x = some (.ref f)) (hk : PySem.W.keepIn X.K (.ref f) = true) (hb : Binds X.K fd ps [])
    (ha : PA X (e :: es) (tA X.K W mr)) (hdb : (x == ("__debug__" : Str)) = false := by decide) (he : starEach (e :: es) X.env = (false, eval e X.env) :: starEach es X.env := by rfl) (hpl : (backTo pos (starEach es X.env)).any (·.1) = false := by rfl) :
    PE X (.Call (.Name x p) (e :: es) [] pos) (tE X.K W (mCall c mr)) :=
  PE.imp (pe_call F hr hg hm hk hb .nil pass0 ha hdb he hpl) fun _ _ _ h => call_go hl h
/-- f() -/
theorem me_call0 {k : Nat} {f : Addr} {fd : FuncData} {ps : List Str} {c : Fm} {x : Str} (hl : ∀ ds st d st', c ds st = .ok d st' → ds.length = 0) (F : FnOk X.prog X.w X.K X.mg X.base CX0 k f fd ps (spM X.K 0 c)) (hr : Room k X.A) (hg : Gl X x) (hm : X.mg x = some (.ref f)) (hk : PySem.W.keepIn X.K (.ref f) = true) (hb : Binds X.K fd ps [])
    (hdb : (x == ("__debug__" : Str)) = false := by decide) : PE X (.Call (.Name x p) [] [] pos) (tE X.K W (mCall c mNil)) := by
  refine PE.imp (pe_call0 F hr hg hm hk hb .nil pass0 hdb) fun σ H Q h => ?_
  have := call_go hl h
  obtain ⟨mu, ev, st, he, hst, hp⟩ := this
  exact hp _ _ _ .refl .nil hst
/-! ### a def's body -/
def fnM (n k : Nat) (body : Ms) : Fm := fun ds st => if ds.length = n then (match body (ds.map some ++ List.replicate (k - n) none) st with
  | .ok (.rt d, _) st' => .ok d st'
  | .ok (.nx, _) st' => .ok .non st'
  | _ => .bad) else .bad
theorem fnM_len {n k : Nat} {body : Ms} {ds : List D} {st : Sto} {d : D} {st' : Sto} (h : fnM n k body ds st = .ok d st') : ds.length = n := by
  unfold fnM at h
  split at h
  · assumption
  · cases h
theorem rel_start {K : PySem.W.Frag} {H : Hp} {mu : List Addr} {N : List Str} {vs : List V} {ds : List D} (h : Rps K H mu vs ds) : RelEv K H mu (start N vs) (ds.map some ++ List.replicate (N.length - ds.length) none) := by
  have hl := Rps.length h
  refine ⟨by unfold L2.start; simp [hl], fun i d q => ?_⟩
  by_cases hi : i < ds.length
  · rw [List.getElem?_append_left (by simpa using hi), List.getElem?_map] at q
    cases hd : ds[i]? with
    | none => rw [hd] at q; cases q
    | some d' =>
      rw [hd] at q
      simp only [Option.map_some, Option.some.injEq] at q
      subst q
      obtain ⟨v, hv, r⟩ := h.get hd
      refine ⟨v, ?_, r⟩
      unfold L2.start
      rw [List.getElem?_append_left (by rw [List.length_map, hl]; exact hi), List.getElem?_map, hv]
      rfl
  · rw [List.getElem?_append_right (by simpa using hi)] at q
    rw [List.getElem?_replicate] at q
    split at q <;> cases q
theorem fn_go {K : PySem.W.Frag} {N : List Str} {n k : Nat} {body : Ms} {vs : List V} {H : Hp} {Q : VK} {E : XK} (hk : N.length = k) (h : spM K n (fnM n k body) vs H Q E) : tS K W0 body { nx := fun _ H' => Q .non H', rt := Q } (start N vs) H := by
  obtain ⟨hl, mu, ds, st, hr, hs, hp⟩ := h
  have hd : ds.length = n := (Rps.length hr).symm.trans hl
  have hst := rel_start (N := N) hr
  rw [hk, hd] at hst
  refine ⟨mu, _, st, hst, hs, ?_⟩
  unfold fnM at hp
  rw [if_pos hd] at hp
  cases hb : body (ds.map some ++ List.replicate (k - n) none) st with
  | bad => rw [hb] at hp; exact hp
  | exc c e s => rw [hb] at hp; exact hp.elim
  | ok r st' =>
    obtain ⟨fl, ev'⟩ := r
    rw [hb] at hp
    cases fl with
    | nx => exact fun mu' σ' H' e he hs => hp mu' .non H' e .non hs
    | rt d => exact fun mu' σ' H' e he hs v rv => hp mu' v H' e rv hs
    | bk => exact hp.elim
    | ct => exact hp.elim
/-- a def of the text whose body reads as m keeps the promise of m -/
theorem fn_ok {P : Program} {w : World} {K : PySem.W.Frag} {mg : Str → Option Value} {base : Heap} {x qual : Str} {st : Stmt} {f : Addr} {fd : FuncData} {N ps : List Str} {k n : Nat} {body : Ms} (F : Fun K x qual st f fd) (S : FnScope N ps (defScope st)) (hn : ps.length = n)
    (hb : ∀ (cdv : Value) (A : Around) (outer : List Env) (s : Shared) (H : Hp) (E : XK), Room k (A.deeper (PyProof.Rows.envOfC qual (defScope st) s.heap.objs.size f cdv)) → PSs (cxOf CX0 P w K mg base N qual (defScope st) f cdv A outer s H E).nox (defBody st) (tS K W0 body)) :
    FnOk P w K mg base CX0 (k + 1) f fd ps (spM K n (fnM n N.length body)) := by
  refine F.ok S (fun vs H Q E h => h.1.trans hn.symm) (fun cdv A outer s H vs Q E hr h => ⟨_, hb cdv A outer s H E hr, fn_go rfl h⟩)
theorem fn_zero {P : Program} {w : World} {K : PySem.W.Frag} {mg : Str → Option Value} {base : Heap} {f : Addr} {fd : FuncData} {ps : List Str} {n : Nat} : FnOk P w K mg base CX0 0 f fd ps (spM K n fun _ _ => .bad) := by
  have no : ∀ vs H Q E, ¬ spM K n (fun _ _ => .bad) vs H Q E := fun vs H Q E ⟨_, _, _, _, _, _, h⟩ => h
  exact ⟨fun vs H Q E h => absurd h (no vs H Q E), fun A outer s H args us vs Q E _ _ _ _ h => absurd h (no vs H Q E)⟩
end Ml

namespace Ml
open PySem L2
variable {X : Cx} {W : Wx} {a b c e : Expr} {es rest : List Expr} {pos p q : Pos} {ma mb mc : Mo D} {mr : Mo (List D)} {ta tb : Mo Bool} {s1 s2 : Ms}
/-! ### dicts -/
section
variable {κ : Type} [DecidableEq κ]
def valD (kvs : List (κ × D)) (k : κ) : Option D := (kvs.find? fun kv => decide (kv.1 = k)).map (·.2)
def putD (kvs : List (κ × D)) (k : κ) (v : D) : List (κ × D) :=
  if kvs.any fun kv => decide (kv.1 = k) then kvs.map fun kv => if kv.1 = k then (kv.1, v) else kv else kvs ++ [(k, v)]
theorem KD.length {K : PySem.W.Frag} {H : Hp} {mu : List Addr} {ws : List (κ × V)} {kvs : List (κ × D)} (h : KD K H mu ws kvs) : ws.length = kvs.length := Paired.length h
theorem KD.val {K : PySem.W.Frag} {H : Hp} {mu : List Addr} {ws : List (κ × V)} {kvs : List (κ × D)} (h : KD K H mu ws kvs) (k : κ) : (∃ v d, valV ws k = some v ∧ valD kvs k = some d ∧ Rp K H mu v d) ∨ (valV ws k = none ∧ valD kvs k = none) := by
  unfold KD at h
  induction h with
  | nil => exact .inr ⟨rfl, rfl⟩
  | cons r t ih =>
    rename_i p q _ _
    obtain ⟨e, r⟩ := r
    unfold valV valD at ih ⊢
    by_cases hk : p.1 = k
    · have hq : q.1 = k := e ▸ hk
      rw [List.find?_cons_of_pos (by simpa using hk), List.find?_cons_of_pos (by simpa using hq)]
      exact .inl ⟨_, _, rfl, rfl, r⟩
    · have hq : ¬ q.1 = k := e ▸ hk
      rw [List.find?_cons_of_neg (by simpa using hk), List.find?_cons_of_neg (by simpa using hq)]
      exact ih
theorem KD.any {K : PySem.W.Frag} {H : Hp} {mu : List Addr} {ws : List (κ × V)} {kvs : List (κ × D)} (h : KD K H mu ws kvs) (k : κ) : (ws.any fun kv => decide (kv.1 = k)) = kvs.any fun kv => decide (kv.1 = k) := by
  unfold KD at h
  induction h with
  | nil => rfl
  | cons r t ih => rw [List.any_cons, List.any_cons, ih, r.1]
theorem paired_append {α β : Type} {R : α → β → Prop} : ∀ {xs : List α} {ys : List β} {xs' : List α} {ys' : List β}, Paired R xs ys → Paired R xs' ys' → Paired R (xs ++ xs') (ys ++ ys')
  | _, _, _, _, .nil, h => h
  | _, _, _, _, .cons r t, h => .cons r (paired_append t h)
theorem paired_map {α β γ δ : Type} {R : α → β → Prop} {S : γ → δ → Prop} {f : α → γ} {g : β → δ} : ∀ {xs : List α} {ys : List β}, Paired R xs ys → (∀ x y, R x y → S (f x) (g y)) → Paired S (xs.map f) (ys.map g)
  | _, _, .nil, _ => .nil
  | _, _, .cons r t, h => .cons (h _ _ r) (paired_map t h)
theorem KD.put {K : PySem.W.Frag} {H : Hp} {mu : List Addr} {ws : List (κ × V)} {kvs : List (κ × D)} (h : KD K H mu ws kvs) (k : κ) {v : V} {d : D} (r : Rp K H mu v d) : KD K H mu (putK ws k v) (putD kvs k d) := by
  unfold putK putD
  rw [h.any k]
  split
  · refine paired_map h fun p q r' => ?_
    by_cases hk : p.1 = k
    · have hq : q.1 = k := r'.1 ▸ hk
      rw [if_pos hk, if_pos hq]
      exact ⟨r'.1, r⟩
    · have hq : ¬ q.1 = k := r'.1 ▸ hk
      rw [if_neg hk, if_neg hq]
      exact r'
  · exact paired_append h (.cons ⟨rfl, r⟩ .nil)
end
def keyOf : D → Option Key
  | .int i => some (.inl i)
  | .str x => some (.inr x)
  | _ => none
theorem key_rel {K : PySem.W.Frag} {H : Hp} {mu : List Addr} {v : V} {d : D} {k : Key} (r : Rp K H mu v d) (e : keyOf d = some k) : v = kV k := by
  cases r <;> simp only [keyOf] at e <;> cases e <;> rfl
/-- a new dict that nobody holds yet -/
def RD (K : PySem.W.Frag) : RR V (List (Key × D)) := ⟨fun H0 H mu _ v kvs => ∃ p ws, v = .ref p ∧ H0 p = none ∧ H p = some (.dK ws) ∧ p ∉ mu ∧ KD K H mu ws kvs, fun e ⟨p, vs, a, b, c⟩ => ⟨p, vs, a, e.dom p b, c⟩⟩
abbrev tD (K : PySem.W.Frag) (W : Wx) (m : Mo (List (Key × D))) : TE := tG K W (RD K) m
def mPairs : List (Mo D × Mo D) → Mo (List (Key × D))
  | [], _, st => .ok [] st
  | (mk, mv) :: r, ev, st => (mk ev st).bind fun k st1 => (mv ev st1).bind fun v st2 => match keyOf k with
    | some kk => (mPairs r ev st2).bind fun ps st3 => .ok ((kk, v) :: ps) st3
    | none => .bad
def mergeD (kvs more : List (Key × D)) : List (Key × D) := more.foldl (fun acc kv => putD acc kv.1 kv.2) kvs
def mDictD (ps : List (Mo D × Mo D)) : Mo (List (Key × D)) := fun ev st => (mPairs ps ev st).bind fun kvs st1 => if kvs.length ≤ 15 then .ok (mergeD [] kvs) st1 else .bad
theorem KD.merge {K : PySem.W.Frag} {H : Hp} {mu : List Addr} : ∀ {more : List (Key × V)} {more' : List (Key × D)}, KD K H mu more more' → ∀ {ws : List (Key × V)} {kvs : List (Key × D)}, KD K H mu ws kvs → KD K H mu (mergeK ws more) (mergeD kvs more')
  | _, _, .nil, _, _, h => h
  | _, _, .cons r t, ws, kvs, h => by
    rename_i p q ps qs
    have e : p.1 = q.1 := r.1
    show KD K H mu (mergeK (putK ws p.1 p.2) ps) (mergeD (putD kvs q.1 q.2) qs)
    rw [← e]
    exact KD.merge t (h.put _ r.2)
abbrev trsOf (K : PySem.W.Frag) (W : Wx) (ps : List (Mo D × Mo D)) : List (TE × TE) := ps.map fun z => (tE K W z.1, tE K W z.2)
theorem mps_nil : PPs X pos [] [] (trsOf X.K W []) := pps_nil
theorem mps_cons {k v : Expr} {ks : List (Option Expr)} {vs : List Expr} {mk mv : Mo D} {ps : List (Mo D × Mo D)} (hk : PE X k (tE X.K W mk)) (hv : PE X v (tE X.K W mv)) (hr : PPs X pos ks vs (trsOf X.K W ps)) : PPs X pos (some k :: ks) (v :: vs) (trsOf X.K W ((mk, mv) :: ps)) := pps_cons hk hv hr
def RPs (K : PySem.W.Frag) : RR (List (V × V)) (List (Key × D)) := ⟨fun _ H mu _ xs kvs => ∃ ws : List (Key × V), xs = ws.map (fun kv => (kV kv.1, kv.2)) ∧ KD K H mu ws kvs, fun _ h => h⟩
theorem pairs_go {K : PySem.W.Frag} : ∀ {ps : List (Mo D × Mo D)} {σ : L2.St} {H : Hp} {Q : List (V × V) → Hp → Prop}, tG K W (RPs K) (mPairs ps) σ H Q → tPairs (trsOf K W ps) σ H Q
  | [], σ, H, Q, ⟨mu, ev, st, he, hst, hp⟩ => hp _ _ _ .refl ⟨[], rfl, .nil⟩ hst
  | (mk, mv) :: r, σ, H, Q, ⟨mu, ev, st, he, hst, hp⟩ => by
    refine ⟨mu, ev, st, he, hst, hp.bind fun k st1 mu1 x H1 _ e1 r1 s1 hp1 => ?_⟩
    refine ⟨mu1, ev, st1, he.mono e1, s1, hp1.bind fun v st2 mu2 y H2 _ e2 r2 s2 hp2 => ?_⟩
    cases hk : keyOf k with
    | none => rw [hk] at hp2; exact hp2.elim
    | some kk =>
      rw [hk] at hp2
      refine pairs_go ⟨mu2, ev, st2, (he.mono e1).mono e2, s2, hp2.bind fun kvs st3 mu3 xs H3 _ e3 r3 s3 hp3 => ?_⟩
      obtain ⟨ws, rfl, hw⟩ := r3
      refine hp3 _ _ _ .refl ⟨(kk, y) :: ws, ?_, .cons ⟨rfl, Rp.mono e3 r2⟩ hw⟩ s3
      rw [key_rel (Rp.mono (e2.trans e3) r1) hk]
      rfl
theorem ext0_tmpD {H : Hp} {mu : List Addr} {q : Addr} {l : List (Key × V)} {o : HO} (h : H q = some (.dK l)) : Ext0 mu H mu (upd H q o) :=
  ⟨⟨[], by simp⟩, fun a vs ha => by rw [upd_ne (fun e => by subst e; rw [h] at ha; cases ha)]; exact ha, fun a o vs ha n => ⟨by rw [upd_ne (fun e => by subst e; rw [h] at ha; cases ha)]; exact ha, n⟩⟩
theorem RelSt.tmpD {K : PySem.W.Frag} {H : Hp} {mu : List Addr} {st : Sto} (r : RelSt K H mu st) {q : Addr} {l : List (Key × V)} {o : HO} (h : H q = some (.dK l)) (hn : q ∉ mu) : RelSt K (upd H q o) mu st :=
  ⟨r.len, r.nd, fun i a ob h1 h2 => (r.ob i a ob h1 h2).mono0 (ext0_tmpD h) (upd_ne fun e => hn (e ▸ List.mem_of_getElem? h1))⟩
theorem md_disp {keys : List (Option Expr)} {values : List Expr} {ps : List (Mo D × Mo D)} (h : PPs X pos keys values (trsOf X.K W ps)) (hall : keys.all (·.isSome) = true := by rfl) (hl : keys.length = values.length := by rfl) (h0 : keys ≠ [] := by exact (fun z => by cases z)) (h15 : keys.length ≤ 15 := by decide) :
    PE X (.Dict keys values pos) (tD X.K W (mDictD ps)) := by
  refine PE.imp (pe_disp h hall hl h0 h15) fun σ H Q ⟨mu, ev, st, he, hst, hp⟩ => ?_
  intro q hq
  have e0 : Ext mu H mu (upd H q (.dK [])) := ext_new hq _
  unfold mDictD at hp
  refine pairs_go ⟨mu, ev, st, he.mono e0, hst.new hq _, ?_⟩
  cases hr : mPairs ps ev st with
  | bad => rw [hr] at hp; exact hp
  | exc c e s => rw [hr] at hp; exact fun mu' σ' H' e' => hp mu' σ' H' (e0.trans e')
  | ok kvs st1 =>
    rw [hr] at hp
    simp only [Rs.bind_ok] at hp
    intro mu1 xs H1 e1 ⟨ws, ex, hw⟩ s1
    subst ex
    have k1 := e1.keep q _ upd_same (hst.fresh hq)
    refine ⟨k1.1, ws, rfl, ?_⟩
    split at hp
    · rename_i hl
      refine ⟨by rw [hw.length]; exact hl, ?_⟩
      refine hp mu1 (.ref q) _ (ext_tmp (e0.trans e1) hq) ⟨q, _, rfl, hq, upd_same, k1.2, ?_⟩ (s1.tmpD k1.1 k1.2)
      exact (KD.merge hw .nil).mono0 (ext0_tmpD k1.1)
    · exact hp.elim
/-- {..}.get(k, x) of a new dict -/
def mGetN (md : Mo (List (Key × D))) (mk mx : Mo D) : Mo D := fun ev st => (md ev st).bind fun kvs st1 => (mk ev st1).bind fun k st2 => (mx ev st2).bind fun x st3 => match keyOf k with
  | some kk => .ok ((valD kvs kk).getD x) st3
  | none => .bad
theorem me_getN {apos cpos : Pos} {md : Mo (List (Key × D))} {o f : Expr} {mk mx : Mo D} (hu : X.A.units + 1 < cLine) (ho : PE X o (tD X.K W md)) (he : PE X e (tE X.K W mk)) (hf : PE X f (tE X.K W mx)) (m : M2 X o "get" apos e f cpos := by exact ⟨rfl, rfl, rfl, rfl⟩) : PE X (.Call (.Attribute o "get" apos) [e, f] [] cpos) (tE X.K W (mGetN md mk mx)) := by
  refine PE.imp (pe_dget2 hu ho he hf m) fun σ H Q ⟨mu, ev, st, he, hst, hp⟩ => ?_
  refine ⟨mu, ev, st, he, hst, hp.bind fun kvs st1 mu1 v H1 _ e1 r1 s1 hp1 => ?_⟩
  obtain ⟨q, ws, rfl, _, hq, hn, hk⟩ := r1
  refine ⟨q, rfl, .inl ⟨ws, .inl hq⟩, mu1, ev, st1, he.mono e1, s1, hp1.bind fun k st2 mu2 y H2 _ e2 r2 s2 hp2 => ?_⟩
  refine ⟨mu2, ev, st2, (he.mono e1).mono e2, s2, hp2.bind fun x st3 mu3 z H3 _ e3 r3 s3 hp3 => ?_⟩
  cases hkk : keyOf k with
  | none => rw [hkk] at hp3; exact hp3.elim
  | some kk =>
    rw [hkk] at hp3
    have q3 := (e2.trans e3).keep q _ hq hn
    refine ⟨valV ws kk, .inl ⟨ws, kk, .inl q3.1, key_rel (Rp.mono e3 r2) hkk, rfl⟩, hp3 _ _ _ .refl ?_ s3⟩
    rcases (hk.mono (e2.trans e3)).val kk with ⟨v, d, h1, h2, h3⟩ | ⟨h1, h2⟩
    · rw [h1, h2]; exact h3
    · rw [h1, h2]; exact r3
/-- {..}[k] of a new dict -/
def mAtN (md : Mo (List (Key × D))) (mk : Mo D) : Mo D := fun ev st => (md ev st).bind fun kvs st1 => (mk ev st1).bind fun k st2 => match keyOf k with
  | some kk => (match valD kvs kk with
    | some d => .ok d st2
    | none => .bad)
  | none => .bad
theorem me_atN {md : Mo (List (Key × D))} {o i : Expr} {mk : Mo D} (hu : X.A.units + 1 < cLine) (ho : PE X o (tD X.K W md)) (hi : PE X i (tE X.K W mk)) (hs : NoSl i := by exact fun _ _ => rfl) : PE X (.Subscript o i pos) (tE X.K W (mAtN md mk)) := by
  refine PE.imp (pe_dget hu ho hi hs) fun σ H Q ⟨mu, ev, st, he, hst, hp⟩ => ?_
  refine ⟨mu, ev, st, he, hst, hp.bind fun kvs st1 mu1 v H1 _ e1 r1 s1 hp1 => ?_⟩
  obtain ⟨q, ws, rfl, _, hq, hn, hk⟩ := r1
  refine ⟨mu1, ev, st1, he.mono e1, s1, hp1.bind fun k st2 mu2 y H2 _ e2 r2 s2 hp2 => ?_⟩
  cases hkk : keyOf k with
  | none => rw [hkk] at hp2; exact hp2.elim
  | some kk =>
    rw [hkk] at hp2
    simp only at hp2
    have q3 := e2.keep q _ hq hn
    rcases (hk.mono e2).val kk with ⟨v, d, h1, h2, h3⟩ | ⟨h1, h2⟩
    · rw [h2] at hp2
      exact ⟨q, v, rfl, .inl ⟨ws, kk, .inl q3.1, key_rel r2 hkk, h1.symm⟩, hp2 _ _ _ .refl h3 s2⟩
    · rw [h2] at hp2; exact hp2.elim
end Ml

namespace Ml
open PySem L2
variable {X : Cx} {W : Wx} {a b c e : Expr} {es rest : List Expr} {pos p q : Pos} {ma mb mc : Mo D} {mr : Mo (List D)} {ta tb : Mo Bool} {s1 s2 : Ms}
/-! ### name = [..] on one line -/
theorem ms_setLc {i : Nat} {y : Str} {py spos : Pos} {elt tg iter : Expr} {ifs : List Expr} {scope : Scope} {own : List (Str × Nat)} {mi : Mo (List D)} {g : Gt} {ws : List Nat} (hc : X.calm = true) (hN : X.N.Nodup) (hy : X.N[i]? = some y) (hyl : X.env.scope.names.lookup y = some .local)
    (hsw : swapsWith (.ListComp elt [⟨tg, iter, ifs, 0⟩] scope pos) (some (.Name y py)) spos.line X.env = pure true) (hi : PI X tg iter (tI X.K W mi)) (ok : BlkOk X.N X.env.scope scope own) (hw : ∀ i ∈ ws, i ∈ own.map (·.2))
    (hg : ∀ (s : Shared) (H : Hp) (C : Addr) (cl : List (Str × Addr)) (fp : List Addr), PG (X.blk s H scope (compEnvC scope cl C X.env) fp) tg (tGt X.K ws g)) (ht : ∀ (s : Shared) (H : Hp) (C : Addr) (cl : List (Str × Addr)) (fp : List Addr), PTs (X.blk s H scope (compEnvC scope cl C X.env) fp) ifs (tT X.K W0 ta))
    (he : ∀ (s : Shared) (H : Hp) (C : Addr) (cl : List (Str × Addr)) (fp : List Addr), PE (X.blk s H scope (compEnvC scope cl C X.env) fp) elt (tE X.K W0 ma)) (hs : ∀ x, foldedSetIterable iter X.env x = pure x := by intro _; rfl) :
    PS X (.Assign [.Name y py] (.ListComp elt [⟨tg, iter, ifs, 0⟩] scope pos) spos) (tS X.K W (mSet i (mKeep (mLc (own.map (·.2)) mi g ta ma)))) := by
  refine PS.imp (ps_setLc hc hN hy hyl hsw hi ok hg ht he hs) fun D σ H ⟨mu, ev, st, he, hs, hp⟩ => ?_
  refine lc_go (W := W) hw ⟨mu, ev, st, he, hs, ?_⟩
  unfold mSet mKeep at hp
  cases hr : mLc (own.map (·.2)) mi g ta ma ev st with
  | bad => rw [hr] at hp; exact hp
  | exc c e s => rw [hr] at hp; exact hp
  | ok ds st1 =>
    rw [hr] at hp
    intro mu1 x H1 e1 ⟨p, vs, ex, h0, hpp, hn, rs⟩ s1
    subst ex
    obtain ⟨k1, k2⟩ := adopt s1 hpp hn rs
    exact hp (mu1 ++ [p]) _ H1 (ext_adopt e1 h0) ((he.mono (ext_adopt e1 h0)).set k1 i) k2
/-! ### the built-ins' names -/
theorem bt_len : bootBuiltins "len" = some (.builtin "len") := by decide +kernel
theorem bt_abs : bootBuiltins "abs" = some (.builtin "abs") := by decide +kernel
theorem bt_min : bootBuiltins "min" = some (.builtin "min") := by decide +kernel
theorem bt_max : bootBuiltins "max" = some (.builtin "max") := by decide +kernel
theorem bt_sum : bootBuiltins "sum" = some (.builtin "sum") := by decide +kernel
theorem bt_any : bootBuiltins "any" = some (.builtin "any") := by decide +kernel
theorem bt_all : bootBuiltins "all" = some (.builtin "all") := by decide +kernel
theorem bt_sorted : bootBuiltins "sorted" = some (.builtin "sorted") := by decide +kernel
theorem bt_int : bootBuiltins "int" = some (.type "int") := by decide +kernel
theorem bt_str : bootBuiltins "str" = some (.type "str") := by decide +kernel
theorem bt_bool : bootBuiltins "bool" = some (.type "bool") := by decide +kernel
theorem bt_tuple : bootBuiltins "tuple" = some (.type "tuple") := by decide +kernel
theorem bt_list : bootBuiltins "list" = some (.type "list") := by decide +kernel
theorem bt_set : bootBuiltins "set" = some (.type "set") := by decide +kernel
theorem ok_int : okCls "int" = true := by decide
theorem ok_str : okCls "str" = true := by decide
theorem ok_bool : okCls "bool" = true := by decide
theorem ok_tuple : okCls "tuple" = true := by decide
theorem ok_list : okCls "list" = true := by decide
/-! ### the law's end -/
theorem rp_script {K : PySem.W.Frag} {H : Hp} {a : Addr} {ns : List Int} (hO : Only H) (hS : SqL K H a (ns.map V.int)) : Rp K H [] (.ref a) (.ro (ns.map D.int)) := by
  refine .ro (vs := ns.map V.int) ?_ (Rps.of_ints ns)
  rcases hS with (h | ⟨o, h⟩) | h
  · rcases hO a with q | ⟨o, xs, q⟩
    · rw [q] at h; cases h
    · rw [q] at h; cases h
  · exact .inl ⟨o, h, by simp⟩
  · exact .inr h
theorem walk_m {l : PySem.W.OpenLaw} {q : Program} {loose : List Str} {XP : (Str → Option Value) → Heap → Prop} {YP : World → Heap → Prop} {d : DefRec} {K : Params → PySem.W.Frag} {k : Nat} {c : Fm} (hn : l.most = some 63) (hdf : d.params.defaults = []) (hr : Room k callerA)
    (hY : ∀ (w : World) (h : Heap), YP w h → (K w.params).In h)
    (F : ∀ (w : World) (mg : Str → Option Value) (fa : Addr) (h : Heap), (K w.params).In h → h.Ns mainGlobals mg → mg d.name = some (.ref fa) →
      ∃ fd : FuncData, (∀ (s : Shared) (u : Value), BindsTo s fd ⟨[u], []⟩ [("script", u)]) ∧ ∀ base : Heap, (K w.params).In base → base.Ns mainGlobals mg → FnOk l.prog w (K w.params) mg base CX0 k fa fd ["script"] (spM (K w.params) 1 c))
    (hl : ∀ ns : List Int, ns.length ≤ 63 → ∃ st', c [.ro (ns.map D.int)] [] = .ok (.bl true) st') :
    PySem.W.WalkO q loose XP YP l.row.toRowW d [] (fun f vs => PySem.call f vs) := by
  refine L2.walk_of (n := 63) (k := k) (x := "script") (CX := fun _ => CX0) (sp := fun w => spM (K w.params) 1 c) hn (by decide) hdf hr hY F (fun w H a ns hlen hO hS => ?_) fun _ _ _ _ _ z => z
  obtain ⟨st', e⟩ := hl ns hlen
  refine ⟨rfl, [], [.ro (ns.map D.int)], [], .cons (rp_script hO hS) .nil, ⟨rfl, .nil, fun i a o h _ => by simp at h⟩, ?_⟩
  rw [e]
  intro mu' v H' _ r _
  cases r
  rfl
end Ml

/-! The readings of the program's defs and of the law's (printed by gen.py). -/
namespace Ml
open PySem L2
def d_TWO : D := .tup [.str "plus", .str "less", .str "most", .str "least", .str "beats"]
def d_NOTHING : D := .tup [.str "number", .int 0]
def m_of_two : Ms :=
  (mSeq (mIfS (mTest (mOp gEq (mVar 0) (mC (.str "plus")))) (mRet (mOp gAdd (mVar 1) (mVar 2))) mSkip) (mSeq (mIfS (mTest (mOp gEq (mVar 0) (mC (.str "less")))) (mRet (mOp gSub (mVar 1) (mVar 2))) mSkip) (mSeq (mIfS (mTest (mOp gEq (mVar 0) (mC (.str "most")))) (mRet (mCB gMax (mCons (mVar 1) (mCons (mVar 2) mNil)))) mSkip) (mSeq (mIfS (mTest (mOp gEq (mVar 0) (mC (.str "least")))) (mRet (mCB gMin (mCons (mVar 1) (mCons (mVar 2) mNil)))) mSkip) (mRet (mCB gInt (mCons (mOp gGt (mVar 1) (mVar 2)) mNil)))))))
def m_of_numbers (c_of_two : Fm) : Ms :=
  (mSeq (mSet 1 (mC .non)) (mSeq (mIfS (mTAnd (mTest (mOp (gIn false) (mOp gIx (mVar 0) (mC (.int 0))) (mC d_TWO))) (mTAnd (mTest (mOp gEq (mOp gIx (mOp gIx (mVar 0) (mC (.int 1))) (mC (.int 0))) (mC (.str "number")))) (mTest (mOp gEq (mOp gIx (mOp gIx (mVar 0) (mC (.int 2))) (mC (.int 0))) (mC (.str "number")))))) (mSet 1 (mCall c_of_two (mCons (mOp gIx (mVar 0) (mC (.int 0))) (mCons (mOp gIx (mOp gIx (mVar 0) (mC (.int 1))) (mC (.int 1))) (mCons (mOp gIx (mOp gIx (mVar 0) (mC (.int 2))) (mC (.int 1))) mNil))))) mSkip) (mSeq (mIfS (mTAnd (mTest (mOp gEq (mOp gIx (mVar 0) (mC (.int 0))) (mC (.str "times")))) (mTest (mOp gEq (mOp gIx (mOp gIx (mVar 0) (mC (.int 2))) (mC (.int 0))) (mC (.str "number"))))) (mSet 1 (mOp gMul (mOp gIx (mVar 0) (mC (.int 1))) (mOp gIx (mOp gIx (mVar 0) (mC (.int 2))) (mC (.int 1))))) mSkip) (mSeq (mIfS (mTAnd (mTest (mOp gNotN (mVar 1) (mC .non))) (mTest (mChain gLe gLe (mC (.int 0)) (mVar 1) (mC (.int 9))))) (mRet (mTup (mCons (mC (.str "number")) (mCons (mVar 1) mNil)))) mSkip) (mRet (mVar 0))))))
def m_of_nothing : Ms :=
  (mSeq (mSet 1 (mOp gIx (mVar 0) (mC (.int 0)))) (mSeq (mIfS (mTOr (mTAnd (mTest (mOp gEq (mVar 1) (mC (.str "plus")))) (mTest (mOp gEq (mOp gIx (mVar 0) (mC (.int 1))) (mC d_NOTHING)))) (mTAnd (mTest (mOp gEq (mVar 1) (mC (.str "times")))) (mTest (mOp gEq (mOp gIx (mVar 0) (mC (.int 1))) (mC (.int 1)))))) (mRet (mOp gIx (mVar 0) (mC (.int 2)))) mSkip) (mSeq (mIfS (mTAnd (mTest (mOp (gIn false) (mVar 1) (mTup (mCons (mC (.str "plus")) (mCons (mC (.str "less")) mNil))))) (mTest (mOp gEq (mOp gIx (mVar 0) (mC (.int 2))) (mC d_NOTHING)))) (mRet (mOp gIx (mVar 0) (mC (.int 1)))) mSkip) (mSeq (mIfS (mTAnd (mTest (mOp gEq (mVar 1) (mC (.str "times")))) (mTest (mOp gEq (mOp gIx (mVar 0) (mC (.int 1))) (mC (.int 0))))) (mRet (mC d_NOTHING)) mSkip) (mRet (mVar 0))))))
def m_simple (c_of_nothing c_of_numbers c_simple : Fm) : Ms :=
  (mSeq (mSet 1 (mOp gIx (mVar 0) (mC (.int 0)))) (mSeq (mIfS (mTAnd (mTest (mOp (gIn false) (mVar 1) (mTup (mCons (mC (.str "high")) (mCons (mC (.str "low")) mNil))))) (mTest (mOp gEq (mOp gIx (mVar 0) (mC (.int 1))) (mOp gIx (mVar 0) (mC (.int 3)))))) (mRet (mOp gAdd (mTup (mCons (mC (.str "dice")) mNil)) (mSl (mVar 0) (mPart (mC (.int 1))) (mPart (mC (.int 3)))))) mSkip) (mSeq (mIfS (mTest (mOp gEq (mVar 1) (mC (.str "times")))) (mSet 0 (mTup (mCons (mC (.str "times")) (mCons (mOp gIx (mVar 0) (mC (.int 1))) (mCons (mCall c_simple (mCons (mOp gIx (mVar 0) (mC (.int 2))) mNil)) mNil))))) (mIfS (mTest (mOp (gIn false) (mVar 1) (mC d_TWO))) (mSet 0 (mTup (mCons (mVar 1) (mCons (mCall c_simple (mCons (mOp gIx (mVar 0) (mC (.int 1))) mNil)) (mCons (mCall c_simple (mCons (mOp gIx (mVar 0) (mC (.int 2))) mNil)) mNil))))) mSkip)) (mRet (mCall c_of_nothing (mCons (mCall c_of_numbers (mCons (mVar 0) mNil)) mNil))))))
def m_is_simple (c_simple : Fm) : Ms :=
  (mRet (mOp gEq (mCall c_simple (mCons (mVar 0) mNil)) (mVar 0)))
def m_f_law_cell : Ms :=
  (mSeq (mIfS (mTest (mOp gLt (mVar 1) (mCB gLen (mCons (mVar 0) mNil)))) (mRet (mOp gIx (mVar 0) (mVar 1))) mSkip) (mRet (mC (.int 0))))
def m_f_law_mix : Ms :=
  (mSeq (mSet 3 (mOp gMod (mOp gMul (mVar 0) (mC (.int 48271))) (mVar 1))) (mRet (mOp gMod (mOp gMod (mOp gMul (mVar 3) (mOp gAdd (mVar 3) (mC (.int 7)))) (mVar 1)) (mVar 2))))
def m_f_law_same (c_f_law_same : Fm) : Ms :=
  (mSeq (mIfS (mTru (mIsi "tuple" (mVar 1))) (mSeq (mIfS (mTOr (mTNot (mTru (mIsi "tuple" (mVar 0)))) (mTest (mOp gNe (mCB gLen (mCons (mVar 0) mNil)) (mCB gLen (mCons (mVar 1) mNil))))) (mRet (mC (.bl false))) mSkip) (mRet (mQ gAll (mLc [2, 3] (mZip (mCons (mVar 0) (mCons (mVar 1) mNil))) (gtTup 2 (gtsCons (gtName 2) (gtsCons (gtName 3) gtsNil))) mYes (mCall c_f_law_same (mCons (mVar 2) (mCons (mVar 3) mNil))))))) mSkip) (mSeq (mIfS (mTest (mOp gIsN (mVar 1) (mC .non))) (mRet (mOp gIsN (mVar 0) (mC .non))) mSkip) (mSeq (mIfS (mTOr (mTru (mIsi "bool" (mVar 1))) (mTru (mIsi "bool" (mVar 0)))) (mRet (mAnd (mIsi "bool" (mVar 1)) (mAnd (mIsi "bool" (mVar 0)) (mOp gEq (mVar 0) (mVar 1))))) mSkip) (mRet (mAnd (mIsi2 "int" "str" (mVar 0)) (mOp gEq (mVar 0) (mVar 1)))))))
def m_f_law_dice (c_f_law_mix : Fm) : Ms :=
  (mSeq (mSet 2 (mOp gIx (mTup (mCons (mC (.str "dice")) (mCons (mC (.str "high")) (mCons (mC (.str "low")) (mCons (mC (.str "again")) (mCons (mC (.str "burst")) (mCons (mC (.str "count")) mNil))))))) (mCall c_f_law_mix (mCons (mVar 0) (mCons (mC (.int 9973)) (mCons (mC (.int 6)) mNil)))))) (mSeq (mSet 3 (mOp gAdd (mC (.int 1)) (mCall c_f_law_mix (mCons (mVar 0) (mCons (mC (.int 9967)) (mCons (mCB gMin (mCons (mC (.int 3)) (mCons (mVar 1) mNil))) mNil)))))) (mSeq (mSet 4 (mOp gAdd (mC (.int 2)) (mCall c_f_law_mix (mCons (mVar 0) (mCons (mC (.int 9949)) (mCons (mC (.int 5)) mNil)))))) (mSeq (mIfS (mTest (mOp gEq (mVar 2) (mC (.str "dice")))) (mRet (mTup (mCons (mVar 2) (mCons (mVar 3) (mCons (mVar 4) mNil))))) mSkip) (mSeq (mAsg (mGetN (mDictD [((mC (.str "again")), (mTup (mCons (mC (.int 1)) (mCons (mOp gSub (mVar 4) (mC (.int 1))) mNil)))), ((mC (.str "burst")), (mTup (mCons (mC (.int 1)) (mCons (mC (.int 2)) mNil)))), ((mC (.str "count")), (mTup (mCons (mC (.int 2)) (mCons (mVar 4) mNil))))]) (mVar 2) (mTup (mCons (mC (.int 1)) (mCons (mVar 3) mNil)))) (gtTup 2 (gtsCons (gtName 5) (gtsCons (gtName 6) gtsNil)))) (mRet (mTup (mCons (mVar 2) (mCons (mVar 3) (mCons (mVar 4) (mCons (mOp gAdd (mVar 5) (mCall c_f_law_mix (mCons (mVar 0) (mCons (mC (.int 9941)) (mCons (mOp gAdd (mOp gSub (mVar 6) (mVar 5)) (mC (.int 1))) mNil))))) mNil)))))))))))
def m_f_law_many (c_f_law_many : Fm) : Ms :=
  (mSeq (mIfS (mTest (mOp gEq (mOp gIx (mVar 0) (mC (.int 0))) (mC (.str "number")))) (mRet (mC (.int 0))) mSkip) (mSeq (mIfS (mTru (mIsi "tuple" (mOp gIx (mVar 0) (mUn gNeg (mC (.int 1)))))) (mRet (mQ gSum (mLc [1] (mItT (mSl (mVar 0) (mPart (mC (.int 1))) mNoPart)) (gtName 1) (mTru (mIsi "tuple" (mVar 1))) (mCall c_f_law_many (mCons (mVar 1) mNil))))) mSkip) (mRet (mOp gIx (mVar 0) (mC (.int 1))))))
def m_f_law_saying (c_f_law_dice c_f_law_many c_f_law_mix c_f_law_saying : Fm) : Ms :=
  (mSeq (mSet 3 (mCall c_f_law_mix (mCons (mVar 0) (mCons (mC (.int 9931)) (mCons (mC (.int 12)) mNil))))) (mSeq (mIfS (mTOr (mTest (mOp gLt (mVar 3) (mC (.int 2)))) (mTest (mOp gEq (mVar 2) (mC (.int 0))))) (mRet (mTup (mCons (mC (.str "number")) (mCons (mCall c_f_law_mix (mCons (mVar 0) (mCons (mC (.int 9929)) (mCons (mC (.int 10)) mNil)))) mNil)))) mSkip) (mSeq (mIfS (mTOr (mTest (mOp gLt (mVar 3) (mC (.int 5)))) (mTest (mOp gEq (mVar 1) (mC (.int 1))))) (mRet (mCall c_f_law_dice (mCons (mOp gAdd (mVar 0) (mC (.int 1))) (mCons (mVar 2) mNil)))) mSkip) (mSeq (mIfS (mTest (mOp gEq (mVar 3) (mC (.int 11)))) (mRet (mTup (mCons (mC (.str "times")) (mCons (mCall c_f_law_mix (mCons (mVar 0) (mCons (mC (.int 9923)) (mCons (mC (.int 4)) mNil)))) (mCons (mCall c_f_law_saying (mCons (mOp gAdd (mVar 0) (mC (.int 2))) (mCons (mOp gSub (mVar 1) (mC (.int 1))) (mCons (mVar 2) mNil)))) mNil))))) mSkip) (mSeq (mSet 4 (mCall c_f_law_saying (mCons (mOp gAdd (mVar 0) (mC (.int 3))) (mCons (mOp gSub (mVar 1) (mC (.int 1))) (mCons (mVar 2) mNil))))) (mSeq (mSet 5 (mCall c_f_law_saying (mCons (mOp gAdd (mVar 0) (mC (.int 5))) (mCons (mOp gSub (mVar 1) (mC (.int 1))) (mCons (mOp gSub (mVar 2) (mCall c_f_law_many (mCons (mVar 4) mNil))) mNil))))) (mSeq (mIfS (mTest (mOp gEq (mOp gMod (mVar 0) (mC (.int 2))) (mC (.int 0)))) (mPar 4 5 (mCons (mVar 5) (mCons (mVar 4) mNil))) mSkip) (mRet (mTup (mCons (mOp gIx (mTup (mCons (mC (.str "plus")) (mCons (mC (.str "less")) (mCons (mC (.str "most")) (mCons (mC (.str "least")) (mCons (mC (.str "beats")) mNil)))))) (mCall c_f_law_mix (mCons (mVar 0) (mCons (mC (.int 9907)) (mCons (mC (.int 5)) mNil))))) (mCons (mVar 4) (mCons (mVar 5) mNil))))))))))))
def m_f_law_two : Ms :=
  (mSeq (mIfS (mTest (mOp gEq (mVar 0) (mC (.str "plus")))) (mRet (mOp gAdd (mVar 1) (mVar 2))) mSkip) (mSeq (mIfS (mTest (mOp gEq (mVar 0) (mC (.str "less")))) (mRet (mOp gSub (mVar 1) (mVar 2))) mSkip) (mSeq (mIfS (mTest (mOp gEq (mVar 0) (mC (.str "beats")))) (mRet (mCB gInt (mCons (mOp gGt (mVar 1) (mVar 2)) mNil))) mSkip) (mSeq (mSet 3 (mKeep (mQ gSorted (mDisp (mCons (mVar 1) (mCons (mVar 2) mNil)))))) (mRet (mOp gIx (mVar 3) (mCB gInt (mCons (mOp gEq (mVar 0) (mC (.str "most"))) mNil))))))))
def m_f_law_simple (c_f_law_simple c_f_law_two : Fm) : Ms :=
  (mSeq (mSet 1 (mOp gIx (mVar 0) (mC (.int 0)))) (mSeq (mIfS (mTAnd (mTest (mOp (gIn false) (mVar 1) (mTup (mCons (mC (.str "high")) (mCons (mC (.str "low")) mNil))))) (mTest (mOp gEq (mOp gIx (mVar 0) (mC (.int 1))) (mOp gIx (mVar 0) (mC (.int 3)))))) (mRet (mTup (mCons (mC (.str "dice")) (mCons (mOp gIx (mVar 0) (mC (.int 1))) (mCons (mOp gIx (mVar 0) (mC (.int 2))) mNil))))) mSkip) (mSeq (mIfS (mTOr (mTest (mOp gEq (mVar 1) (mC (.str "number")))) (mTNot (mTru (mIsi "tuple" (mOp gIx (mVar 0) (mUn gNeg (mC (.int 1)))))))) (mRet (mVar 0)) mSkip) (mSeq (mIfS (mTest (mOp gEq (mVar 1) (mC (.str "times")))) (mSeq (mSet 2 (mCall c_f_law_simple (mCons (mOp gIx (mVar 0) (mC (.int 2))) mNil))) (mSeq (mIfS (mTAnd (mTest (mOp gEq (mOp gIx (mVar 2) (mC (.int 0))) (mC (.str "number")))) (mTest (mOp gLe (mOp gMul (mOp gIx (mVar 0) (mC (.int 1))) (mOp gIx (mVar 2) (mC (.int 1)))) (mC (.int 9))))) (mRet (mTup (mCons (mC (.str "number")) (mCons (mOp gMul (mOp gIx (mVar 0) (mC (.int 1))) (mOp gIx (mVar 2) (mC (.int 1)))) mNil)))) mSkip) (mSeq (mIfS (mTest (mOp gEq (mOp gIx (mVar 0) (mC (.int 1))) (mC (.int 0)))) (mRet (mTup (mCons (mC (.str "number")) (mCons (mC (.int 0)) mNil)))) mSkip) (mRet (mIf (mTest (mOp gEq (mOp gIx (mVar 0) (mC (.int 1))) (mC (.int 1)))) (mVar 2) (mTup (mCons (mC (.str "times")) (mCons (mOp gIx (mVar 0) (mC (.int 1))) (mCons (mVar 2) mNil))))))))) mSkip) (mSeq (mPar 2 3 (mCons (mCall c_f_law_simple (mCons (mOp gIx (mVar 0) (mC (.int 1))) mNil)) (mCons (mCall c_f_law_simple (mCons (mOp gIx (mVar 0) (mC (.int 2))) mNil)) mNil))) (mSeq (mIfS (mTAnd (mTest (mOp gEq (mOp gIx (mVar 2) (mC (.int 0))) (mC (.str "number")))) (mTAnd (mTest (mOp gEq (mOp gIx (mVar 3) (mC (.int 0))) (mC (.str "number")))) (mTest (mChain gLe gLe (mC (.int 0)) (mCall c_f_law_two (mCons (mVar 1) (mCons (mOp gIx (mVar 2) (mC (.int 1))) (mCons (mOp gIx (mVar 3) (mC (.int 1))) mNil)))) (mC (.int 9)))))) (mRet (mTup (mCons (mC (.str "number")) (mCons (mCall c_f_law_two (mCons (mVar 1) (mCons (mOp gIx (mVar 2) (mC (.int 1))) (mCons (mOp gIx (mVar 3) (mC (.int 1))) mNil)))) mNil)))) mSkip) (mSeq (mIfS (mTAnd (mTest (mOp gEq (mVar 1) (mC (.str "plus")))) (mTest (mOp gEq (mVar 2) (mTup (mCons (mC (.str "number")) (mCons (mC (.int 0)) mNil)))))) (mRet (mVar 3)) mSkip) (mSeq (mIfS (mTAnd (mTest (mOp (gIn false) (mVar 1) (mTup (mCons (mC (.str "plus")) (mCons (mC (.str "less")) mNil))))) (mTest (mOp gEq (mVar 3) (mTup (mCons (mC (.str "number")) (mCons (mC (.int 0)) mNil)))))) (mRet (mVar 2)) mSkip) (mRet (mTup (mCons (mVar 1) (mCons (mVar 2) (mCons (mVar 3) mNil)))))))))))))
def m_f_law_odd (c_f_law_mix c_f_law_saying : Fm) : Ms :=
  (mSeq (mSet 1 (mCall c_f_law_saying (mCons (mVar 0) (mCons (mC (.int 2)) (mCons (mC (.int 3)) mNil))))) (mSeq (mIfS (mTest (mOp (gIn false) (mOp gIx (mVar 1) (mC (.int 0))) (mTup (mCons (mC (.str "plus")) (mCons (mC (.str "less")) (mCons (mC (.str "most")) (mCons (mC (.str "least")) (mCons (mC (.str "beats")) mNil)))))))) (mSeq (mSet 2 (mOp gAdd (mC (.int 1)) (mOp gMod (mVar 0) (mC (.int 2))))) (mSeq (mSet 3 (mTup (mCons (mC (.str "number")) (mCons (mOp gIx (mTup (mCons (mC (.int 0)) (mCons (mC (.int 0)) (mCons (mC (.int 1)) (mCons (mC (.int 9)) mNil))))) (mCall c_f_law_mix (mCons (mVar 0) (mCons (mC (.int 9833)) (mCons (mC (.int 4)) mNil))))) mNil)))) (mSet 1 (mOp gAdd (mOp gAdd (mSl (mVar 1) mNoPart (mPart (mVar 2))) (mTup (mCons (mVar 3) mNil))) (mSl (mVar 1) (mPart (mOp gAdd (mVar 2) (mC (.int 1)))) mNoPart))))) mSkip) (mSeq (mSet 4 (mCall c_f_law_mix (mCons (mVar 0) (mCons (mC (.int 9829)) (mCons (mC (.int 6)) mNil))))) (mSeq (mIfS (mTest (mOp gLt (mVar 4) (mC (.int 2)))) (mRet (mTup (mCons (mC (.str "times")) (mCons (mVar 4) (mCons (mVar 1) mNil))))) mSkip) (mSeq (mIfS (mTest (mOp gEq (mVar 4) (mC (.int 2)))) (mRet (mTup (mCons (mC (.str "plus")) (mCons (mTup (mCons (mC (.str "number")) (mCons (mC (.int 0)) mNil))) (mCons (mVar 1) mNil))))) mSkip) (mSeq (mIfS (mTest (mOp gEq (mVar 4) (mC (.int 3)))) (mRet (mTup (mCons (mC (.str "less")) (mCons (mVar 1) (mCons (mTup (mCons (mC (.str "number")) (mCons (mC (.int 0)) mNil))) mNil))))) mSkip) (mRet (mVar 1))))))))
def m_law (c_f_law_cell c_f_law_odd c_f_law_same c_f_law_saying c_f_law_simple c_is_simple c_simple : Fm) : Ms :=
  (mSeq (mFor (mItR (mCons (mC (.int 16)) mNil)) (gtName 1) (mSeq (mSet 2 (mOp gAdd (mCall c_f_law_cell (mCons (mVar 0) (mCons (mOp gMod (mVar 1) (mC (.int 9))) mNil))) (mOp gMul (mC (.int 31)) (mVar 1)))) (mSeq (mSet 3 (mIf (mTest (mOp gEq (mOp gMod (mVar 1) (mC (.int 2))) (mC (.int 0)))) (mCall c_f_law_odd (mCons (mVar 2) mNil)) (mCall c_f_law_saying (mCons (mVar 2) (mCons (mC (.int 3)) (mCons (mC (.int 6)) mNil)))))) (mSeq (mSet 4 (mCall c_f_law_simple (mCons (mVar 3) mNil))) (mSeq (mIfS (mTNot (mTru (mCall c_f_law_same (mCons (mCall c_simple (mCons (mVar 3) mNil)) (mCons (mVar 4) mNil))))) (mRet (mC (.bl false))) mSkip) (mSeq (mSet 5 (mCall c_is_simple (mCons (mVar 3) mNil))) (mIfS (mTOr (mTAnd (mTest (mOp gNotN (mVar 5) (mC (.bl true)))) (mTest (mOp gEq (mVar 4) (mVar 3)))) (mTAnd (mTest (mOp gNotN (mVar 5) (mC (.bl false)))) (mTest (mOp gNe (mVar 4) (mVar 3))))) (mRet (mC (.bl false))) mSkip))))))) (mSeq (mIfS (mTest (mOp gNe (mCall c_simple (mCons (mTup (mCons (mC (.str "plus")) (mCons (mTup (mCons (mC (.str "number")) (mCons (mC (.int 5)) mNil))) (mCons (mTup (mCons (mC (.str "number")) (mCons (mC (.int 5)) mNil))) mNil)))) mNil)) (mTup (mCons (mC (.str "plus")) (mCons (mTup (mCons (mC (.str "number")) (mCons (mC (.int 5)) mNil))) (mCons (mTup (mCons (mC (.str "number")) (mCons (mC (.int 5)) mNil))) mNil)))))) (mRet (mC (.bl false))) mSkip) (mRet (mOp gEq (mCall c_simple (mCons (mTup (mCons (mC (.str "less")) (mCons (mTup (mCons (mC (.str "number")) (mCons (mC (.int 1)) mNil))) (mCons (mTup (mCons (mC (.str "times")) (mCons (mC (.int 0)) (mCons (mTup (mCons (mC (.str "dice")) (mCons (mC (.int 3)) (mCons (mC (.int 6)) mNil)))) mNil)))) mNil)))) mNil)) (mTup (mCons (mC (.str "number")) (mCons (mC (.int 1)) mNil)))))))
end Ml
namespace L14
open PySem L2 Ml
inductive Fn where
  | of_two | of_numbers | of_nothing | simple | is_simple | f_law_cell | f_law_mix | f_law_same | f_law_dice | f_law_many | f_law_saying | f_law_two | f_law_simple | f_law_odd | law
def tbl (C : Fn → Fm) : Fn → Fm
  | .of_two => fnM 3 3 (m_of_two )
  | .of_numbers => fnM 1 2 (m_of_numbers (C .of_two))
  | .of_nothing => fnM 1 2 (m_of_nothing )
  | .simple => fnM 1 2 (m_simple (C .of_nothing) (C .of_numbers) (C .simple))
  | .is_simple => fnM 1 1 (m_is_simple (C .simple))
  | .f_law_cell => fnM 2 2 (m_f_law_cell )
  | .f_law_mix => fnM 3 4 (m_f_law_mix )
  | .f_law_same => fnM 2 4 (m_f_law_same (C .f_law_same))
  | .f_law_dice => fnM 2 7 (m_f_law_dice (C .f_law_mix))
  | .f_law_many => fnM 1 2 (m_f_law_many (C .f_law_many))
  | .f_law_saying => fnM 3 6 (m_f_law_saying (C .f_law_dice) (C .f_law_many) (C .f_law_mix) (C .f_law_saying))
  | .f_law_two => fnM 3 4 (m_f_law_two )
  | .f_law_simple => fnM 1 4 (m_f_law_simple (C .f_law_simple) (C .f_law_two))
  | .f_law_odd => fnM 1 5 (m_f_law_odd (C .f_law_mix) (C .f_law_saying))
  | .law => fnM 1 6 (m_law (C .f_law_cell) (C .f_law_odd) (C .f_law_same) (C .f_law_saying) (C .f_law_simple) (C .is_simple) (C .simple))
def callN : Nat → Fn → Fm
  | 0 => fun _ _ _ => .bad
  | n + 1 => tbl (callN n)
def ar : Fn → Nat
  | .of_two => 3
  | .of_numbers => 1
  | .of_nothing => 1
  | .simple => 1
  | .is_simple => 1
  | .f_law_cell => 2
  | .f_law_mix => 3
  | .f_law_same => 2
  | .f_law_dice => 2
  | .f_law_many => 1
  | .f_law_saying => 3
  | .f_law_two => 3
  | .f_law_simple => 1
  | .f_law_odd => 1
  | .law => 1
theorem callN_len : ∀ (n : Nat) (f : Fn) (ds : List D) (st : Sto) (d : D) (st' : Sto), callN n f ds st = .ok d st' → ds.length = ar f
  | 0, _, _, _, _, _, h => by cases h
  | n + 1, f, ds, st, d, st', h => by cases f <;> exact fnM_len h
end L14

/-! Each def of the text does what its reading does (printed by gen.py). -/
namespace L14
open PySem L2 Ml
def top (i : Nat) : Stmt := PySem.Challenge.pw_diespeech_k14_simpler.main.body.getD i (.Pass ⟨0, 0, 0, 0⟩)
abbrev s_of_two : Stmt := top 2
abbrev s_of_numbers : Stmt := top 5
abbrev s_of_nothing : Stmt := top 6
abbrev s_simple : Stmt := top 7
abbrev s_is_simple : Stmt := top 8
abbrev s_f_law_cell : Stmt := top 10
abbrev s_f_law_mix : Stmt := top 11
abbrev s_f_law_same : Stmt := top 12
abbrev s_f_law_dice : Stmt := top 13
abbrev s_f_law_many : Stmt := top 14
abbrev s_f_law_saying : Stmt := top 15
abbrev s_f_law_two : Stmt := top 16
abbrev s_f_law_simple : Stmt := top 17
abbrev s_f_law_odd : Stmt := top 18
abbrev s_law : Stmt := top 19
def st : Fn → Stmt
  | .of_two => s_of_two
  | .of_numbers => s_of_numbers
  | .of_nothing => s_of_nothing
  | .simple => s_simple
  | .is_simple => s_is_simple
  | .f_law_cell => s_f_law_cell
  | .f_law_mix => s_f_law_mix
  | .f_law_same => s_f_law_same
  | .f_law_dice => s_f_law_dice
  | .f_law_many => s_f_law_many
  | .f_law_saying => s_f_law_saying
  | .f_law_two => s_f_law_two
  | .f_law_simple => s_f_law_simple
  | .f_law_odd => s_f_law_odd
  | .law => s_law
def nm : Fn → Str
  | .of_two => "of_two"
  | .of_numbers => "of_numbers"
  | .of_nothing => "of_nothing"
  | .simple => "simple"
  | .is_simple => "is_simple"
  | .f_law_cell => "_law_cell"
  | .f_law_mix => "_law_mix"
  | .f_law_same => "_law_same"
  | .f_law_dice => "_law_dice"
  | .f_law_many => "_law_many"
  | .f_law_saying => "_law_saying"
  | .f_law_two => "_law_two"
  | .f_law_simple => "_law_simple"
  | .f_law_odd => "_law_odd"
  | .law => "law"
def ps : Fn → List Str
  | .of_two => ["word", "mine", "yours"]
  | .of_numbers => ["saying"]
  | .of_nothing => ["saying"]
  | .simple => ["saying"]
  | .is_simple => ["saying"]
  | .f_law_cell => ["script", "k"]
  | .f_law_mix => ["cell", "prime", "many"]
  | .f_law_same => ["found", "due"]
  | .f_law_dice => ["cell", "most"]
  | .f_law_many => ["saying"]
  | .f_law_saying => ["cell", "deep", "most"]
  | .f_law_two => ["word", "one", "other"]
  | .f_law_simple => ["saying"]
  | .f_law_odd => ["cell"]
  | .law => ["script"]
/-- what the top has written -/
structure Tx (K : PySem.W.Frag) (mg : Str → Option Value) (ad : Fn → Addr) (fd : Fn → FuncData) (a_TWO : Addr) (a_NOTHING : Addr) : Prop where
  f : ∀ f, Fun K (nm f) (nm f) (st f) (ad f) (fd f)
  m : ∀ f, mg (nm f) = some (.ref (ad f))
  k : ∀ f, PySem.W.keepIn K (.ref (ad f)) = true
  b : ∀ f, Binds K (fd f) (ps f) []
  b_all : mg "all" = none
  b_bool : mg "bool" = none
  b_int : mg "int" = none
  b_isinstance : mg "isinstance" = none
  b_len : mg "len" = none
  b_max : mg "max" = none
  b_min : mg "min" = none
  b_range : mg "range" = none
  b_sorted : mg "sorted" = none
  b_str : mg "str" = none
  b_sum : mg "sum" = none
  b_tuple : mg "tuple" = none
  b_zip : mg "zip" = none
  g_TWO : mg "TWO" = some (.ref a_TWO)
  r_TWO : ∀ H mu, Rp K H mu (.ref a_TWO) d_TWO
  g_NOTHING : mg "NOTHING" = some (.ref a_NOTHING)
  r_NOTHING : ∀ H mu, Rp K H mu (.ref a_NOTHING) d_NOTHING
section
variable {P : Program} {w : World} {K : PySem.W.Frag} {mg : Str → Option Value} {base : Heap} {ad : Fn → Addr} {fd : Fn → FuncData} {a_TWO : Addr} {a_NOTHING : Addr}
theorem sc_of_two : FnScope ["word", "mine", "yours"] (ps .of_two) (defScope s_of_two) := ⟨rfl, rfl, rfl, by decide +kernel, rfl, by decide +kernel, by decide +kernel⟩
theorem ok_of_two {n : Nat} (T : Tx K mg ad fd a_TWO a_NOTHING) (IH : ∀ g, FnOk P w K mg base CX0 n (ad g) (fd g) (ps g) (spM K (ar g) (callN n g))) : FnOk P w K mg base CX0 (n + 1) (ad .of_two) (fd .of_two) (ps .of_two) (spM K (ar .of_two) (callN (n + 1) .of_two)) :=
  have S := sc_of_two
  fn_ok (T.f .of_two) sc_of_two rfl fun cdv A outer s H E hr =>
  (mss_cons (ms_if (mt_cmp (op_eqA hr.units) opS_eq (me_var (pv 0)) me_str (nomark _)) (mss_one (ms_ret (me_add (me_var (pv 1)) (me_var (pv 2))))) mss_nil) (mss_cons (ms_if (mt_cmp (op_eqA hr.units) opS_eq (me_var (pv 0)) me_str (nomark _)) (mss_one (ms_ret (me_sub (me_var (pv 1)) (me_var (pv 2))))) mss_nil) (mss_cons (ms_if (mt_cmp (op_eqA hr.units) opS_eq (me_var (pv 0)) me_str (nomark _)) (mss_one (ms_ret (me_callB (call_max2 rfl) callS_max rfl T.b_max bt_max (ma_cons (me_var (pv 1)) (ma_cons (me_var (pv 2)) ma_nil))))) mss_nil) (mss_cons (ms_if (mt_cmp (op_eqA hr.units) opS_eq (me_var (pv 0)) me_str (nomark _)) (mss_one (ms_ret (me_callB (call_min2 rfl) callS_min rfl T.b_min bt_min (ma_cons (me_var (pv 1)) (ma_cons (me_var (pv 2)) ma_nil))))) mss_nil) (mss_one (ms_ret (me_callTy call_int1 callS_int rfl T.b_int bt_int (ma_cons (me_cmp op_gt opS_gt (me_var (pv 1)) (me_var (pv 2)) (nomark _)) ma_nil))))))))
theorem sc_of_numbers : FnScope ["saying", "worth"] (ps .of_numbers) (defScope s_of_numbers) := ⟨rfl, rfl, rfl, by decide +kernel, rfl, by decide +kernel, by decide +kernel⟩
theorem ok_of_numbers {n : Nat} (T : Tx K mg ad fd a_TWO a_NOTHING) (IH : ∀ g, FnOk P w K mg base CX0 n (ad g) (fd g) (ps g) (spM K (ar g) (callN n g))) : FnOk P w K mg base CX0 (n + 1) (ad .of_numbers) (fd .of_numbers) (ps .of_numbers) (spM K (ar .of_numbers) (callN (n + 1) .of_numbers)) :=
  have S := sc_of_numbers
  fn_ok (T.f .of_numbers) sc_of_numbers rfl fun cdv A outer s H E hr =>
  (mss_cons (ms_set (i := 1) S.nd rfl (by first | exact Or.inl rfl | exact Or.inr rfl) me_non) (mss_cons (ms_if (mt_w (mw_and (mt_cmp op_in_seq opS_in (me_item (me_var (pv 0)) me_int) (me_glob (pe_glob (v := .ref a_TWO) rfl T.g_TWO rfl) T.r_TWO) (by rfl)) (mw_and (mt_cmp (op_eqA hr.units) opS_eq (me_item (me_item (me_var (pv 0)) me_int) me_int) me_str (nomark _)) (mw_and1 (mt_cmp (op_eqA hr.units) opS_eq (me_item (me_item (me_var (pv 0)) me_int) me_int) me_str (nomark _)))))) (mss_one (ms_set (i := 1) S.nd rfl (by first | exact Or.inl rfl | exact Or.inr rfl) (me_call (callN_len _ _) (IH .of_two) hr rfl (T.m .of_two) (T.k .of_two) (T.b .of_two) (ma_cons (me_item (me_var (pv 0)) me_int) (ma_cons (me_item (me_item (me_var (pv 0)) me_int) me_int) (ma_cons (me_item (me_item (me_var (pv 0)) me_int) me_int) ma_nil)))))) mss_nil) (mss_cons (ms_if (mt_w (mw_and (mt_cmp (op_eqA hr.units) opS_eq (me_item (me_var (pv 0)) me_int) me_str (nomark _)) (mw_and1 (mt_cmp (op_eqA hr.units) opS_eq (me_item (me_item (me_var (pv 0)) me_int) me_int) me_str (nomark _))))) (mss_one (ms_set (i := 1) S.nd rfl (by first | exact Or.inl rfl | exact Or.inr rfl) (me_mul (me_item (me_var (pv 0)) me_int) (me_item (me_item (me_var (pv 0)) me_int) me_int)))) mss_nil) (mss_cons (ms_if (mt_w (mw_and (mt_cmp op_notA opS_not (me_var (pv 1)) me_non (nomark _)) (mw_and1 (mt_chain op_le opS_le op_le opS_le me_int (me_var (pv 1)) me_int)))) (mss_one (ms_ret (me_tup (ma_cons me_str (ma_cons (me_var (pv 1)) ma_nil))))) mss_nil) (mss_one (ms_ret (me_var (pv 0))))))))
theorem sc_of_nothing : FnScope ["saying", "word"] (ps .of_nothing) (defScope s_of_nothing) := ⟨rfl, rfl, rfl, by decide +kernel, rfl, by decide +kernel, by decide +kernel⟩
theorem ok_of_nothing {n : Nat} (T : Tx K mg ad fd a_TWO a_NOTHING) (IH : ∀ g, FnOk P w K mg base CX0 n (ad g) (fd g) (ps g) (spM K (ar g) (callN n g))) : FnOk P w K mg base CX0 (n + 1) (ad .of_nothing) (fd .of_nothing) (ps .of_nothing) (spM K (ar .of_nothing) (callN (n + 1) .of_nothing)) :=
  have S := sc_of_nothing
  fn_ok (T.f .of_nothing) sc_of_nothing rfl fun cdv A outer s H E hr =>
  (mss_cons (ms_set (i := 1) S.nd rfl (by first | exact Or.inl rfl | exact Or.inr rfl) (me_item (me_var (pv 0)) me_int)) (mss_cons (ms_if (mt_w (mw_or (mt_w (mw_and (mt_cmp (op_eqA hr.units) opS_eq (me_var (pv 1)) me_str (nomark _)) (mw_and1 (mt_cmp (op_eqA hr.units) opS_eq (me_item (me_var (pv 0)) me_int) (me_glob (pe_glob (v := .ref a_NOTHING) rfl T.g_NOTHING rfl) T.r_NOTHING) (nomark _))))) (mw_or1 (mt_w (mw_and (mt_cmp (op_eqA hr.units) opS_eq (me_var (pv 1)) me_str (nomark _)) (mw_and1 (mt_cmp (op_eqA hr.units) opS_eq (me_item (me_var (pv 0)) me_int) me_int (nomark _)))))))) (mss_one (ms_ret (me_item (me_var (pv 0)) me_int))) mss_nil) (mss_cons (ms_if (mt_w (mw_and (mt_cmp op_in_seq opS_in (me_var (pv 1)) (me_tup (ma_cons me_str (ma_cons me_str ma_nil))) (by rfl)) (mw_and1 (mt_cmp (op_eqA hr.units) opS_eq (me_item (me_var (pv 0)) me_int) (me_glob (pe_glob (v := .ref a_NOTHING) rfl T.g_NOTHING rfl) T.r_NOTHING) (nomark _))))) (mss_one (ms_ret (me_item (me_var (pv 0)) me_int))) mss_nil) (mss_cons (ms_if (mt_w (mw_and (mt_cmp (op_eqA hr.units) opS_eq (me_var (pv 1)) me_str (nomark _)) (mw_and1 (mt_cmp (op_eqA hr.units) opS_eq (me_item (me_var (pv 0)) me_int) me_int (nomark _))))) (mss_one (ms_ret (me_glob (pe_glob (v := .ref a_NOTHING) rfl T.g_NOTHING rfl) T.r_NOTHING))) mss_nil) (mss_one (ms_ret (me_var (pv 0))))))))
theorem sc_simple : FnScope ["saying", "word"] (ps .simple) (defScope s_simple) := ⟨rfl, rfl, rfl, by decide +kernel, rfl, by decide +kernel, by decide +kernel⟩
theorem ok_simple {n : Nat} (T : Tx K mg ad fd a_TWO a_NOTHING) (IH : ∀ g, FnOk P w K mg base CX0 n (ad g) (fd g) (ps g) (spM K (ar g) (callN n g))) : FnOk P w K mg base CX0 (n + 1) (ad .simple) (fd .simple) (ps .simple) (spM K (ar .simple) (callN (n + 1) .simple)) :=
  have S := sc_simple
  fn_ok (T.f .simple) sc_simple rfl fun cdv A outer s H E hr =>
  (mss_cons (ms_set (i := 1) S.nd rfl (by first | exact Or.inl rfl | exact Or.inr rfl) (me_item (me_var (pv 0)) me_int)) (mss_cons (ms_if (mt_w (mw_and (mt_cmp op_in_seq opS_in (me_var (pv 1)) (me_tup (ma_cons me_str (ma_cons me_str ma_nil))) (by rfl)) (mw_and1 (mt_cmp (op_eqA hr.units) opS_eq (me_item (me_var (pv 0)) me_int) (me_item (me_var (pv 0)) me_int) (nomark _))))) (mss_one (ms_ret (me_add (me_tup (ma_cons me_str ma_nil)) (me_slice (me_var (pv 0)) (mo_some me_int) (mo_some me_int))))) mss_nil) (mss_cons (ms_if (mt_cmp (op_eqA hr.units) opS_eq (me_var (pv 1)) me_str (nomark _)) (mss_one (ms_set (i := 0) S.nd rfl (by first | exact Or.inl rfl | exact Or.inr rfl) (me_tup (ma_cons me_str (ma_cons (me_item (me_var (pv 0)) me_int) (ma_cons (me_call (callN_len _ _) (IH .simple) hr rfl (T.m .simple) (T.k .simple) (T.b .simple) (ma_cons (me_item (me_var (pv 0)) me_int) ma_nil)) ma_nil)))))) (mss_one (ms_if (mt_cmp op_in_seq opS_in (me_var (pv 1)) (me_glob (pe_glob (v := .ref a_TWO) rfl T.g_TWO rfl) T.r_TWO) (by rfl)) (mss_one (ms_set (i := 0) S.nd rfl (by first | exact Or.inl rfl | exact Or.inr rfl) (me_tup (ma_cons (me_var (pv 1)) (ma_cons (me_call (callN_len _ _) (IH .simple) hr rfl (T.m .simple) (T.k .simple) (T.b .simple) (ma_cons (me_item (me_var (pv 0)) me_int) ma_nil)) (ma_cons (me_call (callN_len _ _) (IH .simple) hr rfl (T.m .simple) (T.k .simple) (T.b .simple) (ma_cons (me_item (me_var (pv 0)) me_int) ma_nil)) ma_nil)))))) mss_nil))) (mss_one (ms_ret (me_call (callN_len _ _) (IH .of_nothing) hr rfl (T.m .of_nothing) (T.k .of_nothing) (T.b .of_nothing) (ma_cons (me_call (callN_len _ _) (IH .of_numbers) hr rfl (T.m .of_numbers) (T.k .of_numbers) (T.b .of_numbers) (ma_cons (me_var (pv 0)) ma_nil)) ma_nil)))))))
theorem sc_is_simple : FnScope ["saying"] (ps .is_simple) (defScope s_is_simple) := ⟨rfl, rfl, rfl, by decide +kernel, rfl, by decide +kernel, by decide +kernel⟩
theorem ok_is_simple {n : Nat} (T : Tx K mg ad fd a_TWO a_NOTHING) (IH : ∀ g, FnOk P w K mg base CX0 n (ad g) (fd g) (ps g) (spM K (ar g) (callN n g))) : FnOk P w K mg base CX0 (n + 1) (ad .is_simple) (fd .is_simple) (ps .is_simple) (spM K (ar .is_simple) (callN (n + 1) .is_simple)) :=
  have S := sc_is_simple
  fn_ok (T.f .is_simple) sc_is_simple rfl fun cdv A outer s H E hr =>
  (mss_one (ms_ret (me_cmp (op_eqA hr.units) opS_eq (me_call (callN_len _ _) (IH .simple) hr rfl (T.m .simple) (T.k .simple) (T.b .simple) (ma_cons (me_var (pv 0)) ma_nil)) (me_var (pv 0)) (nomark _))))
theorem sc_f_law_cell : FnScope ["script", "k"] (ps .f_law_cell) (defScope s_f_law_cell) := ⟨rfl, rfl, rfl, by decide +kernel, rfl, by decide +kernel, by decide +kernel⟩
theorem ok_f_law_cell {n : Nat} (T : Tx K mg ad fd a_TWO a_NOTHING) (IH : ∀ g, FnOk P w K mg base CX0 n (ad g) (fd g) (ps g) (spM K (ar g) (callN n g))) : FnOk P w K mg base CX0 (n + 1) (ad .f_law_cell) (fd .f_law_cell) (ps .f_law_cell) (spM K (ar .f_law_cell) (callN (n + 1) .f_law_cell)) :=
  have S := sc_f_law_cell
  fn_ok (T.f .f_law_cell) sc_f_law_cell rfl fun cdv A outer s H E hr =>
  (mss_cons (ms_if (mt_cmp op_lt opS_lt (me_var (pv 1)) (me_callB call_len callS_len rfl T.b_len bt_len (ma_cons (me_var (pv 0)) ma_nil)) (nomark _)) (mss_one (ms_ret (me_item (me_var (pv 0)) (me_var (pv 1))))) mss_nil) (mss_one (ms_ret me_int)))
theorem sc_f_law_mix : FnScope ["cell", "prime", "many", "blend"] (ps .f_law_mix) (defScope s_f_law_mix) := ⟨rfl, rfl, rfl, by decide +kernel, rfl, by decide +kernel, by decide +kernel⟩
theorem ok_f_law_mix {n : Nat} (T : Tx K mg ad fd a_TWO a_NOTHING) (IH : ∀ g, FnOk P w K mg base CX0 n (ad g) (fd g) (ps g) (spM K (ar g) (callN n g))) : FnOk P w K mg base CX0 (n + 1) (ad .f_law_mix) (fd .f_law_mix) (ps .f_law_mix) (spM K (ar .f_law_mix) (callN (n + 1) .f_law_mix)) :=
  have S := sc_f_law_mix
  fn_ok (T.f .f_law_mix) sc_f_law_mix rfl fun cdv A outer s H E hr =>
  (mss_cons (ms_set (i := 3) S.nd rfl (by first | exact Or.inl rfl | exact Or.inr rfl) (me_mod (me_mul (me_var (pv 0)) me_int) (me_var (pv 1)))) (mss_one (ms_ret (me_mod (me_mod (me_mul (me_var (pv 3)) (me_add (me_var (pv 3)) me_int)) (me_var (pv 1))) (me_var (pv 2))))))
theorem sc_f_law_same : FnScope ["found", "due", "one", "other"] (ps .f_law_same) (defScope s_f_law_same) := ⟨rfl, rfl, rfl, by decide +kernel, rfl, by decide +kernel, by decide +kernel⟩
theorem ok_f_law_same {n : Nat} (T : Tx K mg ad fd a_TWO a_NOTHING) (IH : ∀ g, FnOk P w K mg base CX0 n (ad g) (fd g) (ps g) (spM K (ar g) (callN n g))) : FnOk P w K mg base CX0 (n + 1) (ad .f_law_same) (fd .f_law_same) (ps .f_law_same) (spM K (ar .f_law_same) (callN (n + 1) .f_law_same)) :=
  have S := sc_f_law_same
  fn_ok (T.f .f_law_same) sc_f_law_same rfl fun cdv A outer s H E hr =>
  (mss_cons (ms_if (mt_tru (me_isi rfl T.b_isinstance rfl T.b_tuple bt_tuple ok_tuple (me_var (pv 1)))) (mss_cons (ms_if (mt_w (mw_or (mt_not (mt_tru (me_isi rfl T.b_isinstance rfl T.b_tuple bt_tuple ok_tuple (me_var (pv 0))))) (mw_or1 (mt_cmp (op_neA hr.units) opS_ne (me_callB call_len callS_len rfl T.b_len bt_len (ma_cons (me_var (pv 0)) ma_nil)) (me_callB call_len callS_len rfl T.b_len bt_len (ma_cons (me_var (pv 1)) ma_nil)) (nomark _))))) (mss_one (ms_ret me_bl)) mss_nil) (mss_one (ms_ret (mq_callB (cr_all rfl) qs_all rfl T.b_all bt_all (mq_new (ml_lc rfl S.nd (own := [("one", 2), ("other", 3)]) (mi_zip rfl T.b_zip (ma_cons (me_var (pv 0)) (ma_cons (me_var (pv 1)) ma_nil))) (blkOk_by (own := [("one", 2), ("other", 3)]) (N := ["found", "due", "one", "other"]) (sc := defScope s_f_law_same) (by decide +kernel)) (by decide) (fun _ _ _ _ _ => (mg_tup rfl (mgs_cons (mg_name (i := 2) S.nd rfl (by first | exact Or.inl rfl | exact Or.inr rfl)) (mgs_cons (mg_name (i := 3) S.nd rfl (by first | exact Or.inl rfl | exact Or.inr rfl)) mgs_nil)))) (fun _ _ _ _ _ => mts_nil) (fun _ _ _ _ _ => (me_call (callN_len _ _) (IH .f_law_same) hr rfl (T.m .f_law_same) (T.k .f_law_same) (T.b .f_law_same) (ma_cons (me_var (pv 2)) (ma_cons (me_var (pv 3)) ma_nil)))))))))) mss_nil) (mss_cons (ms_if (mt_cmp op_isA opS_is (me_var (pv 1)) me_non (nomark _)) (mss_one (ms_ret (me_cmp op_isA opS_is (me_var (pv 0)) me_non (nomark _)))) mss_nil) (mss_cons (ms_if (mt_w (mw_or (mt_tru (me_isi rfl T.b_isinstance rfl T.b_bool bt_bool ok_bool (me_var (pv 1)))) (mw_or1 (mt_tru (me_isi rfl T.b_isinstance rfl T.b_bool bt_bool ok_bool (me_var (pv 0))))))) (mss_one (ms_ret (me_and (me_isi rfl T.b_isinstance rfl T.b_bool bt_bool ok_bool (me_var (pv 1))) (me_and (me_isi rfl T.b_isinstance rfl T.b_bool bt_bool ok_bool (me_var (pv 0))) (me_one (me_cmp (op_eqA hr.units) opS_eq (me_var (pv 0)) (me_var (pv 1)) (nomark _))))))) mss_nil) (mss_one (ms_ret (me_and (me_isi2 rfl T.b_isinstance rfl T.b_int bt_int ok_int rfl T.b_str bt_str ok_str (me_var (pv 0))) (me_one (me_cmp (op_eqA hr.units) opS_eq (me_var (pv 0)) (me_var (pv 1)) (nomark _)))))))))
theorem sc_f_law_dice : FnScope ["cell", "most", "word", "many", "sides", "low", "high"] (ps .f_law_dice) (defScope s_f_law_dice) := ⟨rfl, rfl, rfl, by decide +kernel, rfl, by decide +kernel, by decide +kernel⟩
theorem ok_f_law_dice {n : Nat} (T : Tx K mg ad fd a_TWO a_NOTHING) (IH : ∀ g, FnOk P w K mg base CX0 n (ad g) (fd g) (ps g) (spM K (ar g) (callN n g))) : FnOk P w K mg base CX0 (n + 1) (ad .f_law_dice) (fd .f_law_dice) (ps .f_law_dice) (spM K (ar .f_law_dice) (callN (n + 1) .f_law_dice)) :=
  have S := sc_f_law_dice
  fn_ok (T.f .f_law_dice) sc_f_law_dice rfl fun cdv A outer s H E hr =>
  (mss_cons (ms_set (i := 2) S.nd rfl (by first | exact Or.inl rfl | exact Or.inr rfl) (me_item (me_tup (ma_cons me_str (ma_cons me_str (ma_cons me_str (ma_cons me_str (ma_cons me_str (ma_cons me_str ma_nil))))))) (me_call (callN_len _ _) (IH .f_law_mix) hr rfl (T.m .f_law_mix) (T.k .f_law_mix) (T.b .f_law_mix) (ma_cons (me_var (pv 0)) (ma_cons me_int (ma_cons me_int ma_nil)))))) (mss_cons (ms_set (i := 3) S.nd rfl (by first | exact Or.inl rfl | exact Or.inr rfl) (me_add me_int (me_call (callN_len _ _) (IH .f_law_mix) hr rfl (T.m .f_law_mix) (T.k .f_law_mix) (T.b .f_law_mix) (ma_cons (me_var (pv 0)) (ma_cons me_int (ma_cons (me_callB (call_min2 rfl) callS_min rfl T.b_min bt_min (ma_cons me_int (ma_cons (me_var (pv 1)) ma_nil))) ma_nil)))))) (mss_cons (ms_set (i := 4) S.nd rfl (by first | exact Or.inl rfl | exact Or.inr rfl) (me_add me_int (me_call (callN_len _ _) (IH .f_law_mix) hr rfl (T.m .f_law_mix) (T.k .f_law_mix) (T.b .f_law_mix) (ma_cons (me_var (pv 0)) (ma_cons me_int (ma_cons me_int ma_nil)))))) (mss_cons (ms_if (mt_cmp (op_eqA hr.units) opS_eq (me_var (pv 2)) me_str (nomark _)) (mss_one (ms_ret (me_tup (ma_cons (me_var (pv 2)) (ma_cons (me_var (pv 3)) (ma_cons (me_var (pv 4)) ma_nil)))))) mss_nil) (mss_cons (ms_asg (me_getN (hu_of hr) (md_disp (mps_cons me_str (me_tup (ma_cons me_int (ma_cons (me_sub (me_var (pv 4)) me_int) ma_nil))) (mps_cons me_str (me_tup (ma_cons me_int (ma_cons me_int ma_nil))) (mps_cons me_str (me_tup (ma_cons me_int (ma_cons (me_var (pv 4)) ma_nil))) mps_nil)))) (me_var (pv 2)) (me_tup (ma_cons me_int (ma_cons (me_var (pv 3)) ma_nil)))) (mg_tup rfl (mgs_cons (mg_name (i := 5) S.nd rfl (by first | exact Or.inl rfl | exact Or.inr rfl)) (mgs_cons (mg_name (i := 6) S.nd rfl (by first | exact Or.inl rfl | exact Or.inr rfl)) mgs_nil)))) (mss_one (ms_ret (me_tup (ma_cons (me_var (pv 2)) (ma_cons (me_var (pv 3)) (ma_cons (me_var (pv 4)) (ma_cons (me_add (me_var (pv 5)) (me_call (callN_len _ _) (IH .f_law_mix) hr rfl (T.m .f_law_mix) (T.k .f_law_mix) (T.b .f_law_mix) (ma_cons (me_var (pv 0)) (ma_cons me_int (ma_cons (me_add (me_sub (me_var (pv 6)) (me_var (pv 5))) me_int) ma_nil))))) ma_nil))))))))))))
theorem sc_f_law_many : FnScope ["saying", "part"] (ps .f_law_many) (defScope s_f_law_many) := ⟨rfl, rfl, rfl, by decide +kernel, rfl, by decide +kernel, by decide +kernel⟩
theorem ok_f_law_many {n : Nat} (T : Tx K mg ad fd a_TWO a_NOTHING) (IH : ∀ g, FnOk P w K mg base CX0 n (ad g) (fd g) (ps g) (spM K (ar g) (callN n g))) : FnOk P w K mg base CX0 (n + 1) (ad .f_law_many) (fd .f_law_many) (ps .f_law_many) (spM K (ar .f_law_many) (callN (n + 1) .f_law_many)) :=
  have S := sc_f_law_many
  fn_ok (T.f .f_law_many) sc_f_law_many rfl fun cdv A outer s H E hr =>
  (mss_cons (ms_if (mt_cmp (op_eqA hr.units) opS_eq (me_item (me_var (pv 0)) me_int) me_str (nomark _)) (mss_one (ms_ret me_int)) mss_nil) (mss_cons (ms_if (mt_tru (me_isi rfl T.b_isinstance rfl T.b_tuple bt_tuple ok_tuple (me_item (me_var (pv 0)) (me_neg me_int)))) (mss_one (ms_ret (mq_callB (cr_sum rfl) qs_sum rfl T.b_sum bt_sum (mq_new (ml_lc rfl S.nd (own := [("part", 1)]) (mi_tup (me_slice (me_var (pv 0)) (mo_some me_int) mo_none)) (blkOk_by (own := [("part", 1)]) (N := ["saying", "part"]) (sc := defScope s_f_law_many) (by decide +kernel)) (by decide) (fun _ _ _ _ _ => (mg_name (i := 1) S.nd rfl (by first | exact Or.inl rfl | exact Or.inr rfl))) (fun _ _ _ _ _ => (mts_one (mt_tru (me_isi rfl T.b_isinstance rfl T.b_tuple bt_tuple ok_tuple (me_var (pv 1)))))) (fun _ _ _ _ _ => (me_call (callN_len _ _) (IH .f_law_many) hr rfl (T.m .f_law_many) (T.k .f_law_many) (T.b .f_law_many) (ma_cons (me_var (pv 1)) ma_nil)))))))) mss_nil) (mss_one (ms_ret (me_item (me_var (pv 0)) me_int)))))
theorem sc_f_law_saying : FnScope ["cell", "deep", "most", "way", "one", "other"] (ps .f_law_saying) (defScope s_f_law_saying) := ⟨rfl, rfl, rfl, by decide +kernel, rfl, by decide +kernel, by decide +kernel⟩
theorem ok_f_law_saying {n : Nat} (T : Tx K mg ad fd a_TWO a_NOTHING) (IH : ∀ g, FnOk P w K mg base CX0 n (ad g) (fd g) (ps g) (spM K (ar g) (callN n g))) : FnOk P w K mg base CX0 (n + 1) (ad .f_law_saying) (fd .f_law_saying) (ps .f_law_saying) (spM K (ar .f_law_saying) (callN (n + 1) .f_law_saying)) :=
  have S := sc_f_law_saying
  fn_ok (T.f .f_law_saying) sc_f_law_saying rfl fun cdv A outer s H E hr =>
  (mss_cons (ms_set (i := 3) S.nd rfl (by first | exact Or.inl rfl | exact Or.inr rfl) (me_call (callN_len _ _) (IH .f_law_mix) hr rfl (T.m .f_law_mix) (T.k .f_law_mix) (T.b .f_law_mix) (ma_cons (me_var (pv 0)) (ma_cons me_int (ma_cons me_int ma_nil))))) (mss_cons (ms_if (mt_w (mw_or (mt_cmp op_lt opS_lt (me_var (pv 3)) me_int (nomark _)) (mw_or1 (mt_cmp (op_eqA hr.units) opS_eq (me_var (pv 2)) me_int (nomark _))))) (mss_one (ms_ret (me_tup (ma_cons me_str (ma_cons (me_call (callN_len _ _) (IH .f_law_mix) hr rfl (T.m .f_law_mix) (T.k .f_law_mix) (T.b .f_law_mix) (ma_cons (me_var (pv 0)) (ma_cons me_int (ma_cons me_int ma_nil)))) ma_nil))))) mss_nil) (mss_cons (ms_if (mt_w (mw_or (mt_cmp op_lt opS_lt (me_var (pv 3)) me_int (nomark _)) (mw_or1 (mt_cmp (op_eqA hr.units) opS_eq (me_var (pv 1)) me_int (nomark _))))) (mss_one (ms_ret (me_call (callN_len _ _) (IH .f_law_dice) hr rfl (T.m .f_law_dice) (T.k .f_law_dice) (T.b .f_law_dice) (ma_cons (me_add (me_var (pv 0)) me_int) (ma_cons (me_var (pv 2)) ma_nil))))) mss_nil) (mss_cons (ms_if (mt_cmp (op_eqA hr.units) opS_eq (me_var (pv 3)) me_int (nomark _)) (mss_one (ms_ret (me_tup (ma_cons me_str (ma_cons (me_call (callN_len _ _) (IH .f_law_mix) hr rfl (T.m .f_law_mix) (T.k .f_law_mix) (T.b .f_law_mix) (ma_cons (me_var (pv 0)) (ma_cons me_int (ma_cons me_int ma_nil)))) (ma_cons (me_call (callN_len _ _) (IH .f_law_saying) hr rfl (T.m .f_law_saying) (T.k .f_law_saying) (T.b .f_law_saying) (ma_cons (me_add (me_var (pv 0)) me_int) (ma_cons (me_sub (me_var (pv 1)) me_int) (ma_cons (me_var (pv 2)) ma_nil)))) ma_nil)))))) mss_nil) (mss_cons (ms_set (i := 4) S.nd rfl (by first | exact Or.inl rfl | exact Or.inr rfl) (me_call (callN_len _ _) (IH .f_law_saying) hr rfl (T.m .f_law_saying) (T.k .f_law_saying) (T.b .f_law_saying) (ma_cons (me_add (me_var (pv 0)) me_int) (ma_cons (me_sub (me_var (pv 1)) me_int) (ma_cons (me_var (pv 2)) ma_nil))))) (mss_cons (ms_set (i := 5) S.nd rfl (by first | exact Or.inl rfl | exact Or.inr rfl) (me_call (callN_len _ _) (IH .f_law_saying) hr rfl (T.m .f_law_saying) (T.k .f_law_saying) (T.b .f_law_saying) (ma_cons (me_add (me_var (pv 0)) me_int) (ma_cons (me_sub (me_var (pv 1)) me_int) (ma_cons (me_sub (me_var (pv 2)) (me_call (callN_len _ _) (IH .f_law_many) hr rfl (T.m .f_law_many) (T.k .f_law_many) (T.b .f_law_many) (ma_cons (me_var (pv 4)) ma_nil))) ma_nil))))) (mss_cons (ms_if (mt_cmp (op_eqA hr.units) opS_eq (me_mod (me_var (pv 0)) me_int) me_int (nomark _)) (mss_one (ms_par (i := 4) (j := 5) rfl S.nd rfl rfl (by decide) rfl rfl (ma_cons (me_var (pv 5)) (ma_cons (me_var (pv 4)) ma_nil)) (by rfl))) mss_nil) (mss_one (ms_ret (me_tup (ma_cons (me_item (me_tup (ma_cons me_str (ma_cons me_str (ma_cons me_str (ma_cons me_str (ma_cons me_str ma_nil)))))) (me_call (callN_len _ _) (IH .f_law_mix) hr rfl (T.m .f_law_mix) (T.k .f_law_mix) (T.b .f_law_mix) (ma_cons (me_var (pv 0)) (ma_cons me_int (ma_cons me_int ma_nil))))) (ma_cons (me_var (pv 4)) (ma_cons (me_var (pv 5)) ma_nil)))))))))))))
theorem sc_f_law_two : FnScope ["word", "one", "other", "both"] (ps .f_law_two) (defScope s_f_law_two) := ⟨rfl, rfl, rfl, by decide +kernel, rfl, by decide +kernel, by decide +kernel⟩
theorem ok_f_law_two {n : Nat} (T : Tx K mg ad fd a_TWO a_NOTHING) (IH : ∀ g, FnOk P w K mg base CX0 n (ad g) (fd g) (ps g) (spM K (ar g) (callN n g))) : FnOk P w K mg base CX0 (n + 1) (ad .f_law_two) (fd .f_law_two) (ps .f_law_two) (spM K (ar .f_law_two) (callN (n + 1) .f_law_two)) :=
  have S := sc_f_law_two
  fn_ok (T.f .f_law_two) sc_f_law_two rfl fun cdv A outer s H E hr =>
  (mss_cons (ms_if (mt_cmp (op_eqA hr.units) opS_eq (me_var (pv 0)) me_str (nomark _)) (mss_one (ms_ret (me_add (me_var (pv 1)) (me_var (pv 2))))) mss_nil) (mss_cons (ms_if (mt_cmp (op_eqA hr.units) opS_eq (me_var (pv 0)) me_str (nomark _)) (mss_one (ms_ret (me_sub (me_var (pv 1)) (me_var (pv 2))))) mss_nil) (mss_cons (ms_if (mt_cmp (op_eqA hr.units) opS_eq (me_var (pv 0)) me_str (nomark _)) (mss_one (ms_ret (me_callTy call_int1 callS_int rfl T.b_int bt_int (ma_cons (me_cmp op_gt opS_gt (me_var (pv 1)) (me_var (pv 2)) (nomark _)) ma_nil)))) mss_nil) (mss_cons (ms_set (i := 3) S.nd rfl (by first | exact Or.inl rfl | exact Or.inr rfl) (me_keep (mq_callB cr_sortedI qs_sorted rfl T.b_sorted bt_sorted (mq_new (ml_lst (ma_cons (me_var (pv 1)) (ma_cons (me_var (pv 2)) ma_nil))))))) (mss_one (ms_ret (me_item (me_var (pv 3)) (me_callTy call_int1 callS_int rfl T.b_int bt_int (ma_cons (me_cmp (op_eqA hr.units) opS_eq (me_var (pv 0)) me_str (nomark _)) ma_nil)))))))))
theorem sc_f_law_simple : FnScope ["saying", "word", "one", "other"] (ps .f_law_simple) (defScope s_f_law_simple) := ⟨rfl, rfl, rfl, by decide +kernel, rfl, by decide +kernel, by decide +kernel⟩
theorem ok_f_law_simple {n : Nat} (T : Tx K mg ad fd a_TWO a_NOTHING) (IH : ∀ g, FnOk P w K mg base CX0 n (ad g) (fd g) (ps g) (spM K (ar g) (callN n g))) : FnOk P w K mg base CX0 (n + 1) (ad .f_law_simple) (fd .f_law_simple) (ps .f_law_simple) (spM K (ar .f_law_simple) (callN (n + 1) .f_law_simple)) :=
  have S := sc_f_law_simple
  fn_ok (T.f .f_law_simple) sc_f_law_simple rfl fun cdv A outer s H E hr =>
  (mss_cons (ms_set (i := 1) S.nd rfl (by first | exact Or.inl rfl | exact Or.inr rfl) (me_item (me_var (pv 0)) me_int)) (mss_cons (ms_if (mt_w (mw_and (mt_cmp op_in_seq opS_in (me_var (pv 1)) (me_tup (ma_cons me_str (ma_cons me_str ma_nil))) (by rfl)) (mw_and1 (mt_cmp (op_eqA hr.units) opS_eq (me_item (me_var (pv 0)) me_int) (me_item (me_var (pv 0)) me_int) (nomark _))))) (mss_one (ms_ret (me_tup (ma_cons me_str (ma_cons (me_item (me_var (pv 0)) me_int) (ma_cons (me_item (me_var (pv 0)) me_int) ma_nil)))))) mss_nil) (mss_cons (ms_if (mt_w (mw_or (mt_cmp (op_eqA hr.units) opS_eq (me_var (pv 1)) me_str (nomark _)) (mw_or1 (mt_not (mt_tru (me_isi rfl T.b_isinstance rfl T.b_tuple bt_tuple ok_tuple (me_item (me_var (pv 0)) (me_neg me_int)))))))) (mss_one (ms_ret (me_var (pv 0)))) mss_nil) (mss_cons (ms_if (mt_cmp (op_eqA hr.units) opS_eq (me_var (pv 1)) me_str (nomark _)) (mss_cons (ms_set (i := 2) S.nd rfl (by first | exact Or.inl rfl | exact Or.inr rfl) (me_call (callN_len _ _) (IH .f_law_simple) hr rfl (T.m .f_law_simple) (T.k .f_law_simple) (T.b .f_law_simple) (ma_cons (me_item (me_var (pv 0)) me_int) ma_nil))) (mss_cons (ms_if (mt_w (mw_and (mt_cmp (op_eqA hr.units) opS_eq (me_item (me_var (pv 2)) me_int) me_str (nomark _)) (mw_and1 (mt_cmp op_le opS_le (me_mul (me_item (me_var (pv 0)) me_int) (me_item (me_var (pv 2)) me_int)) me_int (nomark _))))) (mss_one (ms_ret (me_tup (ma_cons me_str (ma_cons (me_mul (me_item (me_var (pv 0)) me_int) (me_item (me_var (pv 2)) me_int)) ma_nil))))) mss_nil) (mss_cons (ms_if (mt_cmp (op_eqA hr.units) opS_eq (me_item (me_var (pv 0)) me_int) me_int (nomark _)) (mss_one (ms_ret (me_tup (ma_cons me_str (ma_cons me_int ma_nil))))) mss_nil) (mss_one (ms_ret (me_ifExp (mt_cmp (op_eqA hr.units) opS_eq (me_item (me_var (pv 0)) me_int) me_int (nomark _)) (me_var (pv 2)) (me_tup (ma_cons me_str (ma_cons (me_item (me_var (pv 0)) me_int) (ma_cons (me_var (pv 2)) ma_nil)))))))))) mss_nil) (mss_cons (ms_par (i := 2) (j := 3) rfl S.nd rfl rfl (by decide) rfl rfl (ma_cons (me_call (callN_len _ _) (IH .f_law_simple) hr rfl (T.m .f_law_simple) (T.k .f_law_simple) (T.b .f_law_simple) (ma_cons (me_item (me_var (pv 0)) me_int) ma_nil)) (ma_cons (me_call (callN_len _ _) (IH .f_law_simple) hr rfl (T.m .f_law_simple) (T.k .f_law_simple) (T.b .f_law_simple) (ma_cons (me_item (me_var (pv 0)) me_int) ma_nil)) ma_nil)) (by rfl)) (mss_cons (ms_if (mt_w (mw_and (mt_cmp (op_eqA hr.units) opS_eq (me_item (me_var (pv 2)) me_int) me_str (nomark _)) (mw_and (mt_cmp (op_eqA hr.units) opS_eq (me_item (me_var (pv 3)) me_int) me_str (nomark _)) (mw_and1 (mt_chain op_le opS_le op_le opS_le me_int (me_call (callN_len _ _) (IH .f_law_two) hr rfl (T.m .f_law_two) (T.k .f_law_two) (T.b .f_law_two) (ma_cons (me_var (pv 1)) (ma_cons (me_item (me_var (pv 2)) me_int) (ma_cons (me_item (me_var (pv 3)) me_int) ma_nil)))) me_int))))) (mss_one (ms_ret (me_tup (ma_cons me_str (ma_cons (me_call (callN_len _ _) (IH .f_law_two) hr rfl (T.m .f_law_two) (T.k .f_law_two) (T.b .f_law_two) (ma_cons (me_var (pv 1)) (ma_cons (me_item (me_var (pv 2)) me_int) (ma_cons (me_item (me_var (pv 3)) me_int) ma_nil)))) ma_nil))))) mss_nil) (mss_cons (ms_if (mt_w (mw_and (mt_cmp (op_eqA hr.units) opS_eq (me_var (pv 1)) me_str (nomark _)) (mw_and1 (mt_cmp (op_eqA hr.units) opS_eq (me_var (pv 2)) (me_tup (ma_cons me_str (ma_cons me_int ma_nil))) (nomark _))))) (mss_one (ms_ret (me_var (pv 3)))) mss_nil) (mss_cons (ms_if (mt_w (mw_and (mt_cmp op_in_seq opS_in (me_var (pv 1)) (me_tup (ma_cons me_str (ma_cons me_str ma_nil))) (by rfl)) (mw_and1 (mt_cmp (op_eqA hr.units) opS_eq (me_var (pv 3)) (me_tup (ma_cons me_str (ma_cons me_int ma_nil))) (nomark _))))) (mss_one (ms_ret (me_var (pv 2)))) mss_nil) (mss_one (ms_ret (me_tup (ma_cons (me_var (pv 1)) (ma_cons (me_var (pv 2)) (ma_cons (me_var (pv 3)) ma_nil))))))))))))))
theorem sc_f_law_odd : FnScope ["cell", "saying", "at", "number", "way"] (ps .f_law_odd) (defScope s_f_law_odd) := ⟨rfl, rfl, rfl, by decide +kernel, rfl, by decide +kernel, by decide +kernel⟩
theorem ok_f_law_odd {n : Nat} (T : Tx K mg ad fd a_TWO a_NOTHING) (IH : ∀ g, FnOk P w K mg base CX0 n (ad g) (fd g) (ps g) (spM K (ar g) (callN n g))) : FnOk P w K mg base CX0 (n + 1) (ad .f_law_odd) (fd .f_law_odd) (ps .f_law_odd) (spM K (ar .f_law_odd) (callN (n + 1) .f_law_odd)) :=
  have S := sc_f_law_odd
  fn_ok (T.f .f_law_odd) sc_f_law_odd rfl fun cdv A outer s H E hr =>
  (mss_cons (ms_set (i := 1) S.nd rfl (by first | exact Or.inl rfl | exact Or.inr rfl) (me_call (callN_len _ _) (IH .f_law_saying) hr rfl (T.m .f_law_saying) (T.k .f_law_saying) (T.b .f_law_saying) (ma_cons (me_var (pv 0)) (ma_cons me_int (ma_cons me_int ma_nil))))) (mss_cons (ms_if (mt_cmp op_in_seq opS_in (me_item (me_var (pv 1)) me_int) (me_tup (ma_cons me_str (ma_cons me_str (ma_cons me_str (ma_cons me_str (ma_cons me_str ma_nil)))))) (by rfl)) (mss_cons (ms_set (i := 2) S.nd rfl (by first | exact Or.inl rfl | exact Or.inr rfl) (me_add me_int (me_mod (me_var (pv 0)) me_int))) (mss_cons (ms_set (i := 3) S.nd rfl (by first | exact Or.inl rfl | exact Or.inr rfl) (me_tup (ma_cons me_str (ma_cons (me_item (me_tup (ma_cons me_int (ma_cons me_int (ma_cons me_int (ma_cons me_int ma_nil))))) (me_call (callN_len _ _) (IH .f_law_mix) hr rfl (T.m .f_law_mix) (T.k .f_law_mix) (T.b .f_law_mix) (ma_cons (me_var (pv 0)) (ma_cons me_int (ma_cons me_int ma_nil))))) ma_nil)))) (mss_one (ms_set (i := 1) S.nd rfl (by first | exact Or.inl rfl | exact Or.inr rfl) (me_add (me_add (me_slice (me_var (pv 1)) mo_none (mo_some (me_var (pv 2)))) (me_tup (ma_cons (me_var (pv 3)) ma_nil))) (me_slice (me_var (pv 1)) (mo_some (me_add (me_var (pv 2)) me_int)) mo_none)))))) mss_nil) (mss_cons (ms_set (i := 4) S.nd rfl (by first | exact Or.inl rfl | exact Or.inr rfl) (me_call (callN_len _ _) (IH .f_law_mix) hr rfl (T.m .f_law_mix) (T.k .f_law_mix) (T.b .f_law_mix) (ma_cons (me_var (pv 0)) (ma_cons me_int (ma_cons me_int ma_nil))))) (mss_cons (ms_if (mt_cmp op_lt opS_lt (me_var (pv 4)) me_int (nomark _)) (mss_one (ms_ret (me_tup (ma_cons me_str (ma_cons (me_var (pv 4)) (ma_cons (me_var (pv 1)) ma_nil)))))) mss_nil) (mss_cons (ms_if (mt_cmp (op_eqA hr.units) opS_eq (me_var (pv 4)) me_int (nomark _)) (mss_one (ms_ret (me_tup (ma_cons me_str (ma_cons (me_tup (ma_cons me_str (ma_cons me_int ma_nil))) (ma_cons (me_var (pv 1)) ma_nil)))))) mss_nil) (mss_cons (ms_if (mt_cmp (op_eqA hr.units) opS_eq (me_var (pv 4)) me_int (nomark _)) (mss_one (ms_ret (me_tup (ma_cons me_str (ma_cons (me_var (pv 1)) (ma_cons (me_tup (ma_cons me_str (ma_cons me_int ma_nil))) ma_nil)))))) mss_nil) (mss_one (ms_ret (me_var (pv 1))))))))))
theorem sc_law : FnScope ["script", "k", "cell", "saying", "due", "told"] (ps .law) (defScope s_law) := ⟨rfl, rfl, rfl, by decide +kernel, rfl, by decide +kernel, by decide +kernel⟩
theorem ok_law {n : Nat} (T : Tx K mg ad fd a_TWO a_NOTHING) (IH : ∀ g, FnOk P w K mg base CX0 n (ad g) (fd g) (ps g) (spM K (ar g) (callN n g))) : FnOk P w K mg base CX0 (n + 1) (ad .law) (fd .law) (ps .law) (spM K (ar .law) (callN (n + 1) .law)) :=
  have S := sc_law
  fn_ok (T.f .law) sc_law rfl fun cdv A outer s H E hr =>
  (mss_cons (ms_for PassesOwn.never rfl (mi_rng1 rfl T.b_range (ma_cons me_int ma_nil)) (mg_name (i := 1) S.nd rfl (by first | exact Or.inl rfl | exact Or.inr rfl)) (mss_cons (ms_set (i := 2) S.nd rfl (by first | exact Or.inl rfl | exact Or.inr rfl) (me_add (me_call (callN_len _ _) (IH .f_law_cell) hr rfl (T.m .f_law_cell) (T.k .f_law_cell) (T.b .f_law_cell) (ma_cons (me_var (pv 0)) (ma_cons (me_mod (me_var (pv 1)) me_int) ma_nil))) (me_mul me_int (me_var (pv 1))))) (mss_cons (ms_set (i := 3) S.nd rfl (by first | exact Or.inl rfl | exact Or.inr rfl) (me_ifExp (mt_cmp (op_eqA hr.units) opS_eq (me_mod (me_var (pv 1)) me_int) me_int (nomark _)) (me_call (callN_len _ _) (IH .f_law_odd) hr rfl (T.m .f_law_odd) (T.k .f_law_odd) (T.b .f_law_odd) (ma_cons (me_var (pv 2)) ma_nil)) (me_call (callN_len _ _) (IH .f_law_saying) hr rfl (T.m .f_law_saying) (T.k .f_law_saying) (T.b .f_law_saying) (ma_cons (me_var (pv 2)) (ma_cons me_int (ma_cons me_int ma_nil)))))) (mss_cons (ms_set (i := 4) S.nd rfl (by first | exact Or.inl rfl | exact Or.inr rfl) (me_call (callN_len _ _) (IH .f_law_simple) hr rfl (T.m .f_law_simple) (T.k .f_law_simple) (T.b .f_law_simple) (ma_cons (me_var (pv 3)) ma_nil))) (mss_cons (ms_if (mt_not (mt_tru (me_call (callN_len _ _) (IH .f_law_same) hr rfl (T.m .f_law_same) (T.k .f_law_same) (T.b .f_law_same) (ma_cons (me_call (callN_len _ _) (IH .simple) hr rfl (T.m .simple) (T.k .simple) (T.b .simple) (ma_cons (me_var (pv 3)) ma_nil)) (ma_cons (me_var (pv 4)) ma_nil))))) (mss_one (ms_ret me_bl)) mss_nil) (mss_cons (ms_set (i := 5) S.nd rfl (by first | exact Or.inl rfl | exact Or.inr rfl) (me_call (callN_len _ _) (IH .is_simple) hr rfl (T.m .is_simple) (T.k .is_simple) (T.b .is_simple) (ma_cons (me_var (pv 3)) ma_nil))) (mss_one (ms_if (mt_w (mw_or (mt_w (mw_and (mt_cmp op_notA opS_not (me_var (pv 5)) me_bl (nomark _)) (mw_and1 (mt_cmp (op_eqA hr.units) opS_eq (me_var (pv 4)) (me_var (pv 3)) (nomark _))))) (mw_or1 (mt_w (mw_and (mt_cmp op_notA opS_not (me_var (pv 5)) me_bl (nomark _)) (mw_and1 (mt_cmp (op_neA hr.units) opS_ne (me_var (pv 4)) (me_var (pv 3)) (nomark _)))))))) (mss_one (ms_ret me_bl)) mss_nil)))))))) (mss_cons (ms_if (mt_cmp (op_neA hr.units) opS_ne (me_call (callN_len _ _) (IH .simple) hr rfl (T.m .simple) (T.k .simple) (T.b .simple) (ma_cons (me_tup (ma_cons me_str (ma_cons (me_tup (ma_cons me_str (ma_cons me_int ma_nil))) (ma_cons (me_tup (ma_cons me_str (ma_cons me_int ma_nil))) ma_nil)))) ma_nil)) (me_tup (ma_cons me_str (ma_cons (me_tup (ma_cons me_str (ma_cons me_int ma_nil))) (ma_cons (me_tup (ma_cons me_str (ma_cons me_int ma_nil))) ma_nil)))) (nomark _)) (mss_one (ms_ret me_bl)) mss_nil) (mss_one (ms_ret (me_cmp (op_eqA hr.units) opS_eq (me_call (callN_len _ _) (IH .simple) hr rfl (T.m .simple) (T.k .simple) (T.b .simple) (ma_cons (me_tup (ma_cons me_str (ma_cons (me_tup (ma_cons me_str (ma_cons me_int ma_nil))) (ma_cons (me_tup (ma_cons me_str (ma_cons me_int (ma_cons (me_tup (ma_cons me_str (ma_cons me_int (ma_cons me_int ma_nil)))) ma_nil)))) ma_nil)))) ma_nil)) (me_tup (ma_cons me_str (ma_cons me_int ma_nil))) (nomark _))))))
theorem all_ok (T : Tx K mg ad fd a_TWO a_NOTHING) : ∀ n f, FnOk P w K mg base CX0 n (ad f) (fd f) (ps f) (spM K (ar f) (callN n f))
  | 0, f => fn_zero
  | n + 1, f => by
    have IH := all_ok T n
    cases f
    · exact ok_of_two T IH
    · exact ok_of_numbers T IH
    · exact ok_of_nothing T IH
    · exact ok_simple T IH
    · exact ok_is_simple T IH
    · exact ok_f_law_cell T IH
    · exact ok_f_law_mix T IH
    · exact ok_f_law_same T IH
    · exact ok_f_law_dice T IH
    · exact ok_f_law_many T IH
    · exact ok_f_law_saying T IH
    · exact ok_f_law_two T IH
    · exact ok_f_law_simple T IH
    · exact ok_f_law_odd T IH
    · exact ok_law T IH
end
theorem all_mk {P : Program} {w : World} {K : PySem.W.Frag} {h : Heap} {mg : Str → Option Value} {fa : Addr} (lv : Nat) (X : K.In h) (G : h.Ns mainGlobals mg) (hfa : mg "law" = some (.ref fa))
    {f_of_two : Addr} {oc_of_two kV_of_two dc_of_two pm_of_two cd_of_two ct_of_two : Value} {od_of_two an_of_two : Option Addr} {sl_of_two : Array (Option Value)}
    {f_of_numbers : Addr} {oc_of_numbers kV_of_numbers dc_of_numbers pm_of_numbers cd_of_numbers ct_of_numbers : Value} {od_of_numbers an_of_numbers : Option Addr} {sl_of_numbers : Array (Option Value)}
    {f_of_nothing : Addr} {oc_of_nothing kV_of_nothing dc_of_nothing pm_of_nothing cd_of_nothing ct_of_nothing : Value} {od_of_nothing an_of_nothing : Option Addr} {sl_of_nothing : Array (Option Value)}
    {f_simple : Addr} {oc_simple kV_simple dc_simple pm_simple cd_simple ct_simple : Value} {od_simple an_simple : Option Addr} {sl_simple : Array (Option Value)}
    {f_is_simple : Addr} {oc_is_simple kV_is_simple dc_is_simple pm_is_simple cd_is_simple ct_is_simple : Value} {od_is_simple an_is_simple : Option Addr} {sl_is_simple : Array (Option Value)}
    {f_f_law_cell : Addr} {oc_f_law_cell kV_f_law_cell dc_f_law_cell pm_f_law_cell cd_f_law_cell ct_f_law_cell : Value} {od_f_law_cell an_f_law_cell : Option Addr} {sl_f_law_cell : Array (Option Value)}
    {f_f_law_mix : Addr} {oc_f_law_mix kV_f_law_mix dc_f_law_mix pm_f_law_mix cd_f_law_mix ct_f_law_mix : Value} {od_f_law_mix an_f_law_mix : Option Addr} {sl_f_law_mix : Array (Option Value)}
    {f_f_law_same : Addr} {oc_f_law_same kV_f_law_same dc_f_law_same pm_f_law_same cd_f_law_same ct_f_law_same : Value} {od_f_law_same an_f_law_same : Option Addr} {sl_f_law_same : Array (Option Value)}
    {f_f_law_dice : Addr} {oc_f_law_dice kV_f_law_dice dc_f_law_dice pm_f_law_dice cd_f_law_dice ct_f_law_dice : Value} {od_f_law_dice an_f_law_dice : Option Addr} {sl_f_law_dice : Array (Option Value)}
    {f_f_law_many : Addr} {oc_f_law_many kV_f_law_many dc_f_law_many pm_f_law_many cd_f_law_many ct_f_law_many : Value} {od_f_law_many an_f_law_many : Option Addr} {sl_f_law_many : Array (Option Value)}
    {f_f_law_saying : Addr} {oc_f_law_saying kV_f_law_saying dc_f_law_saying pm_f_law_saying cd_f_law_saying ct_f_law_saying : Value} {od_f_law_saying an_f_law_saying : Option Addr} {sl_f_law_saying : Array (Option Value)}
    {f_f_law_two : Addr} {oc_f_law_two kV_f_law_two dc_f_law_two pm_f_law_two cd_f_law_two ct_f_law_two : Value} {od_f_law_two an_f_law_two : Option Addr} {sl_f_law_two : Array (Option Value)}
    {f_f_law_simple : Addr} {oc_f_law_simple kV_f_law_simple dc_f_law_simple pm_f_law_simple cd_f_law_simple ct_f_law_simple : Value} {od_f_law_simple an_f_law_simple : Option Addr} {sl_f_law_simple : Array (Option Value)}
    {f_f_law_odd : Addr} {oc_f_law_odd kV_f_law_odd dc_f_law_odd pm_f_law_odd cd_f_law_odd ct_f_law_odd : Value} {od_f_law_odd an_f_law_odd : Option Addr} {sl_f_law_odd : Array (Option Value)}
    {f_law : Addr} {oc_law kV_law dc_law pm_law cd_law ct_law : Value} {od_law an_law : Option Addr} {sl_law : Array (Option Value)}
    {a_TWO : Addr} {u0_TWO u1_TWO u2_TWO u3_TWO u4_TWO : Tok} {q_TWO : Option Addr} {n_TWO : Nat} {w_TWO : Array (Option Value)}
    {a_NOTHING : Addr} {u0_NOTHING u1_NOTHING : Tok} {q_NOTHING : Option Addr} {n_NOTHING : Nat} {w_NOTHING : Array (Option Value)}
    (a_f_of_two : PySem.W.nsIn K mainGlobals "of_two" = some (some (.ref f_of_two))) (l_f_of_two : K.lookup f_of_two = some ⟨oc_of_two, od_of_two, .func (PySem.W.fnOf "of_two" "of_two" (defArgs s_of_two) (defBody s_of_two) (defScope s_of_two) .none kV_of_two dc_of_two pm_of_two an_of_two cd_of_two ct_of_two), sl_of_two⟩) (c_f_of_two : PySem.W.codeIn K cd_of_two "of_two" = true) (k_f_of_two : PySem.W.keepIn K (.ref f_of_two) = true)
    (a_f_of_numbers : PySem.W.nsIn K mainGlobals "of_numbers" = some (some (.ref f_of_numbers))) (l_f_of_numbers : K.lookup f_of_numbers = some ⟨oc_of_numbers, od_of_numbers, .func (PySem.W.fnOf "of_numbers" "of_numbers" (defArgs s_of_numbers) (defBody s_of_numbers) (defScope s_of_numbers) .none kV_of_numbers dc_of_numbers pm_of_numbers an_of_numbers cd_of_numbers ct_of_numbers), sl_of_numbers⟩) (c_f_of_numbers : PySem.W.codeIn K cd_of_numbers "of_numbers" = true) (k_f_of_numbers : PySem.W.keepIn K (.ref f_of_numbers) = true)
    (a_f_of_nothing : PySem.W.nsIn K mainGlobals "of_nothing" = some (some (.ref f_of_nothing))) (l_f_of_nothing : K.lookup f_of_nothing = some ⟨oc_of_nothing, od_of_nothing, .func (PySem.W.fnOf "of_nothing" "of_nothing" (defArgs s_of_nothing) (defBody s_of_nothing) (defScope s_of_nothing) .none kV_of_nothing dc_of_nothing pm_of_nothing an_of_nothing cd_of_nothing ct_of_nothing), sl_of_nothing⟩) (c_f_of_nothing : PySem.W.codeIn K cd_of_nothing "of_nothing" = true) (k_f_of_nothing : PySem.W.keepIn K (.ref f_of_nothing) = true)
    (a_f_simple : PySem.W.nsIn K mainGlobals "simple" = some (some (.ref f_simple))) (l_f_simple : K.lookup f_simple = some ⟨oc_simple, od_simple, .func (PySem.W.fnOf "simple" "simple" (defArgs s_simple) (defBody s_simple) (defScope s_simple) .none kV_simple dc_simple pm_simple an_simple cd_simple ct_simple), sl_simple⟩) (c_f_simple : PySem.W.codeIn K cd_simple "simple" = true) (k_f_simple : PySem.W.keepIn K (.ref f_simple) = true)
    (a_f_is_simple : PySem.W.nsIn K mainGlobals "is_simple" = some (some (.ref f_is_simple))) (l_f_is_simple : K.lookup f_is_simple = some ⟨oc_is_simple, od_is_simple, .func (PySem.W.fnOf "is_simple" "is_simple" (defArgs s_is_simple) (defBody s_is_simple) (defScope s_is_simple) .none kV_is_simple dc_is_simple pm_is_simple an_is_simple cd_is_simple ct_is_simple), sl_is_simple⟩) (c_f_is_simple : PySem.W.codeIn K cd_is_simple "is_simple" = true) (k_f_is_simple : PySem.W.keepIn K (.ref f_is_simple) = true)
    (a_f_f_law_cell : PySem.W.nsIn K mainGlobals "_law_cell" = some (some (.ref f_f_law_cell))) (l_f_f_law_cell : K.lookup f_f_law_cell = some ⟨oc_f_law_cell, od_f_law_cell, .func (PySem.W.fnOf "_law_cell" "_law_cell" (defArgs s_f_law_cell) (defBody s_f_law_cell) (defScope s_f_law_cell) .none kV_f_law_cell dc_f_law_cell pm_f_law_cell an_f_law_cell cd_f_law_cell ct_f_law_cell), sl_f_law_cell⟩) (c_f_f_law_cell : PySem.W.codeIn K cd_f_law_cell "_law_cell" = true) (k_f_f_law_cell : PySem.W.keepIn K (.ref f_f_law_cell) = true)
    (a_f_f_law_mix : PySem.W.nsIn K mainGlobals "_law_mix" = some (some (.ref f_f_law_mix))) (l_f_f_law_mix : K.lookup f_f_law_mix = some ⟨oc_f_law_mix, od_f_law_mix, .func (PySem.W.fnOf "_law_mix" "_law_mix" (defArgs s_f_law_mix) (defBody s_f_law_mix) (defScope s_f_law_mix) .none kV_f_law_mix dc_f_law_mix pm_f_law_mix an_f_law_mix cd_f_law_mix ct_f_law_mix), sl_f_law_mix⟩) (c_f_f_law_mix : PySem.W.codeIn K cd_f_law_mix "_law_mix" = true) (k_f_f_law_mix : PySem.W.keepIn K (.ref f_f_law_mix) = true)
    (a_f_f_law_same : PySem.W.nsIn K mainGlobals "_law_same" = some (some (.ref f_f_law_same))) (l_f_f_law_same : K.lookup f_f_law_same = some ⟨oc_f_law_same, od_f_law_same, .func (PySem.W.fnOf "_law_same" "_law_same" (defArgs s_f_law_same) (defBody s_f_law_same) (defScope s_f_law_same) .none kV_f_law_same dc_f_law_same pm_f_law_same an_f_law_same cd_f_law_same ct_f_law_same), sl_f_law_same⟩) (c_f_f_law_same : PySem.W.codeIn K cd_f_law_same "_law_same" = true) (k_f_f_law_same : PySem.W.keepIn K (.ref f_f_law_same) = true)
    (a_f_f_law_dice : PySem.W.nsIn K mainGlobals "_law_dice" = some (some (.ref f_f_law_dice))) (l_f_f_law_dice : K.lookup f_f_law_dice = some ⟨oc_f_law_dice, od_f_law_dice, .func (PySem.W.fnOf "_law_dice" "_law_dice" (defArgs s_f_law_dice) (defBody s_f_law_dice) (defScope s_f_law_dice) .none kV_f_law_dice dc_f_law_dice pm_f_law_dice an_f_law_dice cd_f_law_dice ct_f_law_dice), sl_f_law_dice⟩) (c_f_f_law_dice : PySem.W.codeIn K cd_f_law_dice "_law_dice" = true) (k_f_f_law_dice : PySem.W.keepIn K (.ref f_f_law_dice) = true)
    (a_f_f_law_many : PySem.W.nsIn K mainGlobals "_law_many" = some (some (.ref f_f_law_many))) (l_f_f_law_many : K.lookup f_f_law_many = some ⟨oc_f_law_many, od_f_law_many, .func (PySem.W.fnOf "_law_many" "_law_many" (defArgs s_f_law_many) (defBody s_f_law_many) (defScope s_f_law_many) .none kV_f_law_many dc_f_law_many pm_f_law_many an_f_law_many cd_f_law_many ct_f_law_many), sl_f_law_many⟩) (c_f_f_law_many : PySem.W.codeIn K cd_f_law_many "_law_many" = true) (k_f_f_law_many : PySem.W.keepIn K (.ref f_f_law_many) = true)
    (a_f_f_law_saying : PySem.W.nsIn K mainGlobals "_law_saying" = some (some (.ref f_f_law_saying))) (l_f_f_law_saying : K.lookup f_f_law_saying = some ⟨oc_f_law_saying, od_f_law_saying, .func (PySem.W.fnOf "_law_saying" "_law_saying" (defArgs s_f_law_saying) (defBody s_f_law_saying) (defScope s_f_law_saying) .none kV_f_law_saying dc_f_law_saying pm_f_law_saying an_f_law_saying cd_f_law_saying ct_f_law_saying), sl_f_law_saying⟩) (c_f_f_law_saying : PySem.W.codeIn K cd_f_law_saying "_law_saying" = true) (k_f_f_law_saying : PySem.W.keepIn K (.ref f_f_law_saying) = true)
    (a_f_f_law_two : PySem.W.nsIn K mainGlobals "_law_two" = some (some (.ref f_f_law_two))) (l_f_f_law_two : K.lookup f_f_law_two = some ⟨oc_f_law_two, od_f_law_two, .func (PySem.W.fnOf "_law_two" "_law_two" (defArgs s_f_law_two) (defBody s_f_law_two) (defScope s_f_law_two) .none kV_f_law_two dc_f_law_two pm_f_law_two an_f_law_two cd_f_law_two ct_f_law_two), sl_f_law_two⟩) (c_f_f_law_two : PySem.W.codeIn K cd_f_law_two "_law_two" = true) (k_f_f_law_two : PySem.W.keepIn K (.ref f_f_law_two) = true)
    (a_f_f_law_simple : PySem.W.nsIn K mainGlobals "_law_simple" = some (some (.ref f_f_law_simple))) (l_f_f_law_simple : K.lookup f_f_law_simple = some ⟨oc_f_law_simple, od_f_law_simple, .func (PySem.W.fnOf "_law_simple" "_law_simple" (defArgs s_f_law_simple) (defBody s_f_law_simple) (defScope s_f_law_simple) .none kV_f_law_simple dc_f_law_simple pm_f_law_simple an_f_law_simple cd_f_law_simple ct_f_law_simple), sl_f_law_simple⟩) (c_f_f_law_simple : PySem.W.codeIn K cd_f_law_simple "_law_simple" = true) (k_f_f_law_simple : PySem.W.keepIn K (.ref f_f_law_simple) = true)
    (a_f_f_law_odd : PySem.W.nsIn K mainGlobals "_law_odd" = some (some (.ref f_f_law_odd))) (l_f_f_law_odd : K.lookup f_f_law_odd = some ⟨oc_f_law_odd, od_f_law_odd, .func (PySem.W.fnOf "_law_odd" "_law_odd" (defArgs s_f_law_odd) (defBody s_f_law_odd) (defScope s_f_law_odd) .none kV_f_law_odd dc_f_law_odd pm_f_law_odd an_f_law_odd cd_f_law_odd ct_f_law_odd), sl_f_law_odd⟩) (c_f_f_law_odd : PySem.W.codeIn K cd_f_law_odd "_law_odd" = true) (k_f_f_law_odd : PySem.W.keepIn K (.ref f_f_law_odd) = true)
    (a_f_law : PySem.W.nsIn K mainGlobals "law" = some (some (.ref f_law))) (l_f_law : K.lookup f_law = some ⟨oc_law, od_law, .func (PySem.W.fnOf "law" "law" (defArgs s_law) (defBody s_law) (defScope s_law) .none kV_law dc_law pm_law an_law cd_law ct_law), sl_law⟩) (c_f_law : PySem.W.codeIn K cd_law "law" = true) (k_f_law : PySem.W.keepIn K (.ref f_law) = true)
    (z_all : PySem.W.nsIn K mainGlobals "all" = some none)
    (z_bool : PySem.W.nsIn K mainGlobals "bool" = some none)
    (z_int : PySem.W.nsIn K mainGlobals "int" = some none)
    (z_isinstance : PySem.W.nsIn K mainGlobals "isinstance" = some none)
    (z_len : PySem.W.nsIn K mainGlobals "len" = some none)
    (z_max : PySem.W.nsIn K mainGlobals "max" = some none)
    (z_min : PySem.W.nsIn K mainGlobals "min" = some none)
    (z_range : PySem.W.nsIn K mainGlobals "range" = some none)
    (z_sorted : PySem.W.nsIn K mainGlobals "sorted" = some none)
    (z_str : PySem.W.nsIn K mainGlobals "str" = some none)
    (z_sum : PySem.W.nsIn K mainGlobals "sum" = some none)
    (z_tuple : PySem.W.nsIn K mainGlobals "tuple" = some none)
    (z_zip : PySem.W.nsIn K mainGlobals "zip" = some none)
    (g_TWO : PySem.W.nsIn K mainGlobals "TWO" = some (some (.ref a_TWO))) (l_TWO : K.lookup a_TWO = some ⟨.type "tuple", q_TWO, .seq #[(.str "plus" u0_TWO), (.str "less" u1_TWO), (.str "most" u2_TWO), (.str "least" u3_TWO), (.str "beats" u4_TWO)] n_TWO, w_TWO⟩)
    (g_NOTHING : PySem.W.nsIn K mainGlobals "NOTHING" = some (some (.ref a_NOTHING))) (l_NOTHING : K.lookup a_NOTHING = some ⟨.type "tuple", q_NOTHING, .seq #[(.str "number" u0_NOTHING), (.int 0 u1_NOTHING)] n_NOTHING, w_NOTHING⟩) :
    ∃ fd : FuncData, (∀ (s : Shared) (v : Value), BindsTo s fd ⟨[v], []⟩ [("script", v)]) ∧ ∀ base : Heap, K.In base → base.Ns mainGlobals mg → FnOk P w K mg base CX0 lv fa fd ["script"] (spM K 1 (callN lv .law)) := by
  have e := hfa.symm.trans (PySem.W.mg_of X G a_f_law)
  cases e
  have F_of_two := fun_mk (st := s_of_two) l_f_of_two c_f_of_two k_f_of_two
  have b_of_two := F_of_two.binds (ps := ps .of_two) fun _ _ _ _ _ _ us hl => match us, hl with | [_, _, _], _ => rfl
  have F_of_numbers := fun_mk (st := s_of_numbers) l_f_of_numbers c_f_of_numbers k_f_of_numbers
  have b_of_numbers := F_of_numbers.binds (ps := ps .of_numbers) fun _ _ _ _ _ _ us hl => match us, hl with | [_], _ => rfl
  have F_of_nothing := fun_mk (st := s_of_nothing) l_f_of_nothing c_f_of_nothing k_f_of_nothing
  have b_of_nothing := F_of_nothing.binds (ps := ps .of_nothing) fun _ _ _ _ _ _ us hl => match us, hl with | [_], _ => rfl
  have F_simple := fun_mk (st := s_simple) l_f_simple c_f_simple k_f_simple
  have b_simple := F_simple.binds (ps := ps .simple) fun _ _ _ _ _ _ us hl => match us, hl with | [_], _ => rfl
  have F_is_simple := fun_mk (st := s_is_simple) l_f_is_simple c_f_is_simple k_f_is_simple
  have b_is_simple := F_is_simple.binds (ps := ps .is_simple) fun _ _ _ _ _ _ us hl => match us, hl with | [_], _ => rfl
  have F_f_law_cell := fun_mk (st := s_f_law_cell) l_f_f_law_cell c_f_f_law_cell k_f_f_law_cell
  have b_f_law_cell := F_f_law_cell.binds (ps := ps .f_law_cell) fun _ _ _ _ _ _ us hl => match us, hl with | [_, _], _ => rfl
  have F_f_law_mix := fun_mk (st := s_f_law_mix) l_f_f_law_mix c_f_f_law_mix k_f_f_law_mix
  have b_f_law_mix := F_f_law_mix.binds (ps := ps .f_law_mix) fun _ _ _ _ _ _ us hl => match us, hl with | [_, _, _], _ => rfl
  have F_f_law_same := fun_mk (st := s_f_law_same) l_f_f_law_same c_f_f_law_same k_f_f_law_same
  have b_f_law_same := F_f_law_same.binds (ps := ps .f_law_same) fun _ _ _ _ _ _ us hl => match us, hl with | [_, _], _ => rfl
  have F_f_law_dice := fun_mk (st := s_f_law_dice) l_f_f_law_dice c_f_f_law_dice k_f_f_law_dice
  have b_f_law_dice := F_f_law_dice.binds (ps := ps .f_law_dice) fun _ _ _ _ _ _ us hl => match us, hl with | [_, _], _ => rfl
  have F_f_law_many := fun_mk (st := s_f_law_many) l_f_f_law_many c_f_f_law_many k_f_f_law_many
  have b_f_law_many := F_f_law_many.binds (ps := ps .f_law_many) fun _ _ _ _ _ _ us hl => match us, hl with | [_], _ => rfl
  have F_f_law_saying := fun_mk (st := s_f_law_saying) l_f_f_law_saying c_f_f_law_saying k_f_f_law_saying
  have b_f_law_saying := F_f_law_saying.binds (ps := ps .f_law_saying) fun _ _ _ _ _ _ us hl => match us, hl with | [_, _, _], _ => rfl
  have F_f_law_two := fun_mk (st := s_f_law_two) l_f_f_law_two c_f_f_law_two k_f_f_law_two
  have b_f_law_two := F_f_law_two.binds (ps := ps .f_law_two) fun _ _ _ _ _ _ us hl => match us, hl with | [_, _, _], _ => rfl
  have F_f_law_simple := fun_mk (st := s_f_law_simple) l_f_f_law_simple c_f_f_law_simple k_f_f_law_simple
  have b_f_law_simple := F_f_law_simple.binds (ps := ps .f_law_simple) fun _ _ _ _ _ _ us hl => match us, hl with | [_], _ => rfl
  have F_f_law_odd := fun_mk (st := s_f_law_odd) l_f_f_law_odd c_f_f_law_odd k_f_f_law_odd
  have b_f_law_odd := F_f_law_odd.binds (ps := ps .f_law_odd) fun _ _ _ _ _ _ us hl => match us, hl with | [_], _ => rfl
  have F_law := fun_mk (st := s_law) l_f_law c_f_law k_f_law
  have b_law := F_law.binds (ps := ps .law) fun _ _ _ _ _ _ us hl => match us, hl with | [_], _ => rfl
  let ad : Fn → Addr := fun f => match f with | .of_two => f_of_two | .of_numbers => f_of_numbers | .of_nothing => f_of_nothing | .simple => f_simple | .is_simple => f_is_simple | .f_law_cell => f_f_law_cell | .f_law_mix => f_f_law_mix | .f_law_same => f_f_law_same | .f_law_dice => f_f_law_dice | .f_law_many => f_f_law_many | .f_law_saying => f_f_law_saying | .f_law_two => f_f_law_two | .f_law_simple => f_f_law_simple | .f_law_odd => f_f_law_odd | .law => fa
  let fd : Fn → FuncData := fun f => match f with | .of_two => PySem.W.fnOf "of_two" "of_two" (defArgs s_of_two) (defBody s_of_two) (defScope s_of_two) .none kV_of_two dc_of_two pm_of_two an_of_two cd_of_two ct_of_two | .of_numbers => PySem.W.fnOf "of_numbers" "of_numbers" (defArgs s_of_numbers) (defBody s_of_numbers) (defScope s_of_numbers) .none kV_of_numbers dc_of_numbers pm_of_numbers an_of_numbers cd_of_numbers ct_of_numbers | .of_nothing => PySem.W.fnOf "of_nothing" "of_nothing" (defArgs s_of_nothing) (defBody s_of_nothing) (defScope s_of_nothing) .none kV_of_nothing dc_of_nothing pm_of_nothing an_of_nothing cd_of_nothing ct_of_nothing | .simple => PySem.W.fnOf "simple" "simple" (defArgs s_simple) (defBody s_simple) (defScope s_simple) .none kV_simple dc_simple pm_simple an_simple cd_simple ct_simple | .is_simple => PySem.W.fnOf "is_simple" "is_simple" (defArgs s_is_simple) (defBody s_is_simple) (defScope s_is_simple) .none kV_is_simple dc_is_simple pm_is_simple an_is_simple cd_is_simple ct_is_simple | .f_law_cell => PySem.W.fnOf "_law_cell" "_law_cell" (defArgs s_f_law_cell) (defBody s_f_law_cell) (defScope s_f_law_cell) .none kV_f_law_cell dc_f_law_cell pm_f_law_cell an_f_law_cell cd_f_law_cell ct_f_law_cell | .f_law_mix => PySem.W.fnOf "_law_mix" "_law_mix" (defArgs s_f_law_mix) (defBody s_f_law_mix) (defScope s_f_law_mix) .none kV_f_law_mix dc_f_law_mix pm_f_law_mix an_f_law_mix cd_f_law_mix ct_f_law_mix | .f_law_same => PySem.W.fnOf "_law_same" "_law_same" (defArgs s_f_law_same) (defBody s_f_law_same) (defScope s_f_law_same) .none kV_f_law_same dc_f_law_same pm_f_law_same an_f_law_same cd_f_law_same ct_f_law_same | .f_law_dice => PySem.W.fnOf "_law_dice" "_law_dice" (defArgs s_f_law_dice) (defBody s_f_law_dice) (defScope s_f_law_dice) .none kV_f_law_dice dc_f_law_dice pm_f_law_dice an_f_law_dice cd_f_law_dice ct_f_law_dice | .f_law_many => PySem.W.fnOf "_law_many" "_law_many" (defArgs s_f_law_many) (defBody s_f_law_many) (defScope s_f_law_many) .none kV_f_law_many dc_f_law_many pm_f_law_many an_f_law_many cd_f_law_many ct_f_law_many | .f_law_saying => PySem.W.fnOf "_law_saying" "_law_saying" (defArgs s_f_law_saying) (defBody s_f_law_saying) (defScope s_f_law_saying) .none kV_f_law_saying dc_f_law_saying pm_f_law_saying an_f_law_saying cd_f_law_saying ct_f_law_saying | .f_law_two => PySem.W.fnOf "_law_two" "_law_two" (defArgs s_f_law_two) (defBody s_f_law_two) (defScope s_f_law_two) .none kV_f_law_two dc_f_law_two pm_f_law_two an_f_law_two cd_f_law_two ct_f_law_two | .f_law_simple => PySem.W.fnOf "_law_simple" "_law_simple" (defArgs s_f_law_simple) (defBody s_f_law_simple) (defScope s_f_law_simple) .none kV_f_law_simple dc_f_law_simple pm_f_law_simple an_f_law_simple cd_f_law_simple ct_f_law_simple | .f_law_odd => PySem.W.fnOf "_law_odd" "_law_odd" (defArgs s_f_law_odd) (defBody s_f_law_odd) (defScope s_f_law_odd) .none kV_f_law_odd dc_f_law_odd pm_f_law_odd an_f_law_odd cd_f_law_odd ct_f_law_odd | .law => PySem.W.fnOf "law" "law" (defArgs s_law) (defBody s_law) (defScope s_law) .none kV_law dc_law pm_law an_law cd_law ct_law
  have T : Tx K mg ad fd a_TWO a_NOTHING := {
    f := fun f => by
      cases f
      · exact F_of_two
      · exact F_of_numbers
      · exact F_of_nothing
      · exact F_simple
      · exact F_is_simple
      · exact F_f_law_cell
      · exact F_f_law_mix
      · exact F_f_law_same
      · exact F_f_law_dice
      · exact F_f_law_many
      · exact F_f_law_saying
      · exact F_f_law_two
      · exact F_f_law_simple
      · exact F_f_law_odd
      · exact F_law
    m := fun f => by
      cases f
      · exact PySem.W.mg_of X G a_f_of_two
      · exact PySem.W.mg_of X G a_f_of_numbers
      · exact PySem.W.mg_of X G a_f_of_nothing
      · exact PySem.W.mg_of X G a_f_simple
      · exact PySem.W.mg_of X G a_f_is_simple
      · exact PySem.W.mg_of X G a_f_f_law_cell
      · exact PySem.W.mg_of X G a_f_f_law_mix
      · exact PySem.W.mg_of X G a_f_f_law_same
      · exact PySem.W.mg_of X G a_f_f_law_dice
      · exact PySem.W.mg_of X G a_f_f_law_many
      · exact PySem.W.mg_of X G a_f_f_law_saying
      · exact PySem.W.mg_of X G a_f_f_law_two
      · exact PySem.W.mg_of X G a_f_f_law_simple
      · exact PySem.W.mg_of X G a_f_f_law_odd
      · exact PySem.W.mg_of X G a_f_law
    k := fun f => by
      cases f
      · exact k_f_of_two
      · exact k_f_of_numbers
      · exact k_f_of_nothing
      · exact k_f_simple
      · exact k_f_is_simple
      · exact k_f_f_law_cell
      · exact k_f_f_law_mix
      · exact k_f_f_law_same
      · exact k_f_f_law_dice
      · exact k_f_f_law_many
      · exact k_f_f_law_saying
      · exact k_f_f_law_two
      · exact k_f_f_law_simple
      · exact k_f_f_law_odd
      · exact k_f_law
    b := fun f => by
      cases f
      · exact b_of_two
      · exact b_of_numbers
      · exact b_of_nothing
      · exact b_simple
      · exact b_is_simple
      · exact b_f_law_cell
      · exact b_f_law_mix
      · exact b_f_law_same
      · exact b_f_law_dice
      · exact b_f_law_many
      · exact b_f_law_saying
      · exact b_f_law_two
      · exact b_f_law_simple
      · exact b_f_law_odd
      · exact b_law
    b_all := PySem.W.mg_none_of X G z_all
    b_bool := PySem.W.mg_none_of X G z_bool
    b_int := PySem.W.mg_none_of X G z_int
    b_isinstance := PySem.W.mg_none_of X G z_isinstance
    b_len := PySem.W.mg_none_of X G z_len
    b_max := PySem.W.mg_none_of X G z_max
    b_min := PySem.W.mg_none_of X G z_min
    b_range := PySem.W.mg_none_of X G z_range
    b_sorted := PySem.W.mg_none_of X G z_sorted
    b_str := PySem.W.mg_none_of X G z_str
    b_sum := PySem.W.mg_none_of X G z_sum
    b_tuple := PySem.W.mg_none_of X G z_tuple
    b_zip := PySem.W.mg_none_of X G z_zip
    g_TWO := PySem.W.mg_of X G g_TWO
    r_TWO := fun H mu => .tup (vs := [.str "plus", .str "less", .str "most", .str "least", .str "beats"]) (.inr ⟨_, _, _, l_TWO, rfl, rfl, by show 5 ≤ sizeLine; decide, (.cons ⟨_, rfl⟩ (.cons ⟨_, rfl⟩ (.cons ⟨_, rfl⟩ (.cons ⟨_, rfl⟩ (.cons ⟨_, rfl⟩ .nil)))))⟩) (.cons (.str _) (.cons (.str _) (.cons (.str _) (.cons (.str _) (.cons (.str _) .nil)))))
    g_NOTHING := PySem.W.mg_of X G g_NOTHING
    r_NOTHING := fun H mu => .tup (vs := [.str "number", .int 0]) (.inr ⟨_, _, _, l_NOTHING, rfl, rfl, by show 2 ≤ sizeLine; decide, (.cons ⟨_, rfl⟩ (.cons ⟨_, rfl⟩ .nil))⟩) (.cons (.str _) (.cons (.int _) .nil))
  }
  exact ⟨_, fun s v => .of_eq rfl, fun base _ _ => all_ok T lv .law⟩
end L14

/-! Equations of the readings' combinators, for simp. -/
namespace Ml
open PySem L2
theorem ofString_inj {a b : String} : Str.ofString a = Str.ofString b ↔ a = b := by
  constructor
  · intro h
    rw [Str.ofString_eq_toList, Str.ofString_eq_toList] at h
    have h1 : (a.toList.map Char.toNat).toArray = (b.toList.map Char.toNat).toArray := by injection h
    have h2 : a.toList.map Char.toNat = b.toList.map Char.toNat := by simpa using congrArg Array.toList h1
    have h3 : a.toList = b.toList := by
      have inj : ∀ {x y : Char}, x.toNat = y.toNat → x = y := fun {x y} h => Char.ext (UInt32.toNat_inj.mp h)
      exact (List.map_inj_right (fun x y h => inj h)).mp h2
    exact String.toList_inj.mp h3
  · rintro rfl; rfl
@[simp] theorem ofString_eq_iff {a b : String} : (Str.ofString a = Str.ofString b) = (a = b) := propext ofString_inj
@[simp] theorem ofString_beq {a b : String} : (Str.ofString a == Str.ofString b) = (a == b) := by
  rw [Bool.eq_iff_iff]; simp
variable {ev : Ev} {st : Sto} {ma mb mc : Mo D} {mr : Mo (List D)} {ta tb : Mo Bool} {s1 s2 : Ms}
@[simp] theorem e_C (d : D) : mC d ev st = .ok d st := rfl
@[simp] theorem e_Var (i : Nat) : mVar i ev st = match ev[i]? with | some (some d) => .ok d st | _ => .bad := rfl
@[simp] theorem e_Nil : mNil ev st = .ok [] st := rfl
@[simp] theorem e_Cons : mCons ma mr ev st = (ma ev st).bind fun d st1 => (mr ev st1).bind fun ds st2 => .ok (d :: ds) st2 := rfl
@[simp] theorem e_Tup : mTup mr ev st = (mr ev st).bind fun ds st1 => if ds.length ≤ lim then .ok (.tup ds) st1 else .bad := rfl
@[simp] theorem e_Disp : mDisp mr ev st = (mr ev st).bind fun ds st1 => if ds.length ≤ lim then .ok ds st1 else .bad := rfl
@[simp] theorem e_Keep : mKeep mr ev st = (mr ev st).bind fun ds st1 => .ok (.ref st1.length) (st1 ++ [.lst ds]) := rfl
@[simp] theorem e_Op (g : G2) : mOp g ma mb ev st = (ma ev st).bind fun a st1 => (mb ev st1).bind fun b st2 => Rs.of (g a b st2) := rfl
@[simp] theorem e_Un (g : G1) : mUn g ma ev st = (ma ev st).bind fun a st1 => Rs.of (g a st1) := rfl
@[simp] theorem e_CB (g : GA) : mCB g mr ev st = (mr ev st).bind fun ds st1 => Rs.of (g ds st1) := rfl
@[simp] theorem e_of_some {α : Type} (d : α) (st : Sto) : Rs.of (some (d, st)) = .ok d st := rfl
@[simp] theorem e_of_none {α : Type} : Rs.of (none : Option (α × Sto)) = .bad := rfl
@[simp] theorem e_addI (i j : Int) : gAdd (.int i) (.int j) st = some (.int (i + j), st) := rfl
@[simp] theorem e_addS (x y : Str) : gAdd (.str x) (.str y) st = if x.length + y.length ≤ lim then some (.str (x ++ y), st) else none := by
  simp [gAdd, gI, gAddS, gCatT]; split <;> simp_all
@[simp] theorem e_addT (xs ys : List D) : gAdd (.tup xs) (.tup ys) st = if xs.length + ys.length ≤ lim then some (.tup (xs ++ ys), st) else none := by
  simp [gAdd, gI, gAddS, gCatT]
@[simp] theorem e_sub (i j : Int) : gSub (.int i) (.int j) st = some (.int (i - j), st) := rfl
@[simp] theorem e_mul (i j : Int) : gMul (.int i) (.int j) st = if (small64 i || small64 j) = true then some (.int (i * j), st) else none := rfl
@[simp] theorem e_mod (i j : Int) : gMod (.int i) (.int j) st = if 0 < j then some (.int (i % j), st) else none := by simp [gMod, gIc]
@[simp] theorem e_div (i j : Int) : gDiv (.int i) (.int j) st = if 0 < j ∧ j.natAbs < 2 ^ 200 then some (.int (i / j), st) else none := by simp [gDiv, gIc]
@[simp] theorem e_neg (i : Int) : gNeg (.int i) st = some (.int (-i), st) := rfl
@[simp] theorem e_lt (i j : Int) : gLt (.int i) (.int j) st = some (.bl (decide (i < j)), st) := rfl
@[simp] theorem e_le (i j : Int) : gLe (.int i) (.int j) st = some (.bl (decide (i ≤ j)), st) := rfl
@[simp] theorem e_gt (i j : Int) : gGt (.int i) (.int j) st = some (.bl (decide (j < i)), st) := rfl
@[simp] theorem e_ge (i j : Int) : gGe (.int i) (.int j) st = some (.bl (decide (j ≤ i)), st) := rfl
@[simp] theorem e_eqS (x y : Str) : gEq (.str x) (.str y) st = some (.bl (x == y), st) := rfl
@[simp] theorem e_eqI (x y : Int) : gEq (.int x) (.int y) st = some (.bl (x == y), st) := rfl
@[simp] theorem e_eqB (x y : Bool) : gEq (.bl x) (.bl y) st = some (.bl (x == y), st) := rfl
@[simp] theorem e_neS (x y : Str) : gNe (.str x) (.str y) st = some (.bl (!(x == y)), st) := rfl
@[simp] theorem e_neI (x y : Int) : gNe (.int x) (.int y) st = some (.bl (!(x == y)), st) := rfl
@[simp] theorem e_isN (d : D) : gIsN d .non st = some (.bl (match d with | .non => true | _ => false), st) := rfl
@[simp] theorem e_isB (x y : Bool) : gIsN (.bl x) (.bl y) st = some (.bl (decide (x = y)), st) := rfl
@[simp] theorem e_notN (d : D) : gNotN d .non st = some (.bl (match d with | .non => false | _ => true), st) := rfl
@[simp] theorem e_notB (x y : Bool) : gNotN (.bl x) (.bl y) st = some (.bl (!decide (x = y)), st) := rfl
@[simp] theorem e_in (a : D) (ds : List D) (neg : Bool) : gIn neg a (.tup ds) st = if flatD a && ds.all flatD then some (.bl (if neg then !inD a ds else inD a ds), st) else none := rfl
@[simp] theorem e_flatS (x : Str) : flatD (.str x) = true := rfl
@[simp] theorem e_flatI (x : Int) : flatD (.int x) = true := rfl
@[simp] theorem e_inNil (a : D) : inD a [] = false := rfl
@[simp] theorem e_inS (x y : Str) (ds : List D) : inD (.str x) (.str y :: ds) = ((y == x) || inD (.str x) ds) := by
  unfold inD eqD
  rw [List.any_cons]
  congr 1
@[simp] theorem e_Test (m : Mo D) : mTest m ev st = (m ev st).bind fun d st1 => match d with | .bl b => .ok b st1 | _ => .bad := rfl
@[simp] theorem e_Tru (m : Mo D) : mTru m ev st = (m ev st).bind fun d st1 => match truD st1 d with | some b => .ok b st1 | none => .bad := rfl
@[simp] theorem e_truB (b : Bool) : truD st (.bl b) = some b := rfl
@[simp] theorem e_truI (b : Int) : truD st (.int b) = some (b != 0) := rfl
@[simp] theorem e_TAnd : mTAnd ta tb ev st = (ta ev st).bind fun b st1 => if b = true then tb ev st1 else .ok false st1 := rfl
@[simp] theorem e_TOr : mTOr ta tb ev st = (ta ev st).bind fun b st1 => if b = true then .ok true st1 else tb ev st1 := rfl
@[simp] theorem e_TNot : mTNot ta ev st = (ta ev st).bind fun b st1 => .ok (!b) st1 := rfl
@[simp] theorem e_And : mAnd ma mb ev st = (ma ev st).bind fun d st1 => match d with | .bl true => mb ev st1 | .bl false => .ok (.bl false) st1 | _ => .bad := rfl
@[simp] theorem e_Or : mOr ma mb ev st = (ma ev st).bind fun d st1 => match d with | .bl true => .ok (.bl true) st1 | .bl false => mb ev st1 | _ => .bad := rfl
@[simp] theorem e_Not : mNot ma ev st = (ma ev st).bind fun d st1 => match truD st1 d with | some b => .ok (.bl (!b)) st1 | none => .bad := rfl
@[simp] theorem e_If : mIf ta ma mb ev st = (ta ev st).bind fun b st1 => if b = true then ma ev st1 else mb ev st1 := rfl
@[simp] theorem e_Chain (g g' : G2) : mChain g g' ma mb mc ev st = (ma ev st).bind fun x st1 => (mb ev st1).bind fun y st2 => (Rs.of (g x y st2)).bind fun z st3 => match z with | .bl true => (mc ev st3).bind fun w st4 => Rs.of (g' y w st4) | .bl false => .ok (.bl false) st3 | _ => .bad := rfl
@[simp] theorem e_ixT (ds : List D) (i : Int) : gIx (.tup ds) (.int i) st = match L2.atI ds i with | some d => some (d, st) | none => none := rfl
@[simp] theorem e_ixR (ds : List D) (i : Int) : gIx (.ro ds) (.int i) st = match L2.atI ds i with | some d => some (d, st) | none => none := rfl
theorem e_ixL {i : Nat} {ds : List D} {k : Int} (h : st[i]? = some (.lst ds)) : gIx (.ref i) (.int k) st = match L2.atI ds k with | some d => some (d, st) | none => none := by
  simp only [gIx, seqOf, h]
  all_goals rfl
@[simp] theorem at_0 {α : Type} (x : α) (xs : List α) : L2.atI (x :: xs) 0 = some x := by simp [L2.atI, ixN]
@[simp] theorem at_1 {α : Type} (x y : α) (xs : List α) : L2.atI (x :: y :: xs) 1 = some y := by
  have h : (1 : Int) < ((x :: y :: xs).length : Nat) := by simp; omega
  simp only [L2.atI, ixN]
  rw [if_pos (by decide), if_pos h]; rfl
@[simp] theorem at_2 {α : Type} (x y z : α) (xs : List α) : L2.atI (x :: y :: z :: xs) 2 = some z := by
  have h : (2 : Int) < ((x :: y :: z :: xs).length : Nat) := by simp; omega
  simp only [L2.atI, ixN]
  rw [if_pos (by decide), if_pos h]; rfl
@[simp] theorem at_3 {α : Type} (x y z w : α) (xs : List α) : L2.atI (x :: y :: z :: w :: xs) 3 = some w := by
  have h : (3 : Int) < ((x :: y :: z :: w :: xs).length : Nat) := by simp; omega
  simp only [L2.atI, ixN]
  rw [if_pos (by decide), if_pos h]; rfl
@[simp] theorem e_NoPart : mNoPart ev st = .ok none st := rfl
@[simp] theorem e_Part : mPart ma ev st = (ma ev st).bind fun d st1 => match d with | .int i => .ok (some i) st1 | _ => .bad := rfl
@[simp] theorem e_slT (ds : List D) (lo hi : Option Int) : gSl (.tup ds) lo hi = some (.tup (cutD ds lo hi)) := rfl
@[simp] theorem e_Sl (ml mh : MoO) : mSl ma ml mh ev st = (ma ev st).bind fun d st1 => (ml ev st1).bind fun lo st2 => (mh ev st2).bind fun hi st3 => match gSl d lo hi with | some d' => .ok d' st3 | none => .bad := rfl
@[simp] theorem e_lenT (ds : List D) : gLen [.tup ds] st = some (.int ds.length, st) := rfl
@[simp] theorem e_lenR (ds : List D) : gLen [.ro ds] st = some (.int ds.length, st) := rfl
@[simp] theorem e_intI (i : Int) : gInt [.int i] st = some (.int i, st) := rfl
@[simp] theorem e_intB (b : Bool) : gInt [.bl b] st = some (.int (if b then 1 else 0), st) := rfl
@[simp] theorem e_abs (i : Int) : gAbs [.int i] st = some (.int (if i < 0 then -i else i), st) := rfl
@[simp] theorem e_max (i j : Int) : gMax [.int i, .int j] st = some (.int (if j > i then j else i), st) := rfl
@[simp] theorem e_min (i j : Int) : gMin [.int i, .int j] st = some (.int (if j < i then j else i), st) := rfl
@[simp] theorem e_str (i : Int) : gStr [.int i] st = if i.natAbs < 1000000 then some (.str (toString i), st) else none := rfl
@[simp] theorem e_Isi (c : String) : mIsi c ma ev st = (ma ev st).bind fun d st1 => match tyD st1 d with | some t => .ok (.bl (isiB t c)) st1 | none => .bad := rfl
@[simp] theorem e_Isi2 (c c' : String) : mIsi2 c c' ma ev st = (ma ev st).bind fun d st1 => match tyD st1 d with | some t => .ok (.bl (isiB t c || isiB t c')) st1 | none => .bad := rfl
@[simp] theorem ty_non : tyD st .non = some "NoneType" := rfl
@[simp] theorem ty_bl (b : Bool) : tyD st (.bl b) = some "bool" := rfl
@[simp] theorem ty_int (i : Int) : tyD st (.int i) = some "int" := rfl
@[simp] theorem ty_str (x : Str) : tyD st (.str x) = some "str" := rfl
@[simp] theorem ty_tup (ds : List D) : tyD st (.tup ds) = some "tuple" := rfl
@[simp] theorem isi_eq (a : String) : isiB a a = true := by simp [isiB]
@[simp] theorem isi_1 : isiB "tuple" "bool" = false := by decide
@[simp] theorem isi_2 : isiB "int" "tuple" = false := by decide
@[simp] theorem isi_3 : isiB "int" "bool" = false := by decide
@[simp] theorem isi_4 : isiB "int" "str" = false := by decide
@[simp] theorem isi_5 : isiB "str" "tuple" = false := by decide
@[simp] theorem isi_6 : isiB "str" "bool" = false := by decide
@[simp] theorem isi_7 : isiB "str" "int" = false := by decide
@[simp] theorem isi_8 : isiB "bool" "int" = true := by decide
@[simp] theorem isi_9 : isiB "bool" "tuple" = false := by decide
@[simp] theorem isi_10 : isiB "NoneType" "tuple" = false := by decide
@[simp] theorem isi_11 : isiB "NoneType" "int" = false := by decide
@[simp] theorem isi_12 : isiB "tuple" "int" = false := by decide
@[simp] theorem isi_13 : isiB "tuple" "str" = false := by decide
@[simp] theorem isi_14 : isiB "bool" "str" = false := by decide
@[simp] theorem isi_15 : isiB "NoneType" "bool" = false := by decide
@[simp] theorem isi_16 : isiB "NoneType" "str" = false := by decide
@[simp] theorem e_Q {α : Type} (g : List D → Option α) : mQ g mr ev st = (mr ev st).bind fun ds st1 => match g ds with | some d => .ok d st1 | none => .bad := rfl
@[simp] theorem e_sumN : gSum [] = some (.int 0) := rfl
@[simp] theorem e_tupOf (ds : List D) : gTupOf ds = some (.tup ds) := rfl
@[simp] theorem e_sorted (ns : List Int) : gSorted (ns.map D.int) = some ((sortI ns).map D.int) := by
  have h : ∀ ns : List Int, intsOf (ns.map D.int) = some ns := fun ns => by
    induction ns with
    | nil => rfl
    | cons n ns ih => simp [intsOf, ih]
  simp [gSorted, h]
theorem intsOf_map (ns : List Int) : intsOf (ns.map D.int) = some ns := by
  induction ns with
  | nil => rfl
  | cons n ns ih => simp [intsOf, ih]
theorem blsOf_map (ns : List Bool) : blsOf (ns.map D.bl) = some ns := by
  induction ns with
  | nil => rfl
  | cons n ns ih => simp [blsOf, ih]
@[simp] theorem e_sum (ns : List Int) : gSum (ns.map D.int) = some (.int ns.sum) := by simp [gSum, intsOf_map]
@[simp] theorem e_sum1 (a : Int) : gSum [.int a] = some (.int a) := by simp [gSum, intsOf]
@[simp] theorem e_sum2 (a b : Int) : gSum [.int a, .int b] = some (.int (a + b)) := by simp [gSum, intsOf]
@[simp] theorem e_sort2 (a b : Int) : gSorted [.int a, .int b] = some (if a ≤ b then [.int a, .int b] else [.int b, .int a]) := by
  simp only [gSorted, intsOf, Option.map_some, sortI, insI]
  split <;> rfl
@[simp] theorem e_all (ns : List Bool) : gAll (ns.map D.bl) = some (.bl (ns.all id)) := by simp [gAll, blsOf_map]
@[simp] theorem e_Skip : mSkip ev st = .ok (.nx, ev) st := rfl
@[simp] theorem e_Seq : mSeq s1 s2 ev st = match s1 ev st with | .ok (.nx, ev1) st1 => s2 ev1 st1 | r => r := rfl
@[simp] theorem e_Ret : mRet ma ev st = (ma ev st).bind fun d st1 => .ok (.rt d, ev) st1 := rfl
@[simp] theorem e_Set (i : Nat) : mSet i ma ev st = (ma ev st).bind fun d st1 => .ok (.nx, ev.set i (some d)) st1 := rfl
@[simp] theorem e_IfS : mIfS ta s1 s2 ev st = (ta ev st).bind fun b st1 => if b = true then s1 ev st1 else s2 ev st1 := rfl
@[simp] theorem e_Drop : mDrop ma ev st = (ma ev st).bind fun _ st1 => .ok (.nx, ev) st1 := rfl
@[simp] theorem e_gtName (i : Nat) (d : D) : gtName i d ev = some (ev.set i (some d)) := rfl
@[simp] theorem e_gtsNil : gtsNil [] ev = some ev := rfl
@[simp] theorem e_gtsCons (g : Gt) (gs : Gts) (d : D) (ds : List D) : gtsCons g gs (d :: ds) ev = (g d ev).bind (gs ds) := rfl
@[simp] theorem e_gtTup (n : Nat) (gs : Gts) (ds : List D) : gtTup n gs (.tup ds) ev = if ds.length = n then gs ds ev else none := rfl
@[simp] theorem e_Asg (g : Gt) : mAsg ma g ev st = (ma ev st).bind fun d st1 => match g d ev with | some ev' => .ok (.nx, ev') st1 | none => .bad := rfl
@[simp] theorem e_Par (i j : Nat) : mPar i j mr ev st = (mr ev st).bind fun ds st1 => match ds with | [x, y] => .ok (.nx, (ev.set i (some x)).set j (some y)) st1 | _ => .bad := rfl
@[simp] theorem e_For (mi : Mo (List D)) (g : Gt) (b : Ms) : mFor mi g b ev st = (mi ev st).bind fun it st1 => loop g b it ev st1 := rfl
@[simp] theorem e_ItT : mItT ma ev st = (ma ev st).bind fun d st1 => match d with | .tup ds => if ds.length ≤ lim then .ok ds st1 else .bad | _ => .bad := rfl
@[simp] theorem e_ItR : mItR mr ev st = (mr ev st).bind fun ds st1 => match ds with | [.int j] => if j.toNat ≤ lim ∧ -1000000000 ≤ j then .ok (rngD 0 j.toNat) st1 else .bad | _ => .bad := rfl
@[simp] theorem e_ItR2 : mItR2 mr ev st = (mr ev st).bind fun ds st1 => match ds with | [.int i, .int j] => if (j - i).toNat ≤ lim ∧ -1000000000 ≤ i ∧ i ≤ 1000000000 ∧ -1000000000 ≤ j ∧ j ≤ 1000000000 then .ok (rngD i (j - i).toNat) st1 else .bad | _ => .bad := rfl
@[simp] theorem e_Lc (vs : List Nat) (mi : Mo (List D)) (g : Gt) (t : Mo Bool) (m : Mo D) : mLc vs mi g t m ev st = (mi ev st).bind fun it st1 => lcLoop g t m it (wipeD ev vs) st1 := rfl
@[simp] theorem e_lcN (g : Gt) (t : Mo Bool) (m : Mo D) : lcLoop g t m [] ev st = .ok [] st := rfl
@[simp] theorem e_lcC (g : Gt) (t : Mo Bool) (m : Mo D) (d : D) (ds : List D) : lcLoop g t m (d :: ds) ev st = match g d ev with
    | none => .bad
    | some ev1 => match t ev1 st with
      | .ok true st1 => (match m ev1 st1 with
        | .ok y st2 => (match lcLoop g t m ds ev st2 with
          | .ok ys st3 => .ok (y :: ys) st3
          | _ => .bad)
        | _ => .bad)
      | .ok false st1 => lcLoop g t m ds ev st1
      | _ => .bad := rfl
@[simp] theorem e_wN : wipeD ev [] = ev := rfl
@[simp] theorem e_wC (v : Nat) (vs : List Nat) : wipeD ev (v :: vs) = (wipeD ev vs).set v none := rfl
@[simp] theorem e_Yes : mYes ev st = .ok true st := rfl
@[simp] theorem e_Zip : mZip mr ev st = (mr ev st).bind fun ds st1 => match ds with | [.tup xs, .tup ys] => if (zipD xs ys).length ≤ lim then .ok (zipD xs ys) st1 else .bad | _ => .bad := rfl
@[simp] theorem e_Call (c : Fm) : mCall c mr ev st = (mr ev st).bind fun ds st1 => match c ds st1 with | .ok d st2 => .ok d st2 | _ => .bad := rfl
@[simp] theorem e_GetN (md : Mo (List (Key × D))) (mk mx : Mo D) : mGetN md mk mx ev st = (md ev st).bind fun kvs st1 => (mk ev st1).bind fun k st2 => (mx ev st2).bind fun x st3 => match keyOf k with | some kk => .ok ((valD kvs kk).getD x) st3 | none => .bad := rfl
@[simp] theorem e_DictD (ps : List (Mo D × Mo D)) : mDictD ps ev st = (mPairs ps ev st).bind fun kvs st1 => if kvs.length ≤ 15 then .ok (mergeD [] kvs) st1 else .bad := rfl
@[simp] theorem e_PairsN : mPairs [] ev st = .ok [] st := rfl
@[simp] theorem e_PairsC (mk mv : Mo D) (r : List (Mo D × Mo D)) : mPairs ((mk, mv) :: r) ev st = (mk ev st).bind fun k st1 => (mv ev st1).bind fun v st2 => match keyOf k with | some kk => (mPairs r ev st2).bind fun ps st3 => .ok ((kk, v) :: ps) st3 | none => .bad := rfl
@[simp] theorem e_keyI (i : Int) : keyOf (.int i) = some (.inl i) := rfl
@[simp] theorem e_keyS (x : Str) : keyOf (.str x) = some (.inr x) := rfl
theorem lim_10 {n : Nat} (h : n ≤ 1000) : n ≤ lim := Nat.le_trans h (by decide)
@[simp] theorem lim0 : 0 ≤ lim := Nat.zero_le _
@[simp] theorem lim1 : 1 ≤ lim := by decide
@[simp] theorem lim2 : 2 ≤ lim := by decide
@[simp] theorem lim3 : 3 ≤ lim := by decide
@[simp] theorem lim4 : 4 ≤ lim := by decide
@[simp] theorem lim5 : 5 ≤ lim := by decide
@[simp] theorem lim6 : 6 ≤ lim := by decide
theorem small_of {i : Int} (h : -1000000 ≤ i) (h' : i ≤ 1000000) : small64 i = true := decide_eq_true (by omega)
/-! ### loops -/
theorem loop_inv {g : Gt} {body : Ms} {I : Ev → Prop} : ∀ {ds : List D}, (∀ d ∈ ds, ∀ ev st, I ev → ∃ ev1 ev2 st2, g d ev = some ev1 ∧ body ev1 st = .ok (.nx, ev2) st2 ∧ I ev2) → ∀ ev st, I ev → ∃ ev' st', loop g body ds ev st = .ok (.nx, ev') st' ∧ I ev'
  | [], _, ev, st, h => ⟨ev, st, rfl, h⟩
  | d :: ds, hs, ev, st, h => by
    obtain ⟨ev1, ev2, st2, h1, h2, h3⟩ := hs d List.mem_cons_self ev st h
    obtain ⟨ev', st', h4, h5⟩ := loop_inv (fun d hd => hs d (List.mem_cons_of_mem _ hd)) ev2 st2 h3
    refine ⟨ev', st', ?_, h5⟩
    simp only [loop, h1, h2, h4]
end Ml

namespace Ml
open PySem L2
/-! ### cells and draws -/
def mixv (c p m : Int) : Int := c * 48271 % p * (c * 48271 % p + 7) % p % m
theorem mixv_pos {c p m : Int} (h : 0 < m) : 0 ≤ mixv c p m := Int.emod_nonneg _ (by omega)
theorem mixv_lt {c p m : Int} (h : 0 < m) : mixv c p m < m := Int.emod_lt_of_pos _ h
theorem mix_ok {c p m : Int} {st : Sto} (h1 : 0 < p) (h2 : p < 10000) (h3 : 0 < m) : fnM 3 4 m_f_law_mix [.int c, .int p, .int m] st = .ok (.int (mixv c p m)) st := by
  have h4 : 0 ≤ c * 48271 % p := Int.emod_nonneg _ (by omega)
  have h5 : c * 48271 % p < p := Int.emod_lt_of_pos _ h1
  have h6 : small64 48271 = true := by decide
  have h7 : small64 (c * 48271 % p) = true := small_of (by omega) (by omega)
  simp [fnM, m_f_law_mix, h6, h7, h1, h3, mixv]
theorem cell_ok {ns : List Int} {k : Int} {st : Sto} (h1 : 0 ≤ k) : ∃ c : Int, fnM 2 2 m_f_law_cell [.ro (ns.map D.int), .int k] st = .ok (.int c) st := by
  by_cases h : k < (ns.length : Int)
  · have hk : k.toNat < ns.length := by omega
    have e := atI_nat (xs := ns.map D.int) (j := k.toNat) (v := .int ns[k.toNat]) (by simp only [List.getElem?_map, List.getElem?_eq_getElem hk, Option.map_some])
    rw [Int.toNat_of_nonneg h1] at e
    refine ⟨ns[k.toNat], ?_⟩
    simp [fnM, m_f_law_cell, h, e]
  · refine ⟨0, ?_⟩
    simp [fnM, m_f_law_cell, h]
/-! ### sayings -/
inductive W2 where
  | plus | less | most | least | beats
inductive WL where
  | high | low | again | burst | count
def W2.s : W2 → String
  | .plus => "plus" | .less => "less" | .most => "most" | .least => "least" | .beats => "beats"
def WL.s : WL → String
  | .high => "high" | .low => "low" | .again => "again" | .burst => "burst" | .count => "count"
inductive Say where
  | num (n : Int) | die (m s : Int) | dl (w : WL) (m s l : Int) | two (w : W2) (a b : Say) | times (n : Int) (a : Say)
def enc : Say → D
  | .num n => .tup [.str "number", .int n]
  | .die m s => .tup [.str "dice", .int m, .int s]
  | .dl w m s l => .tup [.str (Str.ofString w.s), .int m, .int s, .int l]
  | .two w a b => .tup [.str (Str.ofString w.s), enc a, enc b]
  | .times n a => .tup [.str "times", .int n, enc a]
def lastOk : WL → Int → Int → Int → Prop
  | .high, m, _, l => 1 ≤ l ∧ l ≤ m
  | .low, m, _, l => 1 ≤ l ∧ l ≤ m
  | .again, _, s, l => 1 ≤ l ∧ l ≤ s - 1
  | .burst, _, _, l => 1 ≤ l ∧ l ≤ 2
  | .count, _, s, l => 2 ≤ l ∧ l ≤ s
def Wf : Say → Prop
  | .num n => 0 ≤ n ∧ n ≤ 9
  | .die m s => 1 ≤ m ∧ m ≤ 3 ∧ 2 ≤ s ∧ s ≤ 6
  | .dl w m s l => 1 ≤ m ∧ m ≤ 3 ∧ 2 ≤ s ∧ s ≤ 6 ∧ lastOk w m s l
  | .two _ a b => Wf a ∧ Wf b
  | .times n a => 0 ≤ n ∧ n ≤ 3 ∧ Wf a
def dep : Say → Nat
  | .two _ a b => max (dep a) (dep b) + 1
  | .times _ a => dep a + 1
  | _ => 1
def dice : Say → Int
  | .num _ => 0
  | .die m _ => m
  | .dl _ m _ _ => m
  | .two _ a b => dice a + dice b
  | .times _ a => dice a
theorem dep_pos : ∀ s, 1 ≤ dep s
  | .num _ => Nat.le_refl _
  | .die _ _ => Nat.le_refl _
  | .dl _ _ _ _ => Nat.le_refl _
  | .two _ _ _ => Nat.le_add_left _ _
  | .times _ _ => Nat.le_add_left _ _
theorem dice_pos : ∀ s, Wf s → 0 ≤ dice s
  | .num _, _ => Int.le_refl _
  | .die _ _, h => by have := h.1; simp only [dice]; omega
  | .dl _ _ _ _, h => by have := h.1; simp only [dice]; omega
  | .two _ a b, h => by have := dice_pos a h.1; have := dice_pos b h.2; simp only [dice]; omega
  | .times _ a, h => by have := dice_pos a h.2.2; simpa only [dice] using this
@[simp] theorem enc_num (n : Int) : enc (.num n) = .tup [.str "number", .int n] := rfl
@[simp] theorem enc_die (m s : Int) : enc (.die m s) = .tup [.str "dice", .int m, .int s] := rfl
/-- a saying is a tuple that begins with its word -/
def hd : Say → String
  | .num _ => "number"
  | .die _ _ => "dice"
  | .dl w _ _ _ => w.s
  | .two w _ _ => w.s
  | .times _ _ => "times"
def tl : Say → List D
  | .num n => [.int n]
  | .die m s => [.int m, .int s]
  | .dl _ m s l => [.int m, .int s, .int l]
  | .two _ a b => [enc a, enc b]
  | .times n a => [.int n, enc a]
theorem enc_eq : ∀ s, enc s = .tup (.str (Str.ofString (hd s)) :: tl s)
  | .num _ => rfl
  | .die _ _ => rfl
  | .dl _ _ _ _ => rfl
  | .two _ _ _ => rfl
  | .times _ _ => rfl
@[simp] theorem ty_enc (s : Say) (st : Sto) : tyD st (enc s) = some "tuple" := by rw [enc_eq]; rfl
@[simp] theorem ix0_enc (s : Say) (st : Sto) : gIx (enc s) (.int 0) st = some (.str (Str.ofString (hd s)), st) := by rw [enc_eq]; simp
@[simp] theorem at_m1_2 {α : Type} (x y : α) : L2.atI [x, y] (-1) = some y := rfl
@[simp] theorem at_m1_3 {α : Type} (x y z : α) : L2.atI [x, y, z] (-1) = some z := rfl
@[simp] theorem at_m1_4 {α : Type} (x y z w : α) : L2.atI [x, y, z, w] (-1) = some w := rfl
@[simp] theorem cut_1_2 {α : Type} (x y : α) : cutD [x, y] (some 1) none = [y] := rfl
@[simp] theorem cut_1_3 {α : Type} (x y z : α) : cutD [x, y, z] (some 1) none = [y, z] := rfl
@[simp] theorem cut_1_4 {α : Type} (x y z w : α) : cutD [x, y, z, w] (some 1) none = [y, z, w] := rfl
@[simp] theorem at_4 {α : Type} (x y z w u : α) (xs : List α) : L2.atI (x :: y :: z :: w :: u :: xs) 4 = some u := by
  have h : (4 : Int) < ((x :: y :: z :: w :: u :: xs).length : Nat) := by simp; omega
  simp only [L2.atI, ixN]
  rw [if_pos (by decide), if_pos h]; rfl
@[simp] theorem at_5 {α : Type} (x y z w u v : α) (xs : List α) : L2.atI (x :: y :: z :: w :: u :: v :: xs) 5 = some v := by
  have h : (5 : Int) < ((x :: y :: z :: w :: u :: v :: xs).length : Nat) := by simp; omega
  simp only [L2.atI, ixN]
  rw [if_pos (by decide), if_pos h]; rfl
/-! _law_many -/
theorem many_step {c : Fm} {s : Say} {st : Sto} (ih : ∀ a, dep a < dep s → c [enc a] st = .ok (.int (dice a)) st) : fnM 1 2 (m_f_law_many c) [enc s] st = .ok (.int (dice s)) st := by
  cases s with
  | num n => simp [fnM, m_f_law_many, dice]
  | die m s => simp [fnM, m_f_law_many, dice]
  | dl w m s l => cases w <;> simp [fnM, m_f_law_many, dice, enc, WL.s]
  | two w a b =>
    have ha := ih a (by simp only [dep]; omega)
    have hb := ih b (by simp only [dep]; omega)
    cases w <;> simp [fnM, m_f_law_many, dice, enc, W2.s, ha, hb]
  | times n a =>
    have ha := ih a (by simp only [dep]; omega)
    simp [fnM, m_f_law_many, dice, enc, ha]
/-! _law_dice -/
theorem dice_ok {c_mix : Fm} {cell most : Int} {st : Sto} (hm : ∀ c p m st, 0 < p → p < 10000 → 0 < m → c_mix [.int c, .int p, .int m] st = .ok (.int (mixv c p m)) st) (h1 : 1 ≤ most) :
    ∃ s, Wf s ∧ dep s = 1 ∧ dice s ≤ most ∧ 1 ≤ dice s ∧ fnM 2 7 (m_f_law_dice c_mix) [.int cell, .int most] st = .ok (enc s) st := by
  have a0 := mixv_pos (c := cell) (p := 9973) (m := 6) (by decide)
  have a1 := mixv_lt (c := cell) (p := 9973) (m := 6) (by decide)
  have e1 : (if most < 3 then most else 3) = min 3 most := by split <;> omega
  generalize hmm : min 3 most = mm at *
  have hmm0 : 0 < mm := by omega
  have b0 := mixv_pos (c := cell) (p := 9967) (m := mm) hmm0
  have b1 := mixv_lt (c := cell) (p := 9967) (m := mm) hmm0
  have c0 := mixv_pos (c := cell) (p := 9949) (m := 5) (by decide)
  have c1 := mixv_lt (c := cell) (p := 9949) (m := 5) (by decide)
  have h9973 := fun st => hm cell 9973 6 st (by decide) (by decide) (by decide)
  have h9967 := fun st => hm cell 9967 mm st (by decide) (by decide) hmm0
  have h9949 := fun st => hm cell 9949 5 st (by decide) (by decide) (by decide)
  generalize mixv cell 9973 6 = i at *
  generalize mixv cell 9967 mm = m at *
  generalize mixv cell 9949 5 = s at *
  have h9941 : ∀ z st, 0 < z → c_mix [.int cell, .int 9941, .int z] st = .ok (.int (mixv cell 9941 z)) st := fun z st hz => hm cell 9941 z st (by decide) (by decide) hz
  have d0 : ∀ z, 0 < z → 0 ≤ mixv cell 9941 z ∧ mixv cell 9941 z < z := fun z hz => ⟨mixv_pos hz, mixv_lt hz⟩
  have hi : i = 0 ∨ i = 1 ∨ i = 2 ∨ i = 3 ∨ i = 4 ∨ i = 5 := by omega
  rcases hi with rfl | rfl | rfl | rfl | rfl | rfl
  · refine ⟨.die (1 + m) (2 + s), ⟨by omega, by omega, by omega, by omega⟩, rfl, by simp only [dice]; omega, by simp only [dice]; omega, ?_⟩
    simp [fnM, m_f_law_dice, h9973, h9967, h9949, e1]
  · have dz := d0 (1 + m) (by omega)
    refine ⟨.dl .high (1 + m) (2 + s) (1 + mixv cell 9941 (1 + m)), ⟨by omega, by omega, by omega, by omega, by omega, by omega⟩, rfl, by simp only [dice]; omega, by simp only [dice]; omega, ?_⟩
    simp [fnM, m_f_law_dice, h9973, h9967, h9949, e1, enc, WL.s, mergeD, putD, valD]
    rw [h9941 _ _ (by omega)]
    simp
  · have dz := d0 (1 + m) (by omega)
    refine ⟨.dl .low (1 + m) (2 + s) (1 + mixv cell 9941 (1 + m)), ⟨by omega, by omega, by omega, by omega, by omega, by omega⟩, rfl, by simp only [dice]; omega, by simp only [dice]; omega, ?_⟩
    simp [fnM, m_f_law_dice, h9973, h9967, h9949, e1, enc, WL.s, mergeD, putD, valD]
    rw [h9941 _ _ (by omega)]
    simp
  · have dz := d0 (2 + s - 1) (by omega)
    refine ⟨.dl .again (1 + m) (2 + s) (1 + mixv cell 9941 (2 + s - 1)), ⟨by omega, by omega, by omega, by omega, by omega, by omega⟩, rfl, by simp only [dice]; omega, by simp only [dice]; omega, ?_⟩
    simp [fnM, m_f_law_dice, h9973, h9967, h9949, e1, enc, WL.s, mergeD, putD, valD]
    rw [h9941 _ _ (by omega)]
    simp
  · have dz := d0 2 (by omega)
    refine ⟨.dl .burst (1 + m) (2 + s) (1 + mixv cell 9941 2), ⟨by omega, by omega, by omega, by omega, by omega, by omega⟩, rfl, by simp only [dice]; omega, by simp only [dice]; omega, ?_⟩
    simp [fnM, m_f_law_dice, h9973, h9967, h9949, e1, enc, WL.s, mergeD, putD, valD]
    rw [h9941 _ _ (by omega)]
    simp
  · have dz := d0 (2 + s - 2 + 1) (by omega)
    refine ⟨.dl .count (1 + m) (2 + s) (2 + mixv cell 9941 (2 + s - 2 + 1)), ⟨by omega, by omega, by omega, by omega, by omega, by omega⟩, rfl, by simp only [dice]; omega, by simp only [dice]; omega, ?_⟩
    simp [fnM, m_f_law_dice, h9973, h9967, h9949, e1, enc, WL.s, mergeD, putD, valD]
    rw [h9941 _ _ (by omega)]
    simp
end Ml

namespace Ml
open PySem L2
/-! _law_saying -/
theorem say_step {c_dice c_many c_mix c_say : Fm} {cell most : Int} {deep : Nat} {st : Sto} (hd : 1 ≤ deep) (hd3 : deep ≤ 3) (hm0 : 0 ≤ most)
    (hm : ∀ c p m st, 0 < p → p < 10000 → 0 < m → c_mix [.int c, .int p, .int m] st = .ok (.int (mixv c p m)) st)
    (hdi : ∀ cell st, 1 ≤ most → ∃ s, Wf s ∧ dep s = 1 ∧ dice s ≤ most ∧ 1 ≤ dice s ∧ c_dice [.int cell, .int most] st = .ok (enc s) st)
    (hma : ∀ s st, Wf s → dep s ≤ deep - 1 → c_many [enc s] st = .ok (.int (dice s)) st)
    (hsay : ∀ cell most st, 2 ≤ deep → 0 ≤ most → ∃ s, Wf s ∧ dep s ≤ deep - 1 ∧ dice s ≤ most ∧ c_say [.int cell, .int ((deep : Int) - 1), .int most] st = .ok (enc s) st) :
    ∃ s, Wf s ∧ dep s ≤ deep ∧ dice s ≤ most ∧ fnM 3 6 (m_f_law_saying c_dice c_many c_mix c_say) [.int cell, .int deep, .int most] st = .ok (enc s) st := by
  have w0 := mixv_pos (c := cell) (p := 9931) (m := 12) (by decide)
  have w1 := mixv_lt (c := cell) (p := 9931) (m := 12) (by decide)
  have hw := fun st => hm cell 9931 12 st (by decide) (by decide) (by decide)
  generalize mixv cell 9931 12 = way at *
  by_cases h1 : way < 2 ∨ most = 0
  · have n0 := mixv_pos (c := cell) (p := 9929) (m := 10) (by decide)
    have n1 := mixv_lt (c := cell) (p := 9929) (m := 10) (by decide)
    refine ⟨.num (mixv cell 9929 10), ⟨by omega, by omega⟩, by simp only [dep]; omega, by simpa only [dice] using hm0, ?_⟩
    have hn := fun st => hm cell 9929 10 st (by decide) (by decide) (by decide)
    rcases h1 with h1 | h1
    · simp [fnM, m_f_law_saying, hw, h1, hn]
    · by_cases h2 : way < 2 <;> simp [fnM, m_f_law_saying, hw, h1, h2, hn]
  · have h2 : ¬ way < 2 := fun z => h1 (.inl z)
    have h3 : ¬ most = 0 := fun z => h1 (.inr z)
    by_cases h4 : way < 5 ∨ deep = 1
    · obtain ⟨s, k1, k2, k3, k4, k5⟩ := hdi (cell + 1) st (by omega)
      refine ⟨s, k1, by omega, k3, ?_⟩
      rcases h4 with h4 | h4
      · simp [fnM, m_f_law_saying, hw, h2, h3, h4, k5]
      · subst h4
        by_cases h5 : way < 5 <;> simp [fnM, m_f_law_saying, hw, h2, h3, h5, k5]
    · have h5 : ¬ way < 5 := fun z => h4 (.inl z)
      have h6 : ¬ deep = 1 := fun z => h4 (.inr z)
      have h6' : ¬ ((deep : Int) = 1) := by omega
      by_cases h7 : way = 11
      · obtain ⟨s, k1, k2, k3, k4⟩ := hsay (cell + 2) most st (by omega) hm0
        have n0 := mixv_pos (c := cell) (p := 9923) (m := 4) (by decide)
        have n1 := mixv_lt (c := cell) (p := 9923) (m := 4) (by decide)
        have hn := fun st => hm cell 9923 4 st (by decide) (by decide) (by decide)
        refine ⟨.times (mixv cell 9923 4) s, ⟨by omega, by omega, k1⟩, by simp only [dep]; omega, k3, ?_⟩
        simp [fnM, m_f_law_saying, hw, h2, h3, h5, h6', h7, hn, k4, enc]
      · obtain ⟨a, a1, a2, a3, a4⟩ := hsay (cell + 3) most st (by omega) hm0
        have am := hma a st a1 a2
        obtain ⟨b, b1, b2, b3, b4⟩ := hsay (cell + 5) (most - dice a) st (by omega) (by omega)
        have n0 := mixv_pos (c := cell) (p := 9907) (m := 5) (by decide)
        have n1 := mixv_lt (c := cell) (p := 9907) (m := 5) (by decide)
        have hn := fun st => hm cell 9907 5 st (by decide) (by decide) (by decide)
        generalize mixv cell 9907 5 = i at *
        have key : ∀ (x y : Say), ∃ w : W2, (fun z => L2.atI [D.str "plus", .str "less", .str "most", .str "least", .str "beats"] z) i = some (.str (Str.ofString w.s)) := by
          intro x y
          have hi : i = 0 ∨ i = 1 ∨ i = 2 ∨ i = 3 ∨ i = 4 := by omega
          rcases hi with rfl | rfl | rfl | rfl | rfl
          · exact ⟨.plus, rfl⟩
          · exact ⟨.less, rfl⟩
          · exact ⟨.most, rfl⟩
          · exact ⟨.least, rfl⟩
          · exact ⟨.beats, rfl⟩
        obtain ⟨w, ew⟩ := key a b
        simp only at ew
        by_cases he : cell % 2 = 0
        · refine ⟨.two w b a, ⟨b1, a1⟩, by simp only [dep]; omega, by simp only [dice]; omega, ?_⟩
          simp [fnM, m_f_law_saying, hw, h2, h3, h5, h6', h7, hn, a4, am, b4, ew, he, enc]
        · refine ⟨.two w a b, ⟨a1, b1⟩, by simp only [dep]; omega, by simp only [dice]; omega, ?_⟩
          simp [fnM, m_f_law_saying, hw, h2, h3, h5, h6', h7, hn, a4, am, b4, ew, he, enc]
end Ml

namespace Ml
open PySem L2
/-! ### data compared -/
theorem doks_cons (n : Nat) (d : D) (ds : List D) : doks n (d :: ds) = (d.dok n && doks n ds) := by simp [doks]
theorem dok_tup (n : Nat) (ds : List D) : (D.tup ds).dok (n + 1) = doks n ds := by simp [D.dok]
@[simp] theorem dok_int (n : Nat) (i : Int) : (D.int i).dok n = true := by simp [D.dok]
@[simp] theorem doks_nil (n : Nat) : doks n [] = true := by simp [doks]
theorem strOk_lit (x : String) : PyData.strOk (Str.ofString x) = true := by
  unfold PyData.strOk
  rw [Str.ofString_eq_toList]
  simp only [List.all_toArray, List.all_map, List.all_eq_true]
  intro c _
  simp only [Function.comp_apply, decide_eq_true_eq]
  have := c.valid
  simp only [UInt32.isValidChar, Nat.isValidChar] at this
  show c.toNat < _
  have e : c.toNat = c.val.toNat := rfl
  omega
@[simp] theorem dok_lit (n : Nat) (x : String) : (D.str (Str.ofString x)).dok n = true := by simp [D.dok, strOk_lit]
theorem dok_enc : ∀ (s : Say) (n : Nat), dep s ≤ n → (enc s).dok n = true
  | s, 0, h => absurd (Nat.le_trans (dep_pos s) h) (by decide)
  | .num k, n + 1, _ => by simp [dok_tup, doks_cons]
  | .die m k, n + 1, _ => by simp [dok_tup, doks_cons]
  | .dl w m k l, n + 1, _ => by simp [enc, dok_tup, doks_cons]
  | .two w a b, n + 1, h => by
    simp only [dep] at h
    simp [enc, dok_tup, doks_cons, dok_enc a n (by omega), dok_enc b n (by omega)]
  | .times k a, n + 1, h => by
    simp only [dep] at h
    simp [enc, dok_tup, doks_cons, dok_enc a n (by omega)]
theorem dok_60 {s : Say} (h : dep s ≤ 50) : (enc s).dok 60 = true := dok_enc s 60 (by omega)
theorem eq_enc {a b : Say} {st : Sto} (ha : dep a ≤ 50) (hb : dep b ≤ 50) : gEq (enc a) (enc b) st = some (.bl (deq (enc a) (enc b)), st) := by
  unfold gEq
  rw [dok_60 ha, dok_60 hb]
  split <;> rfl
theorem ne_enc {a b : Say} {st : Sto} (ha : dep a ≤ 50) (hb : dep b ≤ 50) : gNe (enc a) (enc b) st = some (.bl (!deq (enc a) (enc b)), st) := by
  unfold gNe
  rw [dok_60 ha, dok_60 hb]
  split <;> rfl
def isZ : Say → Bool
  | .num n => n == 0
  | _ => false
theorem deq_zero (a : Say) : deq (enc a) (enc (.num 0)) = isZ a := by
  cases a with
  | num n => simp [deq, D.pd, pds, PyData.eqv, PyData.eqvAll, isZ]
  | die m s => simp [deq, D.pd, pds, PyData.eqv, PyData.eqvAll, isZ]
  | dl w m s l => cases w <;> simp [deq, D.pd, pds, PyData.eqv, PyData.eqvAll, isZ, enc, WL.s]
  | two w x y => cases w <;> simp [deq, D.pd, pds, PyData.eqv, PyData.eqvAll, isZ, enc, W2.s]
  | times n x => simp [deq, D.pd, pds, PyData.eqv, PyData.eqvAll, isZ, enc]
theorem eq_zero {a : Say} {st : Sto} (h : dep a ≤ 50) : gEq (enc a) d_NOTHING st = some (.bl (isZ a), st) := by
  have := eq_enc (st := st) h (b := .num 0) (by decide)
  rw [deq_zero] at this
  exact this
theorem eq_zero' {a : Say} {st : Sto} (h : dep a ≤ 50) : gEq (enc a) (.tup [.str "number", .int 0]) st = some (.bl (isZ a), st) := eq_zero h
/-! ### simpler -/
def ofTwo : W2 → Int → Int → Int
  | .plus, a, b => a + b
  | .less, a, b => a - b
  | .most, a, b => if b > a then b else a
  | .least, a, b => if b < a then b else a
  | .beats, a, b => if b < a then 1 else 0
def nums : Say → Say
  | .two w (.num a) (.num b) => if 0 ≤ ofTwo w a b ∧ ofTwo w a b ≤ 9 then .num (ofTwo w a b) else .two w (.num a) (.num b)
  | .times n (.num b) => if 0 ≤ n * b ∧ n * b ≤ 9 then .num (n * b) else .times n (.num b)
  | s => s
def noth : Say → Say
  | .two .plus a b => if isZ a then b else if isZ b then a else .two .plus a b
  | .two .less a b => if isZ b then a else .two .less a b
  | .times n a => if n = 1 then a else if n = 0 then .num 0 else .times n a
  | s => s
def simple : Say → Say
  | .dl .high m s l => if m = l then .die m s else .dl .high m s l
  | .dl .low m s l => if m = l then .die m s else .dl .low m s l
  | .two w a b => noth (nums (.two w (simple a) (simple b)))
  | .times n a => noth (nums (.times n (simple a)))
  | s => s
theorem dep_nums (s : Say) : dep (nums s) ≤ dep s := by
  unfold nums
  split
  · split
    · simp only [dep]; omega
    · exact Nat.le_refl _
  · split
    · simp only [dep]; omega
    · exact Nat.le_refl _
  · exact Nat.le_refl _
theorem dep_noth (s : Say) : dep (noth s) ≤ dep s := by
  unfold noth
  split
  · split
    · simp only [dep]; omega
    · split
      · simp only [dep]; omega
      · exact Nat.le_refl _
  · split
    · simp only [dep]; omega
    · exact Nat.le_refl _
  · split
    · simp only [dep]; omega
    · split
      · simp only [dep]; omega
      · exact Nat.le_refl _
  · exact Nat.le_refl _
theorem dep_simple : ∀ s, dep (simple s) ≤ dep s
  | .num _ => Nat.le_refl _
  | .die _ _ => Nat.le_refl _
  | .dl w m s l => by
    cases w <;> simp only [simple] <;> first | exact Nat.le_refl _ | (split <;> exact Nat.le_refl _)
  | .two w a b => by
    have h1 := dep_simple a
    have h2 := dep_simple b
    refine Nat.le_trans (dep_noth _) (Nat.le_trans (dep_nums _) ?_)
    simp only [dep]; omega
  | .times n a => by
    have h1 := dep_simple a
    refine Nat.le_trans (dep_noth _) (Nat.le_trans (dep_nums _) ?_)
    simp only [dep]; omega
theorem two_ok {w : W2} {a b : Int} {st : Sto} : fnM 3 3 m_of_two [.str (Str.ofString w.s), .int a, .int b] st = .ok (.int (ofTwo w a b)) st := by
  cases w <;> simp [fnM, m_of_two, W2.s, ofTwo]
theorem ltwo_ok {w : W2} {a b : Int} {st : Sto} : ∃ st', fnM 3 4 m_f_law_two [.str (Str.ofString w.s), .int a, .int b] st = .ok (.int (ofTwo w a b)) st' := by
  cases w
  · exact ⟨st, by simp [fnM, m_f_law_two, W2.s, ofTwo]⟩
  · exact ⟨st, by simp [fnM, m_f_law_two, W2.s, ofTwo]⟩
  · refine ⟨st ++ [.lst (if a ≤ b then [.int a, .int b] else [.int b, .int a])], ?_⟩
    simp [fnM, m_f_law_two, W2.s, ofTwo, e_ixL]
    by_cases h : a ≤ b
    · by_cases h2 : a < b
      · simp [h, h2]
      · have : a = b := by omega
        subst this; simp
    · have h2 : ¬ a < b := by omega
      simp [h, h2]
  · refine ⟨st ++ [.lst (if a ≤ b then [.int a, .int b] else [.int b, .int a])], ?_⟩
    simp [fnM, m_f_law_two, W2.s, ofTwo, e_ixL]
    by_cases h : a ≤ b
    · have h2 : ¬ b < a := by omega
      simp [h, h2]
    · have h2 : b < a := by omega
      simp [h, h2]
  · exact ⟨st, by simp [fnM, m_f_law_two, W2.s, ofTwo]⟩
end Ml

namespace Ml
open PySem L2
theorem hd_num {s : Say} : (hd s == "number") = (match s with | .num _ => true | _ => false) := by
  cases s with
  | num n => rfl
  | die m s => rfl
  | dl w m s l => cases w <;> rfl
  | two w a b => cases w <;> rfl
  | times n a => rfl
theorem num_of_hd {a : Say} (h : hd a = "number") : ∃ x, a = .num x := by
  cases a with
  | num n => exact ⟨n, rfl⟩
  | die m s => simp [hd] at h
  | dl w m s l => cases w <;> simp [hd, WL.s] at h
  | two w x y => cases w <;> simp [hd, W2.s] at h
  | times n x => simp [hd] at h
theorem nums_two1 {w : W2} {a b : Say} (h : ¬ hd a = "number") : nums (.two w a b) = .two w a b := by
  cases a <;> first | rfl | exact absurd rfl h
theorem nums_two2 {w : W2} {a b : Say} (h : ¬ hd b = "number") : nums (.two w a b) = .two w a b := by
  cases a <;> first | rfl | (cases b <;> first | rfl | exact absurd rfl h)
theorem nums_times1 {n : Int} {a : Say} (h : ¬ hd a = "number") : nums (.times n a) = .times n a := by
  cases a <;> first | rfl | exact absurd rfl h
theorem wf_nums {s : Say} (h : Wf s) : Wf (nums s) := by
  unfold nums
  split
  · split
    · rename_i h'; exact h'
    · exact h
  · split
    · rename_i h'; exact h'
    · exact h
  · exact h
theorem wf_noth {s : Say} (h : Wf s) : Wf (noth s) := by
  unfold noth
  split
  · split
    · exact h.2
    · split
      · exact h.1
      · exact h
  · split
    · exact h.1
    · exact h
  · split
    · exact h.2.2
    · split
      · exact ⟨by decide, by decide⟩
      · exact h
  · exact h
theorem wf_simple : ∀ {s : Say}, Wf s → Wf (simple s)
  | .num _, h => h
  | .die _ _, h => h
  | .dl w m s l, h => by
    obtain ⟨h1, h2, h3, h4, h5⟩ := h
    cases w <;> simp only [simple] <;> first | exact ⟨h1, h2, h3, h4, h5⟩ | (split; exact ⟨h1, h2, h3, h4⟩; exact ⟨h1, h2, h3, h4, h5⟩)
  | .two w a b, h => wf_noth (wf_nums (s := .two w (simple a) (simple b)) ⟨wf_simple h.1, wf_simple h.2⟩)
  | .times n a, h => wf_noth (wf_nums (s := .times n (simple a)) ⟨h.1, h.2.1, wf_simple h.2.2⟩)
theorem nums_ok {c_two : Fm} (h2 : ∀ (w : W2) a b st, c_two [.str (Str.ofString w.s), .int a, .int b] st = .ok (.int (ofTwo w a b)) st) {s : Say} {st : Sto} (hs : ∀ n a, s = .times n a → 0 ≤ n ∧ n ≤ 3) :
    fnM 1 2 (m_of_numbers c_two) [enc s] st = .ok (enc (nums s)) st := by
  cases s with
  | num n => simp [fnM, m_of_numbers, nums, d_TWO]
  | die m s => simp [fnM, m_of_numbers, nums, d_TWO]
  | dl w m s l => cases w <;> simp [fnM, m_of_numbers, nums, d_TWO, enc, WL.s]
  | two w a b =>
    have hin : inD (.str (Str.ofString w.s)) [.str "plus", .str "less", .str "most", .str "least", .str "beats"] = true := by cases w <;> simp [W2.s]
    have ht : (w.s == "times") = false := by cases w <;> rfl
    by_cases ha : hd a = "number"
    · by_cases hb : hd b = "number"
      · obtain ⟨x, rfl⟩ := num_of_hd ha
        obtain ⟨y, rfl⟩ := num_of_hd hb
        simp only [nums]
        by_cases h0 : 0 ≤ ofTwo w x y
        · by_cases h9 : ofTwo w x y ≤ 9
          · simp [fnM, m_of_numbers, d_TWO, enc, hin, ht, h2, h0, h9]
          · simp [fnM, m_of_numbers, d_TWO, enc, hin, ht, h2, h0, h9]
        · simp [fnM, m_of_numbers, d_TWO, enc, hin, ht, h2, h0]
      · have hn : nums (.two w a b) = .two w a b := nums_two2 hb
        rw [hn]
        simp [fnM, m_of_numbers, d_TWO, enc, hin, ht, ha, hb]
    · have hn : nums (.two w a b) = .two w a b := nums_two1 ha
      rw [hn]
      simp [fnM, m_of_numbers, d_TWO, enc, hin, ht, ha]
  | times n a =>
    have hsm := hs n a rfl
    have h64 : small64 n = true := small_of (by omega) (by omega)
    by_cases ha : hd a = "number"
    · obtain ⟨x, rfl⟩ := num_of_hd ha
      simp only [nums]
      by_cases h0 : 0 ≤ n * x
      · by_cases h9 : n * x ≤ 9
        · simp [fnM, m_of_numbers, d_TWO, enc, h64, h0, h9]
        · simp [fnM, m_of_numbers, d_TWO, enc, h64, h0, h9]
      · simp [fnM, m_of_numbers, d_TWO, enc, h64, h0]
    · have hn : nums (.times n a) = .times n a := nums_times1 ha
      rw [hn]
      simp [fnM, m_of_numbers, d_TWO, enc, ha]
theorem noth_ok {s : Say} {st : Sto} (hdp : dep s ≤ 50) : fnM 1 2 m_of_nothing [enc s] st = .ok (enc (noth s)) st := by
  cases s with
  | num n => simp [fnM, m_of_nothing, noth]
  | die m s => simp [fnM, m_of_nothing, noth]
  | dl w m s l => cases w <;> simp [fnM, m_of_nothing, noth, enc, WL.s]
  | two w a b =>
    simp only [dep] at hdp
    have ea := fun st => eq_zero (a := a) (st := st) (by omega)
    have eb := fun st => eq_zero (a := b) (st := st) (by omega)
    cases w <;> cases ha : isZ a <;> cases hb : isZ b <;> simp [fnM, m_of_nothing, noth, enc, W2.s, ea, eb, ha, hb]
  | times n a =>
    by_cases h1 : n = 1
    · subst h1; simp [fnM, m_of_nothing, noth, enc]
    · by_cases h0 : n = 0
      · subst h0; simp [fnM, m_of_nothing, noth, enc, d_NOTHING]
      · simp [fnM, m_of_nothing, noth, enc, h1, h0]
@[simp] theorem cut_13_4 {α : Type} (x y z w : α) : cutD [x, y, z, w] (some 1) (some 3) = [y, z] := rfl
theorem simple_step {c_noth c_nums c_simple : Fm} {s : Say} {st : Sto} (hw : Wf s) (hdp : dep s ≤ 50)
    (h1 : ∀ s st, dep s ≤ 50 → c_noth [enc s] st = .ok (enc (noth s)) st) (h2 : ∀ (s : Say) st, (∀ n a, s = .times n a → 0 ≤ n ∧ n ≤ 3) → c_nums [enc s] st = .ok (enc (nums s)) st)
    (ih : ∀ a st, Wf a → dep a < dep s → c_simple [enc a] st = .ok (enc (simple a)) st) : fnM 1 2 (m_simple c_noth c_nums c_simple) [enc s] st = .ok (enc (simple s)) st := by
  cases s with
  | num n =>
    have k1 := fun st => h1 (.num n) st (by simp only [dep]; decide)
    have k2 := fun st => h2 (.num n) st (fun _ _ e => by cases e)
    simp [nums, noth] at k1 k2
    simp [fnM, m_simple, simple, d_TWO, k1, k2]
  | die m s =>
    have k1 := fun st => h1 (.die m s) st (by simp only [dep]; decide)
    have k2 := fun st => h2 (.die m s) st (fun _ _ e => by cases e)
    simp [nums, noth] at k1 k2
    simp [fnM, m_simple, simple, d_TWO, k1, k2]
  | dl w m s l =>
    have k1 := fun st => h1 (.dl w m s l) st (by simp only [dep]; decide)
    have k2 := fun st => h2 (.dl w m s l) st (fun _ _ e => by cases e)
    simp only [nums, noth] at k1 k2
    by_cases e : m = l
    · subst e
      cases w <;> simp [enc, WL.s] at k1 k2 <;> simp [fnM, m_simple, simple, d_TWO, k1, k2, enc, WL.s]
    · cases w <;> simp [enc, WL.s] at k1 k2 <;> simp [fnM, m_simple, simple, d_TWO, k1, k2, enc, WL.s, e]
  | two w a b =>
    have ha := fun st => ih a st hw.1 (by simp only [dep]; omega)
    have hb := fun st => ih b st hw.2 (by simp only [dep]; omega)
    have d1 := dep_simple a
    have d2 := dep_simple b
    simp only [dep] at hdp
    have k2 := fun st => h2 (.two w (simple a) (simple b)) st (fun _ _ e => by cases e)
    have k1 := fun st => h1 (nums (.two w (simple a) (simple b))) st (Nat.le_trans (dep_nums _) (by simp only [dep]; omega))
    simp only [enc] at k2
    have hin : inD (.str (Str.ofString w.s)) [.str "plus", .str "less", .str "most", .str "least", .str "beats"] = true := by cases w <;> simp [W2.s]
    have t1 : (w.s == "times") = false := by cases w <;> rfl
    have t2 : inD (.str (Str.ofString w.s)) [.str "high", .str "low"] = false := by cases w <;> simp [W2.s]
    simp [fnM, m_simple, simple, d_TWO, enc, t1, t2, hin, ha, hb, k2, k1]
  | times n a =>
    have ha := fun st => ih a st hw.2.2 (by simp only [dep]; omega)
    have d1 := dep_simple a
    simp only [dep] at hdp
    have k2 := fun st => h2 (.times n (simple a)) st (fun _ _ e => by cases e; exact ⟨hw.1, hw.2.1⟩)
    have k1 := fun st => h1 (nums (.times n (simple a))) st (Nat.le_trans (dep_nums _) (by simp only [dep]; omega))
    simp only [enc] at k2
    simp [fnM, m_simple, simple, d_TWO, enc, ha, k2, k1]
theorem isSimple_ok {c_simple : Fm} {s : Say} {st : Sto} (hdp : dep s ≤ 50) (h : c_simple [enc s] st = .ok (enc (simple s)) st) : fnM 1 1 (m_is_simple c_simple) [enc s] st = .ok (.bl (deq (enc (simple s)) (enc s))) st := by
  have e := eq_enc (st := st) (Nat.le_trans (dep_simple s) hdp) hdp
  simp [fnM, m_is_simple, h, e]
/-! ### the law's own -/
theorem lsimple_step {c_lsimple c_ltwo : Fm} {s : Say} {st : Sto} (hw : Wf s) (hdp : dep s ≤ 50)
    (h2 : ∀ (w : W2) a b st, ∃ st', c_ltwo [.str (Str.ofString w.s), .int a, .int b] st = .ok (.int (ofTwo w a b)) st')
    (ih : ∀ a st, Wf a → dep a < dep s → ∃ st', c_lsimple [enc a] st = .ok (enc (simple a)) st') : ∃ st', fnM 1 4 (m_f_law_simple c_lsimple c_ltwo) [enc s] st = .ok (enc (simple s)) st' := by
  cases s with
  | num n => exact ⟨st, by simp [fnM, m_f_law_simple, simple]⟩
  | die m s => exact ⟨st, by simp [fnM, m_f_law_simple, simple]⟩
  | dl w m s l =>
    refine ⟨st, ?_⟩
    by_cases e : m = l
    · subst e
      cases w <;> simp [fnM, m_f_law_simple, simple, enc, WL.s]
    · cases w <;> simp [fnM, m_f_law_simple, simple, enc, WL.s, e]
  | times n a =>
    obtain ⟨st1, ha⟩ := ih a st hw.2.2 (by simp only [dep]; omega)
    refine ⟨st1, ?_⟩
    have h64 : small64 n = true := small_of (by have := hw.1; omega) (by have := hw.2.1; omega)
    have h0 : 0 ≤ n := hw.1
    by_cases hn : hd (simple a) = "number"
    · obtain ⟨x, hx⟩ := num_of_hd hn
      have hwx := wf_simple hw.2.2
      simp only [hx] at ha hwx
      have hx0 : 0 ≤ n * x := Int.mul_nonneg h0 hwx.1
      simp only [simple, hx, nums]
      by_cases h9 : n * x ≤ 9
      · simp [fnM, m_f_law_simple, enc, ha, h64, h9, hx0, noth]
      · simp only [hx0, h9, and_false, if_false, noth]
        by_cases h1 : n = 1
        · subst h1
          have h9' : ¬ x ≤ 9 := by omega
          simp [fnM, m_f_law_simple, enc, ha, h64, h9']
        · by_cases h2 : n = 0
          · subst h2; simp at h9
          · simp [fnM, m_f_law_simple, enc, ha, h64, h9, h1, h2]
    · simp only [simple, nums_times1 hn, noth]
      by_cases h1 : n = 1
      · subst h1; simp [fnM, m_f_law_simple, enc, ha, hn]
      · by_cases h2 : n = 0
        · subst h2; simp [fnM, m_f_law_simple, enc, ha, hn]
        · simp [fnM, m_f_law_simple, enc, ha, hn, h1, h2]
  | two w a b =>
    obtain ⟨st1, ha⟩ := ih a st hw.1 (by simp only [dep]; omega)
    obtain ⟨st2, hb⟩ := ih b st1 hw.2 (by simp only [dep]; omega)
    have d1 := dep_simple a
    have d2 := dep_simple b
    simp only [dep] at hdp
    have ea := fun st => eq_zero' (a := simple a) (st := st) (by omega)
    have eb := fun st => eq_zero' (a := simple b) (st := st) (by omega)
    have t1 : (w.s == "times") = false := by cases w <;> rfl
    have t2 : inD (.str (Str.ofString w.s)) [.str "high", .str "low"] = false := by cases w <;> simp [W2.s]
    have t3 : (w.s == "number") = false := by cases w <;> rfl
    by_cases hna : hd (simple a) = "number"
    · by_cases hnb : hd (simple b) = "number"
      · obtain ⟨x, hx⟩ := num_of_hd hna
        obtain ⟨y, hy⟩ := num_of_hd hnb
        simp only [hx, hy] at ha hb ea eb
        obtain ⟨st3, k3⟩ := h2 w x y st2
        obtain ⟨st4, k4⟩ := h2 w x y st3
        by_cases h0 : 0 ≤ ofTwo w x y
        · by_cases h9 : ofTwo w x y ≤ 9
          · refine ⟨st4, ?_⟩
            simp only [simple, hx, hy, nums, h0, h9, and_self, if_true, noth]
            simp [fnM, m_f_law_simple, enc, ha, hb, t1, t2, t3, k3, k4, h0, h9]
          · refine ⟨st3, ?_⟩
            simp only [simple, hx, hy, nums, h0, h9, and_false, if_false]
            cases w <;> cases za : isZ (.num x) <;> cases zb : isZ (.num y) <;> simp [W2.s] at k3 <;> simp [enc] at ea eb <;> simp [fnM, m_f_law_simple, enc, noth, ha, hb, W2.s, k3, h0, h9, ea, eb, za, zb]
        · refine ⟨st3, ?_⟩
          simp only [simple, hx, hy, nums, h0, false_and, if_false]
          cases w <;> cases za : isZ (.num x) <;> cases zb : isZ (.num y) <;> simp [W2.s] at k3 <;> simp [enc] at ea eb <;> simp [fnM, m_f_law_simple, enc, noth, ha, hb, W2.s, k3, h0, ea, eb, za, zb]
      · refine ⟨st2, ?_⟩
        simp only [simple, nums_two2 hnb]
        cases w <;> cases za : isZ (simple a) <;> cases zb : isZ (simple b) <;> simp [fnM, m_f_law_simple, enc, noth, ha, hb, W2.s, ea, eb, za, zb, hna, hnb]
    · refine ⟨st2, ?_⟩
      simp only [simple, nums_two1 hna]
      cases w <;> cases za : isZ (simple a) <;> cases zb : isZ (simple b) <;> simp [fnM, m_f_law_simple, enc, noth, ha, hb, W2.s, ea, eb, za, zb, hna]
end Ml

namespace Ml
open PySem L2
/-! _law_same -/
mutual
/-- whole numbers, texts and tuples of these, at most n deep -/
def D.gd (n : Nat) : D → Prop
  | .int _ => True
  | .str _ => True
  | .bl _ => True
  | .non => True
  | .tup ds => match n with
    | 0 => False
    | k + 1 => ds.length ≤ lim ∧ gds k ds
  | _ => False
def gds (n : Nat) : List D → Prop
  | [] => True
  | d :: ds => d.gd n ∧ gds n ds
end
theorem zip_same {c : Fm} {n : Nat} {st : Sto} {ev : Ev} (hev : 4 ≤ ev.length) (ih : ∀ d, d.gd n → c [d, d] st = .ok (.bl true) st) : ∀ ds, gds n ds →
    lcLoop (gtTup 2 (gtsCons (gtName 2) (gtsCons (gtName 3) gtsNil))) mYes (mCall c (mCons (mVar 2) (mCons (mVar 3) mNil))) (zipD ds ds) ev st = .ok (ds.map fun _ => .bl true) st
  | [], _ => by simp [zipD]
  | d :: ds, h => by
    simp only [gds] at h
    have h1 := zip_same hev ih ds h.2
    have h2 := ih d h.1
    simp only [zipD, e_lcC, e_gtTup, List.length_cons, List.length_nil, e_gtsCons, e_gtName, Option.bind_some, e_gtsNil, if_true, e_Yes, e_Call, e_Cons, e_Var, e_Nil]
    have e2 : ((ev.set 2 (some d)).set 3 (some d))[2]? = some (some d) := by
      rw [List.getElem?_set_ne (by decide), List.getElem?_set_self (by omega)]
    have e3 : ((ev.set 2 (some d)).set 3 (some d))[3]? = some (some d) := List.getElem?_set_self (by simp; omega)
    simp [e2, e3, h2, h1]
theorem same_step {c : Fm} {n : Nat} {st : Sto} (ih : ∀ d, d.gd n → c [d, d] st = .ok (.bl true) st) {d : D} (h : d.gd (n + 1)) : fnM 2 4 (m_f_law_same c) [d, d] st = .ok (.bl true) st := by
  cases d with
  | non => simp [fnM, m_f_law_same]
  | bl b => simp [fnM, m_f_law_same]
  | int i => simp [fnM, m_f_law_same]
  | str x => simp [fnM, m_f_law_same]
  | tup ds =>
    simp only [D.gd] at h
    have hz := zip_same (ev := [some (.tup ds), some (.tup ds), none, none]) (by simp) ih ds h.2
    have hl : (zipD ds ds).length ≤ lim := by rw [zipD_len]; have := h.1; omega
    have ha : gAll (ds.map fun _ => D.bl true) = some (.bl true) := by
      have : (ds.map fun _ => D.bl true) = (ds.map fun _ => true).map D.bl := by simp
      rw [this, e_all]
      simp
    simp [fnM, m_f_law_same, hl, hz, ha]
  | ref i => simp [D.gd] at h
  | ro ds => simp [D.gd] at h
theorem gd_enc : ∀ (s : Say) (n : Nat), dep s ≤ n → (enc s).gd n
  | s, 0, h => absurd (Nat.le_trans (dep_pos s) h) (by decide)
  | .num k, n + 1, _ => by simp [D.gd, gds]
  | .die m k, n + 1, _ => by simp [D.gd, gds]
  | .dl w m k l, n + 1, _ => by simp [enc, D.gd, gds]
  | .two w a b, n + 1, h => by
    simp only [dep] at h
    have h1 := gd_enc a n (by omega)
    have h2 := gd_enc b n (by omega)
    simp [enc, D.gd, gds, h1, h2]
  | .times k a, n + 1, h => by
    simp only [dep] at h
    have h1 := gd_enc a n (by omega)
    simp [enc, D.gd, gds, h1]
/-! _law_odd -/
@[simp] theorem cut_a1 {α : Type} (x y z : α) : cutD [x, y, z] none (some 1) = [x] := rfl
@[simp] theorem cut_a2 {α : Type} (x y z : α) : cutD [x, y, z] none (some 2) = [x, y] := rfl
@[simp] theorem cut_b2 {α : Type} (x y z : α) : cutD [x, y, z] (some 2) none = [z] := rfl
@[simp] theorem cut_b3 {α : Type} (x y z : α) : cutD [x, y, z] (some 3) none = [] := rfl
theorem odd_ok {c_mix c_say : Fm} {cell : Int} {st : Sto}
    (hm : ∀ c p m st, 0 < p → p < 10000 → 0 < m → c_mix [.int c, .int p, .int m] st = .ok (.int (mixv c p m)) st)
    (hsay : ∀ cell st, ∃ s, Wf s ∧ dep s ≤ 2 ∧ c_say [.int cell, .int 2, .int 3] st = .ok (enc s) st) :
    ∃ s, Wf s ∧ dep s ≤ 3 ∧ fnM 1 5 (m_f_law_odd c_mix c_say) [.int cell] st = .ok (enc s) st := by
  obtain ⟨s, k1, k2, k3⟩ := hsay cell st
  have q0 := mixv_pos (c := cell) (p := 9833) (m := 4) (by decide)
  have q1 := mixv_lt (c := cell) (p := 9833) (m := 4) (by decide)
  have hq := fun st => hm cell 9833 4 st (by decide) (by decide) (by decide)
  have w0 := mixv_pos (c := cell) (p := 9829) (m := 6) (by decide)
  have w1 := mixv_lt (c := cell) (p := 9829) (m := 6) (by decide)
  have hw := fun st => hm cell 9829 6 st (by decide) (by decide) (by decide)
  generalize mixv cell 9833 4 = i at *
  generalize mixv cell 9829 6 = way at *
  obtain ⟨v, v1, v2, hv⟩ : ∃ v : Int, 0 ≤ v ∧ v ≤ 9 ∧ L2.atI [D.int 0, .int 0, .int 1, .int 9] i = some (.int v) := by
    have hi : i = 0 ∨ i = 1 ∨ i = 2 ∨ i = 3 := by omega
    rcases hi with rfl | rfl | rfl | rfl
    · exact ⟨0, by decide, by decide, rfl⟩
    · exact ⟨0, by decide, by decide, rfl⟩
    · exact ⟨1, by decide, by decide, rfl⟩
    · exact ⟨9, by decide, by decide, rfl⟩
  have wrap : ∀ t : Say, Wf t → dep t ≤ 2 → ∃ r, Wf r ∧ dep r ≤ 3 ∧
      ((way < 2 → enc r = .tup [.str "times", .int way, enc t]) ∧ (¬ way < 2 → way = 2 → enc r = .tup [.str "plus", .tup [.str "number", .int 0], enc t]) ∧
       (¬ way < 2 → ¬ way = 2 → way = 3 → enc r = .tup [.str "less", enc t, .tup [.str "number", .int 0]]) ∧ (¬ way < 2 → ¬ way = 2 → ¬ way = 3 → enc r = enc t)) := by
    intro t t1 t2
    by_cases a1 : way < 2
    · exact ⟨.times way t, ⟨by omega, by omega, t1⟩, by simp only [dep]; omega, fun _ => rfl, fun h => absurd a1 h, fun h => absurd a1 h, fun h => absurd a1 h⟩
    · by_cases a2 : way = 2
      · exact ⟨.two .plus (.num 0) t, ⟨⟨by decide, by decide⟩, t1⟩, by simp only [dep]; omega, fun h => absurd h a1, fun _ _ => rfl, fun _ h => absurd a2 h, fun _ h => absurd a2 h⟩
      · by_cases a3 : way = 3
        · exact ⟨.two .less t (.num 0), ⟨t1, ⟨by decide, by decide⟩⟩, by simp only [dep]; omega, fun h => absurd h a1, fun _ h => absurd h a2, fun _ _ _ => rfl, fun _ _ h => absurd a3 h⟩
        · exact ⟨t, t1, by omega, fun h => absurd h a1, fun _ h => absurd h a2, fun _ _ h => absurd h a3, fun _ _ _ => rfl⟩
  by_cases htwo : ∃ w a b, s = .two w a b
  · obtain ⟨w, a, b, rfl⟩ := htwo
    have hin : inD (.str (Str.ofString w.s)) [.str "plus", .str "less", .str "most", .str "least", .str "beats"] = true := by cases w <;> simp [W2.s]
    simp only [dep] at k2
    simp only [enc] at k3
    have hc : cell % 2 = 0 ∨ cell % 2 = 1 := by omega
    rcases hc with hc | hc
    · obtain ⟨r, r1, r2, r3, r4, r5, r6⟩ := wrap (.two w (.num v) b) ⟨⟨v1, v2⟩, k1.2⟩ (by simp only [dep]; omega)
      simp only [enc] at r3 r4 r5 r6
      refine ⟨r, r1, r2, ?_⟩
      by_cases a1 : way < 2
      · simp [fnM, m_f_law_odd, k3, hin, hc, hq, hv, hw, a1, r3 a1]
      · by_cases a2 : way = 2
        · simp [fnM, m_f_law_odd, k3, hin, hc, hq, hv, hw, a2, r4 a1 a2]
        · by_cases a3 : way = 3
          · simp [fnM, m_f_law_odd, k3, hin, hc, hq, hv, hw, a3, r5 a1 a2 a3]
          · simp [fnM, m_f_law_odd, k3, hin, hc, hq, hv, hw, a1, a2, a3, r6 a1 a2 a3]
    · obtain ⟨r, r1, r2, r3, r4, r5, r6⟩ := wrap (.two w a (.num v)) ⟨k1.1, ⟨v1, v2⟩⟩ (by simp only [dep]; omega)
      simp only [enc] at r3 r4 r5 r6
      refine ⟨r, r1, r2, ?_⟩
      by_cases a1 : way < 2
      · simp [fnM, m_f_law_odd, k3, hin, hc, hq, hv, hw, a1, r3 a1]
      · by_cases a2 : way = 2
        · simp [fnM, m_f_law_odd, k3, hin, hc, hq, hv, hw, a2, r4 a1 a2]
        · by_cases a3 : way = 3
          · simp [fnM, m_f_law_odd, k3, hin, hc, hq, hv, hw, a3, r5 a1 a2 a3]
          · simp [fnM, m_f_law_odd, k3, hin, hc, hq, hv, hw, a1, a2, a3, r6 a1 a2 a3]
  · have hin : inD (.str (Str.ofString (hd s))) [.str "plus", .str "less", .str "most", .str "least", .str "beats"] = false := by
      cases s with
      | num n => simp [hd]
      | die m s => simp [hd]
      | dl w m s l => cases w <;> simp [hd, WL.s]
      | two w a b => exact absurd ⟨w, a, b, rfl⟩ htwo
      | times n a => simp [hd]
    obtain ⟨r, r1, r2, r3, r4, r5, r6⟩ := wrap s k1 k2
    refine ⟨r, r1, r2, ?_⟩
    by_cases a1 : way < 2
    · simp [fnM, m_f_law_odd, k3, hin, hw, a1, r3 a1]
    · by_cases a2 : way = 2
      · simp [fnM, m_f_law_odd, k3, hin, hw, a2, r4 a1 a2]
      · by_cases a3 : way = 3
        · simp [fnM, m_f_law_odd, k3, hin, hw, a3, r5 a1 a2 a3]
        · simp [fnM, m_f_law_odd, k3, hin, hw, a1, a2, a3, r6 a1 a2 a3]
end Ml

namespace L14
open PySem L2 Ml
def lv : Nat := 30
theorem l_mix (n : Nat) : ∀ c p m st, 0 < p → p < 10000 → 0 < m → callN (n + 1) .f_law_mix [.int c, .int p, .int m] st = .ok (.int (mixv c p m)) st := fun c p m st h1 h2 h3 => mix_ok h1 h2 h3
theorem l_many : ∀ (n : Nat) (s : Say) (st : Sto), dep s ≤ n → callN n .f_law_many [enc s] st = .ok (.int (dice s)) st
  | 0, s, _, h => absurd (Nat.le_trans (dep_pos s) h) (by decide)
  | n + 1, s, st, h => many_step fun a ha => l_many n a st (by omega)
theorem l_say : ∀ (deep n : Nat) (cell most : Int) (st : Sto), 1 ≤ deep → deep ≤ 3 → deep + 3 ≤ n → 0 ≤ most → ∃ s, Wf s ∧ dep s ≤ deep ∧ dice s ≤ most ∧ callN n .f_law_saying [.int cell, .int deep, .int most] st = .ok (enc s) st
  | 0, _, _, _, _, h, _, _, _ => absurd h (by decide)
  | deep + 1, n, cell, most, st, _, h3, hn, hm => by
    obtain ⟨k, rfl⟩ : ∃ k, n = k + 1 + 1 + 1 := ⟨n - 3, by omega⟩
    refine say_step (c_dice := callN (k + 1 + 1) .f_law_dice) (c_many := callN (k + 1 + 1) .f_law_many) (c_mix := callN (k + 1 + 1) .f_law_mix) (c_say := callN (k + 1 + 1) .f_law_saying) (by omega) h3 hm (l_mix _) (fun cell st h => dice_ok (l_mix k) h) (fun s st _ hd => l_many _ s st (by omega)) (fun cell most st h2 h0 => ?_)
    obtain ⟨s, k1, k2, k3, k4⟩ := l_say deep (k + 1 + 1) cell most st (by omega) (by omega) (by omega) h0
    refine ⟨s, k1, by omega, k3, ?_⟩
    have e : ((deep + 1 : Nat) : Int) - 1 = (deep : Int) := by omega
    rw [e]; exact k4
theorem l_same : ∀ (n : Nat) (d : D) (st : Sto), d.gd n → callN (n + 1) .f_law_same [d, d] st = .ok (.bl true) st
  | 0, d, st, h => by
    cases d with
    | tup ds => simp [D.gd] at h
    | ref i => simp [D.gd] at h
    | ro ds => simp [D.gd] at h
    | non => simp [callN, tbl, fnM, m_f_law_same]
    | bl b => simp [callN, tbl, fnM, m_f_law_same]
    | int i => simp [callN, tbl, fnM, m_f_law_same]
    | str x => simp [callN, tbl, fnM, m_f_law_same]
  | n + 1, d, st, h => same_step (fun d h => l_same n d st h) h
theorem l_simple : ∀ (n : Nat) (s : Say) (st : Sto), Wf s → dep s ≤ n → n ≤ 50 → callN (n + 2) .simple [enc s] st = .ok (enc (simple s)) st
  | 0, s, _, _, h, _ => absurd (Nat.le_trans (dep_pos s) h) (by decide)
  | n + 1, s, st, hw, h, h5 => simple_step hw (by omega) (fun s st h => noth_ok h) (fun s st h => nums_ok (fun w a b st => two_ok) h) (fun a st hw ha => l_simple n a st hw (by omega) (by omega))
theorem l_lsimple : ∀ (n : Nat) (s : Say) (st : Sto), Wf s → dep s ≤ n → n ≤ 50 → ∃ st', callN (n + 1) .f_law_simple [enc s] st = .ok (enc (simple s)) st'
  | 0, s, _, _, h, _ => absurd (Nat.le_trans (dep_pos s) h) (by decide)
  | n + 1, s, st, hw, h, h5 => lsimple_step hw (by omega) (fun w a b st => ltwo_ok) (fun a st hw ha => l_lsimple n a st hw (by omega) (by omega))
theorem l_odd (n : Nat) (hn : 6 ≤ n) (cell : Int) (st : Sto) : ∃ s, Wf s ∧ dep s ≤ 3 ∧ callN n .f_law_odd [.int cell] st = .ok (enc s) st := by
  obtain ⟨k, rfl⟩ : ∃ k, n = k + 1 + 1 := ⟨n - 2, by omega⟩
  refine odd_ok (l_mix k) fun cell st => ?_
  obtain ⟨s, k1, k2, k3, k4⟩ := l_say 2 (k + 1) cell 3 st (by decide) (by decide) (by omega) (by decide)
  exact ⟨s, k1, k2, k4⟩
theorem law_true (ns : List Int) (h : ns.length ≤ 63) : ∃ st', callN lv .law [.ro (ns.map D.int)] [] = .ok (.bl true) st' := by
  show ∃ st', fnM 1 6 (m_law (callN 29 .f_law_cell) (callN 29 .f_law_odd) (callN 29 .f_law_same) (callN 29 .f_law_saying) (callN 29 .f_law_simple) (callN 29 .is_simple) (callN 29 .simple)) [.ro (ns.map D.int)] [] = .ok (.bl true) st'
  have hcell : ∀ k st, 0 ≤ k → ∃ c : Int, callN 29 .f_law_cell [.ro (ns.map D.int), .int k] st = .ok (.int c) st := fun k st h => cell_ok h
  have hodd := l_odd 29 (by decide)
  have hsay := fun cell st => l_say 3 29 cell 6 st (by decide) (by decide) (by decide) (by decide)
  have hsame := fun d st h => l_same 28 d st h
  have hls := fun s st h1 h2 => l_lsimple 28 s st h1 h2 (by decide)
  have hs := fun s st h1 h2 => l_simple 27 s st h1 h2 (by decide)
  have his : ∀ s st, Wf s → dep s ≤ 26 → callN 29 .is_simple [enc s] st = .ok (.bl (deq (enc (simple s)) (enc s))) st := fun s st h1 h2 => isSimple_ok (by omega) (l_simple 26 s st h1 h2 (by decide))
  generalize callN 29 .f_law_cell = c1 at *
  generalize callN 29 .f_law_odd = c2 at *
  generalize callN (28 + 1) .f_law_same = c3 at *
  generalize callN 29 .f_law_saying = c4 at *
  generalize callN (28 + 1) .f_law_simple = c5 at *
  generalize callN 29 .is_simple = c6 at *
  generalize callN (27 + 2) .simple = c7 at *
  -- the loop
  have turn : ∀ d ∈ rngD 0 16, ∀ (ev : Ev) (st : Sto), (∃ a b c d e, ev = [some (.ro (ns.map D.int)), a, b, c, d, e]) → ∃ ev1 ev2 st2, gtName 1 d ev = some ev1 ∧
      (mSeq (mSet 2 (mOp gAdd (mCall c1 (mCons (mVar 0) (mCons (mOp gMod (mVar 1) (mC (.int 9))) mNil))) (mOp gMul (mC (.int 31)) (mVar 1)))) (mSeq (mSet 3 (mIf (mTest (mOp gEq (mOp gMod (mVar 1) (mC (.int 2))) (mC (.int 0)))) (mCall c2 (mCons (mVar 2) mNil)) (mCall c4 (mCons (mVar 2) (mCons (mC (.int 3)) (mCons (mC (.int 6)) mNil)))))) (mSeq (mSet 4 (mCall c5 (mCons (mVar 3) mNil))) (mSeq (mIfS (mTNot (mTru (mCall c3 (mCons (mCall c7 (mCons (mVar 3) mNil)) (mCons (mVar 4) mNil))))) (mRet (mC (.bl false))) mSkip) (mSeq (mSet 5 (mCall c6 (mCons (mVar 3) mNil))) (mIfS (mTOr (mTAnd (mTest (mOp gNotN (mVar 5) (mC (.bl true)))) (mTest (mOp gEq (mVar 4) (mVar 3)))) (mTAnd (mTest (mOp gNotN (mVar 5) (mC (.bl false)))) (mTest (mOp gNe (mVar 4) (mVar 3))))) (mRet (mC (.bl false))) mSkip)))))) ev1 st = .ok (.nx, ev2) st2 ∧ (∃ a b c d e, ev2 = [some (.ro (ns.map D.int)), a, b, c, d, e]) := by
    rintro d hd ev st ⟨a, b, c, d', e, rfl⟩
    obtain ⟨i, hi⟩ := List.getElem?_of_mem hd
    obtain ⟨hi1, rfl⟩ := rngD_get hi
    obtain ⟨cv, hcv⟩ := hcell ((0 + (i : Int)) % 9) st (Int.emod_nonneg _ (by decide))
    have h64 : small64 31 = true := by decide
    obtain ⟨s, s1, s2, s3⟩ : ∃ s, Wf s ∧ dep s ≤ 3 ∧ (if (0 + (i : Int)) % 2 = 0 then c2 [.int (cv + 31 * (0 + (i : Int)))] st else c4 [.int (cv + 31 * (0 + (i : Int))), .int 3, .int 6] st) = .ok (enc s) st := by
      by_cases h : (0 + (i : Int)) % 2 = 0
      · rw [if_pos h]; exact hodd _ st
      · rw [if_neg h]
        obtain ⟨s, k1, k2, k3, k4⟩ := hsay (cv + 31 * (0 + (i : Int))) st
        exact ⟨s, k1, k2, k4⟩
    obtain ⟨st1, k5⟩ := hls s st s1 (by omega)
    have k7 := hs s st1 s1 (by omega)
    have dS := dep_simple s
    have k3 := hsame (enc (simple s)) st1 (gd_enc _ _ (by omega))
    have k6 := his s st1 s1 (by omega)
    have e1 := eq_enc (a := simple s) (b := s) (st := st1) (by omega) (by omega)
    have e2 := ne_enc (a := simple s) (b := s) (st := st1) (by omega) (by omega)
    refine ⟨_, [some (.ro (ns.map D.int)), some (.int (0 + (i : Int))), some (.int (cv + 31 * (0 + (i : Int)))), some (enc s), some (enc (simple s)), some (.bl (deq (enc (simple s)) (enc s)))], st1, rfl, ?_, ⟨_, _, _, _, _, rfl⟩⟩
    generalize deq (enc (simple s)) (enc s) = q at *
    by_cases h : (0 + (i : Int)) % 2 = 0
    · rw [if_pos h] at s3
      simp at hcv s3 h
      cases q <;> simp [hcv, h64, h, s3, k5, k7, k3, k6, e1, e2]
    · rw [if_neg h] at s3
      simp at hcv s3 h
      cases q <;> simp [hcv, h64, h, s3, k5, k7, k3, k6, e1, e2]
  obtain ⟨ev', st', hl, a, b, c, d, e, rfl⟩ := loop_inv turn [some (.ro (ns.map D.int)), none, none, none, none, none] [] ⟨_, _, _, _, _, rfl⟩
  have f1 := hs (.two .plus (.num 5) (.num 5)) st' ⟨⟨by decide, by decide⟩, ⟨by decide, by decide⟩⟩ (by decide)
  have f2 := hs (.two .less (.num 1) (.times 0 (.die 3 6))) st' ⟨⟨by decide, by decide⟩, ⟨by decide, by decide, ⟨by decide, by decide, by decide, by decide⟩⟩⟩ (by decide)
  have g1 : gNe (enc (simple (.two .plus (.num 5) (.num 5)))) (enc (.two .plus (.num 5) (.num 5))) st' = some (.bl false, st') := by
    rw [show simple (.two .plus (.num 5) (.num 5)) = .two .plus (.num 5) (.num 5) by simp [simple, nums, ofTwo, noth, isZ], ne_enc (by decide) (by decide)]
    simp [deq, enc, D.pd, pds, PyData.eqv, PyData.eqvAll]
  have g2 : gEq (enc (simple (.two .less (.num 1) (.times 0 (.die 3 6))))) (enc (.num 1)) st' = some (.bl true, st') := by
    rw [show simple (.two .less (.num 1) (.times 0 (.die 3 6))) = .num 1 by simp [simple, nums, ofTwo, noth, isZ], eq_enc (by decide) (by decide)]
    simp [deq, enc, D.pd, pds, PyData.eqv, PyData.eqvAll]
  simp only [enc, W2.s] at f1 f2 g1 g2
  refine ⟨st', ?_⟩
  have hl16 : (16 : Int) ≤ ((lim : Nat) : Int) := by decide
  simp only [fnM, m_law]
  simp [hl16, hl, f1, f2, g1, g2]
end L14

open PySem PySem.W PyProof.Rows
set_option maxRecDepth 100000 in
set_option maxHeartbeats 0 in
theorem PySem.Challenge.cw_diespeech_k14_simpler_holds : PySem.Challenge.rw_diespeech_k14_simpler.Holds := by
  w_on; o_law; k_head; (case hw => w_witness2)
  k_fill
  refine Ml.walk_m (l := PySem.Challenge.rw_diespeech_k14_simpler) (k := L14.lv) (c := L14.callN L14.lv .law) rfl rfl ⟨rfl, by decide, by decide⟩ (fun w h Y => PySem.W.kIn_of Y) ?F L14.law_true
  case F =>
    intro w mg fa h KX G hmg
    refine' L14.all_mk L14.lv KX G hmg ?a_f_of_two ?l_f_of_two ?c_f_of_two ?k_f_of_two ?a_f_of_numbers ?l_f_of_numbers ?c_f_of_numbers ?k_f_of_numbers ?a_f_of_nothing ?l_f_of_nothing ?c_f_of_nothing ?k_f_of_nothing ?a_f_simple ?l_f_simple ?c_f_simple ?k_f_simple ?a_f_is_simple ?l_f_is_simple ?c_f_is_simple ?k_f_is_simple ?a_f_f_law_cell ?l_f_f_law_cell ?c_f_f_law_cell ?k_f_f_law_cell ?a_f_f_law_mix ?l_f_f_law_mix ?c_f_f_law_mix ?k_f_f_law_mix ?a_f_f_law_same ?l_f_f_law_same ?c_f_f_law_same ?k_f_f_law_same ?a_f_f_law_dice ?l_f_f_law_dice ?c_f_f_law_dice ?k_f_f_law_dice ?a_f_f_law_many ?l_f_f_law_many ?c_f_f_law_many ?k_f_f_law_many ?a_f_f_law_saying ?l_f_f_law_saying ?c_f_f_law_saying ?k_f_f_law_saying ?a_f_f_law_two ?l_f_f_law_two ?c_f_f_law_two ?k_f_f_law_two ?a_f_f_law_simple ?l_f_f_law_simple ?c_f_f_law_simple ?k_f_f_law_simple ?a_f_f_law_odd ?l_f_f_law_odd ?c_f_f_law_odd ?k_f_f_law_odd ?a_f_law ?l_f_law ?c_f_law ?k_f_law ?z_all ?z_bool ?z_int ?z_isinstance ?z_len ?z_max ?z_min ?z_range ?z_sorted ?z_str ?z_sum ?z_tuple ?z_zip ?g_TWO ?l_TWO ?g_NOTHING ?l_NOTHING
    (case a_f_of_two => k_is)
    (case l_f_of_two => k_is)
    (case c_f_of_two => k_is)
    (case k_f_of_two => k_is)
    (case a_f_of_numbers => k_is)
    (case l_f_of_numbers => k_is)
    (case c_f_of_numbers => k_is)
    (case k_f_of_numbers => k_is)
    (case a_f_of_nothing => k_is)
    (case l_f_of_nothing => k_is)
    (case c_f_of_nothing => k_is)
    (case k_f_of_nothing => k_is)
    (case a_f_simple => k_is)
    (case l_f_simple => k_is)
    (case c_f_simple => k_is)
    (case k_f_simple => k_is)
    (case a_f_is_simple => k_is)
    (case l_f_is_simple => k_is)
    (case c_f_is_simple => k_is)
    (case k_f_is_simple => k_is)
    (case a_f_f_law_cell => k_is)
    (case l_f_f_law_cell => k_is)
    (case c_f_f_law_cell => k_is)
    (case k_f_f_law_cell => k_is)
    (case a_f_f_law_mix => k_is)
    (case l_f_f_law_mix => k_is)
    (case c_f_f_law_mix => k_is)
    (case k_f_f_law_mix => k_is)
    (case a_f_f_law_same => k_is)
    (case l_f_f_law_same => k_is)
    (case c_f_f_law_same => k_is)
    (case k_f_f_law_same => k_is)
    (case a_f_f_law_dice => k_is)
    (case l_f_f_law_dice => k_is)
    (case c_f_f_law_dice => k_is)
    (case k_f_f_law_dice => k_is)
    (case a_f_f_law_many => k_is)
    (case l_f_f_law_many => k_is)
    (case c_f_f_law_many => k_is)
    (case k_f_f_law_many => k_is)
    (case a_f_f_law_saying => k_is)
    (case l_f_f_law_saying => k_is)
    (case c_f_f_law_saying => k_is)
    (case k_f_f_law_saying => k_is)
    (case a_f_f_law_two => k_is)
    (case l_f_f_law_two => k_is)
    (case c_f_f_law_two => k_is)
    (case k_f_f_law_two => k_is)
    (case a_f_f_law_simple => k_is)
    (case l_f_f_law_simple => k_is)
    (case c_f_f_law_simple => k_is)
    (case k_f_f_law_simple => k_is)
    (case a_f_f_law_odd => k_is)
    (case l_f_f_law_odd => k_is)
    (case c_f_f_law_odd => k_is)
    (case k_f_f_law_odd => k_is)
    (case a_f_law => k_is)
    (case l_f_law => k_is)
    (case c_f_law => k_is)
    (case k_f_law => k_is)
    (case z_all => k_is)
    (case z_bool => k_is)
    (case z_int => k_is)
    (case z_isinstance => k_is)
    (case z_len => k_is)
    (case z_max => k_is)
    (case z_min => k_is)
    (case z_range => k_is)
    (case z_sorted => k_is)
    (case z_str => k_is)
    (case z_sum => k_is)
    (case z_tuple => k_is)
    (case z_zip => k_is)
    (case g_TWO => k_is)
    (case l_TWO => k_is)
    (case g_NOTHING => k_is)
    (case l_NOTHING => k_is)
#print axioms PySem.Challenge.cw_diespeech_k14_simpler_holds
