import PyProof.Rows.All
import Wide.All
import OpenK.AllK
import Wide.FinOn
import HandS.ForMost
import HandS.SortInts
import HandS.TupAny
import HandS.IsInst
import HandS.Wide
import HandS.Flow
import HandS.More
import HandS.Zip
import HandS.ExcValue
import HandS.Style
import HandS.Conv
import KE.KTupSum
import KE.KDictDisplayH
import KE.KRevSl
import HandS.Deep
import KE.GoesMore
import HandS.Exc
import HandS.TryOnly
import HandS.ExcOwn
import HandS.WordsExc
import HandS.Text
import HandS.ExcIs
import PySem.Challenge.RW_diespeech_k13_whole_no_other_texts
set_option Elab.async false
set_option linter.all false
set_option autoImplicit false
set_option maxRecDepth 100000
set_option maxHeartbeats 8000000
/-! Ml: a small functional reading of the program's Python over data without addresses (D), a store of mutable things (Sto);
    tE, tT, tA, tS turn a reading into one of the hand layer's. -/
namespace Ml
open PySem L2

inductive D where
  | non | bl (b : Bool) | int (i : Int) | str (x : Str) | tup (ds : List D) | ref (i : Nat) | ro (ds : List D)
inductive Ob where
  | ro (ds : List D) | lst (ds : List D) | dK (lk : Bool) (kvs : List (Key × D)) | dT (lk : Bool) (kvs : List (List Key × D)) | ins (c : Str) (fs : List (Str × D)) | exc (c : Str)
abbrev Ev := List (Option D)
abbrev Sto := List Ob
inductive Rs (α : Type) where
  | bad | ok (a : α) (st : Sto) | exc (c : Str) (ev : Ev) (st : Sto)
abbrev Mo (α : Type) := Ev → Sto → Rs α
def Rs.bind {α β : Type} (r : Rs α) (f : α → Sto → Rs β) : Rs β := match r with
  | .bad => .bad
  | .ok a st => f a st
  | .exc c e s => .exc c e s
@[simp] theorem Rs.bind_ok {α β : Type} (a : α) (st : Sto) (f : α → Sto → Rs β) : (Rs.ok a st).bind f = f a st := rfl
@[simp] theorem Rs.bind_bad {α β : Type} (f : α → Sto → Rs β) : (Rs.bad : Rs α).bind f = .bad := rfl
@[simp] theorem Rs.bind_exc {α β : Type} (c : Str) (e : Ev) (s : Sto) (f : α → Sto → Rs β) : (Rs.exc c e s : Rs α).bind f = .exc c e s := rfl

/-! ### what stands for what -/
def TupAt (K : PySem.W.Frag) (H : Hp) (a : Addr) (vs : List V) : Prop :=
  H a = some (.tup vs) ∨ ((∃ x, V.str x ∈ vs) ∧ ∃ (o : Obj) (its : Array Value) (n : Nat), K.lookup a = some o ∧ o.cls = .type "tuple" ∧ o.data = .seq its n ∧ its.size ≤ sizeLine ∧ Vals vs its.toList)
theorem TupAt.sq {K : PySem.W.Frag} {H : Hp} {a : Addr} {vs : List V} (h : TupAt K H a vs) : SqT K H a vs := h.imp (fun q => .inl q) (·.2)
/-- a list that nobody changes (the script) -/
def RoAt (K : PySem.W.Frag) (H : Hp) (mu : List Addr) (a : Addr) (vs : List V) : Prop :=
  (∃ o, H a = some (.frz o (.lst vs)) ∧ a ∉ mu) ∨ ∃ (o : Obj) (its : Array Value) (n : Nat), K.lookup a = some o ∧ o.cls = .type "list" ∧ o.dict = none ∧ o.data = .seq its n ∧ its.size ≤ sizeLine ∧ Vals vs its.toList
theorem RoAt.sq {K : PySem.W.Frag} {H : Hp} {mu : List Addr} {a : Addr} {vs : List V} (h : RoAt K H mu a vs) : SqL K H a vs := h.imp (fun ⟨o, q, _⟩ => .inr ⟨o, q⟩) id
mutual
inductive Rp (K : PySem.W.Frag) (H : Hp) (mu : List Addr) : V → D → Prop
  | non : Rp K H mu .non .non
  | bl (b : Bool) : Rp K H mu (.bl b) (.bl b)
  | int (i : Int) : Rp K H mu (.int i) (.int i)
  | str (x : Str) : Rp K H mu (.str x) (.str x)
  | tup {a : Addr} {vs : List V} {ds : List D} (h : TupAt K H a vs) (hs : Rps K H mu vs ds) : Rp K H mu (.ref a) (.tup ds)
  | ref {i : Nat} {a : Addr} (h : mu[i]? = some a) : Rp K H mu (.ref a) (.ref i)
  | ro {a : Addr} {vs : List V} {ds : List D} (h : RoAt K H mu a vs) (hs : Rps K H mu vs ds) : Rp K H mu (.ref a) (.ro ds)
inductive Rps (K : PySem.W.Frag) (H : Hp) (mu : List Addr) : List V → List D → Prop
  | nil : Rps K H mu [] []
  | cons {v : V} {d : D} {vs : List V} {ds : List D} (h : Rp K H mu v d) (hs : Rps K H mu vs ds) : Rps K H mu (v :: vs) (d :: ds)
end
/-- from (mu, H) on: new things may have come, the store's own things may have changed, all else stands -/
structure Ext (mu : List Addr) (H : Hp) (mu' : List Addr) (H' : Hp) : Prop where
  pre : ∃ r, mu' = mu ++ r
  tup : ∀ a vs, H a = some (.tup vs) → H' a = some (.tup vs)
  keep : ∀ a o, H a = some o → a ∉ mu → H' a = some o ∧ a ∉ mu'
  dom : ∀ a, H' a = none → H a = none
  frz : ∀ a o u, H a = some (.frz o u) → H' a = some (.frz o u)
theorem Ext.refl {mu : List Addr} {H : Hp} : Ext mu H mu H := ⟨⟨[], by simp⟩, fun _ _ h => h, fun _ _ h n => ⟨h, n⟩, fun _ h => h, fun _ _ _ h => h⟩
theorem upd_dom {H : Hp} {p : Addr} {o : HO} (a : Addr) (h : upd H p o a = none) : H a = none := by
  unfold upd at h
  split at h
  · cases h
  · exact h
theorem Ext.trans {mu mu1 mu2 : List Addr} {H H1 H2 : Hp} (a : Ext mu H mu1 H1) (b : Ext mu1 H1 mu2 H2) : Ext mu H mu2 H2 := by
  obtain ⟨r, e⟩ := a.pre
  obtain ⟨r', e'⟩ := b.pre
  refine ⟨⟨r ++ r', by rw [e', e, List.append_assoc]⟩, fun c vs h => b.tup c vs (a.tup c vs h), fun c o h n => ?_, fun c h => a.dom c (b.dom c h), fun c o u h => b.frz c o u (a.frz c o u h)⟩
  obtain ⟨h1, n1⟩ := a.keep c o h n
  exact b.keep c o h1 n1
structure Ext0 (mu : List Addr) (H : Hp) (mu' : List Addr) (H' : Hp) : Prop where
  pre : ∃ r, mu' = mu ++ r
  tup : ∀ a vs, H a = some (.tup vs) → H' a = some (.tup vs)
  ro : ∀ a o vs, H a = some (.frz o (.lst vs)) → a ∉ mu → H' a = some (.frz o (.lst vs)) ∧ a ∉ mu'
theorem Ext.e0 {mu mu' : List Addr} {H H' : Hp} (e : Ext mu H mu' H') : Ext0 mu H mu' H' := ⟨e.pre, e.tup, fun a o vs h n => e.keep a _ h n⟩
theorem Ext0.roAt {K : PySem.W.Frag} {mu mu' : List Addr} {H H' : Hp} (e : Ext0 mu H mu' H') {a : Addr} {vs : List V} (h : RoAt K H mu a vs) : RoAt K H' mu' a vs := h.imp (fun ⟨o, h, n⟩ => ⟨o, e.ro a o vs h n⟩) id
theorem Ext0.at {mu mu' : List Addr} {H H' : Hp} (e : Ext0 mu H mu' H') {i : Nat} {a : Addr} (h : mu[i]? = some a) : mu'[i]? = some a := by
  obtain ⟨r, q⟩ := e.pre
  rw [q, List.getElem?_append_left (List.getElem?_eq_some_iff.mp h).1]
  exact h
theorem Ext.at {mu mu' : List Addr} {H H' : Hp} (e : Ext mu H mu' H') {i : Nat} {a : Addr} (h : mu[i]? = some a) : mu'[i]? = some a := e.e0.at h
theorem Ext0.tupAt {K : PySem.W.Frag} {mu mu' : List Addr} {H H' : Hp} (e : Ext0 mu H mu' H') {a : Addr} {vs : List V} (h : TupAt K H a vs) : TupAt K H' a vs := h.imp (e.tup a vs) id
theorem Ext.tupAt {K : PySem.W.Frag} {mu mu' : List Addr} {H H' : Hp} (e : Ext mu H mu' H') {a : Addr} {vs : List V} (h : TupAt K H a vs) : TupAt K H' a vs := e.e0.tupAt h
mutual
theorem Rp.mono0 {K : PySem.W.Frag} {mu mu' : List Addr} {H H' : Hp} (e : Ext0 mu H mu' H') : ∀ {v : V} {d : D}, Rp K H mu v d → Rp K H' mu' v d
  | _, _, .non => .non
  | _, _, .bl b => .bl b
  | _, _, .int i => .int i
  | _, _, .str x => .str x
  | _, _, .tup h hs => .tup (e.tupAt h) (Rps.mono0 e hs)
  | _, _, .ref h => .ref (e.at h)
  | _, _, .ro h hs => .ro (e.roAt h) (Rps.mono0 e hs)
theorem Rps.mono0 {K : PySem.W.Frag} {mu mu' : List Addr} {H H' : Hp} (e : Ext0 mu H mu' H') : ∀ {vs : List V} {ds : List D}, Rps K H mu vs ds → Rps K H' mu' vs ds
  | _, _, .nil => .nil
  | _, _, .cons h hs => .cons (Rp.mono0 e h) (Rps.mono0 e hs)
end
theorem Rp.mono {K : PySem.W.Frag} {mu mu' : List Addr} {H H' : Hp} (e : Ext mu H mu' H') {v : V} {d : D} (h : Rp K H mu v d) : Rp K H' mu' v d := h.mono0 e.e0
theorem Rps.mono {K : PySem.W.Frag} {mu mu' : List Addr} {H H' : Hp} (e : Ext mu H mu' H') {vs : List V} {ds : List D} (h : Rps K H mu vs ds) : Rps K H' mu' vs ds := h.mono0 e.e0
theorem Rps.length {K : PySem.W.Frag} {H : Hp} {mu : List Addr} : ∀ {vs : List V} {ds : List D}, Rps K H mu vs ds → vs.length = ds.length
  | _, _, .nil => rfl
  | _, _, .cons _ hs => by simp [Rps.length hs]
theorem Rps.get {K : PySem.W.Frag} {H : Hp} {mu : List Addr} : ∀ {vs : List V} {ds : List D} {i : Nat} {d : D}, Rps K H mu vs ds → ds[i]? = some d → ∃ v, vs[i]? = some v ∧ Rp K H mu v d
  | _, _, i, _, .nil, e => by simp at e
  | _, _, 0, _, .cons h _, e => by simp at e; subst e; exact ⟨_, by simp, h⟩
  | _, _, i + 1, _, .cons _ hs, e => by
    obtain ⟨v, h1, h2⟩ := Rps.get (i := i) hs (by simpa using e)
    exact ⟨v, by simpa using h1, h2⟩
theorem Rps.getV {K : PySem.W.Frag} {H : Hp} {mu : List Addr} : ∀ {vs : List V} {ds : List D} {i : Nat} {v : V}, Rps K H mu vs ds → vs[i]? = some v → ∃ d, ds[i]? = some d ∧ Rp K H mu v d
  | _, _, i, _, .nil, e => by simp at e
  | _, _, 0, _, .cons h _, e => by simp at e; subst e; exact ⟨_, by simp, h⟩
  | _, _, i + 1, _, .cons _ hs, e => by
    obtain ⟨v, h1, h2⟩ := Rps.getV (i := i) hs (by simpa using e)
    exact ⟨v, by simpa using h1, h2⟩
theorem Rps.append {K : PySem.W.Frag} {H : Hp} {mu : List Addr} : ∀ {vs ws : List V} {ds es : List D}, Rps K H mu vs ds → Rps K H mu ws es → Rps K H mu (vs ++ ws) (ds ++ es)
  | _, _, _, _, .nil, h => h
  | _, _, _, _, .cons h hs, q => .cons h (Rps.append hs q)
theorem Rps.take {K : PySem.W.Frag} {H : Hp} {mu : List Addr} : ∀ {vs : List V} {ds : List D} (n : Nat), Rps K H mu vs ds → Rps K H mu (vs.take n) (ds.take n)
  | _, _, 0, _ => .nil
  | _, _, _ + 1, .nil => .nil
  | _, _, n + 1, .cons h hs => .cons h (Rps.take n hs)
theorem Rps.drop {K : PySem.W.Frag} {H : Hp} {mu : List Addr} : ∀ {vs : List V} {ds : List D} (n : Nat), Rps K H mu vs ds → Rps K H mu (vs.drop n) (ds.drop n)
  | _, _, 0, h => h
  | _, _, _ + 1, .nil => .nil
  | _, _, n + 1, .cons _ hs => Rps.drop n hs
theorem Rps.set {K : PySem.W.Frag} {H : Hp} {mu : List Addr} {v : V} {d : D} (q : Rp K H mu v d) : ∀ {vs : List V} {ds : List D} (n : Nat), Rps K H mu vs ds → Rps K H mu (vs.set n v) (ds.set n d)
  | _, _, _, .nil => .nil
  | _, _, 0, .cons _ hs => .cons q hs
  | _, _, n + 1, .cons h hs => .cons h (Rps.set q n hs)
theorem Rps.reverse {K : PySem.W.Frag} {H : Hp} {mu : List Addr} : ∀ {vs : List V} {ds : List D}, Rps K H mu vs ds → Rps K H mu vs.reverse ds.reverse
  | _, _, .nil => .nil
  | _, _, .cons h hs => by
    rw [List.reverse_cons, List.reverse_cons]
    exact (Rps.reverse hs).append (.cons h .nil)
/-- pairs of a dict -/
def KD {κ : Type} (K : PySem.W.Frag) (H : Hp) (mu : List Addr) : List (κ × V) → List (κ × D) → Prop := Paired fun p q => p.1 = q.1 ∧ Rp K H mu p.2 q.2
theorem KD.mono0 {κ : Type} {K : PySem.W.Frag} {mu mu' : List Addr} {H H' : Hp} (e : Ext0 mu H mu' H') {ps : List (κ × V)} {qs : List (κ × D)} (h : KD K H mu ps qs) : KD K H' mu' ps qs :=
  Paired.mapP h fun _ _ ⟨a, b⟩ => ⟨a, b.mono0 e⟩
theorem KD.mono {κ : Type} {K : PySem.W.Frag} {mu mu' : List Addr} {H H' : Hp} (e : Ext mu H mu' H') {ps : List (κ × V)} {qs : List (κ × D)} (h : KD K H mu ps qs) : KD K H' mu' ps qs := h.mono0 e.e0
/-- the module's class of that name -/
def clsIn (K : PySem.W.Frag) (c : Str) (C : Addr) : Prop := PySem.W.nsIn K mainGlobals c = some (some (.ref C))
/-- an exception object of the class cls at a, held as a value -/
def ExK (cls : Value) (a : Addr) : HO := .ext fun h => ∃ (oe : Obj) (vs : Array Value), h.get? a = some oe ∧ Zc cls none oe ∧ oe.data = .fields vs
/-- one thing of the store -/
def ObOk (K : PySem.W.Frag) (H : Hp) (mu : List Addr) (a : Addr) : Ob → Prop
  | .ro ds => ∃ o vs, H a = some (.frz o (.lst vs)) ∧ Rps K H mu vs ds
  | .lst ds => ∃ vs, H a = some (.lst vs) ∧ Rps K H mu vs ds
  | .dK true kvs => ∃ o ws, H a = some (.frz o (.dK ws)) ∧ KD K H mu ws kvs
  | .dK false kvs => ∃ ws, H a = some (.dK ws) ∧ KD K H mu ws kvs
  | .dT true kvs => ∃ o ws, H a = some (.frz o (.dT ws)) ∧ KD K H mu ws kvs
  | .dT false kvs => ∃ ws, H a = some (.dT ws) ∧ KD K H mu ws kvs
  | .ins c fs => ∃ C dx vs, clsIn K c C ∧ H a = some (.ins C dx vs) ∧ KD K H mu vs fs
  | .exc c => ∃ C, clsIn K c C ∧ H a = some (ExK (.ref C) a)
theorem ObOk.some {K : PySem.W.Frag} {H : Hp} {mu : List Addr} {a : Addr} {o : Ob} (h : ObOk K H mu a o) : ∃ u, H a = some u ∧ ∀ vs, u ≠ .tup vs := by
  cases o with
  | ro ds =>
    obtain ⟨o, vs, h, _⟩ := h
    exact ⟨_, h, fun _ z => by cases z⟩
  | lst ds => obtain ⟨vs, h, _⟩ := h; exact ⟨_, h, fun _ z => by cases z⟩
  | dK lk kvs => cases lk with
    | true => obtain ⟨o, ws, h, _⟩ := h; exact ⟨_, h, fun _ z => by cases z⟩
    | false => obtain ⟨ws, h, _⟩ := h; exact ⟨_, h, fun _ z => by cases z⟩
  | dT lk kvs => cases lk with
    | true => obtain ⟨o, ws, h, _⟩ := h; exact ⟨_, h, fun _ z => by cases z⟩
    | false => obtain ⟨ws, h, _⟩ := h; exact ⟨_, h, fun _ z => by cases z⟩
  | ins c fs => obtain ⟨C, dx, vs, _, h, _⟩ := h; exact ⟨_, h, fun _ z => by cases z⟩
  | exc c => obtain ⟨C, _, h⟩ := h; exact ⟨_, h, fun _ z => by cases z⟩
/-- its own object stands, the rest by Ext -/
theorem ObOk.mono0 {K : PySem.W.Frag} {mu mu' : List Addr} {H H' : Hp} (e : Ext0 mu H mu' H') {a : Addr} (ha : H' a = H a) {o : Ob} (h : ObOk K H mu a o) : ObOk K H' mu' a o := by
  cases o with
  | ro ds =>
    obtain ⟨o, vs, h, r⟩ := h
    exact ⟨o, vs, ha.trans h, r.mono0 e⟩
  | lst ds => obtain ⟨vs, h, r⟩ := h; exact ⟨vs, ha.trans h, r.mono0 e⟩
  | dK lk kvs => cases lk with
    | true => obtain ⟨o, ws, h, r⟩ := h; exact ⟨o, ws, ha.trans h, r.mono0 e⟩
    | false => obtain ⟨ws, h, r⟩ := h; exact ⟨ws, ha.trans h, r.mono0 e⟩
  | dT lk kvs => cases lk with
    | true => obtain ⟨o, ws, h, r⟩ := h; exact ⟨o, ws, ha.trans h, r.mono0 e⟩
    | false => obtain ⟨ws, h, r⟩ := h; exact ⟨ws, ha.trans h, r.mono0 e⟩
  | ins c fs => obtain ⟨C, dx, vs, k, h, r⟩ := h; exact ⟨C, dx, vs, k, ha.trans h, r.mono0 e⟩
  | exc c => obtain ⟨C, k, h⟩ := h; exact ⟨C, k, ha.trans h⟩
theorem ObOk.mono {K : PySem.W.Frag} {mu mu' : List Addr} {H H' : Hp} (e : Ext mu H mu' H') {a : Addr} (ha : H' a = H a) {o : Ob} (h : ObOk K H mu a o) : ObOk K H' mu' a o := h.mono0 e.e0 ha
structure RelSt (K : PySem.W.Frag) (H : Hp) (mu : List Addr) (st : Sto) : Prop where
  len : mu.length = st.length
  nd : mu.Nodup
  ob : ∀ (i : Nat) (a : Addr) (o : Ob), mu[i]? = some a → st[i]? = some o → ObOk K H mu a o
theorem RelSt.at {K : PySem.W.Frag} {H : Hp} {mu : List Addr} {st : Sto} (r : RelSt K H mu st) {i : Nat} {a : Addr} (h : mu[i]? = some a) : ∃ o, st[i]? = some o ∧ ObOk K H mu a o := by
  have hi : i < st.length := by rw [← r.len]; exact (List.getElem?_eq_some_iff.mp h).1
  exact ⟨st[i], List.getElem?_eq_getElem hi, r.ob i a _ h (List.getElem?_eq_getElem hi)⟩
theorem RelSt.notup {K : PySem.W.Frag} {H : Hp} {mu : List Addr} {st : Sto} (r : RelSt K H mu st) {a : Addr} (h : a ∈ mu) : ∃ u, H a = some u ∧ ∀ vs, u ≠ .tup vs := by
  obtain ⟨i, hi⟩ := List.getElem?_of_mem h
  obtain ⟨o, _, ok⟩ := r.at hi
  exact ok.some
theorem nodup_at {mu : List Addr} (hN : mu.Nodup) {i j : Nat} {x : Addr} (a : mu[i]? = some x) (b : mu[j]? = some x) : i = j := by
  obtain ⟨h1, e1⟩ := List.getElem?_eq_some_iff.mp a
  obtain ⟨h2, e2⟩ := List.getElem?_eq_some_iff.mp b
  exact (List.getElem_inj hN).mp (e1.trans e2.symm)
/-- a new thing that is not the store's -/
theorem ext_new {mu : List Addr} {H : Hp} {p : Addr} (hp : H p = none) (o : HO) : Ext mu H mu (upd H p o) :=
  ⟨⟨[], by simp⟩, fun a vs h => by rw [upd_ne (ne_of_none h hp)]; exact h, fun a u h n => ⟨by rw [upd_ne (ne_of_none h hp)]; exact h, n⟩, upd_dom, fun a o u h => by rw [upd_ne (ne_of_none h hp)]; exact h⟩
theorem RelSt.new {K : PySem.W.Frag} {H : Hp} {mu : List Addr} {st : Sto} (r : RelSt K H mu st) {p : Addr} (hp : H p = none) (o : HO) : RelSt K (upd H p o) mu st :=
  ⟨r.len, r.nd, fun i a ob h1 h2 => by
    have k := r.ob i a ob h1 h2
    obtain ⟨u, hu, _⟩ := k.some
    exact k.mono (ext_new hp o) (upd_ne (ne_of_none hu hp))⟩
/-- a thing that stands becomes the store's -/
theorem ext_push {mu : List Addr} {H : Hp} {p : Addr} (hp : H p = none) (o : HO) : Ext mu H (mu ++ [p]) (upd H p o) :=
  ⟨⟨[p], rfl⟩, fun a vs h => by rw [upd_ne (ne_of_none h hp)]; exact h, fun a u h n => ⟨by rw [upd_ne (ne_of_none h hp)]; exact h, by simp only [List.mem_append, List.mem_singleton, not_or]; exact ⟨n, ne_of_none h hp⟩⟩, upd_dom, fun a o u h => by rw [upd_ne (ne_of_none h hp)]; exact h⟩
theorem RelSt.fresh {K : PySem.W.Frag} {H : Hp} {mu : List Addr} {st : Sto} (r : RelSt K H mu st) {p : Addr} (hp : H p = none) : p ∉ mu := fun h => by
  obtain ⟨u, hu, _⟩ := r.notup h
  rw [hp] at hu; cases hu
theorem RelSt.push {K : PySem.W.Frag} {H : Hp} {mu : List Addr} {st : Sto} (r : RelSt K H mu st) {p : Addr} (hp : H p = none) {o : HO} {ob : Ob} (h : ObOk K (upd H p o) (mu ++ [p]) p ob) : RelSt K (upd H p o) (mu ++ [p]) (st ++ [ob]) := by
  refine ⟨by simp [r.len], ?_, fun i a u h1 h2 => ?_⟩
  · rw [List.nodup_append]
    refine ⟨r.nd, by simp, fun a ha b hb => ?_⟩
    simp only [List.mem_singleton] at hb
    subst hb
    intro e; subst e
    exact r.fresh hp ha
  · by_cases hi : i < mu.length
    · rw [List.getElem?_append_left hi] at h1
      rw [List.getElem?_append_left (by rw [← r.len]; exact hi)] at h2
      have k := r.ob i a u h1 h2
      obtain ⟨w, hw, _⟩ := k.some
      exact k.mono (ext_push hp o) (upd_ne (ne_of_none hw hp))
    · have hl := (List.getElem?_eq_some_iff.mp h1).1
      simp at hl
      have e : i = mu.length := by omega
      subst e
      rw [List.getElem?_append_right (Nat.le_refl _)] at h1
      rw [r.len, List.getElem?_append_right (Nat.le_refl _)] at h2
      simp at h1 h2
      subst h1; subst h2
      exact h
/-- an untracked (temporary) thing that stands becomes the store's -/
theorem ext_adopt {mu mu1 : List Addr} {H H' : Hp} {p : Addr} (e : Ext mu H mu1 H') (hp : H p = none) : Ext mu H (mu1 ++ [p]) H' := by
  obtain ⟨r, er⟩ := e.pre
  exact ⟨⟨r ++ [p], by rw [er, List.append_assoc]⟩, e.tup, fun a u h n => ⟨(e.keep a u h n).1, by simp only [List.mem_append, List.mem_singleton, not_or]; exact ⟨(e.keep a u h n).2, ne_of_none h hp⟩⟩, e.dom, e.frz⟩
/-- a thing of the store changes -/
theorem ext_write {K : PySem.W.Frag} {H : Hp} {mu : List Addr} {st : Sto} (r : RelSt K H mu st) {p : Addr} (hp : p ∈ mu) (hf : ∀ ob w, H p ≠ some (.frz ob w)) (o : HO) : Ext mu H mu (upd H p o) := by
  obtain ⟨u, hu, nt⟩ := r.notup hp
  exact ⟨⟨[], by simp⟩, fun a vs h => by
      rw [upd_ne]; exact h
      intro e; subst e; rw [h] at hu; cases hu; exact nt _ rfl,
    fun a w h n => ⟨by rw [upd_ne]; exact h; intro e; subst e; exact n hp, n⟩, upd_dom, fun a ob w h => by rw [upd_ne]; exact h; intro e; subst e; exact hf _ _ h⟩
theorem RelSt.write {K : PySem.W.Frag} {H : Hp} {mu : List Addr} {st : Sto} (r : RelSt K H mu st) {i : Nat} {p : Addr} (hi : mu[i]? = some p) {o : HO} {ob : Ob} (h : ObOk K (upd H p o) mu p ob) : RelSt K (upd H p o) mu (st.set i ob) := by
  have e0 : Ext0 mu H mu (upd H p o) := by
    obtain ⟨u, hu, nt⟩ := r.notup (List.mem_of_getElem? hi)
    exact ⟨⟨[], by simp⟩, fun a vs h' => by
      rw [upd_ne]; exact h'
      intro e; subst e; rw [h'] at hu; cases hu; exact nt _ rfl,
      fun a ob vs h' n => ⟨by rw [upd_ne]; exact h'; intro e; subst e; exact n (List.mem_of_getElem? hi), n⟩⟩
  refine ⟨by simp [r.len], r.nd, fun j a u h1 h2 => ?_⟩
  by_cases hj : j = i
  · subst hj
    rw [hi] at h1; cases h1
    rw [List.getElem?_set_self (by rw [← r.len]; exact (List.getElem?_eq_some_iff.mp hi).1)] at h2
    cases h2
    exact h
  · rw [List.getElem?_set_ne (Ne.symm hj)] at h2
    refine (r.ob j a u h1 h2).mono0 e0 (upd_ne ?_)
    intro e; subst e
    exact hj (nodup_at r.nd h1 hi)
/-- the frame's slots -/
def RelEv (K : PySem.W.Frag) (H : Hp) (mu : List Addr) (σ : L2.St) (ev : Ev) : Prop := σ.length = ev.length ∧ ∀ (i : Nat) (d : D), ev[i]? = some (some d) → ∃ v, σ[i]? = some (some v) ∧ Rp K H mu v d
theorem RelEv.mono {K : PySem.W.Frag} {mu mu' : List Addr} {H H' : Hp} {σ : L2.St} {ev : Ev} (r : RelEv K H mu σ ev) (e : Ext mu H mu' H') : RelEv K H' mu' σ ev :=
  ⟨r.1, fun i d h => let ⟨v, a, b⟩ := r.2 i d h; ⟨v, a, b.mono e⟩⟩
theorem RelEv.set {K : PySem.W.Frag} {mu : List Addr} {H : Hp} {σ : L2.St} {ev : Ev} (r : RelEv K H mu σ ev) {v : V} {d : D} (h : Rp K H mu v d) (i : Nat) : RelEv K H mu (σ.set i (some v)) (ev.set i (some d)) := by
  refine ⟨by simp [r.1], fun j e q => ?_⟩
  by_cases hj : i = j
  · subst hj
    have hl : i < ev.length := by
      have := (List.getElem?_eq_some_iff.mp q).1
      simpa using this
    rw [List.getElem?_set_self hl] at q
    cases q
    exact ⟨v, List.getElem?_set_self (by rw [r.1]; exact hl), h⟩
  · rw [List.getElem?_set_ne hj] at q ⊢
    exact r.2 j e q

/-! ### readings -/
abbrev Wx := Str → L2.St → Hp → Prop
/-- how what an expression gives stands for what its reading gives; H: where it began -/
structure RR (ξ α : Type) where
  r : Hp → Hp → List Addr → Sto → ξ → α → Prop
  anti : ∀ {mu mu1 mu2 : List Addr} {H H1 H2 : Hp} {st : Sto} {x : ξ} {a : α}, Ext mu H mu1 H1 → r H1 H2 mu2 st x a → r H H2 mu2 st x a
def Post {ξ α : Type} (K : PySem.W.Frag) (W : Wx) (R : RR ξ α) (mu : List Addr) (H : Hp) (r : Rs α) (Q : ξ → Hp → Prop) : Prop := match r with
  | .bad => False
  | .ok a st' => ∀ mu' x H', Ext mu H mu' H' → R.r H H' mu' st' x a → RelSt K H' mu' st' → Q x H'
  | .exc c ev' st' => ∀ mu' σ' H', Ext mu H mu' H' → RelEv K H' mu' σ' ev' → RelSt K H' mu' st' → W c σ' H'
theorem Post.from {ξ α : Type} {K : PySem.W.Frag} {W : Wx} {R : RR ξ α} {mu mu1 : List Addr} {H H1 : Hp} {r : Rs α} {Q : ξ → Hp → Prop} (h : Post K W R mu H r Q) (e : Ext mu H mu1 H1) : Post K W R mu1 H1 r Q := by
  cases r with
  | bad => exact h
  | ok a st => exact fun mu' x H' e' q => h mu' x H' (e.trans e') (R.anti e q)
  | exc c ev st => exact fun mu' σ' H' e' => h mu' σ' H' (e.trans e')
theorem Post.bind {ξ ζ α β : Type} {K : PySem.W.Frag} {W : Wx} {R : RR ξ α} {S : RR ζ β} {mu : List Addr} {H : Hp} {r : Rs α} {f : α → Sto → Rs β} {Q : ζ → Hp → Prop} {Q1 : ξ → Hp → Prop}
    (h : Post K W S mu H (r.bind f) Q)
    (k : ∀ a st1 mu1 x H1, r = .ok a st1 → Ext mu H mu1 H1 → R.r H H1 mu1 st1 x a → RelSt K H1 mu1 st1 → Post K W S mu1 H1 (f a st1) Q → Q1 x H1) : Post K W R mu H r Q1 := by
  cases r with
  | bad => exact h
  | ok a st => exact fun mu1 x H1 e r1 s1 => k a st mu1 x H1 rfl e r1 s1 (Post.from h e)
  | exc c ev st => exact h
def tG {ξ α : Type} (K : PySem.W.Frag) (W : Wx) (R : RR ξ α) (m : Mo α) : L2.St → Hp → (ξ → Hp → Prop) → Prop := fun σ H Q =>
  ∃ mu ev st, RelEv K H mu σ ev ∧ RelSt K H mu st ∧ Post K W R mu H (m ev st) Q
def RE (K : PySem.W.Frag) : RR V D := ⟨fun _ H mu _ v d => Rp K H mu v d, fun _ h => h⟩
def RB : RR Bool Bool := ⟨fun _ _ _ _ v d => v = d, fun _ h => h⟩
def RA (K : PySem.W.Frag) : RR (List V) (List D) := ⟨fun _ H mu _ v d => Rps K H mu v d, fun _ h => h⟩
/-- a new list that nobody holds yet -/
def RL (K : PySem.W.Frag) : RR V (List D) := ⟨fun H0 H mu _ v ds => ∃ p vs, v = .ref p ∧ H0 p = none ∧ H p = some (.lst vs) ∧ p ∉ mu ∧ Rps K H mu vs ds, fun e ⟨p, vs, a, b, c⟩ => ⟨p, vs, a, e.dom p b, c⟩⟩
abbrev tE (K : PySem.W.Frag) (W : Wx) (m : Mo D) : TE := tG K W (RE K) m
abbrev tT (K : PySem.W.Frag) (W : Wx) (m : Mo Bool) : TT := tG K W RB m
abbrev tA (K : PySem.W.Frag) (W : Wx) (m : Mo (List D)) : TA := tG K W (RA K) m
abbrev tL (K : PySem.W.Frag) (W : Wx) (m : Mo (List D)) : TE := tG K W (RL K) m
inductive Fl where
  | nx | rt (d : D) | bk | ct
abbrev Ms := Ev → Sto → Rs (Fl × Ev)
def PostS (K : PySem.W.Frag) (W : Wx) (mu : List Addr) (H : Hp) (r : Rs (Fl × Ev)) (D : Ends) : Prop := match r with
  | .bad => False
  | .ok (fl, ev') st' => ∀ mu' σ' H', Ext mu H mu' H' → RelEv K H' mu' σ' ev' → RelSt K H' mu' st' → (match fl with
    | .nx => D.nx σ' H'
    | .bk => D.bk σ' H'
    | .ct => D.ct σ' H'
    | .rt d => ∀ v, Rp K H' mu' v d → D.rt v H')
  | .exc c ev' st' => ∀ mu' σ' H', Ext mu H mu' H' → RelEv K H' mu' σ' ev' → RelSt K H' mu' st' → W c σ' H'
theorem PostS.from {K : PySem.W.Frag} {W : Wx} {mu mu1 : List Addr} {H H1 : Hp} {r : Rs (Fl × Ev)} {D : Ends} (h : PostS K W mu H r D) (e : Ext mu H mu1 H1) : PostS K W mu1 H1 r D := by
  cases r with
  | bad => exact h
  | ok a st => exact fun mu' x H' e' => h mu' x H' (e.trans e')
  | exc c ev st => exact fun mu' σ' H' e' => h mu' σ' H' (e.trans e')
def tS (K : PySem.W.Frag) (W : Wx) (m : Ms) : TS := fun D σ H => ∃ mu ev st, RelEv K H mu σ ev ∧ RelSt K H mu st ∧ PostS K W mu H (m ev st) D
/-- an expression first, then the rest of a statement -/
theorem PostS.bind {ξ α : Type} {K : PySem.W.Frag} {W : Wx} {R : RR ξ α} {mu : List Addr} {H : Hp} {r : Rs α} {f : α → Sto → Rs (Fl × Ev)} {D : Ends} {Q1 : ξ → Hp → Prop}
    (h : PostS K W mu H (r.bind f) D)
    (k : ∀ a st1 mu1 x H1, r = .ok a st1 → Ext mu H mu1 H1 → R.r H H1 mu1 st1 x a → RelSt K H1 mu1 st1 → PostS K W mu1 H1 (f a st1) D → Q1 x H1) : Post K W R mu H r Q1 := by
  cases r with
  | bad => exact h
  | ok a st => exact fun mu1 x H1 e r1 s1 => k a st mu1 x H1 rfl e r1 s1 (PostS.from h e)
  | exc c ev st => exact h
theorem PE.imp {X : Cx} {e : Expr} {t t' : TE} (h : PE X e t) (k : ∀ σ H Q, t' σ H Q → t σ H Q) : PE X e t' := ⟨fun pins s σ H Q I hw => h.run pins s σ H Q I (k σ H Q hw)⟩
theorem PT.imp {X : Cx} {e : Expr} {t t' : TT} (h : PT X e t) (k : ∀ σ H Q, t' σ H Q → t σ H Q) : PT X e t' := ⟨fun pins s σ H Q I hw => h.run pins s σ H Q I (k σ H Q hw)⟩
theorem PW.imp {X : Cx} {e : Expr} {t t' : TT} (h : PW X e t) (k : ∀ σ H Q, t' σ H Q → t σ H Q) : PW X e t' := ⟨fun wh pins s σ H Q I hw => h.run wh pins s σ H Q I (k σ H Q hw)⟩
theorem PA.imp {X : Cx} {e : List Expr} {t t' : TA} (h : PA X e t) (k : ∀ σ H Q, t' σ H Q → t σ H Q) : PA X e t' := ⟨fun pos pins s σ H Q I hw => h.run pos pins s σ H Q I (k σ H Q hw)⟩
theorem PS.imp {X : Cx} {e : Stmt} {t t' : TS} (h : PS X e t) (k : ∀ D σ H, t' D σ H → t D σ H) : PS X e t' := ⟨fun pins s σ H D I hw => h.run pins s σ H D I (k D σ H hw)⟩
theorem PSs.imp {X : Cx} {e : List Stmt} {t t' : TS} (h : PSs X e t) (k : ∀ D σ H, t' D σ H → t D σ H) : PSs X e t' := ⟨fun pins s σ H D I hw => h.run pins s σ H D I (k D σ H hw)⟩
end Ml

namespace Ml
open PySem L2
/-- the most items of a row, signs of a text -/
def lim : Nat := 1000000
theorem lim_le {n : Nat} (h : n ≤ lim) : n ≤ sizeLine := Nat.le_trans h (by rw [sizeLine_eq]; decide)
theorem lim_lt {n : Nat} (h : n ≤ lim) : n < sizeLine := Nat.lt_of_le_of_lt h (by rw [sizeLine_eq]; decide)

/-! ### names, constants, rows of expressions -/
def mC (d : D) : Mo D := fun _ st => .ok d st
def mVar (i : Nat) : Mo D := fun ev st => match ev[i]? with
  | some (some d) => .ok d st
  | _ => .bad
def mNil : Mo (List D) := fun _ st => .ok [] st
def mCons (m : Mo D) (r : Mo (List D)) : Mo (List D) := fun ev st => (m ev st).bind fun d st1 => (r ev st1).bind fun ds st2 => .ok (d :: ds) st2
def mTup (r : Mo (List D)) : Mo D := fun ev st => (r ev st).bind fun ds st1 => if ds.length ≤ lim then .ok (.tup ds) st1 else .bad
def mDisp (r : Mo (List D)) : Mo (List D) := fun ev st => (r ev st).bind fun ds st1 => if ds.length ≤ lim then .ok ds st1 else .bad
/-- a new list goes to the store -/
def mKeep (m : Mo (List D)) : Mo D := fun ev st => (m ev st).bind fun ds st1 => .ok (.ref st1.length) (st1 ++ [.lst ds])

variable {X : Cx} {W : Wx} {a b c e : Expr} {es rest : List Expr} {pos : Pos} {ma mb mc : Mo D} {mr : Mo (List D)} {ta tb : Mo Bool}
theorem me_var {i : Nat} {x : Str} (h : PE X (.Name x pos) (tVar i)) : PE X (.Name x pos) (tE X.K W (mVar i)) := by
  refine PE.imp h fun σ H Q ⟨mu, ev, st, he, hs, hp⟩ => ?_
  unfold mVar at hp
  split at hp
  · rename_i d q
    obtain ⟨v, hv, r⟩ := he.2 i d q
    exact ⟨v, hv, hp _ _ _ .refl r hs⟩
  · exact hp.elim
theorem me_int {i : Int} {j : Nat} : PE X (.Constant (.int i) j pos) (tE X.K W (mC (.int i))) := PE.imp pe_int fun σ H Q ⟨mu, ev, st, he, hs, hp⟩ => hp _ _ _ .refl (.int i) hs
theorem me_bl {i : Bool} {j : Nat} : PE X (.Constant (.bool i) j pos) (tE X.K W (mC (.bl i))) := PE.imp pe_bl fun σ H Q ⟨mu, ev, st, he, hs, hp⟩ => hp _ _ _ .refl (.bl i) hs
theorem me_non {j : Nat} : PE X (.Constant .none j pos) (tE X.K W (mC .non)) := PE.imp pe_non fun σ H Q ⟨mu, ev, st, he, hs, hp⟩ => hp _ _ _ .refl .non hs
theorem me_str {i : Str} {j : Nat} : PE X (.Constant (.str i) j pos) (tE X.K W (mC (.str i))) := PE.imp pe_str fun σ H Q ⟨mu, ev, st, he, hs, hp⟩ => hp _ _ _ .refl (.str i) hs
/-- a constant of the module: v stands for d wherever one is -/
theorem me_glob {x : Str} {v : V} {d : D} (h : PE X (.Name x pos) (tC v)) (r : ∀ H mu, Rp X.K H mu v d) : PE X (.Name x pos) (tE X.K W (mC d)) := PE.imp h fun σ H Q ⟨mu, ev, st, he, hs, hp⟩ => hp _ _ _ .refl (r _ _) hs
theorem ma_nil : PA X [] (tA X.K W mNil) := PA.imp pa_nil fun σ H Q ⟨mu, ev, st, he, hs, hp⟩ => hp _ _ _ .refl .nil hs
theorem ma_cons (ha : PE X e (tE X.K W ma)) (hr : PA X es (tA X.K W mr)) (hs : starEach (e :: es) X.env = (false, eval e X.env) :: starEach es X.env := by rfl) : PA X (e :: es) (tA X.K W (mCons ma mr)) := by
  refine PA.imp (pa_cons ha hr hs) fun σ H Q ⟨mu, ev, st, he, hst, hp⟩ => ?_
  refine ⟨mu, ev, st, he, hst, hp.bind fun d st1 mu1 x H1 _ e1 r1 s1 hp1 => ?_⟩
  refine ⟨mu1, ev, st1, he.mono e1, s1, hp1.bind fun ds st2 mu2 xs H2 _ e2 r2 s2 hp2 => ?_⟩
  exact hp2 _ _ _ .refl (.cons (Rp.mono e2 r1) r2) s2
theorem Rps.ctx {K : PySem.W.Frag} {H : Hp} {mu : List Addr} {p : Addr} {o : HO} (hp : H p = none) {vs : List V} {ds : List D} (h : Rps K H mu vs ds) : Rps K (upd H p o) mu vs ds := h.mono (ext_new hp o)
theorem me_tup {k : Nat} (h : PA X es (tA X.K W mr)) : PE X (.Tuple es k pos) (tE X.K W (mTup mr)) := by
  refine PE.imp (pe_tup h) fun σ H Q ⟨mu, ev, st, he, hst, hp⟩ => ?_
  refine ⟨mu, ev, st, he, hst, hp.bind fun ds st1 mu1 xs H1 _ e1 r1 s1 hp1 => ?_⟩
  split at hp1
  · rename_i hl
    refine ⟨by rw [Rps.length r1]; exact lim_le hl, fun p hn => ?_⟩
    exact hp1 _ _ _ (ext_new hn _) (.tup (.inl upd_same) (Rps.ctx hn r1)) (s1.new hn _)
  · exact hp1.elim
theorem ml_lst (h : PA X es (tA X.K W mr)) : PE X (.List es pos) (tL X.K W (mDisp mr)) := by
  refine PE.imp (pe_lst h) fun σ H Q ⟨mu, ev, st, he, hst, hp⟩ => ?_
  refine ⟨mu, ev, st, he, hst, hp.bind fun ds st1 mu1 xs H1 _ e1 r1 s1 hp1 => ?_⟩
  split at hp1
  · rename_i hl
    refine ⟨by rw [Rps.length r1]; exact lim_le hl, fun p hn => ?_⟩
    exact hp1 _ _ _ (ext_new hn _) ⟨p, xs, rfl, hn, upd_same, s1.fresh hn, Rps.ctx hn r1⟩ (s1.new hn _)
  · exact hp1.elim
theorem adopt {K : PySem.W.Frag} {H : Hp} {mu : List Addr} {st : Sto} (r : RelSt K H mu st) {p : Addr} {vs : List V} {ds : List D} (hp : H p = some (.lst vs)) (hn : p ∉ mu) (hr : Rps K H mu vs ds) :
    Rp K H (mu ++ [p]) (.ref p) (.ref st.length) ∧ RelSt K H (mu ++ [p]) (st ++ [.lst ds]) := by
  have q : mu.length = st.length := r.len
  have e0 : Ext0 mu H (mu ++ [p]) H := ⟨⟨[p], rfl⟩, fun _ _ h => h, fun a o vs h n => ⟨h, by simp only [List.mem_append, List.mem_singleton, not_or]; exact ⟨n, fun e => by subst e; rw [hp] at h; cases h⟩⟩⟩
  refine ⟨.ref (by rw [← q]; simp), ⟨by simp [q], ?_, fun i a u h1 h2 => ?_⟩⟩
  · rw [List.nodup_append]
    refine ⟨r.nd, by simp, fun a ha b hb => ?_⟩
    simp only [List.mem_singleton] at hb
    subst hb
    intro e; subst e
    exact hn ha
  · by_cases hi : i < mu.length
    · rw [List.getElem?_append_left hi] at h1
      rw [List.getElem?_append_left (by rw [← q]; exact hi)] at h2
      have k := r.ob i a u h1 h2
      exact k.mono0 e0 rfl
    · have hl := (List.getElem?_eq_some_iff.mp h1).1
      simp at hl
      have e : i = mu.length := by omega
      subst e
      rw [List.getElem?_append_right (Nat.le_refl _)] at h1
      rw [q, List.getElem?_append_right (Nat.le_refl _)] at h2
      simp at h1 h2
      subst h1; subst h2
      exact ⟨vs, hp, hr.mono0 e0⟩
theorem me_keep (h : PE X e (tL X.K W mr)) : PE X e (tE X.K W (mKeep mr)) := by
  refine PE.imp h fun σ H Q ⟨mu, ev, st, he, hst, hp⟩ => ?_
  refine ⟨mu, ev, st, he, hst, ?_⟩
  unfold mKeep at hp
  cases hr : mr ev st with
  | bad => rw [hr] at hp; exact hp
  | exc c e s => rw [hr] at hp; exact hp
  | ok ds st1 =>
    rw [hr] at hp
    intro mu1 x H1 e1 ⟨p, vs, ex, h0, hpp, hn, rs⟩ s1
    subst ex
    obtain ⟨k1, k2⟩ := adopt s1 hpp hn rs
    exact hp (mu1 ++ [p]) (.ref p) H1 (ext_adopt e1 h0) k1 k2
end Ml

namespace Ml
open PySem L2
/-! ### operators by values -/
abbrev G2 := D → D → Sto → Option (D × Sto)
abbrev G1 := D → Sto → Option (D × Sto)
abbrev GA := List D → Sto → Option (D × Sto)
def Rs.of {α : Type} : Option (α × Sto) → Rs α
  | some (d, st) => .ok d st
  | none => .bad
def mOp (g : G2) (ma mb : Mo D) : Mo D := fun ev st => (ma ev st).bind fun a st1 => (mb ev st1).bind fun b st2 => Rs.of (g a b st2)
def mUn (g : G1) (ma : Mo D) : Mo D := fun ev st => (ma ev st).bind fun a st1 => Rs.of (g a st1)
def mCB (g : GA) (mr : Mo (List D)) : Mo D := fun ev st => (mr ev st).bind fun ds st1 => Rs.of (g ds st1)
/-- the reading r of two values does what g does of two data -/
def OpS (K : PySem.W.Frag) (r : R2) (g : G2) : Prop := ∀ (mu : List Addr) (H : Hp) (st st' : Sto) (x y : V) (a b d : D) (Q : VK), RelSt K H mu st → Rp K H mu x a → Rp K H mu y b → g a b st = some (d, st') →
  (∀ mu' v H', Ext mu H mu' H' → Rp K H' mu' v d → RelSt K H' mu' st' → Q v H') → r x y H Q
def UnS (K : PySem.W.Frag) (r : V → Hp → VK → Prop) (g : G1) : Prop := ∀ (mu : List Addr) (H : Hp) (st st' : Sto) (x : V) (a d : D) (Q : VK), RelSt K H mu st → Rp K H mu x a → g a st = some (d, st') →
  (∀ mu' v H', Ext mu H mu' H' → Rp K H' mu' v d → RelSt K H' mu' st' → Q v H') → r x H Q
def CallS (K : PySem.W.Frag) (r : List V → Hp → VK → Prop) (g : GA) : Prop := ∀ (mu : List Addr) (H : Hp) (st st' : Sto) (xs : List V) (as : List D) (d : D) (Q : VK), RelSt K H mu st → Rps K H mu xs as → g as st = some (d, st') →
  (∀ mu' v H', Ext mu H mu' H' → Rp K H' mu' v d → RelSt K H' mu' st' → Q v H') → r xs H Q
variable {X : Cx} {W : Wx} {a b c e : Expr} {es rest : List Expr} {pos p : Pos} {ma mb mc : Mo D} {mr : Mo (List D)} {ta tb : Mo Bool}
theorem post_of {K : PySem.W.Frag} {mu : List Addr} {H : Hp} {o : Option (D × Sto)} {Q : VK} (h : Post K W (RE K) mu H (Rs.of o) Q) :
    ∃ d st', o = some (d, st') ∧ ∀ mu' v H', Ext mu H mu' H' → Rp K H' mu' v d → RelSt K H' mu' st' → Q v H' := by
  cases o with
  | none => exact h.elim
  | some p => obtain ⟨d, st'⟩ := p; exact ⟨d, st', rfl, h⟩
theorem opS_go {r : R2} {g : G2} (hs : OpS X.K r g) {σ : L2.St} {H : Hp} {Q : VK} (h : tE X.K W (mOp g ma mb) σ H Q) : tOp r (tE X.K W ma) (tE X.K W mb) σ H Q := by
  obtain ⟨mu, ev, st, he, hst, hp⟩ := h
  refine ⟨mu, ev, st, he, hst, hp.bind fun d st1 mu1 x H1 _ e1 r1 s1 hp1 => ?_⟩
  refine ⟨mu1, ev, st1, he.mono e1, s1, hp1.bind fun d2 st2 mu2 y H2 _ e2 r2 s2 hp2 => ?_⟩
  obtain ⟨d, st', eq, k⟩ := post_of hp2
  exact hs mu2 H2 st2 st' x y _ _ d Q s2 (Rp.mono e2 r1) r2 eq k
theorem me_op {op : Operator} {r : R2} {g : G2} (ho : OpR X (binaryOp op) r) (hs : OpS X.K r g) (ha : PE X a (tE X.K W ma)) (hb : PE X b (tE X.K W mb)) : PE X (.BinOp a op b pos) (tE X.K W (mOp g ma mb)) :=
  PE.imp (pe_op ho ha hb) fun _ _ _ h => opS_go hs h
theorem me_un {op : UnaryOp} {r : V → Hp → VK → Prop} {g : G1} (ho : UnR X (unaryOp op) r) (hs : UnS X.K r g) (ha : PE X a (tE X.K W ma)) : PE X (.UnaryOp op a pos) (tE X.K W (mUn g ma)) := by
  refine PE.imp (pe_un ho ha) fun σ H Q ⟨mu, ev, st, he, hst, hp⟩ => ?_
  refine ⟨mu, ev, st, he, hst, hp.bind fun d st1 mu1 x H1 _ e1 r1 s1 hp1 => ?_⟩
  obtain ⟨d, st', eq, k⟩ := post_of hp1
  exact hs mu1 H1 st1 st' x _ d Q s1 r1 eq k
theorem me_cmp {op : CmpOp} {r : R2} {g : G2} (ho : OpR X (compareOp op) r) (hs : OpS X.K r g) (ha : PE X a (tE X.K W ma)) (hb : PE X b (tE X.K W mb)) (hm : behindInMarks op b = false) : PE X (.Compare a [op] [b] pos) (tE X.K W (mOp g ma mb)) :=
  PE.imp (pe_cmpR ho ha hb hm) fun _ _ _ h => opS_go hs h
theorem me_ix {r : R2} {g : G2} (ho : IxR X r) (hs : OpS X.K r g) (ha : PE X a (tE X.K W ma)) (hb : PE X b (tE X.K W mb)) (hx : PlainIx b) : PE X (.Subscript a b pos) (tE X.K W (mOp g ma mb)) :=
  PE.imp (pe_ix ho ha hb hx) fun _ _ _ h => opS_go hs h
theorem callS_go {r : List V → Hp → VK → Prop} {g : GA} (hs : CallS X.K r g) {σ : L2.St} {H : Hp} {Q : VK} (h : tE X.K W (mCB g mr) σ H Q) : tCB r (tA X.K W mr) σ H Q := by
  obtain ⟨mu, ev, st, he, hst, hp⟩ := h
  refine ⟨mu, ev, st, he, hst, hp.bind fun d st1 mu1 x H1 _ e1 r1 s1 hp1 => ?_⟩
  obtain ⟨d, st', eq, k⟩ := post_of hp1
  exact hs mu1 H1 st1 st' x _ d Q s1 r1 eq k
theorem me_callB {id : String} {x : Str} {r : List V → Hp → VK → Prop} {g : GA} (hc : CallR X (.builtin id) r) (hs : CallS X.K r g) (hg : Gl X x) (hm : X.mg x = none) (hv : bootBuiltins x = some (.builtin id)) (ha : PA X (e :: es) (tA X.K W mr)) (hn : x ≠ "__name__" := by decide) (hdb : (x == ("__debug__" : Str)) = false := by decide)
    (he : starEach (e :: es) X.env = (false, eval e X.env) :: starEach es X.env := by rfl) (hpl : (backTo pos (starEach es X.env)).any (·.1) = false := by rfl) : PE X (.Call (.Name x p) (e :: es) [] pos) (tE X.K W (mCB g mr)) :=
  PE.imp (pe_callB hc hg hm hv ha hn hdb he hpl) fun _ _ _ h => callS_go hs h
theorem me_callTy {id : String} {x : Str} {r : List V → Hp → VK → Prop} {g : GA} (hc : CallR X (.type id) r) (hs : CallS X.K r g) (hg : Gl X x) (hm : X.mg x = none) (hv : bootBuiltins x = some (.type id)) (ha : PA X (e :: es) (tA X.K W mr)) (hn : x ≠ "__name__" := by decide) (hdb : (x == ("__debug__" : Str)) = false := by decide)
    (he : starEach (e :: es) X.env = (false, eval e X.env) :: starEach es X.env := by rfl) (hpl : (backTo pos (starEach es X.env)).any (·.1) = false := by rfl) : PE X (.Call (.Name x p) (e :: es) [] pos) (tE X.K W (mCB g mr)) :=
  PE.imp (pe_callTy hc hg hm hv ha hn hdb he hpl) fun _ _ _ h => callS_go hs h
theorem OpS.or {K : PySem.W.Frag} {r r' : R2} {g g' : G2} (h : OpS K r g) (h' : OpS K r' g') : OpS K (fun x y H Q => r x y H Q ∨ r' x y H Q) (fun a b st => match g a b st with | some z => some z | none => g' a b st) := by
  intro mu H st st' x y a b d Q hs hx hy e k
  simp only at e
  split at e
  · rename_i z q
    cases e
    exact .inl (h mu H st st' x y a b d Q hs hx hy q k)
  · exact .inr (h' mu H st st' x y a b d Q hs hx hy e k)
/-! ### whole numbers, texts, tuples -/
def gI (f : Int → Int → D) : G2 := fun a b st => match a, b with
  | .int i, .int j => some (f i j, st)
  | _, _ => none
def gIc (C : Int → Int → Bool) (f : Int → Int → D) : G2 := fun a b st => match a, b with
  | .int i, .int j => if C i j = true then some (f i j, st) else none
  | _, _ => none
/-- a value without address stands for itself -/
def vD : V → D
  | .bl b => .bl b
  | .int i => .int i
  | .str x => .str x
  | _ => .non
def plainV : V → Bool
  | .bl _ => true
  | .int _ => true
  | .str _ => true
  | .non => true
  | _ => false
theorem rp_plain {K : PySem.W.Frag} {H : Hp} {mu : List Addr} {v : V} (h : plainV v = true) : Rp K H mu v (vD v) := by
  cases v <;> first | exact .non | exact .bl _ | exact .int _ | exact .str _ | cases h
theorem opS_I0 {K : PySem.W.Frag} {f : Int → Int → V} (hf : ∀ i j, plainV (f i j) = true) : OpS K (rI0 f) (gI fun i j => vD (f i j)) := by
  intro mu H st st' x y a b d Q hs hx hy e k
  unfold gI at e
  split at e
  · cases e; cases hx; cases hy
    exact ⟨_, _, rfl, rfl, k _ _ _ .refl (rp_plain (hf _ _)) hs⟩
  · cases e
theorem opS_I {K : PySem.W.Frag} {C : Int → Int → Prop} {Cb : Int → Int → Bool} {f : Int → Int → V} (hC : ∀ i j, Cb i j = true → C i j) (hf : ∀ i j, plainV (f i j) = true) : OpS K (rI C f) (gIc Cb fun i j => vD (f i j)) := by
  intro mu H st st' x y a b d Q hs hx hy e k
  unfold gIc at e
  split at e
  · split at e
    · rename_i hc
      cases e; cases hx; cases hy
      exact ⟨_, _, rfl, rfl, hC _ _ hc, k _ _ _ .refl (rp_plain (hf _ _)) hs⟩
    · cases e
  · cases e
def gAddS : G2 := fun a b st => match a, b with
  | .str x, .str y => if x.length + y.length ≤ lim then some (.str (x ++ y), st) else none
  | _, _ => none
def gCatT : G2 := fun a b st => match a, b with
  | .tup xs, .tup ys => if xs.length + ys.length ≤ lim then some (.tup (xs ++ ys), st) else none
  | _, _ => none
theorem opS_addS {K : PySem.W.Frag} : OpS K (fun x y H Q => ∃ i j, x = .str i ∧ y = .str j ∧ i.length + j.length ≤ sizeLine ∧ Q (.str (i ++ j)) H) gAddS := by
  intro mu H st st' x y a b d Q hs hx hy e k
  unfold gAddS at e
  split at e
  · split at e
    · rename_i hc
      cases e; cases hx; cases hy
      exact ⟨_, _, rfl, rfl, lim_le hc, k _ _ _ .refl (.str _) hs⟩
    · cases e
  · cases e
theorem Rps.nil_iff {K : PySem.W.Frag} {H : Hp} {mu : List Addr} {vs : List V} {ds : List D} (h : Rps K H mu vs ds) : vs = [] ↔ ds = [] := by
  cases h <;> simp
theorem opS_catT {K : PySem.W.Frag} : OpS K (rCatA K) gCatT := by
  intro mu H st st' x y a b d Q hs hx hy e k
  unfold gCatT at e
  split at e
  · split at e
    · rename_i xs ys hc
      cases e
      cases hx with
      | tup h1 r1 =>
        cases hy with
        | tup h2 r2 =>
          rename_i p1 vs q1 ws
          refine ⟨p1, q1, vs, ws, rfl, rfl, h1.sq, h2.sq, by rw [Rps.length r1, Rps.length r2]; exact lim_le hc, fun e0 => ?_, fun e0 e1 => ?_, fun _ _ p hp => ?_⟩
          · have e1 := (Rps.nil_iff r1).mp e0
            subst e1
            exact k _ _ _ .refl (.tup h2 (by simpa using r2)) hs
          · have e2 := (Rps.nil_iff r2).mp e1
            subst e2
            exact k _ _ _ .refl (.tup h1 (by simpa using r1)) hs
          · exact k _ _ _ (ext_new hp _) (.tup (.inl upd_same) ((r1.append r2).ctx hp)) (hs.new hp _)
    · cases e
  · cases e
/-- + -/
def gAdd : G2 := fun a b st => match gI (fun i j => .int (i + j)) a b st with
  | some z => some z
  | none => match gAddS a b st with
    | some z => some z
    | none => gCatT a b st
def rAddA (K : PySem.W.Frag) : R2 := fun x y H Q => rI0 (fun i j => .int (i + j)) x y H Q ∨ (∃ i j, x = .str i ∧ y = .str j ∧ i.length + j.length ≤ sizeLine ∧ Q (.str (i ++ j)) H) ∨ rCatA K x y H Q
theorem op_addA : OpR X (binaryOp .Add) (rAddA X.K) := op_add.or (op_add_str.or op_catA)
theorem opS_add {K : PySem.W.Frag} : OpS K (rAddA K) gAdd := (opS_I0 (f := fun i j => .int (i + j)) (fun _ _ => rfl)).or (opS_addS.or opS_catT)
theorem me_add (ha : PE X a (tE X.K W ma)) (hb : PE X b (tE X.K W mb)) : PE X (.BinOp a .Add b pos) (tE X.K W (mOp gAdd ma mb)) := me_op op_addA opS_add ha hb
def gSub : G2 := gI fun i j => .int (i - j)
theorem me_sub (ha : PE X a (tE X.K W ma)) (hb : PE X b (tE X.K W mb)) : PE X (.BinOp a .Sub b pos) (tE X.K W (mOp gSub ma mb)) := me_op op_sub (opS_I0 (f := fun i j => .int (i - j)) (fun _ _ => rfl)) ha hb
def small64 (i : Int) : Bool := decide (i.natAbs < 18446744073709551616)
def w250 (i : Int) : Bool := decide (i.natAbs < 2 ^ 250)
def gMul : G2 := gIc (fun i j => small64 i || small64 j || (w250 i && w250 j)) fun i j => .int (i * j)
theorem cmul_of {i j : Int} (h : (small64 i || small64 j || (w250 i && w250 j)) = true) : IntMulOk i j := by
  rw [Bool.or_eq_true] at h
  rcases h with h | h
  · have h : CMul i j := by
      unfold small64 at h
      rw [Bool.or_eq_true] at h
      unfold CMul
      rcases h with h | h
      · have h := of_decide_eq_true h
        left; constructor <;> omega
      · have h := of_decide_eq_true h
        right; constructor <;> omega
    exact h.ok
  · rw [Bool.and_eq_true] at h
    exact (wide_mul (a := 250) (b := 250) (of_decide_eq_true h.1) (of_decide_eq_true h.2) (by decide) (by decide) (by decide)).ok
open PySem.Spec PyProof.Rows in
theorem op_mulK : OpR X (binaryOp .Mult) (rI IntMulOk fun i j => .int (i * j)) := opI fun _ _ _ _ _ _ _ hc q => mul_int q hc
theorem me_mul (ha : PE X a (tE X.K W ma)) (hb : PE X b (tE X.K W mb)) : PE X (.BinOp a .Mult b pos) (tE X.K W (mOp gMul ma mb)) := me_op op_mulK (opS_I (Cb := fun i j => small64 i || small64 j || (w250 i && w250 j)) (f := fun i j => .int (i * j)) (fun _ _ => cmul_of) (fun _ _ => rfl)) ha hb
def gMod : G2 := gIc (fun _ j => decide (0 < j)) fun i j => .int (i % j)
theorem me_mod (ha : PE X a (tE X.K W ma)) (hb : PE X b (tE X.K W mb)) : PE X (.BinOp a .Mod b pos) (tE X.K W (mOp gMod ma mb)) := me_op op_mod (opS_I (Cb := fun _ j => decide (0 < j)) (f := fun i j => .int (i % j)) (fun _ _ h => of_decide_eq_true h) (fun _ _ => rfl)) ha hb
/-- a divisor of at most 200 bits -/
def gDiv : G2 := gIc (fun _ j => decide (0 < j) && decide (j.natAbs < 2 ^ 200)) fun i j => .int (i / j)
theorem me_div (ha : PE X a (tE X.K W ma)) (hb : PE X b (tE X.K W mb)) : PE X (.BinOp a .FloorDiv b pos) (tE X.K W (mOp gDiv ma mb)) :=
  me_op op_fdivW (opS_I (Cb := fun _ j => decide (0 < j) && decide (j.natAbs < 2 ^ 200)) (f := fun i j => .int (i / j)) (fun _ _ h => by
    rw [Bool.and_eq_true] at h
    exact wide_div (b := 200) (of_decide_eq_true h.1) (of_decide_eq_true h.2) (by decide) (by decide)) (fun _ _ => rfl)) ha hb
def gNeg : G1 := fun a st => match a with
  | .int i => some (.int (-i), st)
  | _ => none
theorem me_neg (ha : PE X a (tE X.K W ma)) : PE X (.UnaryOp .USub a pos) (tE X.K W (mUn gNeg ma)) := by
  refine me_un un_neg ?_ ha
  intro mu H st st' x a d Q hs hx e k
  unfold gNeg at e
  split at e
  · cases e; cases hx; exact ⟨_, rfl, k _ _ _ .refl (.int _) hs⟩
  · cases e
def gLt : G2 := gI fun i j => .bl (decide (i < j))
def gLe : G2 := gI fun i j => .bl (decide (i ≤ j))
def gGt : G2 := gI fun i j => .bl (decide (j < i))
def gGe : G2 := gI fun i j => .bl (decide (j ≤ i))
theorem opS_lt {K : PySem.W.Frag} : OpS K (rI0 fun i j => .bl (decide (i < j))) gLt := opS_I0 (f := fun i j => .bl (decide (i < j))) fun _ _ => rfl
theorem opS_le {K : PySem.W.Frag} : OpS K (rI0 fun i j => .bl (decide (i ≤ j))) gLe := opS_I0 (f := fun i j => .bl (decide (i ≤ j))) fun _ _ => rfl
theorem opS_gt {K : PySem.W.Frag} : OpS K (rI0 fun i j => .bl (decide (j < i))) gGt := opS_I0 (f := fun i j => .bl (decide (j < i))) fun _ _ => rfl
theorem opS_ge {K : PySem.W.Frag} : OpS K (rI0 fun i j => .bl (decide (j ≤ i))) gGe := opS_I0 (f := fun i j => .bl (decide (j ≤ i))) fun _ _ => rfl

/-! ### == of data -/
mutual
def D.pd : D → PyData
  | .non => .none
  | .bl b => .bool b
  | .int i => .int i
  | .str x => .str x
  | .tup ds => .tuple (pds ds)
  | .ref _ => .none
  | .ro _ => .none
def pds : List D → List PyData
  | [] => []
  | d :: ds => d.pd :: pds ds
end
mutual
/-- no list within, at most n deep -/
def D.dok (n : Nat) : D → Bool
  | .non => true
  | .bl _ => true
  | .int _ => true
  | .str x => PyData.strOk x
  | .tup ds => match n with
    | 0 => false
    | k + 1 => doks k ds
  | .ref _ => false
  | .ro _ => false
def doks (n : Nat) : List D → Bool
  | [] => true
  | d :: ds => d.dok n && doks n ds
end
mutual
theorem Rp.dp {K : PySem.W.Frag} {H : Hp} {mu : List Addr} : ∀ {v : V} {d : D} {n : Nat}, Rp K H mu v d → d.dok n = true → Dp K H v d.pd
  | _, _, _, .non, _ => .non
  | _, _, _, .bl b, _ => .bl b
  | _, _, _, .int i, _ => .int i
  | _, _, _, .str x, _ => .str x
  | _, _, 0, .tup _ _, q => by simp [D.dok] at q
  | _, _, n + 1, .tup h hs, q => .tup h.sq (Rps.dp hs (by simpa [D.dok] using q))
  | _, _, _, .ref _, q => by simp [D.dok] at q
  | _, _, _, .ro _ _, q => by simp [D.dok] at q
theorem Rps.dp {K : PySem.W.Frag} {H : Hp} {mu : List Addr} : ∀ {vs : List V} {ds : List D} {n : Nat}, Rps K H mu vs ds → doks n ds = true → DpAll K H vs (pds ds)
  | _, _, _, .nil, _ => .nil
  | _, _, n, .cons h hs, q => by
    simp only [doks, Bool.and_eq_true] at q
    exact .cons (Rp.dp h q.1) (Rps.dp hs q.2)
end
mutual
theorem dok_can : ∀ {d : D} {n : Nat}, d.dok n = true → d.pd.canLay0 = true ∧ d.pd.depth ≤ n + 1
  | .non, n, _ => ⟨by simp [D.pd, PyData.canLay0], by simp [D.pd, PyData.depth]⟩
  | .bl b, n, _ => ⟨by simp [D.pd, PyData.canLay0], by simp [D.pd, PyData.depth]⟩
  | .int i, n, _ => ⟨by simp [D.pd, PyData.canLay0], by simp [D.pd, PyData.depth]⟩
  | .str x, n, q => ⟨by simpa [D.pd, PyData.canLay0, D.dok] using q, by simp [D.pd, PyData.depth]⟩
  | .tup ds, 0, q => by simp [D.dok] at q
  | .tup ds, n + 1, q => by
    have h := doks_can (ds := ds) (n := n) (by simpa [D.dok] using q)
    refine ⟨by simpa [D.pd, PyData.canLay0] using h.1, ?_⟩
    simp only [D.pd, PyData.depth]
    have := h.2
    omega
  | .ref _, _, q => by simp [D.dok] at q
  | .ro _, _, q => by simp [D.dok] at q
theorem doks_can : ∀ {ds : List D} {n : Nat}, doks n ds = true → PyData.canLayAll0 (pds ds) = true ∧ PyData.depthAll (pds ds) ≤ n + 1
  | [], n, _ => ⟨by simp [pds, PyData.canLayAll0], by simp [pds, PyData.depthAll]⟩
  | d :: ds, n, q => by
    simp only [doks, Bool.and_eq_true] at q
    have h1 := dok_can q.1
    have h2 := doks_can q.2
    refine ⟨by simp [pds, PyData.canLayAll0, h1.1, h2.1], ?_⟩
    simp only [pds, PyData.depthAll]
    have := h1.2; have := h2.2
    omega
end
theorem dok_shaped {d : D} (h : d.dok 60 = true) : SeqAt.shaped d.pd = true := by
  obtain ⟨h1, h2⟩ := dok_can h
  unfold SeqAt.shaped
  rw [h1, Bool.true_and]
  exact decide_eq_true (by omega)
def deq (a b : D) : Bool := PyData.eqv a.pd b.pd
/-- two texts, two whole numbers, two truths -/
def scalD : D → D → Bool
  | .str _, .str _ => true
  | .int _, .int _ => true
  | .bl _, .bl _ => true
  | _, _ => false
def gEq : G2 := fun a b st => if scalD a b then some (.bl (deq a b), st) else if a.dok 60 && b.dok 60 then some (.bl (deq a b), st) else none
def gNe : G2 := fun a b st => if scalD a b then some (.bl (!deq a b), st) else if a.dok 60 && b.dok 60 then some (.bl (!deq a b), st) else none
def rEqA (K : PySem.W.Frag) : R2 := fun x y H Q => rEq x y H Q ∨ rEqD K x y H Q
def rNeA (K : PySem.W.Frag) : R2 := fun x y H Q => rNe x y H Q ∨ rNeD K x y H Q
theorem op_eqA (hu : X.A.units + 64 < cLine) : OpR X (compareOp .Eq) (rEqA X.K) := op_eq.or (op_eqD hu)
theorem op_neA (hu : X.A.units + 64 < cLine) : OpR X (compareOp .NotEq) (rNeA X.K) := op_ne.or (op_neD hu)
theorem dec_bool {i j : Bool} : decide (V.bl i = V.bl j) = (i == j) := dec_bl
theorem scal_of {K : PySem.W.Frag} {H : Hp} {mu : List Addr} {x y : V} {a b : D} (h : scalD a b = true) (hx : Rp K H mu x a) (hy : Rp K H mu y b) : scal x y = true ∧ decide (x = y) = deq a b := by
  unfold scalD at h
  split at h
  · cases hx; cases hy
    exact ⟨rfl, dec_str⟩
  · cases hx; cases hy
    exact ⟨rfl, dec_int⟩
  · cases hx; cases hy
    exact ⟨rfl, dec_bl⟩
  · cases h
theorem opS_eq {K : PySem.W.Frag} : OpS K (rEqA K) gEq := by
  intro mu H st st' x y a b d Q hs hx hy e k
  unfold gEq at e
  split at e
  · rename_i hc
    obtain ⟨h1, h2⟩ := scal_of hc hx hy
    cases e
    refine .inl ⟨h1, ?_⟩
    rw [h2]
    exact k _ _ _ .refl (.bl _) hs
  · split at e
    · rename_i hc
      rw [Bool.and_eq_true] at hc
      cases e
      exact .inr ⟨_, _, hx.dp hc.1, hy.dp hc.2, dok_shaped hc.1, dok_shaped hc.2, k _ _ _ .refl (.bl _) hs⟩
    · cases e
theorem opS_ne {K : PySem.W.Frag} : OpS K (rNeA K) gNe := by
  intro mu H st st' x y a b d Q hs hx hy e k
  unfold gNe at e
  split at e
  · rename_i hc
    obtain ⟨h1, h2⟩ := scal_of hc hx hy
    cases e
    refine .inl ⟨h1, ?_⟩
    rw [h2]
    exact k _ _ _ .refl (.bl _) hs
  · split at e
    · rename_i hc
      rw [Bool.and_eq_true] at hc
      cases e
      exact .inr ⟨_, _, hx.dp hc.1, hy.dp hc.2, dok_shaped hc.1, dok_shaped hc.2, k _ _ _ .refl (.bl _) hs⟩
    · cases e
/-! ### is -/
def gIsN : G2 := fun a b st => match b with
  | .non => some (.bl (match a with | .non => true | _ => false), st)
  | .bl y => (match a with | .bl x => some (.bl (decide (x = y)), st) | _ => none)
  | _ => none
def gNotN : G2 := fun a b st => match b with
  | .non => some (.bl (match a with | .non => false | _ => true), st)
  | .bl y => (match a with | .bl x => some (.bl (!decide (x = y)), st) | _ => none)
  | _ => none
def rIsA : R2 := fun x y H Q => (y = .non ∧ Q (.bl (decide (x = .non))) H) ∨ rIsB x y H Q
def rNotA : R2 := fun x y H Q => (y = .non ∧ Q (.bl (!decide (x = .non))) H) ∨ rNotB x y H Q
theorem op_isA : OpR X (compareOp .Is) rIsA := op_isN.or op_isBl
theorem op_notA : OpR X (compareOp .IsNot) rNotA := op_notN.or op_notBl
theorem opS_is {K : PySem.W.Frag} : OpS K rIsA gIsN := by
  intro mu H st st' x y a b d Q hs hx hy e k
  unfold gIsN at e
  split at e
  · cases e; cases hy
    refine .inl ⟨rfl, k _ _ _ .refl ?_ hs⟩
    cases hx <;> exact .bl _
  · split at e
    · cases e; cases hx; cases hy
      exact .inr ⟨_, _, rfl, rfl, k _ _ _ .refl (.bl _) hs⟩
    · cases e
  · cases e
theorem opS_not {K : PySem.W.Frag} : OpS K rNotA gNotN := by
  intro mu H st st' x y a b d Q hs hx hy e k
  unfold gNotN at e
  split at e
  · cases e; cases hy
    refine .inl ⟨rfl, k _ _ _ .refl ?_ hs⟩
    cases hx <;> exact .bl _
  · split at e
    · cases e; cases hx; cases hy
      exact .inr ⟨_, _, rfl, rfl, k _ _ _ .refl (.bl _) hs⟩
    · cases e
  · cases e
end Ml

namespace Ml
open PySem L2
variable {X : Cx} {W : Wx} {a b c e : Expr} {es rest : List Expr} {pos p : Pos} {ma mb mc : Mo D} {mr : Mo (List D)} {ta tb : Mo Bool}
/-! ### in -/
def flatD : D → Bool
  | .non => true
  | .bl _ => true
  | .int _ => true
  | .str _ => true
  | _ => false
def vOf : D → V
  | .non => .non
  | .bl b => .bl b
  | .int i => .int i
  | .str x => .str x
  | _ => .non
/-- what a list or tuple holds -/
def seqOf (st : Sto) : D → Option (List D)
  | .tup ds => some ds
  | .ref i => match st[i]? with
    | some (.lst ds) => some ds
    | some (.ro ds) => some ds
    | _ => none
  | .ro ds => some ds
  | _ => none
def eqD (y x : D) : Bool := eqV (vOf y) (vOf x)
def inD (x : D) (ds : List D) : Bool := ds.any fun y => eqD y x
def gIn (neg : Bool) : G2 := fun a b st => match seqOf st b with
  | some ds => if flatD a && ds.all flatD then some (.bl (if neg then !inD a ds else inD a ds), st) else none
  | none => none
theorem Rp.flat {K : PySem.W.Frag} {H : Hp} {mu : List Addr} {v : V} {d : D} (h : Rp K H mu v d) (f : flatD d = true) : v = vOf d ∧ flatV v = true := by
  cases h <;> first | exact ⟨rfl, rfl⟩ | cases f
theorem Rps.flat {K : PySem.W.Frag} {H : Hp} {mu : List Addr} : ∀ {vs : List V} {ds : List D}, Rps K H mu vs ds → ds.all flatD = true → vs = ds.map vOf ∧ vs.all flatV = true
  | _, _, .nil, _ => ⟨rfl, rfl⟩
  | _, _, .cons h hs, f => by
    simp only [List.all_cons, Bool.and_eq_true] at f
    obtain ⟨e1, f1⟩ := h.flat f.1
    obtain ⟨e2, f2⟩ := Rps.flat hs f.2
    refine ⟨by rw [List.map_cons, ← e1, ← e2], ?_⟩
    rw [List.all_cons, f1, f2]; rfl
theorem inV_map (x : D) (ds : List D) : inV (vOf x) (ds.map vOf) = inD x ds := by
  unfold inV inD eqD
  rw [List.any_map]; rfl
/-- a list or tuple, as it is read -/
theorem seq_rel {K : PySem.W.Frag} {H : Hp} {mu : List Addr} {st : Sto} (hs : RelSt K H mu st) {v : V} {d : D} {ds : List D} (h : Rp K H mu v d) (e : seqOf st d = some ds) : ∃ q vs, v = .ref q ∧ (SqL K H q vs ∨ SqT K H q vs) ∧ Rps K H mu vs ds := by
  cases h with
  | tup h hs => cases e; exact ⟨_, _, rfl, .inr h.sq, hs⟩
  | ro h hs => cases e; exact ⟨_, _, rfl, .inl h.sq, hs⟩
  | ref h =>
    rename_i i q
    unfold seqOf at e
    simp only at e
    obtain ⟨o, ho, ok⟩ := hs.at h
    rw [ho] at e
    split at e
    · rename_i eq; cases e; cases eq
      obtain ⟨vs, h1, r⟩ := ok
      exact ⟨q, vs, rfl, .inl (.inl (.inl h1)), r⟩
    · rename_i eq; cases e; cases eq
      obtain ⟨od, vs, h1, r⟩ := ok
      exact ⟨q, vs, rfl, .inl (.inl (.inr ⟨od, h1⟩)), r⟩
    · cases e
  | _ => cases e
theorem opS_in {K : PySem.W.Frag} {neg : Bool} : OpS K (rIn K neg) (gIn neg) := by
  intro mu H st st' x y a b d Q hs hx hy e k
  unfold gIn at e
  split at e
  · rename_i ds hd
    split at e
    · rename_i hc
      rw [Bool.and_eq_true] at hc
      cases e
      obtain ⟨q, vs, rfl, sq, r⟩ := seq_rel hs hy hd
      obtain ⟨e1, f1⟩ := hx.flat hc.1
      obtain ⟨e2, f2⟩ := r.flat hc.2
      refine ⟨q, vs, rfl, sq, f1, f2, ?_⟩
      rw [e1, e2, inV_map]
      exact k _ _ _ .refl (.bl _) hs
    · cases e
  · cases e
/-! ### tests -/
def mTest (m : Mo D) : Mo Bool := fun ev st => (m ev st).bind fun d st1 => match d with
  | .bl b => .ok b st1
  | _ => .bad
/-- truth of any value -/
def truD (st : Sto) : D → Option Bool
  | .non => some false
  | .bl b => some b
  | .int i => some (i != 0)
  | .str x => if x.length ≤ lim then some ((x.length : Int) != 0) else none
  | .tup ds => some (!ds.isEmpty)
  | .ref i => match st[i]? with
    | some (.lst ds) => some (!ds.isEmpty)
    | some (.ro ds) => some (!ds.isEmpty)
    | _ => none
  | .ro ds => some (!ds.isEmpty)
def mTru (m : Mo D) : Mo Bool := fun ev st => (m ev st).bind fun d st1 => match truD st1 d with
  | some b => .ok b st1
  | none => .bad
def mTAnd (ta tb : Mo Bool) : Mo Bool := fun ev st => (ta ev st).bind fun b st1 => if b = true then tb ev st1 else .ok false st1
def mTOr (ta tb : Mo Bool) : Mo Bool := fun ev st => (ta ev st).bind fun b st1 => if b = true then .ok true st1 else tb ev st1
def mTNot (ta : Mo Bool) : Mo Bool := fun ev st => (ta ev st).bind fun b st1 => .ok (!b) st1
theorem tst_go {σ : L2.St} {H : Hp} {Q : Bool → Hp → Prop} {m : Mo D} (h : tT X.K W (mTest m) σ H Q) : tTest (tE X.K W m) σ H Q := by
  obtain ⟨mu, ev, st, he, hst, hp⟩ := h
  refine ⟨mu, ev, st, he, hst, hp.bind fun d st1 mu1 x H1 _ e1 r1 s1 hp1 => ?_⟩
  cases d <;> simp only at hp1 <;> first | exact hp1.elim | skip
  cases r1
  exact ⟨_, rfl, hp1 _ _ _ .refl rfl s1⟩
theorem mt_cmp {op : CmpOp} {r : R2} {g : G2} (ho : OpR X (compareOp op) r) (hs : OpS X.K r g) (ha : PE X a (tE X.K W ma)) (hb : PE X b (tE X.K W mb)) (hm : behindInMarks op b = false) : PT X (.Compare a [op] [b] pos) (tT X.K W (mTest (mOp g ma mb))) :=
  PT.imp (pt_cmpR ho ha hb hm) fun _ _ _ h => opS_go hs (tst_go h)
theorem tru_rel {K : PySem.W.Frag} {H : Hp} {mu : List Addr} {st : Sto} (s1 : RelSt K H mu st) {x : V} {d : D} {k : Bool} (r1 : Rp K H mu x d) (hk : truD st d = some k) : TruV K x H k := by
  cases r1 with
  | non => cases hk; rfl
  | bl b => cases hk; rfl
  | int i => cases hk; rfl
  | str x =>
    simp only [truD] at hk
    split at hk
    · rename_i hl
      cases hk; exact ⟨lim_le hl, rfl⟩
    · cases hk
  | tup h hs =>
    cases hk
    refine .inr (.inl ⟨_, h.sq, ?_⟩)
    cases hs <;> rfl
  | ro h hs =>
    cases hk
    refine .inl ⟨_, h.sq, ?_⟩
    cases hs <;> rfl
  | ref h =>
    simp only [truD] at hk
    obtain ⟨o, ho, ok⟩ := s1.at h
    rw [ho] at hk
    split at hk
    · rename_i eq; cases eq; cases hk
      obtain ⟨vs, h1, r⟩ := ok
      refine .inl ⟨vs, .inl (.inl h1), ?_⟩
      cases r <;> rfl
    · rename_i eq; cases eq; cases hk
      obtain ⟨od, vs, h1, r⟩ := ok
      refine .inl ⟨vs, .inl (.inr ⟨od, h1⟩), ?_⟩
      cases r <;> rfl
    · cases hk
theorem mt_tru (ha : PE X a (tE X.K W ma)) (he : ∀ whole, isTrue a X.env whole = (do let v ← whole; standAt a.pos; holding [v] (truthy v)) := by intro _; rfl) : PT X a (tT X.K W (mTru ma)) := by
  refine PT.imp (pt_truth ha he) fun σ H Q ⟨mu, ev, st, he, hst, hp⟩ => ?_
  refine ⟨mu, ev, st, he, hst, hp.bind fun d st1 mu1 x H1 _ e1 r1 s1 hp1 => ?_⟩
  split at hp1
  · rename_i k hk
    exact ⟨k, tru_rel s1 r1 hk, hp1 _ _ _ .refl rfl s1⟩
  · exact hp1.elim
theorem and_go {t u : Mo Bool} {σ : L2.St} {H : Hp} {Q : Bool → Hp → Prop} (h : tT X.K W (mTAnd t u) σ H Q) : tAnd (tT X.K W t) (tT X.K W u) σ H Q := by
  obtain ⟨mu, ev, st, he, hst, hp⟩ := h
  refine ⟨mu, ev, st, he, hst, hp.bind fun d st1 mu1 x H1 _ e1 r1 s1 hp1 => ?_⟩
  obtain rfl : x = d := r1
  cases x with
  | true => exact ⟨mu1, ev, st1, he.mono e1, s1, hp1⟩
  | false => exact hp1 _ _ _ .refl rfl s1
theorem or_go {t u : Mo Bool} {σ : L2.St} {H : Hp} {Q : Bool → Hp → Prop} (h : tT X.K W (mTOr t u) σ H Q) : tOr (tT X.K W t) (tT X.K W u) σ H Q := by
  obtain ⟨mu, ev, st, he, hst, hp⟩ := h
  refine ⟨mu, ev, st, he, hst, hp.bind fun d st1 mu1 x H1 _ e1 r1 s1 hp1 => ?_⟩
  obtain rfl : x = d := r1
  cases x with
  | true => exact hp1 _ _ _ .refl rfl s1
  | false => exact ⟨mu1, ev, st1, he.mono e1, s1, hp1⟩
theorem mw_and1 (ha : PT X a (tT X.K W ta)) : PW X (.BoolOp .And [a] pos) (tT X.K W ta) := pw_and1 ha
theorem mw_or1 (ha : PT X a (tT X.K W ta)) : PW X (.BoolOp .Or [a] pos) (tT X.K W ta) := pw_or1 ha
theorem mw_and (ha : PT X a (tT X.K W ta)) (hb : PW X (.BoolOp .And (b :: rest) pos) (tT X.K W tb)) : PW X (.BoolOp .And (a :: b :: rest) pos) (tT X.K W (mTAnd ta tb)) := PW.imp (pw_and ha hb) fun _ _ _ h => and_go h
theorem mw_or (ha : PT X a (tT X.K W ta)) (hb : PW X (.BoolOp .Or (b :: rest) pos) (tT X.K W tb)) : PW X (.BoolOp .Or (a :: b :: rest) pos) (tT X.K W (mTOr ta tb)) := PW.imp (pw_or ha hb) fun _ _ _ h => or_go h
theorem mt_w (h : PW X e (tT X.K W ta)) : PT X e (tT X.K W ta) := h.pt
theorem mt_not (ha : PT X a (tT X.K W ta)) : PT X (.UnaryOp .Not a pos) (tT X.K W (mTNot ta)) := by
  refine PT.imp (pt_not ha) fun σ H Q ⟨mu, ev, st, he, hst, hp⟩ => ?_
  refine ⟨mu, ev, st, he, hst, hp.bind fun d st1 mu1 x H1 _ e1 r1 s1 hp1 => ?_⟩
  obtain rfl : x = d := r1
  exact hp1 _ _ _ .refl rfl s1
/-! ### and, or, not as values (of truths); a if t else b; a < b < c -/
def mAnd (ma mb : Mo D) : Mo D := fun ev st => (ma ev st).bind fun d st1 => match d with
  | .bl true => mb ev st1
  | .bl false => .ok (.bl false) st1
  | _ => .bad
def mOr (ma mb : Mo D) : Mo D := fun ev st => (ma ev st).bind fun d st1 => match d with
  | .bl true => .ok (.bl true) st1
  | .bl false => mb ev st1
  | _ => .bad
def mNot (ma : Mo D) : Mo D := fun ev st => (ma ev st).bind fun d st1 => match truD st1 d with
  | some b => .ok (.bl (!b)) st1
  | none => .bad
def mIf (t : Mo Bool) (ma mb : Mo D) : Mo D := fun ev st => (t ev st).bind fun b st1 => if b = true then ma ev st1 else mb ev st1
def mChain (g g' : G2) (ma mb mc : Mo D) : Mo D := fun ev st => (ma ev st).bind fun x st1 => (mb ev st1).bind fun y st2 => (Rs.of (g x y st2)).bind fun z st3 => match z with
  | .bl true => (mc ev st3).bind fun w st4 => Rs.of (g' y w st4)
  | .bl false => .ok (.bl false) st3
  | _ => .bad
theorem me_one {op : BoolOp} (h : PE X a (tE X.K W ma)) : PE X (.BoolOp op [a] pos) (tE X.K W ma) := pe_one h
theorem me_and (ha : PE X a (tE X.K W ma)) (hb : PE X (.BoolOp .And (b :: rest) pos) (tE X.K W mb)) : PE X (.BoolOp .And (a :: b :: rest) pos) (tE X.K W (mAnd ma mb)) := by
  refine PE.imp (pe_and ha hb) fun σ H Q ⟨mu, ev, st, he, hst, hp⟩ => ?_
  refine ⟨mu, ev, st, he, hst, hp.bind fun d st1 mu1 x H1 _ e1 r1 s1 hp1 => ?_⟩
  split at hp1
  · cases r1; exact ⟨true, rfl, ⟨mu1, ev, st1, he.mono e1, s1, hp1⟩⟩
  · cases r1; exact ⟨false, rfl, hp1 _ _ _ .refl (.bl _) s1⟩
  · exact hp1.elim
theorem me_or (ha : PE X a (tE X.K W ma)) (hb : PE X (.BoolOp .Or (b :: rest) pos) (tE X.K W mb)) : PE X (.BoolOp .Or (a :: b :: rest) pos) (tE X.K W (mOr ma mb)) := by
  refine PE.imp (pe_or ha hb) fun σ H Q ⟨mu, ev, st, he, hst, hp⟩ => ?_
  refine ⟨mu, ev, st, he, hst, hp.bind fun d st1 mu1 x H1 _ e1 r1 s1 hp1 => ?_⟩
  split at hp1
  · cases r1; exact ⟨true, rfl, hp1 _ _ _ .refl (.bl _) s1⟩
  · cases r1; exact ⟨false, rfl, ⟨mu1, ev, st1, he.mono e1, s1, hp1⟩⟩
  · exact hp1.elim
theorem me_not (ha : PE X a (tE X.K W ma)) : PE X (.UnaryOp .Not a pos) (tE X.K W (mNot ma)) := by
  refine PE.imp (pe_notT ha) fun σ H Q ⟨mu, ev, st, he, hst, hp⟩ => ?_
  refine ⟨mu, ev, st, he, hst, hp.bind fun d st1 mu1 x H1 _ e1 r1 s1 hp1 => ?_⟩
  split at hp1
  · rename_i k hk
    exact ⟨k, tru_rel s1 r1 hk, hp1 _ _ _ .refl (.bl _) s1⟩
  · exact hp1.elim
theorem me_ifExp (hc : PT X c (tT X.K W ta)) (ha : PE X a (tE X.K W ma)) (hb : PE X b (tE X.K W mb)) : PE X (.IfExp c a b pos) (tE X.K W (mIf ta ma mb)) := by
  refine PE.imp (pe_ifExp hc ha hb) fun σ H Q ⟨mu, ev, st, he, hst, hp⟩ => ?_
  refine ⟨mu, ev, st, he, hst, hp.bind fun d st1 mu1 x H1 _ e1 r1 s1 hp1 => ?_⟩
  obtain rfl : x = d := r1
  cases x with
  | true => exact ⟨mu1, ev, st1, he.mono e1, s1, hp1⟩
  | false => exact ⟨mu1, ev, st1, he.mono e1, s1, hp1⟩
theorem chain_go {r r' : R2} {g g' : G2} (hs : OpS X.K r g) (hs' : OpS X.K r' g') {σ : L2.St} {H : Hp} {Q : VK} (h : tE X.K W (mChain g g' ma mb mc) σ H Q) : tChain r r' (tE X.K W ma) (tE X.K W mb) (tE X.K W mc) σ H Q := by
  obtain ⟨mu, ev, st, he, hst, hp⟩ := h
  refine ⟨mu, ev, st, he, hst, hp.bind fun d st1 mu1 x H1 _ e1 r1 s1 hp1 => ?_⟩
  refine ⟨mu1, ev, st1, he.mono e1, s1, hp1.bind fun d2 st2 mu2 y H2 _ e2 r2 s2 hp2 => ?_⟩
  cases eg : g d d2 st2 with
  | none => rw [eg] at hp2; exact hp2.elim
  | some z =>
    obtain ⟨d3, st3⟩ := z
    rw [eg] at hp2
    refine hs mu2 H2 st2 st3 x y _ _ d3 _ s2 (Rp.mono e2 r1) r2 eg fun mu3 v H3 e3 r3 s3 => ?_
    have hp3 := Post.from hp2 e3
    simp only [Rs.of, Rs.bind_ok] at hp3
    split at hp3
    · cases r3
      refine ⟨true, rfl, iteT ⟨mu3, ev, st3, (he.mono e1).mono (e2.trans e3), s3, hp3.bind fun d4 st4 mu4 w H4 _ e4 r4 s4 hp4 => ?_⟩⟩
      obtain ⟨d5, st5, eq, k⟩ := post_of hp4
      exact hs' mu4 H4 st4 st5 y w _ _ d5 Q s4 (Rp.mono (e3.trans e4) r2) r4 eq k
    · cases r3
      exact ⟨false, rfl, iteF (hp3 _ _ _ .refl (.bl _) s3)⟩
    · exact hp3.elim
theorem me_chain {op op' : CmpOp} {r r' : R2} {g g' : G2} (ho : OpR X (compareOp op) r) (hs : OpS X.K r g) (ho' : OpR X (compareOp op') r') (hs' : OpS X.K r' g') (ha : PE X a (tE X.K W ma)) (hb : PE X b (tE X.K W mb)) (hc : PE X c (tE X.K W mc))
    (hm : lastMarks [op, op'] [b, c] = false := by with_unfolding_all rfl) : PE X (.Compare a [op, op'] [b, c] pos) (tE X.K W (mChain g g' ma mb mc)) :=
  PE.imp (pe_chain ho ho' ha hb hc hm) fun _ _ _ h => chain_go hs hs' h
theorem mt_chain {op op' : CmpOp} {r r' : R2} {g g' : G2} (ho : OpR X (compareOp op) r) (hs : OpS X.K r g) (ho' : OpR X (compareOp op') r') (hs' : OpS X.K r' g') (ha : PE X a (tE X.K W ma)) (hb : PE X b (tE X.K W mb)) (hc : PE X c (tE X.K W mc))
    (hm : lastMarks [op, op'] [b, c] = false := by with_unfolding_all rfl) : PT X (.Compare a [op, op'] [b, c] pos) (tT X.K W (mTest (mChain g g' ma mb mc))) :=
  PT.imp (pt_chain ho ho' ha hb hc hm) fun _ _ _ h => chain_go hs hs' (tst_go h)
end Ml

namespace Ml
open PySem L2
variable {X : Cx} {W : Wx} {a b c e : Expr} {es rest : List Expr} {pos p q : Pos} {ma mb mc : Mo D} {mr : Mo (List D)} {ta tb : Mo Bool}
/-! ### an item -/
theorem Rps.atI {K : PySem.W.Frag} {H : Hp} {mu : List Addr} {vs : List V} {ds : List D} (h : Rps K H mu vs ds) {i : Int} {d : D} (e : L2.atI ds i = some d) : ∃ v, L2.atI vs i = some v ∧ Rp K H mu v d := by
  unfold L2.atI at e ⊢
  rw [Rps.length h]
  cases hx : ixN ds.length i with
  | none => rw [hx] at e; cases e
  | some j =>
    rw [hx] at e
    exact h.get e
def gIx : G2 := fun a b st => match b with
  | .int i => (match a with
    | .str z => if z.length ≤ lim then (match L2.atI z.cps.toList i with
      | some c => some (.str ⟨#[c]⟩, st)
      | none => none) else none
    | _ => match seqOf st a with
      | some ds => (match L2.atI ds i with
        | some d => some (d, st)
        | none => none)
      | none => none)
  | _ => none
theorem opS_ix {K : PySem.W.Frag} : OpS K (rIx K) gIx := by
  intro mu H st st' x y a b d Q hs hx hy e k
  unfold gIx at e
  split at e
  · cases hy
    split at e
    · cases hx
      split at e
      · rename_i hl
        split at e
        · rename_i c hc
          cases e
          exact .inr (.inr ⟨_, _, c, rfl, rfl, lim_le hl, hc, k _ _ _ .refl (.str _) hs⟩)
        · cases e
      · cases e
    · split at e
      · rename_i ds hd
        split at e
        · rename_i d' hd'
          cases e
          obtain ⟨q, vs, rfl, sq, r⟩ := seq_rel hs hx hd
          obtain ⟨v, hv, rv⟩ := r.atI hd'
          rcases sq with sq | sq
          · exact .inl ⟨q, vs, _, v, rfl, rfl, sq, hv, k _ _ _ .refl rv hs⟩
          · exact .inr (.inl ⟨q, vs, _, v, rfl, rfl, sq, hv, k _ _ _ .refl rv hs⟩)
        · cases e
      · cases e
  · cases e
theorem me_item (ha : PE X a (tE X.K W ma)) (hb : PE X b (tE X.K W mb)) (hx : PlainIx b := by exact fun _ _ => rfl) : PE X (.Subscript a b pos) (tE X.K W (mOp gIx ma mb)) := me_ix ix_seq opS_ix ha hb hx
/-! ### slices -/
abbrev MoO := Mo (Option Int)
def mNoPart : MoO := fun _ st => .ok none st
def mPart (m : Mo D) : MoO := fun ev st => (m ev st).bind fun d st1 => match d with
  | .int i => .ok (some i) st1
  | _ => .bad
def RO : RR (Option Int) (Option Int) := ⟨fun _ _ _ _ v d => v = d, fun _ h => h⟩
abbrev tO (K : PySem.W.Frag) (W : Wx) (m : MoO) : TO := tG K W RO m
theorem PO.imp {e : Option Expr} {t t' : TO} (h : PO X e t) (k : ∀ σ H Q, t' σ H Q → t σ H Q) : PO X e t' := ⟨fun pins s σ H Q I hw => h.run pins s σ H Q I (k σ H Q hw)⟩
theorem mo_none : PO X none (tO X.K W mNoPart) := PO.imp po_none fun σ H Q ⟨mu, ev, st, he, hs, hp⟩ => hp _ _ _ .refl rfl hs
theorem mo_some (h : PE X e (tE X.K W ma)) : PO X (some e) (tO X.K W (mPart ma)) := by
  refine PO.imp (po_some h) fun σ H Q ⟨mu, ev, st, he, hst, hp⟩ => ?_
  refine ⟨mu, ev, st, he, hst, hp.bind fun d st1 mu1 x H1 _ e1 r1 s1 hp1 => ?_⟩
  cases d <;> simp only at hp1 <;> first | exact hp1.elim | skip
  cases r1
  exact ⟨_, rfl, hp1 _ _ _ .refl rfl s1⟩
def cutD {α : Type} (ds : List α) (lo hi : Option Int) : List α := (ds.drop (HT.sIx ds.length 0 lo)).take (HT.sIx ds.length ds.length hi - HT.sIx ds.length 0 lo)
def gSl (a : D) (lo hi : Option Int) : Option D := match a with
  | .tup ds => some (.tup (cutD ds lo hi))
  | .str z => if z.length ≤ lim then some (.str (cutS z lo hi)) else none
  | _ => none
def mSl (ma : Mo D) (ml mh : MoO) : Mo D := fun ev st => (ma ev st).bind fun d st1 => (ml ev st1).bind fun lo st2 => (mh ev st2).bind fun hi st3 => match gSl d lo hi with
  | some d' => .ok d' st3
  | none => .bad
theorem cut_whole {α : Type} (ds : List α) (lo hi : Option Int) (h : HT.sIx ds.length 0 lo = 0 ∧ HT.sIx ds.length ds.length hi = ds.length) : cutD ds lo hi = ds := by
  unfold cutD
  rw [h.1, h.2]; simp
theorem Rps.cut {K : PySem.W.Frag} {H : Hp} {mu : List Addr} {vs : List V} {ds : List D} (h : Rps K H mu vs ds) (lo hi : Option Int) : Rps K H mu (cutV vs lo hi) (cutD ds lo hi) := by
  unfold cutV cutD
  rw [Rps.length h]
  exact (h.drop _).take _
theorem me_slice {lo hi : Option Expr} {ml mh : MoO} {p2 : Pos} (ha : PE X e (tE X.K W ma)) (hl : PO X lo (tO X.K W ml)) (hu : PO X hi (tO X.K W mh)) : PE X (.Subscript e (.Slice lo hi none p2) pos) (tE X.K W (mSl ma ml mh)) := by
  refine PE.imp (pe_slice (sl_tupA.or sl_str) ha hl hu) fun σ H Q ⟨mu, ev, st, he, hst, hp⟩ => ?_
  refine ⟨mu, ev, st, he, hst, hp.bind fun d st1 mu1 x H1 _ e1 r1 s1 hp1 => ?_⟩
  refine ⟨mu1, ev, st1, he.mono e1, s1, hp1.bind fun lo st2 mu2 l H2 _ e2 r2 s2 hp2 => ?_⟩
  refine ⟨mu2, ev, st2, (he.mono e1).mono e2, s2, hp2.bind fun hi st3 mu3 u H3 _ e3 r3 s3 hp3 => ?_⟩
  obtain rfl : l = lo := r2
  obtain rfl : u = hi := r3
  have r1 := Rp.mono (e2.trans e3) r1
  split at hp3
  · rename_i d' hd
    unfold gSl at hd
    split at hd
    · cases hd
      cases r1 with
      | tup ht hs =>
        rename_i q vs ds
        refine .inl ⟨_, _, rfl, ht.sq, fun hw => ?_, fun hw p hp => ?_⟩
        · refine hp3 _ _ _ .refl (.tup ht ?_) s3
          rw [cut_whole]; exact hs
          rw [← Rps.length hs]; exact hw
        · exact hp3 _ _ _ (ext_new hp _) (.tup (.inl upd_same) ((hs.cut l u).ctx hp)) (s3.new hp _)
    · split at hd
      · rename_i hz
        cases hd; cases r1
        exact .inr ⟨_, rfl, lim_le hz, hp3 _ _ _ .refl (.str _) s3⟩
      · cases hd
    · cases hd
  · exact hp3.elim
/-! ### len, int, abs, min, max, str, isinstance -/
def lenD (st : Sto) : D → Option Nat
  | .str x => if x.length ≤ lim then some x.length else none
  | d => (seqOf st d).map (·.length)
def gLen : GA := fun ds st => match ds with
  | [d] => (lenD st d).map fun n => (.int n, st)
  | _ => none
theorem callS_len {K : PySem.W.Frag} : CallS K (fun xs H Q => ∃ x n, xs = [x] ∧ LenV K x H n ∧ Q (.int n) H) gLen := by
  intro mu H st st' xs as d Q hs hx e k
  unfold gLen at e
  split at e
  · cases hx with
    | cons h1 h2 =>
      cases h2
      rename_i d0 v
      cases hn : lenD st d0 with
      | none => rw [hn] at e; cases e
      | some n =>
        rw [hn] at e
        cases e
        refine ⟨_, n, rfl, ?_, k _ _ _ .refl (.int _) hs⟩
        unfold lenD at hn
        split at hn
        · cases h1
          split at hn
          · rename_i hl; cases hn; exact ⟨lim_le hl, rfl⟩
          · cases hn
        · cases hq : seqOf st d0 with
          | none => rw [hq] at hn; cases hn
          | some ds =>
            rw [hq] at hn
            cases hn
            obtain ⟨q, vs, rfl, sq, r⟩ := seq_rel hs h1 hq
            rcases sq with sq | sq
            · exact .inl ⟨vs, sq, (Rps.length r).symm⟩
            · exact .inr ⟨vs, sq, (Rps.length r).symm⟩
  · cases e
def gInt : GA := fun ds st => match ds with
  | [.int i] => some (.int i, st)
  | [.bl b] => some (.int (if b then 1 else 0), st)
  | _ => none
theorem callS_int {K : PySem.W.Frag} : CallS K (fun xs H Q => (∃ i, xs = [.int i] ∧ Q (.int i) H) ∨ ∃ k, xs = [.bl k] ∧ Q (.int (if k then 1 else 0)) H) gInt := by
  intro mu H st st' xs as d Q hs hx e k
  unfold gInt at e
  split at e
  · cases e; cases hx with | cons h1 h2 => cases h2; cases h1; exact .inl ⟨_, rfl, k _ _ _ .refl (.int _) hs⟩
  · cases e; cases hx with | cons h1 h2 => cases h2; cases h1; exact .inr ⟨_, rfl, k _ _ _ .refl (.int _) hs⟩
  · cases e
def gAbs : GA := fun ds st => match ds with
  | [.int i] => some (.int (if i < 0 then -i else i), st)
  | _ => none
theorem callS_abs {K : PySem.W.Frag} : CallS K (fun xs H Q => ∃ i, xs = [.int i] ∧ Q (.int (if i < 0 then -i else i)) H) gAbs := by
  intro mu H st st' xs as d Q hs hx e k
  unfold gAbs at e
  split at e
  · cases e; cases hx with | cons h1 h2 => cases h2; cases h1; exact ⟨_, rfl, k _ _ _ .refl (.int _) hs⟩
  · cases e
def gMax : GA := fun ds st => match ds with
  | [.int i, .int j] => some (.int (if j > i then j else i), st)
  | _ => none
def gMin : GA := fun ds st => match ds with
  | [.int i, .int j] => some (.int (if j < i then j else i), st)
  | _ => none
theorem callS_max {K : PySem.W.Frag} : CallS K (fun xs H Q => ∃ i j, xs = [.int i, .int j] ∧ Q (.int (if j > i then j else i)) H) gMax := by
  intro mu H st st' xs as d Q hs hx e k
  unfold gMax at e
  split at e
  · cases e; cases hx with | cons h1 h2 => cases h2 with | cons h2 h3 => cases h3; cases h1; cases h2; exact ⟨_, _, rfl, k _ _ _ .refl (.int _) hs⟩
  · cases e
theorem callS_min {K : PySem.W.Frag} : CallS K (fun xs H Q => ∃ i j, xs = [.int i, .int j] ∧ Q (.int (if j < i then j else i)) H) gMin := by
  intro mu H st st' xs as d Q hs hx e k
  unfold gMin at e
  split at e
  · cases e; cases hx with | cons h1 h2 => cases h2 with | cons h2 h3 => cases h3; cases h1; cases h2; exact ⟨_, _, rfl, k _ _ _ .refl (.int _) hs⟩
  · cases e
def gStr : GA := fun ds st => match ds with
  | [.int i] => if i.natAbs < 1000000 then some (.str (toString i), st) else none
  | _ => none
theorem callS_str {K : PySem.W.Frag} : CallS K (fun xs H Q => ∃ i : Int, xs = [.int i] ∧ i.natAbs.log2 < 1920 ∧ Q (.str (toString i)) H) gStr := by
  intro mu H st st' xs as d Q hs hx e k
  unfold gStr at e
  split at e
  · split at e
    · rename_i hl
      cases e; cases hx with
      | cons h1 h2 =>
        cases h2; cases h1
        refine ⟨_, rfl, ?_, k _ _ _ .refl (.str _) hs⟩
        refine Nat.lt_of_le_of_lt (m := 20) ?_ (by decide)
        rename_i i
        by_cases h0 : i.natAbs = 0
        · rw [h0]; decide
        · exact Nat.le_of_lt ((Nat.log2_lt h0).mpr (Nat.lt_trans hl (by decide)))
    · cases e
  · cases e
def tyD (st : Sto) : D → Option String
  | .non => some "NoneType"
  | .bl _ => some "bool"
  | .int _ => some "int"
  | .str _ => some "str"
  | .tup _ => some "tuple"
  | .ref i => match st[i]? with
    | some (.lst _) => some "list"
    | some (.ro _) => some "list"
    | some (.dK _ _) => some "dict"
    | some (.dT false _) => some "dict"
    | _ => none
  | .ro _ => some "list"
def isiB (t c : String) : Bool := t == c || (t == "bool" && c == "int")
def okCls (c : String) : Bool := c == "int" || c == "bool" || c == "str" || c == "tuple" || c == "list"
def okTy (c : String) : Bool := c == "int" || c == "bool" || c == "str" || c == "tuple" || c == "list" || c == "NoneType" || c == "dict"
theorem kit_all {t c : String} (h : okTy t = true) (h' : okCls c = true) : kitB t c = some (isiB t c) := by
  simp only [okTy, okCls, Bool.or_eq_true, beq_iff_eq] at h h'
  rcases h' with (((h' | h') | h') | h') | h' <;> subst h' <;> rcases h with (((((h | h) | h) | h) | h) | h) | h <;> subst h <;> decide +kernel
theorem tyX_of {K : PySem.W.Frag} {H : Hp} {mu : List Addr} {st : Sto} (hs : RelSt K H mu st) {v : V} {d : D} {t : String} (h : Rp K H mu v d) (e : tyD st d = some t) : TyX K H v (.type t) ∧ okTy t = true := by
  cases h with
  | non => cases e; exact ⟨.base .non, by decide⟩
  | bl b => cases e; exact ⟨.base (.bl b), by decide⟩
  | int b => cases e; exact ⟨.base (.int b), by decide⟩
  | str b => cases e; exact ⟨.base (.str b), by decide⟩
  | tup h r =>
    cases e
    refine ⟨?_, by decide⟩
    rcases h with h | ⟨_, o, its, n, h1, h2, _⟩
    · exact .base (.tup h)
    · exact .kTuple h1 h2
  | ro h r =>
    cases e
    refine ⟨?_, by decide⟩
    rcases h with ⟨o, h, _⟩ | ⟨o, its, n, h1, h2, _⟩
    · exact .base (.frz h)
    · exact .kList h1 h2
  | ref h =>
    simp only [tyD] at e
    obtain ⟨o, ho, ok⟩ := hs.at h
    rw [ho] at e
    split at e
    · rename_i eq; cases eq; cases e
      obtain ⟨vs, h1, _⟩ := ok
      exact ⟨.base (.lst h1), by decide⟩
    · rename_i eq; cases eq; cases e
      obtain ⟨o, vs, h1, _⟩ := ok
      exact ⟨.base (.frz h1), by decide⟩
    · rename_i lk kvs eq; cases eq; cases e
      cases lk with
      | true => obtain ⟨o, ws, h1, _⟩ := ok; exact ⟨.fDict h1, by decide⟩
      | false => obtain ⟨ws, h1, _⟩ := ok; exact ⟨.base (.dK h1), by decide⟩
    · rename_i eq; cases eq; cases e
      obtain ⟨ws, h1, _⟩ := ok
      exact ⟨.base (.dT h1), by decide⟩
    · cases e
def mIsi (c : String) (m : Mo D) : Mo D := fun ev st => (m ev st).bind fun d st1 => match tyD st1 d with
  | some t => .ok (.bl (isiB t c)) st1
  | none => .bad
theorem me_isi {x : Str} {T : String} {p2 : Pos} (hg : Gl X "isinstance") (hm : X.mg "isinstance" = none) (hg2 : Gl X x) (hm2 : X.mg x = none) (hv2 : bootBuiltins x = some (.type T)) (hT : okCls T = true) (ha : PE X a (tE X.K W ma)) (hn2 : x ≠ "__name__" := by decide) (hd2 : (x == ("__debug__" : Str)) = false := by decide)
    (hs0 : starEach [.Name x p2] X.env = (false, eval (.Name x p2) X.env) :: starEach [] X.env := by rfl) (he : starEach [a, .Name x p2] X.env = (false, eval a X.env) :: starEach [.Name x p2] X.env := by rfl) (hpl : (backTo pos (starEach [.Name x p2] X.env)).any (·.1) = false := by rfl) :
    PE X (.Call (.Name "isinstance" p) [a, .Name x p2] [] pos) (tE X.K W (mIsi T ma)) := by
  refine PE.imp (pe_callB call_isi hg hm (by decide +kernel) (pa_cons ha (pa_cons (pe_bltn (v := .ty T) hg2 hm2 hv2 rfl hn2 hd2) pa_nil hs0) he) (by decide) (by decide) he hpl) fun σ H Q ⟨mu, ev, st, he, hst, hp⟩ => ?_
  refine ⟨mu, ev, st, he, hst, hp.bind fun d st1 mu1 x H1 _ e1 r1 s1 hp1 => ?_⟩
  split at hp1
  · rename_i t ht
    obtain ⟨ty, ok⟩ := tyX_of s1 r1 ht
    exact ⟨x, .ty T, .type t, .type T, isiB t T, rfl, .ty T, ty, kit_ty (kit_all ok hT), hp1 _ _ _ .refl (.bl _) s1⟩
  · exact hp1.elim
def mIsi2 (c c' : String) (m : Mo D) : Mo D := fun ev st => (m ev st).bind fun d st1 => match tyD st1 d with
  | some t => .ok (.bl (isiB t c || isiB t c')) st1
  | none => .bad
theorem me_isi2 {x y : Str} {T T' : String} {p2 p3 p4 : Pos} {k : Nat} (hg : Gl X "isinstance") (hm : X.mg "isinstance" = none) (hg2 : Gl X x) (hm2 : X.mg x = none) (hv2 : bootBuiltins x = some (.type T)) (hT : okCls T = true) (hg3 : Gl X y) (hm3 : X.mg y = none) (hv3 : bootBuiltins y = some (.type T')) (hT' : okCls T' = true)
    (ha : PE X a (tE X.K W ma)) (hn2 : x ≠ "__name__" := by decide) (hd2 : (x == ("__debug__" : Str)) = false := by decide) (hn3 : y ≠ "__name__" := by decide) (hd3 : (y == ("__debug__" : Str)) = false := by decide)
    (hs0 : starEach [.Tuple [.Name x p2, .Name y p3] k p4] X.env = (false, eval (.Tuple [.Name x p2, .Name y p3] k p4) X.env) :: starEach [] X.env := by rfl) (hs1 : starEach [.Name x p2, .Name y p3] X.env = (false, eval (.Name x p2) X.env) :: starEach [.Name y p3] X.env := by rfl) (hs2 : starEach [.Name y p3] X.env = (false, eval (.Name y p3) X.env) :: starEach [] X.env := by rfl)
    (he : starEach [a, .Tuple [.Name x p2, .Name y p3] k p4] X.env = (false, eval a X.env) :: starEach [.Tuple [.Name x p2, .Name y p3] k p4] X.env := by rfl) (hpl : (backTo pos (starEach [.Tuple [.Name x p2, .Name y p3] k p4] X.env)).any (·.1) = false := by rfl) :
    PE X (.Call (.Name "isinstance" p) [a, .Tuple [.Name x p2, .Name y p3] k p4] [] pos) (tE X.K W (mIsi2 T T' ma)) := by
  refine PE.imp (pe_callB call_isiT hg hm (by decide +kernel) (pa_cons ha (pa_cons (pe_tup (pa_cons (pe_bltn (v := .ty T) hg2 hm2 hv2 rfl hn2 hd2) (pa_cons (pe_bltn (v := .ty T') hg3 hm3 hv3 rfl hn3 hd3) pa_nil hs2) hs1)) pa_nil hs0) he) (by decide) (by decide) he hpl) fun σ H Q ⟨mu, ev, st, he, hst, hp⟩ => ?_
  refine ⟨mu, ev, st, he, hst, hp.bind fun d st1 mu1 x H1 _ e1 r1 s1 hp1 => ?_⟩
  split at hp1
  · rename_i t ht
    refine ⟨by show 2 ≤ sizeLine; decide, fun p hp => ?_⟩
    have s2 := s1.new hp (.tup [.ty T, .ty T'])
    obtain ⟨ty, ok⟩ := tyX_of s2 (Rp.mono (ext_new hp _) r1) ht
    refine ⟨x, p, [.ty T, .ty T'], .type t, [.type T, .type T'], isiB t T || isiB t T', rfl, upd_same, .cons (.ty T) (.cons (.ty T') .nil), ty, ?_, hp1 _ _ _ (ext_new hp _) (.bl _) s2⟩
    refine kitAny_cons (kit_ty (kit_all ok hT)) (fun e1 => ?_) (fun e1 => by rw [e1]; rfl)
    refine kitAny_cons (kit_ty (kit_all ok hT')) (fun e2 => ?_) (fun e2 => by rw [e2]; simp)
    rw [e1, e2]; rfl
  · exact hp1.elim
/-! ### a list that is read: a new one, or one of the store's -/
def RQ (K : PySem.W.Frag) : RR V (List D) := ⟨fun _ H mu _ v ds => ∃ p vs, v = .ref p ∧ SqL K H p vs ∧ Rps K H mu vs ds, fun _ h => h⟩
abbrev tQ (K : PySem.W.Frag) (W : Wx) (m : Mo (List D)) : TE := tG K W (RQ K) m
def mLst (m : Mo D) : Mo (List D) := fun ev st => (m ev st).bind fun d st1 => match d with
  | .ref i => (match st1[i]? with
    | some (.lst ds) => .ok ds st1
    | some (.ro ds) => .ok ds st1
    | _ => .bad)
  | .ro ds => .ok ds st1
  | _ => .bad
theorem mq_new (h : PE X e (tL X.K W mr)) : PE X e (tQ X.K W mr) := by
  refine PE.imp h fun σ H Q ⟨mu, ev, st, he, hst, hp⟩ => ⟨mu, ev, st, he, hst, ?_⟩
  cases hr : mr ev st with
  | bad => rw [hr] at hp; exact hp
  | exc c e s => rw [hr] at hp; exact hp
  | ok ds st1 =>
    rw [hr] at hp
    exact fun mu1 x H1 e1 ⟨p, vs, ex, h0, hpp, hn, rs⟩ s1 => hp mu1 x H1 e1 ⟨p, vs, ex, .inl (.inl hpp), rs⟩ s1
theorem mq_ref (h : PE X e (tE X.K W ma)) : PE X e (tQ X.K W (mLst ma)) := by
  refine PE.imp h fun σ H Q ⟨mu, ev, st, he, hst, hp⟩ => ?_
  refine ⟨mu, ev, st, he, hst, hp.bind fun d st1 mu1 x H1 _ e1 r1 s1 hp1 => ?_⟩
  split at hp1
  · cases r1 with
    | ref hi =>
      obtain ⟨o, ho, ok⟩ := s1.at hi
      rw [ho] at hp1
      split at hp1
      · rename_i eq; cases eq
        obtain ⟨vs, h1, r⟩ := ok
        exact hp1 _ _ _ .refl ⟨_, vs, rfl, .inl (.inl h1), r⟩ s1
      · rename_i eq; cases eq
        obtain ⟨od, vs, h1, r⟩ := ok
        exact hp1 _ _ _ .refl ⟨_, vs, rfl, .inl (.inr ⟨od, h1⟩), r⟩ s1
      · exact hp1.elim
  · cases r1 with
    | ro h r => exact hp1 _ _ _ .refl ⟨_, _, rfl, h.sq, r⟩ s1
  · exact hp1.elim
/-- a call of one list -/
def QS (K : PySem.W.Frag) {ξ α : Type} (R : RR ξ α) (r : List V → Hp → (ξ → Hp → Prop) → Prop) (g : List D → Option α) : Prop := ∀ (mu : List Addr) (H : Hp) (st : Sto) (p : Addr) (vs : List V) (ds : List D) (d : α) (Q : ξ → Hp → Prop), RelSt K H mu st → SqL K H p vs → Rps K H mu vs ds → g ds = some d →
  (∀ mu' v H', Ext mu H mu' H' → R.r H H' mu' st v d → RelSt K H' mu' st → Q v H') → r [.ref p] H Q
def mQ {α : Type} (g : List D → Option α) (mr : Mo (List D)) : Mo α := fun ev st => (mr ev st).bind fun ds st1 => match g ds with
  | some d => .ok d st1
  | none => .bad
theorem qs_go {r : List V → Hp → VK → Prop} {α : Type} {R : RR V α} {g : List D → Option α} (hs : QS X.K R r g) {σ : L2.St} {H : Hp} {Q : VK} (h : tG X.K W R (mQ g mr) σ H Q) : tCB r (tCons (tQ X.K W mr) tNil) σ H Q := by
  obtain ⟨mu, ev, st, he, hst, hp⟩ := h
  refine ⟨mu, ev, st, he, hst, hp.bind fun ds st1 mu1 x H1 _ e1 r1 s1 hp1 => ?_⟩
  obtain ⟨p, vs, rfl, sq, rs⟩ := r1
  cases hg : g ds with
  | none => rw [hg] at hp1; exact hp1.elim
  | some d =>
    rw [hg] at hp1
    exact hs mu1 H1 st1 p vs ds d Q s1 sq rs hg hp1
theorem mq_callB {id : String} {x : Str} {α : Type} {R : RR V α} {r : List V → Hp → VK → Prop} {g : List D → Option α} (hc : CallR X (.builtin id) r) (hs : QS X.K R r g) (hg : Gl X x) (hm : X.mg x = none) (hv : bootBuiltins x = some (.builtin id)) (ha : PE X e (tQ X.K W mr)) (hn : x ≠ "__name__" := by decide) (hdb : (x == ("__debug__" : Str)) = false := by decide)
    (he : starEach [e] X.env = (false, eval e X.env) :: starEach [] X.env := by rfl) : PE X (.Call (.Name x p) [e] [] pos) (tG X.K W R (mQ g mr)) :=
  PE.imp (pe_callB hc hg hm hv (pa_cons ha pa_nil he) hn hdb he rfl) fun _ _ _ h => qs_go (R := R) hs h
theorem mq_callTy {id : String} {x : Str} {α : Type} {R : RR V α} {r : List V → Hp → VK → Prop} {g : List D → Option α} (hc : CallR X (.type id) r) (hs : QS X.K R r g) (hg : Gl X x) (hm : X.mg x = none) (hv : bootBuiltins x = some (.type id)) (ha : PE X e (tQ X.K W mr)) (hn : x ≠ "__name__" := by decide) (hdb : (x == ("__debug__" : Str)) = false := by decide)
    (he : starEach [e] X.env = (false, eval e X.env) :: starEach [] X.env := by rfl) : PE X (.Call (.Name x p) [e] [] pos) (tG X.K W R (mQ g mr)) :=
  PE.imp (pe_callTy hc hg hm hv (pa_cons ha pa_nil he) hn hdb he rfl) fun _ _ _ h => qs_go (R := R) hs h
def intsOf : List D → Option (List Int)
  | [] => some []
  | .int i :: ds => (intsOf ds).map (i :: ·)
  | _ => none
def blsOf : List D → Option (List Bool)
  | [] => some []
  | .bl i :: ds => (blsOf ds).map (i :: ·)
  | _ => none
theorem Rps.ints {K : PySem.W.Frag} {H : Hp} {mu : List Addr} : ∀ {vs : List V} {ds : List D} {ns : List Int}, Rps K H mu vs ds → intsOf ds = some ns → vs = ns.map V.int
  | _, _, _, .nil, e => by cases e; rfl
  | _, _, ns, .cons h hs, e => by
    cases h <;> simp only [intsOf] at e <;> try cases e
    cases hq : intsOf _ with
    | none => rw [hq] at e; cases e
    | some ms =>
      rw [hq] at e; cases e
      rw [Rps.ints hs hq]; rfl
theorem Rps.bls {K : PySem.W.Frag} {H : Hp} {mu : List Addr} : ∀ {vs : List V} {ds : List D} {ns : List Bool}, Rps K H mu vs ds → blsOf ds = some ns → vs = ns.map V.bl
  | _, _, _, .nil, e => by cases e; rfl
  | _, _, ns, .cons h hs, e => by
    cases h <;> simp only [blsOf] at e <;> try cases e
    cases hq : blsOf _ with
    | none => rw [hq] at e; cases e
    | some ms =>
      rw [hq] at e; cases e
      rw [Rps.bls hs hq]; rfl
theorem Rps.of_ints {K : PySem.W.Frag} {H : Hp} {mu : List Addr} : ∀ ns : List Int, Rps K H mu (ns.map V.int) (ns.map D.int)
  | [] => .nil
  | n :: ns => .cons (.int n) (Rps.of_ints ns)
def gSum (ds : List D) : Option D := (intsOf ds).map fun ns => .int ns.sum
def gAny (ds : List D) : Option D := (blsOf ds).map fun ns => .bl (ns.any id)
def gAll (ds : List D) : Option D := (blsOf ds).map fun ns => .bl (ns.all id)
theorem qs_sum {K : PySem.W.Frag} : QS K (RE K) (rSum K) gSum := by
  intro mu H st p vs ds d Q hs sq rs e k
  unfold gSum at e
  cases hq : intsOf ds with
  | none => rw [hq] at e; cases e
  | some ns =>
    rw [hq] at e; cases e
    exact ⟨p, ns, rfl, by rw [← Rps.ints rs hq]; exact sq, k _ _ _ .refl (.int _) hs⟩
theorem qs_any {K : PySem.W.Frag} : QS K (RE K) (rAny K) gAny := by
  intro mu H st p vs ds d Q hs sq rs e k
  unfold gAny at e
  cases hq : blsOf ds with
  | none => rw [hq] at e; cases e
  | some ns =>
    rw [hq] at e; cases e
    exact ⟨p, ns, rfl, by rw [← Rps.bls rs hq]; exact sq, k _ _ _ .refl (.bl _) hs⟩
theorem qs_all {K : PySem.W.Frag} : QS K (RE K) (rAll K) gAll := by
  intro mu H st p vs ds d Q hs sq rs e k
  unfold gAll at e
  cases hq : blsOf ds with
  | none => rw [hq] at e; cases e
  | some ns =>
    rw [hq] at e; cases e
    exact ⟨p, ns, rfl, by rw [← Rps.bls rs hq]; exact sq, k _ _ _ .refl (.bl _) hs⟩
/-- rising -/
def insI (x : Int) : List Int → List Int
  | [] => [x]
  | y :: ys => if x ≤ y then x :: y :: ys else y :: insI x ys
def sortI : List Int → List Int
  | [] => []
  | x :: xs => insI x (sortI xs)
theorem insI_perm (x : Int) : ∀ ys, (insI x ys).Perm (x :: ys)
  | [] => .refl _
  | y :: ys => by
    unfold insI
    split
    · exact .refl _
    · exact ((insI_perm x ys).cons y).trans (.swap x y ys)
theorem sortI_perm : ∀ xs, (sortI xs).Perm xs
  | [] => .refl _
  | x :: xs => (insI_perm x _).trans ((sortI_perm xs).cons x)
theorem insI_sorted (x : Int) : ∀ ys, ys.Pairwise (· ≤ ·) → (insI x ys).Pairwise (· ≤ ·)
  | [], _ => by simp [insI]
  | y :: ys, h => by
    unfold insI
    rw [List.pairwise_cons] at h
    split
    · rename_i hxy
      rw [List.pairwise_cons]
      refine ⟨fun z hz => ?_, by rw [List.pairwise_cons]; exact h⟩
      rcases List.mem_cons.mp hz with rfl | hz
      · exact hxy
      · exact Int.le_trans hxy (h.1 z hz)
    · rename_i hxy
      rw [List.pairwise_cons]
      refine ⟨fun z hz => ?_, insI_sorted x ys h.2⟩
      rcases List.mem_cons.mp ((insI_perm x ys).mem_iff.mp hz) with rfl | hz
      · omega
      · exact h.1 z hz
theorem sortI_sorted : ∀ xs, (sortI xs).Pairwise (· ≤ ·)
  | [] => by simp [sortI]
  | x :: xs => insI_sorted x _ (sortI_sorted xs)
theorem sorted_one : ∀ {xs ys : List Int}, xs.Perm ys → xs.Pairwise (· ≤ ·) → ys.Pairwise (· ≤ ·) → xs = ys := by
  intro xs ys hp h1 h2
  exact hp.eq_of_pairwise (fun a b _ _ h h' => Int.le_antisymm h h') h1 h2
def gSorted (ds : List D) : Option (List D) := (intsOf ds).map fun ns => (sortI ns).map D.int
theorem qs_sorted {K : PySem.W.Frag} : QS K (RL K) (rSortedI K) gSorted := by
  intro mu H st p vs ds d Q hs sq rs e k
  unfold gSorted at e
  cases hq : intsOf ds with
  | none => rw [hq] at e; cases e
  | some ns =>
    rw [hq] at e; cases e
    refine ⟨p, ns, rfl, by rw [← Rps.ints rs hq]; exact sq, fun ns' p' hp hsd hn => ?_⟩
    have e1 : ns' = sortI ns := sorted_one (hp.trans (sortI_perm ns).symm) hsd (sortI_sorted ns)
    subst e1
    exact k _ _ _ (ext_new hn _) ⟨p', _, rfl, hn, upd_same, hs.fresh hn, Rps.of_ints _⟩ (hs.new hn _)
def gTupOf (ds : List D) : Option D := some (.tup ds)
theorem qs_tup {K : PySem.W.Frag} : QS K (RE K) (fun xs H Q => ∃ p ys, xs = [.ref p] ∧ ((SqL K H p ys ∧ ∀ l, H l = none → Q (.ref l) (upd H l (.tup ys))) ∨ (SqT K H p ys ∧ Q (.ref p) H))) gTupOf := by
  intro mu H st p vs ds d Q hs sq rs e k
  cases e
  exact ⟨p, vs, rfl, .inl ⟨sq, fun l hl => k _ _ _ (ext_new hl _) (.tup (.inl upd_same) (rs.ctx hl)) (hs.new hl _)⟩⟩
/-- l[i] of a list that is read (a new one) -/
def mItemQ (mr : Mo (List D)) (mb : Mo D) : Mo D := fun ev st => (mr ev st).bind fun ds st1 => (mb ev st1).bind fun d st2 => match d with
  | .int i => (match L2.atI ds i with
    | some z => .ok z st2
    | none => .bad)
  | _ => .bad
end Ml

namespace Ml
open PySem L2
variable {X : Cx} {W : Wx} {a b c e : Expr} {es rest : List Expr} {pos p q : Pos} {ma mb mc : Mo D} {mr : Mo (List D)} {ta tb : Mo Bool} {s1 s2 : Ms}
/-! ### statements -/
def mSkip : Ms := fun ev st => .ok (.nx, ev) st
def mSeq (s1 s2 : Ms) : Ms := fun ev st => match s1 ev st with
  | .ok (.nx, ev1) st1 => s2 ev1 st1
  | r => r
def mRet (m : Mo D) : Ms := fun ev st => (m ev st).bind fun d st1 => .ok (.rt d, ev) st1
def mRetN : Ms := fun ev st => .ok (.rt .non, ev) st
def mBreak : Ms := fun ev st => .ok (.bk, ev) st
def mSet (i : Nat) (m : Mo D) : Ms := fun ev st => (m ev st).bind fun d st1 => .ok (.nx, ev.set i (some d)) st1
def mIfS (t : Mo Bool) (s1 s2 : Ms) : Ms := fun ev st => (t ev st).bind fun b st1 => if b = true then s1 ev st1 else s2 ev st1
def mDrop (m : Mo D) : Ms := fun ev st => (m ev st).bind fun _ st1 => .ok (.nx, ev) st1
theorem mss_nil : PSs X [] (tS X.K W mSkip) := PSs.imp pss_nil fun D σ H ⟨mu, ev, st, he, hs, hp⟩ => hp _ _ _ .refl he hs
theorem PostS.seq {K : PySem.W.Frag} {mu : List Addr} {H : Hp} {s1 s2 : Ms} {ev : Ev} {st : Sto} {D : Ends} (h : PostS K W mu H (mSeq s1 s2 ev st) D) : PostS K W mu H (s1 ev st) { D with nx := tS K W s2 D } := by
  unfold mSeq at h
  cases hr : s1 ev st with
  | bad => rw [hr] at h; exact h
  | exc c e s => rw [hr] at h; exact h
  | ok r st1 =>
    obtain ⟨fl, ev1⟩ := r
    rw [hr] at h
    cases fl with
    | nx => exact fun mu' σ' H' e he hs => ⟨mu', ev1, st1, he, hs, PostS.from h e⟩
    | rt d => exact h
    | bk => exact h
    | ct => exact h
theorem mss_cons {s : Stmt} {r : List Stmt} (h1 : PS X s (tS X.K W s1)) (h2 : PSs X r (tS X.K W s2)) : PSs X (s :: r) (tS X.K W (mSeq s1 s2)) :=
  PSs.imp (pss_cons h1 h2) fun D σ H ⟨mu, ev, st, he, hs, hp⟩ => ⟨mu, ev, st, he, hs, PostS.seq hp⟩
theorem mss_one {s : Stmt} (h1 : PS X s (tS X.K W s1)) : PSs X [s] (tS X.K W s1) := pss_one h1
theorem ms_ret (h : PE X e (tE X.K W ma)) : PS X (.Return (some e) pos) (tS X.K W (mRet ma)) := by
  refine PS.imp (ps_ret h) fun D σ H ⟨mu, ev, st, he, hs, hp⟩ => ?_
  refine ⟨mu, ev, st, he, hs, hp.bind fun d st1 mu1 x H1 _ e1 r1 s1 hp1 => ?_⟩
  exact hp1 _ _ _ .refl (he.mono e1) s1 x r1
theorem ms_retN : PS X (.Return none pos) (tS X.K W mRetN) := PS.imp ps_retN fun D σ H ⟨mu, ev, st, he, hs, hp⟩ => hp _ _ _ .refl he hs .non .non
theorem ms_pass : PS X (.Pass pos) (tS X.K W mSkip) := PS.imp ps_pass fun D σ H ⟨mu, ev, st, he, hs, hp⟩ => hp _ _ _ .refl he hs
theorem ms_break : PS X (.Break pos) (tS X.K W mBreak) := PS.imp ps_break fun D σ H ⟨mu, ev, st, he, hs, hp⟩ => hp _ _ _ .refl he hs
theorem ms_set {i : Nat} {x : Str} {pos' : Pos} (hN : X.N.Nodup) (hi : X.N[i]? = some x) (hx : Loc X.env.scope x) (h : PE X e (tE X.K W ma)) (hs : swapsWith e (some (.Name x pos')) pos.line X.env = pure false := by rfl) (hf : X.fn x = true ∨ X.env.scope.names.lookup x = some .local := by first | exact .inl rfl | exact .inr rfl) :
    PS X (.Assign [.Name x pos'] e pos) (tS X.K W (mSet i ma)) := by
  refine PS.imp (ps_set hN hi hx h hs hf) fun D σ H ⟨mu, ev, st, he, hs, hp⟩ => ?_
  refine ⟨mu, ev, st, he, hs, hp.bind fun d st1 mu1 x H1 _ e1 r1 s1 hp1 => ?_⟩
  exact hp1 _ _ _ .refl ((he.mono e1).set r1 i) s1
theorem ms_if {A B : List Stmt} (hc : PT X c (tT X.K W ta)) (ha : PSs X A (tS X.K W s1)) (hb : PSs X B (tS X.K W s2)) : PS X (.If c A B pos) (tS X.K W (mIfS ta s1 s2)) := by
  refine PS.imp (ps_if hc ha hb) fun D σ H ⟨mu, ev, st, he, hs, hp⟩ => ?_
  refine ⟨mu, ev, st, he, hs, hp.bind fun d st1 mu1 x H1 _ e1 r1 s1 hp1 => ?_⟩
  obtain rfl : x = d := r1
  cases x with
  | true => exact ⟨mu1, ev, st1, he.mono e1, s1, hp1⟩
  | false => exact ⟨mu1, ev, st1, he.mono e1, s1, hp1⟩
theorem ms_expr (h : PE X e (tE X.K W ma)) (hs : swapsWith e none pos.line X.env = pure false := by rfl) : PS X (.Expr e pos) (tS X.K W (mDrop ma)) := by
  refine PS.imp (ps_expr h hs) fun D σ H ⟨mu, ev, st, he, hs, hp⟩ => ?_
  refine ⟨mu, ev, st, he, hs, hp.bind fun d st1 mu1 x H1 _ e1 r1 s1 hp1 => ?_⟩
  exact hp1 _ _ _ .refl (he.mono e1) s1
/-! ### targets -/
abbrev Gt := D → Ev → Option Ev
/-- slots beyond ws stand -/
def Frm (ws : List Nat) (σ σ' : L2.St) : Prop := σ'.length = σ.length ∧ ∀ i, i ∉ ws → σ'[i]? = σ[i]?
theorem Frm.trans {ws ws' : List Nat} {σ σ1 σ2 : L2.St} (a : Frm ws σ σ1) (b : Frm ws' σ1 σ2) : Frm (ws ++ ws') σ σ2 :=
  ⟨b.1.trans a.1, fun i h => by simp only [List.mem_append, not_or] at h; exact (b.2 i h.2).trans (a.2 i h.1)⟩
theorem frm_set (σ : L2.St) (i : Nat) (v : Option V) : Frm [i] σ (σ.set i v) := ⟨by simp, fun j h => by simp at h; exact List.getElem?_set_ne (Ne.symm h)⟩
def tGt (K : PySem.W.Frag) (ws : List Nat) (g : Gt) : TG := fun v σ H Q => ∃ mu d ev ev', Rp K H mu v d ∧ RelEv K H mu σ ev ∧ g d ev = some ev' ∧ ∀ σ', RelEv K H mu σ' ev' → Frm ws σ σ' → Q σ' H
abbrev Gts := List D → Ev → Option Ev
def tGts (K : PySem.W.Frag) (ws : List Nat) (g : Gts) : TGs := fun vs σ H Q => ∃ mu ds ev ev', Rps K H mu vs ds ∧ RelEv K H mu σ ev ∧ g ds ev = some ev' ∧ ∀ σ', RelEv K H mu σ' ev' → Frm ws σ σ' → Q σ' H
theorem PG.imp {t t' : TG} (h : PG X e t) (k : ∀ v σ H Q, t' v σ H Q → t v σ H Q) : PG X e t' := ⟨fun pins s σ H v u Q I r hw => h.run pins s σ H v u Q I r (k v σ H Q hw)⟩
theorem PGs.imp {t t' : TGs} (h : PGs X es t) (k : ∀ v σ H Q, t' v σ H Q → t v σ H Q) : PGs X es t' := ⟨fun pins s σ H v u Q I r hw => h.run pins s σ H v u Q I r (k v σ H Q hw)⟩
def gtName (i : Nat) : Gt := fun d ev => some (ev.set i (some d))
def gtsNil : Gts := fun ds ev => match ds with
  | [] => some ev
  | _ => none
def gtsCons (g : Gt) (gs : Gts) : Gts := fun ds ev => match ds with
  | d :: ds => (g d ev).bind (gs ds)
  | [] => none
def gtTup (n : Nat) (gs : Gts) : Gt := fun d ev => match d with
  | .tup ds => if ds.length = n then gs ds ev else none
  | _ => none
theorem mg_name {i : Nat} {x : Str} (hN : X.N.Nodup) (hi : X.N[i]? = some x) (hx : Loc X.env.scope x) (hf : X.fn x = true ∨ X.env.scope.names.lookup x = some .local := by first | exact .inl rfl | exact .inr rfl) : PG X (.Name x pos) (tGt X.K [i] (gtName i)) := by
  refine PG.imp (pg_name hN hi hx hf) fun v σ H Q ⟨mu, d, ev, ev', r, he, hg, hq⟩ => ?_
  cases hg
  exact hq _ (he.set r i) (frm_set _ _ _)
theorem mgs_nil : PGs X [] (tGts X.K [] gtsNil) := by
  refine PGs.imp pgs_nil fun vs σ H Q ⟨mu, ds, ev, ev', r, he, hg, hq⟩ => ?_
  cases r with
  | nil => cases hg; exact ⟨rfl, hq _ he ⟨rfl, fun _ _ => rfl⟩⟩
  | cons _ _ => cases hg
theorem mgs_cons {g : Gt} {gs : Gts} {ws ws' : List Nat} (h1 : PG X e (tGt X.K ws g)) (h2 : PGs X es (tGts X.K ws' gs)) (hs : (assignEach (e :: es) X.env).map (·.2) = assign e X.env :: (assignEach es X.env).map (·.2) := by rfl) : PGs X (e :: es) (tGts X.K (ws ++ ws') (gtsCons g gs)) := by
  refine PGs.imp (pgs_cons h1 h2 hs) fun vs σ H Q ⟨mu, ds, ev, ev', r, he, hg, hq⟩ => ?_
  cases r with
  | nil => cases hg
  | cons h hs =>
    simp only [gtsCons] at hg
    cases hg1 : g _ ev with
    | none => rw [hg1] at hg; cases hg
    | some ev1 =>
      rw [hg1] at hg
      exact ⟨_, _, rfl, mu, _, ev, ev1, h, he, hg1, fun σ' he' f' => ⟨mu, _, ev1, ev', hs, he', hg, fun σ'' he'' f'' => hq σ'' he'' (f'.trans f'')⟩⟩
theorem mg_tup {k n : Nat} {gs : Gts} {ws : List Nat} (hc : X.calm = true) (h : PGs X es (tGts X.K ws gs)) (hn : (assignEach es X.env).length = n := by rfl) (hst : (assignEach es X.env).findIdx? (·.1) = none := by rfl) : PG X (.Tuple es k pos) (tGt X.K ws (gtTup n gs)) := by
  refine PG.imp (pg_tup hc h hn hst) fun v σ H Q ⟨mu, d, ev, ev', r, he, hg, hq⟩ => ?_
  unfold gtTup at hg
  split at hg
  · split at hg
    · rename_i hl
      cases r with
      | tup ht hs => exact ⟨_, _, rfl, ht.sq, (Rps.length hs).trans hl, mu, _, ev, ev', hs, he, hg, hq⟩
    · cases hg
  · cases hg
def mAsg (m : Mo D) (g : Gt) : Ms := fun ev st => (m ev st).bind fun d st1 => match g d ev with
  | some ev' => .ok (.nx, ev') st1
  | none => .bad
theorem ms_asg {tg : Expr} {g : Gt} {ws : List Nat} (he : PE X e (tE X.K W ma)) (hg : PG X tg (tGt X.K ws g)) (hs : swapsWithSole [tg] e pos.line X.env = pure false := by rfl) (hw : swappedStores [tg] e X.env = pure none := by rfl)
    (h1 : (assignEach [tg] X.env).map (·.2) = [assign tg X.env] := by rfl) : PS X (.Assign [tg] e pos) (tS X.K W (mAsg ma g)) := by
  refine PS.imp (ps_asg he hg hs hw h1) fun D σ H ⟨mu, ev, st, he, hs, hp⟩ => ?_
  refine ⟨mu, ev, st, he, hs, hp.bind fun d st1 mu1 x H1 _ e1 r1 s1 hp1 => ?_⟩
  cases hgd : g d ev with
  | none => rw [hgd] at hp1; exact hp1.elim
  | some ev' =>
    rw [hgd] at hp1
    exact ⟨mu1, d, ev, ev', r1, he.mono e1, hgd, fun σ' he' _ => hp1 _ _ _ .refl he' s1⟩
/-- a, b = x, y -/
def mPar (i j : Nat) (mr : Mo (List D)) : Ms := fun ev st => (mr ev st).bind fun ds st1 => match ds with
  | [x, y] => .ok (.nx, (ev.set i (some x)).set j (some y)) st1
  | _ => .bad
theorem ms_par {i j : Nat} {x y : Str} {px py pt : Pos} {kt k2 : Nat} {pt2 : Pos} (hc : X.calm = true) (hN : X.N.Nodup) (hi : X.N[i]? = some x) (hj : X.N[j]? = some y) (hij : i ≠ j)
    (hx : X.env.scope.names.lookup x = some .local) (hy : X.env.scope.names.lookup y = some .local) (ha : PA X [a, b] (tA X.K W mr))
    (hw : swappedStores [.Tuple [.Name x px, .Name y py] kt pt] (.Tuple [a, b] k2 pt2) X.env = pure (some [x, y]))
    (hs : swapsWithSole [.Tuple [.Name x px, .Name y py] kt pt] (.Tuple [a, b] k2 pt2) pos.line X.env = pure false := by rfl) :
    PS X (.Assign [.Tuple [.Name x px, .Name y py] kt pt] (.Tuple [a, b] k2 pt2) pos) (tS X.K W (mPar i j mr)) := by
  refine PS.imp (ps_par hc hN hi hj hij hx hy ha hw hs) fun D σ H ⟨mu, ev, st, he, hs, hp⟩ => ?_
  refine ⟨mu, ev, st, he, hs, hp.bind fun ds st1 mu1 xs H1 _ e1 r1 s1 hp1 => ?_⟩
  split at hp1
  · cases r1 with
    | cons h1 h2 =>
      cases h2 with
      | cons h2 h3 =>
        cases h3
        exact ⟨_, _, rfl, hp1 _ _ _ .refl (((he.mono e1).set h1 i).set h2 j) s1⟩
  · exact hp1.elim
/-! ### what a loop walks -/
/-- the items ds in J's order, while inv holds; H0: where the walk began -/
structure IterOk (K : PySem.W.Frag) (H0 : Hp) (J : It) (ds : List D) (inv : Hp → List Addr → Prop) : Prop where
  go : ∀ (H : Hp) (mu : List Addr) (i : Nat) (x : D), inv H mu → ds[i]? = some x → J.go i H
  yld : ∀ (H : Hp) (mu : List Addr) (st : Sto) (i : Nat) (x : D) (v : V) (H' : Hp), RelSt K H mu st → inv H mu → ds[i]? = some x → J.yld i H v H' → Ext mu H mu H' ∧ Rp K H' mu v x ∧ RelSt K H' mu st
  stop : ∀ (H : Hp) (mu : List Addr), inv H mu → J.stop ds.length H
  keep : ∀ (H : Hp) (mu : List Addr) (H' : Hp) (mu' : List Addr), inv H mu → Ext mu H mu' H' → inv H' mu'
  tmp : ∀ (H : Hp) (mu : List Addr) (q : Addr) (l l' : List V), inv H mu → H0 q = none → H q = some (.lst l) → q ∉ mu → inv (upd H q (.lst l')) mu
def RI (K : PySem.W.Frag) : RR It (List D) := ⟨fun _ H mu _ J ds => ds.length ≤ lim ∧ ∃ inv, IterOk K H J ds inv ∧ inv H mu, fun _ h => h⟩
abbrev tI (K : PySem.W.Frag) (W : Wx) (m : Mo (List D)) : TI := tG K W (RI K) m
theorem PI.imp {tg : Expr} {t t' : TI} (h : PI X tg e t) (k : ∀ σ H R, t' σ H R → t σ H R) : PI X tg e t' := ⟨fun pins s σ H R I hw => h.run pins s σ H R I (k σ H R hw)⟩
def loop (g : Gt) (body : Ms) : List D → Ms
  | [] => fun ev st => .ok (.nx, ev) st
  | d :: ds => fun ev st => match g d ev with
    | none => .bad
    | some ev1 => match body ev1 st with
      | .ok (.nx, ev2) st2 => loop g body ds ev2 st2
      | .ok (.ct, ev2) st2 => loop g body ds ev2 st2
      | .ok (.bk, ev2) st2 => .ok (.nx, ev2) st2
      | .ok (.rt d, ev2) st2 => .ok (.rt d, ev2) st2
      | .bad => .bad
      | .exc c e s => .exc c e s
def mFor (mi : Mo (List D)) (g : Gt) (body : Ms) : Ms := fun ev st => (mi ev st).bind fun it st1 => loop g body it ev st1
theorem ms_for {tg : Expr} {body : List Stmt} {mi : Mo (List D)} {g : Gt} {ws : List Nat} (hp : PassesOwn (model X.prog X.w) X.A X.env X.xe) (hc : X.calm = true) (hi : PI X tg e (tI X.K W mi)) (hg : PG X tg (tGt X.K ws g)) (hb : PSs X body (tS X.K W s1))
    (hs : ∀ x, foldedSetIterable e X.env x = pure x := by intro _; rfl) : PS X (.For tg e body [] pos) (tS X.K W (mFor mi g s1)) := by
  refine PS.imp (ps_for hp hc hi hg hb hs) fun D σ H ⟨mu, ev, st, he, hs, hp⟩ => ?_
  refine ⟨mu, ev, st, he, hs, hp.bind fun it st1 mu1 J H1 _ e1 r1 s1' hp1 => ?_⟩
  obtain ⟨hl, inv, ok, hinv⟩ := r1
  refine ⟨fun i m σ H => m = it.length - i ∧ i ≤ it.length ∧ ∃ mu ev st, RelEv X.K H mu σ ev ∧ RelSt X.K H mu st ∧ inv H mu ∧ PostS X.K W mu H (loop g s1 (it.drop i) ev st) D, ⟨_, rfl, Nat.zero_le _, mu1, ev, st1, he.mono e1, s1', hinv, by simpa using hp1⟩, ?_⟩
  rintro i m σ H ⟨rfl, hi, mu, ev, st, he, hs, hinv, hp⟩
  by_cases hlt : i < it.length
  · have hx : it[i]? = some it[i] := List.getElem?_eq_getElem hlt
    refine .inr ⟨ok.go H mu i _ hinv hx, fun σ' H' => i + 1 ≤ it.length ∧ ∃ mu ev st, RelEv X.K H' mu σ' ev ∧ RelSt X.K H' mu st ∧ inv H' mu ∧ PostS X.K W mu H' (loop g s1 (it.drop (i + 1)) ev st) D, fun σ' H' h => ⟨_, by omega, rfl, h⟩, fun v H' y => ?_⟩
    obtain ⟨k1, k2, k3⟩ := ok.yld H mu st i _ v H' hs hinv hx y
    have k4 := ok.keep _ _ _ _ hinv k1
    have hp := PostS.from hp k1
    rw [List.drop_eq_getElem_cons hlt] at hp
    simp only [loop] at hp
    cases hg : g it[i] ev with
    | none => rw [hg] at hp; exact hp.elim
    | some ev1 =>
      rw [hg] at hp
      simp only at hp
      refine ⟨mu, _, ev, ev1, k2, he.mono k1, hg, fun σ' he' _ => ⟨mu, ev1, st, he', k3, ?_⟩⟩
      cases hb : s1 ev1 st with
      | bad => rw [hb] at hp; exact hp
      | exc c e s => rw [hb] at hp; exact hp
      | ok r st2 =>
        obtain ⟨fl, ev2⟩ := r
        rw [hb] at hp
        cases fl with
        | nx => exact fun mu' σ' H'' e' he' hs' => ⟨hlt, mu', ev2, st2, he', hs', ok.keep _ _ _ _ k4 e', PostS.from hp e'⟩
        | ct => exact fun mu' σ' H'' e' he' hs' => ⟨hlt, mu', ev2, st2, he', hs', ok.keep _ _ _ _ k4 e', PostS.from hp e'⟩
        | bk => exact hp
        | rt d => exact hp
  · have e0 : i = it.length := by omega
    subst e0
    rw [List.drop_length] at hp
    exact .inl ⟨ok.stop H mu hinv, hp _ _ _ .refl he hs⟩
/-- a tuple; numbers -/
def mItT (m : Mo D) : Mo (List D) := fun ev st => (m ev st).bind fun d st1 => match d with
  | .tup ds => if ds.length ≤ lim then .ok ds st1 else .bad
  | _ => .bad
theorem ne_tmp {H : Hp} {q : Addr} {l : List V} {a : Addr} {vs : List V} (h : H q = some (.lst l)) (ha : H a = some (.tup vs)) : a ≠ q := by
  intro e; subst e; rw [h] at ha; cases ha
theorem ext0_tmp {H : Hp} {mu : List Addr} {q : Addr} {l l' : List V} (h : H q = some (.lst l)) : Ext0 mu H mu (upd H q (.lst l')) :=
  ⟨⟨[], by simp⟩, fun a vs ha => by rw [upd_ne (ne_tmp h ha)]; exact ha, fun a o vs ha n => ⟨by rw [upd_ne (fun e => by subst e; rw [h] at ha; cases ha)]; exact ha, n⟩⟩
theorem RelSt.tmp {K : PySem.W.Frag} {H : Hp} {mu : List Addr} {st : Sto} (r : RelSt K H mu st) {q : Addr} {l l' : List V} (h : H q = some (.lst l)) (hn : q ∉ mu) : RelSt K (upd H q (.lst l')) mu st :=
  ⟨r.len, r.nd, fun i a o h1 h2 => (r.ob i a o h1 h2).mono0 (ext0_tmp h) (upd_ne fun e => hn (e ▸ List.mem_of_getElem? h1))⟩
theorem iter_tup {K : PySem.W.Frag} {H0 : Hp} {q : Addr} {vs : List V} {ds : List D} : IterOk K H0 (Itt K q) ds (fun H mu => TupAt K H q vs ∧ Rps K H mu vs ds) := by
  refine ⟨?_, ?_, ?_, ?_, ?_⟩
  · rintro H mu i x ⟨h1, h2⟩ hx
    obtain ⟨v, hv, _⟩ := h2.get hx
    exact ⟨vs, v, h1.sq, hv⟩
  · rintro H mu st i x v H' hst ⟨h1, h2⟩ hx ⟨e, hy⟩
    subst e
    obtain ⟨w, hw, rw'⟩ := h2.get hx
    have := hy vs h1.sq
    rw [hw] at this
    cases this
    exact ⟨.refl, rw', hst⟩
  · rintro H mu ⟨h1, h2⟩
    exact ⟨vs, h1.sq, Nat.le_of_eq (Rps.length h2)⟩
  · rintro H mu H' mu' ⟨h1, h2⟩ e
    exact ⟨e.tupAt h1, h2.mono e⟩
  · rintro H mu q' l l' ⟨h1, h2⟩ _ hq _
    exact ⟨(ext0_tmp (mu := mu) hq).tupAt h1, h2.mono0 (ext0_tmp hq)⟩
theorem mi_tup {tg : Expr} (h : PE X e (tE X.K W ma)) : PI X tg e (tI X.K W (mItT ma)) := by
  refine PI.imp (pi_tup h) fun σ H Q ⟨mu, ev, st, he, hs, hp⟩ => ?_
  refine ⟨mu, ev, st, he, hs, hp.bind fun d st1 mu1 x H1 _ e1 r1 s1 hp1 => ?_⟩
  split at hp1
  · split at hp1
    · rename_i hl
      cases r1 with
      | tup ht hr =>
        exact ⟨_, rfl, ⟨_, ht.sq⟩, hp1 _ _ _ .refl ⟨hl, _, iter_tup, ht, hr⟩ s1⟩
    · exact hp1.elim
  · exact hp1.elim
def rngD (lo : Int) (n : Nat) : List D := (List.range n).map fun i => D.int (lo + (i : Nat))
theorem rngD_get {lo : Int} {n i : Nat} {x : D} (h : (rngD lo n)[i]? = some x) : i < n ∧ x = .int (lo + (i : Nat)) := by
  unfold rngD at h
  rw [List.getElem?_map] at h
  cases hr : (List.range n)[i]? with
  | none => rw [hr] at h; cases h
  | some j =>
    rw [hr] at h
    obtain ⟨h1, h2⟩ := List.getElem?_eq_some_iff.mp hr
    rw [List.getElem_range] at h2
    subst h2
    rw [List.length_range] at h1
    simp only [Option.map_some, Option.some.injEq] at h
    exact ⟨h1, h.symm⟩
theorem rngD_len {lo : Int} {n : Nat} : (rngD lo n).length = n := by unfold rngD; simp
def mItR (mr : Mo (List D)) : Mo (List D) := fun ev st => (mr ev st).bind fun ds st1 => match ds with
  | [.int j] => if j.toNat ≤ lim ∧ -1000000000 ≤ j then .ok (rngD 0 j.toNat) st1 else .bad
  | _ => .bad
def mItR2 (mr : Mo (List D)) : Mo (List D) := fun ev st => (mr ev st).bind fun ds st1 => match ds with
  | [.int i, .int j] => if (j - i).toNat ≤ lim ∧ -1000000000 ≤ i ∧ i ≤ 1000000000 ∧ -1000000000 ≤ j ∧ j ≤ 1000000000 then .ok (rngD i (j - i).toNat) st1 else .bad
  | _ => .bad
theorem iter_rng {K : PySem.W.Frag} {H0 : Hp} {lo : Int} {n : Nat} : IterOk K H0 (Itr lo n) (rngD lo n) (fun _ _ => True) :=
  ⟨fun H mu i x _ hx => (rngD_get hx).1, fun H mu st i x v H' hst _ hx ⟨e1, e2⟩ => by
    obtain ⟨_, rfl⟩ := rngD_get hx
    subst e1; subst e2
    exact ⟨.refl, .int _, hst⟩, fun H mu _ => by show n ≤ (rngD lo n).length; rw [rngD_len]; exact Nat.le_refl _, fun _ _ _ _ _ _ => trivial, fun _ _ _ _ _ _ _ _ _ => trivial⟩
theorem mi_rng1 {tg : Expr} (hg : Gl X "range") (hm : X.mg "range" = none) (ha : PA X [a] (tA X.K W mr)) (hs : starEach [a] X.env = [(false, eval a X.env)] := by rfl) : PI X tg (.Call (.Name "range" p) [a] [] pos) (tI X.K W (mItR mr)) := by
  refine PI.imp (pi_range1 hg hm ha hs) fun σ H Q ⟨mu, ev, st, he, hs, hp⟩ => ?_
  refine ⟨mu, ev, st, he, hs, hp.bind fun ds st1 mu1 xs H1 _ e1 r1 s1 hp1 => ?_⟩
  split at hp1
  · split at hp1
    · rename_i hl
      cases r1 with
      | cons h1 h2 =>
        cases h2; cases h1
        exact ⟨_, rfl, by omega, by have := hl.1; unfold lim at this; omega, hp1 _ _ _ .refl ⟨by rw [rngD_len]; exact hl.1, _, iter_rng, trivial⟩ s1⟩
    · exact hp1.elim
  · exact hp1.elim
theorem mi_rng2 {tg : Expr} (hg : Gl X "range") (hm : X.mg "range" = none) (ha : PA X [a, b] (tA X.K W mr)) (hs : starEach [a, b] X.env = [(false, eval a X.env), (false, eval b X.env)] := by rfl) (hs2 : starEach [b] X.env = [(false, eval b X.env)] := by rfl) : PI X tg (.Call (.Name "range" p) [a, b] [] pos) (tI X.K W (mItR2 mr)) := by
  refine PI.imp (pi_range2 hg hm ha hs hs2) fun σ H Q ⟨mu, ev, st, he, hs, hp⟩ => ?_
  refine ⟨mu, ev, st, he, hs, hp.bind fun ds st1 mu1 xs H1 _ e1 r1 s1 hp1 => ?_⟩
  split at hp1
  · split at hp1
    · rename_i hl
      cases r1 with
      | cons h1 h2 =>
        cases h2 with
        | cons h2 h3 =>
          cases h3; cases h1; cases h2
          exact ⟨_, _, rfl, by omega, hp1 _ _ _ .refl ⟨by rw [rngD_len]; exact hl.1, _, iter_rng, trivial⟩ s1⟩
    · exact hp1.elim
  · exact hp1.elim
end Ml

namespace Ml
open PySem L2
variable {X : Cx} {W : Wx} {a b c e : Expr} {es rest : List Expr} {pos p q : Pos} {ma mb mc : Mo D} {mr : Mo (List D)} {ta tb : Mo Bool} {s1 s2 : Ms}
/-! ### comprehensions -/
def wipeD (ev : Ev) : List Nat → Ev
  | [] => ev
  | v :: vs => (wipeD ev vs).set v none
theorem wipeD_length (ev : Ev) : ∀ vs : List Nat, (wipeD ev vs).length = ev.length
  | [] => rfl
  | v :: vs => by unfold wipeD; rw [List.length_set, wipeD_length ev vs]
theorem wipeD_some {ev : Ev} {i : Nat} {x : D} : ∀ {vs : List Nat}, (wipeD ev vs)[i]? = some (some x) → ev[i]? = some (some x) ∧ i ∉ vs
  | [], h => ⟨h, by simp⟩
  | v :: vs, h => by
    unfold wipeD at h
    by_cases hi : v = i
    · subst hi
      by_cases hv : v < (wipeD ev vs).length
      · rw [List.getElem?_set_self hv] at h; cases h
      · rw [List.getElem?_eq_none (by simpa using hv)] at h; cases h
    · rw [List.getElem?_set_ne hi] at h
      obtain ⟨h1, h2⟩ := wipeD_some h
      exact ⟨h1, by simp only [List.mem_cons, not_or]; exact ⟨fun e => hi e.symm, h2⟩⟩
theorem RelEv.wipe {K : PySem.W.Frag} {H : Hp} {mu : List Addr} {σ : L2.St} {ev : Ev} (r : RelEv K H mu σ ev) (vs : List Nat) : RelEv K H mu (wipe σ vs) (wipeD ev vs) := by
  refine ⟨by rw [wipe_length, wipeD_length, r.1], fun i d h => ?_⟩
  obtain ⟨h1, h2⟩ := wipeD_some h
  obtain ⟨v, hv, rv⟩ := r.2 i d h1
  exact ⟨v, by rw [wipe_out h2]; exact hv, rv⟩
theorem wipe_at {σ : L2.St} {i : Nat} : ∀ {vs : List Nat}, i ∈ vs → (wipe σ vs)[i]? = if i < σ.length then some none else none
  | [], h => by simp at h
  | v :: vs, h => by
    unfold L2.wipe
    by_cases hi : v = i
    · subst hi
      by_cases hv : v < σ.length
      · rw [List.getElem?_set_self (by rw [wipe_length]; exact hv), if_pos hv]
      · rw [List.getElem?_eq_none (by rw [List.length_set, wipe_length]; omega), if_neg hv]
    · rw [List.getElem?_set_ne hi]
      exact wipe_at (by rcases List.mem_cons.mp h with h | h; exact absurd h.symm hi; exact h)
theorem wipe_frm {ws vs : List Nat} {σ σ' : L2.St} (f : Frm ws σ σ') (h : ∀ i ∈ ws, i ∈ vs) : wipe σ' vs = wipe σ vs := by
  apply List.ext_getElem?
  intro i
  by_cases hi : i ∈ vs
  · rw [wipe_at hi, wipe_at hi, f.1]
  · rw [wipe_out hi, wipe_out hi]
    exact f.2 i fun z => hi (h i z)
theorem wipe_wipe {vs : List Nat} {σ : L2.St} : wipe (wipe σ vs) vs = wipe σ vs := by
  apply List.ext_getElem?
  intro i
  by_cases hi : i ∈ vs
  · rw [wipe_at hi, wipe_at hi, wipe_length]
  · rw [wipe_out hi]
def lcLoop (g : Gt) (t : Mo Bool) (m : Mo D) : List D → Ev → Sto → Rs (List D)
  | [], _, st => .ok [] st
  | d :: ds, ev, st => match g d ev with
    | none => .bad
    | some ev1 => match t ev1 st with
      | .ok true st1 => (match m ev1 st1 with
        | .ok y st2 => (match lcLoop g t m ds ev st2 with
          | .ok ys st3 => .ok (y :: ys) st3
          | _ => .bad)
        | _ => .bad)
      | .ok false st1 => lcLoop g t m ds ev st1
      | _ => .bad
def mLc (vs : List Nat) (mi : Mo (List D)) (g : Gt) (t : Mo Bool) (m : Mo D) : Mo (List D) := fun ev st => (mi ev st).bind fun it st1 => lcLoop g t m it (wipeD ev vs) st1
abbrev W0 : Wx := fun _ _ _ => False
def mYes : Mo Bool := fun _ st => .ok true st
theorem mts_nil : PTs X [] (tT X.K W0 mYes) := ⟨fun pins s σ H Q I ⟨mu, ev, st, he, hs, hp⟩ => pts_nil.run pins s σ H Q I (hp _ _ _ .refl rfl hs)⟩
theorem mts_one (h : PT X c (tT X.K W0 ta)) : PTs X [c] (tT X.K W0 ta) := pts_one h
theorem ext_tmp {mu0 mu : List Addr} {H0 H : Hp} {q : Addr} {o : HO} (e : Ext mu0 H0 mu H) (h : H0 q = none) : Ext mu0 H0 mu (upd H q o) :=
  ⟨e.pre, fun a vs ha => by rw [upd_ne (ne_of_none ha h)]; exact e.tup a vs ha, fun a u ha n => ⟨by rw [upd_ne (ne_of_none ha h)]; exact (e.keep a u ha n).1, (e.keep a u ha n).2⟩, fun a ha => e.dom a (upd_dom a ha), fun a ob u ha => by rw [upd_ne (ne_of_none ha h)]; exact e.frz a ob u ha⟩
theorem lc_go {own : List Nat} {mi : Mo (List D)} {g : Gt} {ws : List Nat} {σ : L2.St} {H : Hp} {Q : VK} {K : PySem.W.Frag} {ta : Mo Bool} {ma : Mo D} (hw : ∀ i ∈ ws, i ∈ own) (h : tL K W (mLc own mi g ta ma) σ H Q) : tLc (tI K W mi) (tGt K ws g) (tT K W0 ta) (tE K W0 ma) own σ H Q := by
  obtain ⟨mu, ev, st, he, hst, hp⟩ := h
  refine ⟨mu, ev, st, he, hst, hp.bind fun it st1 mu1 J H1 _ e1 r1 s1 hp1 => ?_⟩
  obtain ⟨hl, inv, ok, hinv⟩ := r1
  intro q hq
  -- the invariant of the turns
  let fin (acc : List D) (r : Rs (List D)) (mu' : List Addr) (H' : Hp) : Prop := match r with
    | .ok ys st' => ∀ mu2 vs H2, Ext mu1 H1 mu2 H2 → H2 q = some (.lst vs) → q ∉ mu2 → Rps K H2 mu2 vs (acc ++ ys) → RelSt K H2 mu2 st' → Q (.ref q) H2
    | _ => False
  have start : fin [] (lcLoop g ta ma it (wipeD ev own) st1) mu1 H1 := by
    show (match lcLoop g ta ma it (wipeD ev own) st1 with
    | .ok ys st' => ∀ mu2 vs H2, Ext mu1 H1 mu2 H2 → H2 q = some (.lst vs) → q ∉ mu2 → Rps K H2 mu2 vs ([] ++ ys) → RelSt K H2 mu2 st' → Q (.ref q) H2
    | _ => False)
    have noexc : ∀ (it : List D) (evw : Ev) (st : Sto) (c : Str) (e : Ev) (s : Sto), lcLoop g ta ma it evw st ≠ .exc c e s := by
      intro it
      induction it with
      | nil => intro evw st c e s h; cases h
      | cons d ds ih =>
        intro evw st c e s h
        simp only [lcLoop] at h
        split at h
        · cases h
        · split at h
          · split at h
            · split at h <;> cases h
            · cases h
          · exact ih _ _ _ _ _ h
          · cases h
    cases hr : lcLoop g ta ma it (wipeD ev own) st1 with
    | bad => rw [hr] at hp1; exact hp1
    | exc c e s => exact absurd hr (noexc _ _ _ _ _ _)
    | ok ys st' =>
      rw [hr] at hp1
      exact fun mu2 vs H2 e2 h2 n2 r2 s2 => hp1 mu2 (.ref q) H2 e2 ⟨q, vs, rfl, hq, h2, n2, r2⟩ s2
  refine ⟨fun i m H => m = it.length - i ∧ i ≤ it.length ∧ ∃ mu st acc vs, Ext mu1 H1 mu H ∧ RelSt K H mu st ∧ inv H mu ∧ H q = some (.lst vs) ∧ q ∉ mu ∧ Rps K H mu vs acc ∧ acc.length ≤ i ∧ fin acc (lcLoop g ta ma (it.drop i) (wipeD ev own) st) mu H,
    ⟨_, rfl, Nat.zero_le _, mu1, st1, [], [], ext_new hq _, s1.new hq _, ok.keep _ _ _ _ hinv (ext_new hq _), upd_same, s1.fresh hq, .nil, Nat.le_refl _, start⟩, ?_⟩
  rintro i m H ⟨rfl, hi, mu, st, acc, vs, eE, hs, hinv, hqv, hqn, hr, hal, hf⟩
  have heW : RelEv K H mu (wipe σ own) (wipeD ev own) := ((he.mono e1).mono eE).wipe own
  by_cases hlt : i < it.length
  · have hx : it[i]? = some it[i] := List.getElem?_eq_getElem hlt
    refine .inr ⟨ok.go H mu i _ hinv hx, fun H' => i + 1 ≤ it.length ∧ ∃ mu st acc vs, Ext mu1 H1 mu H' ∧ RelSt K H' mu st ∧ inv H' mu ∧ H' q = some (.lst vs) ∧ q ∉ mu ∧ Rps K H' mu vs acc ∧ acc.length ≤ i + 1 ∧ fin acc (lcLoop g ta ma (it.drop (i + 1)) (wipeD ev own) st) mu H', fun H' h => ⟨_, by omega, rfl, h⟩, fun v H' y => ?_⟩
    obtain ⟨k1, k2, k3⟩ := ok.yld H mu st i _ v H' hs hinv hx y
    have k4 := ok.keep _ _ _ _ hinv k1
    have hqv' := k1.keep q _ hqv hqn
    rw [List.drop_eq_getElem_cons hlt] at hf
    simp only [lcLoop] at hf
    cases hgd : g it[i] (wipeD ev own) with
    | none => rw [hgd] at hf; exact hf.elim
    | some ev1 =>
      rw [hgd] at hf
      simp only at hf
      refine ⟨mu, _, wipeD ev own, ev1, k2, heW.mono k1, hgd, fun σ' he' fr => ⟨by rw [wipe_frm fr hw, wipe_wipe], mu, ev1, st, he', k3, ?_⟩⟩
      cases ht : ta ev1 st with
      | bad => rw [ht] at hf; exact hf
      | exc c e s => rw [ht] at hf; exact hf.elim
      | ok bb st2 =>
        rw [ht] at hf
        intro mu2 b2 H2 e2 rb s2
        obtain rfl : b2 = bb := rb
        have q2 := e2.keep q _ hqv'.1 hqv'.2
        cases b2 with
        | false =>
          exact iteF ⟨hlt, mu2, st2, acc, vs, (eE.trans k1).trans e2, s2, ok.keep _ _ _ _ k4 e2, q2.1, q2.2, hr.mono (k1.trans e2), by omega, hf⟩
        | true =>
          refine iteT ⟨mu2, ev1, st2, he'.mono e2, s2, ?_⟩
          simp only at hf
          cases hm : ma ev1 st2 with
          | bad => rw [hm] at hf; exact hf
          | exc c e s => rw [hm] at hf; exact hf.elim
          | ok yd st3 =>
            rw [hm] at hf
            intro mu3 yv H3 e3 r3 s3
            have q3 := e3.keep q _ q2.1 q2.2
            have hr3 : Rps K H3 mu3 vs acc := hr.mono ((k1.trans e2).trans e3)
            refine ⟨vs, q3.1, by rw [Rps.length hr3]; exact lim_lt (by omega), hlt, mu3, st3, acc ++ [yd], vs ++ [yv], ext_tmp (((eE.trans k1).trans e2).trans e3) hq, s3.tmp q3.1 q3.2, ok.tmp _ _ _ _ _ (ok.keep _ _ _ _ k4 (e2.trans e3)) hq q3.1 q3.2, upd_same, q3.2, ?_, by simp; omega, ?_⟩
            · exact (hr3.append (.cons r3 .nil)).mono0 (ext0_tmp q3.1)
            · simp only at hf
              cases hL : lcLoop g ta ma (it.drop (i + 1)) (wipeD ev own) st3 with
              | bad => rw [hL] at hf; exact hf
              | exc c e s => rw [hL] at hf; exact hf.elim
              | ok ys st4 =>
                rw [hL] at hf
                intro mu4 ws H4 e4 h4 n4 r4 s4
                refine hf mu4 ws H4 e4 h4 n4 ?_ s4
                simpa using r4
  · have e0 : i = it.length := by omega
    subst e0
    rw [List.drop_length] at hf
    refine .inl ⟨ok.stop H mu hinv, hf mu vs H eE hqv hqn ?_ hs⟩
    simpa using hr
theorem ml_lc {elt tg iter : Expr} {ifs : List Expr} {scope : Scope} {own : List (Str × Nat)} {mi : Mo (List D)} {g : Gt} {ws : List Nat} (hc : X.calm = true) (hN : X.N.Nodup) (hi : PI X tg iter (tI X.K W mi)) (ok : BlkOk X.N X.env.scope scope own) (hw : ∀ i ∈ ws, i ∈ own.map (·.2))
    (hg : ∀ (s : Shared) (H : Hp) (C : Addr) (cl : List (Str × Addr)) (fp : List Addr), PG (X.blk s H scope (compEnvC scope cl C X.env) fp) tg (tGt X.K ws g)) (ht : ∀ (s : Shared) (H : Hp) (C : Addr) (cl : List (Str × Addr)) (fp : List Addr), PTs (X.blk s H scope (compEnvC scope cl C X.env) fp) ifs (tT X.K W0 ta))
    (he : ∀ (s : Shared) (H : Hp) (C : Addr) (cl : List (Str × Addr)) (fp : List Addr), PE (X.blk s H scope (compEnvC scope cl C X.env) fp) elt (tE X.K W0 ma)) (hs : ∀ x, foldedSetIterable iter X.env x = pure x := by intro _; rfl) :
    PE X (.ListComp elt [⟨tg, iter, ifs, 0⟩] scope pos) (tL X.K W (mLc (own.map (·.2)) mi g ta ma)) := by
  refine PE.imp (pe_lc hc hN hi ok hg ht he hs) fun σ H Q h => ?_
  exact lc_go hw h
/-! ### zip of two tuples -/
def zipD : List D → List D → List D
  | x :: xs, y :: ys => .tup [x, y] :: zipD xs ys
  | _, _ => []
theorem zipD_len : ∀ xs ys, (zipD xs ys).length = min xs.length ys.length
  | [], _ => by simp [zipD]
  | _ :: _, [] => by simp [zipD]
  | x :: xs, y :: ys => by simp [zipD, zipD_len xs ys]
theorem zipD_get : ∀ {xs ys : List D} {i : Nat} {z : D}, (zipD xs ys)[i]? = some z → ∃ x y, xs[i]? = some x ∧ ys[i]? = some y ∧ z = .tup [x, y]
  | [], ys, i, z, h => by simp [zipD] at h
  | _ :: _, [], i, z, h => by simp [zipD] at h
  | x :: xs, y :: ys, 0, z, h => by simp [zipD] at h; exact ⟨x, y, rfl, rfl, h.symm⟩
  | x :: xs, y :: ys, i + 1, z, h => by
    simp only [zipD, List.getElem?_cons_succ] at h
    obtain ⟨a, b, h1, h2, h3⟩ := zipD_get h
    exact ⟨a, b, by simpa using h1, by simpa using h2, h3⟩
def mZip (mr : Mo (List D)) : Mo (List D) := fun ev st => (mr ev st).bind fun ds st1 => match ds with
  | [.tup xs, .tup ys] => if (zipD xs ys).length ≤ lim then .ok (zipD xs ys) st1 else .bad
  | _ => .bad
theorem iter_zip {K : PySem.W.Frag} {H0 : Hp} {q r : Addr} {vs ws : List V} {xs ys : List D} : IterOk K H0 (RZ.ItzT K q r) (zipD xs ys) (fun H mu => TupAt K H q vs ∧ Rps K H mu vs xs ∧ TupAt K H r ws ∧ Rps K H mu ws ys) := by
  refine ⟨?_, ?_, ?_, ?_, ?_⟩
  · rintro H mu i z ⟨h1, h2, h3, h4⟩ hz
    obtain ⟨x, y, hx, hy, rfl⟩ := zipD_get hz
    obtain ⟨v, hv, _⟩ := h2.get hx
    obtain ⟨w, hw, _⟩ := h4.get hy
    exact ⟨vs, ws, v, w, h1.sq, h3.sq, hv, hw⟩
  · rintro H mu st i z v H' hst ⟨h1, h2, h3, h4⟩ hz ⟨T, x', y', rfl, hT, rfl, hx', hy'⟩
    obtain ⟨x, y, hx, hy, rfl⟩ := zipD_get hz
    obtain ⟨v, hv, rv⟩ := h2.get hx
    obtain ⟨w, hw, rw'⟩ := h4.get hy
    have e1 := hx' vs h1.sq
    rw [hv] at e1; cases e1
    have e2 := hy' ws h3.sq
    rw [hw] at e2; cases e2
    exact ⟨ext_new hT _, .tup (.inl upd_same) (.cons (rv.mono (ext_new hT _)) (.cons (rw'.mono (ext_new hT _)) .nil)), hst.new hT _⟩
  · rintro H mu ⟨h1, h2, h3, h4⟩
    refine ⟨vs, ws, h1.sq, h3.sq, ?_⟩
    rw [zipD_len, Rps.length h2, Rps.length h4]
    omega
  · rintro H mu H' mu' ⟨h1, h2, h3, h4⟩ e
    exact ⟨e.tupAt h1, h2.mono e, e.tupAt h3, h4.mono e⟩
  · rintro H mu q' l l' ⟨h1, h2, h3, h4⟩ _ hq _
    exact ⟨(ext0_tmp (mu := mu) hq).tupAt h1, h2.mono0 (ext0_tmp hq), (ext0_tmp (mu := mu) hq).tupAt h3, h4.mono0 (ext0_tmp hq)⟩
theorem mi_zip {e2 : Expr} {tpos : Pos} {elts : List Expr} {kk : Nat} (hg : Gl X "zip") (hm : X.mg "zip" = none) (ha : PA X [e, e2] (tA X.K W mr))
    (hs : starEach [e, e2] X.env = (false, eval e X.env) :: starEach [e2] X.env := by rfl) (hpl : (backTo pos (starEach [e2] X.env)).any (·.1) = false := by rfl) :
    PI X (.Tuple elts kk tpos) (.Call (.Name "zip" p) [e, e2] [] pos) (tI X.K W (mZip mr)) := by
  refine PI.imp (RZ.pi_zipA hg hm ha hs hpl) fun σ H Q ⟨mu, ev, st, he, hs, hp⟩ => ?_
  refine ⟨mu, ev, st, he, hs, hp.bind fun ds st1 mu1 xs H1 _ e1 r1 s1 hp1 => ?_⟩
  split at hp1
  · split at hp1
    · rename_i hl
      cases r1 with
      | cons h1 h2 =>
        cases h2 with
        | cons h2 h3 =>
          cases h3
          cases h1 with
          | tup t1 r1 =>
            cases h2 with
            | tup t2 r2 =>
              exact ⟨_, _, _, _, rfl, .inr ⟨t1.sq, t2.sq, hp1 _ _ _ .refl ⟨hl, _, iter_zip, t1, r1, t2, r2⟩ s1⟩⟩
    · exact hp1.elim
  · exact hp1.elim
/-! ### the call of a def -/
def PostV (K : PySem.W.Frag) (mu : List Addr) (H : Hp) (r : Rs D) (Q : VK) : Prop := match r with
  | .ok d st' => ∀ mu' v H', Ext mu H mu' H' → Rp K H' mu' v d → RelSt K H' mu' st' → Q v H'
  | _ => False
abbrev Fm := List D → Sto → Rs D
/-- what a def promises that does what c does of its arguments' data (and lets nothing out) -/
def spM (K : PySem.W.Frag) (n : Nat) (c : Fm) : Sp := fun vs H Q _ => vs.length = n ∧ ∃ mu ds st, Rps K H mu vs ds ∧ RelSt K H mu st ∧ PostV K mu H (c ds st) Q
def mCall (c : Fm) (mr : Mo (List D)) : Mo D := fun ev st => (mr ev st).bind fun ds st1 => match c ds st1 with
  | .ok d st2 => .ok d st2
  | _ => .bad
theorem call_go {n : Nat} {c : Fm} {σ : L2.St} {H : Hp} {Q : VK} {K : PySem.W.Frag} (hl : ∀ ds st d st', c ds st = .ok d st' → ds.length = n) (h : tE K W (mCall c mr) σ H Q) : tCall (spM K n c) [] E0 (tA K W mr) σ H Q := by
  obtain ⟨mu, ev, st, he, hst, hp⟩ := h
  refine ⟨mu, ev, st, he, hst, hp.bind fun ds st1 mu1 xs H1 _ e1 r1 s1 hp1 => ?_⟩
  rw [List.append_nil]
  cases hc : c ds st1 with
  | bad => rw [hc] at hp1; exact hp1.elim
  | exc _ _ _ => rw [hc] at hp1; exact hp1.elim
  | ok d st2 =>
    rw [hc] at hp1
    refine ⟨(Rps.length r1).trans (hl _ _ _ _ hc), mu1, ds, st1, r1, s1, ?_⟩
    rw [hc]
    exact hp1
theorem me_call {k n : Nat} {f : Addr} {fd : FuncData} {ps : List Str} {c : Fm} {x : Str} (hl : ∀ ds st d st', c ds st = .ok d st' → ds.length = n) (F : FnOk X.prog X.w X.K X.mg X.base CX0 k f fd ps (spM X.K n c)) (hr : Room k X.A) (hg : Gl X x) (hm : X.mg x = some (.ref f)) (hk : PySem.W.keepIn X.K (.ref f) = true) (hb : Binds X.K fd ps [])
    (ha : PA X (e :: es) (tA X.K W mr)) (hdb : (x == ("__debug__" : Str)) = false := by decide) (he : starEach (e :: es) X.env = (false, eval e X.env) :: starEach es X.env := by rfl) (hpl : (backTo pos (starEach es X.env)).any (·.1) = false := by rfl) :
    PE X (.Call (.Name x p) (e :: es) [] pos) (tE X.K W (mCall c mr)) :=
  PE.imp (pe_call F hr hg hm hk hb .nil pass0 ha hdb he hpl) fun _ _ _ h => call_go hl h
/-- f() -/
theorem me_call0 {k : Nat} {f : Addr} {fd : FuncData} {ps : List Str} {c : Fm} {x : Str} (hl : ∀ ds st d st', c ds st = .ok d st' → ds.length = 0) (F : FnOk X.prog X.w X.K X.mg X.base CX0 k f fd ps (spM X.K 0 c)) (hr : Room k X.A) (hg : Gl X x) (hm : X.mg x = some (.ref f)) (hk : PySem.W.keepIn X.K (.ref f) = true) (hb : Binds X.K fd ps [])
    (hdb : (x == ("__debug__" : Str)) = false := by decide) : PE X (.Call (.Name x p) [] [] pos) (tE X.K W (mCall c mNil)) := by
  refine PE.imp (pe_call0 F hr hg hm hk hb .nil pass0 hdb) fun σ H Q h => ?_
  have := call_go hl h
  obtain ⟨mu, ev, st, he, hst, hp⟩ := this
  exact hp _ _ _ .refl .nil hst
/-! ### a def's body -/
def fnM (n k : Nat) (body : Ms) : Fm := fun ds st => if ds.length = n then (match body (ds.map some ++ List.replicate (k - n) none) st with
  | .ok (.rt d, _) st' => .ok d st'
  | .ok (.nx, _) st' => .ok .non st'
  | _ => .bad) else .bad
theorem fnM_len {n k : Nat} {body : Ms} {ds : List D} {st : Sto} {d : D} {st' : Sto} (h : fnM n k body ds st = .ok d st') : ds.length = n := by
  unfold fnM at h
  split at h
  · assumption
  · cases h
theorem rel_start {K : PySem.W.Frag} {H : Hp} {mu : List Addr} {N : List Str} {vs : List V} {ds : List D} (h : Rps K H mu vs ds) : RelEv K H mu (start N vs) (ds.map some ++ List.replicate (N.length - ds.length) none) := by
  have hl := Rps.length h
  refine ⟨by unfold L2.start; simp [hl], fun i d q => ?_⟩
  by_cases hi : i < ds.length
  · rw [List.getElem?_append_left (by simpa using hi), List.getElem?_map] at q
    cases hd : ds[i]? with
    | none => rw [hd] at q; cases q
    | some d' =>
      rw [hd] at q
      simp only [Option.map_some, Option.some.injEq] at q
      subst q
      obtain ⟨v, hv, r⟩ := h.get hd
      refine ⟨v, ?_, r⟩
      unfold L2.start
      rw [List.getElem?_append_left (by rw [List.length_map, hl]; exact hi), List.getElem?_map, hv]
      rfl
  · rw [List.getElem?_append_right (by simpa using hi)] at q
    rw [List.getElem?_replicate] at q
    split at q <;> cases q
theorem fn_go {K : PySem.W.Frag} {N : List Str} {n k : Nat} {body : Ms} {vs : List V} {H : Hp} {Q : VK} {E : XK} (hk : N.length = k) (h : spM K n (fnM n k body) vs H Q E) : tS K W0 body { nx := fun _ H' => Q .non H', rt := Q } (start N vs) H := by
  obtain ⟨hl, mu, ds, st, hr, hs, hp⟩ := h
  have hd : ds.length = n := (Rps.length hr).symm.trans hl
  have hst := rel_start (N := N) hr
  rw [hk, hd] at hst
  refine ⟨mu, _, st, hst, hs, ?_⟩
  unfold fnM at hp
  rw [if_pos hd] at hp
  cases hb : body (ds.map some ++ List.replicate (k - n) none) st with
  | bad => rw [hb] at hp; exact hp
  | exc c e s => rw [hb] at hp; exact hp.elim
  | ok r st' =>
    obtain ⟨fl, ev'⟩ := r
    rw [hb] at hp
    cases fl with
    | nx => exact fun mu' σ' H' e he hs => hp mu' .non H' e .non hs
    | rt d => exact fun mu' σ' H' e he hs v rv => hp mu' v H' e rv hs
    | bk => exact hp.elim
    | ct => exact hp.elim
/-- a def of the text whose body reads as m keeps the promise of m -/
theorem fn_ok {P : Program} {w : World} {K : PySem.W.Frag} {mg : Str → Option Value} {base : Heap} {x qual : Str} {st : Stmt} {f : Addr} {fd : FuncData} {N ps : List Str} {k n : Nat} {body : Ms} (F : Fun K x qual st f fd) (S : FnScope N ps (defScope st)) (hn : ps.length = n)
    (hb : ∀ (cdv : Value) (A : Around) (outer : List Env) (s : Shared) (H : Hp) (E : XK), Room k (A.deeper (PyProof.Rows.envOfC qual (defScope st) s.heap.objs.size f cdv)) → PSs (cxOf CX0 P w K mg base N qual (defScope st) f cdv A outer s H E).nox (defBody st) (tS K W0 body)) :
    FnOk P w K mg base CX0 (k + 1) f fd ps (spM K n (fnM n N.length body)) := by
  refine F.ok S (fun vs H Q E h => h.1.trans hn.symm) (fun cdv A outer s H vs Q E hr h => ⟨_, hb cdv A outer s H E hr, fn_go rfl h⟩)
theorem fn_zero {P : Program} {w : World} {K : PySem.W.Frag} {mg : Str → Option Value} {base : Heap} {f : Addr} {fd : FuncData} {ps : List Str} {n : Nat} : FnOk P w K mg base CX0 0 f fd ps (spM K n fun _ _ => .bad) := by
  have no : ∀ vs H Q E, ¬ spM K n (fun _ _ => .bad) vs H Q E := fun vs H Q E ⟨_, _, _, _, _, _, h⟩ => h
  exact ⟨fun vs H Q E h => absurd h (no vs H Q E), fun A outer s H args us vs Q E _ _ _ _ h => absurd h (no vs H Q E)⟩
end Ml

namespace Ml
open PySem L2
variable {X : Cx} {W : Wx} {a b c e : Expr} {es rest : List Expr} {pos p q : Pos} {ma mb mc : Mo D} {mr : Mo (List D)} {ta tb : Mo Bool} {s1 s2 : Ms}
/-! ### dicts -/
section
variable {κ : Type} [DecidableEq κ]
def valD (kvs : List (κ × D)) (k : κ) : Option D := (kvs.find? fun kv => decide (kv.1 = k)).map (·.2)
def putD (kvs : List (κ × D)) (k : κ) (v : D) : List (κ × D) :=
  if kvs.any fun kv => decide (kv.1 = k) then kvs.map fun kv => if kv.1 = k then (kv.1, v) else kv else kvs ++ [(k, v)]
theorem KD.length {K : PySem.W.Frag} {H : Hp} {mu : List Addr} {ws : List (κ × V)} {kvs : List (κ × D)} (h : KD K H mu ws kvs) : ws.length = kvs.length := Paired.length h
theorem KD.val {K : PySem.W.Frag} {H : Hp} {mu : List Addr} {ws : List (κ × V)} {kvs : List (κ × D)} (h : KD K H mu ws kvs) (k : κ) : (∃ v d, valV ws k = some v ∧ valD kvs k = some d ∧ Rp K H mu v d) ∨ (valV ws k = none ∧ valD kvs k = none) := by
  unfold KD at h
  induction h with
  | nil => exact .inr ⟨rfl, rfl⟩
  | cons r t ih =>
    rename_i p q _ _
    obtain ⟨e, r⟩ := r
    unfold valV valD at ih ⊢
    by_cases hk : p.1 = k
    · have hq : q.1 = k := e ▸ hk
      rw [List.find?_cons_of_pos (by simpa using hk), List.find?_cons_of_pos (by simpa using hq)]
      exact .inl ⟨_, _, rfl, rfl, r⟩
    · have hq : ¬ q.1 = k := e ▸ hk
      rw [List.find?_cons_of_neg (by simpa using hk), List.find?_cons_of_neg (by simpa using hq)]
      exact ih
theorem KD.any {K : PySem.W.Frag} {H : Hp} {mu : List Addr} {ws : List (κ × V)} {kvs : List (κ × D)} (h : KD K H mu ws kvs) (k : κ) : (ws.any fun kv => decide (kv.1 = k)) = kvs.any fun kv => decide (kv.1 = k) := by
  unfold KD at h
  induction h with
  | nil => rfl
  | cons r t ih => rw [List.any_cons, List.any_cons, ih, r.1]
theorem paired_append {α β : Type} {R : α → β → Prop} : ∀ {xs : List α} {ys : List β} {xs' : List α} {ys' : List β}, Paired R xs ys → Paired R xs' ys' → Paired R (xs ++ xs') (ys ++ ys')
  | _, _, _, _, .nil, h => h
  | _, _, _, _, .cons r t, h => .cons r (paired_append t h)
theorem paired_map {α β γ δ : Type} {R : α → β → Prop} {S : γ → δ → Prop} {f : α → γ} {g : β → δ} : ∀ {xs : List α} {ys : List β}, Paired R xs ys → (∀ x y, R x y → S (f x) (g y)) → Paired S (xs.map f) (ys.map g)
  | _, _, .nil, _ => .nil
  | _, _, .cons r t, h => .cons (h _ _ r) (paired_map t h)
theorem KD.put {K : PySem.W.Frag} {H : Hp} {mu : List Addr} {ws : List (κ × V)} {kvs : List (κ × D)} (h : KD K H mu ws kvs) (k : κ) {v : V} {d : D} (r : Rp K H mu v d) : KD K H mu (putK ws k v) (putD kvs k d) := by
  unfold putK putD
  rw [h.any k]
  split
  · refine paired_map h fun p q r' => ?_
    by_cases hk : p.1 = k
    · have hq : q.1 = k := r'.1 ▸ hk
      rw [if_pos hk, if_pos hq]
      exact ⟨r'.1, r⟩
    · have hq : ¬ q.1 = k := r'.1 ▸ hk
      rw [if_neg hk, if_neg hq]
      exact r'
  · exact paired_append h (.cons ⟨rfl, r⟩ .nil)
end
def keyOf : D → Option Key
  | .int i => some (.inl i)
  | .str x => some (.inr x)
  | _ => none
theorem key_rel {K : PySem.W.Frag} {H : Hp} {mu : List Addr} {v : V} {d : D} {k : Key} (r : Rp K H mu v d) (e : keyOf d = some k) : v = kV k := by
  cases r <;> simp only [keyOf] at e <;> cases e <;> rfl
/-- a new dict that nobody holds yet -/
def RD (K : PySem.W.Frag) : RR V (List (Key × D)) := ⟨fun H0 H mu _ v kvs => ∃ p ws, v = .ref p ∧ H0 p = none ∧ H p = some (.dK ws) ∧ p ∉ mu ∧ KD K H mu ws kvs, fun e ⟨p, vs, a, b, c⟩ => ⟨p, vs, a, e.dom p b, c⟩⟩
abbrev tD (K : PySem.W.Frag) (W : Wx) (m : Mo (List (Key × D))) : TE := tG K W (RD K) m
def mPairs : List (Mo D × Mo D) → Mo (List (Key × D))
  | [], _, st => .ok [] st
  | (mk, mv) :: r, ev, st => (mk ev st).bind fun k st1 => (mv ev st1).bind fun v st2 => match keyOf k with
    | some kk => (mPairs r ev st2).bind fun ps st3 => .ok ((kk, v) :: ps) st3
    | none => .bad
def mergeD (kvs more : List (Key × D)) : List (Key × D) := more.foldl (fun acc kv => putD acc kv.1 kv.2) kvs
def mDictD (ps : List (Mo D × Mo D)) : Mo (List (Key × D)) := fun ev st => (mPairs ps ev st).bind fun kvs st1 => if kvs.length ≤ 15 then .ok (mergeD [] kvs) st1 else .bad
theorem KD.merge {K : PySem.W.Frag} {H : Hp} {mu : List Addr} : ∀ {more : List (Key × V)} {more' : List (Key × D)}, KD K H mu more more' → ∀ {ws : List (Key × V)} {kvs : List (Key × D)}, KD K H mu ws kvs → KD K H mu (mergeK ws more) (mergeD kvs more')
  | _, _, .nil, _, _, h => h
  | _, _, .cons r t, ws, kvs, h => by
    rename_i p q ps qs
    have e : p.1 = q.1 := r.1
    show KD K H mu (mergeK (putK ws p.1 p.2) ps) (mergeD (putD kvs q.1 q.2) qs)
    rw [← e]
    exact KD.merge t (h.put _ r.2)
abbrev trsOf (K : PySem.W.Frag) (W : Wx) (ps : List (Mo D × Mo D)) : List (TE × TE) := ps.map fun z => (tE K W z.1, tE K W z.2)
theorem mps_nil : PPs X pos [] [] (trsOf X.K W []) := pps_nil
theorem mps_cons {k v : Expr} {ks : List (Option Expr)} {vs : List Expr} {mk mv : Mo D} {ps : List (Mo D × Mo D)} (hk : PE X k (tE X.K W mk)) (hv : PE X v (tE X.K W mv)) (hr : PPs X pos ks vs (trsOf X.K W ps)) : PPs X pos (some k :: ks) (v :: vs) (trsOf X.K W ((mk, mv) :: ps)) := pps_cons hk hv hr
def RPs (K : PySem.W.Frag) : RR (List (V × V)) (List (Key × D)) := ⟨fun _ H mu _ xs kvs => ∃ ws : List (Key × V), xs = ws.map (fun kv => (kV kv.1, kv.2)) ∧ KD K H mu ws kvs, fun _ h => h⟩
theorem pairs_go {K : PySem.W.Frag} : ∀ {ps : List (Mo D × Mo D)} {σ : L2.St} {H : Hp} {Q : List (V × V) → Hp → Prop}, tG K W (RPs K) (mPairs ps) σ H Q → tPairs (trsOf K W ps) σ H Q
  | [], σ, H, Q, ⟨mu, ev, st, he, hst, hp⟩ => hp _ _ _ .refl ⟨[], rfl, .nil⟩ hst
  | (mk, mv) :: r, σ, H, Q, ⟨mu, ev, st, he, hst, hp⟩ => by
    refine ⟨mu, ev, st, he, hst, hp.bind fun k st1 mu1 x H1 _ e1 r1 s1 hp1 => ?_⟩
    refine ⟨mu1, ev, st1, he.mono e1, s1, hp1.bind fun v st2 mu2 y H2 _ e2 r2 s2 hp2 => ?_⟩
    cases hk : keyOf k with
    | none => rw [hk] at hp2; exact hp2.elim
    | some kk =>
      rw [hk] at hp2
      refine pairs_go ⟨mu2, ev, st2, (he.mono e1).mono e2, s2, hp2.bind fun kvs st3 mu3 xs H3 _ e3 r3 s3 hp3 => ?_⟩
      obtain ⟨ws, rfl, hw⟩ := r3
      refine hp3 _ _ _ .refl ⟨(kk, y) :: ws, ?_, .cons ⟨rfl, Rp.mono e3 r2⟩ hw⟩ s3
      rw [key_rel (Rp.mono (e2.trans e3) r1) hk]
      rfl
theorem ext0_tmpD {H : Hp} {mu : List Addr} {q : Addr} {l : List (Key × V)} {o : HO} (h : H q = some (.dK l)) : Ext0 mu H mu (upd H q o) :=
  ⟨⟨[], by simp⟩, fun a vs ha => by rw [upd_ne (fun e => by subst e; rw [h] at ha; cases ha)]; exact ha, fun a o vs ha n => ⟨by rw [upd_ne (fun e => by subst e; rw [h] at ha; cases ha)]; exact ha, n⟩⟩
theorem RelSt.tmpD {K : PySem.W.Frag} {H : Hp} {mu : List Addr} {st : Sto} (r : RelSt K H mu st) {q : Addr} {l : List (Key × V)} {o : HO} (h : H q = some (.dK l)) (hn : q ∉ mu) : RelSt K (upd H q o) mu st :=
  ⟨r.len, r.nd, fun i a ob h1 h2 => (r.ob i a ob h1 h2).mono0 (ext0_tmpD h) (upd_ne fun e => hn (e ▸ List.mem_of_getElem? h1))⟩
theorem md_disp {keys : List (Option Expr)} {values : List Expr} {ps : List (Mo D × Mo D)} (h : PPs X pos keys values (trsOf X.K W ps)) (hall : keys.all (·.isSome) = true := by rfl) (hl : keys.length = values.length := by rfl) (h0 : keys ≠ [] := by exact (fun z => by cases z)) (h15 : keys.length ≤ 15 := by decide) :
    PE X (.Dict keys values pos) (tD X.K W (mDictD ps)) := by
  refine PE.imp (pe_disp h hall hl h0 h15) fun σ H Q ⟨mu, ev, st, he, hst, hp⟩ => ?_
  intro q hq
  have e0 : Ext mu H mu (upd H q (.dK [])) := ext_new hq _
  unfold mDictD at hp
  refine pairs_go ⟨mu, ev, st, he.mono e0, hst.new hq _, ?_⟩
  cases hr : mPairs ps ev st with
  | bad => rw [hr] at hp; exact hp
  | exc c e s => rw [hr] at hp; exact fun mu' σ' H' e' => hp mu' σ' H' (e0.trans e')
  | ok kvs st1 =>
    rw [hr] at hp
    simp only [Rs.bind_ok] at hp
    intro mu1 xs H1 e1 ⟨ws, ex, hw⟩ s1
    subst ex
    have k1 := e1.keep q _ upd_same (hst.fresh hq)
    refine ⟨k1.1, ws, rfl, ?_⟩
    split at hp
    · rename_i hl
      refine ⟨by rw [hw.length]; exact hl, ?_⟩
      refine hp mu1 (.ref q) _ (ext_tmp (e0.trans e1) hq) ⟨q, _, rfl, hq, upd_same, k1.2, ?_⟩ (s1.tmpD k1.1 k1.2)
      exact (KD.merge hw .nil).mono0 (ext0_tmpD k1.1)
    · exact hp.elim
/-- {..}.get(k, x) of a new dict -/
def mGetN (md : Mo (List (Key × D))) (mk mx : Mo D) : Mo D := fun ev st => (md ev st).bind fun kvs st1 => (mk ev st1).bind fun k st2 => (mx ev st2).bind fun x st3 => match keyOf k with
  | some kk => .ok ((valD kvs kk).getD x) st3
  | none => .bad
theorem me_getN {apos cpos : Pos} {md : Mo (List (Key × D))} {o f : Expr} {mk mx : Mo D} (hu : X.A.units + 1 < cLine) (ho : PE X o (tD X.K W md)) (he : PE X e (tE X.K W mk)) (hf : PE X f (tE X.K W mx)) (m : M2 X o "get" apos e f cpos := by exact ⟨rfl, rfl, rfl, rfl⟩) : PE X (.Call (.Attribute o "get" apos) [e, f] [] cpos) (tE X.K W (mGetN md mk mx)) := by
  refine PE.imp (pe_dget2 hu ho he hf m) fun σ H Q ⟨mu, ev, st, he, hst, hp⟩ => ?_
  refine ⟨mu, ev, st, he, hst, hp.bind fun kvs st1 mu1 v H1 _ e1 r1 s1 hp1 => ?_⟩
  obtain ⟨q, ws, rfl, _, hq, hn, hk⟩ := r1
  refine ⟨q, rfl, .inl ⟨ws, .inl hq⟩, mu1, ev, st1, he.mono e1, s1, hp1.bind fun k st2 mu2 y H2 _ e2 r2 s2 hp2 => ?_⟩
  refine ⟨mu2, ev, st2, (he.mono e1).mono e2, s2, hp2.bind fun x st3 mu3 z H3 _ e3 r3 s3 hp3 => ?_⟩
  cases hkk : keyOf k with
  | none => rw [hkk] at hp3; exact hp3.elim
  | some kk =>
    rw [hkk] at hp3
    have q3 := (e2.trans e3).keep q _ hq hn
    refine ⟨valV ws kk, .inl ⟨ws, kk, .inl q3.1, key_rel (Rp.mono e3 r2) hkk, rfl⟩, hp3 _ _ _ .refl ?_ s3⟩
    rcases (hk.mono (e2.trans e3)).val kk with ⟨v, d, h1, h2, h3⟩ | ⟨h1, h2⟩
    · rw [h1, h2]; exact h3
    · rw [h1, h2]; exact r3
/-- {..}[k] of a new dict -/
def mAtN (md : Mo (List (Key × D))) (mk : Mo D) : Mo D := fun ev st => (md ev st).bind fun kvs st1 => (mk ev st1).bind fun k st2 => match keyOf k with
  | some kk => (match valD kvs kk with
    | some d => .ok d st2
    | none => .bad)
  | none => .bad
theorem me_atN {md : Mo (List (Key × D))} {o i : Expr} {mk : Mo D} (hu : X.A.units + 1 < cLine) (ho : PE X o (tD X.K W md)) (hi : PE X i (tE X.K W mk)) (hs : NoSl i := by exact fun _ _ => rfl) : PE X (.Subscript o i pos) (tE X.K W (mAtN md mk)) := by
  refine PE.imp (pe_dget hu ho hi hs) fun σ H Q ⟨mu, ev, st, he, hst, hp⟩ => ?_
  refine ⟨mu, ev, st, he, hst, hp.bind fun kvs st1 mu1 v H1 _ e1 r1 s1 hp1 => ?_⟩
  obtain ⟨q, ws, rfl, _, hq, hn, hk⟩ := r1
  refine ⟨mu1, ev, st1, he.mono e1, s1, hp1.bind fun k st2 mu2 y H2 _ e2 r2 s2 hp2 => ?_⟩
  cases hkk : keyOf k with
  | none => rw [hkk] at hp2; exact hp2.elim
  | some kk =>
    rw [hkk] at hp2
    simp only at hp2
    have q3 := e2.keep q _ hq hn
    rcases (hk.mono e2).val kk with ⟨v, d, h1, h2, h3⟩ | ⟨h1, h2⟩
    · rw [h2] at hp2
      exact ⟨q, v, rfl, .inl ⟨ws, kk, .inl q3.1, key_rel r2 hkk, h1.symm⟩, hp2 _ _ _ .refl h3 s2⟩
    · rw [h2] at hp2; exact hp2.elim
end Ml

namespace Ml
open PySem L2
variable {X : Cx} {W : Wx} {a b c e : Expr} {es rest : List Expr} {pos p q : Pos} {ma mb mc : Mo D} {mr : Mo (List D)} {ta tb : Mo Bool} {s1 s2 : Ms}
/-! ### name = [..] on one line -/
theorem ms_setLc {i : Nat} {y : Str} {py spos : Pos} {elt tg iter : Expr} {ifs : List Expr} {scope : Scope} {own : List (Str × Nat)} {mi : Mo (List D)} {g : Gt} {ws : List Nat} (hc : X.calm = true) (hN : X.N.Nodup) (hy : X.N[i]? = some y) (hyl : X.env.scope.names.lookup y = some .local)
    (hsw : swapsWith (.ListComp elt [⟨tg, iter, ifs, 0⟩] scope pos) (some (.Name y py)) spos.line X.env = pure true) (hi : PI X tg iter (tI X.K W mi)) (ok : BlkOk X.N X.env.scope scope own) (hw : ∀ i ∈ ws, i ∈ own.map (·.2))
    (hg : ∀ (s : Shared) (H : Hp) (C : Addr) (cl : List (Str × Addr)) (fp : List Addr), PG (X.blk s H scope (compEnvC scope cl C X.env) fp) tg (tGt X.K ws g)) (ht : ∀ (s : Shared) (H : Hp) (C : Addr) (cl : List (Str × Addr)) (fp : List Addr), PTs (X.blk s H scope (compEnvC scope cl C X.env) fp) ifs (tT X.K W0 ta))
    (he : ∀ (s : Shared) (H : Hp) (C : Addr) (cl : List (Str × Addr)) (fp : List Addr), PE (X.blk s H scope (compEnvC scope cl C X.env) fp) elt (tE X.K W0 ma)) (hs : ∀ x, foldedSetIterable iter X.env x = pure x := by intro _; rfl) :
    PS X (.Assign [.Name y py] (.ListComp elt [⟨tg, iter, ifs, 0⟩] scope pos) spos) (tS X.K W (mSet i (mKeep (mLc (own.map (·.2)) mi g ta ma)))) := by
  refine PS.imp (ps_setLc hc hN hy hyl hsw hi ok hg ht he hs) fun D σ H ⟨mu, ev, st, he, hs, hp⟩ => ?_
  refine lc_go (W := W) hw ⟨mu, ev, st, he, hs, ?_⟩
  unfold mSet mKeep at hp
  cases hr : mLc (own.map (·.2)) mi g ta ma ev st with
  | bad => rw [hr] at hp; exact hp
  | exc c e s => rw [hr] at hp; exact hp
  | ok ds st1 =>
    rw [hr] at hp
    intro mu1 x H1 e1 ⟨p, vs, ex, h0, hpp, hn, rs⟩ s1
    subst ex
    obtain ⟨k1, k2⟩ := adopt s1 hpp hn rs
    exact hp (mu1 ++ [p]) _ H1 (ext_adopt e1 h0) ((he.mono (ext_adopt e1 h0)).set k1 i) k2
/-! ### the built-ins' names -/
theorem bt_len : bootBuiltins "len" = some (.builtin "len") := by decide +kernel
theorem bt_abs : bootBuiltins "abs" = some (.builtin "abs") := by decide +kernel
theorem bt_min : bootBuiltins "min" = some (.builtin "min") := by decide +kernel
theorem bt_max : bootBuiltins "max" = some (.builtin "max") := by decide +kernel
theorem bt_sum : bootBuiltins "sum" = some (.builtin "sum") := by decide +kernel
theorem bt_any : bootBuiltins "any" = some (.builtin "any") := by decide +kernel
theorem bt_all : bootBuiltins "all" = some (.builtin "all") := by decide +kernel
theorem bt_sorted : bootBuiltins "sorted" = some (.builtin "sorted") := by decide +kernel
theorem bt_int : bootBuiltins "int" = some (.type "int") := by decide +kernel
theorem bt_str : bootBuiltins "str" = some (.type "str") := by decide +kernel
theorem bt_bool : bootBuiltins "bool" = some (.type "bool") := by decide +kernel
theorem bt_tuple : bootBuiltins "tuple" = some (.type "tuple") := by decide +kernel
theorem bt_list : bootBuiltins "list" = some (.type "list") := by decide +kernel
theorem bt_set : bootBuiltins "set" = some (.type "set") := by decide +kernel
theorem ok_int : okCls "int" = true := by decide
theorem ok_str : okCls "str" = true := by decide
theorem ok_bool : okCls "bool" = true := by decide
theorem ok_tuple : okCls "tuple" = true := by decide
theorem ok_list : okCls "list" = true := by decide
/-! ### the law's end -/
theorem rp_script {K : PySem.W.Frag} {H : Hp} {a : Addr} {ns : List Int} (hO : Only H) (hS : SqL K H a (ns.map V.int)) : Rp K H [] (.ref a) (.ro (ns.map D.int)) := by
  refine .ro (vs := ns.map V.int) ?_ (Rps.of_ints ns)
  rcases hS with (h | ⟨o, h⟩) | h
  · rcases hO a with q | ⟨o, xs, q⟩
    · rw [q] at h; cases h
    · rw [q] at h; cases h
  · exact .inl ⟨o, h, by simp⟩
  · exact .inr h
theorem walk_m {l : PySem.W.OpenLaw} {q : Program} {loose : List Str} {XP : (Str → Option Value) → Heap → Prop} {YP : World → Heap → Prop} {d : DefRec} {K : Params → PySem.W.Frag} {k : Nat} {c : Fm} (hn : l.most = some 63) (hdf : d.params.defaults = []) (hr : Room k callerA)
    (hY : ∀ (w : World) (h : Heap), YP w h → (K w.params).In h)
    (F : ∀ (w : World) (mg : Str → Option Value) (fa : Addr) (h : Heap), (K w.params).In h → h.Ns mainGlobals mg → mg d.name = some (.ref fa) →
      ∃ fd : FuncData, (∀ (s : Shared) (u : Value), BindsTo s fd ⟨[u], []⟩ [("script", u)]) ∧ ∀ base : Heap, (K w.params).In base → base.Ns mainGlobals mg → FnOk l.prog w (K w.params) mg base CX0 k fa fd ["script"] (spM (K w.params) 1 c))
    (hl : ∀ ns : List Int, ns.length ≤ 63 → ∃ st', c [.ro (ns.map D.int)] [] = .ok (.bl true) st') :
    PySem.W.WalkO q loose XP YP l.row.toRowW d [] (fun f vs => PySem.call f vs) := by
  refine L2.walk_of (n := 63) (k := k) (x := "script") (CX := fun _ => CX0) (sp := fun w => spM (K w.params) 1 c) hn (by decide) hdf hr hY F (fun w H a ns hlen hO hS => ?_) fun _ _ _ _ _ z => z
  obtain ⟨st', e⟩ := hl ns hlen
  refine ⟨rfl, [], [.ro (ns.map D.int)], [], .cons (rp_script hO hS) .nil, ⟨rfl, .nil, fun i a o h _ => by simp at h⟩, ?_⟩
  rw [e]
  intro mu' v H' _ r _
  cases r
  rfl
end Ml

namespace Ml
open PySem L2 PyProof.Rows
section
variable {X : Cx} {pins : List (Addr × Obj)} {σ : L2.St} {H : Hp} {s : Shared} {Q : VK} {r : Value} {ns : List Int}
/-- sorted(r), the items collected being whole numbers -/
theorem sort_behind (I : Inv X pins σ H s) (hz : ns.length ≤ sizeLine)
    (hcol : ∀ (R : List Value → Shared → Prop) (E : Value → Shared → Prop), (∀ (g : Heap) (tk : Nat) (acc : List Value), (∀ b o, s.heap.get? b = some o → g.get? b = some o) → IntsAre acc ns → R acc { s with heap := g, toks := tk }) → wpAny (model X.prog X.w) X.A.in1 (collect r) R E s)
    (q : ∀ (ms : List Int) (p : Addr), ms.Perm ns → ms.Pairwise (· ≤ ·) → H p = none → Q (.ref p) (upd H p (.lst (ms.map V.int)))) :
    wpAny (model X.prog X.w) X.A (call (.builtin "sorted") [r]) (EP X pins σ Q) X.xe s := by
  refine Calls.call_function_entry kind_sorted plain_sorted entry_sorted (args_sorted1 _) ?_
  unfold Builtin.«sorted»
  refine wpAny_bind (m := checkCount "sorted" 1 1 _) (wpAny_pure ?_)
  refine wpAny_bind (hcol _ _ fun g tk acc hk hI => ?_)
  have hzA : acc.length ≤ sizeLine := by rw [hI.length]; exact hz
  have I1 : Inv X pins σ H { s with heap := g, toks := tk } := I.kept hk
  refine wpAny_bind (wpAny_newList ?_ hzA)
  have hoL : (g.push (seqObj "list" acc.toArray 0)).get? g.objs.size = some (seqObj "list" acc.toArray 0) := Heap.get?_push_size _ rfl
  show wpAny _ _ _ _ _ { s with heap := g.push (seqObj "list" acc.toArray 0), toks := tk }
  refine wpAny_bind (wpAny_holding (wpAny_call_entry slot_list_sort ⟨_, hoL, rfl⟩ entry_list_sort
    (SrtO.list_sort_ord (s := { s with heap := g.push (seqObj "list" acc.toArray 0), toks := tk }) SrtO.swo_int hoL hzA (fun h2 => SrtO.ints_sortable hI h2) fun out hs hb => ⟨_, rfl, ?_⟩) (args_list_sort _)))
  obtain ⟨k1, k2, k3⟩ := SrtO.ints_out hI hs hb
  obtain ⟨ep, he⟩ := sortedHeap_at (vs := acc) (out := out.toArray) hoL
  have hlen : ((out.map SrtO.iv).map V.int).length ≤ sizeLine := by rw [List.length_map, k2.length_eq]; exact hz
  refine wpAny_pure ⟨_, rfl, .ref g.objs.size, upd H g.objs.size (.lst ((out.map SrtO.iv).map V.int)), I1.laid (t' := tk) (fun b u e => ?_) (Nat.le_refl _) ⟨hlen, out, ep, vals_of_ints k1, he⟩, rfl, q _ _ k2 k3 (I1.hok.fresh (Nat.le_refl _))⟩
  have hb : b < g.objs.size := Heap.lt_size e
  rw [sortedHeap_old (Nat.ne_of_lt hb) (by rw [size_push']; exact Nat.lt_succ_of_lt hb)]
  exact Heap.get?_push_of_some _ e
end
section
variable {X : Cx}
/-- sorted(t), t a tuple of whole numbers -/
def rSortedT (K : PySem.W.Frag) : List V → Hp → VK → Prop := fun vs H Q => ∃ (a : Addr) (ns : List Int), vs = [V.ref a] ∧ SqT K H a (ns.map V.int) ∧
  ∀ (ms : List Int) (p : Addr), ms.Perm ns → ms.Pairwise (· ≤ ·) → H p = none → Q (.ref p) (upd H p (.lst (ms.map V.int)))
theorem cr_sortedTup : CallR X (.builtin "sorted") (rSortedT X.K) := by
  intro pins s σ H vs us Q I r h
  obtain ⟨a, ns, rfl, hs, q⟩ := h
  rw [Vals.ref1 r]
  obtain ⟨its, rv, ⟨o, ho, hc, n, hd⟩, hz⟩ := I.tuple hs
  rw [List.length_map] at hz
  refine sort_behind I hz (fun R E k => ?_) q
  have hl := rv.length
  rw [List.length_map] at hl
  exact wpAny_collect_seq a (.inr rfl) ho hc hd (fun g hk => k g s.toks its hk rv.ints) (by rw [List.size_toArray]; omega)
/-- sorted(d), d a dict whose keys are whole numbers -/
def rSortedD : List V → Hp → VK → Prop := fun vs H Q => ∃ (a : Addr) (kvs : List (Key × V)) (ns : List Int), vs = [V.ref a] ∧ Rd H a (.dK kvs) ∧ kvs.map (·.1) = ns.map Sum.inl ∧
  ∀ (ms : List Int) (p : Addr), ms.Perm ns → ms.Pairwise (· ≤ ·) → H p = none → Q (.ref p) (upd H p (.lst (ms.map V.int)))
theorem cr_sortedDict (hcalm : X.calm = true) : CallR X (.builtin "sorted") rSortedD := by
  intro pins s σ H vs us Q I r h
  obtain ⟨a, kvs, ns, rfl, hd, hks, q⟩ := h
  rw [Vals.ref1 r]
  obtain ⟨z, lo, ws, rel, dd⟩ := dk_rd I.hok hd
  obtain ⟨ep, hat⟩ := dd.dictAt
  have hkeys : ws.map (·.1) = ns.map Sum.inl := rel.keys.symm.trans hks
  have hl : ws.length = ns.length := by
    have e := congrArg List.length hkeys
    rwa [List.length_map, List.length_map] at e
  have hz : ns.length ≤ sizeLine := by rw [← hl, ← rel.length]; exact z
  refine sort_behind I hz (fun R E k => ?_) q
  refine PySem.W.kdu_collect (A := X.A.in1) (PySem.W.kdl_dict (knd := mixKind X.prog X.w) (kvs := ws) (ep := ep) lo) (I.ok.hd hcalm) hat (by rw [hl]; exact hz) fun g tk acc hk hacc => k g tk acc.toList hk ?_
  have hv : Vals (ns.map V.int) acc.toList := by
    refine vals_of_at (by rw [List.length_map, show acc.toList.length = acc.size from Array.length_toList, hacc.1, hl]) fun j x u e1 e2 => ?_
    obtain ⟨kk, y, e3, e4⟩ := hacc.2 j u (by rw [← Array.getElem?_toList]; exact e2)
    have e5 : (ws.map (·.1))[j]? = some kk := by rw [List.getElem?_map, e3]; all_goals rfl
    rw [hkeys, List.getElem?_map] at e5
    rw [List.getElem?_map] at e1
    cases e6 : ns[j]? with
    | none => rw [e6] at e1; cases e1
    | some n =>
      rw [e6] at e1 e5
      have e7 : Sum.inl n = kk := Option.some.inj e5
      have e8 : V.int n = x := Option.some.inj e1
      subst e7; subst e8
      exact relV_key (k := Sum.inl n) e4
  exact hv.ints
/-- sum(t), t a tuple of whole numbers -/
def rSumT (K : PySem.W.Frag) : List V → Hp → VK → Prop := fun vs H Q => ∃ (a : Addr) (ns : List Int), vs = [V.ref a] ∧ SqT K H a (ns.map V.int) ∧ Q (.int ns.sum) H
theorem cr_sumT (hcalm : X.calm = true) : CallR X (.builtin "sum") (rSumT X.K) := by
  intro pins s σ H vs us Q I r h
  obtain ⟨a, ns, rfl, hs, q⟩ := h
  rw [Vals.ref1 r]
  obtain ⟨its, rv, ht, hz⟩ := I.tuple hs
  have hi := rv.ints
  obtain ⟨xs, hx⟩ := hi.allInts.items
  have hn : numsOf its.toArray.toList = ns := by rw [show its.toArray.toList = its from rfl, hi.numsOf]
  have ht' : s.heap.IsTuple a its.toArray := ht
  rw [hx] at ht' hn
  rw [nums_intItems] at hn
  refine PySem.W.ktm_sumG (I.ok.hd hcalm) ht' fun g tk t' hk => ?_
  rw [preSum_eq, List.take_of_length_le (by simp), hn]
  exact ⟨.int ns.sum, H, I.kept hk, ⟨t', rfl⟩, q⟩
end
end Ml

namespace Ml
open PySem L2
variable {X : Cx} {W : Wx} {a b c e o i : Expr} {es rest : List Expr} {pos p q apos cpos pos' : Pos} {ma mb mc mk mx : Mo D} {mr mq : Mo (List D)} {ta tb : Mo Bool} {s1 s2 : Ms}
/-! ### while -/
def whl (t : Mo Bool) (body : Ms) : Nat → Ms
  | 0 => fun _ _ => .bad
  | n + 1 => fun ev st => match t ev st with
    | .ok true st1 => (match body ev st1 with
      | .ok (.nx, ev2) st2 => whl t body n ev2 st2
      | .ok (.ct, ev2) st2 => whl t body n ev2 st2
      | .ok (.bk, ev2) st2 => .ok (.nx, ev2) st2
      | .ok (.rt d, ev2) st2 => .ok (.rt d, ev2) st2
      | .bad => .bad
      | .exc c e s => .exc c e s)
    | .ok false st1 => .ok (.nx, ev) st1
    | .bad => .bad
    | .exc c e s => .exc c e s
def mWhile (n : Nat) (t : Mo Bool) (body : Ms) : Ms := whl t body n
theorem ms_while {n : Nat} {body : List Stmt} (hp : PassesOwn (model X.prog X.w) X.A X.env X.xe) (hc : PT X c (tT X.K W ta)) (hb : PSs X body (tS X.K W s1)) : PS X (.While c body [] pos) (tS X.K W (mWhile n ta s1)) := by
  refine PS.imp (ps_while hp hc hb) fun D σ H ⟨mu, ev, st, he, hs, hp⟩ => ?_
  refine ⟨fun m σ H => ∃ mu ev st, RelEv X.K H mu σ ev ∧ RelSt X.K H mu st ∧ PostS X.K W mu H (whl ta s1 m ev st) D, ⟨n, mu, ev, st, he, hs, hp⟩, ?_⟩
  rintro m σ H ⟨mu, ev, st, he, hs, hp⟩
  cases m with
  | zero => exact hp.elim
  | succ m =>
    refine ⟨mu, ev, st, he, hs, ?_⟩
    simp only [whl] at hp
    cases ht : ta ev st with
    | bad => rw [ht] at hp; exact hp
    | exc c e s => rw [ht] at hp; exact hp
    | ok bb st1 =>
      rw [ht] at hp
      intro mu1 x H1 e1 rb s1'
      obtain rfl : x = bb := rb
      have hp := PostS.from hp e1
      cases x with
      | false => exact iteF (hp _ _ _ .refl (he.mono e1) s1')
      | true =>
        refine iteT ⟨fun σ' H' => ∃ mu ev st, RelEv X.K H' mu σ' ev ∧ RelSt X.K H' mu st ∧ PostS X.K W mu H' (whl ta s1 m ev st) D, fun σ' H' h => ⟨m, Nat.lt_succ_self _, h⟩, mu1, ev, st1, he.mono e1, s1', ?_⟩
        simp only at hp
        cases hb : s1 ev st1 with
        | bad => rw [hb] at hp; exact hp
        | exc c e s => rw [hb] at hp; exact hp
        | ok r st2 =>
          obtain ⟨fl, ev2⟩ := r
          rw [hb] at hp
          cases fl with
          | nx => exact fun mu' σ' H'' e' he' hs' => ⟨mu', ev2, st2, he', hs', PostS.from hp e'⟩
          | ct => exact fun mu' σ' H'' e' he' hs' => ⟨mu', ev2, st2, he', hs', PostS.from hp e'⟩
          | bk => exact hp
          | rt d => exact hp
/-! ### dicts of the store -/
def mDNew {κ : Type} : Mo (List (κ × D)) := fun _ st => .ok [] st
theorem md_newK : PE X (.Dict [] [] pos) (tD X.K W mDNew) :=
  PE.imp pe_dnewK fun σ H Q ⟨mu, ev, st, he, hs, hp⟩ => fun q hq => hp _ _ _ (ext_new hq _) ⟨q, [], rfl, hq, upd_same, hs.fresh hq, .nil⟩ (hs.new hq _)
/-- a new dict with tuple keys that nobody holds yet -/
def RDT (K : PySem.W.Frag) : RR V (List (List Key × D)) := ⟨fun H0 H mu _ v kvs => ∃ p ws, v = .ref p ∧ H0 p = none ∧ H p = some (.dT ws) ∧ p ∉ mu ∧ KD K H mu ws kvs, fun e ⟨p, vs, a, b, c⟩ => ⟨p, vs, a, e.dom p b, c⟩⟩
abbrev tDT (K : PySem.W.Frag) (W : Wx) (m : Mo (List (List Key × D))) : TE := tG K W (RDT K) m
theorem md_newT : PE X (.Dict [] [] pos) (tDT X.K W mDNew) :=
  PE.imp pe_dnewT fun σ H Q ⟨mu, ev, st, he, hs, hp⟩ => fun q hq => hp _ _ _ (ext_new hq _) ⟨q, [], rfl, hq, upd_same, hs.fresh hq, .nil⟩ (hs.new hq _)
def mKeepD (m : Mo (List (Key × D))) : Mo D := fun ev st => (m ev st).bind fun ds st1 => .ok (.ref st1.length) (st1 ++ [.dK false ds])
def mKeepT (m : Mo (List (List Key × D))) : Mo D := fun ev st => (m ev st).bind fun ds st1 => .ok (.ref st1.length) (st1 ++ [.dT false ds])
/-- what stands at p, nobody's, becomes the store's -/
theorem adopt_any {K : PySem.W.Frag} {H : Hp} {mu : List Addr} {st : Sto} (r : RelSt K H mu st) {p : Addr} {u : HO} {ob : Ob} (hp : H p = some u) (hf : ∀ o w, u ≠ .frz o w) (hn : p ∉ mu) (hr : ∀ mu', Ext0 mu H mu' H → ObOk K H mu' p ob) :
    Rp K H (mu ++ [p]) (.ref p) (.ref st.length) ∧ RelSt K H (mu ++ [p]) (st ++ [ob]) := by
  have q : mu.length = st.length := r.len
  have e0 : Ext0 mu H (mu ++ [p]) H := ⟨⟨[p], rfl⟩, fun _ _ h => h, fun a o vs h n => ⟨h, by simp only [List.mem_append, List.mem_singleton, not_or]; exact ⟨n, fun e => by subst e; rw [hp] at h; exact hf _ _ (Option.some.inj h)⟩⟩⟩
  refine ⟨.ref (by rw [← q]; simp), ⟨by simp [q], ?_, fun i a u h1 h2 => ?_⟩⟩
  · rw [List.nodup_append]
    refine ⟨r.nd, by simp, fun a ha b hb => ?_⟩
    simp only [List.mem_singleton] at hb
    subst hb
    intro e; subst e
    exact hn ha
  · by_cases hi : i < mu.length
    · rw [List.getElem?_append_left hi] at h1
      rw [List.getElem?_append_left (by rw [← q]; exact hi)] at h2
      exact (r.ob i a u h1 h2).mono0 e0 rfl
    · have hl := (List.getElem?_eq_some_iff.mp h1).1
      simp at hl
      have e : i = mu.length := by omega
      subst e
      rw [List.getElem?_append_right (Nat.le_refl _)] at h1
      rw [q, List.getElem?_append_right (Nat.le_refl _)] at h2
      simp at h1 h2
      subst h1; subst h2
      exact hr _ e0
theorem me_keepD {md : Mo (List (Key × D))} (h : PE X e (tD X.K W md)) : PE X e (tE X.K W (mKeepD md)) := by
  refine PE.imp h fun σ H Q ⟨mu, ev, st, he, hst, hp⟩ => ?_
  refine ⟨mu, ev, st, he, hst, ?_⟩
  unfold mKeepD at hp
  cases hr : md ev st with
  | bad => rw [hr] at hp; exact hp
  | exc c e s => rw [hr] at hp; exact hp
  | ok ds st1 =>
    rw [hr] at hp
    intro mu1 x H1 e1 ⟨p, ws, ex, h0, hpp, hn, rs⟩ s1
    subst ex
    obtain ⟨k1, k2⟩ := adopt_any (ob := .dK false ds) s1 hpp (fun _ _ z => by cases z) hn (fun mu' e0 => ⟨ws, hpp, rs.mono0 e0⟩)
    exact hp (mu1 ++ [p]) (.ref p) H1 (ext_adopt e1 h0) k1 k2
theorem me_keepT {md : Mo (List (List Key × D))} (h : PE X e (tDT X.K W md)) : PE X e (tE X.K W (mKeepT md)) := by
  refine PE.imp h fun σ H Q ⟨mu, ev, st, he, hst, hp⟩ => ?_
  refine ⟨mu, ev, st, he, hst, ?_⟩
  unfold mKeepT at hp
  cases hr : md ev st with
  | bad => rw [hr] at hp; exact hp
  | exc c e s => rw [hr] at hp; exact hp
  | ok ds st1 =>
    rw [hr] at hp
    intro mu1 x H1 e1 ⟨p, ws, ex, h0, hpp, hn, rs⟩ s1
    subst ex
    obtain ⟨k1, k2⟩ := adopt_any (ob := .dT false ds) s1 hpp (fun _ _ z => by cases z) hn (fun mu' e0 => ⟨ws, hpp, rs.mono0 e0⟩)
    exact hp (mu1 ++ [p]) (.ref p) H1 (ext_adopt e1 h0) k1 k2
/-- the whole numbers of a tuple, as a key -/
def keysOf (d : D) : Option (List Key) := match d with
  | .tup ds => (intsOf ds).map fun ns => ns.map Sum.inl
  | _ => none
theorem keys_rel {K : PySem.W.Frag} {H : Hp} {mu : List Addr} {v : V} {d : D} {k : List Key} (r : Rp K H mu v d) (e : keysOf d = some k) : ∃ b, v = .ref b ∧ H b = some (.tup (k.map kV)) := by
  unfold keysOf at e
  split at e
  · rename_i ds
    cases hq : intsOf ds with
    | none => rw [hq] at e; cases e
    | some ns =>
      rw [hq] at e; cases e
      cases r with
      | tup h hs =>
        have ev := Rps.ints hs hq
        subst ev
        have e2 : (ns.map Sum.inl).map kV = ns.map V.int := by rw [List.map_map]; rfl
        rw [e2]
        rcases h with h | ⟨⟨x, hx⟩, _⟩
        · exact ⟨_, rfl, h⟩
        · rw [List.mem_map] at hx
          obtain ⟨n, _, hn⟩ := hx
          cases hn
  · cases e
/-- what a dict of the store holds at a key -/
def getD1 (st : Sto) (d k : D) : Option (Option D) := match d with
  | .ref i => (match st[i]? with
    | some (.dK _ kvs) => (keyOf k).map fun kk => valD kvs kk
    | some (.dT _ kvs) => (keysOf k).map fun kk => valD kvs kk
    | _ => none)
  | _ => none
theorem get_rel {K : PySem.W.Frag} {H : Hp} {mu : List Addr} {st : Sto} (hs : RelSt K H mu st) {x y : V} {d k : D} {r : Option D} (hx : Rp K H mu x d) (hy : Rp K H mu y k) (e : getD1 st d k = some r) :
    ∃ a ov, x = .ref a ∧ DGet H a y ov ∧ IsD H a ∧ ((∃ v d', ov = some v ∧ r = some d' ∧ Rp K H mu v d') ∨ (ov = none ∧ r = none)) := by
  unfold getD1 at e
  split at e
  · cases hx with
    | ref hi =>
      obtain ⟨ob, ho, ok⟩ := hs.at hi
      rw [ho] at e
      split at e
      · rename_i lk kvs eq; cases eq
        cases hk : keyOf k with
        | none => rw [hk] at e; cases e
        | some kk =>
          rw [hk] at e; cases e
          obtain ⟨ws, hw, hkd⟩ : ∃ ws, Rd H _ (.dK ws) ∧ KD K H mu ws kvs := by
            cases lk with
            | true => obtain ⟨od, ws, h1, h2⟩ := ok; exact ⟨ws, .inr ⟨od, h1⟩, h2⟩
            | false => obtain ⟨ws, h1, h2⟩ := ok; exact ⟨ws, .inl h1, h2⟩
          refine ⟨_, valV ws kk, rfl, .inl ⟨ws, kk, hw, key_rel hy hk, rfl⟩, .inl ⟨ws, hw⟩, ?_⟩
          rcases hkd.val kk with ⟨v, d', h1, h2, h3⟩ | ⟨h1, h2⟩
          · exact .inl ⟨v, d', h1, h2, h3⟩
          · exact .inr ⟨h1, h2⟩
      · rename_i lk kvs eq; cases eq
        cases hk : keysOf k with
        | none => rw [hk] at e; cases e
        | some kk =>
          rw [hk] at e; cases e
          obtain ⟨ws, hw, hkd⟩ : ∃ ws, Rd H _ (.dT ws) ∧ KD K H mu ws kvs := by
            cases lk with
            | true => obtain ⟨od, ws, h1, h2⟩ := ok; exact ⟨ws, .inr ⟨od, h1⟩, h2⟩
            | false => obtain ⟨ws, h1, h2⟩ := ok; exact ⟨ws, .inl h1, h2⟩
          obtain ⟨b, rfl, hb⟩ := keys_rel hy hk
          refine ⟨_, valV ws kk, rfl, .inr ⟨ws, kk, b, hw, rfl, hb, rfl⟩, .inr ⟨ws, hw⟩, ?_⟩
          rcases hkd.val kk with ⟨v, d', h1, h2, h3⟩ | ⟨h1, h2⟩
          · exact .inl ⟨v, d', h1, h2, h3⟩
          · exact .inr ⟨h1, h2⟩
      · cases e
  · cases e
/-- d[k] -/
def mDAt (ma mk : Mo D) : Mo D := fun ev st => (ma ev st).bind fun d st1 => (mk ev st1).bind fun k st2 => match getD1 st2 d k with
  | some (some v) => .ok v st2
  | _ => .bad
theorem me_dat (hu : X.A.units + 1 < cLine) (ho : PE X o (tE X.K W ma)) (hi : PE X i (tE X.K W mk)) (hs : NoSl i := by exact fun _ _ => rfl) : PE X (.Subscript o i pos) (tE X.K W (mDAt ma mk)) := by
  refine PE.imp (pe_dget hu ho hi hs) fun σ H Q ⟨mu, ev, st, he, hst, hp⟩ => ?_
  refine ⟨mu, ev, st, he, hst, hp.bind fun d st1 mu1 x H1 _ e1 r1 s1 hp1 => ?_⟩
  refine ⟨mu1, ev, st1, he.mono e1, s1, hp1.bind fun k st2 mu2 y H2 _ e2 r2 s2 hp2 => ?_⟩
  split at hp2
  · rename_i v hg
    obtain ⟨a, ov, rfl, hd, _, h | ⟨_, h⟩⟩ := get_rel s2 (Rp.mono e2 r1) r2 hg
    · obtain ⟨v', d', rfl, e3, r3⟩ := h
      cases e3
      exact ⟨a, v', rfl, hd, hp2 _ _ _ .refl r3 s2⟩
    · cases h
  · exact hp2.elim
/-- d.get(k, x) -/
def isDct (st : Sto) : D → Bool
  | .ref i => (match st[i]? with
    | some (.dK _ _) => true
    | some (.dT _ _) => true
    | _ => false)
  | _ => false
def mDGet (ma mk mx : Mo D) : Mo D := fun ev st => (ma ev st).bind fun d st1 => if isDct st1 d = true then (mk ev st1).bind fun k st2 => (mx ev st2).bind fun x st3 => match getD1 st3 d k with
  | some r => .ok (r.getD x) st3
  | none => .bad else .bad
theorem isDct_rel {K : PySem.W.Frag} {H : Hp} {mu : List Addr} {st : Sto} (hs : RelSt K H mu st) {x : V} {d : D} (hx : Rp K H mu x d) (h : isDct st d = true) : ∃ a, x = .ref a ∧ IsD H a := by
  unfold isDct at h
  split at h
  · cases hx with
    | ref hi =>
      obtain ⟨ob, ho, ok⟩ := hs.at hi
      rw [ho] at h
      split at h
      · rename_i lk kvs eq; cases eq
        cases lk with
        | true => obtain ⟨od, ws, h1, h2⟩ := ok; exact ⟨_, rfl, .inl ⟨ws, .inr ⟨od, h1⟩⟩⟩
        | false => obtain ⟨ws, h1, h2⟩ := ok; exact ⟨_, rfl, .inl ⟨ws, .inl h1⟩⟩
      · rename_i lk kvs eq; cases eq
        cases lk with
        | true => obtain ⟨od, ws, h1, h2⟩ := ok; exact ⟨_, rfl, .inr ⟨ws, .inr ⟨od, h1⟩⟩⟩
        | false => obtain ⟨ws, h1, h2⟩ := ok; exact ⟨_, rfl, .inr ⟨ws, .inl h1⟩⟩
      · cases h
  · cases h
theorem me_dget {f : Expr} (hu : X.A.units + 1 < cLine) (ho : PE X o (tE X.K W ma)) (he : PE X e (tE X.K W mk)) (hf : PE X f (tE X.K W mx)) (m : M2 X o "get" apos e f cpos := by exact ⟨rfl, rfl, rfl, rfl⟩) : PE X (.Call (.Attribute o "get" apos) [e, f] [] cpos) (tE X.K W (mDGet ma mk mx)) := by
  refine PE.imp (pe_dget2 hu ho he hf m) fun σ H Q ⟨mu, ev, st, he, hst, hp⟩ => ?_
  refine ⟨mu, ev, st, he, hst, hp.bind fun d st1 mu1 v H1 _ e1 r1 s1 hp1 => ?_⟩
  split at hp1
  · rename_i hd
    obtain ⟨a, rfl, isd⟩ := isDct_rel s1 r1 hd
    refine ⟨a, rfl, isd, mu1, ev, st1, he.mono e1, s1, hp1.bind fun k st2 mu2 y H2 _ e2 r2 s2 hp2 => ?_⟩
    refine ⟨mu2, ev, st2, (he.mono e1).mono e2, s2, hp2.bind fun x st3 mu3 z H3 _ e3 r3 s3 hp3 => ?_⟩
    split at hp3
    · rename_i r hg
      obtain ⟨a', ov, ea, hd, _, h⟩ := get_rel s3 (Rp.mono (e2.trans e3) r1) (Rp.mono e3 r2) hg
      cases ea
      refine ⟨ov, hd, hp3 _ _ _ .refl ?_ s3⟩
      rcases h with ⟨v, d', rfl, rfl, rv⟩ | ⟨rfl, rfl⟩
      · exact rv
      · exact r3
    · exact hp3.elim
  · exact hp1.elim
/-- d[k] = v -/
def putD1 (st : Sto) (d k v : D) : Option Sto := match d with
  | .ref i => (match st[i]? with
    | some (.dK false kvs) => (match keyOf k with
      | some kk => if kvs.length ≤ lim then some (st.set i (.dK false (putD kvs kk v))) else none
      | none => none)
    | some (.dT false kvs) => (match keysOf k with
      | some kk => if kvs.length ≤ lim then some (st.set i (.dT false (putD kvs kk v))) else none
      | none => none)
    | some (.lst ds) => (match k with
      | .int j => (match ixN ds.length j with
        | some n => some (st.set i (.lst (ds.set n v)))
        | none => none)
      | _ => none)
    | _ => none)
  | _ => none
theorem put_rel {K : PySem.W.Frag} {H : Hp} {mu : List Addr} {st st' : Sto} (hs : RelSt K H mu st) {x y z : V} {d k v : D} (hx : Rp K H mu x d) (hy : Rp K H mu y k) (hz : Rp K H mu z v) (e : putD1 st d k v = some st') (hd : isDct st d = true) :
    ∃ a H', x = .ref a ∧ DPut H a y z H' ∧ Ext mu H mu H' ∧ RelSt K H' mu st' := by
  unfold putD1 at e
  split at e
  · cases hx with
    | ref hi =>
      obtain ⟨ob, ho, ok⟩ := hs.at hi
      rw [ho] at e
      split at e
      · rename_i kvs eq; cases eq
        split at e
        · rename_i kk hk
          split at e
          · rename_i hl
            cases e
            obtain ⟨ws, h1, h2⟩ := ok
            have ext := ext_write hs (List.mem_of_getElem? hi) (fun ob w z => by rw [h1] at z; cases z) (.dK (putK ws kk z))
            exact ⟨_, _, rfl, .inl ⟨ws, kk, h1, key_rel hy hk, by rw [h2.length]; exact lim_lt hl, rfl⟩, ext, hs.write hi ⟨_, upd_same, (h2.put kk hz).mono ext⟩⟩
          · cases e
        · cases e
      · rename_i kvs eq; cases eq
        split at e
        · rename_i kk hk
          split at e
          · rename_i hl
            cases e
            obtain ⟨ws, h1, h2⟩ := ok
            obtain ⟨b, rfl, hb⟩ := keys_rel hy hk
            have ext := ext_write hs (List.mem_of_getElem? hi) (fun ob w z => by rw [h1] at z; cases z) (.dT (putK ws kk z))
            exact ⟨_, _, rfl, .inr ⟨ws, kk, b, h1, rfl, hb, by rw [h2.length]; exact lim_lt hl, rfl⟩, ext, hs.write hi ⟨_, upd_same, (h2.put kk hz).mono ext⟩⟩
          · cases e
        · cases e
      · rename_i ds eq; cases eq
        simp only [isDct, ho] at hd
        cases hd
      · cases e
  · cases e
def mDPut (ma mk mv : Mo D) : Ms := fun ev st => (mv ev st).bind fun v st1 => (ma ev st1).bind fun d st2 => (mk ev st2).bind fun k st3 => if isDct st3 d = true then (match putD1 st3 d k v with
  | some st4 => .ok (.nx, ev) st4
  | none => .bad) else .bad
theorem ms_dput {v : Expr} {mv : Mo D} (hu : X.A.units + 1 < cLine) (ho : PE X o (tE X.K W ma)) (hi : PE X i (tE X.K W mk)) (hv : PE X v (tE X.K W mv)) (hs : swapsWith v (some (.Subscript o i pos')) pos.line X.env = pure false := by rfl) :
    PS X (.Assign [.Subscript o i pos'] v pos) (tS X.K W (mDPut ma mk mv)) := by
  refine PS.imp (ps_dput hu ho hi hv hs) fun D σ H ⟨mu, ev, st, he, hst, hp⟩ => ?_
  refine ⟨mu, ev, st, he, hst, hp.bind fun v st1 mu1 z H1 _ e1 r1 s1 hp1 => ?_⟩
  refine ⟨mu1, ev, st1, he.mono e1, s1, hp1.bind fun d st2 mu2 x H2 _ e2 r2 s2 hp2 => ?_⟩
  refine ⟨mu2, ev, st2, (he.mono e1).mono e2, s2, hp2.bind fun k st3 mu3 y H3 _ e3 r3 s3 hp3 => ?_⟩
  split at hp3
  · rename_i hd
    split at hp3
    · rename_i st4 hput
      obtain ⟨a, H4, rfl, dp, ext, s4⟩ := put_rel s3 (Rp.mono e3 r2) r3 (Rp.mono (e2.trans e3) r1) hput hd
      exact ⟨a, H4, rfl, dp, hp3 _ _ _ ext ((((he.mono e1).mono e2).mono e3).mono ext) s4⟩
    · exact hp3.elim
  · exact hp3.elim
/-- xs[i] = v, a list of the store's -/
def mLPut (ma mk mv : Mo D) : Ms := fun ev st => (mv ev st).bind fun v st1 => (ma ev st1).bind fun d st2 => (mk ev st2).bind fun k st3 => match d, k with
  | .ref i, .int j => (match st3[i]? with
    | some (.lst ds) => (match ixN ds.length j with
      | some n => .ok (.nx, ev) (st3.set i (.lst (ds.set n v)))
      | none => .bad)
    | _ => .bad)
  | _, _ => .bad
theorem ms_lput {v : Expr} {mv : Mo D} (ho : PE X o (tE X.K W ma)) (hi : PE X i (tE X.K W mk)) (hv : PE X v (tE X.K W mv)) (hg : PG X (.Subscript o i pos') (L2.gSub (tE X.K W ma) (tE X.K W mk) rSetL)) (hs : swapsWithSole [.Subscript o i pos'] v pos.line X.env = pure false := by rfl) (hw : swappedStores [.Subscript o i pos'] v X.env = pure none := by rfl)
    (h1 : (assignEach [.Subscript o i pos'] X.env).map (·.2) = [assign (.Subscript o i pos') X.env] := by rfl) : PS X (.Assign [.Subscript o i pos'] v pos) (tS X.K W (mLPut ma mk mv)) := by
  refine PS.imp (ps_asg hv hg hs hw h1) fun D σ H ⟨mu, ev, st, he, hst, hp⟩ => ?_
  refine ⟨mu, ev, st, he, hst, hp.bind fun v st1 mu1 z H1 _ e1 r1 s1 hp1 => ?_⟩
  refine ⟨mu1, ev, st1, he.mono e1, s1, hp1.bind fun d st2 mu2 x H2 _ e2 r2 s2 hp2 => ?_⟩
  refine ⟨mu2, ev, st2, (he.mono e1).mono e2, s2, hp2.bind fun k st3 mu3 y H3 _ e3 r3 s3 hp3 => ?_⟩
  split at hp3
  · have r2 := Rp.mono e3 r2
    cases r2 with
    | ref hi =>
      cases r3
      obtain ⟨ob, ho, ok⟩ := s3.at hi
      rw [ho] at hp3
      split at hp3
      · rename_i ds eq; cases eq
        obtain ⟨vs, hq, rs⟩ := ok
        split at hp3
        · rename_i n hn
          have ext := ext_write s3 (List.mem_of_getElem? hi) (fun ob w z => by rw [hq] at z; cases z) (.lst (vs.set n z))
          refine ⟨_, vs, _, n, rfl, rfl, hq, by rw [Rps.length rs]; exact hn, ?_⟩
          exact hp3 _ _ _ ext ((((he.mono e1).mono e2).mono e3).mono ext) (s3.write hi ⟨_, upd_same, (rs.set (Rp.mono (e2.trans e3) r1) n).mono ext⟩)
        · exact hp3.elim
      · exact hp3.elim
  · exact hp3.elim
theorem ms_lput' {v : Expr} {mv : Mo D} (ho : PE X o (tE X.K W ma)) (hi : PE X i (tE X.K W mk)) (hv : PE X v (tE X.K W mv)) (ha : ∀ v, assign (.Subscript o i pos') X.env v = (do
      let ov ← holding [v] (eval o X.env)
      let iv ← holding [v, ov] (eval i X.env)
      standAt pos'
      holding [v, ov, iv] (setItem ov iv v)
      release [v, ov, iv] []) := by intro _; rfl) (hs : swapsWithSole [.Subscript o i pos'] v pos.line X.env = pure false := by rfl) (hw : swappedStores [.Subscript o i pos'] v X.env = pure none := by rfl)
    (h1 : (assignEach [.Subscript o i pos'] X.env).map (·.2) = [assign (.Subscript o i pos') X.env] := by rfl) : PS X (.Assign [.Subscript o i pos'] v pos) (tS X.K W (mLPut ma mk mv)) :=
  ms_lput ho hi hv (pg_sub ho hi set_list ha) hs hw h1
end Ml

namespace Ml
open PySem L2
variable {X : Cx} {W : Wx} {a b c e o i : Expr} {es rest : List Expr} {pos p q apos cpos pos' : Pos} {ma mb mc mk mx : Mo D} {mr mq : Mo (List D)} {ta tb : Mo Bool} {s1 s2 : Ms}
/-! ### what is walked is locked meanwhile -/
def lockO : Ob → Option Ob
  | .lst ds => some (.ro ds)
  | .dK false kvs => some (.dK true kvs)
  | .dT false kvs => some (.dT true kvs)
  | _ => none
def unlockO : Ob → Option Ob
  | .ro ds => some (.lst ds)
  | .dK true kvs => some (.dK false kvs)
  | .dT true kvs => some (.dT false kvs)
  | _ => none
/-- the items of a locked thing -/
def itemsO : Ob → Option (List D)
  | .ro ds => if ds.length ≤ lim then some ds else none
  | .dK true kvs => if kvs.length ≤ lim then some (kvs.map fun z => match z.1 with | .inl i => D.int i | .inr x => D.str x) else none
  | .dT true kvs => if kvs.length ≤ lim then some (kvs.map fun z => D.tup (z.1.map fun w => match w with | .inl i => D.int i | .inr x => D.str x)) else none
  | _ => none
def keyD : Key → D
  | .inl i => .int i
  | .inr x => .str x
theorem lock_rel {K : PySem.W.Frag} {H : Hp} {mu : List Addr} {st : Sto} {n : Nat} {d : Addr} {ob ob' : Ob} (hs : RelSt K H mu st) (hi : mu[n]? = some d) (ho : st[n]? = some ob) (hl : lockO ob = some ob') :
    ∃ u, H d = some u ∧ Mut (some u) ∧ (∀ od, Ext0 mu H mu (upd H d (.frz od u)) ∧ RelSt K (upd H d (.frz od u)) mu (st.set n ob')) ∧ (∀ o w, u ≠ .frz o w) ∧ (∀ vs, u ≠ .tup vs) := by
  have hd : d ∈ mu := List.mem_of_getElem? hi
  have go : ∀ u, H d = some u → Mut (some u) → (∀ o w, u ≠ .frz o w) → (∀ vs, u ≠ .tup vs) → (∀ od, Ext0 mu H mu (upd H d (.frz od u)) → ObOk K (upd H d (.frz od u)) mu d ob') →
      ∃ u, H d = some u ∧ Mut (some u) ∧ (∀ od, Ext0 mu H mu (upd H d (.frz od u)) ∧ RelSt K (upd H d (.frz od u)) mu (st.set n ob')) ∧ (∀ o w, u ≠ .frz o w) ∧ (∀ vs, u ≠ .tup vs) := fun u hu mt nf nt h => by
    refine ⟨u, hu, mt, fun od => ?_, nf, nt⟩
    have e0 : Ext0 mu H mu (upd H d (.frz od u)) := ⟨⟨[], by simp⟩, fun a vs ha => by rw [upd_ne (fun e => by subst e; rw [hu] at ha; exact nt _ (Option.some.inj ha))]; exact ha, fun a ob vs ha na => ⟨by rw [upd_ne (fun e => by subst e; exact na hd)]; exact ha, na⟩⟩
    exact ⟨e0, hs.write hi (h od e0)⟩
  have ok := hs.ob n d ob hi ho
  cases ob with
  | ro ds => cases hl
  | lst ds =>
    cases hl
    obtain ⟨vs, h1, r⟩ := ok
    exact go _ h1 trivial (fun _ _ z => by cases z) (fun _ z => by cases z) fun od e0 => ⟨od, vs, upd_same, r.mono0 e0⟩
  | dK lk kvs =>
    cases lk with
    | true => cases hl
    | false =>
      cases hl
      obtain ⟨ws, h1, r⟩ := ok
      exact go _ h1 trivial (fun _ _ z => by cases z) (fun _ z => by cases z) fun od e0 => ⟨od, ws, upd_same, r.mono0 e0⟩
  | dT lk kvs =>
    cases lk with
    | true => cases hl
    | false =>
      cases hl
      obtain ⟨ws, h1, r⟩ := ok
      exact go _ h1 trivial (fun _ _ z => by cases z) (fun _ z => by cases z) fun od e0 => ⟨od, ws, upd_same, r.mono0 e0⟩
  | ins c fs => cases hl
  | exc c => cases hl
/-- from within the lock to behind it -/
theorem unlock_rel {K : PySem.W.Frag} {H H' : Hp} {mu mu' : List Addr} {st' : Sto} {n : Nat} {d : Addr} {od : Obj} {u : HO} {ob ob' : Ob} (hu : H d = some u) (nf : ∀ o w, u ≠ .frz o w) (nt : ∀ vs, u ≠ .tup vs) (hi : mu[n]? = some d) (e : Ext mu (upd H d (.frz od u)) mu' H') (hs : RelSt K H' mu' st')
    (ho : st'[n]? = some ob) (hl : unlockO ob = some ob') (hmt : (∃ vs, u = .lst vs) ∨ (∃ ws, u = .dK ws) ∨ ∃ ws, u = .dT ws) :
    H' d = some (.frz od u) ∧ Ext mu H mu' (upd H' d u) ∧ Ext0 mu' H' mu' (upd H' d u) ∧ RelSt K (upd H' d u) mu' (st'.set n ob') := by
  have hd : d ∈ mu := List.mem_of_getElem? hi
  have hi' : mu'[n]? = some d := e.at hi
  have hd' : d ∈ mu' := List.mem_of_getElem? hi'
  have h1 : H' d = some (.frz od u) := e.frz d od u upd_same
  have ext : Ext mu H mu' (upd H' d u) := by
    refine ⟨e.pre, fun a vs ha => ?_, fun a o ha na => ?_, fun a ha => ?_, fun a o w ha => ?_⟩
    · have ne : a ≠ d := fun z => by subst z; rw [hu] at ha; exact nt _ (Option.some.inj ha)
      rw [upd_ne ne]
      exact e.tup a vs (by rw [upd_ne ne]; exact ha)
    · have ne : a ≠ d := fun z => by subst z; exact na hd
      rw [upd_ne ne]
      exact e.keep a o (by rw [upd_ne ne]; exact ha) na
    · have ne : a ≠ d := fun z => by subst z; rw [upd_same] at ha; cases ha
      rw [upd_ne ne] at ha
      have := e.dom a ha
      rwa [upd_ne ne] at this
    · have ne : a ≠ d := fun z => by subst z; rw [hu] at ha; exact nf _ _ (Option.some.inj ha)
      rw [upd_ne ne]
      exact e.frz a o w (by rw [upd_ne ne]; exact ha)
  have e0 : Ext0 mu' H' mu' (upd H' d u) := ⟨⟨[], by simp⟩, fun a vs ha => by rw [upd_ne (fun z => by subst z; rw [h1] at ha; cases ha)]; exact ha, fun a ob vs ha na => ⟨by rw [upd_ne (fun z => by subst z; exact na hd')]; exact ha, na⟩⟩
  refine ⟨h1, ext, e0, hs.write hi' ?_⟩
  have ok := hs.ob n d ob hi' ho
  cases ob with
  | lst ds => cases hl
  | ro ds =>
    cases hl
    obtain ⟨o2, vs, h2, r⟩ := ok
    rw [h1] at h2; cases h2
    exact ⟨vs, upd_same, r.mono0 e0⟩
  | dK lk kvs =>
    cases lk with
    | false => cases hl
    | true =>
      cases hl
      obtain ⟨o2, ws, h2, r⟩ := ok
      rw [h1] at h2; cases h2
      exact ⟨ws, upd_same, r.mono0 e0⟩
  | dT lk kvs =>
    cases lk with
    | false => cases hl
    | true =>
      cases hl
      obtain ⟨o2, ws, h2, r⟩ := ok
      rw [h1] at h2; cases h2
      exact ⟨ws, upd_same, r.mono0 e0⟩
  | ins c fs => cases hl
  | exc c => cases hl
theorem RelEv.mono0 {K : PySem.W.Frag} {mu mu' : List Addr} {H H' : Hp} {σ : L2.St} {ev : Ev} (r : RelEv K H mu σ ev) (e : Ext0 mu H mu' H') : RelEv K H' mu' σ ev :=
  ⟨r.1, fun i d h => let ⟨v, a, b⟩ := r.2 i d h; ⟨v, a, b.mono0 e⟩⟩
/-! the iterators of locked things -/
theorem iter_ro {K : PySem.W.Frag} {H0 : Hp} {d : Addr} {od : Obj} {vs : List V} {ds : List D} : IterOk K H0 (Itl K d) ds (fun H mu => H d = some (.frz od (.lst vs)) ∧ Rps K H mu vs ds) := by
  refine ⟨?_, ?_, ?_, ?_, ?_⟩
  · rintro H mu i x ⟨h1, h2⟩ hx
    obtain ⟨v, hv, _⟩ := h2.get hx
    exact ⟨vs, v, .inl (.inr ⟨od, h1⟩), hv⟩
  · rintro H mu st i x v H' hst ⟨h1, h2⟩ hx ⟨e, hy⟩
    subst e
    obtain ⟨w, hw, rw'⟩ := h2.get hx
    have := hy vs (.inl (.inr ⟨od, h1⟩))
    rw [hw] at this
    cases this
    exact ⟨.refl, rw', hst⟩
  · rintro H mu ⟨h1, h2⟩
    exact ⟨vs, .inl (.inr ⟨od, h1⟩), Nat.le_of_eq (Rps.length h2)⟩
  · rintro H mu H' mu' ⟨h1, h2⟩ e
    exact ⟨e.frz _ _ _ h1, h2.mono e⟩
  · rintro H mu q' l l' ⟨h1, h2⟩ _ hq _
    exact ⟨by rw [upd_ne (fun e => by subst e; rw [hq] at h1; cases h1)]; exact h1, h2.mono0 (ext0_tmp hq)⟩
theorem iter_dK {K : PySem.W.Frag} {H0 : Hp} {d : Addr} {od : Obj} {ws : List (Key × V)} {ks : List Key} (hk : ws.map (·.1) = ks) : IterOk K H0 (Itk d od ws) (ks.map keyD) (fun H mu => H d = some (.frz od (.dK ws))) := by
  have hl : ws.length = ks.length := by rw [← hk, List.length_map]
  have get : ∀ {i x}, (ks.map keyD)[i]? = some x → ∃ k v, ws[i]? = some (k, v) ∧ x = keyD k := fun {i x} h => by
    rw [← hk, List.map_map, List.getElem?_map] at h
    cases e : ws[i]? with
    | none => rw [e] at h; cases h
    | some z =>
      rw [e] at h
      obtain ⟨k, v⟩ := z
      exact ⟨k, v, e, (Option.some.inj h).symm⟩
  refine ⟨?_, ?_, ?_, ?_, ?_⟩
  · rintro H mu i x h1 hx
    obtain ⟨k, v, e, _⟩ := get hx
    exact ⟨h1, (List.getElem?_eq_some_iff.mp e).1⟩
  · rintro H mu st i x v H' hst h1 hx ⟨e, k, v', hk', rfl⟩
    subst e
    obtain ⟨k2, v2, e2, rfl⟩ := get hx
    rw [hk'] at e2; cases e2
    refine ⟨.refl, ?_, hst⟩
    cases k with
    | inl i => exact .int i
    | inr x => exact .str x
  · rintro H mu h1
    exact ⟨h1, by rw [List.length_map, hl]; exact Nat.le_refl _⟩
  · rintro H mu H' mu' h1 e
    exact e.frz _ _ _ h1
  · rintro H mu q' l l' h1 _ hq _
    show upd H q' (.lst l') d = _
    rw [upd_ne (fun e => by subst e; rw [hq] at h1; cases h1)]
    exact h1
theorem iter_dT {K : PySem.W.Frag} {H0 : Hp} {d : Addr} {od : Obj} {ws : List (List Key × V)} {ks : List (List Key)} (hk : ws.map (·.1) = ks) : IterOk K H0 (Itkt d od ws) (ks.map fun (k : List Key) => D.tup (k.map keyD)) (fun H mu => H d = some (.frz od (.dT ws))) := by
  have hl : ws.length = ks.length := by rw [← hk, List.length_map]
  have get : ∀ {i x}, (ks.map fun (k : List Key) => D.tup (k.map keyD))[i]? = some x → ∃ (k : List Key) (v : V), ws[i]? = some (k, v) ∧ x = D.tup (k.map keyD) := fun {i x} h => by
    rw [← hk, List.map_map, List.getElem?_map] at h
    cases e : ws[i]? with
    | none => rw [e] at h; cases h
    | some z =>
      rw [e] at h
      obtain ⟨k, v⟩ := z
      exact ⟨k, v, e, (Option.some.inj h).symm⟩
  have rk : ∀ {K H mu} (k : List Key), Rps K H mu (k.map kV) (k.map keyD) := fun {K H mu} k => by
    induction k with
    | nil => exact .nil
    | cons x xs ih =>
      refine .cons ?_ ih
      cases x with
      | inl i => exact .int i
      | inr z => exact .str z
  refine ⟨?_, ?_, ?_, ?_, ?_⟩
  · rintro H mu i x h1 hx
    obtain ⟨k, v, e, _⟩ := get hx
    exact ⟨h1, (List.getElem?_eq_some_iff.mp e).1⟩
  · rintro H mu st i x v H' hst h1 hx ⟨e, k, v', q, hk', rfl, hq⟩
    subst e
    obtain ⟨k2, v2, e2, rfl⟩ := get hx
    rw [hk'] at e2; cases e2
    exact ⟨.refl, .tup (.inl hq) (rk k), hst⟩
  · rintro H mu h1
    exact ⟨h1, by rw [List.length_map, hl]; exact Nat.le_refl _⟩
  · rintro H mu H' mu' h1 e
    exact e.frz _ _ _ h1
  · rintro H mu q' l l' h1 _ hq _
    show upd H q' (.lst l') d = _
    rw [upd_ne (fun e => by subst e; rw [hq] at h1; cases h1)]
    exact h1
/-- a locked thing walked: the three kinds -/
inductive Kd where
  | lst | dK | dT
def itemsK (k : Kd) (ob : Ob) : Option (List D) := match k, ob with
  | .lst, .ro ds => if ds.length ≤ lim then some ds else none
  | .dK, .dK true kvs => if kvs.length ≤ lim then some ((kvs.map (·.1)).map keyD) else none
  | .dT, .dT true kvs => if kvs.length ≤ lim then some ((kvs.map (·.1)).map fun k => D.tup (k.map keyD)) else none
  | _, _ => none
def mItK (k : Kd) (ma : Mo D) : Mo (List D) := fun ev st => (ma ev st).bind fun d st1 => match d with
  | .ref j => (match st1[j]? with
    | some ob => (match itemsK k ob with
      | some ds => .ok ds st1
      | none => .bad)
    | none => .bad)
  | _ => .bad
theorem KD.keys {κ : Type} {K : PySem.W.Frag} {H : Hp} {mu : List Addr} {ws : List (κ × V)} {kvs : List (κ × D)} (h : KD K H mu ws kvs) : ws.map (·.1) = kvs.map (·.1) := by
  unfold KD at h
  induction h with
  | nil => rfl
  | cons r t ih => rw [List.map_cons, List.map_cons, ih, r.1]
theorem mi_lst {tg : Expr} (h : PE X e (tE X.K W ma)) : PI X tg e (tI X.K W (mItK .lst ma)) := by
  refine PI.imp (pi_list h) fun σ H Q ⟨mu, ev, st, he, hs, hp⟩ => ?_
  refine ⟨mu, ev, st, he, hs, hp.bind fun d st1 mu1 x H1 _ e1 r1 s1 hp1 => ?_⟩
  split at hp1
  · cases r1 with
    | ref hi =>
      obtain ⟨ob, ho, ok⟩ := s1.at hi
      rw [ho] at hp1
      simp only at hp1
      split at hp1
      · rename_i ds hds
        cases ob with
        | ro l =>
          simp only [itemsK] at hds
          split at hds
          · rename_i hl
            cases hds
            obtain ⟨od, vs, hv, rs⟩ := ok
            exact ⟨_, rfl, ⟨vs, .inl (.inr ⟨od, hv⟩)⟩, hp1 _ _ _ .refl ⟨hl, _, iter_ro, hv, rs⟩ s1⟩
          · cases hds
        | lst l => cases hds
        | dK lk l => cases hds
        | dT lk l => cases hds
        | ins c l => cases hds
        | exc c => cases hds
      · exact hp1.elim
  · exact hp1.elim
theorem mi_dK {tg : Expr} (h : PE X e (tE X.K W ma)) : PI X tg e (tI X.K W (mItK .dK ma)) := by
  refine PI.imp (pi_keys h) fun σ H Q ⟨mu, ev, st, he, hs, hp⟩ => ?_
  refine ⟨mu, ev, st, he, hs, hp.bind fun d st1 mu1 x H1 _ e1 r1 s1 hp1 => ?_⟩
  split at hp1
  · cases r1 with
    | ref hi =>
      obtain ⟨ob, ho, ok⟩ := s1.at hi
      rw [ho] at hp1
      simp only at hp1
      split at hp1
      · rename_i ds hds
        cases ob with
        | dK lk l =>
          cases lk with
          | false => cases hds
          | true =>
            simp only [itemsK] at hds
            split at hds
            · rename_i hl
              cases hds
              obtain ⟨od, ws, hv, rs⟩ := ok
              exact ⟨_, od, rfl, .inl ⟨ws, hv, hp1 _ _ _ .refl ⟨by rw [List.length_map, List.length_map]; exact hl, _, iter_dK rs.keys, hv⟩ s1⟩⟩
            · cases hds
        | lst l => cases hds
        | ro l => cases hds
        | dT lk l => cases hds
        | ins c l => cases hds
        | exc c => cases hds
      · exact hp1.elim
  · exact hp1.elim
theorem mi_dT {tg : Expr} (h : PE X e (tE X.K W ma)) : PI X tg e (tI X.K W (mItK .dT ma)) := by
  refine PI.imp (pi_keys h) fun σ H Q ⟨mu, ev, st, he, hs, hp⟩ => ?_
  refine ⟨mu, ev, st, he, hs, hp.bind fun d st1 mu1 x H1 _ e1 r1 s1 hp1 => ?_⟩
  split at hp1
  · cases r1 with
    | ref hi =>
      obtain ⟨ob, ho, ok⟩ := s1.at hi
      rw [ho] at hp1
      simp only at hp1
      split at hp1
      · rename_i ds hds
        cases ob with
        | dT lk l =>
          cases lk with
          | false => cases hds
          | true =>
            simp only [itemsK] at hds
            split at hds
            · rename_i hl
              cases hds
              obtain ⟨od, ws, hv, rs⟩ := ok
              exact ⟨_, od, rfl, .inr ⟨ws, hv, hp1 _ _ _ .refl ⟨by rw [List.length_map, List.length_map]; exact hl, _, iter_dT rs.keys, hv⟩ s1⟩⟩
            · cases hds
        | lst l => cases hds
        | ro l => cases hds
        | dK lk l => cases hds
        | ins c l => cases hds
        | exc c => cases hds
      · exact hp1.elim
  · exact hp1.elim
/-- a new list walked -/
theorem iter_new {K : PySem.W.Frag} {H0 : Hp} {q : Addr} {vs : List V} {ds : List D} (h0 : H0 q ≠ none) : IterOk K H0 (Itl K q) ds (fun H mu => H q = some (.lst vs) ∧ q ∉ mu ∧ Rps K H mu vs ds) := by
  refine ⟨?_, ?_, ?_, ?_, ?_⟩
  · rintro H mu i x ⟨h1, _, h2⟩ hx
    obtain ⟨v, hv, _⟩ := h2.get hx
    exact ⟨vs, v, .inl (.inl h1), hv⟩
  · rintro H mu st i x v H' hst ⟨h1, _, h2⟩ hx ⟨e, hy⟩
    subst e
    obtain ⟨w, hw, rw'⟩ := h2.get hx
    have := hy vs (.inl (.inl h1))
    rw [hw] at this
    cases this
    exact ⟨.refl, rw', hst⟩
  · rintro H mu ⟨h1, _, h2⟩
    exact ⟨vs, .inl (.inl h1), Nat.le_of_eq (Rps.length h2)⟩
  · rintro H mu H' mu' ⟨h1, hn, h2⟩ e
    have k := e.keep _ _ h1 hn
    exact ⟨k.1, k.2, h2.mono e⟩
  · rintro H mu q' l l' ⟨h1, hn, h2⟩ hq0 hq hqn
    exact ⟨by rw [upd_ne (fun e => by subst e; exact h0 hq0)]; exact h1, hn, h2.mono0 (ext0_tmp hq)⟩
def mItN (mr : Mo (List D)) : Mo (List D) := fun ev st => (mr ev st).bind fun ds st1 => if ds.length ≤ lim then .ok ds st1 else .bad
theorem mi_new {tg : Expr} (h : PE X e (tL X.K W mr)) : PI X tg e (tI X.K W (mItN mr)) := by
  refine PI.imp (pi_list h) fun σ H Q ⟨mu, ev, st, he, hs, hp⟩ => ?_
  refine ⟨mu, ev, st, he, hs, hp.bind fun ds st1 mu1 x H1 _ e1 r1 s1 hp1 => ?_⟩
  obtain ⟨q, vs, rfl, h0, hq, hn, rs⟩ := r1
  split at hp1
  · rename_i hl
    exact ⟨q, rfl, ⟨vs, .inl (.inl hq)⟩, hp1 _ _ _ .refl ⟨hl, _, iter_new (by rw [hq]; simp), hq, hn, rs⟩ s1⟩
  · exact hp1.elim
/-! locks -/
def unl {α : Type} (n : Nat) (r : Rs α) : Rs α := match r with
  | .ok z st' => (match st'[n]? with
    | some ob => (match unlockO ob with
      | some ob' => .ok z (st'.set n ob')
      | none => .bad)
    | none => .bad)
  | _ => .bad
def lockN {α : Type} (ma : Mo D) (m : Mo α) : Mo α := fun ev st => match ma ev st with
  | .ok (.ref n) _ => (match st[n]? with
    | some ob => (match lockO ob with
      | some ob' => unl n (m ev (st.set n ob'))
      | none => .bad)
    | none => .bad)
  | _ => .bad
theorem mut_kinds {K : PySem.W.Frag} {H : Hp} {mu : List Addr} {d : Addr} {ob ob' : Ob} {u : HO} (ok : ObOk K H mu d ob) (hl : lockO ob = some ob') (hu : H d = some u) : (∃ vs, u = .lst vs) ∨ (∃ ws, u = .dK ws) ∨ ∃ ws, u = .dT ws := by
  cases ob with
  | ro ds => cases hl
  | lst ds => obtain ⟨vs, h1, _⟩ := ok; rw [h1] at hu; cases hu; exact .inl ⟨_, rfl⟩
  | dK lk kvs =>
    cases lk with
    | true => cases hl
    | false => obtain ⟨ws, h1, _⟩ := ok; rw [h1] at hu; cases hu; exact .inr (.inl ⟨_, rfl⟩)
  | dT lk kvs =>
    cases lk with
    | true => cases hl
    | false => obtain ⟨ws, h1, _⟩ := ok; rw [h1] at hu; cases hu; exact .inr (.inr ⟨_, rfl⟩)
  | ins c fs => cases hl
  | exc c => cases hl
theorem lock_open {K : PySem.W.Frag} {H : Hp} {mu : List Addr} {ev : Ev} {st : Sto} {α : Type} {m : Mo α} (hs : RelSt K H mu st) {P : Rs α → Prop} (hbad : ¬ P .bad) (h : P (lockN ma m ev st)) :
    ∃ n d ob ob', mu[n]? = some d ∧ st[n]? = some ob ∧ lockO ob = some ob' ∧ P (unl n (m ev (st.set n ob'))) := by
  unfold lockN at h
  split at h
  · rename_i n _ _
    split at h
    · rename_i ob ho
      split at h
      · rename_i ob' hl
        have hn : n < mu.length := by rw [hs.len]; exact (List.getElem?_eq_some_iff.mp ho).1
        exact ⟨n, mu[n], ob, ob', List.getElem?_eq_getElem hn, ho, hl, h⟩
      · exact absurd h hbad
    · exact absurd h hbad
  · exact absurd h hbad
theorem ms_lock {st : Stmt} (h : PS X st (tS X.K W s1)) : PS X st (tS X.K W (lockN ma s1)) := by
  refine PS.imp (ps_lock h) fun D σ H ⟨mu, ev, st, he, hs, hp⟩ => ?_
  obtain ⟨n, d, ob, ob', hi, ho, hl, hp⟩ := lock_open (P := fun r => PostS X.K W mu H r D) hs (fun z => z) hp
  obtain ⟨u, hu, mt, hod, nf, nt⟩ := lock_rel hs hi ho hl
  have kd := mut_kinds (hs.ob n d ob hi ho) hl hu
  refine ⟨d, u, hu, mt, fun od => ⟨mu, ev, st.set n ob', he.mono0 (hod od).1, (hod od).2, ?_⟩⟩
  cases hr : s1 ev (st.set n ob') with
  | bad => rw [hr] at hp; exact hp
  | exc c e s => rw [hr] at hp; exact hp.elim
  | ok z st' =>
    obtain ⟨fl, ev'⟩ := z
    rw [hr] at hp
    unfold unl at hp
    simp only at hp
    split at hp
    · rename_i o2 ho2
      split at hp
      · rename_i o3 ho3
        intro mu' σ' H' e' he' hs'
        obtain ⟨k1, k2, k3, k4⟩ := unlock_rel hu nf nt hi e' hs' ho2 ho3 kd
        have fin := hp mu' σ' (upd H' d u) k2 (he'.mono0 k3) k4
        cases fl with
        | nx => exact ⟨k1, fin⟩
        | bk => exact ⟨k1, fin⟩
        | ct => exact ⟨k1, fin⟩
        | rt d0 => exact fun v rv => ⟨k1, fin v (rv.mono0 k3)⟩
      · exact hp.elim
    · exact hp.elim
theorem ml_lock (h : PE X e (tL X.K W mr)) : PE X e (tL X.K W (lockN ma mr)) := by
  refine PE.imp (pe_lock h) fun σ H Q ⟨mu, ev, st, he, hs, hp⟩ => ?_
  obtain ⟨n, d, ob, ob', hi, ho, hl, hp⟩ := lock_open (P := fun r => Post X.K W (RL X.K) mu H r Q) hs (fun z => z) hp
  obtain ⟨u, hu, mt, hod, nf, nt⟩ := lock_rel hs hi ho hl
  have kd := mut_kinds (hs.ob n d ob hi ho) hl hu
  refine ⟨d, u, hu, mt, fun od => ⟨mu, ev, st.set n ob', he.mono0 (hod od).1, (hod od).2, ?_⟩⟩
  cases hr : mr ev (st.set n ob') with
  | bad => rw [hr] at hp; exact hp
  | exc c e s => rw [hr] at hp; exact hp.elim
  | ok ds st' =>
    rw [hr] at hp
    unfold unl at hp
    simp only at hp
    split at hp
    · rename_i o2 ho2
      split at hp
      · rename_i o3 ho3
        intro mu' x H' e' ⟨q, vs, ex, h0, hq, hn, rs⟩ hs'
        obtain ⟨k1, k2, k3, k4⟩ := unlock_rel hu nf nt hi e' hs' ho2 ho3 kd
        have ne : q ≠ d := fun z => by subst z; rw [k1] at hq; cases hq
        refine ⟨k1, hp mu' x (upd H' d u) k2 ⟨q, vs, ex, by rwa [upd_ne ne] at h0, by rw [upd_ne ne]; exact hq, hn, rs.mono0 k3⟩ k4⟩
      · exact hp.elim
    · exact hp.elim
/-! sorted(d), sorted(t), sum(t) -/
def RQT (K : PySem.W.Frag) : RR V (List D) := ⟨fun _ H mu _ v ds => ∃ p vs, v = .ref p ∧ SqT K H p vs ∧ Rps K H mu vs ds, fun _ h => h⟩
abbrev tQT (K : PySem.W.Frag) (W : Wx) (m : Mo (List D)) : TE := tG K W (RQT K) m
def mTupOf (m : Mo D) : Mo (List D) := fun ev st => (m ev st).bind fun d st1 => match d with
  | .tup ds => .ok ds st1
  | _ => .bad
theorem mqt_of (h : PE X e (tE X.K W ma)) : PE X e (tQT X.K W (mTupOf ma)) := by
  refine PE.imp h fun σ H Q ⟨mu, ev, st, he, hst, hp⟩ => ?_
  refine ⟨mu, ev, st, he, hst, hp.bind fun d st1 mu1 x H1 _ e1 r1 s1 hp1 => ?_⟩
  split at hp1
  · cases r1 with
    | tup h hs => exact hp1 _ _ _ .refl ⟨_, _, rfl, h.sq, hs⟩ s1
  · exact hp1.elim
theorem me_sumT (hg : Gl X "sum") (hm : X.mg "sum" = none) (hc : X.calm = true) (ha : PE X e (tE X.K W ma)) (he : starEach [e] X.env = (false, eval e X.env) :: starEach [] X.env := by rfl) : PE X (.Call (.Name "sum" p) [e] [] pos) (tE X.K W (mQ gSum (mTupOf ma))) := by
  refine PE.imp (pe_callB (cr_sumT hc) hg hm bt_sum (pa_cons (mqt_of ha) pa_nil he) (by decide) (by decide) he rfl) fun σ H Q ⟨mu, ev, st, he, hst, hp⟩ => ?_
  refine ⟨mu, ev, st, he, hst, hp.bind fun ds st1 mu1 x H1 _ e1 r1 s1 hp1 => ?_⟩
  obtain ⟨q, vs, rfl, sq, rs⟩ := r1
  unfold gSum at hp1
  cases hq : intsOf ds with
  | none => rw [hq] at hp1; exact hp1.elim
  | some ns =>
    rw [hq] at hp1
    exact ⟨q, ns, rfl, by rw [← Rps.ints rs hq]; exact sq, hp1 _ _ _ .refl (.int _) s1⟩
theorem ml_sortedT (hg : Gl X "sorted") (hm : X.mg "sorted" = none) (ha : PE X e (tE X.K W ma)) (he : starEach [e] X.env = (false, eval e X.env) :: starEach [] X.env := by rfl) : PE X (.Call (.Name "sorted" p) [e] [] pos) (tL X.K W (mQ gSorted (mTupOf ma))) := by
  refine PE.imp (pe_callB cr_sortedTup hg hm bt_sorted (pa_cons (mqt_of ha) pa_nil he) (by decide) (by decide) he rfl) fun σ H Q ⟨mu, ev, st, he, hst, hp⟩ => ?_
  refine ⟨mu, ev, st, he, hst, hp.bind fun ds st1 mu1 x H1 _ e1 r1 s1 hp1 => ?_⟩
  obtain ⟨q, vs, rfl, sq, rs⟩ := r1
  unfold gSorted at hp1
  cases hq : intsOf ds with
  | none => rw [hq] at hp1; exact hp1.elim
  | some ns =>
    rw [hq] at hp1
    refine ⟨q, ns, rfl, by rw [← Rps.ints rs hq]; exact sq, fun ns' p' hp hsd hn => ?_⟩
    have e1 : ns' = sortI ns := sorted_one (hp.trans (sortI_perm ns).symm) hsd (sortI_sorted ns)
    subst e1
    exact hp1 _ _ _ (ext_new hn _) ⟨p', _, rfl, hn, upd_same, s1.fresh hn, Rps.of_ints _⟩ (s1.new hn _)
/-- the keys of a dict, whole numbers -/
def keyInts : List Key → Option (List Int)
  | [] => some []
  | .inl i :: ks => (keyInts ks).map (i :: ·)
  | _ => none
theorem keyInts_eq : ∀ {ks : List Key} {ns : List Int}, keyInts ks = some ns → ks = ns.map Sum.inl
  | [], ns, h => by cases h; rfl
  | .inl i :: ks, ns, h => by
    simp only [keyInts] at h
    cases hq : keyInts ks with
    | none => rw [hq] at h; cases h
    | some ms => rw [hq] at h; cases h; rw [keyInts_eq hq]; rfl
  | .inr x :: ks, ns, h => by cases h
def mSortedD (ma : Mo D) : Mo (List D) := fun ev st => (ma ev st).bind fun d st1 => match d with
  | .ref j => (match st1[j]? with
    | some (.dK _ kvs) => (match keyInts (kvs.map (·.1)) with
      | some ns => .ok ((sortI ns).map D.int) st1
      | none => .bad)
    | _ => .bad)
  | _ => .bad
theorem ml_sortedD (hg : Gl X "sorted") (hm : X.mg "sorted" = none) (hc : X.calm = true) (ha : PE X e (tE X.K W ma)) (he : starEach [e] X.env = (false, eval e X.env) :: starEach [] X.env := by rfl) : PE X (.Call (.Name "sorted" p) [e] [] pos) (tL X.K W (mSortedD ma)) := by
  refine PE.imp (pe_callB (cr_sortedDict hc) hg hm bt_sorted (pa_cons ha pa_nil he) (by decide) (by decide) he rfl) fun σ H Q ⟨mu, ev, st, he, hst, hp⟩ => ?_
  refine ⟨mu, ev, st, he, hst, hp.bind fun d st1 mu1 x H1 _ e1 r1 s1 hp1 => ?_⟩
  split at hp1
  · cases r1 with
    | ref hi =>
      obtain ⟨ob, ho, ok⟩ := s1.at hi
      rw [ho] at hp1
      split at hp1
      · rename_i lk kvs eq; cases eq
        obtain ⟨ws, hw, hkd⟩ : ∃ ws, Rd H1 _ (.dK ws) ∧ KD X.K H1 mu1 ws kvs := by
          cases lk with
          | true => obtain ⟨od, ws, h1, h2⟩ := ok; exact ⟨ws, .inr ⟨od, h1⟩, h2⟩
          | false => obtain ⟨ws, h1, h2⟩ := ok; exact ⟨ws, .inl h1, h2⟩
        split at hp1
        · rename_i ns hns
          refine ⟨_, ws, ns, rfl, hw, hkd.keys.trans (keyInts_eq hns), fun ns' p' hp hsd hn => ?_⟩
          have e1 : ns' = sortI ns := sorted_one (hp.trans (sortI_perm ns).symm) hsd (sortI_sorted ns)
          subst e1
          exact hp1 _ _ _ (ext_new hn _) ⟨p', _, rfl, hn, upd_same, s1.fresh hn, Rps.of_ints _⟩ (s1.new hn _)
        · exact hp1.elim
      · exact hp1.elim
  · exact hp1.elim
end Ml

namespace Ml
open PySem L2
variable {X : Cx} {W : Wx} {a b c e o i : Expr} {es rest : List Expr} {pos p q apos cpos pos' : Pos} {ma mb mc mk mx mv : Mo D} {mr mq : Mo (List D)} {ta tb : Mo Bool} {s1 s2 : Ms}
/-! ### a dict display of one pair, the key a tuple of whole numbers -/
def tDisp1T (tk tv : TE) : TE := fun σ H Q => ∀ p, H p = none → tPairs [(tk, tv)] σ (upd H p (.dT [])) fun ps H2 => H2 p = some (.dT []) ∧ ∃ (ks : List Key) (b : Addr) (v : V), ps = [(.ref b, v)] ∧ H2 b = some (.tup (ks.map kV)) ∧ Q (.ref p) (upd H2 p (.dT [(ks, v)]))
theorem pe_disp1T {k v : Expr} {tk tv : TE} (hu : X.A.units + 1 < cLine) (hk : PE X k tk) (hv : PE X v tv) : PE X (.Dict [some k] [v] pos) (tDisp1T tk tv) := by
  refine ⟨fun pins s σ H Q I q => ?_⟩
  have hn := I.hok.fresh (Nat.le_refl s.heap.objs.size)
  have I1 := I.laid (a := s.heap.objs.size) (o := .dT []) (h' := s.heap.push { cls := .type "dict", data := .dict #[] }) (t' := s.toks) (fun _ _ q => Heap.get?_push_of_some _ q) (Nat.le_refl _) (dt_empty s.heap I.big)
  have h : PPs X pos [some k] [v] [(tk, tv)] := pps_cons hk hv pps_nil
  rw [arm_eval_Dict, zip_pairTrees [some k] [v] X.env pos rfl rfl, dictDisplay_pairs (pairTrees [some k] [v] X.env pos) (by intro z; cases z) (by show 1 < 17; decide)]
  refine wpAny_bind (wpAny_standAt (wpAny_bind (wpAny_subDictH (knd := tupleKind (mixKind X.prog X.w)) (show X.A.units < cLine by omega) (by show 1 ≤ 15; decide)
    (thn (h.run pins _ σ _ _ I1 (q _ hn)) fun ws s2 ⟨ps, H2, I2, rel, e, ks, b, v', ep, eb, q2⟩ => ?_))))
  subst ep
  cases rel with
  | @cons p w ps ws h1 h2 =>
  cases h2
  obtain ⟨w1, w2⟩ := w
  cases (show w1 = Value.ref b from h1.1)
  obtain ⟨z, hd, xs0, r0, dd⟩ := dt_of I2.hok e
  cases r0
  refine ⟨[(ks, b, w2)], ⟨rfl, rfl, key_of I2.hok eb, True.intro⟩, dd, fun h' tk dd' hs => wpAny_pure ⟨.ref s.heap.objs.size, _, ?_, rfl, q2⟩⟩
  obtain ⟨q, es, ep, hq, g2, g3, g4, _, g5⟩ := dd'
  refine d_write I2 (by rw [e]; exact True.intro) hs ⟨q, hq⟩ ⟨by rw [sizeLine_eq, List.length_singleton]; decide, hd, [(ks, b, w2)], .cons ⟨rfl, ?_, h1.2⟩ .nil, q, es, ep, hq, g2, g3, g4, g5⟩
  rw [upd_ne (ne_of eb e (fun z => nomatch z))]
  exact eb
theorem ext0_tmpT {H : Hp} {mu : List Addr} {q : Addr} {l : List (List Key × V)} {o : HO} (h : H q = some (.dT l)) : Ext0 mu H mu (upd H q o) :=
  ⟨⟨[], by simp⟩, fun a vs ha => by rw [upd_ne (fun e => by subst e; rw [h] at ha; cases ha)]; exact ha, fun a o vs ha n => ⟨by rw [upd_ne (fun e => by subst e; rw [h] at ha; cases ha)]; exact ha, n⟩⟩
theorem RelSt.tmpT {K : PySem.W.Frag} {H : Hp} {mu : List Addr} {st : Sto} (r : RelSt K H mu st) {q : Addr} {l : List (List Key × V)} {o : HO} (h : H q = some (.dT l)) (hn : q ∉ mu) : RelSt K (upd H q o) mu st :=
  ⟨r.len, r.nd, fun i a ob h1 h2 => (r.ob i a ob h1 h2).mono0 (ext0_tmpT h) (upd_ne fun e => hn (e ▸ List.mem_of_getElem? h1))⟩
def mDict1T (mk mv : Mo D) : Mo (List (List Key × D)) := fun ev st => (mk ev st).bind fun k st1 => (mv ev st1).bind fun v st2 => match keysOf k with
  | some ks => .ok [(ks, v)] st2
  | none => .bad
theorem md_disp1T {k v : Expr} (hu : X.A.units + 1 < cLine) (hk : PE X k (tE X.K W mk)) (hv : PE X v (tE X.K W mv)) : PE X (.Dict [some k] [v] pos) (tDT X.K W (mDict1T mk mv)) := by
  refine PE.imp (pe_disp1T hu hk hv) fun σ H Q ⟨mu, ev, st, he, hst, hp⟩ => ?_
  intro q hq
  have e0 : Ext mu H mu (upd H q (.dT [])) := ext_new hq _
  unfold mDict1T at hp
  refine ⟨mu, ev, st, he.mono e0, hst.new hq _, ?_⟩
  cases hr : mk ev st with
  | bad => rw [hr] at hp; exact hp
  | exc c e s => rw [hr] at hp; exact fun mu' σ' H' e' => hp mu' σ' H' (e0.trans e')
  | ok k1 st1 =>
    rw [hr] at hp
    intro mu1 x H1 e1 r1 s1
    refine ⟨mu1, ev, st1, (he.mono e0).mono e1, s1, ?_⟩
    simp only [Rs.bind_ok] at hp
    cases hr2 : mv ev st1 with
    | bad => rw [hr2] at hp; exact hp
    | exc c e s => rw [hr2] at hp; exact fun mu' σ' H' e' => hp mu' σ' H' (e0.trans (e1.trans e'))
    | ok v1 st2 =>
      rw [hr2] at hp
      simp only [Rs.bind_ok] at hp
      intro mu2 y H2 e2 r2 s2
      have k2 := (e1.trans e2).keep q _ upd_same (hst.fresh hq)
      refine ⟨k2.1, ?_⟩
      split at hp
      · rename_i ks hks
        obtain ⟨b, rfl, hb⟩ := keys_rel (Rp.mono e2 r1) hks
        refine ⟨ks, b, y, rfl, hb, ?_⟩
        refine hp mu2 (.ref q) _ (ext_tmp (e0.trans (e1.trans e2)) hq) ⟨q, _, rfl, hq, upd_same, k2.2, ?_⟩ (s2.tmpT k2.1 k2.2)
        exact .cons ⟨rfl, r2.mono0 (ext0_tmpT k2.1)⟩ .nil
      · exact hp.elim
/-! ### lists as operands: new ones, or those of the store -/
inductive Lo where
  | r (d : D) | n (ds : List D)
def loR (K : PySem.W.Frag) (H0 H : Hp) (mu : List Addr) (st : Sto) (v : V) : Lo → Prop
  | .r d => Rp K H mu v d
  | .n ds => (RL K).r H0 H mu st v ds
def RX (K : PySem.W.Frag) : RR V Lo := ⟨fun H0 H mu st v z => loR K H0 H mu st v z, fun {_ _ _ _ _ _ _ _ z} e h => by
    cases z with
    | r d => exact h
    | n ds => exact (RL K).anti e h⟩
abbrev tX (K : PySem.W.Frag) (W : Wx) (m : Mo Lo) : TE := tG K W (RX K) m
def mLoR (m : Mo D) : Mo Lo := fun ev st => (m ev st).bind fun d st1 => .ok (.r d) st1
def mLoN (m : Mo (List D)) : Mo Lo := fun ev st => (m ev st).bind fun d st1 => .ok (.n d) st1
theorem mx_ref (h : PE X e (tE X.K W ma)) : PE X e (tX X.K W (mLoR ma)) := by
  refine PE.imp h fun σ H Q ⟨mu, ev, st, he, hst, hp⟩ => ?_
  exact ⟨mu, ev, st, he, hst, hp.bind fun d st1 mu1 x H1 _ e1 r1 s1 hp1 => hp1 _ _ _ .refl r1 s1⟩
theorem mx_new (h : PE X e (tL X.K W mr)) : PE X e (tX X.K W (mLoN mr)) := by
  refine PE.imp h fun σ H Q ⟨mu, ev, st, he, hst, hp⟩ => ?_
  unfold mLoN at hp
  refine ⟨mu, ev, st, he, hst, ?_⟩
  cases hr : mr ev st with
  | bad => rw [hr] at hp; exact hp
  | exc c e s => rw [hr] at hp; exact hp
  | ok ds st1 =>
    rw [hr] at hp
    exact fun mu1 x H1 e1 r1 s1 => hp mu1 x H1 e1 r1 s1
/-- what the operand holds, at the end -/
def loAt (st : Sto) : Lo → Option (List D)
  | .r (.ref i) => (match st[i]? with
    | some (.lst ds) => some ds
    | _ => none)
  | .r _ => none
  | .n ds => some ds
theorem lo_rel {K : PySem.W.Frag} {H0 H1 H2 : Hp} {mu1 mu2 : List Addr} {st1 st2 : Sto} {v : V} {z : Lo} {ds : List D} (h : loR K H0 H1 mu1 st1 v z) (e : Ext mu1 H1 mu2 H2) (hs : RelSt K H2 mu2 st2) (hz : loAt st2 z = some ds) :
    ∃ p vs, v = .ref p ∧ H2 p = some (.lst vs) ∧ Rps K H2 mu2 vs ds := by
  cases z with
  | n ds' =>
    cases hz
    obtain ⟨p, vs, rfl, _, hp, hn, rs⟩ := h
    have k := e.keep p _ hp hn
    exact ⟨p, vs, rfl, k.1, rs.mono e⟩
  | r d =>
    unfold loAt at hz
    split at hz
    · rename_i i eq
      cases eq
      have h := Rp.mono e h
      cases h with
      | ref hi =>
        obtain ⟨ob, ho, ok⟩ := hs.at hi
        rw [ho] at hz
        split at hz
        · rename_i ds' eq; cases eq; cases hz
          obtain ⟨vs, h1, h2⟩ := ok
          exact ⟨_, vs, rfl, h1, h2⟩
        · cases hz
    · cases hz
    · rename_i eq; cases eq
variable {xa xb : Mo Lo}
def mCat (xa xb : Mo Lo) : Mo (List D) := fun ev st => (xa ev st).bind fun u st1 => (xb ev st1).bind fun v st2 => match loAt st2 u, loAt st2 v with
  | some ds, some es => if ds.length + es.length ≤ lim then .ok (ds ++ es) st2 else .bad
  | _, _ => .bad
theorem ml_cat (ha : PE X a (tX X.K W xa)) (hb : PE X b (tX X.K W xb)) : PE X (.BinOp a .Add b pos) (tL X.K W (mCat xa xb)) := by
  refine PE.imp (pe_op op_cat ha hb) fun σ H Q ⟨mu, ev, st, he, hst, hp⟩ => ?_
  refine ⟨mu, ev, st, he, hst, hp.bind fun u st1 mu1 x H1 _ e1 r1 s1 hp1 => ?_⟩
  refine ⟨mu1, ev, st1, he.mono e1, s1, hp1.bind fun v st2 mu2 y H2 _ e2 r2 s2 hp2 => ?_⟩
  split at hp2
  · rename_i ds es h1 h2
    obtain ⟨p1, vs, rfl, k1, k2⟩ := lo_rel r1 e2 s2 h1
    obtain ⟨p2, ws, rfl, k3, k4⟩ := lo_rel r2 .refl s2 h2
    split at hp2
    · rename_i hl
      refine ⟨p1, p2, vs, ws, rfl, rfl, k1, k3, ?_, fun p hp => hp2 _ _ _ (ext_new hp _) ⟨p, _, rfl, hp, upd_same, s2.fresh hp, (k2.append k4).mono (ext_new hp _)⟩ (s2.new hp _)⟩
      rw [k2.length, k4.length]; exact lim_le hl
    · exact hp2.elim
  · exact hp2.elim
theorem Rps.rep {K : PySem.W.Frag} {H : Hp} {mu : List Addr} {vs : List V} {ds : List D} (h : Rps K H mu vs ds) : ∀ n, Rps K H mu (List.replicate n vs).flatten (List.replicate n ds).flatten
  | 0 => .nil
  | n + 1 => by
    rw [List.replicate_succ, List.replicate_succ, List.flatten_cons, List.flatten_cons]
    exact h.append (h.rep n)
def mRep (xa : Mo Lo) (mb : Mo D) : Mo (List D) := fun ev st => (xa ev st).bind fun u st1 => (mb ev st1).bind fun v st2 => match loAt st2 u, v with
  | some ds, .int k => if -(2 ^ 63) ≤ k ∧ k < 2 ^ 63 ∧ ds.length * k.toNat ≤ lim then .ok (List.replicate k.toNat ds).flatten st2 else .bad
  | _, _ => .bad
theorem ml_rep (ha : PE X a (tX X.K W xa)) (hb : PE X b (tE X.K W mb)) : PE X (.BinOp a .Mult b pos) (tL X.K W (mRep xa mb)) := by
  refine PE.imp (pe_op op_rep ha hb) fun σ H Q ⟨mu, ev, st, he, hst, hp⟩ => ?_
  refine ⟨mu, ev, st, he, hst, hp.bind fun u st1 mu1 x H1 _ e1 r1 s1 hp1 => ?_⟩
  refine ⟨mu1, ev, st1, he.mono e1, s1, hp1.bind fun v st2 mu2 y H2 _ e2 r2 s2 hp2 => ?_⟩
  split at hp2
  · rename_i ds k h1 _
    obtain ⟨p1, vs, rfl, k1, k2⟩ := lo_rel r1 e2 s2 h1
    cases r2
    split at hp2
    · rename_i hl
      refine ⟨p1, k, vs, rfl, rfl, k1, hl.1, hl.2.1, ?_, fun p hp => hp2 _ _ _ (ext_new hp _) ⟨p, _, rfl, hp, upd_same, s2.fresh hp, (k2.rep _).mono (ext_new hp _)⟩ (s2.new hp _)⟩
      rw [k2.length]; exact lim_le hl.2.2
    · exact hp2.elim
  · exact hp2.elim
/-! list == list -/
theorem lst_shaped {ds : List D} (h : doks 59 ds = true) : SeqAt.shaped (.list (pds ds)) = true := by
  obtain ⟨h1, h2⟩ := doks_can h
  unfold SeqAt.shaped
  rw [show PyData.canLay0 (.list (pds ds)) = true by simpa [PyData.canLay0] using h1, Bool.true_and]
  refine decide_eq_true ?_
  simp only [PyData.depth]
  omega
def leq (ds es : List D) : Bool := PyData.eqv (.list (pds ds)) (.list (pds es))
def mCmpL (f : Bool → Bool) (xa xb : Mo Lo) : Mo D := fun ev st => (xa ev st).bind fun u st1 => (xb ev st1).bind fun v st2 => match loAt st2 u, loAt st2 v with
  | some ds, some es => if doks 59 ds && doks 59 es then .ok (.bl (f (leq ds es))) st2 else .bad
  | _, _ => .bad
theorem cmpL_go (f : Bool → Bool) {σ : L2.St} {H : Hp} {Q : VK} (h : tE X.K W (mCmpL f xa xb) σ H Q) :
    tOp (fun x y H Q => ∃ d e, Dp X.K H x d ∧ Dp X.K H y e ∧ SeqAt.shaped d = true ∧ SeqAt.shaped e = true ∧ Q (.bl (f (PyData.eqv d e))) H) (tX X.K W xa) (tX X.K W xb) σ H Q := by
  obtain ⟨mu, ev, st, he, hst, hp⟩ := h
  refine ⟨mu, ev, st, he, hst, hp.bind fun u st1 mu1 x H1 _ e1 r1 s1 hp1 => ?_⟩
  refine ⟨mu1, ev, st1, he.mono e1, s1, hp1.bind fun v st2 mu2 y H2 _ e2 r2 s2 hp2 => ?_⟩
  split at hp2
  · rename_i ds es h1 h2
    obtain ⟨p1, vs, rfl, k1, k2⟩ := lo_rel r1 e2 s2 h1
    obtain ⟨p2, ws, rfl, k3, k4⟩ := lo_rel r2 .refl s2 h2
    split at hp2
    · rename_i hl
      rw [Bool.and_eq_true] at hl
      exact ⟨_, _, .lst (.inl (.inl k1)) (k2.dp hl.1), .lst (.inl (.inl k3)) (k4.dp hl.2), lst_shaped hl.1, lst_shaped hl.2, hp2 _ _ _ .refl (.bl _) s2⟩
    · exact hp2.elim
  · exact hp2.elim
theorem me_eqL (hu : X.A.units + 64 < cLine) (ha : PE X a (tX X.K W xa)) (hb : PE X b (tX X.K W xb)) : PE X (.Compare a [.Eq] [b] pos) (tE X.K W (mCmpL id xa xb)) :=
  PE.imp (pe_cmpR (op_eqD hu) ha hb (nomark _)) fun _ _ _ h => cmpL_go id h
theorem me_neL (hu : X.A.units + 64 < cLine) (ha : PE X a (tX X.K W xa)) (hb : PE X b (tX X.K W xb)) : PE X (.Compare a [.NotEq] [b] pos) (tE X.K W (mCmpL (!·) xa xb)) :=
  PE.imp (pe_cmpR (op_neD hu) ha hb (nomark _)) fun _ _ _ h => cmpL_go (!·) h
theorem mt_eqL (hu : X.A.units + 64 < cLine) (ha : PE X a (tX X.K W xa)) (hb : PE X b (tX X.K W xb)) : PT X (.Compare a [.Eq] [b] pos) (tT X.K W (mTest (mCmpL id xa xb))) :=
  PT.imp (pt_cmpR (op_eqD hu) ha hb (nomark _)) fun _ _ _ h => cmpL_go id (tst_go h)
theorem mt_neL (hu : X.A.units + 64 < cLine) (ha : PE X a (tX X.K W xa)) (hb : PE X b (tX X.K W xb)) : PT X (.Compare a [.NotEq] [b] pos) (tT X.K W (mTest (mCmpL (!·) xa xb))) :=
  PT.imp (pt_cmpR (op_neD hu) ha hb (nomark _)) fun _ _ _ h => cmpL_go (!·) (tst_go h)
/-! list(t) -/
theorem qs_list {K : PySem.W.Frag} : QS K (RL K) (fun xs H Q => ∃ p ys, xs = [.ref p] ∧ (SqL K H p ys ∨ SqT K H p ys) ∧ ∀ l, H l = none → Q (.ref l) (upd H l (.lst ys))) some := by
  intro mu H st p vs ds d Q hs sq rs e k
  cases e
  exact ⟨p, vs, rfl, .inl sq, fun l hl => k _ _ _ (ext_new hl _) ⟨l, _, rfl, hl, upd_same, hs.fresh hl, rs.mono (ext_new hl _)⟩ (hs.new hl _)⟩
theorem ml_listT (hg : Gl X "list") (hm : X.mg "list" = none) (ha : PE X e (tE X.K W ma)) (he : starEach [e] X.env = (false, eval e X.env) :: starEach [] X.env := by rfl) : PE X (.Call (.Name "list" p) [e] [] pos) (tL X.K W (mTupOf ma)) := by
  refine PE.imp (pe_callTy call_list_of hg hm bt_list (pa_cons (mqt_of ha) pa_nil he) (by decide) (by decide) he rfl) fun σ H Q ⟨mu, ev, st, he, hst, hp⟩ => ?_
  refine ⟨mu, ev, st, he, hst, ?_⟩
  cases hr : mTupOf ma ev st with
  | bad => rw [hr] at hp; exact hp
  | exc c e s => rw [hr] at hp; exact hp
  | ok ds st1 =>
  rw [hr] at hp
  intro mu1 x H1 e1 r1 s1
  have hp1 := Post.from hp e1
  obtain ⟨q, vs, rfl, sq, rs⟩ := r1
  exact ⟨q, vs, rfl, .inr sq, fun l hl => hp1 _ _ _ (ext_new hl _) ⟨l, _, rfl, hl, upd_same, s1.fresh hl, rs.mono (ext_new hl _)⟩ (s1.new hl _)⟩
/-! xs.append(v), xs.extend(ys) of a list of the store -/
def isLst (st : Sto) : D → Bool
  | .ref i => (match st[i]? with
    | some (.lst _) => true
    | _ => false)
  | _ => false
theorem isLst_rel {K : PySem.W.Frag} {H : Hp} {mu : List Addr} {st : Sto} (hs : RelSt K H mu st) {x : V} {d : D} (hx : Rp K H mu x d) (h : isLst st d = true) : tyV K "list" x H := by
  unfold isLst at h
  split at h
  · cases hx with
    | ref hi =>
      obtain ⟨ob, ho, ok⟩ := hs.at hi
      rw [ho] at h
      split at h
      · rename_i ds eq; cases eq
        obtain ⟨vs, h1, h2⟩ := ok
        exact .inl ⟨rfl, _, .inl (.inl h1)⟩
      · cases h
  · cases h
def mAppend (ma mv : Mo D) : Mo D := fun ev st => (ma ev st).bind fun d st1 => if isLst st1 d = true then (mv ev st1).bind fun v st2 => match d with
  | .ref i => (match st2[i]? with
    | some (.lst ds) => if ds.length + 1 ≤ lim then .ok .non (st2.set i (.lst (ds ++ [v]))) else .bad
    | _ => .bad)
  | _ => .bad else .bad
theorem me_append (ho : PE X o (tE X.K W ma)) (hv : PE X e (tE X.K W mv)) (hbase : attributeBase o "append" X.env (eval o X.env) = eval o X.env := by rfl)
    (hfew : ((backTo cpos (starEach [e] X.env)).all (fun x => !x.1) && (backToKw cpos (keywordEach [] X.env)).all (fun x => x.1.isSome)
      && decide ([e].length + ([] : List Keyword).length + (if ([] : List Keyword).isEmpty then 0 else 1) < 30)) = true := by rfl)
    (hline : (apos.endLine == cpos.line) = true := by rfl) (hs : starEach [e] X.env = (false, eval e X.env) :: starEach [] X.env := by rfl) :
    PE X (.Call (.Attribute o "append" apos) [e] [] cpos) (tE X.K W (mAppend ma mv)) := by
  refine PE.imp (pe_bm PySem.F.plainAttrs_list PySem.F.slot_list_append PySem.F.type_list_append mt_append ho (pa_cons hv pa_nil hs) hbase hfew hline hs rfl) fun σ H Q ⟨mu, ev, st, he, hst, hp⟩ => ?_
  refine ⟨mu, ev, st, he, hst, hp.bind fun d st1 mu1 x H1 _ e1 r1 s1 hp1 => ?_⟩
  split at hp1
  · rename_i hl
    refine ⟨isLst_rel s1 r1 hl, ?_⟩
    refine ⟨mu1, ev, st1, he.mono e1, s1, hp1.bind fun v st2 mu2 y H2 _ e2 r2 s2 hp2 => ?_⟩
    have r1 := Rp.mono e2 r1
    split at hp2
    · cases r1 with
      | ref hi =>
        obtain ⟨ob, ho, ok⟩ := s2.at hi
        rw [ho] at hp2
        split at hp2
        · rename_i ds eq; cases eq
          obtain ⟨vs, h1, h2⟩ := ok
          split at hp2
          · rename_i hz
            have e0 : Ext mu2 H2 mu2 (upd H2 _ (.lst (vs ++ [y]))) := ext_write s2 (List.mem_of_getElem? hi) (fun ob w z => by rw [h1] at z; cases z) _
            refine ⟨_, vs, y, rfl, rfl, h1, by rw [h2.length]; exact lim_lt (by omega), ?_⟩
            exact hp2 _ _ _ e0 .non (s2.write hi ⟨_, upd_same, (h2.append (.cons r2 .nil)).mono e0⟩)
          · exact hp2.elim
        · exact hp2.elim
    · exact hp2.elim
  · exact hp1.elim
/-! a list or dict just told by a call is locked for good -/
theorem pe_frz {t : TE} (h : PE X e t) : PE X e (fun σ H Q => t σ H fun x H1 => ∃ d u, H1 d = some u ∧ Mut (some u) ∧ ∀ od, Q x (upd H1 d (.frz od u))) := by
  refine ⟨fun pins s σ H Q I hw => ?_⟩
  refine thn (h.run pins s σ H _ I hw) fun v s1 ⟨x, H1, I1, r, d, u, hd, mu, q⟩ => ?_
  obtain ⟨od, I2⟩ := I1.lock hd mu
  exact ⟨x, _, I2, r, q od⟩
def mFrz (ma : Mo D) : Mo D := fun ev st => (ma ev st).bind fun d st1 => match d with
  | .ref n => (match st1[n]? with
    | some ob => (match lockO ob with
      | some ob' => .ok (.ref n) (st1.set n ob')
      | none => .bad)
    | none => .bad)
  | _ => .bad
theorem me_frz (h : PE X e (tE X.K W ma)) : PE X e (tE X.K W (mFrz ma)) := by
  refine PE.imp (pe_frz h) fun σ H Q ⟨mu, ev, st, he, hst, hp⟩ => ?_
  refine ⟨mu, ev, st, he, hst, hp.bind fun d st1 mu1 x H1 _ e1 r1 s1 hp1 => ?_⟩
  split at hp1
  · cases r1 with
    | ref hi =>
      obtain ⟨ob, ho, ok⟩ := s1.at hi
      rw [ho] at hp1
      simp only at hp1
      split at hp1
      · rename_i ob' hl
        obtain ⟨u, hu, mt, hod, nf, nt⟩ := lock_rel s1 hi ho hl
        refine ⟨_, u, hu, mt, fun od => hp1 mu1 _ _ (ext_write s1 (List.mem_of_getElem? hi) (fun ob w z => by rw [hu] at z; exact nf _ _ (Option.some.inj z)) _) (.ref hi) (hod od).2⟩
      · exact hp1.elim
  · exact hp1.elim
end Ml

namespace Ml
open PySem L2 HT PyProof.Rows
section
variable {prog : Program} {w : World} {A : Around} {E : Value → Shared → Prop} {s : Shared}
/-! ### t[::-1] of a tuple -/
theorem fm_congr {α β : Type} {f g : α → Option β} : ∀ (l : List α), (∀ x ∈ l, f x = g x) → l.filterMap f = l.filterMap g
  | [], _ => rfl
  | x :: l, h => by
    rw [List.filterMap_cons, List.filterMap_cons, h x (List.mem_cons_self ..), fm_congr l fun y hy => h y (List.mem_cons_of_mem _ hy)]
theorem rev_pick (xs : Array Value) : ((List.range xs.size).filterMap fun (m : Nat) => xs[(((xs.size : Int) - 1) + (m : Int) * (-1)).toNat]?).toArray = xs.toList.reverse.toArray := by
  congr 1
  refine List.ext_getElem? fun i => ?_
  have e : (List.range xs.size).filterMap (fun (m : Nat) => xs[(((xs.size : Int) - 1) + (m : Int) * (-1)).toNat]?) = (List.range xs.size).map fun m => xs.toList[xs.size - 1 - m]?.getD .none := by
    rw [← List.filterMap_eq_map]
    refine fm_congr _ fun m hm => ?_
    have hm := List.mem_range.mp hm
    have e1 : (((xs.size : Int) - 1) + (m : Int) * (-1)).toNat = xs.size - 1 - m := by omega
    rw [e1]
    have h2 : xs.size - 1 - m < xs.size := by omega
    simp [h2]
  rw [e]
  by_cases hi : i < xs.size
  · have h2 : xs.size - 1 - i < xs.size := by omega
    simp [hi, h2]
  · simp [hi]
theorem sliceApplied_rev {sl : Addr} {vl vu vs : Value} {n : Nat} {Q : Int × Int × Nat → Shared → Prop} (hs : s.heap.IsSliceOf sl vl vu vs) (pl : IsPart vl none) (pu : IsPart vu none) (ps : IsPart vs (some (-1)))
    (h : Q (((n : Int) - 1), -1, n) s) : wpAny (model prog w) A (Builtin.Slice.sliceApplied (.ref sl) (pure (n : Int))) Q E s := by
  obtain ⟨os, hos, hcs, hds⟩ := id hs
  unfold Builtin.Slice.sliceApplied Builtin.Slice.sliceFields
  refine wpAny_bind (wpAny_bind (wpAny_field hos hds (x := vl) rfl (wpAny_bind (wpAny_field hos hds (x := vu) rfl (wpAny_bind (wpAny_field hos hds (x := vs) rfl (wpAny_pure ?_)))))))
  refine wpAny_bind (slicePart_ ps ?_)
  show wpAny _ _ (if ((-1 : Int) == 0) = true then _ else _) _ _ s
  rw [if_neg (by decide)]
  refine wpAny_bind (slicePart_ pl (wpAny_bind (slicePart_ pu (wpAny_bind (wpAny_pure ?_)))))
  show wpAny _ _ (match Builtin.Slice.sliceAdjust none none (-1) (n : Int) with | (lo, hi) => pure (lo, (-1 : Int), Builtin.Slice.slicePlaces lo hi (-1))) _ _ s
  have e1 : Builtin.Slice.sliceAdjust none none (-1) (n : Int) = ((n : Int) - 1, -1) := by
    unfold Builtin.Slice.sliceAdjust
    simp
  have e2 : Builtin.Slice.slicePlaces ((n : Int) - 1) (-1) (-1) = n := by
    unfold Builtin.Slice.slicePlaces
    have h1 : ¬ ((-1 : Int) > 0) := by decide
    rw [if_neg h1, show (- -1 : Int) = 1 by decide, Int.ediv_one]
    split <;> omega
  rw [e1]
  show wpAny _ _ (pure ((n : Int) - 1, (-1 : Int), Builtin.Slice.slicePlaces ((n : Int) - 1) (-1) (-1))) _ _ s
  rw [e2]
  exact wpAny_pure h
theorem getItem_tuple_rev {t sl : Addr} {items : Array Value} {vl vu vs : Value} {Q : Value → Shared → Prop} (ht : IsTup s.heap t items) (hs : s.heap.IsSliceOf sl vl vu vs) (pl : IsPart vl none) (pu : IsPart vu none) (ps : IsPart vs (some (-1)))
    (h : Q (.ref s.heap.objs.size) { s with heap := s.heap.push { cls := .type "tuple", data := .seq items.toList.reverse.toArray } })
    (hsz : items.size ≤ sizeLine) : wpAny (model prog w) A (getItem (.ref t) (.ref sl)) Q E s := by
  have htake : sizeOk (.seq items.toList.reverse.toArray) := by
    show items.toList.reverse.toArray.size ≤ sizeLine
    rw [List.size_toArray, List.length_reverse, Array.length_toList]
    omega
  obtain ⟨os, hos, hcs, hds⟩ := id hs
  have hTs : s.TypeIs (.ref sl) "slice" := ⟨os, hos, hcs⟩
  unfold getItem
  try with_reducible refine wpAny_holding ?_
  first | refine wpAny_bind (wpAny_pure ?_) | skip
  refine wpAny_bind (wpAny_sequenceKey ht.typeIs (by decide) ?_)
  refine wpAny_bind (wpAny_callSpecial?_slot (name := Str.ofString "__getitem__") ht.typeIs PyProof.Rows.slot_tuple_getitem
    (wpAny_call_entry PyProof.Rows.slot_tuple_getitem ht.typeIs entry_tuple_getitem ?_ (args_tuple_getitem _ _)))
  show wpAny _ _ (Builtin.Tuple.tupleItemsOf (.ref t) >>= _) _ _ s
  refine wpAny_bind (tupleItemsOf_ ht ?_)
  refine wpAny_bind (wpAny_typeOf hTs ?_)
  rw [if_pos (by decide)]
  refine wpAny_bind (sliceApplied_rev hs pl pu ps ?_)
  have hno : ¬ ((((items.size : Int) - 1) == 0 && (-1 : Int) == 1 && items.size == items.size) = true) := by
    intro q
    rw [Bool.and_eq_true, Bool.and_eq_true] at q
    exact absurd q.1.2 (by decide)
  show wpAny _ _ (if (((items.size : Int) - 1) == 0 && (-1 : Int) == 1 && items.size == items.size) = true then _ else _) _ _ s
  rw [if_neg hno, rev_pick]
  first
    | exact wpAny_bind (m := Builtin.Tuple.tupleExact _) (wpAny_newObj_type (wpAny_pure ⟨_, rfl, wpAny_pure h⟩) htake)
    | exact wpAny_bind (m := Builtin.Tuple.tupleExact _) (wpAny_newObj_type (wpAny_bind (wpAny_pure (wpAny_pure ⟨_, rfl, wpAny_pure h⟩))) htake)
    | exact wpAny_bind (wpAny_bind (m := Builtin.Tuple.tupleExact _) (wpAny_newObj_type (wpAny_pure (wpAny_pure ⟨_, rfl, wpAny_pure h⟩)) htake))
    | exact wpAny_bind (wpAny_bind (m := Builtin.Tuple.tupleExact _) (wpAny_newObj_type (wpAny_pure ⟨_, rfl, wpAny_pure h⟩) htake))
end
variable {X : Cx} {W : Wx} {a b c e o i : Expr} {es rest : List Expr} {pos p q apos cpos pos' : Pos} {ma mb mc mk mx mv : Mo D} {mr mq : Mo (List D)} {ta tb : Mo Bool} {s1 s2 : Ms}
def tRevT (K : PySem.W.Frag) (te : TE) : TE := fun σ H Q => te σ H fun x H1 => ∃ a xs, x = .ref a ∧ SqT K H1 a xs ∧ ∀ p, H1 p = none → Q (.ref p) (upd H1 p (.tup xs.reverse))
theorem pe_revT {te : TE} {k : Nat} {p1 p2 p3 : Pos} (he : PE X e te) : PE X (.Subscript e (.Slice none none (some (.UnaryOp .USub (.Constant (.int 1) k p1) p2)) p3) pos) (tRevT X.K te) := by
  refine ⟨fun pins s σ H Q I h => ?_⟩
  refine Subscript_ (thn (he.run pins s σ H _ I h) fun v s1 ⟨x, H1, I1, r1, q1⟩ => ?_)
  obtain ⟨a, xs, ex, hx, q⟩ := q1
  subst ex
  cases r1
  have hst : PO X (some (.UnaryOp .USub (.Constant (.int 1) k p1) p2)) (tPart (tUn (rU fun i => .int (-i)) (tC (.int 1)))) := po_some (pe_un un_neg pe_int)
  refine wpAny_Slice (thn (po_none.run pins s1 σ H1 (fun o H2 => o = none ∧ H2 = H1) I1 ⟨rfl, rfl⟩) fun vl s2 ⟨l, H2, I2, pl, el, e2⟩ => ?_)
  subst el e2
  refine thn (po_none.run pins s2 σ H2 (fun o H3 => o = none ∧ H3 = H2) I2 ⟨rfl, rfl⟩) fun vu s3 ⟨u, H3, I3, pu, eu, e3⟩ => ?_
  subst eu e3
  refine thn (hst.run pins s3 σ H3 (fun o H4 => o = some (-1) ∧ H4 = H3) I3 ⟨1, rfl, -1, rfl, rfl, rfl⟩) fun vs s4 ⟨o, H4, I4, ps, eo, e4⟩ => ?_
  subst eo e4
  have I5 : Inv X pins σ H4 { s4 with heap := s4.heap.push { cls := .type "slice", data := .fields #[vl, vu, vs] } } := I4.kept (t' := s4.toks) fun b ob q => Heap.get?_push_of_some _ q
  obtain ⟨its, r, ht, hz⟩ := I5.tuple hx
  have hlen := r.length
  show wpAny (model X.prog X.w) X.A (subscriptTail e (.Slice none none (some (.UnaryOp .USub (.Constant (.int 1) k p1) p2)) p3) (.ref a) (.ref s4.heap.objs.size)) (EP X pins σ Q) X.xe { s4 with heap := s4.heap.push { cls := .type "slice", data := .fields #[vl, vu, vs] } }
  refine tail_any (ops := [.ref a, .ref s4.heap.objs.size]) ht.typeIs (PyProof.Rows.slot_tuple_getitem.lookup) ?_ (by with_unfolding_all rfl)
  refine getItem_tuple_rev ht (Heap.IsSliceOf.new _ vl vu vs) pl pu ps ?_ (by rw [List.size_toArray]; omega)
  refine ⟨.ref _, _, I5.laid (t' := s4.toks) (o := .tup xs.reverse) (fun b ob q => Heap.get?_push_of_some _ q) (Nat.le_refl _) ?_, rfl, q _ (I5.hok.fresh (Nat.le_refl _))⟩
  exact ⟨by rw [List.length_reverse]; exact hz, _, r.reverse, IsTup.new _ _⟩
def mRevT (ma : Mo D) : Mo D := fun ev st => (ma ev st).bind fun d st1 => match d with
  | .tup ds => .ok (.tup ds.reverse) st1
  | _ => .bad
theorem me_revT {k : Nat} {p1 p2 p3 : Pos} (h : PE X e (tE X.K W ma)) : PE X (.Subscript e (.Slice none none (some (.UnaryOp .USub (.Constant (.int 1) k p1) p2)) p3) pos) (tE X.K W (mRevT ma)) := by
  refine PE.imp (pe_revT h) fun σ H Q ⟨mu, ev, st, he, hst, hp⟩ => ?_
  refine ⟨mu, ev, st, he, hst, hp.bind fun d st1 mu1 x H1 _ e1 r1 s1 hp1 => ?_⟩
  split at hp1
  · cases r1 with
    | tup h hs => exact ⟨_, _, rfl, h.sq, fun p hp => hp1 _ _ _ (ext_new hp _) (.tup (.inl upd_same) (hs.reverse.mono (ext_new hp _))) (s1.new hp _)⟩
  · exact hp1.elim
/-! ### s.upper(), s * k -/
def mUpper (ma : Mo D) : Mo D := fun ev st => (ma ev st).bind fun d st1 => match d with
  | .str x => if x.length ≤ lim then .ok (.str (Txt.upper x)) st1 else .bad
  | _ => .bad
theorem me_upper (h : PE X o (tE X.K W ma)) (hbase : attributeBase o "upper" X.env (eval o X.env) = eval o X.env := by rfl) (hline : (apos.endLine == pos.line) = true := by rfl) : PE X (.Call (.Attribute o "upper" apos) [] [] pos) (tE X.K W (mUpper ma)) := by
  refine PE.imp (pe_upper h hbase hline) fun σ H Q ⟨mu, ev, st, he, hst, hp⟩ => ?_
  refine ⟨mu, ev, st, he, hst, hp.bind fun d st1 mu1 x H1 _ e1 r1 s1 hp1 => ?_⟩
  split at hp1
  · split at hp1
    · rename_i hl
      cases r1
      exact ⟨⟨_, rfl⟩, _, rfl, rfl, Nat.le_trans hl (by decide), hp1 _ _ _ .refl (.str _) s1⟩
    · exact hp1.elim
  · exact hp1.elim
def mul2Ok (x : Str) (n : Int) : Bool := decide (2 ≤ n) && decide (n ≤ 1000) && decide (x.length ≤ 1000)
theorem mulOk_of {x : Str} {n : Int} (h : mul2Ok x n = true) : MulOk x n := by
  unfold mul2Ok at h
  simp only [Bool.and_eq_true, decide_eq_true_eq] at h
  obtain ⟨⟨h1, h2⟩, h3⟩ := h
  refine ⟨by simp; omega, fun _ _ => ?_, fun _ _ => ?_⟩
  · have : (1000 : Int) ≤ (2 ^ 63 - 1) / n := by
      rw [Int.le_ediv_iff_mul_le (by omega)]
      omega
    omega
  · unfold PySem.Builtin.Str.tooLong
    refine decide_eq_false ?_
    have : x.length * n.toNat ≤ 1000 * 1000 := Nat.mul_le_mul h3 (by omega)
    rw [sizeLine_eq]
    omega
def gMulS : G2 := fun a b st => match a, b with
  | .str x, .int n => if mul2Ok x n then some (.str (Txt.mul x n), st) else none
  | _, _ => none
def rMulS : R2 := fun x y H Q => ∃ a n, x = .str a ∧ y = .int n ∧ MulOk a n ∧ Q (.str (Txt.mul a n)) H
theorem op_mulS : OpR X (binaryOp .Mult) rMulS := by
  intro pins s σ H x y v u Q I rx ry h
  obtain ⟨a, n, rfl, rfl, hok, q⟩ := h
  obtain ⟨t, rfl⟩ := rx
  obtain ⟨t', rfl⟩ := ry
  exact SB.mul hok fun t2 k => ⟨.str _, H, I.tok _, ⟨_, rfl⟩, q⟩
theorem opS_mulS {K : PySem.W.Frag} : OpS K rMulS gMulS := by
  intro mu H st st' x y a b d Q hs hx hy e k
  unfold gMulS at e
  split at e
  · split at e
    · rename_i hc
      cases e; cases hx; cases hy
      exact ⟨_, _, rfl, rfl, mulOk_of hc, k _ _ _ .refl (.str _) hs⟩
    · cases e
  · cases e
theorem me_mulS (ha : PE X a (tE X.K W ma)) (hb : PE X b (tE X.K W mb)) : PE X (.BinOp a .Mult b pos) (tE X.K W (mOp gMulS ma mb)) := me_op op_mulS opS_mulS ha hb
end Ml

namespace Ml
open PySem L2
variable {X : Cx} {W : Wx} {a b c e o i : Expr} {es rest : List Expr} {pos p q apos cpos pos' : Pos} {ma mb mc mk mx mv : Mo D} {mr mq : Mo (List D)} {ta tb : Mo Bool} {s1 s2 : Ms} {xa xb : Mo Lo}
theorem u65 {k : Nat} {A : Around} (r : Room k A) : A.units + 65 < cLine := by have := r.un; omega
/-! x in l, the items being data of any depth -/
theorem pds_any (d : D) : ∀ ds : List D, (pds ds).any (fun z => PyData.eqv z d.pd) = ds.any fun z => deq z d
  | [] => by simp [pds]
  | x :: ds => by simp [pds, List.any_cons, pds_any d ds, deq]
def mInL (f : Bool → Bool) (ma : Mo D) (xb : Mo Lo) : Mo D := fun ev st => (ma ev st).bind fun d st1 => (xb ev st1).bind fun v st2 => match loAt st2 v with
  | some es => if d.dok 60 && doks 59 es then .ok (.bl (f (es.any fun z => deq z d))) st2 else .bad
  | none => .bad
theorem inL_go (f : Bool → Bool) {σ : L2.St} {H : Hp} {Q : VK} (h : tE X.K W (mInL f ma xb) σ H Q) :
    tOp (fun x y H Q => ∃ d ds, Dp X.K H x d ∧ Dp X.K H y (.list ds) ∧ SeqAt.shaped d = true ∧ SeqAt.shaped (.list ds) = true ∧ Q (.bl (f (ds.any fun z => PyData.eqv z d))) H) (tE X.K W ma) (tX X.K W xb) σ H Q := by
  obtain ⟨mu, ev, st, he, hst, hp⟩ := h
  refine ⟨mu, ev, st, he, hst, hp.bind fun u st1 mu1 x H1 _ e1 r1 s1 hp1 => ?_⟩
  refine ⟨mu1, ev, st1, he.mono e1, s1, hp1.bind fun v st2 mu2 y H2 _ e2 r2 s2 hp2 => ?_⟩
  split at hp2
  · rename_i es h2
    obtain ⟨p2, ws, rfl, k3, k4⟩ := lo_rel r2 .refl s2 h2
    split at hp2
    · rename_i hl
      rw [Bool.and_eq_true] at hl
      refine ⟨u.pd, pds es, (Rp.mono e2 r1).dp hl.1, .lst (.inl (.inl k3)) (k4.dp hl.2), dok_shaped hl.1, lst_shaped hl.2, ?_⟩
      rw [pds_any]
      exact hp2 _ _ _ .refl (.bl _) s2
    · exact hp2.elim
  · exact hp2.elim
theorem me_inL (hu : X.A.units + 65 < cLine) (ha : PE X a (tE X.K W ma)) (hb : PE X b (tX X.K W xb)) (hm : behindInMarks .In b = false := by rfl) : PE X (.Compare a [.In] [b] pos) (tE X.K W (mInL id ma xb)) :=
  PE.imp (pe_cmpR (op_inD hu) ha hb hm) fun _ _ _ h => inL_go id h
theorem mt_inL (hu : X.A.units + 65 < cLine) (ha : PE X a (tE X.K W ma)) (hb : PE X b (tX X.K W xb)) (hm : behindInMarks .In b = false := by rfl) : PT X (.Compare a [.In] [b] pos) (tT X.K W (mTest (mInL id ma xb))) :=
  PT.imp (pt_cmpR (op_inD hu) ha hb hm) fun _ _ _ h => inL_go id (tst_go h)
theorem me_ninL (hu : X.A.units + 65 < cLine) (ha : PE X a (tE X.K W ma)) (hb : PE X b (tX X.K W xb)) (hm : behindInMarks .NotIn b = false := by rfl) : PE X (.Compare a [.NotIn] [b] pos) (tE X.K W (mInL (!·) ma xb)) :=
  PE.imp (pe_cmpR (op_notInD hu) ha hb hm) fun _ _ _ h => inL_go (!·) h
theorem mt_ninL (hu : X.A.units + 65 < cLine) (ha : PE X a (tE X.K W ma)) (hb : PE X b (tX X.K W xb)) (hm : behindInMarks .NotIn b = false := by rfl) : PT X (.Compare a [.NotIn] [b] pos) (tT X.K W (mTest (mInL (!·) ma xb))) :=
  PT.imp (pt_cmpR (op_notInD hu) ha hb hm) fun _ _ _ h => inL_go (!·) (tst_go h)
end Ml

namespace Ml
open PySem L2
variable {X : Cx} {W : Wx} {a b c e o i : Expr} {es rest : List Expr} {pos p q apos cpos pos' : Pos} {ma mb mc mk mx mv : Mo D} {mr mq : Mo (List D)} {ta tb : Mo Bool} {s1 s2 : Ms} {xa xb : Mo Lo}
/-! l.extend(x) -/
def mExtend (ma : Mo D) (xb : Mo Lo) : Mo D := fun ev st => (ma ev st).bind fun d st1 => if isLst st1 d = true then (xb ev st1).bind fun v st2 => match d with
  | .ref i => (match st2[i]?, loAt st2 v with
    | some (.lst ds), some es => if ds.length + es.length ≤ lim then .ok .non (st2.set i (.lst (ds ++ es))) else .bad
    | _, _ => .bad)
  | _ => .bad else .bad
theorem me_extend (ho : PE X o (tE X.K W ma)) (hv : PE X e (tX X.K W xb)) (hbase : attributeBase o "extend" X.env (eval o X.env) = eval o X.env := by rfl)
    (hfew : ((backTo cpos (starEach [e] X.env)).all (fun x => !x.1) && (backToKw cpos (keywordEach [] X.env)).all (fun x => x.1.isSome)
      && decide ([e].length + ([] : List Keyword).length + (if ([] : List Keyword).isEmpty then 0 else 1) < 30)) = true := by rfl)
    (hline : (apos.endLine == cpos.line) = true := by rfl) (hs : starEach [e] X.env = (false, eval e X.env) :: starEach [] X.env := by rfl) :
    PE X (.Call (.Attribute o "extend" apos) [e] [] cpos) (tE X.K W (mExtend ma xb)) := by
  refine PE.imp (pe_bm PySem.F.plainAttrs_list PySem.F.slot_list_extend PySem.F.type_list_extend mt_extend ho (pa_cons hv pa_nil hs) hbase hfew hline hs rfl) fun σ H Q ⟨mu, ev, st, he, hst, hp⟩ => ?_
  refine ⟨mu, ev, st, he, hst, hp.bind fun d st1 mu1 x H1 _ e1 r1 s1 hp1 => ?_⟩
  split at hp1
  · rename_i hl
    refine ⟨isLst_rel s1 r1 hl, ?_⟩
    refine ⟨mu1, ev, st1, he.mono e1, s1, hp1.bind fun v st2 mu2 y H2 _ e2 r2 s2 hp2 => ?_⟩
    have r1 := Rp.mono e2 r1
    split at hp2
    · cases r1 with
      | ref hi =>
        obtain ⟨ob, ho, ok⟩ := s2.at hi
        rw [ho] at hp2
        split at hp2
        · rename_i ds es eq h2
          cases eq
          obtain ⟨vs, h1, h3⟩ := ok
          obtain ⟨p2, ws, rfl, k3, k4⟩ := lo_rel r2 .refl s2 h2
          split at hp2
          · rename_i hz
            have e0 : Ext mu2 H2 mu2 (upd H2 _ (.lst (vs ++ ws))) := ext_write s2 (List.mem_of_getElem? hi) (fun ob w z => by rw [h1] at z; cases z) _
            refine ⟨_, p2, vs, ws, rfl, rfl, h1, k3, by rw [h3.length, k4.length]; exact lim_le hz, ?_⟩
            exact hp2 _ _ _ e0 .non (s2.write hi ⟨_, upd_same, (h3.append k4).mono e0⟩)
          · exact hp2.elim
        · exact hp2.elim
    · exact hp2.elim
  · exact hp1.elim
/-! l[lo:hi] of a list: a new one -/
def mSlL (xa : Mo Lo) (ml mh : MoO) : Mo (List D) := fun ev st => (xa ev st).bind fun v st1 => (ml ev st1).bind fun lo st2 => (mh ev st2).bind fun hi st3 => match loAt st3 v with
  | some ds => .ok (cutD ds lo hi) st3
  | none => .bad
theorem ml_slice {lo hi : Option Expr} {ml mh : MoO} {p2 : Pos} (ha : PE X e (tX X.K W xa)) (hl : PO X lo (tO X.K W ml)) (hu : PO X hi (tO X.K W mh)) : PE X (.Subscript e (.Slice lo hi none p2) pos) (tL X.K W (mSlL xa ml mh)) := by
  refine PE.imp (pe_slice sl_list ha hl hu) fun σ H Q ⟨mu, ev, st, he, hst, hp⟩ => ?_
  refine ⟨mu, ev, st, he, hst, hp.bind fun v st1 mu1 x H1 _ e1 r1 s1 hp1 => ?_⟩
  refine ⟨mu1, ev, st1, he.mono e1, s1, hp1.bind fun lo st2 mu2 y H2 _ e2 r2 s2 hp2 => ?_⟩
  refine ⟨mu2, ev, st2, (he.mono e1).mono e2, s2, hp2.bind fun hi st3 mu3 z H3 _ e3 r3 s3 hp3 => ?_⟩
  split at hp3
  · rename_i ds h3
    obtain ⟨p2, ws, rfl, k3, k4⟩ := lo_rel r1 (e2.trans e3) s3 h3
    refine ⟨p2, ws, rfl, .inl (.inl k3), fun p hn => ?_⟩
    cases r2; cases r3
    exact hp3 _ _ _ (ext_new hn _) ⟨p, _, rfl, hn, upd_same, s3.fresh hn, Rps.ctx hn (k4.cut _ _)⟩ (s3.new hn _)
  · exact hp3.elim
/-! max(l) of a list of whole numbers -/
def maxI : List Int → Int
  | [] => 0
  | [n] => n
  | n :: ns => if maxI ns ≤ n then n else maxI ns
theorem maxI_mem : ∀ (ns : List Int), ns ≠ [] → maxI ns ∈ ns ∧ ∀ y ∈ ns, y ≤ maxI ns
  | [], h => absurd rfl h
  | [n], _ => by simp [maxI]
  | n :: m :: ns, _ => by
    obtain ⟨h1, h2⟩ := maxI_mem (m :: ns) (by simp)
    rw [maxI]
    · split
      · refine ⟨List.mem_cons_self, fun y hy => ?_⟩
        rcases List.mem_cons.mp hy with rfl | hy
        · exact Int.le_refl _
        · have := h2 y hy; omega
      · refine ⟨List.mem_cons_of_mem _ h1, fun y hy => ?_⟩
        rcases List.mem_cons.mp hy with rfl | hy
        · omega
        · exact h2 y hy
    · simp
def gMaxL (ds : List D) : Option D := match intsOf ds with
  | some (n :: ns) => some (.int (maxI (n :: ns)))
  | _ => none
theorem qs_max {K : PySem.W.Frag} : QS K (RE K) (rMax K) gMaxL := by
  intro mu H st p vs ds d Q hs sq rs e k
  unfold gMaxL at e
  cases hq : intsOf ds with
  | none => rw [hq] at e; cases e
  | some ns =>
    rw [hq] at e
    cases ns with
    | nil => cases e
    | cons n ns =>
      cases e
      refine ⟨p, n :: ns, rfl, by rw [← Rps.ints rs hq]; exact sq, by simp, fun m hm hle => ?_⟩
      obtain ⟨h1, h2⟩ := maxI_mem (n :: ns) (by simp)
      have : m = maxI (n :: ns) := by
        have := hle _ h1
        have := h2 _ hm
        omega
      subst this
      exact k _ _ _ .refl (.int _) hs
/-! enumerate of a locked list -/
def enumD : Nat → List D → List D
  | _, [] => []
  | i, d :: ds => .tup [.int i, d] :: enumD (i + 1) ds
theorem enumD_len : ∀ (i : Nat) (ds : List D), (enumD i ds).length = ds.length
  | _, [] => rfl
  | i, d :: ds => by simp [enumD, enumD_len (i + 1) ds]
theorem enumD_get : ∀ {k : Nat} {ds : List D} {j : Nat} {z : D}, (enumD k ds)[j]? = some z → ∃ x, ds[j]? = some x ∧ z = .tup [.int ((k + j : Nat) : Int), x]
  | k, [], j, z, h => by simp [enumD] at h
  | k, d :: ds, 0, z, h => by simp [enumD] at h; exact ⟨d, rfl, h.symm⟩
  | k, d :: ds, j + 1, z, h => by
    obtain ⟨x, h1, h2⟩ := enumD_get (k := k + 1) (ds := ds) (j := j) (by simpa [enumD] using h)
    exact ⟨x, by simpa using h1, by rw [h2, show k + 1 + j = k + (j + 1) by omega]⟩
def mEnum (ma : Mo D) : Mo (List D) := fun ev st => (ma ev st).bind fun d st1 => match d with
  | .ref j => (match st1[j]? with
    | some ob => (match itemsK .lst ob with
      | some ds => .ok (enumD 0 ds) st1
      | none => .bad)
    | none => .bad)
  | _ => .bad
theorem iter_enum {K : PySem.W.Frag} {H0 : Hp} {d : Addr} {od : Obj} {vs : List V} {ds : List D} : IterOk K H0 (Ite K d) (enumD 0 ds) (fun H mu => H d = some (.frz od (.lst vs)) ∧ Rps K H mu vs ds) := by
  refine ⟨?_, ?_, ?_, ?_, ?_⟩
  · rintro H mu i x ⟨h1, h2⟩ hx
    obtain ⟨y, hy, rfl⟩ := enumD_get hx
    obtain ⟨v, hv, _⟩ := h2.get hy
    exact ⟨vs, v, .inl (.inr ⟨od, h1⟩), hv⟩
  · rintro H mu st i x v H' hst ⟨h1, h2⟩ hx ⟨T, z, rfl, hT, rfl, hz⟩
    obtain ⟨y, hy, rfl⟩ := enumD_get hx
    obtain ⟨w, hw, rw'⟩ := h2.get hy
    have := hz vs (.inl (.inr ⟨od, h1⟩))
    rw [hw] at this
    cases this
    rw [Nat.zero_add]
    exact ⟨ext_new hT _, .tup (.inl upd_same) (.cons (.int _) (.cons (rw'.mono (ext_new hT _)) .nil)), hst.new hT _⟩
  · rintro H mu ⟨h1, h2⟩
    exact ⟨vs, .inl (.inr ⟨od, h1⟩), Nat.le_of_eq (by rw [Rps.length h2, enumD_len])⟩
  · rintro H mu H' mu' ⟨h1, h2⟩ e
    exact ⟨e.frz _ _ _ h1, h2.mono e⟩
  · rintro H mu q' l l' ⟨h1, h2⟩ _ hq _
    exact ⟨by rw [upd_ne (fun e => by subst e; rw [hq] at h1; cases h1)]; exact h1, h2.mono0 (ext0_tmp hq)⟩
theorem mi_enum {tpos : Pos} {elts : List Expr} {kk : Nat} (hg : Gl X "enumerate") (hm : X.mg "enumerate" = none) (h : PE X e (tE X.K W ma)) (hs : starEach [e] X.env = [(false, eval e X.env)] := by rfl) :
    PI X (.Tuple elts kk tpos) (.Call (.Name "enumerate" p) [e] [] pos) (tI X.K W (mEnum ma)) := by
  refine PI.imp (pi_enum hg hm (pa_cons h pa_nil hs) hs) fun σ H Q ⟨mu, ev, st, he, hst, hp⟩ => ?_
  refine ⟨mu, ev, st, he, hst, hp.bind fun d st1 mu1 x H1 _ e1 r1 s1 hp1 => ?_⟩
  split at hp1
  · cases r1 with
    | ref hi =>
      obtain ⟨ob, ho, ok⟩ := s1.at hi
      rw [ho] at hp1
      simp only at hp1
      split at hp1
      · rename_i ds hds
        cases ob with
        | ro l =>
          simp only [itemsK] at hds
          split at hds
          · rename_i hl
            cases hds
            obtain ⟨od, vs, hv, rs⟩ := ok
            exact ⟨_, vs, rfl, .inl (.inr ⟨od, hv⟩), hp1 _ _ _ .refl ⟨by rw [enumD_len]; exact hl, _, iter_enum, hv, rs⟩ s1⟩
          · cases hds
        | lst l => cases hds
        | dK lk l => cases hds
        | dT lk l => cases hds
        | ins c l => cases hds
        | exc c => cases hds
      · exact hp1.elim
  · exact hp1.elim
/-! list(d) of a dict: its keys -/
def mListD (ma : Mo D) : Mo (List D) := fun ev st => (ma ev st).bind fun d st1 => match d with
  | .ref i => (match st1[i]? with
    | some (.dK _ kvs) => .ok (kvs.map fun kv => keyD kv.1) st1
    | _ => .bad)
  | _ => .bad
theorem keyRp {K : PySem.W.Frag} {H : Hp} {mu : List Addr} (k : Key) : Rp K H mu (kV k) (keyD k) := by
  cases k with
  | inl i => exact .int i
  | inr x => exact .str x
theorem keyRps {K : PySem.W.Frag} {H : Hp} {mu : List Addr} : ∀ {ws : List (Key × V)} {kvs : List (Key × D)}, ws.map (·.1) = kvs.map (·.1) → Rps K H mu (ws.map fun kv => kV kv.1) (kvs.map fun kv => keyD kv.1)
  | [], [], _ => .nil
  | [], _ :: _, h => by simp at h
  | _ :: _, [], h => by simp at h
  | w :: ws, v :: vs, h => by
    simp only [List.map_cons, List.cons.injEq] at h
    simp only [List.map_cons]
    rw [h.1]
    exact .cons (keyRp _) (keyRps h.2)
theorem ml_listD (hg : Gl X "list") (hm : X.mg "list" = none) (hc : X.calm = true) (ha : PE X e (tE X.K W ma)) (he : starEach [e] X.env = (false, eval e X.env) :: starEach [] X.env := by rfl) : PE X (.Call (.Name "list" p) [e] [] pos) (tL X.K W (mListD ma)) := by
  refine PE.imp (pe_callTy (call_listD hc) hg hm bt_list (pa_cons ha pa_nil he) (by decide) (by decide) he rfl) fun σ H Q ⟨mu, ev, st, he, hst, hp⟩ => ?_
  refine ⟨mu, ev, st, he, hst, hp.bind fun d st1 mu1 x H1 _ e1 r1 s1 hp1 => ?_⟩
  split at hp1
  · cases r1 with
    | ref hi =>
      obtain ⟨ob, ho, ok⟩ := s1.at hi
      rw [ho] at hp1
      split at hp1
      · rename_i lk kvs heq
        cases heq
        cases lk with
        | false =>
          obtain ⟨ws, hv, rs⟩ := ok
          exact ⟨_, ws, rfl, .inl hv, fun l hl => hp1 _ _ _ (ext_new hl _) ⟨l, _, rfl, hl, upd_same, s1.fresh hl, keyRps rs.keys⟩ (s1.new hl _)⟩
        | true =>
          obtain ⟨od, ws, hv, rs⟩ := ok
          exact ⟨_, ws, rfl, .inr ⟨od, hv⟩, fun l hl => hp1 _ _ _ (ext_new hl _) ⟨l, _, rfl, hl, upd_same, s1.fresh hl, keyRps rs.keys⟩ (s1.new hl _)⟩
      · exact hp1.elim
  · exact hp1.elim
end Ml

/-! enumerate of a tuple -/
namespace PySem
open AutoSeq1 (wpAny_loadPart')
set_option maxHeartbeats 1000000 in
theorem meets_enumT (t : Addr) (xs : Array Value) (n : Nat) (dct : Option Addr) (sl : Array (Option Value)) :
    Meets (Builtin.«enumerate.__new__» ⟨[.type "enumerate", .ref t], []⟩) (fun _ R s => s.heap.get? t = some { cls := .type "tuple", dict := dct, data := .seq xs n, slots := sl } ∧
      R (.ok (.ret (.ref (s.heap.push { cls := .type "tuple_iterator", data := .fields #[.ref t, .int 0 0] }).objs.size))) { s with heap := (s.heap.push { cls := .type "tuple_iterator", data := .fields #[.ref t, .int 0 0] }).push { cls := .type "enumerate", data := .fields #[.none, .bool false, .ref s.heap.objs.size, rawInt 0, .none, .none] } }) :=
  .of_wp fun prog w A R s h => by
    obtain ⟨hp, g, d, tk, os⟩ := s; obtain ⟨ht, h⟩ := h
    have hsub := sub_enumerate
    have hT : Heap.IsTuple (Shared.heap ⟨hp, g, d, tk, os⟩) t xs := ⟨_, ht, rfl, n, rfl⟩
    wp_walk using wpAny_loadPart' ht
    refine wpAny_stack_any fun st => wpAny_pure ?_
    split
    · rename_i c _ _ _ _ _
      cases (c == Value.type "enumerate")
      · wp_walk using wpAny_loadPart' ht, wpAny_pyIter_tuple hT
        exact ⟨_, rfl, h⟩
      · wp_walk using wpAny_loadPart' ht, wpAny_pyIter_tuple hT
        exact ⟨_, rfl, h⟩
    · wp_walk using wpAny_loadPart' ht, wpAny_pyIter_tuple hT
      exact ⟨_, rfl, h⟩
section
variable {prog : Program} {w : World} {A : Around} {E : Value → Shared → Prop} {s : Shared}
theorem call_enumT {t : Addr} {xs : Array Value} {Q : Value → Shared → Prop} (hT : s.heap.IsTuple t xs)
    (h : ∀ h', IsEnum h' (s.heap.objs.size + 1) s.heap.objs.size 0 .none → h'.IsTupleIter s.heap.objs.size t 0 → h'.objs.size = s.heap.objs.size + 2 → (∀ b o, s.heap.get? b = some o → h'.get? b = some o) → Q (.ref (s.heap.objs.size + 1)) { s with heap := h' }) :
    wpAny (model prog w) A (call (.type "enumerate") [.ref t]) Q E s := by
  obtain ⟨⟨c, dct, dt, sl⟩, hl, hc, n, hd⟩ := hT
  replace hc : c = .type "tuple" := hc
  replace hd : dt = .seq xs n := hd
  subst hc hd
  refine callType_new F.called_enumerate (by decide) (F.typeCall_enumerate_1 _) (F.newCall_enumerate_1 _) (fun obj => F.args_object_init_2 obj _) F.entry_enumerate_new (meets_enumT t xs n dct sl) ⟨hl, ?_⟩
  have hz : (s.heap.push { cls := .type "tuple_iterator", data := .fields #[.ref t, .int 0 0] }).objs.size = s.heap.objs.size + 1 := Heap.size_push ..
  show _ ∧ _
  rw [hz]
  have he : IsEnum ((s.heap.push { cls := .type "tuple_iterator", data := .fields #[.ref t, .int 0 0] }).push { cls := .type "enumerate", data := .fields #[.none, .bool false, .ref s.heap.objs.size, rawInt 0, .none, .none] }) (s.heap.objs.size + 1) s.heap.objs.size 0 .none := by
    have q := Heap.get?_push_size (s.heap.push { cls := .type "tuple_iterator", data := .fields #[.ref t, .int 0 0] }) (o := { cls := .type "enumerate", data := .fields #[.none, .bool false, .ref s.heap.objs.size, rawInt 0, .none, .none] }) rfl
    rw [hz] at q; exact q
  exact ⟨⟨_, he, rfl⟩, h _ he ⟨_, Heap.get?_push_of_some _ (Heap.get?_push_size _ rfl), rfl, rfl⟩ (by rw [Heap.size_push, hz]) fun b o x => Heap.get?_push_of_some _ (Heap.get?_push_of_some _ x)⟩
theorem next_enumT_end {e it l : Addr} {i : Nat} {xs : Array Value} {old : Value} {Q : Option Value → Shared → Prop} (hh : A.handled = none) (he : IsEnum s.heap e it i old) (hit : s.heap.IsTupleIter it l i) (hl : s.heap.IsTuple l xs) (hx : xs[i]? = none)
    (hQ : ∀ h', Heap.ExtBut it s.heap h' → Q none { s with heap := h' }) : wpAny (model prog w) A (pyNext (.ref e)) Q E s := by
  have hT : s.TypeIs (.ref e) "enumerate" := ⟨_, he, rfl⟩
  unfold pyNext
  refine wpAny_bind (wpAny_attempt (wpAny_callSpecial?_slot (name := Str.ofString "__next__") hT F.slot_enumerate_next (wpAny_call_entry F.slot_enumerate_next hT F.entry_enumerate_next ?_ (F.args_enumerate_next_1 _))))
  show wpAny _ _ (field (.ref e) 2 >>= _) _ _ _
  refine wpAny_bind (wpAny_field he rfl (x := .ref it) rfl (wpAny_bind (wpAny_nextOf_tuple_end hh hit hl hx fun h' x he' hx' => ?_)))
  obtain ⟨o, ho, hc⟩ := hx'
  exact wpAny_bind (wpAny_isInstance (T := "StopIteration") (b := true) ⟨o, ho, hc⟩ isSubtype_stop (wpAny_pure (hQ _ he')))
end
end PySem
namespace Ml
open PySem L2
def IteT (K : PySem.W.Frag) (a : Addr) : It :=
  ⟨fun i H => ∃ (xs : List V) (x : V), SqT K H a xs ∧ xs[i]? = some x, fun i H v H' => ∃ T x, v = .ref T ∧ H T = none ∧ H' = upd H T (.tup [.int (i : Nat), x]) ∧ ∀ xs, SqT K H a xs → xs[i]? = some x, fun i H => ∃ xs : List V, SqT K H a xs ∧ xs.length ≤ i⟩
theorem turn_enumT {P : Program} {w : World} {K : PySem.W.Frag} {elts : List Expr} {kk : Nat} {tpos : Pos} (a e it : Addr) (hai : a ≠ it) (hea : e ≠ a) :
    Turn P w K (.Tuple elts kk tpos) (IteT K a) [e, it] e (fun i h => (∃ old, IsEnum h e it ((i : Nat) : Int) old) ∧ h.IsTupleIter it a i ∧ e ≠ it) where
  mem := by simp
  obj := fun i h st b hb => by
    obtain ⟨⟨old, he⟩, ⟨o, ho, hc, hd⟩, _⟩ := st
    rcases (by simpa using hb : b = e ∨ b = it) with z | z
    · rw [z]; exact ⟨_, he, fun v q => nomatch q⟩
    · rw [z]; exact ⟨o, ho, fun v q => by rw [hd] at q; cases q⟩
  keep := fun i h h' st k => let ⟨⟨old, he⟩, hi, hne⟩ := st; ⟨⟨old, k e (by simp) _ he⟩, hi.at fun o q => k it (by simp) o q, hne⟩
  item := by
    intro X hP hw hK hc i pins s σ H E I hf st hg
    subst hP hw hK
    obtain ⟨⟨old, he⟩, hit, hne⟩ := st
    obtain ⟨xs, x, hq, hx⟩ := hg
    obtain ⟨its, rv, p, hz⟩ := I.tuple hq
    obtain ⟨u, hu, ru⟩ := rv.get hx
    have hel : e < s.heap.objs.size := Heap.lt_size he
    have hil : it < s.heap.objs.size := by obtain ⟨_, q, _⟩ := hit; exact Heap.lt_size q
    have pT : s.heap.IsTuple a its.toArray := p
    have hlt : i < its.toArray.size := by
      have := (List.getElem?_eq_some_iff.mp hu).1
      simpa using this
    have D : Draws X.prog X.w X.A.in1 it [it, a] its.toArray.size (fun i v => its.toArray[i]? = some v) (fun i h => h.IsTupleIter it a i ∧ h.IsTuple a its.toArray) := Draws.tuple (A := X.A.in1) (show X.A.in1.handled = none from I.ok.hd hc) it a hai its.toArray
    refine wpAny_pyNext_enum_itemD D he ⟨hit, pT⟩ hlt hne (by simp; exact ⟨hne, hea⟩) fun x' h' tk hPx ho hst' hT hsz hk => ?_
    have ex : x' = u := by
      have : its.toArray[i]? = some u := by simpa using hu
      rw [this] at hPx; cases hPx; rfl
    subst ex
    refine ⟨_, rfl, wpAny_letOwnedTupleGo_enum (s := { s with heap := h', toks := tk + 1 }) ho fun h'' he' sb => ?_⟩
    have hT2 : h''.get? s.heap.objs.size = some { cls := .type "tuple", data := .seq #[.int i tk, x'] } := (sb.2 _ (Nat.ne_of_gt hel)).trans hT
    have new : ObjOk X.prog X.w (upd H s.heap.objs.size (.tup [.int (i : Nat), x])) h'' s.heap.objs.size (.tup [.int (i : Nat), x]) := ⟨by show 2 ≤ sizeLine; decide, [.int i tk, x'], .cons ⟨_, rfl⟩ (.cons ru .nil), ⟨_, hT2, rfl, _, rfl⟩⟩
    have I1 : Inv X pins σ (upd H s.heap.objs.size (.tup [.int (i : Nat), x])) { s with heap := h'', toks := tk + 1 } := I.turnedNew (ch := [e, it]) (fun b ob hb q => (sb.2 b (fun z => hb (by simp [z]))).trans (hk b ob (fun z => hb (by simp [z])) (fun z => hb (by simp [z])) q)) hf (Nat.le_refl _) new
    refine ⟨.ref s.heap.objs.size, _, I1, rfl, ⟨_, x, rfl, I.hok.fresh (Nat.le_refl _), rfl, fun ys hy => by rw [I.tuple_inj hy hq]; exact hx⟩, ⟨⟨x', ?_⟩, hst'.1.at fun o q => (sb.2 it (Ne.symm hne)).trans q, hne⟩, fun b hb => ?_⟩
    · have e1 : ((i + 1 : Nat) : Int) = (i : Int) + 1 := by omega
      rw [e1]; exact he'
    · have hb' : b < s.heap.objs.size := by
        rcases (by simpa using hb : b = e ∨ b = it) with z | z
        · rw [z]; exact hel
        · rw [z]; exact hil
      rw [upd_ne (Nat.ne_of_lt hb')]
      exact (hf b hb).1
  done := by
    intro X hP hw hK hc i pins s σ H E I hf st hg
    subst hP hw hK
    obtain ⟨⟨old, he⟩, hit, hne⟩ := st
    obtain ⟨xs, hq, hx⟩ := hg
    obtain ⟨its, rv, p, hz⟩ := I.tuple hq
    obtain ⟨f0, f1, f2, f3, f4, f5⟩ := hf it (by simp)
    have hl := rv.length
    have pT : s.heap.IsTuple a its.toArray := p
    exact next_enumT_end (I.ok.hd hc) he hit pT (by simp; omega) fun h' eb => ⟨rfl, I.turned (t' := s.toks) (fun b o hb q => eb b o hb q) f0 f1 f3 f4 f5⟩
  self := fun A i s Q E st h => let ⟨⟨_, he⟩, _⟩ := st; wpAny_pyIter_enum he h
variable {X : Cx} {W : Wx} {e : Expr} {pos p : Pos} {ma : Mo D}
theorem pi_enumT {ta : TA} {tpos : Pos} {elts : List Expr} {kk : Nat} (hg : Gl X "enumerate") (hm : X.mg "enumerate" = none) (ha : PA X [e] ta) (hs : starEach [e] X.env = [(false, eval e X.env)] := by rfl) :
    PI X (.Tuple elts kk tpos) (.Call (.Name "enumerate" p) [e] [] pos) (fun σ H R => ta σ H fun vs H1 => ∃ a xs, vs = [.ref a] ∧ SqT X.K H1 a xs ∧ R (IteT X.K a) H1) := by
  refine ⟨fun pins s σ H R I h => ?_⟩
  refine PyProof.Rows.Call_ (ld_blt I hg hm PyProof.Rows.boot_enumerate (PyProof.Rows.callWith_type1 (thn (ha.run pos pins s σ H _ I h) fun us s1 ⟨vs, H1, I1, r1, q1⟩ => ?_) hs rfl))
  obtain ⟨a, xs, ex, hq, q⟩ := q1
  subst ex
  cases r1 with
  | cons r rr =>
    cases rr
    cases r
    obtain ⟨its, rv, p', hz⟩ := I1.tuple hq
    have pT : s1.heap.IsTuple a its.toArray := p'
    have hla : a < s1.heap.objs.size := by obtain ⟨o, q, _⟩ := pT; exact Heap.lt_size q
    refine call_enumT pT fun h' he hit hsz hk => wpAny_pyIter_enum he ?_
    have I2 : Inv X pins σ H1 { s1 with heap := h' } := I1.kept (t' := s1.toks) hk
    refine ⟨s1.heap.objs.size + 1, [s1.heap.objs.size + 1, s1.heap.objs.size], _, _, H1, rfl, I2, turn_enumT a (s1.heap.objs.size + 1) s1.heap.objs.size (Nat.ne_of_lt hla) (Nat.ne_of_gt (Nat.lt_succ_of_lt hla)), ⟨⟨.none, he⟩, hit, Nat.succ_ne_self _⟩, fun b hb => ?_, q⟩
    have hle : s1.heap.objs.size ≤ b := by
      rcases (by simpa using hb : b = s1.heap.objs.size + 1 ∨ b = s1.heap.objs.size) with z | z
      · rw [z]; exact Nat.le_add_right _ _
      · rw [z]; exact Nat.le_refl _
    exact I1.fpOk hle (I1.hok.fresh hle)
def mEnumT (ma : Mo D) : Mo (List D) := fun ev st => (ma ev st).bind fun d st1 => match d with
  | .tup ds => if ds.length ≤ lim then .ok (enumD 0 ds) st1 else .bad
  | _ => .bad
theorem iter_enumT {K : PySem.W.Frag} {H0 : Hp} {d : Addr} {vs : List V} {ds : List D} : IterOk K H0 (IteT K d) (enumD 0 ds) (fun H mu => TupAt K H d vs ∧ Rps K H mu vs ds) := by
  refine ⟨?_, ?_, ?_, ?_, ?_⟩
  · rintro H mu i x ⟨h1, h2⟩ hx
    obtain ⟨y, hy, rfl⟩ := enumD_get hx
    obtain ⟨v, hv, _⟩ := h2.get hy
    exact ⟨vs, v, h1.sq, hv⟩
  · rintro H mu st i x v H' hst ⟨h1, h2⟩ hx ⟨T, z, rfl, hT, rfl, hz⟩
    obtain ⟨y, hy, rfl⟩ := enumD_get hx
    obtain ⟨w, hw, rw'⟩ := h2.get hy
    have := hz vs h1.sq
    rw [hw] at this
    cases this
    rw [Nat.zero_add]
    exact ⟨ext_new hT _, .tup (.inl upd_same) (.cons (.int _) (.cons (rw'.mono (ext_new hT _)) .nil)), hst.new hT _⟩
  · rintro H mu ⟨h1, h2⟩
    exact ⟨vs, h1.sq, Nat.le_of_eq (by rw [Rps.length h2, enumD_len])⟩
  · rintro H mu H' mu' ⟨h1, h2⟩ e
    exact ⟨e.tupAt h1, h2.mono e⟩
  · rintro H mu q' l l' ⟨h1, h2⟩ _ hq _
    exact ⟨(ext0_tmp (mu := mu) hq).tupAt h1, h2.mono0 (ext0_tmp hq)⟩
theorem mi_enumT {tpos : Pos} {elts : List Expr} {kk : Nat} (hg : Gl X "enumerate") (hm : X.mg "enumerate" = none) (h : PE X e (tE X.K W ma)) (hs : starEach [e] X.env = [(false, eval e X.env)] := by rfl) :
    PI X (.Tuple elts kk tpos) (.Call (.Name "enumerate" p) [e] [] pos) (tI X.K W (mEnumT ma)) := by
  refine PI.imp (pi_enumT hg hm (pa_cons h pa_nil hs) hs) fun σ H Q ⟨mu, ev, st, he, hst, hp⟩ => ?_
  refine ⟨mu, ev, st, he, hst, hp.bind fun d st1 mu1 x H1 _ e1 r1 s1 hp1 => ?_⟩
  split at hp1
  · split at hp1
    · rename_i hl
      cases r1 with
      | tup t1 r1 => exact ⟨_, _, rfl, t1.sq, hp1 _ _ _ .refl ⟨by rw [enumD_len]; exact hl, _, iter_enumT, t1, r1⟩ s1⟩
    · exact hp1.elim
  · exact hp1.elim
end Ml

/-! a table of texts at the top of the module -/
namespace Ml
open PySem L2
variable {X : Cx} {W : Wx} {a b c e o i : Expr} {pos p q : Pos} {ma mb : Mo D}
def tabAt (tab : List (String × String)) (z : Str) : Option String := (tab.find? fun p => Str.ofString p.1 == z).map (·.2)
def tabE (P : Params) : List (String × String) → List DictEntry → Prop
  | [], [] => True
  | p :: ps, e :: es => (∃ t u, e = ⟨PyData.keyHash P (Str.ofString p.1), .str (Str.ofString p.1) t, .str (Str.ofString p.2) u⟩) ∧ tabE P ps es
  | _, _ => False
structure Tab (K : PySem.W.Frag) (w : World) (d : Addr) (tab : List (String × String)) : Prop where
  low : (d == sysModules) = false
  at_ : ∃ es n, K.lookup d = some ⟨.type "dict", none, .dict es n, #[]⟩ ∧ tabE w.params tab es.toList
theorem tabE_lit {P : Params} : ∀ {tab : List (String × String)} {es : List DictEntry}, tabE P tab es → PySem.W.KeysLit P es
  | [], [], _ => trivial
  | p :: ps, e :: es, ⟨⟨t, u, q⟩, h⟩ => ⟨⟨Str.ofString p.1, t, by rw [q], by rw [q]⟩, tabE_lit h⟩
  | [], _ :: _, h => h.elim
  | _ :: _, [], h => h.elim
theorem tabE_find {P : Params} (z : Str) : ∀ {tab : List (String × String)} {es : List DictEntry}, tabE P tab es → (match tabAt tab z with
    | some v => ∃ e t, es.find? (·.key.isStr z) = some e ∧ e.val = .str (Str.ofString v) t
    | none => es.find? (·.key.isStr z) = none) ∧ es.any (·.refKey) = false
  | [], [], _ => ⟨rfl, rfl⟩
  | p :: ps, e :: es, ⟨⟨t, u, q⟩, h⟩ => by
    obtain ⟨h1, h2⟩ := tabE_find z h
    subst q
    refine ⟨?_, by rw [List.any_cons, h2]; rfl⟩
    unfold tabAt at h1 ⊢
    rw [List.find?_cons, List.find?_cons]
    have es' : Value.isStr (.str (Str.ofString p.1) t) z = (Str.ofString p.1 == z) := rfl
    rw [es']
    cases hb : (Str.ofString p.1 == z) with
    | true => exact ⟨_, u, rfl, rfl⟩
    | false => exact h1
  | [], _ :: _, h => h.elim
  | _ :: _, [], h => h.elim
theorem Tab.ns {K : PySem.W.Frag} {w : World} {d : Addr} {tab : List (String × String)} (T : Tab K w d tab) (z : Str) : match tabAt tab z with
    | some v => ∃ t, PySem.W.nsIn K d z = some (some (.str (Str.ofString v) t))
    | none => PySem.W.nsIn K d z = some none := by
  obtain ⟨es, n, h1, h2⟩ := T.at_
  obtain ⟨h3, h4⟩ := tabE_find z h2
  unfold PySem.W.nsIn
  rw [h1]
  cases ht : tabAt tab z with
  | some v =>
    rw [ht] at h3
    obtain ⟨e, t, q1, q2⟩ := h3
    exact ⟨t, by simp only [q1, q2]⟩
  | none =>
    rw [ht] at h3
    simp only at h3
    simp only [h3, h4]
    rfl
theorem Tab.kd {K : PySem.W.Frag} {w : World} {d : Addr} {tab : List (String × String)} (T : Tab K w d tab) : ∃ es n, KDict K w d es n := by
  obtain ⟨es, n, h1, h2⟩ := T.at_
  exact ⟨es, n, h1, tabE_lit h2, T.low⟩
/-! x in TAB, TAB[x] -/
def mInTab (f : Bool → Bool) (tab : List (String × String)) (ma : Mo D) : Mo D := fun ev st => (ma ev st).bind fun d st1 => match d with
  | .str z => .ok (.bl (f (tabAt tab z).isSome)) st1
  | _ => .bad
def mAtTab (tab : List (String × String)) (ma : Mo D) : Mo D := fun ev st => (ma ev st).bind fun d st1 => match d with
  | .str z => (match tabAt tab z with
    | some v => .ok (.str (Str.ofString v)) st1
    | none => .bad)
  | _ => .bad
theorem inTab_go {d : Addr} {tab : List (String × String)} (T : Tab X.K X.w d tab) (f : Bool → Bool) {σ : L2.St} {H : Hp} {Q : VK} (h : tE X.K W (mInTab f tab ma) σ H Q) :
    tOp (fun x y H Q => ∃ (z : Str) (r : Option Value), x = .str z ∧ y = .ref d ∧ PySem.W.nsIn X.K d z = some r ∧ Q (.bl (f r.isSome)) H) (tE X.K W ma) (tC (.ref d)) σ H Q := by
  obtain ⟨mu, ev, st, he, hst, hp⟩ := h
  refine ⟨mu, ev, st, he, hst, hp.bind fun u st1 mu1 x H1 _ e1 r1 s1 hp1 => ?_⟩
  cases u with
  | str z =>
    cases r1
    have hn := T.ns z
    simp only at hp1
    cases ht : tabAt tab z with
    | some v =>
      rw [ht] at hn hp1
      obtain ⟨t, q⟩ := hn
      exact ⟨z, _, rfl, rfl, q, hp1 _ _ _ .refl (.bl _) s1⟩
    | none =>
      rw [ht] at hn hp1
      exact ⟨z, _, rfl, rfl, hn, hp1 _ _ _ .refl (.bl _) s1⟩
  | _ => exact hp1.elim
theorem me_inTab {d : Addr} {tab : List (String × String)} (T : Tab X.K X.w d tab) (ha : PE X a (tE X.K W ma)) (hb : PE X b (tC (.ref d))) (hm : behindInMarks .In b = false := by rfl) : PE X (.Compare a [.In] [b] pos) (tE X.K W (mInTab id tab ma)) := by
  obtain ⟨es, n, D⟩ := T.kd
  exact PE.imp (pe_cmpR (op_in_kd D) ha hb hm) fun _ _ _ h => inTab_go T id h
theorem mt_inTab {d : Addr} {tab : List (String × String)} (T : Tab X.K X.w d tab) (ha : PE X a (tE X.K W ma)) (hb : PE X b (tC (.ref d))) (hm : behindInMarks .In b = false := by rfl) : PT X (.Compare a [.In] [b] pos) (tT X.K W (mTest (mInTab id tab ma))) := by
  obtain ⟨es, n, D⟩ := T.kd
  exact PT.imp (pt_cmpR (op_in_kd D) ha hb hm) fun _ _ _ h => inTab_go T id (tst_go h)
theorem ix_kd {d : Addr} {es : Array DictEntry} {n : Nat} (D : KDict X.K X.w d es n) : IxR X (fun x y H Q => ∃ (z : Str) (u0 : Value) (v0 : V), x = .ref d ∧ y = .str z ∧ PySem.W.nsIn X.K d z = some (some u0) ∧ RelV v0 u0 ∧ Q v0 H) := by
  intro value slice pins s σ H x y v u Q I rx ry h hs
  have hT := kd_type D I
  obtain ⟨z, u0, v0, ex, ey, hh⟩ := id h
  subst ex
  cases rx
  exact PyProof.Rows.tail_any hT F.slot_dict_getitem.lookup (op_item_kd D pins s σ H (.ref d) y (.ref d) u Q I (rfl : RelV (.ref d) (.ref d)) ry h) hs
theorem me_atTab {d : Addr} {tab : List (String × String)} (T : Tab X.K X.w d tab) (hb : PE X b (tC (.ref d))) (ha : PE X a (tE X.K W ma)) (hx : PlainIx a := by exact fun _ _ => rfl) : PE X (.Subscript b a pos) (tE X.K W (mAtTab tab ma)) := by
  obtain ⟨es, n, D⟩ := T.kd
  refine PE.imp (pe_ix (ix_kd D) hb ha hx) fun σ H Q ⟨mu, ev, st, he, hst, hp⟩ => ?_
  refine ⟨mu, ev, st, he, hst, hp.bind fun u st1 mu1 x H1 _ e1 r1 s1 hp1 => ?_⟩
  cases u with
  | str z =>
    cases r1
    have hn := T.ns z
    simp only at hp1
    cases ht : tabAt tab z with
    | some v =>
      rw [ht] at hn hp1
      obtain ⟨t, q⟩ := hn
      exact ⟨z, _, .str (Str.ofString v), rfl, rfl, q, ⟨t, rfl⟩, hp1 _ _ _ .refl (.str _) s1⟩
    | none =>
      rw [ht] at hp1
      exact hp1.elim
  | _ => exact hp1.elim
end Ml

/-! exceptions of own classes: raise, calls that may raise, try .. except; instances of own classes: fields, methods, making -/
namespace Ml
open PySem L2
variable {X : Cx} {W : Wx} {a b c e o i : Expr} {es rest : List Expr} {pos p q apos cpos pos' : Pos} {ma mb mv : Mo D} {mr mq : Mo (List D)} {s1 s2 : Ms}
/-- a wish about the class's name, as one about the class -/
def wX (K : PySem.W.Frag) (W : Wx) : WX := fun cls d σ H => d = none ∧ ∃ c, PySem.W.nsIn K mainGlobals c = some (some cls) ∧ W c σ H
/-- .. and back -/
def dn (K : PySem.W.Frag) (W : WX) : Wx := fun c σ H => ∀ cls, PySem.W.nsIn K mainGlobals c = some (some cls) → W cls none σ H
theorem wX_dn {K : PySem.W.Frag} {W : WX} (cls : Value) (d : Option Addr) (σ : L2.St) (H : Hp) (h : wX K (dn K W) cls d σ H) : W cls d σ H := by
  obtain ⟨rfl, c, hc, h⟩ := h
  exact h cls hc
def PostX (K : PySem.W.Frag) (mu : List Addr) (H : Hp) (r : Rs D) (Q : VK) (E : XK) : Prop := match r with
  | .bad => False
  | .ok d st' => ∀ mu' v H', Ext mu H mu' H' → Rp K H' mu' v d → RelSt K H' mu' st' → Q v H'
  | .exc c _ st' => ∀ mu' H' cls, PySem.W.nsIn K mainGlobals c = some (some cls) → Ext mu H mu' H' → RelSt K H' mu' st' → E cls none H'
/-- the promise of a def that may raise -/
def spX (K : PySem.W.Frag) (n : Nat) (c : Fm) : Sp := fun vs H Q E => vs.length = n ∧ ∃ mu ds st, Rps K H mu vs ds ∧ RelSt K H mu st ∧ PostX K mu H (c ds st) Q E
def cCall (c : Fm) (ev : Ev) (ds : List D) (st : Sto) : Rs D := match c ds st with
  | .ok d st2 => .ok d st2
  | .exc cn _ st2 => .exc cn ev st2
  | .bad => .bad
theorem spX_go {n : Nat} {c : Fm} {K : PySem.W.Frag} {σ : L2.St} {H : Hp} {Q : VK} {mu : List Addr} {ev : Ev} {st : Sto} {ds : List D} {vs : List V} (hl : ∀ ds st, c ds st ≠ .bad → ds.length = n) (he : RelEv K H mu σ ev) (hr : Rps K H mu vs ds) (hs : RelSt K H mu st)
    (hp : Post K W (RE K) mu H (cCall c ev ds st) Q) : spX K n c vs H Q (WE (wX K W) σ) := by
  unfold cCall at hp
  cases hc : c ds st with
  | bad => rw [hc] at hp; exact hp.elim
  | ok d st2 =>
    rw [hc] at hp
    refine ⟨(Rps.length hr).trans (hl ds st (by rw [hc]; intro z; cases z)), mu, ds, st, hr, hs, ?_⟩
    rw [hc]
    exact hp
  | exc cn ev' st2 =>
    rw [hc] at hp
    refine ⟨(Rps.length hr).trans (hl ds st (by rw [hc]; intro z; cases z)), mu, ds, st, hr, hs, ?_⟩
    rw [hc]
    exact fun mu' H' cls hcl e' s' => ⟨rfl, cn, hcl, hp mu' σ H' e' (he.mono e') s'⟩
/-- as spX_go, for a callee that lets nothing out -/
theorem spM_go {n : Nat} {c : Fm} {K : PySem.W.Frag} {H : Hp} {Q : VK} {E : XK} {mu : List Addr} {ev : Ev} {st : Sto} {ds : List D} {vs : List V} (hl : ∀ ds st d st', c ds st = .ok d st' → ds.length = n) (hr : Rps K H mu vs ds) (hs : RelSt K H mu st)
    (hp : Post K W (RE K) mu H (match c ds st with
      | .ok d st2 => .ok d st2
      | _ => .bad) Q) : spM K n c vs H Q E := by
  cases hc : c ds st with
  | bad => rw [hc] at hp; exact hp.elim
  | exc _ _ _ => rw [hc] at hp; exact hp.elim
  | ok d st2 =>
    rw [hc] at hp
    refine ⟨(Rps.length hr).trans (hl _ _ _ _ hc), mu, ds, st, hr, hs, ?_⟩
    rw [hc]
    exact hp
def mCallX (c : Fm) (mr : Mo (List D)) : Mo D := fun ev st => (mr ev st).bind fun ds st1 => cCall c ev ds st1
theorem me_callX {k n : Nat} {f : Addr} {fd : FuncData} {ps : List Str} {c : Fm} {x : Str} (tk : Takes X (wX X.K W)) (hl : ∀ ds st, c ds st ≠ .bad → ds.length = n) (F : FnOk X.prog X.w X.K X.mg X.base (L2.CX X.prog X.w) k f fd ps (spX X.K n c)) (hr : Room k X.A) (hg : Gl X x) (hm : X.mg x = some (.ref f)) (hk : PySem.W.keepIn X.K (.ref f) = true) (hb : Binds X.K fd ps [])
    (ha : PA X (e :: es) (tA X.K W mr)) (hdb : (x == ("__debug__" : Str)) = false := by decide) (he : starEach (e :: es) X.env = (false, eval e X.env) :: starEach es X.env := by rfl) (hpl : (backTo pos (starEach es X.env)).any (·.1) = false := by rfl) :
    PE X (.Call (.Name x p) (e :: es) [] pos) (tE X.K W (mCallX c mr)) := by
  refine PE.imp (pe_callS F hr hg hm hk hb (fun σ => passAt tk σ) ha hdb he hpl) fun σ H Q ⟨mu, ev, st, he, hst, hp⟩ => ?_
  exact ⟨mu, ev, st, he, hst, hp.bind fun ds st1 mu1 xs H1 _ e1 r1 s1 hp1 => spX_go hl (he.mono e1) r1 s1 hp1⟩
/-! ### a def that may raise -/
def fnX (n k : Nat) (body : Ms) : Fm := fun ds st => if ds.length = n then (match body (ds.map some ++ List.replicate (k - n) none) st with
  | .ok (.rt d, _) st' => .ok d st'
  | .ok (.nx, _) st' => .ok .non st'
  | .exc c _ st' => .exc c [] st'
  | _ => .bad) else .bad
theorem fnX_len {n k : Nat} {body : Ms} (ds : List D) (st : Sto) (h : fnX n k body ds st ≠ .bad) : ds.length = n := by
  unfold fnX at h
  split at h
  · assumption
  · exact absurd rfl h
theorem fnX_go {K : PySem.W.Frag} {N : List Str} {n k : Nat} {body : Ms} {vs : List V} {H : Hp} {Q : VK} {E : XK} (hk : N.length = k) (h : spX K n (fnX n k body) vs H Q E) : tS K (dn K fun cls d _ H => E cls d H) body { nx := fun _ H' => Q .non H', rt := Q } (start N vs) H := by
  obtain ⟨hl, mu, ds, st, hr, hs, hp⟩ := h
  have hd : ds.length = n := (Rps.length hr).symm.trans hl
  have hst := rel_start (N := N) hr
  rw [hk, hd] at hst
  refine ⟨mu, _, st, hst, hs, ?_⟩
  unfold fnX at hp
  rw [if_pos hd] at hp
  cases hb : body (ds.map some ++ List.replicate (k - n) none) st with
  | bad => rw [hb] at hp; exact hp
  | exc c e s =>
    rw [hb] at hp
    exact fun mu' σ' H' e' _ hs' cls hcl => hp mu' H' cls hcl e' hs'
  | ok r st' =>
    obtain ⟨fl, ev'⟩ := r
    rw [hb] at hp
    cases fl with
    | nx => exact fun mu' σ' H' e _ hs => hp mu' .non H' e .non hs
    | rt d => exact fun mu' σ' H' e _ hs v rv => hp mu' v H' e rv hs
    | bk => exact hp.elim
    | ct => exact hp.elim
theorem fn_okX {P : Program} {w : World} {K : PySem.W.Frag} {mg : Str → Option Value} {base : Heap} {x qual : Str} {st : Stmt} {f : Addr} {fd : FuncData} {N ps : List Str} {k n : Nat} {body : Ms} (F : Fun K x qual st f fd) (S : FnScope N ps (defScope st)) (hn : ps.length = n)
    (hb : ∀ (cdv : Value) (A : Around) (outer : List Env) (s : Shared) (H : Hp) (E : XK) (W : Wx), Room k (A.deeper (PyProof.Rows.envOfC qual (defScope st) s.heap.objs.size f cdv)) →
      Takes (cxOf (L2.CX P w) P w K mg base N qual (defScope st) f cdv A outer s H E) (wX K W) → PSs (cxOf (L2.CX P w) P w K mg base N qual (defScope st) f cdv A outer s H E) (defBody st) (tS K W body)) :
    FnOk P w K mg base (L2.CX P w) (k + 1) f fd ps (spX K n (fnX n N.length body)) := by
  refine F.okX S (fun vs H Q E h => h.1.trans hn.symm) (fun cdv A outer s H vs Q E hr h => ⟨_, hb cdv A outer s H E _ hr ?_, fnX_go rfl h⟩)
  exact (takes_of rfl rfl rfl rfl).imp wX_dn
theorem fn_zeroX {P : Program} {w : World} {K : PySem.W.Frag} {mg : Str → Option Value} {base : Heap} {f : Addr} {fd : FuncData} {ps : List Str} {n : Nat} : FnOk P w K mg base (L2.CX P w) 0 f fd ps (spX K n fun _ _ => .bad) := by
  have no : ∀ vs H Q E, ¬ spX K n (fun _ _ => .bad) vs H Q E := fun vs H Q E ⟨_, _, _, _, _, _, h⟩ => h
  exact ⟨fun vs H Q E h => absurd h (no vs H Q E), fun A outer s H args us vs Q E _ _ _ _ h => absurd h (no vs H Q E)⟩
/-! ### raise C('..') -/
def mRaise (c : Str) : Ms := fun ev st => .exc c ev st
theorem ms_raise {x m : Str} {C : Addr} {j : Nat} {p2 spos : Pos} {bmB : List Value} {B newId initId : String} (hc : X.calm = true) (tk : Takes X (wX X.K W)) (F : ExcBaseFacts B newId initId bmB) (hq : PySem.W.excIn X.K C bmB newId = true) (gC : X.mg x = some (.ref C)) (hC : clsIn X.K x C) (kC : PySem.W.keepIn X.K (.ref C) = true)
    (h1 : PySem.W.subIn X.K (.ref C) (.type "BaseException") = some true) (h2 : PySem.W.typeIn X.K (.ref C) = some (.type "type")) (hg : Gl X x) (hdb : (x == ("__debug__" : Str)) = false := by decide) :
    PS X (.Raise (some (.Call (.Name x p) [.Constant (.str m) j p2] [] pos)) none spos) (tS X.K W (mRaise x)) :=
  PS.imp (ps_raise hc tk (pmk_own F hq gC kC (raises_own h1 h2) hg hdb)) fun D σ H ⟨mu, ev, st, he, hs, hp⟩ => ⟨rfl, x, hC, hp mu σ H .refl he hs⟩
/-! ### try: .. except C: .. -/
def mTry (cat : Str → Option Bool) (body suite : Ms) : Ms := fun ev st => match body ev st with
  | .exc c ev1 st1 => (match cat c with
    | some true => (match suite ev1 st1 with
      | .ok r st2 => .ok r st2
      | _ => .bad)
    | some false => .exc c ev1 st1
    | none => .bad)
  | .ok r st1 => .ok r st1
  | .bad => .bad
theorem ms_try {x : Str} {cv : Value} {body suite : List Stmt} {b₀ : Stmt} {np : Pos} {cat : Str → Option Bool} (hs : X.stack = X.env :: X.outer) (hf : X.env.frame = some X.env.locals) (hn : Names X x cv) (tk : Takes X (wX X.K W))
    (hcat : ∀ c b cls, cat c = some b → PySem.W.nsIn X.K mainGlobals c = some (some cls) → PySem.W.exmOne X.K cls cv = some b)
    (hb : ∀ (W' : Wx) (pn : List (Addr × Obj)) (xe : Value → Shared → Prop), Takes (X.tr pn xe) (wX X.K W') → PassesOwn (model X.prog X.w) X.A X.env xe → PSs (X.tr pn xe) body (tS X.K W' s1))
    (hsu : ∀ (a : Addr) (pn : List (Addr × Obj)), PSs (X.suite a pn) (b₀ :: suite) (tS X.K W0 s2)) :
    PS X (.Try body [.ExceptHandler (some (.Name x np)) none (b₀ :: suite) pos'] [] [] pos) (tS X.K W (mTry cat s1 s2)) := by
  refine PS.imp (ps_try_only (tb := fun W => tS X.K (dn X.K W) s1) (ts := fun _ _ _ => tS X.K W0 s2) (Wout := wX X.K W) hs hf hn tk (fun W pn xe t po => hb _ pn xe (t.imp wX_dn) po) fun a oe cls d pn _ _ => hsu a _) fun D σ H ⟨mu, ev, st, he, hst, hp⟩ => ?_
  refine ⟨mu, ev, st, he, hst, ?_⟩
  unfold mTry at hp
  cases hr : s1 ev st with
  | bad => rw [hr] at hp; exact hp
  | ok r st1 => rw [hr] at hp; exact hp
  | exc c ev1 st1 =>
    rw [hr] at hp
    simp only at hp
    intro mu' σ' H' e' he' hs' cls hcl
    cases hct : cat c with
    | none => rw [hct] at hp; exact hp.elim
    | some bb =>
      rw [hct] at hp
      refine ⟨bb, hcat c bb cls hct hcl, fun eb _ _ => ?_, fun eb => ?_⟩
      · subst eb
        refine ⟨mu', ev1, st1, he', hs', ?_⟩
        simp only at hp
        cases hu : s2 ev1 st1 with
        | bad => rw [hu] at hp; exact hp
        | exc _ _ _ => rw [hu] at hp; exact hp.elim
        | ok r st2 => rw [hu] at hp; exact PostS.from hp e'
      · subst eb
        exact ⟨rfl, c, hcl, hp mu' σ' H' e' he' hs'⟩
/-! ### instances -/
theorem clsIn_one {K : PySem.W.Frag} {c : Str} {C C' : Addr} (h : clsIn K c C) (h' : clsIn K c C') : C' = C := by
  unfold clsIn at h h'
  rw [h] at h'
  cases h'
  rfl
theorem KD.look {K : PySem.W.Frag} {H : Hp} {mu : List Addr} {ws : List (Str × V)} {fs : List (Str × D)} (h : KD K H mu ws fs) (f : Str) : (∃ v d, ws.lookup f = some v ∧ fs.lookup f = some d ∧ Rp K H mu v d) ∨ (ws.lookup f = none ∧ fs.lookup f = none) := by
  unfold KD at h
  induction h with
  | nil => exact .inr ⟨rfl, rfl⟩
  | cons r t ih =>
    rename_i p q _ _
    obtain ⟨p1, p2⟩ := p
    obtain ⟨q1, q2⟩ := q
    obtain ⟨e, r⟩ := r
    simp only at e r
    subst e
    rw [List.lookup_cons, List.lookup_cons]
    cases hk : (f == p1) with
    | true => exact .inl ⟨_, _, rfl, rfl, r⟩
    | false => exact ih
def putFD (f : Str) (d : D) : List (Str × D) → List (Str × D)
  | [] => [(f, d)]
  | (g, x) :: r => if g = f then (g, d) :: r else (g, x) :: putFD f d r
theorem KD.putF {K : PySem.W.Frag} {H : Hp} {mu : List Addr} {v : V} {d : D} (q : Rp K H mu v d) (f : Str) : ∀ {ws : List (Str × V)} {fs : List (Str × D)}, KD K H mu ws fs → KD K H mu (L2.putF f v ws) (putFD f d fs)
  | _, _, .nil => .cons ⟨rfl, q⟩ .nil
  | _, _, .cons (a := (g, x)) (b := (g', x')) r t => by
    obtain ⟨e, r⟩ := r
    simp only at e r
    subst e
    unfold L2.putF putFD
    split
    · exact .cons ⟨rfl, q⟩ t
    · exact .cons ⟨rfl, r⟩ (KD.putF q f t)
def insAt (st : Sto) (cn : Str) (d : D) : Option (Nat × List (Str × D)) := match d with
  | .ref i => (match st[i]? with
    | some (.ins c fs) => if c = cn then some (i, fs) else none
    | _ => none)
  | _ => none
theorem insAt_ok {K : PySem.W.Frag} {H : Hp} {mu : List Addr} {st : Sto} {cn : Str} {C : Addr} {d : D} {v : V} {i : Nat} {fs : List (Str × D)} (hC : clsIn K cn C) (h : insAt st cn d = some (i, fs)) (r : Rp K H mu v d) (s : RelSt K H mu st) :
    ∃ a dx vs, v = .ref a ∧ mu[i]? = some a ∧ st[i]? = some (.ins cn fs) ∧ H a = some (.ins C dx vs) ∧ KD K H mu vs fs := by
  unfold insAt at h
  cases r with
  | ref q =>
    rename_i j a
    simp only at h
    obtain ⟨o, ho, ok⟩ := s.at q
    rw [ho] at h
    cases o with
    | ins c fs' =>
      simp only at h
      split at h
      · rename_i e
        subst e
        cases h
        obtain ⟨C', dx, vs, k, hh, kd⟩ := ok
        cases clsIn_one hC k
        exact ⟨a, dx, vs, rfl, q, ho, hh, kd⟩
      · cases h
    | _ => cases h
  | _ => cases h
/-- e.f -/
def mFld (cn f : Str) (ma : Mo D) : Mo D := fun ev st => (ma ev st).bind fun d st1 => match insAt st1 cn d with
  | some (_, fs) => (match fs.lookup f with
    | some v => .ok v st1
    | none => .bad)
  | none => .bad
theorem me_fld {cn f : Str} {C : Addr} (hC : clsIn X.K cn C) (cl : Cls X.K C) (na : NoAttr X.K C f) (ha : PE X e (tE X.K W ma)) (hb : attributeBase e f X.env (eval e X.env) = eval e X.env := by rfl) : PE X (.Attribute e f pos) (tE X.K W (mFld cn f ma)) := by
  refine PE.imp (pe_fld ha hb) fun σ H Q ⟨mu, ev, st, he, hst, hp⟩ => ?_
  refine ⟨mu, ev, st, he, hst, hp.bind fun u st1 mu1 x H1 _ e1 r1 s1 hp1 => ?_⟩
  cases hi : insAt st1 cn u with
  | none => rw [hi] at hp1; exact hp1.elim
  | some t =>
    obtain ⟨i, fs⟩ := t
    rw [hi] at hp1
    simp only at hp1
    obtain ⟨a, dx, vs, ev', hmu, hsi, hh, kd⟩ := insAt_ok hC hi r1 s1
    rcases kd.look f with ⟨v, d, q1, q2, r⟩ | ⟨_, q2⟩
    · rw [q2] at hp1
      exact ⟨a, C, dx, vs, v, ev', hh, cl, na, q1, hp1 _ _ _ .refl r s1⟩
    · rw [q2] at hp1
      exact hp1.elim
/-- e.f = v -/
def mFldSet (cn f : Str) (ma mv : Mo D) : Ms := fun ev st => (mv ev st).bind fun y st1 => (ma ev st1).bind fun d st2 => match insAt st2 cn d with
  | some (i, fs) => if fs.length < 1000 then .ok (.nx, ev) (st2.set i (.ins cn (putFD f y fs))) else .bad
  | none => .bad
theorem ms_fld {cn f : Str} {C : Addr} (hC : clsIn X.K cn C) (cl : Cls X.K C) (na : NoAttr X.K C f) (ha : PE X o (tE X.K W ma)) (hv : PE X e (tE X.K W mv)) (hs : swapsWith e (some (.Attribute o f pos')) pos.line X.env = pure false := by rfl) : PS X (.Assign [.Attribute o f pos'] e pos) (tS X.K W (mFldSet cn f ma mv)) := by
  refine PS.imp (ps_fld ha hv hs) fun D σ H ⟨mu, ev, st, he, hst, hp⟩ => ?_
  refine ⟨mu, ev, st, he, hst, hp.bind fun y st1 mu1 yv H1 _ e1 ry s1 hp1 => ?_⟩
  refine ⟨mu1, ev, st1, he.mono e1, s1, hp1.bind fun u st2 mu2 x H2 _ e2 rx s2 hp2 => ?_⟩
  cases hi : insAt st2 cn u with
  | none => rw [hi] at hp2; exact hp2.elim
  | some t =>
    obtain ⟨i, fs⟩ := t
    rw [hi] at hp2
    simp only at hp2
    split at hp2
    · rename_i hl
      obtain ⟨a, dx, vs, ev', hmu, hsi, hh, kd⟩ := insAt_ok hC hi rx s2
      have xt := ext_write s2 (List.mem_of_getElem? hmu) (fun ob w z => by rw [hh] at z; cases z) (.ins C dx (L2.putF f yv vs))
      refine ⟨a, C, dx, vs, ev', hh, cl, na, by rw [Paired.length kd]; exact hl, hp2 mu2 σ _ xt ((he.mono e1).mono e2 |>.mono xt) (s2.write hmu ⟨C, dx, _, hC, upd_same, ?_⟩)⟩
      exact KD.putF ((ry.mono e2).mono xt) f (kd.mono xt)
    · exact hp2.elim
/-! ### methods -/
/-- o.m(..), a method that may raise -/
def mMethX (cn m : Str) (c : Fm) (ma : Mo D) (mr : Mo (List D)) : Mo D := fun ev st => (ma ev st).bind fun d st1 => match insAt st1 cn d with
  | some (_, fs) => (match fs.lookup m with
    | none => (mr ev st1).bind fun ds st2 => cCall c ev (d :: ds) st2
    | some _ => .bad)
  | none => .bad
def mMeth (cn m : Str) (c : Fm) (ma : Mo D) (mr : Mo (List D)) : Mo D := fun ev st => (ma ev st).bind fun d st1 => match insAt st1 cn d with
  | some (_, fs) => (match fs.lookup m with
    | none => (mr ev st1).bind fun ds st2 => (match c (d :: ds) st2 with
      | .ok d st3 => .ok d st3
      | _ => .bad)
    | some _ => .bad)
  | none => .bad
def tMx (C : Addr) (m : Str) (sp : Sp) (E : L2.St → XK) (ta : TE) (t : TA) : TE := fun σ H Q => ta σ H fun x H1 => ∃ a dx fs, x = .ref a ∧ H1 a = some (.ins C dx fs) ∧ fs.lookup m = none ∧ t σ H1 fun vs H2 => sp (x :: vs) H2 Q (E σ)
section
variable {CX : CXT} {k n : Nat} {f C : Addr} {fd : FuncData} {ps : List Str} {sp : Sp} {E : L2.St → XK} {m : Str} {ta : TE} {t : TA}
theorem pe_mx {pl : Sem Bool} (ho : PE X o ta) (cl : Cls X.K C) (hm : Meth X.K C m f) (F : FnOk X.prog X.w X.K X.mg X.base CX k f fd ps sp) (hr : Room k X.A) (hb : Binds X.K fd ps []) (hx : ∀ σ, PassesAt CX X σ (E σ)) (ha : PA X (e :: es) t)
    (hst : starEach (e :: es) X.env = (false, eval e X.env) :: starEach es X.env := by rfl) (hpl : (backTo pos (starEach es X.env)).any (·.1) = false := by rfl)
    (ht : eval (.Call (.Attribute o m apos) (e :: es) [] pos) X.env = (do
      let u ← eval o X.env
      standAt apos.atName
      let (g, fst) ← holding [u] (getMethod u m pl)
      callWith pos g fst (backTo pos (starEach (e :: es) X.env)) (backToKw pos (keywordEach [] X.env))) := by rfl) :
    PE X (.Call (.Attribute o m apos) (e :: es) [] pos) (tMx C m sp E ta t) := by
  constructor
  intro pins s σ H Q I h
  refine PySem.W.methodCall_KW (pl := pl) (thn (ho.run pins s σ H _ I h) fun u sA ⟨x, HA, IA, rx, adr, dx, fl, ex, hA, lk, qA⟩ => ?_) ht
  subst ex
  cases rx
  refine getmeth_ok IA hA cl hm lk (PySem.W.callWith_K (first := [.ref adr]) (h₀ := X.base) I.ok.mod.kin hm.kp (thn (ha.run pos pins sA σ HA _ IA qA) fun us sB ⟨vs, HB, IB, rB, qB⟩ => ⟨IB.kIn, ?_⟩) hst hpl)
  exact run_fnS (us := .ref adr :: us) (vs := .ref adr :: vs) F hr hb (hx σ) IB (.cons rfl rB) qB
theorem pe_mx0 {pl : Sem Bool} (ho : PE X o ta) (cl : Cls X.K C) (hm : Meth X.K C m f) (F : FnOk X.prog X.w X.K X.mg X.base CX k f fd ps sp) (hr : Room k X.A) (hb : Binds X.K fd ps []) (hx : ∀ σ, PassesAt CX X σ (E σ))
    (ht : eval (.Call (.Attribute o m apos) [] [] pos) X.env = (do
      let u ← eval o X.env
      standAt apos.atName
      let (g, fst) ← holding [u] (getMethod u m pl)
      callWith pos g fst (backTo pos (starEach [] X.env)) (backToKw pos (keywordEach [] X.env))) := by rfl) :
    PE X (.Call (.Attribute o m apos) [] [] pos) (tMx C m sp E ta tNil) := by
  constructor
  intro pins s σ H Q I h
  refine PySem.W.methodCall_KW (pl := pl) (thn (ho.run pins s σ H _ I h) fun u sA ⟨x, HA, IA, rx, adr, dx, fl, ex, hA, lk, qA⟩ => ?_) ht
  subst ex
  cases rx
  refine getmeth_ok IA hA cl hm lk ?_
  exact PySem.W.callWith_K0 (first := [.ref adr]) IA.kIn hm.kp (run_fnS (us := [.ref adr]) (vs := [.ref adr]) F hr hb (hx σ) IA (.cons rfl .nil) qA)
end
end Ml

/-! methods and the making of instances -/
namespace Ml
open PySem L2
variable {X : Cx} {W : Wx} {a b c e o i : Expr} {es rest : List Expr} {pos p q apos cpos pos' : Pos} {ma mb mv : Mo D} {mr mq : Mo (List D)} {s1 s2 : Ms}
theorem pass0At {X : Cx} {σ : L2.St} {E : XK} : PassesAt CX0 X σ E := fun _ _ _ _ _ _ z => z.elim
section
variable {k n : Nat} {f C : Addr} {fd : FuncData} {ps : List Str} {cn m : Str} {g : Fm}
theorem methX_go {σ : L2.St} {H : Hp} {Q : VK} (hC : clsIn X.K cn C) (hl : ∀ ds st, g ds st ≠ .bad → ds.length = n) (h : tE X.K W (mMethX cn m g ma mr) σ H Q) : tMx C m (spX X.K n g) (WE (wX X.K W)) (tE X.K W ma) (tA X.K W mr) σ H Q := by
  obtain ⟨mu, ev, st, he, hst, hp⟩ := h
  refine ⟨mu, ev, st, he, hst, hp.bind fun u st1 mu1 x H1 _ e1 r1 s1 hp1 => ?_⟩
  cases hi : insAt st1 cn u with
  | none => rw [hi] at hp1; exact hp1.elim
  | some t =>
    obtain ⟨i, fs⟩ := t
    rw [hi] at hp1
    simp only at hp1
    obtain ⟨a, dx, vs, ev', hmu, hsi, hh, kd⟩ := insAt_ok hC hi r1 s1
    rcases kd.look m with ⟨v, d, q1, q2, r⟩ | ⟨q1, q2⟩
    · rw [q2] at hp1
      exact hp1.elim
    · rw [q2] at hp1
      refine ⟨a, dx, vs, ev', hh, q1, mu1, ev, st1, he.mono e1, s1, hp1.bind fun ds st2 mu2 xs H2 _ e2 r2 s2 hp2 => ?_⟩
      exact spX_go hl ((he.mono e1).mono e2) (.cons (r1.mono e2) r2) s2 hp2
theorem meth_go {σ : L2.St} {H : Hp} {Q : VK} {E : L2.St → XK} (hC : clsIn X.K cn C) (hl : ∀ ds st d st', g ds st = .ok d st' → ds.length = n) (h : tE X.K W (mMeth cn m g ma mr) σ H Q) : tMx C m (spM X.K n g) E (tE X.K W ma) (tA X.K W mr) σ H Q := by
  obtain ⟨mu, ev, st, he, hst, hp⟩ := h
  refine ⟨mu, ev, st, he, hst, hp.bind fun u st1 mu1 x H1 _ e1 r1 s1 hp1 => ?_⟩
  cases hi : insAt st1 cn u with
  | none => rw [hi] at hp1; exact hp1.elim
  | some t =>
    obtain ⟨i, fs⟩ := t
    rw [hi] at hp1
    simp only at hp1
    obtain ⟨a, dx, vs, ev', hmu, hsi, hh, kd⟩ := insAt_ok hC hi r1 s1
    rcases kd.look m with ⟨v, d, q1, q2, r⟩ | ⟨q1, q2⟩
    · rw [q2] at hp1
      exact hp1.elim
    · rw [q2] at hp1
      refine ⟨a, dx, vs, ev', hh, q1, mu1, ev, st1, he.mono e1, s1, hp1.bind fun ds st2 mu2 xs H2 _ e2 r2 s2 hp2 => ?_⟩
      exact spM_go (ev := ev) hl (.cons (r1.mono e2) r2) s2 hp2
theorem nil_go {σ : L2.St} {H : Hp} {Q : List V → Hp → Prop} (h : tA X.K W mNil σ H Q) : tNil σ H Q := by
  obtain ⟨mu, ev, st, he, hst, hp⟩ := h
  exact hp _ _ _ .refl .nil hst
/-- o.m(e, ..) -/
theorem me_methX {pl : Sem Bool} (tk : Takes X (wX X.K W)) (hC : clsIn X.K cn C) (cl : Cls X.K C) (hm : Meth X.K C m f) (hl : ∀ ds st, g ds st ≠ .bad → ds.length = n) (F : FnOk X.prog X.w X.K X.mg X.base (L2.CX X.prog X.w) k f fd ps (spX X.K n g)) (hr : Room k X.A) (hb : Binds X.K fd ps []) (ho : PE X o (tE X.K W ma)) (ha : PA X (e :: es) (tA X.K W mr))
    (hst : starEach (e :: es) X.env = (false, eval e X.env) :: starEach es X.env := by rfl) (hpl : (backTo pos (starEach es X.env)).any (·.1) = false := by rfl)
    (ht : eval (.Call (.Attribute o m apos) (e :: es) [] pos) X.env = (do
      let u ← eval o X.env
      standAt apos.atName
      let (g, fst) ← holding [u] (getMethod u m pl)
      callWith pos g fst (backTo pos (starEach (e :: es) X.env)) (backToKw pos (keywordEach [] X.env))) := by rfl) :
    PE X (.Call (.Attribute o m apos) (e :: es) [] pos) (tE X.K W (mMethX cn m g ma mr)) :=
  PE.imp (pe_mx (pl := pl) ho cl hm F hr hb (fun σ => passAt tk σ) ha hst hpl ht) fun _ _ _ h => methX_go hC hl h
theorem me_methX0 {pl : Sem Bool} (tk : Takes X (wX X.K W)) (hC : clsIn X.K cn C) (cl : Cls X.K C) (hm : Meth X.K C m f) (hl : ∀ ds st, g ds st ≠ .bad → ds.length = n) (F : FnOk X.prog X.w X.K X.mg X.base (L2.CX X.prog X.w) k f fd ps (spX X.K n g)) (hr : Room k X.A) (hb : Binds X.K fd ps []) (ho : PE X o (tE X.K W ma))
    (ht : eval (.Call (.Attribute o m apos) [] [] pos) X.env = (do
      let u ← eval o X.env
      standAt apos.atName
      let (g, fst) ← holding [u] (getMethod u m pl)
      callWith pos g fst (backTo pos (starEach [] X.env)) (backToKw pos (keywordEach [] X.env))) := by rfl) :
    PE X (.Call (.Attribute o m apos) [] [] pos) (tE X.K W (mMethX cn m g ma mNil)) := by
  refine PE.imp (pe_mx0 (pl := pl) ho cl hm F hr hb (fun σ => passAt tk σ) ht) fun σ H Q h => ?_
  obtain ⟨mu, ev, st, he, hst, hp⟩ := methX_go hC hl h
  refine ⟨mu, ev, st, he, hst, ?_⟩
  revert hp
  cases ma ev st with
  | bad => exact id
  | exc _ _ _ => exact id
  | ok d st1 => exact fun hp mu1 x H1 e1 r1 s1 => let ⟨a, dx, fs, q1, q2, q3, q4⟩ := hp mu1 x H1 e1 r1 s1; ⟨a, dx, fs, q1, q2, q3, nil_go q4⟩
theorem me_meth {pl : Sem Bool} (hC : clsIn X.K cn C) (cl : Cls X.K C) (hm : Meth X.K C m f) (hl : ∀ ds st d st', g ds st = .ok d st' → ds.length = n) (F : FnOk X.prog X.w X.K X.mg X.base CX0 k f fd ps (spM X.K n g)) (hr : Room k X.A) (hb : Binds X.K fd ps []) (ho : PE X o (tE X.K W ma)) (ha : PA X (e :: es) (tA X.K W mr))
    (hst : starEach (e :: es) X.env = (false, eval e X.env) :: starEach es X.env := by rfl) (hpl : (backTo pos (starEach es X.env)).any (·.1) = false := by rfl)
    (ht : eval (.Call (.Attribute o m apos) (e :: es) [] pos) X.env = (do
      let u ← eval o X.env
      standAt apos.atName
      let (g, fst) ← holding [u] (getMethod u m pl)
      callWith pos g fst (backTo pos (starEach (e :: es) X.env)) (backToKw pos (keywordEach [] X.env))) := by rfl) :
    PE X (.Call (.Attribute o m apos) (e :: es) [] pos) (tE X.K W (mMeth cn m g ma mr)) :=
  PE.imp (pe_mx (E := fun _ => E0) (pl := pl) ho cl hm F hr hb (fun σ => pass0At) ha hst hpl ht) fun _ _ _ h => meth_go hC hl h
theorem me_meth0 {pl : Sem Bool} (hC : clsIn X.K cn C) (cl : Cls X.K C) (hm : Meth X.K C m f) (hl : ∀ ds st d st', g ds st = .ok d st' → ds.length = n) (F : FnOk X.prog X.w X.K X.mg X.base CX0 k f fd ps (spM X.K n g)) (hr : Room k X.A) (hb : Binds X.K fd ps []) (ho : PE X o (tE X.K W ma))
    (ht : eval (.Call (.Attribute o m apos) [] [] pos) X.env = (do
      let u ← eval o X.env
      standAt apos.atName
      let (g, fst) ← holding [u] (getMethod u m pl)
      callWith pos g fst (backTo pos (starEach [] X.env)) (backToKw pos (keywordEach [] X.env))) := by rfl) :
    PE X (.Call (.Attribute o m apos) [] [] pos) (tE X.K W (mMeth cn m g ma mNil)) := by
  refine PE.imp (pe_mx0 (E := fun _ => E0) (pl := pl) ho cl hm F hr hb (fun σ => pass0At) ht) fun σ H Q h => ?_
  obtain ⟨mu, ev, st, he, hst, hp⟩ := meth_go (E := fun _ => E0) hC hl h
  refine ⟨mu, ev, st, he, hst, ?_⟩
  revert hp
  cases ma ev st with
  | bad => exact id
  | exc _ _ _ => exact id
  | ok d st1 => exact fun hp mu1 x H1 e1 r1 s1 => let ⟨a, dx, fs, q1, q2, q3, q4⟩ := hp mu1 x H1 e1 r1 s1; ⟨a, dx, fs, q1, q2, q3, nil_go q4⟩
/-- C(e, ..), whose __init__ lets nothing out -/
def mNew (cn : Str) (c : Fm) (mr : Mo (List D)) : Mo D := fun ev st => (mr ev st).bind fun ds st1 => match c (.ref st1.length :: ds) (st1 ++ [.ins cn []]) with
  | .ok .non st2 => .ok (.ref st1.length) st2
  | _ => .bad
theorem me_new {x : Str} (M : Mk X.K C f) (hC : clsIn X.K x C) (hl : ∀ ds st d st', g ds st = .ok d st' → ds.length = n) (F : FnOk X.prog X.w X.K X.mg X.base CX0 k f fd ps (spM X.K n g)) (hr : Room (k + 1) X.A) (hg : Gl X x) (hm : X.mg x = some (.ref C)) (hb : Binds X.K fd ps [])
    (ha : PA X (e :: es) (tA X.K W mr)) (hdb : (x == ("__debug__" : Str)) = false := by decide) (he : starEach (e :: es) X.env = (false, eval e X.env) :: starEach es X.env := by rfl) (hpl : (backTo pos (starEach es X.env)).any (·.1) = false := by rfl) :
    PE X (.Call (.Name x p) (e :: es) [] pos) (tE X.K W (mNew x g mr)) := by
  refine PE.imp (pe_make M F hr hg hm hb .nil pass0 ha hdb he hpl) fun σ H Q ⟨mu, ev, st, he, hst, hp⟩ => ?_
  refine ⟨mu, ev, st, he, hst, hp.bind fun ds st1 mu1 xs H1 _ e1 r1 s1 hp1 => ?_⟩
  intro y dx hy hdx ne
  rw [List.append_nil]
  have hy1 : upd H1 dx (.own y) y = none := by rw [upd_ne (Ne.symm ne)]; exact hy
  have x1 : Ext mu1 H1 mu1 (upd H1 dx (.own y)) := ext_new hdx _
  have x2 := ext_push (mu := mu1) hy1 (.ins C dx [])
  have s2 := (s1.new hdx (.own y)).push hy1 (o := .ins C dx []) (ob := .ins x []) ⟨C, dx, [], hC, upd_same, .nil⟩
  have ry : Rp X.K (upd (upd H1 dx (.own y)) y (.ins C dx [])) (mu1 ++ [y]) (.ref y) (.ref st1.length) := .ref (by rw [← s1.len, List.getElem?_append_right (Nat.le_refl _)]; simp)
  cases hc : g (.ref st1.length :: ds) (st1 ++ [.ins x []]) with
  | bad => rw [hc] at hp1; exact hp1.elim
  | exc _ _ _ => rw [hc] at hp1; exact hp1.elim
  | ok d st2 =>
    rw [hc] at hp1
    have rs := Rps.cons ry ((r1.mono x1).mono x2)
    refine ⟨(Rps.length rs).trans (hl _ _ _ _ hc), _, _, _, rs, s2, ?_⟩
    rw [hc]
    cases d with
    | non =>
      intro mu3 v H3 e3 rv s3
      cases rv
      exact ⟨rfl, hp1 mu3 _ H3 ((x1.trans x2).trans e3) (ry.mono e3) s3⟩
    | _ => exact hp1.elim
end
end Ml

/-! for word in TAB -/
namespace Ml
open PySem L2
variable {X : Cx} {W : Wx}
theorem tabE_at {P : Params} : ∀ {tab : List (String × String)} {es : List DictEntry}, tabE P tab es → es.length = tab.length ∧ ∀ (i : Nat) (p : String × String), tab[i]? = some p → ∃ en t, es[i]? = some en ∧ en.key = .str (Str.ofString p.1) t
  | [], [], _ => ⟨rfl, fun i p e => by simp at e⟩
  | r :: ps, e :: es, ⟨⟨t, u, q⟩, h⟩ => by
    obtain ⟨h1, h2⟩ := tabE_at h
    refine ⟨by simp [h1], fun i p e' => ?_⟩
    cases i with
    | zero =>
      simp only [List.getElem?_cons_zero, Option.some.injEq] at e'
      subst e'
      exact ⟨e, t, rfl, by rw [q]⟩
    | succ j =>
      simp only [List.getElem?_cons_succ] at e' ⊢
      exact h2 j p e'
  | [], _ :: _, h => h.elim
  | _ :: _, [], h => h.elim
/-- the words of a table, in their order -/
def Itab (tab : List (String × String)) : It := ⟨fun j _ => j < tab.length, fun j H x H' => H' = H ∧ ∃ pr, tab[j]? = some pr ∧ x = .str (Str.ofString pr.1), fun j _ => tab.length ≤ j⟩
theorem turn_tab {P : Program} {w : World} {K : PySem.W.Frag} {tg : Expr} {d it : Addr} {tab : List (String × String)} {es : Array DictEntry} {n : Nat} (hl : K.lookup d = some ⟨.type "dict", none, .dict es n, #[]⟩) (ht : tabE w.params tab es.toList) :
    Turn P w K tg (Itab tab) [it] it (fun j h => h.IsKeyIter it d j tab.length n) where
  mem := by simp
  obj := fun j h st b hb => by
    cases (show b = it by simpa using hb)
    obtain ⟨oi, hget, _, dat⟩ := st
    exact ⟨oi, hget, fun v z => by rw [dat] at z; cases z⟩
  keep := fun j h h' st kp => st.at fun oi hget => kp it (by simp) oi hget
  item := by
    intro Y eP ew eK calm j pins s σ H E I fp st lt
    subst eP ew eK
    obtain ⟨g0, g1, g2, g3, g4, g5⟩ := fp it (by simp)
    obtain ⟨len, at_⟩ := tabE_at ht
    have lt : j < tab.length := lt
    obtain ⟨en, t, hen, hkey⟩ := at_ j _ (List.getElem?_eq_getElem lt)
    refine next_key_item st (I.kIn _ _ hl) rfl (by rw [← Array.length_toList]; exact len) (by rw [← Array.getElem?_toList]; exact hen) fun h' st' same => ?_
    have J : Inv Y pins σ H { s with heap := h' } := I.turned (t' := s.toks) (fun b ob nb hget => (same.2 b nb).trans hget) g0 g1 g3 g4 g5
    obtain ⟨oi, hget, hcl, dat⟩ := id st'
    exact ⟨en.key, rfl, go_of (s := { s with heap := h' }) hget hcl dat (by decide) ⟨.str (Str.ofString tab[j].1), H, J, ⟨t, hkey⟩, ⟨rfl, _, List.getElem?_eq_getElem lt, rfl⟩, st', fun b hb => (fp b hb).1⟩⟩
  done := by
    intro Y eP ew eK calm j pins s σ H E I fp st ge
    subst eP ew eK
    obtain ⟨g0, g1, g2, g3, g4, g5⟩ := fp it (by simp)
    obtain ⟨len, _⟩ := tabE_at ht
    exact next_key_end (I.ok.hd calm) st (I.kIn _ _ hl) rfl (by rw [← Array.length_toList]; exact len) ge fun h' but => ⟨rfl, I.turned (t' := s.toks) (fun b ob nb hget => but b ob nb hget) g0 g1 g3 g4 g5⟩
  self := fun A j s Q E st h => wpAny_pyIter_keyiter st h
def iTab (d : Addr) (tab : List (String × String)) (td : TE) : TI := fun σ H R => td σ H fun x H1 => x = .ref d ∧ R (Itab tab) H1
theorem pi_tab {tg e : Expr} {td : TE} {d : Addr} {tab : List (String × String)} (T : Tab X.K X.w d tab) (he : PE X e td) : PI X tg e (iTab d tab td) := by
  constructor
  intro pins s σ H R I h
  refine thn (he.run pins s σ H _ I h) fun u sA ⟨x, HA, IA, rx, ex, qA⟩ => ?_
  subst ex
  cases rx
  obtain ⟨es, n, hl, ht⟩ := T.at_
  refine iter_keys T.low (IA.kIn _ _ hl) ⟨rfl, rfl, rfl⟩ rfl (pi_one (tk := sA.toks) IA _ (turn_tab hl ht) ⟨_, Heap.get?_push_size _ rfl, rfl, ?_⟩ qA)
  have := (tabE_at ht).1
  rw [Array.length_toList] at this
  rw [this] <;> rfl
def mTabI (tab : List (String × String)) : Mo (List D) := fun _ st => .ok (tab.map fun pr => D.str (Str.ofString pr.1)) st
theorem iter_tab {K : PySem.W.Frag} {H0 : Hp} {tab : List (String × String)} : IterOk K H0 (Itab tab) (tab.map fun pr => D.str (Str.ofString pr.1)) (fun _ _ => True) where
  go := fun H mu i x _ e => by
    have := (List.getElem?_eq_some_iff.mp e).1
    show i < tab.length
    simpa using this
  yld := fun H mu st i x v H' s _ e ⟨eH, pr, h1, h2⟩ => by
    subst eH h2
    rw [List.getElem?_map, h1] at e
    cases e
    exact ⟨.refl, .str _, s⟩
  stop := fun H mu _ => by show tab.length ≤ _; simp
  keep := fun _ _ _ _ _ _ => trivial
  tmp := fun _ _ _ _ _ _ _ _ _ => trivial
theorem mi_tab {tg e : Expr} {d : Addr} {tab : List (String × String)} (T : Tab X.K X.w d tab) (hl : tab.length ≤ lim) (he : PE X e (tC (.ref d))) : PI X tg e (tI X.K W (mTabI tab)) :=
  PI.imp (pi_tab T he) fun σ H R ⟨mu, ev, st, he, hst, hp⟩ => ⟨rfl, hp mu _ H .refl ⟨by simpa using hl, _, iter_tab, trivial⟩ hst⟩
end Ml

/-! a sign in a text, int(text) -/
namespace Ml
open PySem L2
variable {X : Cx} {W : Wx}
def gNinS : G2 := fun a b st => match a, b with
  | .str x, .str z => (match x.cps.toList with
    | [c] => some (.bl (!decide (c ∈ z.cps.toList)), st)
    | _ => none)
  | _, _ => none
theorem opS_ninS {K : PySem.W.Frag} : OpS K (fun x y H Q => ∃ (c : Nat) (z : Str), x = .str ⟨#[c]⟩ ∧ y = .str z ∧ Q (.bl (!decide (c ∈ z.cps.toList))) H) gNinS := by
  intro mu H st st' x y a b d Q hs hx hy e k
  unfold gNinS at e
  split at e
  · rename_i xs z
    cases hx
    cases hy
    split at e
    · rename_i c hc
      cases e
      have ex : xs = ⟨#[c]⟩ := by
        obtain ⟨⟨l⟩⟩ := xs
        simp only at hc
        rw [hc]
      exact ⟨c, z, by rw [ex], rfl, k _ _ _ .refl (.bl _) hs⟩
    · cases e
  · cases e
def gIntS : GA := fun ds st => match ds with
  | [.str x] => if x.length ≤ 640 then (match PySem.intText? x with
    | some n => some (.int n, st)
    | none => none) else none
  | _ => none
theorem callS_intS {K : PySem.W.Frag} : CallS K (fun xs H Q => ∃ a n, xs = [.str a] ∧ PySem.intText? a = some n ∧ a.length ≤ 640 ∧ Q (.int n) H) gIntS := by
  intro mu H st st' xs as d Q hs hx e k
  unfold gIntS at e
  split at e
  · rename_i x
    split at e
    · rename_i hl
      split at e
      · rename_i n hn
        cases e
        cases hx with
        | cons h1 h2 =>
          cases h2
          cases h1
          exact ⟨x, n, rfl, hn, hl, k _ _ _ .refl (.int _) hs⟩
      · cases e
    · cases e
  · cases e
end Ml

/-! C(..) at a level: two levels of room are needed -/
namespace Ml
open PySem L2
variable {X : Cx} {W : Wx} {e : Expr} {es : List Expr} {pos p : Pos} {mr : Mo (List D)}
def mNewG (lv : Nat) (cn : Str) (c : Fm) (mr : Mo (List D)) : Mo D := fun ev st => if 2 ≤ lv then mNew cn c mr ev st else .bad
theorem me_newG {lv n : Nat} {f C : Addr} {fd : FuncData} {ps : List Str} {g : Fm} {x : Str} (M : Mk X.K C f) (hC : clsIn X.K x C) (hl : ∀ ds st d st', g ds st = .ok d st' → ds.length = n) (F : FnOk X.prog X.w X.K X.mg X.base CX0 1 f fd ps (spM X.K n g)) (hr : Room lv X.A) (hg : Gl X x) (hm : X.mg x = some (.ref C)) (hb : Binds X.K fd ps [])
    (ha : PA X (e :: es) (tA X.K W mr)) (hdb : (x == ("__debug__" : Str)) = false := by decide) (he : starEach (e :: es) X.env = (false, eval e X.env) :: starEach es X.env := by rfl) (hpl : (backTo pos (starEach es X.env)).any (·.1) = false := by rfl) :
    PE X (.Call (.Name x p) (e :: es) [] pos) (tE X.K W (mNewG lv x g mr)) := by
  by_cases h : 2 ≤ lv
  · refine PE.imp (me_new M hC hl F (hr.mono h) hg hm hb ha hdb he hpl) fun σ H Q ⟨mu, ev, st, k1, k2, hp⟩ => ⟨mu, ev, st, k1, k2, ?_⟩
    unfold mNewG at hp
    rw [if_pos h] at hp
    exact hp
  · constructor
    intro pins s σ H Q I hw
    obtain ⟨mu, ev, st, k1, k2, hp⟩ := hw
    unfold mNewG at hp
    rw [if_neg h] at hp
    exact hp.elim
end Ml
namespace Ml
open PySem L2
theorem fnM_ne {n k : Nat} {body : Ms} (ds : List D) (st : Sto) (h : fnM n k body ds st ≠ .bad) : ds.length = n := by
  unfold fnM at h
  split at h
  · assumption
  · exact absurd rfl h
theorem takesNone {X : Cx} : Takes X (wX X.K W0) := takes0.imp fun _ _ _ _ ⟨_, _, _, z⟩ => z
end Ml

/-! an exception that a clause keeps: try .. except C as e: kept = e; isinstance of it -/
namespace Ml
open PySem L2 PySem.Spec PyProof.Rows
variable {X : Cx} {W : Wx} {pins : List (Addr × Obj)} {σ : L2.St} {H : Hp} {s : Shared}
/-- a new object that stands untracked is tracked from here on -/
theorem track {a : Addr} {oe : Obj} {vs : Array Value} {cls : Value} (I : Inv X pins σ H s) (ho : s.heap.get? a = some oe) (hz : Zc cls none oe) (hd : oe.data = .fields vs) (hn : H a = none) (h0 : X.s_0.heap.get? a = none) (nL : a ≠ X.env.locals) (np : ∀ p ∈ X.pn ++ pins, p.1 ≠ a) : Inv X pins σ (upd H a (ExK cls a)) s := by
  have b0 : ∀ b o, X.s_0.heap.get? b = some o → b ≠ a := fun b o e z => by rw [z, h0] at e; cases e
  have nw : ObjOk X.prog X.w (upd H a (ExK cls a)) s.heap a (ExK cls a) := ⟨⟨oe, vs, ho, hz, hd⟩, ⟨oe, ho⟩, fun _ _ ⟨o, v, q, r⟩ k => ⟨o, v, k o q, r⟩⟩
  have hH : ∀ b u, H b = some u → upd H a (ExK cls a) b = some u := fun b u e => by rw [upd_ne (ne_of_none e hn)]; exact e
  refine ⟨I.ok, I.os, I.bare, ⟨I.base.keep, I.base.slot, fun b o e n q => ?_, I.base.there, fun b xs e => hH b _ (I.base.tups b xs e), fun b o u e => hH b _ (I.base.frzs b o u e), fun b ps e => ?_⟩, I.loc, I.cell, ?_, fun x c e => ?_, fun p hp => ?_, I.hok.laidN (fun _ _ q => q) hn nw, I.len⟩
  · rw [upd_ne (b0 b o e)]; exact I.base.free b o e n q
  · obtain ⟨m, q⟩ := I.base.tbls b ps e
    exact ⟨m, hH b _ q⟩
  · rw [upd_ne (Ne.symm nL)]; exact I.free
  · obtain ⟨v, oc, hoc, hcd⟩ := I.cell x c e
    have nc : c ≠ a := fun z => by
      rw [z, ho] at hoc
      cases hoc
      rw [hd] at hcd; cases hcd
    rw [upd_ne nc]; exact I.freeC x c e
  · obtain ⟨k1, k2, k3⟩ := I.pin p hp
    exact ⟨k1, by rw [upd_ne (np p hp)]; exact k2, k3⟩
/-- what a clause «except x as n» that keeps its exception wishes -/
def wKp (K : PySem.W.Frag) (c : Value) (i : Nat) (ts : Addr → TS) (Wo : WX) (D : Ends) : WX := fun cls d σ H => ∃ b, PySem.W.exmOne K cls c = some b ∧
  (b = true → d = none ∧ ∀ a, H a = none → ts a { nx := fun σ' H' => D.nx (σ'.set i none) (upd H' a (ExK cls a)), rt := fun _ _ => False } (σ.set i (some (.ref a))) H) ∧ (b = false → Wo cls d σ H)
section
variable {x n : Str} {c : Value} {i : Nat} {body suite : List Stmt} {b₀ : Stmt} {np pos pos' : Pos} {tb : WX → TS} {ts : Addr → TS} {Wo : WX}
theorem ps_keep (hx : X.ex = []) (hs : X.stack = X.env :: X.outer) (hf : X.env.frame = some X.env.locals) (hN : X.N.Nodup) (hi : X.N[i]? = some n) (hln : X.env.kindOf n = some .local) (hc : Names X x c) (tk : Takes X Wo)
    (hb : ∀ (V : WX) (pn : List (Addr × Obj)) (xe : Value → Shared → Prop), Takes (X.tr pn xe) V → PassesOwn (model X.prog X.w) X.A X.env xe → PSs (X.tr pn xe) body (tb V))
    (hsu : ∀ (a : Addr) (oe : Obj) (pn : List (Addr × Obj)), PSs (X.suite a ((a, oe) :: pn)) (b₀ :: suite) (ts a)) :
    PS X (.Try body [.ExceptHandler (some (.Name x np)) (some n) (b₀ :: suite) pos'] [] [] pos) (fun D σ H => tb (wKp X.K c i ts Wo D) D σ H) := by
  constructor
  intro pins s σ H D I h
  have ok := I.ok
  have frm : X.A.frames = some (X.env :: X.outer) := by rw [ok.frames, hs]
  have lcl : Loc X.env.scope n := .inl hln
  refine wpAny_Try_except (wpAny_mono ((hb (wKp X.K c i ts Wo D) (X.pn ++ pins) (fun e t1 => wpAny (model X.prog X.w) X.A (noteFrame e X.env) (fun _ t2 => wpAny (model X.prog X.w) X.A (setFlight e none) (fun _ t3 => wpAny (model X.prog X.w) X.A (handleBy e X.env [.ExceptHandler (some (.Name x np)) (some n) (b₀ :: suite) pos']) (SP X pins D) X.xe t3) X.xe t2) X.xe t1) (fun u s' air => ?_) PassesOwn.looking).run [] s σ H D (I.toTry _) h) (fun f s1 e1 => ?_) (fun e s1 he => he))
  · obtain ⟨a, B, sI, pins', τ, G, cls, d, rfl, J0, nb, up, sky, na, os, ag, b, exb, yes, no⟩ := air
    have J : Inv X pins τ G sI := J0.ofTry ok
    have sky1 : Sky B (X.env :: X.outer) a (Zc cls d) X.env.locals s'.heap := by rw [← hs]; exact sky
    have gr : B.get? a = none := by rcases sky1 with q | q | q; exact q.2.1; exact q.2.1; exact q.2.1
    show wpAny (model X.prog X.w) X.A (noteFrame (.ref a) X.env) _ _ _
    refine Sky.land Zc.steady frm hf sky1 fun h3 f3 up3 => ?_
    have J3 : Inv X pins τ G { s' with heap := h3 } := J.landed nb f3.1 (up.trans up3) os ag
    obtain ⟨o3, v3, g3, z3, d3⟩ := f3.there
    have nfr : a ∉ frs (X.env :: X.outer) := fun hm => by
      obtain ⟨_, o', e', hnf⟩ := f3.2.2.1.mem hm
      rw [g3] at e'; cases e'; exact hnf _ d3
    have nL : a ≠ X.env.locals := fun z => nfr (List.mem_filterMap.mpr ⟨X.env, List.mem_cons_self, by rw [hf, z]⟩)
    have nF : a ∉ X.fs := fun hm => by
      obtain ⟨e, he, q⟩ := List.mem_filterMap.mp hm
      exact nfr (List.mem_filterMap.mpr ⟨e, List.mem_cons_of_mem _ he, q⟩)
    have nI : sI.heap.get? a = none := by
      cases e : sI.heap.get? a with
      | none => rfl
      | some o =>
        have := nb a o e (by rw [hs]; exact nfr)
        rw [gr] at this; cases this
    have n0 : X.s_0.heap.get? a = none := by
      cases e : X.s_0.heap.get? a with
      | none => rfl
      | some o =>
        obtain ⟨o', q⟩ := J.base.there a o e (by rw [hx]; exact fun z => nomatch z)
        rw [nI] at q; cases q
    have npn : ∀ p ∈ X.pn ++ pins, p.1 ≠ a := fun p hp z => by
      have := (J.pin p hp).1
      rw [z, nI] at this; cases this
    have S3 := J3.suite g3 d3 na nL nF
    refine wpAny_handleBy_cons (codeAny_handlers_test ?_) (by intro q; cases q)
    have LM := PySem.W.exm_one (M := model X.prog X.w) (J3.kIn) (fun A Q E s k q => wpAny_typeOf_ref (k _ _ g3) (by rw [z3.1]; exact q)) exb
    have test : ∀ {Q : Value → Shared → Prop} {E : Value → Shared → Prop}, Q c { s' with heap := h3 } → wpAny (model X.prog X.w) (X.A.mark (some (.ref a))) (eval (.Name x np) X.env) Q E { s' with heap := h3 } := fun {Q E} q => by
      obtain ⟨k1, k2, k3 | ⟨k3, k4, k5⟩⟩ := hc
      · exact ld_glob (X := X.suite a ((a, o3) :: (X.pn ++ pins))) S3 k1 k3 q k2
      · exact ld_blt (X := X.suite a ((a, o3) :: (X.pn ++ pins))) S3 k1 k3 k4 q k5 k2
    refine test (LM.here ?_)
    cases b with
    | true =>
      obtain ⟨ed, ye2⟩ := yes rfl
      subst ed
      refine codeAny_handlers_suite_as (HandSPX.lands_againZ f3 fun h4 f4 up4 => ?_)
      have J4 : Inv X pins τ G { s' with heap := h4 } := J.landed nb f4.1 ((up.trans up3).trans up4) os ag
      obtain ⟨o4, v4, g4, z4, d4⟩ := f4.there
      refine store_ok (X := X.suite a ((a, o4) :: (X.pn ++ pins))) (v := .ref a) (J4.suite g4 d4 na nL nF) hN hi lcl rfl (fun s5 S5 => ?_) (.inr hln)
      refine wpAny_mono ((hsu a o4 (X.pn ++ pins)).run [] s5 _ G _ S5 (ye2 a na)) (fun f s6 e6 => ?_) (fun _ _ z => False.elim z)
      cases f with
      | next =>
        obtain ⟨τ6, G6, S6, q6⟩ := e6
        obtain ⟨k1, k2, _⟩ := S6.pin (a, o4) (List.mem_append.mpr (.inl List.mem_cons_self))
        exact gone_ok (track (S6.unsuite ok) k1 z4 d4 k2 n0 nL npn) hN hi hln fun s7 J7 => ⟨_, _, J7, q6⟩
      | brk => obtain ⟨_, _, _, q6⟩ := e6; exact q6.elim
      | cont => obtain ⟨_, _, _, q6⟩ := e6; exact q6.elim
      | ret u => obtain ⟨_, _, _, _, _, q6⟩ := e6; exact q6.elim
    | false =>
      show wpAny _ X.A (handleBy (.ref a) X.env []) _ _ _
      obtain ⟨k1, k2, k3, oe, vs, T, oT, tt, he, hz, hd, h1, hr⟩ := id f3
      refine wpAny_handleBy_nil ?_
      unfold PySem.passOn
      refine wpAny_bind (wpAny_field he hd h1 ?_)
      rw [if_neg (show ¬ ((Value.ref T == Value.none) = true) from by simp)]
      have fin : wpAny (model X.prog X.w) X.A (setFlight (.ref a) X.env.frame) (fun _ t4 => wpAny (model X.prog X.w) X.A (throw (.ref a) : Sem Flow) (SP X pins D) X.xe t4) X.xe { s' with heap := h3 } := by
        rw [hf]
        exact HandSPX.setFlight_upZ f3 fun h4 hh4 up4 => wpAny_throw (tk _ _ ⟨a, B, sI, pins, τ, G, cls, d, rfl, J, nb, (up.trans up3).trans up4, .inr (.inr (by rw [hs]; exact hh4)), na, os, ag, no rfl⟩)
      first
        | exact wpAny_bind (wpAny_pure (wpAny_bind fin))
        | exact wpAny_bind fin
  · cases f with
    | next => obtain ⟨τ, G, J0, q⟩ := e1; exact wpAny_execs_nil ⟨τ, G, J0.ofTry ok, q⟩
    | brk => obtain ⟨τ, G, J0, q⟩ := e1; exact ⟨τ, G, J0.ofTry ok, q⟩
    | cont => obtain ⟨τ, G, J0, q⟩ := e1; exact ⟨τ, G, J0.ofTry ok, q⟩
    | ret u => obtain ⟨v, τ, G, J0, r, q⟩ := e1; exact ⟨v, τ, G, J0.ofTry ok, r, q⟩
end
/-! ### try: .. except C as e: kept = e -/
def mTryK (cat : Str → Option Bool) (i j : Nat) (body : Ms) : Ms := fun ev st => match body ev st with
  | .exc c ev1 st1 => (match cat c with
    | some true => if i < ev1.length then .ok (.nx, (ev1.set j (some (.ref st1.length))).set i none) (st1 ++ [.exc c]) else .bad
    | some false => .exc c ev1 st1
    | none => .bad)
  | .ok r st1 => .ok r st1
  | .bad => .bad
theorem relEv_none {K : PySem.W.Frag} {mu : List Addr} {H : Hp} {σ : L2.St} {ev : Ev} (r : RelEv K H mu σ ev) (i : Nat) : RelEv K H mu (σ.set i none) (ev.set i none) := by
  refine ⟨by simp [r.1], fun j e q => ?_⟩
  by_cases hj : i = j
  · subst hj
    by_cases hl : i < ev.length
    · rw [List.getElem?_set_self hl] at q; cases q
    · rw [List.getElem?_eq_none (by simpa using hl)] at q; cases q
  · rw [List.getElem?_set_ne hj] at q ⊢
    exact r.2 j e q
theorem ms_tryK {x n y : Str} {C : Addr} {body : List Stmt} {i j : Nat} {np pos pos' p1 p2 p3 : Pos} {cat : Str → Option Bool} {s1 : Ms} (hx : X.ex = []) (hs : X.stack = X.env :: X.outer) (hf : X.env.frame = some X.env.locals) (hN : X.N.Nodup) (hi : X.N[i]? = some n) (hln : X.env.kindOf n = some .local) (hj : X.N[j]? = some y) (hly : Loc X.env.scope y) (hij : i ≠ j)
    (hn : Names X x (.ref C)) (tk : Takes X (wX X.K W))
    (hcat : ∀ c b cls, cat c = some b → PySem.W.nsIn X.K mainGlobals c = some (some cls) → PySem.W.exmOne X.K cls (.ref C) = some b) (hcr : ∀ c, cat c = some true → ∃ D, clsIn X.K c D)
    (hb : ∀ (W' : Wx) (pn : List (Addr × Obj)) (xe : Value → Shared → Prop), Takes (X.tr pn xe) (wX X.K W') → PassesOwn (model X.prog X.w) X.A X.env xe → PSs (X.tr pn xe) body (tS X.K W' s1))
    (hvn : ∀ a pn, PE (X.suite a pn) (.Name n p2) (tVar i))
    (hsw : ∀ a pn, swapsWith (.Name n p2) (some (.Name y p1)) p3.line (X.suite a pn).env = pure false := by intro _ _; rfl) (hfy : X.fn y = true ∨ X.env.scope.names.lookup y = some .local := by first | exact .inl rfl | exact .inr rfl) :
    PS X (.Try body [.ExceptHandler (some (.Name x np)) (some n) [.Assign [.Name y p1] (.Name n p2) p3] pos'] [] [] pos) (tS X.K W (mTryK cat i j s1)) := by
  refine PS.imp (ps_keep (tb := fun V => tS X.K (dn X.K V) s1) (ts := fun _ => tAsg (tVar i) (gName j)) (Wo := wX X.K W) hx hs hf hN hi hln hn tk (fun V pn xe t po => hb _ pn xe (t.imp wX_dn) po) fun a oe pn => pss_one (ps_set (X := X.suite a ((a, oe) :: pn)) hN hj hly (hvn a _) (hsw a _) hfy)) fun D σ H ⟨mu, ev, st, he, hst, hp⟩ => ?_
  refine ⟨mu, ev, st, he, hst, ?_⟩
  unfold mTryK at hp
  cases hr : s1 ev st with
  | bad => rw [hr] at hp; exact hp
  | ok r st1 => rw [hr] at hp; exact hp
  | exc c ev1 st1 =>
    rw [hr] at hp
    simp only at hp
    intro mu' σ' H' e' he' hs' cls hcl
    cases hct : cat c with
    | none => rw [hct] at hp; exact hp.elim
    | some bb =>
      rw [hct] at hp
      refine ⟨bb, hcat c bb cls hct hcl, fun eb => ⟨rfl, fun a na => ?_⟩, fun eb => ?_⟩
      · subst eb
        simp only at hp
        obtain ⟨C', hC'⟩ := hcr c hct
        have ec : cls = .ref C' := by
          unfold clsIn at hC'
          rw [hC'] at hcl; cases hcl; rfl
        subst ec
        split at hp
        · rename_i il
          refine ⟨.ref a, List.getElem?_set_self (by rw [he'.1]; exact il), ?_⟩
          have x2 := ext_push (mu := mu') na (ExK (.ref C') a)
          have s2 := hs'.push na (o := ExK (.ref C') a) (ob := .exc c) ⟨C', hC', upd_same⟩
          have ra : Rp X.K (upd H' a (ExK (.ref C') a)) (mu' ++ [a]) (.ref a) (.ref st1.length) := .ref (by rw [← hs'.len, List.getElem?_append_right (Nat.le_refl _)]; simp)
          have es : (((σ'.set i (some (.ref a))).set j (some (.ref a))).set i none) = (σ'.set j (some (.ref a))).set i none := by
            rw [List.set_comm _ _ hij, List.set_set]
          show D.nx (((σ'.set i (some (.ref a))).set j (some (.ref a))).set i none) _
          rw [es]
          exact hp _ _ _ (e'.trans x2) (relEv_none ((he'.mono x2).set ra j) i) s2
        · exact hp.elim
      · subst eb
        exact ⟨rfl, c, hcl, hp mu' σ' H' e' he' hs'⟩
end Ml

/-! isinstance of a kept exception; count, index, pop of a list -/
namespace Ml
open PySem L2 PySem.Spec PyProof.Rows
variable {X : Cx} {W : Wx} {a b c e o i : Expr} {es rest : List Expr} {pos p q apos cpos pos' : Pos} {ma mb mc mk mx mv : Mo D} {mr mq : Mo (List D)} {s1 s2 : Ms}
def rIsK (K : PySem.W.Frag) : List V → Hp → VK → Prop := fun xs H Q => ∃ (y A : Addr) (c : V) (cv : Value) (b : Bool), xs = [.ref y, c] ∧ H y = some (ExK (.ref A) y) ∧ ExcC K A ∧ (∀ u, RelV c u → u = cv) ∧ PySem.W.kitOne K (.ref A) cv = some b ∧ Q (.bl b) H
theorem call_isK : CallR X (.builtin "isinstance") (rIsK X.K) := by
  intro pins s σ H xs us Q I r h
  obtain ⟨y, A, c, cv, b, rfl, hy, C, hcv, e, q⟩ := h
  cases r with
  | cons rx rr => cases rr with
    | cons rt rz =>
      cases rz
      cases rx
      have ec := hcv _ rt
      subst ec
      obtain ⟨⟨oe, vs, hget, hz, hv⟩, _, _⟩ := I.hok y _ hy
      have J : PySem.W.InstAt s.heap y oe A none := by
        obtain ⟨oc, od, oda, osl⟩ := oe
        obtain ⟨h1, h2⟩ := hz
        dsimp only at h1 h2 hv
        subst h1 h2 hv
        exact ⟨hget, rfl, rfl, trivial⟩
      exact PySem.W.kia_one (PySem.W.handS_kitx_exc C.hg C.hk C.hs C.hd C.ha C.hn C.ht C.hm) I.kIn J e (fun z => nomatch z) fun tk => ⟨.bl b, H, I.kept (t' := tk) fun _ _ z => z, rfl, q⟩
/-- isinstance(e, C), e a kept exception -/
def mIsE (tab : Str → Option Bool) (ma : Mo D) : Mo D := fun ev st => (ma ev st).bind fun d st1 => match d with
  | .ref i => (match st1[i]? with
    | some (.exc c) => (match tab c with
      | some b => .ok (.bl b) st1
      | none => .bad)
    | _ => .bad)
  | _ => .bad
theorem me_isE {tab : Str → Option Bool} {v : V} {cv : Value} {e2 : Expr} (hg : Gl X "isinstance") (hm : X.mg "isinstance" = none) (h2 : PE X e2 (tC v)) (hcv : ∀ u, RelV v u → u = cv) (htab : ∀ c b A, tab c = some b → clsIn X.K c A → PySem.W.kitOne X.K (.ref A) cv = some b ∧ ExcC X.K A) (ha : PE X a (tE X.K W ma))
    (hs0 : starEach [e2] X.env = (false, eval e2 X.env) :: starEach [] X.env := by rfl) (he : starEach [a, e2] X.env = (false, eval a X.env) :: starEach [e2] X.env := by rfl) (hpl : (backTo pos (starEach [e2] X.env)).any (·.1) = false := by rfl) :
    PE X (.Call (.Name "isinstance" p) [a, e2] [] pos) (tE X.K W (mIsE tab ma)) := by
  refine PE.imp (pe_callB call_isK hg hm (by decide +kernel) (pa_cons ha (pa_cons h2 pa_nil hs0) he) (by decide) (by decide) he hpl) fun σ H Q ⟨mu, ev, st, he, hst, hp⟩ => ?_
  refine ⟨mu, ev, st, he, hst, hp.bind fun d st1 mu1 x H1 _ e1 r1 s1 hp1 => ?_⟩
  split at hp1
  · cases r1 with
    | ref hi =>
      obtain ⟨ob, ho, ok⟩ := s1.at hi
      rw [ho] at hp1
      split at hp1
      · rename_i eq; cases eq
        split at hp1
        · rename_i b hb
          obtain ⟨C, hC, hh⟩ := ok
          obtain ⟨k1, k2⟩ := htab _ _ C hb hC
          exact ⟨_, C, v, cv, b, rfl, hh, k2, hcv, k1, hp1 _ _ _ .refl (.bl _) s1⟩
        · exact hp1.elim
      · exact hp1.elim
  · exact hp1.elim
/-! l.count(x), l.index(x), the items being flat -/
def rCntF (K : PySem.W.Frag) : V → List V → Hp → VK → Prop := fun x xs H Q => ∃ (p : Addr) (ys : List V) (y : V), x = .ref p ∧ xs = [y] ∧ SqL K H p ys ∧ flatV y = true ∧ ys.all flatV = true ∧ Q (.int (ys.countP (fun z => eqV z y) : Nat)) H
theorem cntF {y : V} : ∀ {ys : List V} {us : List Value}, Vals ys us → ys.all flatV = true → us.countP (eqU y) = ys.countP fun z => eqV z y
  | _, _, .nil, _ => rfl
  | z :: ys, u :: us, .cons r t, f => by
    rw [List.all_cons, Bool.and_eq_true] at f
    rw [List.countP_cons, List.countP_cons, cntF t f.2, eqU_of r f.1]
theorem mt_cntF : MtR X "list.count" (rCntF X.K) := by
  intro pins s σ H x xs v us Q I rx rxs h
  obtain ⟨p, ys, y, rfl, rfl, hs, fy, fys, q⟩ := h
  cases rx
  obtain ⟨u, rfl, ru⟩ := rxs.one
  obtain ⟨its, rv, ⟨⟨cls, dd, data, sl⟩, n, ho, hc, hdn, hd⟩, hlen⟩ := I.list hs
  simp only at hc hd
  subst hc hd
  refine call_meets PySem.F.slot_list_count ⟨_, ho, rfl⟩ PySem.F.entry_list_count (PySem.F.args_list_count_2 _ _) (SeqAt.list_countAt p its.toArray n dd sl u (eqU y)) ⟨ho, fun u' hu' => mem_eqAt ru fy rv fys u' (by simpa using hu'), ?_⟩
  refine ⟨.int (ys.countP (fun z => eqV z y) : Nat), H, I.tok _, ⟨s.toks, ?_⟩, q⟩
  rw [← cntF rv fys]
def lstD (st : Sto) : D → Option (List D)
  | .ref i => (match st[i]? with
    | some (.lst ds) => some ds
    | some (.ro ds) => some ds
    | _ => none)
  | .ro ds => some ds
  | _ => none
theorem lstD_rel {K : PySem.W.Frag} {H : Hp} {mu : List Addr} {st : Sto} {v : V} {d : D} {ds : List D} (h : lstD st d = some ds) (r : Rp K H mu v d) (s : RelSt K H mu st) : ∃ p vs, v = .ref p ∧ SqL K H p vs ∧ Rps K H mu vs ds := by
  cases r with
  | ref hi =>
    obtain ⟨ob, ho, ok⟩ := s.at hi
    simp only [lstD] at h
    rw [ho] at h
    split at h
    · rename_i eq; cases eq; cases h
      obtain ⟨vs, h1, r⟩ := ok
      exact ⟨_, vs, rfl, .inl (.inl h1), r⟩
    · rename_i eq; cases eq; cases h
      obtain ⟨od, vs, h1, r⟩ := ok
      exact ⟨_, vs, rfl, .inl (.inr ⟨od, h1⟩), r⟩
    · cases h
  | ro hr rs => cases h; exact ⟨_, _, rfl, hr.sq, rs⟩
  | _ => cases h
theorem countP_vOf (y : D) : ∀ ds : List D, (ds.map vOf).countP (fun z => eqV z (vOf y)) = ds.countP fun z => eqD z y
  | [] => rfl
  | d :: ds => by
    rw [List.map_cons, List.countP_cons, List.countP_cons, countP_vOf y ds]
    rfl
def mCnt (ma mb : Mo D) : Mo D := fun ev st => (ma ev st).bind fun d st1 => match lstD st1 d with
  | some _ => (mb ev st1).bind fun y st2 => (match lstD st2 d with
    | some ds => if flatD y && ds.all flatD then .ok (.int (ds.countP (fun z => eqD z y) : Nat)) st2 else .bad
    | none => .bad)
  | none => .bad
section
variable (hfew : ((backTo cpos (starEach [e] X.env)).all (fun x => !x.1) && (backToKw cpos (keywordEach [] X.env)).all (fun x => x.1.isSome) && decide ([e].length + ([] : List Keyword).length + (if ([] : List Keyword).isEmpty then 0 else 1) < 30)) = true)
include hfew
theorem me_cnt0 (ho : PE X o (tE X.K W ma)) (hv : PE X e (tE X.K W mb)) (hbase : attributeBase o "count" X.env (eval o X.env) = eval o X.env) (hline : (apos.endLine == cpos.line) = true) (hs : starEach [e] X.env = (false, eval e X.env) :: starEach [] X.env) :
    PE X (.Call (.Attribute o "count" apos) [e] [] cpos) (tE X.K W (mCnt ma mb)) := by
  refine PE.imp (pe_bm PySem.F.plainAttrs_list PySem.F.slot_list_count PySem.F.type_list_count mt_cntF ho (pa_cons hv pa_nil hs) hbase hfew hline hs rfl) fun σ H Q ⟨mu, ev, st, he, hst, hp⟩ => ?_
  refine ⟨mu, ev, st, he, hst, hp.bind fun d st1 mu1 x H1 _ e1 r1 s1 hp1 => ?_⟩
  split at hp1
  · rename_i ds0 h0
    obtain ⟨p0, vs0, ex, sq0, _⟩ := lstD_rel h0 r1 s1
    subst ex
    refine ⟨.inl ⟨rfl, _, sq0⟩, mu1, ev, st1, he.mono e1, s1, hp1.bind fun y st2 mu2 yv H2 _ e2 r2 s2 hp2 => ?_⟩
    have r1 := Rp.mono e2 r1
    split at hp2
    · rename_i ds h2
      obtain ⟨p2, vs, ex2, sq, rs⟩ := lstD_rel h2 r1 s2
      split at hp2
      · rename_i hf
        rw [Bool.and_eq_true] at hf
        obtain ⟨ey, fy⟩ := r2.flat hf.1
        obtain ⟨ev', fv⟩ := rs.flat hf.2
        refine ⟨p2, vs, yv, ex2, rfl, sq, fy, fv, ?_⟩
        rw [ev', ey, countP_vOf]
        exact hp2 _ _ _ .refl (.int _) s2
      · exact hp2.elim
    · exact hp2.elim
  · exact hp1.elim
def mIdx (ma mb : Mo D) : Mo D := fun ev st => (ma ev st).bind fun d st1 => match lstD st1 d with
  | some _ => (mb ev st1).bind fun y st2 => (match lstD st2 d with
    | some ds => if flatD y && ds.all flatD then (match ds.findIdx? (fun z => eqD z y) with
      | some j => .ok (.int (j : Nat)) st2
      | none => .bad) else .bad
    | none => .bad)
  | none => .bad
theorem me_idx0 (ho : PE X o (tE X.K W ma)) (hv : PE X e (tE X.K W mb)) (hbase : attributeBase o "index" X.env (eval o X.env) = eval o X.env) (hline : (apos.endLine == cpos.line) = true) (hs : starEach [e] X.env = (false, eval e X.env) :: starEach [] X.env) :
    PE X (.Call (.Attribute o "index" apos) [e] [] cpos) (tE X.K W (mIdx ma mb)) := by
  refine PE.imp (pe_bm PySem.F.plainAttrs_list PySem.F.slot_list_index PySem.F.type_list_index mt_index ho (pa_cons hv pa_nil hs) hbase hfew hline hs rfl) fun σ H Q ⟨mu, ev, st, he, hst, hp⟩ => ?_
  refine ⟨mu, ev, st, he, hst, hp.bind fun d st1 mu1 x H1 _ e1 r1 s1 hp1 => ?_⟩
  split at hp1
  · rename_i ds0 h0
    obtain ⟨p0, vs0, ex, sq0, _⟩ := lstD_rel h0 r1 s1
    subst ex
    refine ⟨.inl ⟨rfl, _, sq0⟩, mu1, ev, st1, he.mono e1, s1, hp1.bind fun y st2 mu2 yv H2 _ e2 r2 s2 hp2 => ?_⟩
    have r1 := Rp.mono e2 r1
    split at hp2
    · rename_i ds h2
      obtain ⟨p2, vs, ex2, sq, rs⟩ := lstD_rel h2 r1 s2
      split at hp2
      · rename_i hf
        rw [Bool.and_eq_true] at hf
        obtain ⟨ey, fy⟩ := r2.flat hf.1
        obtain ⟨ev', fv⟩ := rs.flat hf.2
        split at hp2
        · rename_i j hj
          obtain ⟨hjl, hj1, hj2⟩ := List.findIdx?_eq_some_iff_getElem.mp hj
          refine ⟨p2, vs, yv, j, vOf ds[j], ex2, rfl, sq, fy, fv, ?_, ?_, fun m z' hm hz => ?_, hp2 _ _ _ .refl (.int _) s2⟩
          · rw [ev', List.getElem?_map, List.getElem?_eq_getElem hjl]; rfl
          · rw [ey]; exact hj1
          · rw [ev', List.getElem?_map, List.getElem?_eq_getElem (Nat.lt_trans hm hjl)] at hz
            cases hz
            rw [ey]
            have := hj2 m hm
            simpa [eqD] using this
        · exact hp2.elim
      · exact hp2.elim
    · exact hp2.elim
  · exact hp1.elim
end
theorem me_cnt (ho : PE X o (tE X.K W ma)) (hv : PE X e (tE X.K W mb)) (hbase : attributeBase o "count" X.env (eval o X.env) = eval o X.env := by rfl)
    (hfew : ((backTo cpos (starEach [e] X.env)).all (fun x => !x.1) && (backToKw cpos (keywordEach [] X.env)).all (fun x => x.1.isSome) && decide ([e].length + ([] : List Keyword).length + (if ([] : List Keyword).isEmpty then 0 else 1) < 30)) = true := by rfl)
    (hline : (apos.endLine == cpos.line) = true := by rfl) (hs : starEach [e] X.env = (false, eval e X.env) :: starEach [] X.env := by rfl) : PE X (.Call (.Attribute o "count" apos) [e] [] cpos) (tE X.K W (mCnt ma mb)) := me_cnt0 hfew ho hv hbase hline hs
theorem me_idx (ho : PE X o (tE X.K W ma)) (hv : PE X e (tE X.K W mb)) (hbase : attributeBase o "index" X.env (eval o X.env) = eval o X.env := by rfl)
    (hfew : ((backTo cpos (starEach [e] X.env)).all (fun x => !x.1) && (backToKw cpos (keywordEach [] X.env)).all (fun x => x.1.isSome) && decide ([e].length + ([] : List Keyword).length + (if ([] : List Keyword).isEmpty then 0 else 1) < 30)) = true := by rfl)
    (hline : (apos.endLine == cpos.line) = true := by rfl) (hs : starEach [e] X.env = (false, eval e X.env) :: starEach [] X.env := by rfl) : PE X (.Call (.Attribute o "index" apos) [e] [] cpos) (tE X.K W (mIdx ma mb)) := me_idx0 hfew ho hv hbase hline hs
theorem bt_ValueError : bootBuiltins "ValueError" = some (.type "ValueError") := by decide +kernel
/-! l.pop() -/
def mPop (ma : Mo D) : Mo D := fun ev st => (ma ev st).bind fun d st1 => match d with
  | .ref i => (match st1[i]? with
    | some (.lst ds) => (match ds[ds.length - 1]? with
      | some y => .ok y (st1.set i (.lst ds.dropLast))
      | none => .bad)
    | _ => .bad)
  | _ => .bad
theorem Rps.dropLast' {K : PySem.W.Frag} {H : Hp} {mu : List Addr} {vs : List V} {ds : List D} (h : Rps K H mu vs ds) : Rps K H mu vs.dropLast ds.dropLast := by
  rw [List.dropLast_eq_take, List.dropLast_eq_take, Rps.length h]
  exact h.take _
theorem me_pop (ho : PE X o (tE X.K W ma)) (hbase : attributeBase o "pop" X.env (eval o X.env) = eval o X.env := by rfl) (hline : (apos.endLine == cpos.line) = true := by rfl) : PE X (.Call (.Attribute o "pop" apos) [] [] cpos) (tE X.K W (mPop ma)) := by
  refine PE.imp (pe_bm0 PySem.F.plainAttrs_list PySem.F.slot_list_pop PySem.F.type_list_pop mt_pop ho hbase hline) fun σ H Q ⟨mu, ev, st, he, hst, hp⟩ => ?_
  refine ⟨mu, ev, st, he, hst, hp.bind fun d st1 mu1 x H1 _ e1 r1 s1 hp1 => ?_⟩
  split at hp1
  · cases r1 with
    | ref hi =>
      obtain ⟨ob, hob, ok⟩ := s1.at hi
      rw [hob] at hp1
      split at hp1
      · rename_i eq; cases eq
        split at hp1
        · rename_i y hy
          obtain ⟨vs, h1, r⟩ := ok
          obtain ⟨yv, hyv, ry⟩ := r.get hy
          rw [← Rps.length r] at hyv
          have e0 : Ext mu1 H1 mu1 (upd H1 _ (.lst vs.dropLast)) := ext_write s1 (List.mem_of_getElem? hi) (fun ob w z => by rw [h1] at z; cases z) _
          refine ⟨.inl ⟨rfl, vs, .inl (.inl h1)⟩, _, vs, yv, rfl, rfl, h1, hyv, ?_⟩
          exact hp1 _ _ _ e0 (ry.mono e0) (s1.write hi ⟨_, upd_same, (Rps.dropLast' r).mono e0⟩)
        · exact hp1.elim
      · exact hp1.elim
  · exact hp1.elim
end Ml

/-! The readings of the program's defs and of the law's (printed by gen.py). -/
namespace Ml
open PySem L2
def d_TWO : D := .tup [.str "plus", .str "less", .str "most", .str "least", .str "beats"]
def d_DICE : D := .tup [.str "dice", .str "high", .str "low", .str "again", .str "burst", .str "count"]
def d_SIGNS : List (String × String) := [("high", "h"), ("low", "l"), ("again", "r"), ("burst", "x"), ("count", "c")]
def d_CALLS : List (String × String) := [("most", "max"), ("least", "min"), ("beats", "beats")]
def d_SUMS : List (String × String) := [("plus", " + "), ("less", " - ")]
def cat_ThrowError (x : Str) : Option Bool := if x = "NoText" then some true else none
def isi_NoFaces (x : Str) : Option Bool := if x = "NoText" then some false else none
def isi_NoNote (x : Str) : Option Bool := if x = "NoText" then some false else none
def isi_NoText (x : Str) : Option Bool := if x = "NoText" then some true else none
def isi_NoWorth (x : Str) : Option Bool := if x = "NoText" then some false else none
def isi_ValueError (x : Str) : Option Bool := if x = "NoText" then some true else none
def m_Reader_init : Ms :=
  (mSeq (mFldSet "Reader" "text" (mVar 0) (mVar 1)) (mFldSet "Reader" "place" (mVar 0) (mC (.int 0))))
def m_is_whole : Ms :=
  (mRet (mAnd (mIsi "int" (mVar 0)) (mAnd (mNot (mIsi "bool" (mVar 0))) (mChain gLe gLe (mVar 1) (mVar 0) (mVar 2)))))
def m_is_last (c_is_whole : Fm) : Ms :=
  (mSeq (mIfS (mTest (mOp (gIn false) (mVar 0) (mTup (mCons (mC (.str "high")) (mCons (mC (.str "low")) mNil))))) (mRet (mCall c_is_whole (mCons (mVar 3) (mCons (mC (.int 1)) (mCons (mVar 1) mNil))))) mSkip) (mSeq (mIfS (mTest (mOp gEq (mVar 0) (mC (.str "again")))) (mRet (mCall c_is_whole (mCons (mVar 3) (mCons (mC (.int 1)) (mCons (mOp gSub (mVar 2) (mC (.int 1))) mNil))))) mSkip) (mSeq (mIfS (mTest (mOp gEq (mVar 0) (mC (.str "burst")))) (mRet (mCall c_is_whole (mCons (mVar 3) (mCons (mC (.int 1)) (mCons (mC (.int 2)) mNil))))) mSkip) (mRet (mCall c_is_whole (mCons (mVar 3) (mCons (mC (.int 2)) (mCons (mVar 2) mNil))))))))
def m_is_dice (c_is_last c_is_whole : Fm) : Ms :=
  (mSeq (mIfS (mTOr (mTest (mOp gNe (mCB gLen (mCons (mVar 0) mNil)) (mOp gSub (mC (.int 4)) (mCB gInt (mCons (mOp gEq (mOp gIx (mVar 0) (mC (.int 0))) (mC (.str "dice"))) mNil))))) (mTOr (mTNot (mTru (mCall c_is_whole (mCons (mOp gIx (mVar 0) (mC (.int 1))) (mCons (mC (.int 1)) (mCons (mC (.int 3)) mNil)))))) (mTNot (mTru (mCall c_is_whole (mCons (mOp gIx (mVar 0) (mC (.int 2))) (mCons (mC (.int 2)) (mCons (mC (.int 6)) mNil)))))))) (mRet (mC (.bl false))) mSkip) (mRet (mOr (mOp gEq (mOp gIx (mVar 0) (mC (.int 0))) (mC (.str "dice"))) (mCall c_is_last (mCons (mOp gIx (mVar 0) (mC (.int 0))) (mCons (mOp gIx (mVar 0) (mC (.int 1))) (mCons (mOp gIx (mVar 0) (mC (.int 2))) (mCons (mOp gIx (mVar 0) (mC (.int 3))) mNil))))))))
def m_is_saying_in (c_is_dice c_is_saying_in c_is_whole : Fm) : Ms :=
  (mSeq (mIfS (mTOr (mTNot (mTru (mIsi "tuple" (mVar 0)))) (mTOr (mTest (mOp gLt (mCB gLen (mCons (mVar 0) mNil)) (mC (.int 2)))) (mTOr (mTNot (mTru (mIsi "str" (mOp gIx (mVar 0) (mC (.int 0)))))) (mTest (mOp gEq (mVar 1) (mC (.int 0))))))) (mRet (mC (.bl false))) mSkip) (mSeq (mIfS (mTest (mOp gEq (mOp gIx (mVar 0) (mC (.int 0))) (mC (.str "number")))) (mRet (mAnd (mOp gEq (mCB gLen (mCons (mVar 0) mNil)) (mC (.int 2))) (mCall c_is_whole (mCons (mOp gIx (mVar 0) (mC (.int 1))) (mCons (mC (.int 0)) (mCons (mC (.int 9)) mNil)))))) mSkip) (mSeq (mIfS (mTest (mOp (gIn false) (mOp gIx (mVar 0) (mC (.int 0))) (mC d_DICE))) (mRet (mCall c_is_dice (mCons (mVar 0) mNil))) mSkip) (mSeq (mIfS (mTest (mOp gEq (mOp gIx (mVar 0) (mC (.int 0))) (mC (.str "times")))) (mRet (mAnd (mOp gEq (mCB gLen (mCons (mVar 0) mNil)) (mC (.int 3))) (mAnd (mCall c_is_whole (mCons (mOp gIx (mVar 0) (mC (.int 1))) (mCons (mC (.int 0)) (mCons (mC (.int 3)) mNil)))) (mCall c_is_saying_in (mCons (mOp gIx (mVar 0) (mC (.int 2))) (mCons (mOp gSub (mVar 1) (mC (.int 1))) mNil)))))) mSkip) (mRet (mAnd (mOp (gIn false) (mOp gIx (mVar 0) (mC (.int 0))) (mC d_TWO)) (mAnd (mOp gEq (mCB gLen (mCons (mVar 0) mNil)) (mC (.int 3))) (mQ gAll (mLc [2] (mItT (mSl (mVar 0) (mPart (mC (.int 1))) mNoPart)) (gtName 2) mYes (mCall c_is_saying_in (mCons (mVar 2) (mCons (mOp gSub (mVar 1) (mC (.int 1))) mNil))))))))))))
def m_dice_in (c_dice_in : Fm) : Ms :=
  (mSeq (mIfS (mTest (mOp (gIn false) (mOp gIx (mVar 0) (mC (.int 0))) (mC d_DICE))) (mRet (mOp gIx (mVar 0) (mC (.int 1)))) mSkip) (mRet (mQ gSum (mLc [1] (mItT (mSl (mVar 0) (mPart (mC (.int 1))) mNoPart)) (gtName 1) (mTru (mIsi "tuple" (mVar 1))) (mCall c_dice_in (mCons (mVar 1) mNil))))))
def m_is_saying (c_dice_in c_is_saying_in : Fm) : Ms :=
  (mRet (mAnd (mCall c_is_saying_in (mCons (mVar 0) (mCons (mC (.int 3)) mNil))) (mOp gLe (mCall c_dice_in (mCons (mVar 0) mNil)) (mC (.int 6)))))
def m_in_brackets (c_written : Fm) : Ms :=
  (mSeq (mIfS (mTest (mOp (gIn false) (mOp gIx (mVar 0) (mC (.int 0))) (mVar 1))) (mRet (mOp gAdd (mOp gAdd (mC (.str "(")) (mCall c_written (mCons (mVar 0) mNil))) (mC (.str ")")))) mSkip) (mRet (mCall c_written (mCons (mVar 0) mNil))))
def m_written (c_in_brackets c_written : Fm) : Ms :=
  (mSeq (mSet 1 (mOp gIx (mVar 0) (mC (.int 0)))) (mSeq (mIfS (mTest (mOp gEq (mVar 1) (mC (.str "number")))) (mRet (mCB gStr (mCons (mOp gIx (mVar 0) (mC (.int 1))) mNil))) mSkip) (mSeq (mIfS (mTest (mOp gEq (mVar 1) (mC (.str "times")))) (mRet (mOp gAdd (mOp gAdd (mCB gStr (mCons (mOp gIx (mVar 0) (mC (.int 1))) mNil)) (mC (.str " * "))) (mCall c_in_brackets (mCons (mOp gIx (mVar 0) (mC (.int 2))) (mCons (mTup (mCons (mC (.str "plus")) (mCons (mC (.str "less")) (mCons (mC (.str "times")) mNil)))) mNil))))) mSkip) (mSeq (mIfS (mTest (mInTab id d_SUMS (mVar 1))) (mRet (mOp gAdd (mOp gAdd (mCall c_written (mCons (mOp gIx (mVar 0) (mC (.int 1))) mNil)) (mAtTab d_SUMS (mVar 1))) (mCall c_in_brackets (mCons (mOp gIx (mVar 0) (mC (.int 2))) (mCons (mTup (mCons (mC (.str "plus")) (mCons (mC (.str "less")) mNil))) mNil))))) mSkip) (mSeq (mIfS (mTest (mInTab id d_CALLS (mVar 1))) (mRet (mOp gAdd (mOp gAdd (mOp gAdd (mOp gAdd (mOp gAdd (mAtTab d_CALLS (mVar 1)) (mC (.str "("))) (mCall c_written (mCons (mOp gIx (mVar 0) (mC (.int 1))) mNil))) (mC (.str ", "))) (mCall c_written (mCons (mOp gIx (mVar 0) (mC (.int 2))) mNil))) (mC (.str ")")))) mSkip) (mSeq (mSet 2 (mOp gAdd (mOp gAdd (mCB gStr (mCons (mOp gIx (mVar 0) (mC (.int 1))) mNil)) (mC (.str "d"))) (mCB gStr (mCons (mOp gIx (mVar 0) (mC (.int 2))) mNil)))) (mSeq (mIfS (mTest (mOp gNe (mVar 1) (mC (.str "dice")))) (mSet 2 (mOp gAdd (mOp gAdd (mVar 2) (mAtTab d_SIGNS (mVar 1))) (mCB gStr (mCons (mOp gIx (mVar 0) (mC (.int 3))) mNil)))) mSkip) (mRet (mVar 2)))))))))
def m_Reader_has : Ms :=
  (mSeq (mIfS (mTest (mOp gNe (mSl (mFld "Reader" "text" (mVar 0)) (mPart (mFld "Reader" "place" (mVar 0))) (mPart (mOp gAdd (mFld "Reader" "place" (mVar 0)) (mCB gLen (mCons (mVar 1) mNil))))) (mVar 1))) (mRet (mC (.bl false))) mSkip) (mSeq (mFldSet "Reader" "place" (mVar 0) (mOp gAdd (mFld "Reader" "place" (mVar 0)) (mCB gLen (mCons (mVar 1) mNil)))) (mRet (mC (.bl true)))))
def m_Reader_must (c_Reader_has : Fm) : Ms :=
  (mIfS (mTNot (mTru (mMeth "Reader" "has" c_Reader_has (mVar 0) (mCons (mVar 1) mNil)))) (mRaise "NoText") mSkip)
def m_Reader_figure : Ms :=
  (mSeq (mIfS (mTOr (mTest (mOp gEq (mFld "Reader" "place" (mVar 0)) (mCB gLen (mCons (mFld "Reader" "text" (mVar 0)) mNil)))) (mTest (mOp gNinS (mOp gIx (mFld "Reader" "text" (mVar 0)) (mFld "Reader" "place" (mVar 0))) (mC (.str "0123456789"))))) (mRaise "NoText") mSkip) (mSeq (mFldSet "Reader" "place" (mVar 0) (mOp gAdd (mFld "Reader" "place" (mVar 0)) (mC (.int 1)))) (mRet (mCB gIntS (mCons (mOp gIx (mFld "Reader" "text" (mVar 0)) (mOp gSub (mFld "Reader" "place" (mVar 0)) (mC (.int 1)))) mNil)))))
def m_Reader_call_b1 (c_Reader_has c_Reader_must c_Reader_saying : Fm) : Ms :=
  (mIfS (mTru (mMeth "Reader" "has" c_Reader_has (mVar 0) (mCons (mOp gAdd (mAtTab d_CALLS (mVar 2)) (mC (.str "("))) mNil))) (mSeq (mSet 3 (mMethX "Reader" "saying" c_Reader_saying (mVar 0) (mCons (mOp gSub (mVar 1) (mC (.int 1))) mNil))) (mSeq (mDrop (mMethX "Reader" "must" c_Reader_must (mVar 0) (mCons (mC (.str ", ")) mNil))) (mSeq (mSet 4 (mMethX "Reader" "saying" c_Reader_saying (mVar 0) (mCons (mOp gSub (mVar 1) (mC (.int 1))) mNil))) (mSeq (mDrop (mMethX "Reader" "must" c_Reader_must (mVar 0) (mCons (mC (.str ")")) mNil))) (mRet (mTup (mCons (mVar 2) (mCons (mVar 3) (mCons (mVar 4) mNil))))))))) mSkip)
def m_Reader_call (c_Reader_has c_Reader_must c_Reader_saying : Fm) : Ms :=
  (mSeq (mFor (mTabI d_CALLS) (gtName 2) (m_Reader_call_b1 c_Reader_has c_Reader_must c_Reader_saying)) (mRet (mC .non)))
def m_Reader_part_b1 (c_Reader_call c_Reader_figure c_Reader_has c_Reader_must c_Reader_part c_Reader_saying : Fm) : Ms :=
  (mIfS (mTru (mMeth "Reader" "has" c_Reader_has (mVar 0) (mCons (mAtTab d_SIGNS (mVar 5)) mNil))) (mRet (mTup (mCons (mVar 5) (mCons (mVar 3) (mCons (mVar 4) (mCons (mMethX "Reader" "figure" c_Reader_figure (mVar 0) mNil) mNil)))))) mSkip)
def m_Reader_part (c_Reader_call c_Reader_figure c_Reader_has c_Reader_must c_Reader_part c_Reader_saying : Fm) : Ms :=
  (mSeq (mIfS (mTest (mOp gEq (mVar 1) (mC (.int 0)))) (mRaise "NoText") mSkip) (mSeq (mIfS (mTru (mMeth "Reader" "has" c_Reader_has (mVar 0) (mCons (mC (.str "(")) mNil))) (mSeq (mSet 2 (mMethX "Reader" "saying" c_Reader_saying (mVar 0) (mCons (mOp gSub (mVar 1) (mC (.int 1))) mNil))) (mSeq (mDrop (mMethX "Reader" "must" c_Reader_must (mVar 0) (mCons (mC (.str ")")) mNil))) (mRet (mVar 2)))) mSkip) (mSeq (mSet 2 (mMethX "Reader" "call" c_Reader_call (mVar 0) (mCons (mVar 1) mNil))) (mSeq (mIfS (mTest (mOp gNotN (mVar 2) (mC .non))) (mRet (mVar 2)) mSkip) (mSeq (mSet 3 (mMethX "Reader" "figure" c_Reader_figure (mVar 0) mNil)) (mSeq (mIfS (mTru (mMeth "Reader" "has" c_Reader_has (mVar 0) (mCons (mC (.str " * ")) mNil))) (mRet (mTup (mCons (mC (.str "times")) (mCons (mVar 3) (mCons (mMethX "Reader" "part" c_Reader_part (mVar 0) (mCons (mOp gSub (mVar 1) (mC (.int 1))) mNil)) mNil))))) mSkip) (mSeq (mIfS (mTNot (mTru (mMeth "Reader" "has" c_Reader_has (mVar 0) (mCons (mC (.str "d")) mNil)))) (mRet (mTup (mCons (mC (.str "number")) (mCons (mVar 3) mNil)))) mSkip) (mSeq (mSet 4 (mMethX "Reader" "figure" c_Reader_figure (mVar 0) mNil)) (mSeq (mFor (mTabI d_SIGNS) (gtName 5) (m_Reader_part_b1 c_Reader_call c_Reader_figure c_Reader_has c_Reader_must c_Reader_part c_Reader_saying)) (mRet (mTup (mCons (mC (.str "dice")) (mCons (mVar 3) (mCons (mVar 4) mNil))))))))))))))
def m_Reader_saying_b1 (c_Reader_has c_Reader_part : Fm) : Ms :=
  (mIfS (mTru (mMeth "Reader" "has" c_Reader_has (mVar 0) (mCons (mC (.str " + ")) mNil))) (mSet 2 (mTup (mCons (mC (.str "plus")) (mCons (mVar 2) (mCons (mMethX "Reader" "part" c_Reader_part (mVar 0) (mCons (mVar 1) mNil)) mNil))))) (mIfS (mTru (mMeth "Reader" "has" c_Reader_has (mVar 0) (mCons (mC (.str " - ")) mNil))) (mSet 2 (mTup (mCons (mC (.str "less")) (mCons (mVar 2) (mCons (mMethX "Reader" "part" c_Reader_part (mVar 0) (mCons (mVar 1) mNil)) mNil))))) mSkip))
def m_Reader_saying (c_Reader_has c_Reader_part : Fm) : Ms :=
  (mSeq (mSet 2 (mMethX "Reader" "part" c_Reader_part (mVar 0) (mCons (mVar 1) mNil))) (mSeq (mFor (mItR (mCons (mC (.int 6)) mNil)) (gtName 3) (m_Reader_saying_b1 c_Reader_has c_Reader_part)) (mRet (mVar 2))))
def m_read (lv : Nat) (c_Reader_saying c_is_saying c_written : Fm) : Ms :=
  (mSeq (mSet 1 (mNewG lv "Reader" (fnM 2 2 m_Reader_init) (mCons (mVar 0) mNil))) (mSeq (mSet 2 (mMethX "Reader" "saying" c_Reader_saying (mVar 1) (mCons (mC (.int 6)) mNil))) (mSeq (mIfS (mTOr (mTest (mOp gLt (mFld "Reader" "place" (mVar 1)) (mCB gLen (mCons (mVar 0) mNil)))) (mTOr (mTNot (mTru (mCall c_is_saying (mCons (mVar 2) mNil)))) (mTest (mOp gNe (mCall c_written (mCons (mVar 2) mNil)) (mVar 0))))) (mRaise "NoText") mSkip) (mRet (mVar 2)))))
def m_f_law_cell : Ms :=
  (mSeq (mIfS (mTest (mOp gLt (mVar 1) (mCB gLen (mCons (mVar 0) mNil)))) (mRet (mOp gIx (mVar 0) (mVar 1))) mSkip) (mRet (mC (.int 0))))
def m_f_law_mix : Ms :=
  (mSeq (mSet 3 (mOp gMod (mOp gMul (mVar 0) (mC (.int 48271))) (mVar 1))) (mRet (mOp gMod (mOp gMod (mOp gMul (mVar 3) (mOp gAdd (mVar 3) (mC (.int 7)))) (mVar 1)) (mVar 2))))
def m_f_law_dice (c_f_law_mix : Fm) : Ms :=
  (mSeq (mSet 2 (mOp gIx (mTup (mCons (mC (.str "dice")) (mCons (mC (.str "high")) (mCons (mC (.str "low")) (mCons (mC (.str "again")) (mCons (mC (.str "burst")) (mCons (mC (.str "count")) mNil))))))) (mCall c_f_law_mix (mCons (mVar 0) (mCons (mC (.int 9973)) (mCons (mC (.int 6)) mNil)))))) (mSeq (mSet 3 (mOp gAdd (mC (.int 1)) (mCall c_f_law_mix (mCons (mVar 0) (mCons (mC (.int 9967)) (mCons (mCB gMin (mCons (mC (.int 3)) (mCons (mVar 1) mNil))) mNil)))))) (mSeq (mSet 4 (mOp gAdd (mC (.int 2)) (mCall c_f_law_mix (mCons (mVar 0) (mCons (mC (.int 9949)) (mCons (mC (.int 5)) mNil)))))) (mSeq (mIfS (mTest (mOp gEq (mVar 2) (mC (.str "dice")))) (mRet (mTup (mCons (mVar 2) (mCons (mVar 3) (mCons (mVar 4) mNil))))) mSkip) (mSeq (mAsg (mGetN (mDictD [((mC (.str "again")), (mTup (mCons (mC (.int 1)) (mCons (mOp gSub (mVar 4) (mC (.int 1))) mNil)))), ((mC (.str "burst")), (mTup (mCons (mC (.int 1)) (mCons (mC (.int 2)) mNil)))), ((mC (.str "count")), (mTup (mCons (mC (.int 2)) (mCons (mVar 4) mNil))))]) (mVar 2) (mTup (mCons (mC (.int 1)) (mCons (mVar 3) mNil)))) (gtTup 2 (gtsCons (gtName 5) (gtsCons (gtName 6) gtsNil)))) (mRet (mTup (mCons (mVar 2) (mCons (mVar 3) (mCons (mVar 4) (mCons (mOp gAdd (mVar 5) (mCall c_f_law_mix (mCons (mVar 0) (mCons (mC (.int 9941)) (mCons (mOp gAdd (mOp gSub (mVar 6) (mVar 5)) (mC (.int 1))) mNil))))) mNil)))))))))))
def m_f_law_many (c_f_law_many : Fm) : Ms :=
  (mSeq (mIfS (mTest (mOp gEq (mOp gIx (mVar 0) (mC (.int 0))) (mC (.str "number")))) (mRet (mC (.int 0))) mSkip) (mSeq (mIfS (mTru (mIsi "tuple" (mOp gIx (mVar 0) (mUn gNeg (mC (.int 1)))))) (mRet (mQ gSum (mLc [1] (mItT (mSl (mVar 0) (mPart (mC (.int 1))) mNoPart)) (gtName 1) (mTru (mIsi "tuple" (mVar 1))) (mCall c_f_law_many (mCons (mVar 1) mNil))))) mSkip) (mRet (mOp gIx (mVar 0) (mC (.int 1))))))
def m_f_law_saying (c_f_law_dice c_f_law_many c_f_law_mix c_f_law_saying : Fm) : Ms :=
  (mSeq (mSet 3 (mCall c_f_law_mix (mCons (mVar 0) (mCons (mC (.int 9931)) (mCons (mC (.int 12)) mNil))))) (mSeq (mIfS (mTOr (mTest (mOp gLt (mVar 3) (mC (.int 2)))) (mTest (mOp gEq (mVar 2) (mC (.int 0))))) (mRet (mTup (mCons (mC (.str "number")) (mCons (mCall c_f_law_mix (mCons (mVar 0) (mCons (mC (.int 9929)) (mCons (mC (.int 10)) mNil)))) mNil)))) mSkip) (mSeq (mIfS (mTOr (mTest (mOp gLt (mVar 3) (mC (.int 5)))) (mTest (mOp gEq (mVar 1) (mC (.int 1))))) (mRet (mCall c_f_law_dice (mCons (mOp gAdd (mVar 0) (mC (.int 1))) (mCons (mVar 2) mNil)))) mSkip) (mSeq (mIfS (mTest (mOp gEq (mVar 3) (mC (.int 11)))) (mRet (mTup (mCons (mC (.str "times")) (mCons (mCall c_f_law_mix (mCons (mVar 0) (mCons (mC (.int 9923)) (mCons (mC (.int 4)) mNil)))) (mCons (mCall c_f_law_saying (mCons (mOp gAdd (mVar 0) (mC (.int 2))) (mCons (mOp gSub (mVar 1) (mC (.int 1))) (mCons (mVar 2) mNil)))) mNil))))) mSkip) (mSeq (mSet 4 (mCall c_f_law_saying (mCons (mOp gAdd (mVar 0) (mC (.int 3))) (mCons (mOp gSub (mVar 1) (mC (.int 1))) (mCons (mVar 2) mNil))))) (mSeq (mSet 5 (mCall c_f_law_saying (mCons (mOp gAdd (mVar 0) (mC (.int 5))) (mCons (mOp gSub (mVar 1) (mC (.int 1))) (mCons (mOp gSub (mVar 2) (mCall c_f_law_many (mCons (mVar 4) mNil))) mNil))))) (mSeq (mIfS (mTest (mOp gEq (mOp gMod (mVar 0) (mC (.int 2))) (mC (.int 0)))) (mPar 4 5 (mCons (mVar 5) (mCons (mVar 4) mNil))) mSkip) (mRet (mTup (mCons (mOp gIx (mTup (mCons (mC (.str "plus")) (mCons (mC (.str "less")) (mCons (mC (.str "most")) (mCons (mC (.str "least")) (mCons (mC (.str "beats")) mNil)))))) (mCall c_f_law_mix (mCons (mVar 0) (mCons (mC (.int 9907)) (mCons (mC (.int 5)) mNil))))) (mCons (mVar 4) (mCons (mVar 5) mNil))))))))))))
def m_f_law_written (c_f_law_written : Fm) : Ms :=
  (mSeq (mSet 1 (mOp gIx (mVar 0) (mC (.int 0)))) (mSeq (mIfS (mTest (mOp gEq (mVar 1) (mC (.str "number")))) (mRet (mCB gStr (mCons (mOp gIx (mVar 0) (mC (.int 1))) mNil))) mSkip) (mSeq (mIfS (mTest (mOp (gIn false) (mVar 1) (mTup (mCons (mC (.str "plus")) (mCons (mC (.str "less")) mNil))))) (mSeq (mSet 2 (mCall c_f_law_written (mCons (mOp gIx (mVar 0) (mC (.int 2))) mNil))) (mSeq (mIfS (mTest (mOp (gIn false) (mOp gIx (mOp gIx (mVar 0) (mC (.int 2))) (mC (.int 0))) (mTup (mCons (mC (.str "plus")) (mCons (mC (.str "less")) mNil))))) (mSet 2 (mOp gAdd (mOp gAdd (mC (.str "(")) (mVar 2)) (mC (.str ")")))) mSkip) (mRet (mOp gAdd (mOp gAdd (mCall c_f_law_written (mCons (mOp gIx (mVar 0) (mC (.int 1))) mNil)) (mAtN (mDictD [((mC (.str "plus")), (mC (.str " + "))), ((mC (.str "less")), (mC (.str " - ")))]) (mVar 1))) (mVar 2))))) mSkip) (mSeq (mIfS (mTest (mOp gEq (mVar 1) (mC (.str "times")))) (mSeq (mSet 2 (mCall c_f_law_written (mCons (mOp gIx (mVar 0) (mC (.int 2))) mNil))) (mSeq (mIfS (mTest (mOp (gIn false) (mOp gIx (mOp gIx (mVar 0) (mC (.int 2))) (mC (.int 0))) (mTup (mCons (mC (.str "plus")) (mCons (mC (.str "less")) (mCons (mC (.str "times")) mNil)))))) (mSet 2 (mOp gAdd (mOp gAdd (mC (.str "(")) (mVar 2)) (mC (.str ")")))) mSkip) (mRet (mOp gAdd (mOp gAdd (mCB gStr (mCons (mOp gIx (mVar 0) (mC (.int 1))) mNil)) (mC (.str " * "))) (mVar 2))))) mSkip) (mSeq (mIfS (mTru (mIsi "tuple" (mOp gIx (mVar 0) (mUn gNeg (mC (.int 1)))))) (mSeq (mSet 3 (mAtN (mDictD [((mC (.str "most")), (mC (.str "max"))), ((mC (.str "least")), (mC (.str "min"))), ((mC (.str "beats")), (mC (.str "beats")))]) (mVar 1))) (mRet (mOp gAdd (mOp gAdd (mOp gAdd (mOp gAdd (mOp gAdd (mVar 3) (mC (.str "("))) (mCall c_f_law_written (mCons (mOp gIx (mVar 0) (mC (.int 1))) mNil))) (mC (.str ", "))) (mCall c_f_law_written (mCons (mOp gIx (mVar 0) (mC (.int 2))) mNil))) (mC (.str ")"))))) mSkip) (mSeq (mSet 4 (mOp gAdd (mOp gAdd (mCB gStr (mCons (mOp gIx (mVar 0) (mC (.int 1))) mNil)) (mC (.str "d"))) (mCB gStr (mCons (mOp gIx (mVar 0) (mC (.int 2))) mNil)))) (mSeq (mIfS (mTest (mOp gNe (mVar 1) (mC (.str "dice")))) (mSet 4 (mOp gAdd (mOp gAdd (mVar 4) (mAtN (mDictD [((mC (.str "high")), (mC (.str "h"))), ((mC (.str "low")), (mC (.str "l"))), ((mC (.str "again")), (mC (.str "r"))), ((mC (.str "burst")), (mC (.str "x"))), ((mC (.str "count")), (mC (.str "c")))]) (mVar 1))) (mCB gStr (mCons (mOp gIx (mVar 0) (mC (.int 3))) mNil)))) mSkip) (mRet (mVar 4)))))))))
def m_f_law_word : Ms :=
  (mSeq (mSet 1 (mKeep (mDisp (mCons (mIsE isi_NoFaces (mVar 0)) (mCons (mIsE isi_NoText (mVar 0)) mNil))))) (mSeq (mSet 1 (mKeep (mCat (mLoR (mVar 1)) (mLoN (mDisp (mCons (mIsE isi_NoWorth (mVar 0)) (mCons (mIsE isi_NoNote (mVar 0)) mNil))))))) (mSeq (mIfS (mTOr (mTest (mOp gNe (mCnt (mVar 1) (mC (.bl true))) (mC (.int 1)))) (mTNot (mTru (mIsE isi_ValueError (mVar 0))))) (mRet (mC (.str "wrong"))) mSkip) (mRet (mOp gIx (mTup (mCons (mC (.str "no faces")) (mCons (mC (.str "no text")) (mCons (mC (.str "no worth")) (mCons (mC (.str "no note")) mNil))))) (mIdx (mVar 1) (mC (.bl true))))))))
def m_f_law_told (c_f_law_word c_read : Fm) : Ms :=
  (mSeq (mSet 1 (mC .non)) (mSeq (mSet 2 (mC .non)) (mSeq (mTryK cat_ThrowError 3 1 (mSet 2 (mCallX c_read (mCons (mVar 0) mNil)))) (mRet (mIf (mTest (mOp gIsN (mVar 1) (mC .non))) (mVar 2) (mCall c_f_law_word (mCons (mVar 1) mNil)))))))
def m_f_law_is_right (c_f_law_told c_f_law_written c_is_saying : Fm) : Ms :=
  (mSeq (mSet 1 (mCall c_f_law_told (mCons (mVar 0) mNil))) (mSeq (mIfS (mTru (mIsi "str" (mVar 1))) (mRet (mOp gEq (mVar 1) (mC (.str "no text")))) mSkip) (mRet (mAnd (mOp gIsN (mCall c_is_saying (mCons (mVar 1) mNil)) (mC (.bl true))) (mOp gEq (mCall c_f_law_written (mCons (mVar 1) mNil)) (mVar 0))))))
def m_f_law_bad : Ms :=
  (mSeq (mSet 0 (mKeep (mDisp (mCons (mC (.str "")) (mCons (mC (.str " ")) (mCons (mC (.str "10")) (mCons (mC (.str "01")) (mCons (mC (.str "-1")) (mCons (mC (.str "d6")) (mCons (mC (.str "1d")) (mCons (mC (.str "0d6")) (mCons (mC (.str "4d6")) mNil)))))))))))) (mSeq (mSet 0 (mKeep (mCat (mLoR (mVar 0)) (mLoN (mDisp (mCons (mC (.str "1d1")) (mCons (mC (.str "1d7")) (mCons (mC (.str "1d06")) (mCons (mC (.str "1 d6")) (mCons (mC (.str "1d6h")) (mCons (mC (.str "1d6h0")) (mCons (mC (.str "1d6h2")) (mCons (mC (.str "2d6l3")) (mCons (mC (.str "1d6r6")) mNil)))))))))))))) (mSeq (mSet 0 (mKeep (mCat (mLoR (mVar 0)) (mLoN (mDisp (mCons (mC (.str "1d6r0")) (mCons (mC (.str "1d6x3")) (mCons (mC (.str "1d6x0")) (mCons (mC (.str "1d6c1")) (mCons (mC (.str "1d6c7")) (mCons (mC (.str "1d6z1")) (mCons (mC (.str "1+1")) mNil)))))))))))) (mSeq (mSet 0 (mKeep (mCat (mLoR (mVar 0)) (mLoN (mDisp (mCons (mC (.str "1 +1")) (mCons (mC (.str "1  + 1")) (mCons (mC (.str "1 +")) (mCons (mC (.str "+ 1")) (mCons (mC (.str "(1)")) (mCons (mC (.str "(1 + 2)")) (mCons (mC (.str "1 + (1d6)")) mNil)))))))))))) (mSeq (mSet 0 (mKeep (mCat (mLoR (mVar 0)) (mLoN (mDisp (mCons (mC (.str "(1 + 2) + 3")) (mCons (mC (.str "1 + 2)")) (mCons (mC (.str "(1 + 2")) (mCons (mC (.str "4 * 1d6")) (mCons (mC (.str "1d6 * 2")) (mCons (mC (.str "2*1d6")) mNil))))))))))) (mSeq (mSet 0 (mKeep (mCat (mLoR (mVar 0)) (mLoN (mDisp (mCons (mC (.str "2 * ")) (mCons (mC (.str "2 * (1d6)")) (mCons (mC (.str "2 * 3 * 1d6")) (mCons (mC (.str "max(1)")) (mCons (mC (.str "max(1,2)")) mNil)))))))))) (mSeq (mSet 0 (mKeep (mCat (mLoR (mVar 0)) (mLoN (mDisp (mCons (mC (.str "max(1, 2")) (mCons (mC (.str "max(1, 2, 3)")) (mCons (mC (.str "max (1, 2)")) (mCons (mC (.str "Max(1, 2)")) (mCons (mC (.str "beat(1, 2)")) mNil)))))))))) (mSeq (mSet 0 (mKeep (mCat (mLoR (mVar 0)) (mLoN (mDisp (mCons (mC (.str "beats(1, )")) (mCons (mC (.str "min()")) (mCons (mC (.str "1d6 ")) (mCons (mC (.str " 1d6")) (mCons (mC (.str "3d6 + 3d6 + 1d6")) mNil)))))))))) (mSeq (mSet 0 (mKeep (mCat (mLoR (mVar 0)) (mLoN (mDisp (mCons (mC (.str "max(max(max(1, 2), 1), 1)")) (mCons (mC (.str "1 + 1 + 1 + 1")) (mCons (mC (.str "2 * (2 * (2 * 1))")) mNil)))))))) (mSeq (mSet 0 (mKeep (mCat (mLoR (mVar 0)) (mLoN (mDisp (mCons (mC (.str "1d6h1h1")) (mCons (mC (.str "1 1")) mNil))))))) (mRet (mKeep (mCat (mLoR (mVar 0)) (mLoN (mDisp (mCons (mC (.str "2 * max(1 + 1 + 1, 1)")) mNil))))))))))))))))
def m_f_law_changed (c_f_law_mix : Fm) : Ms :=
  (mSeq (mSet 2 (mCall c_f_law_mix (mCons (mVar 1) (mCons (mC (.int 9817)) (mCons (mOp gAdd (mCB gLen (mCons (mVar 0) mNil)) (mC (.int 1))) mNil))))) (mSeq (mSet 3 (mC (.str " 0123467dhlrxc+-*(),maxinbets"))) (mSeq (mSet 4 (mOp gIx (mVar 3) (mCall c_f_law_mix (mCons (mVar 1) (mCons (mC (.int 9811)) (mCons (mCB gLen (mCons (mVar 3) mNil)) mNil)))))) (mSeq (mSet 5 (mCall c_f_law_mix (mCons (mVar 1) (mCons (mC (.int 9803)) (mCons (mC (.int 3)) mNil))))) (mSeq (mIfS (mTest (mOp gEq (mVar 5) (mC (.int 0)))) (mRet (mOp gAdd (mOp gAdd (mSl (mVar 0) mNoPart (mPart (mVar 2))) (mVar 4)) (mSl (mVar 0) (mPart (mVar 2)) mNoPart))) mSkip) (mSeq (mIfS (mTest (mOp gEq (mVar 5) (mC (.int 1)))) (mRet (mOp gAdd (mSl (mVar 0) mNoPart (mPart (mVar 2))) (mSl (mVar 0) (mPart (mOp gAdd (mVar 2) (mC (.int 1)))) mNoPart))) mSkip) (mRet (mOp gAdd (mOp gAdd (mSl (mVar 0) mNoPart (mPart (mVar 2))) (mVar 4)) (mSl (mVar 0) (mPart (mOp gAdd (mVar 2) (mC (.int 1)))) mNoPart)))))))))
def m_law_b1 (c_f_law_bad c_f_law_cell c_f_law_changed c_f_law_is_right c_f_law_saying c_f_law_told c_f_law_written : Fm) : Ms :=
  (mSeq (mSet 2 (mCall c_f_law_changed (mCons (mVar 2) (mCons (mOp gAdd (mOp gAdd (mCall c_f_law_cell (mCons (mVar 0) (mCons (mOp gAdd (mC (.int 8)) (mOp gMod (mVar 3) (mC (.int 2)))) mNil))) (mOp gMul (mC (.int 7)) (mVar 1))) (mOp gMul (mC (.int 11)) (mVar 3))) mNil)))) (mIfS (mTNot (mTru (mCall c_f_law_is_right (mCons (mVar 2) mNil)))) (mRet (mC (.bl false))) mSkip))
def m_law_b2 (c_f_law_bad c_f_law_cell c_f_law_changed c_f_law_is_right c_f_law_saying c_f_law_told c_f_law_written : Fm) : Ms :=
  (mSeq (mSet 2 (mCall c_f_law_written (mCons (mCall c_f_law_saying (mCons (mOp gAdd (mCall c_f_law_cell (mCons (mVar 0) (mCons (mOp gMod (mVar 1) (mC (.int 8))) mNil))) (mOp gMul (mC (.int 3)) (mVar 1))) (mCons (mC (.int 3)) (mCons (mC (.int 6)) mNil)))) mNil))) (mFor (mItR (mCons (mC (.int 3)) mNil)) (gtName 3) (m_law_b1 c_f_law_bad c_f_law_cell c_f_law_changed c_f_law_is_right c_f_law_saying c_f_law_told c_f_law_written)))
def m_law (c_f_law_bad c_f_law_cell c_f_law_changed c_f_law_is_right c_f_law_saying c_f_law_told c_f_law_written : Fm) : Ms :=
  (mSeq (mIfS (mTru (mQ gAny (mLc [2] (mItK .lst (mFrz (mCall c_f_law_bad mNil))) (gtName 2) mYes (mOp gNe (mCall c_f_law_told (mCons (mVar 2) mNil)) (mC (.str "no text")))))) (mRet (mC (.bl false))) mSkip) (mSeq (mFor (mItR (mCons (mC (.int 10)) mNil)) (gtName 1) (m_law_b2 c_f_law_bad c_f_law_cell c_f_law_changed c_f_law_is_right c_f_law_saying c_f_law_told c_f_law_written)) (mRet (mC (.bl true)))))
end Ml
namespace L13
open PySem L2 Ml
inductive Fn where
  | Reader_init | is_whole | is_last | is_dice | is_saying_in | dice_in | is_saying | in_brackets | written | Reader_has | Reader_must | Reader_figure | Reader_call | Reader_part | Reader_saying | read | f_law_cell | f_law_mix | f_law_dice | f_law_many | f_law_saying | f_law_written | f_law_word | f_law_told | f_law_is_right | f_law_bad | f_law_changed | law
def tbl (n : Nat) (C : Fn → Fm) : Fn → Fm
  | .Reader_init => fnM 2 2 (m_Reader_init )
  | .is_whole => fnM 3 3 (m_is_whole )
  | .is_last => fnM 4 4 (m_is_last (C .is_whole))
  | .is_dice => fnM 1 1 (m_is_dice (C .is_last) (C .is_whole))
  | .is_saying_in => fnM 2 3 (m_is_saying_in (C .is_dice) (C .is_saying_in) (C .is_whole))
  | .dice_in => fnM 1 2 (m_dice_in (C .dice_in))
  | .is_saying => fnM 1 1 (m_is_saying (C .dice_in) (C .is_saying_in))
  | .in_brackets => fnM 2 2 (m_in_brackets (C .written))
  | .written => fnM 1 3 (m_written (C .in_brackets) (C .written))
  | .Reader_has => fnM 2 2 (m_Reader_has )
  | .Reader_must => fnX 2 2 (m_Reader_must (C .Reader_has))
  | .Reader_figure => fnX 1 1 (m_Reader_figure )
  | .Reader_call => fnX 2 5 (m_Reader_call (C .Reader_has) (C .Reader_must) (C .Reader_saying))
  | .Reader_part => fnX 2 6 (m_Reader_part (C .Reader_call) (C .Reader_figure) (C .Reader_has) (C .Reader_must) (C .Reader_part) (C .Reader_saying))
  | .Reader_saying => fnX 2 4 (m_Reader_saying (C .Reader_has) (C .Reader_part))
  | .read => fnX 1 3 (m_read n (C .Reader_saying) (C .is_saying) (C .written))
  | .f_law_cell => fnM 2 2 (m_f_law_cell )
  | .f_law_mix => fnM 3 4 (m_f_law_mix )
  | .f_law_dice => fnM 2 7 (m_f_law_dice (C .f_law_mix))
  | .f_law_many => fnM 1 2 (m_f_law_many (C .f_law_many))
  | .f_law_saying => fnM 3 6 (m_f_law_saying (C .f_law_dice) (C .f_law_many) (C .f_law_mix) (C .f_law_saying))
  | .f_law_written => fnM 1 5 (m_f_law_written (C .f_law_written))
  | .f_law_word => fnM 1 2 (m_f_law_word )
  | .f_law_told => fnM 1 4 (m_f_law_told (C .f_law_word) (C .read))
  | .f_law_is_right => fnM 1 2 (m_f_law_is_right (C .f_law_told) (C .f_law_written) (C .is_saying))
  | .f_law_bad => fnM 0 1 (m_f_law_bad )
  | .f_law_changed => fnM 2 6 (m_f_law_changed (C .f_law_mix))
  | .law => fnM 1 4 (m_law (C .f_law_bad) (C .f_law_cell) (C .f_law_changed) (C .f_law_is_right) (C .f_law_saying) (C .f_law_told) (C .f_law_written))
def callN : Nat → Fn → Fm
  | 0 => fun _ _ _ => .bad
  | n + 1 => tbl n (callN n)
def ar : Fn → Nat
  | .Reader_init => 2
  | .is_whole => 3
  | .is_last => 4
  | .is_dice => 1
  | .is_saying_in => 2
  | .dice_in => 1
  | .is_saying => 1
  | .in_brackets => 2
  | .written => 1
  | .Reader_has => 2
  | .Reader_must => 2
  | .Reader_figure => 1
  | .Reader_call => 2
  | .Reader_part => 2
  | .Reader_saying => 2
  | .read => 1
  | .f_law_cell => 2
  | .f_law_mix => 3
  | .f_law_dice => 2
  | .f_law_many => 1
  | .f_law_saying => 3
  | .f_law_written => 1
  | .f_law_word => 1
  | .f_law_told => 1
  | .f_law_is_right => 1
  | .f_law_bad => 0
  | .f_law_changed => 2
  | .law => 1
theorem callN_ne : ∀ (n : Nat) (f : Fn) (ds : List D) (st : Sto), callN n f ds st ≠ .bad → ds.length = ar f
  | 0, _, _, _, h => absurd rfl h
  | n + 1, f, ds, st, h => by cases f <;> first | exact fnX_len ds st h | exact fnM_ne ds st h
theorem callN_len (n : Nat) (f : Fn) (ds : List D) (st : Sto) (d : D) (st' : Sto) (h : callN n f ds st = .ok d st') : ds.length = ar f := callN_ne n f ds st (by rw [h]; intro z; cases z)
end L13

/-! Each def of the text does what its reading does (printed by gen2.py). -/
namespace L13
open PySem L2 Ml
def top (i : Nat) : Stmt := PySem.Challenge.pw_diespeech_k13_whole_no_other_texts.main.body.getD i (.Pass ⟨0, 0, 0, 0⟩)
def inCls (s : Stmt) (j : Nat) : Stmt := match s with
  | .ClassDef (body := b) .. => b.getD j (.Pass ⟨0, 0, 0, 0⟩)
  | s => s
abbrev s_Reader_init : Stmt := inCls (top 26) 0
abbrev s_is_whole : Stmt := top 11
abbrev s_is_last : Stmt := top 12
abbrev s_is_dice : Stmt := top 13
abbrev s_is_saying_in : Stmt := top 14
abbrev s_dice_in : Stmt := top 15
abbrev s_is_saying : Stmt := top 16
abbrev s_in_brackets : Stmt := top 21
abbrev s_written : Stmt := top 22
abbrev s_Reader_has : Stmt := inCls (top 26) 1
abbrev s_Reader_must : Stmt := inCls (top 26) 2
abbrev s_Reader_figure : Stmt := inCls (top 26) 3
abbrev s_Reader_call : Stmt := inCls (top 26) 4
abbrev s_Reader_part : Stmt := inCls (top 26) 5
abbrev s_Reader_saying : Stmt := inCls (top 26) 6
abbrev s_read : Stmt := top 27
abbrev s_f_law_cell : Stmt := top 29
abbrev s_f_law_mix : Stmt := top 30
abbrev s_f_law_dice : Stmt := top 31
abbrev s_f_law_many : Stmt := top 32
abbrev s_f_law_saying : Stmt := top 33
abbrev s_f_law_written : Stmt := top 34
abbrev s_f_law_word : Stmt := top 35
abbrev s_f_law_told : Stmt := top 36
abbrev s_f_law_is_right : Stmt := top 37
abbrev s_f_law_bad : Stmt := top 38
abbrev s_f_law_changed : Stmt := top 39
abbrev s_law : Stmt := top 40
def st : Fn → Stmt
  | .Reader_init => s_Reader_init
  | .is_whole => s_is_whole
  | .is_last => s_is_last
  | .is_dice => s_is_dice
  | .is_saying_in => s_is_saying_in
  | .dice_in => s_dice_in
  | .is_saying => s_is_saying
  | .in_brackets => s_in_brackets
  | .written => s_written
  | .Reader_has => s_Reader_has
  | .Reader_must => s_Reader_must
  | .Reader_figure => s_Reader_figure
  | .Reader_call => s_Reader_call
  | .Reader_part => s_Reader_part
  | .Reader_saying => s_Reader_saying
  | .read => s_read
  | .f_law_cell => s_f_law_cell
  | .f_law_mix => s_f_law_mix
  | .f_law_dice => s_f_law_dice
  | .f_law_many => s_f_law_many
  | .f_law_saying => s_f_law_saying
  | .f_law_written => s_f_law_written
  | .f_law_word => s_f_law_word
  | .f_law_told => s_f_law_told
  | .f_law_is_right => s_f_law_is_right
  | .f_law_bad => s_f_law_bad
  | .f_law_changed => s_f_law_changed
  | .law => s_law
def nm : Fn → Str
  | .Reader_init => "__init__"
  | .is_whole => "is_whole"
  | .is_last => "is_last"
  | .is_dice => "is_dice"
  | .is_saying_in => "is_saying_in"
  | .dice_in => "dice_in"
  | .is_saying => "is_saying"
  | .in_brackets => "in_brackets"
  | .written => "written"
  | .Reader_has => "has"
  | .Reader_must => "must"
  | .Reader_figure => "figure"
  | .Reader_call => "call"
  | .Reader_part => "part"
  | .Reader_saying => "saying"
  | .read => "read"
  | .f_law_cell => "_law_cell"
  | .f_law_mix => "_law_mix"
  | .f_law_dice => "_law_dice"
  | .f_law_many => "_law_many"
  | .f_law_saying => "_law_saying"
  | .f_law_written => "_law_written"
  | .f_law_word => "_law_word"
  | .f_law_told => "_law_told"
  | .f_law_is_right => "_law_is_right"
  | .f_law_bad => "_law_bad"
  | .f_law_changed => "_law_changed"
  | .law => "law"
def ql : Fn → Str
  | .Reader_init => "Reader.__init__"
  | .is_whole => "is_whole"
  | .is_last => "is_last"
  | .is_dice => "is_dice"
  | .is_saying_in => "is_saying_in"
  | .dice_in => "dice_in"
  | .is_saying => "is_saying"
  | .in_brackets => "in_brackets"
  | .written => "written"
  | .Reader_has => "Reader.has"
  | .Reader_must => "Reader.must"
  | .Reader_figure => "Reader.figure"
  | .Reader_call => "Reader.call"
  | .Reader_part => "Reader.part"
  | .Reader_saying => "Reader.saying"
  | .read => "read"
  | .f_law_cell => "_law_cell"
  | .f_law_mix => "_law_mix"
  | .f_law_dice => "_law_dice"
  | .f_law_many => "_law_many"
  | .f_law_saying => "_law_saying"
  | .f_law_written => "_law_written"
  | .f_law_word => "_law_word"
  | .f_law_told => "_law_told"
  | .f_law_is_right => "_law_is_right"
  | .f_law_bad => "_law_bad"
  | .f_law_changed => "_law_changed"
  | .law => "law"
def isM : Fn → Bool
  | .Reader_init => true
  | .is_whole => false
  | .is_last => false
  | .is_dice => false
  | .is_saying_in => false
  | .dice_in => false
  | .is_saying => false
  | .in_brackets => false
  | .written => false
  | .Reader_has => true
  | .Reader_must => true
  | .Reader_figure => true
  | .Reader_call => true
  | .Reader_part => true
  | .Reader_saying => true
  | .read => false
  | .f_law_cell => false
  | .f_law_mix => false
  | .f_law_dice => false
  | .f_law_many => false
  | .f_law_saying => false
  | .f_law_written => false
  | .f_law_word => false
  | .f_law_told => false
  | .f_law_is_right => false
  | .f_law_bad => false
  | .f_law_changed => false
  | .law => false
def rz : Fn → Bool
  | .Reader_init => false
  | .is_whole => false
  | .is_last => false
  | .is_dice => false
  | .is_saying_in => false
  | .dice_in => false
  | .is_saying => false
  | .in_brackets => false
  | .written => false
  | .Reader_has => false
  | .Reader_must => true
  | .Reader_figure => true
  | .Reader_call => true
  | .Reader_part => true
  | .Reader_saying => true
  | .read => true
  | .f_law_cell => false
  | .f_law_mix => false
  | .f_law_dice => false
  | .f_law_many => false
  | .f_law_saying => false
  | .f_law_written => false
  | .f_law_word => false
  | .f_law_told => false
  | .f_law_is_right => false
  | .f_law_bad => false
  | .f_law_changed => false
  | .law => false
def ps : Fn → List Str
  | .Reader_init => ["self", "text"]
  | .is_whole => ["thing", "low", "high"]
  | .is_last => ["word", "many", "sides", "last"]
  | .is_dice => ["thing"]
  | .is_saying_in => ["thing", "deep"]
  | .dice_in => ["saying"]
  | .is_saying => ["thing"]
  | .in_brackets => ["saying", "words"]
  | .written => ["saying"]
  | .Reader_has => ["self", "some"]
  | .Reader_must => ["self", "some"]
  | .Reader_figure => ["self"]
  | .Reader_call => ["self", "deep"]
  | .Reader_part => ["self", "deep"]
  | .Reader_saying => ["self", "deep"]
  | .read => ["text"]
  | .f_law_cell => ["script", "k"]
  | .f_law_mix => ["cell", "prime", "many"]
  | .f_law_dice => ["cell", "most"]
  | .f_law_many => ["saying"]
  | .f_law_saying => ["cell", "deep", "most"]
  | .f_law_written => ["saying"]
  | .f_law_word => ["kept"]
  | .f_law_told => ["text"]
  | .f_law_is_right => ["text"]
  | .f_law_bad => []
  | .f_law_changed => ["text", "cell"]
  | .law => ["script"]
/-- what the top has written -/
structure Tx (w : World) (K : PySem.W.Frag) (mg : Str → Option Value) (ad : Fn → Addr) (fd : Fn → FuncData) (a_TWO : Addr) (a_DICE : Addr) (t_DEEPEST : Tok) (t_MOST_DICE : Tok) (a_SIGNS : Addr) (a_CALLS : Addr) (a_SUMS : Addr) (t_FIGURES : Tok) (t_MOST_DEEP : Tok) (A_NoFaces : Addr) (A_NoNote : Addr) (A_NoText : Addr) (A_NoWorth : Addr) (A_Reader : Addr) (A_ThrowError : Addr) : Prop where
  f : ∀ f, Fun K (nm f) (ql f) (st f) (ad f) (fd f)
  m : ∀ f, isM f = false → mg (nm f) = some (.ref (ad f))
  k : ∀ f, PySem.W.keepIn K (.ref (ad f)) = true
  b : ∀ f, Binds K (fd f) (ps f) []
  b_ValueError : mg "ValueError" = none
  b_all : mg "all" = none
  b_any : mg "any" = none
  b_bool : mg "bool" = none
  b_int : mg "int" = none
  b_isinstance : mg "isinstance" = none
  b_len : mg "len" = none
  b_min : mg "min" = none
  b_range : mg "range" = none
  b_str : mg "str" = none
  b_sum : mg "sum" = none
  b_tuple : mg "tuple" = none
  g_TWO : mg "TWO" = some (.ref a_TWO)
  r_TWO : ∀ H mu, Rp K H mu (.ref a_TWO) d_TWO
  g_DICE : mg "DICE" = some (.ref a_DICE)
  r_DICE : ∀ H mu, Rp K H mu (.ref a_DICE) d_DICE
  g_DEEPEST : mg "DEEPEST" = some (.int 3 t_DEEPEST)
  g_MOST_DICE : mg "MOST_DICE" = some (.int 6 t_MOST_DICE)
  g_SIGNS : mg "SIGNS" = some (.ref a_SIGNS)
  t_SIGNS : Tab K w a_SIGNS d_SIGNS
  g_CALLS : mg "CALLS" = some (.ref a_CALLS)
  t_CALLS : Tab K w a_CALLS d_CALLS
  g_SUMS : mg "SUMS" = some (.ref a_SUMS)
  t_SUMS : Tab K w a_SUMS d_SUMS
  g_FIGURES : mg "FIGURES" = some (.str "0123456789" t_FIGURES)
  g_MOST_DEEP : mg "MOST_DEEP" = some (.int 6 t_MOST_DEEP)
  g_NoFaces : mg "NoFaces" = some (.ref A_NoFaces)
  c_NoFaces : clsIn K "NoFaces" A_NoFaces
  g_NoNote : mg "NoNote" = some (.ref A_NoNote)
  c_NoNote : clsIn K "NoNote" A_NoNote
  g_NoText : mg "NoText" = some (.ref A_NoText)
  c_NoText : clsIn K "NoText" A_NoText
  g_NoWorth : mg "NoWorth" = some (.ref A_NoWorth)
  c_NoWorth : clsIn K "NoWorth" A_NoWorth
  g_Reader : mg "Reader" = some (.ref A_Reader)
  c_Reader : clsIn K "Reader" A_Reader
  g_ThrowError : mg "ThrowError" = some (.ref A_ThrowError)
  c_ThrowError : clsIn K "ThrowError" A_ThrowError
  C_Reader : Cls K A_Reader
  M_Reader : Mk K A_Reader (ad .Reader_init)
  n_Reader_text : NoAttr K A_Reader "text"
  n_Reader_place : NoAttr K A_Reader "place"
  h_Reader_has : Meth K A_Reader "has" (ad .Reader_has)
  h_Reader_must : Meth K A_Reader "must" (ad .Reader_must)
  h_Reader_figure : Meth K A_Reader "figure" (ad .Reader_figure)
  h_Reader_call : Meth K A_Reader "call" (ad .Reader_call)
  h_Reader_part : Meth K A_Reader "part" (ad .Reader_part)
  h_Reader_saying : Meth K A_Reader "saying" (ad .Reader_saying)
  x_NoText : PySem.W.excIn K A_NoText [.type "ValueError", .type "Exception", .type "BaseException", .type "object"] "ValueError.__new__" = true
  k_NoText : PySem.W.keepIn K (.ref A_NoText) = true
  s_NoText : PySem.W.subIn K (.ref A_NoText) (.type "BaseException") = some true
  y_NoText : PySem.W.typeIn K (.ref A_NoText) = some (.type "type")
  cat_ThrowError : ∀ c b cls, cat_ThrowError c = some b → PySem.W.nsIn K mainGlobals c = some (some cls) → PySem.W.exmOne K cls (.ref A_ThrowError) = some b
  cr_ThrowError : ∀ c, Ml.cat_ThrowError c = some true → ∃ D, clsIn K c D
  is_NoFaces : ∀ c b A, isi_NoFaces c = some b → clsIn K c A → PySem.W.kitOne K (.ref A) (.ref A_NoFaces) = some b ∧ ExcC K A
  is_NoNote : ∀ c b A, isi_NoNote c = some b → clsIn K c A → PySem.W.kitOne K (.ref A) (.ref A_NoNote) = some b ∧ ExcC K A
  is_NoText : ∀ c b A, isi_NoText c = some b → clsIn K c A → PySem.W.kitOne K (.ref A) (.ref A_NoText) = some b ∧ ExcC K A
  is_NoWorth : ∀ c b A, isi_NoWorth c = some b → clsIn K c A → PySem.W.kitOne K (.ref A) (.ref A_NoWorth) = some b ∧ ExcC K A
  is_ValueError : ∀ c b A, isi_ValueError c = some b → clsIn K c A → PySem.W.kitOne K (.ref A) (.type "ValueError") = some b ∧ ExcC K A
section
variable {P : Program} {w : World} {K : PySem.W.Frag} {mg : Str → Option Value} {base : Heap} {ad : Fn → Addr} {fd : Fn → FuncData} {a_TWO : Addr} {a_DICE : Addr} {t_DEEPEST : Tok} {t_MOST_DICE : Tok} {a_SIGNS : Addr} {a_CALLS : Addr} {a_SUMS : Addr} {t_FIGURES : Tok} {t_MOST_DEEP : Tok} {A_NoFaces : Addr} {A_NoNote : Addr} {A_NoText : Addr} {A_NoWorth : Addr} {A_Reader : Addr} {A_ThrowError : Addr}
/-- g keeps its promise at level n -/
@[reducible] def Good (P : Program) (w : World) (K : PySem.W.Frag) (mg : Str → Option Value) (base : Heap) (ad : Fn → Addr) (fd : Fn → FuncData) (n : Nat) (g : Fn) : Prop := match rz g with
  | true => FnOk P w K mg base (L2.CX P w) n (ad g) (fd g) (ps g) (spX K (ar g) (callN n g))
  | false => FnOk P w K mg base CX0 n (ad g) (fd g) (ps g) (spM K (ar g) (callN n g))
theorem sc_Reader_init : FnScope ["self", "text"] (ps .Reader_init) (defScope s_Reader_init) := ⟨rfl, rfl, rfl, by decide +kernel, rfl, by decide +kernel, by decide +kernel⟩
theorem ok0_Reader_init (T : Tx w K mg ad fd a_TWO a_DICE t_DEEPEST t_MOST_DICE a_SIGNS a_CALLS a_SUMS t_FIGURES t_MOST_DEEP A_NoFaces A_NoNote A_NoText A_NoWorth A_Reader A_ThrowError) : FnOk P w K mg base CX0 1 (ad .Reader_init) (fd .Reader_init) (ps .Reader_init) (spM K 2 (fnM 2 2 m_Reader_init)) :=
  have S := sc_Reader_init
  fn_ok (T.f .Reader_init) sc_Reader_init rfl fun cdv A outer s H E hr =>
  (mss_cons (ms_fld T.c_Reader T.C_Reader T.n_Reader_text (me_var (pv 0)) (me_var (pv 1))) (mss_one (ms_fld T.c_Reader T.C_Reader T.n_Reader_place (me_var (pv 0)) me_int)))
theorem ok_Reader_init {n : Nat} (T : Tx w K mg ad fd a_TWO a_DICE t_DEEPEST t_MOST_DICE a_SIGNS a_CALLS a_SUMS t_FIGURES t_MOST_DEEP A_NoFaces A_NoNote A_NoText A_NoWorth A_Reader A_ThrowError) (IH : ∀ g, Good P w K mg base ad fd n g) : FnOk P w K mg base CX0 (n + 1) (ad .Reader_init) (fd .Reader_init) (ps .Reader_init) (spM K (ar .Reader_init) (callN (n + 1) .Reader_init)) :=
  have S := sc_Reader_init
  fn_ok (T.f .Reader_init) sc_Reader_init rfl fun cdv A outer s H E hr =>
  (mss_cons (ms_fld T.c_Reader T.C_Reader T.n_Reader_text (me_var (pv 0)) (me_var (pv 1))) (mss_one (ms_fld T.c_Reader T.C_Reader T.n_Reader_place (me_var (pv 0)) me_int)))
theorem sc_is_whole : FnScope ["thing", "low", "high"] (ps .is_whole) (defScope s_is_whole) := ⟨rfl, rfl, rfl, by decide +kernel, rfl, by decide +kernel, by decide +kernel⟩
theorem ok_is_whole {n : Nat} (T : Tx w K mg ad fd a_TWO a_DICE t_DEEPEST t_MOST_DICE a_SIGNS a_CALLS a_SUMS t_FIGURES t_MOST_DEEP A_NoFaces A_NoNote A_NoText A_NoWorth A_Reader A_ThrowError) (IH : ∀ g, Good P w K mg base ad fd n g) : FnOk P w K mg base CX0 (n + 1) (ad .is_whole) (fd .is_whole) (ps .is_whole) (spM K (ar .is_whole) (callN (n + 1) .is_whole)) :=
  have S := sc_is_whole
  fn_ok (T.f .is_whole) sc_is_whole rfl fun cdv A outer s H E hr =>
  (mss_one (ms_ret (me_and (me_isi rfl T.b_isinstance rfl T.b_int bt_int ok_int (me_var (pv 0))) (me_and (me_not (me_isi rfl T.b_isinstance rfl T.b_bool bt_bool ok_bool (me_var (pv 0)))) (me_one (me_chain op_le opS_le op_le opS_le (me_var (pv 1)) (me_var (pv 0)) (me_var (pv 2))))))))
theorem sc_is_last : FnScope ["word", "many", "sides", "last"] (ps .is_last) (defScope s_is_last) := ⟨rfl, rfl, rfl, by decide +kernel, rfl, by decide +kernel, by decide +kernel⟩
theorem ok_is_last {n : Nat} (T : Tx w K mg ad fd a_TWO a_DICE t_DEEPEST t_MOST_DICE a_SIGNS a_CALLS a_SUMS t_FIGURES t_MOST_DEEP A_NoFaces A_NoNote A_NoText A_NoWorth A_Reader A_ThrowError) (IH : ∀ g, Good P w K mg base ad fd n g) : FnOk P w K mg base CX0 (n + 1) (ad .is_last) (fd .is_last) (ps .is_last) (spM K (ar .is_last) (callN (n + 1) .is_last)) :=
  have S := sc_is_last
  fn_ok (T.f .is_last) sc_is_last rfl fun cdv A outer s H E hr =>
  (mss_cons (ms_if (mt_cmp op_in_seq opS_in (me_var (pv 0)) (me_tup (ma_cons me_str (ma_cons me_str ma_nil))) (by rfl)) (mss_one (ms_ret (me_call (callN_len _ _) (IH .is_whole) hr rfl (T.m .is_whole rfl) (T.k .is_whole) (T.b .is_whole) (ma_cons (me_var (pv 3)) (ma_cons me_int (ma_cons (me_var (pv 1)) ma_nil)))))) mss_nil) (mss_cons (ms_if (mt_cmp (op_eqA hr.units) opS_eq (me_var (pv 0)) me_str (nomark _)) (mss_one (ms_ret (me_call (callN_len _ _) (IH .is_whole) hr rfl (T.m .is_whole rfl) (T.k .is_whole) (T.b .is_whole) (ma_cons (me_var (pv 3)) (ma_cons me_int (ma_cons (me_sub (me_var (pv 2)) me_int) ma_nil)))))) mss_nil) (mss_cons (ms_if (mt_cmp (op_eqA hr.units) opS_eq (me_var (pv 0)) me_str (nomark _)) (mss_one (ms_ret (me_call (callN_len _ _) (IH .is_whole) hr rfl (T.m .is_whole rfl) (T.k .is_whole) (T.b .is_whole) (ma_cons (me_var (pv 3)) (ma_cons me_int (ma_cons me_int ma_nil)))))) mss_nil) (mss_one (ms_ret (me_call (callN_len _ _) (IH .is_whole) hr rfl (T.m .is_whole rfl) (T.k .is_whole) (T.b .is_whole) (ma_cons (me_var (pv 3)) (ma_cons me_int (ma_cons (me_var (pv 2)) ma_nil)))))))))
theorem sc_is_dice : FnScope ["thing"] (ps .is_dice) (defScope s_is_dice) := ⟨rfl, rfl, rfl, by decide +kernel, rfl, by decide +kernel, by decide +kernel⟩
theorem ok_is_dice {n : Nat} (T : Tx w K mg ad fd a_TWO a_DICE t_DEEPEST t_MOST_DICE a_SIGNS a_CALLS a_SUMS t_FIGURES t_MOST_DEEP A_NoFaces A_NoNote A_NoText A_NoWorth A_Reader A_ThrowError) (IH : ∀ g, Good P w K mg base ad fd n g) : FnOk P w K mg base CX0 (n + 1) (ad .is_dice) (fd .is_dice) (ps .is_dice) (spM K (ar .is_dice) (callN (n + 1) .is_dice)) :=
  have S := sc_is_dice
  fn_ok (T.f .is_dice) sc_is_dice rfl fun cdv A outer s H E hr =>
  (mss_cons (ms_if (mt_w (mw_or (mt_cmp (op_neA hr.units) opS_ne (me_callB call_len callS_len rfl T.b_len bt_len (ma_cons (me_var (pv 0)) ma_nil)) (me_sub me_int (me_callTy call_int1 callS_int rfl T.b_int bt_int (ma_cons (me_cmp (op_eqA hr.units) opS_eq (me_item (me_var (pv 0)) me_int) me_str (nomark _)) ma_nil))) (nomark _)) (mw_or (mt_not (mt_tru (me_call (callN_len _ _) (IH .is_whole) hr rfl (T.m .is_whole rfl) (T.k .is_whole) (T.b .is_whole) (ma_cons (me_item (me_var (pv 0)) me_int) (ma_cons me_int (ma_cons me_int ma_nil)))))) (mw_or1 (mt_not (mt_tru (me_call (callN_len _ _) (IH .is_whole) hr rfl (T.m .is_whole rfl) (T.k .is_whole) (T.b .is_whole) (ma_cons (me_item (me_var (pv 0)) me_int) (ma_cons me_int (ma_cons me_int ma_nil)))))))))) (mss_one (ms_ret me_bl)) mss_nil) (mss_one (ms_ret (me_or (me_cmp (op_eqA hr.units) opS_eq (me_item (me_var (pv 0)) me_int) me_str (nomark _)) (me_one (me_call (callN_len _ _) (IH .is_last) hr rfl (T.m .is_last rfl) (T.k .is_last) (T.b .is_last) (ma_cons (me_item (me_var (pv 0)) me_int) (ma_cons (me_item (me_var (pv 0)) me_int) (ma_cons (me_item (me_var (pv 0)) me_int) (ma_cons (me_item (me_var (pv 0)) me_int) ma_nil))))))))))
theorem sc_is_saying_in : FnScope ["thing", "deep", "part"] (ps .is_saying_in) (defScope s_is_saying_in) := ⟨rfl, rfl, rfl, by decide +kernel, rfl, by decide +kernel, by decide +kernel⟩
theorem ok_is_saying_in {n : Nat} (T : Tx w K mg ad fd a_TWO a_DICE t_DEEPEST t_MOST_DICE a_SIGNS a_CALLS a_SUMS t_FIGURES t_MOST_DEEP A_NoFaces A_NoNote A_NoText A_NoWorth A_Reader A_ThrowError) (IH : ∀ g, Good P w K mg base ad fd n g) : FnOk P w K mg base CX0 (n + 1) (ad .is_saying_in) (fd .is_saying_in) (ps .is_saying_in) (spM K (ar .is_saying_in) (callN (n + 1) .is_saying_in)) :=
  have S := sc_is_saying_in
  fn_ok (T.f .is_saying_in) sc_is_saying_in rfl fun cdv A outer s H E hr =>
  (mss_cons (ms_if (mt_w (mw_or (mt_not (mt_tru (me_isi rfl T.b_isinstance rfl T.b_tuple bt_tuple ok_tuple (me_var (pv 0))))) (mw_or (mt_cmp op_lt opS_lt (me_callB call_len callS_len rfl T.b_len bt_len (ma_cons (me_var (pv 0)) ma_nil)) me_int (nomark _)) (mw_or (mt_not (mt_tru (me_isi rfl T.b_isinstance rfl T.b_str bt_str ok_str (me_item (me_var (pv 0)) me_int)))) (mw_or1 (mt_cmp (op_eqA hr.units) opS_eq (me_var (pv 1)) me_int (nomark _))))))) (mss_one (ms_ret me_bl)) mss_nil) (mss_cons (ms_if (mt_cmp (op_eqA hr.units) opS_eq (me_item (me_var (pv 0)) me_int) me_str (nomark _)) (mss_one (ms_ret (me_and (me_cmp (op_eqA hr.units) opS_eq (me_callB call_len callS_len rfl T.b_len bt_len (ma_cons (me_var (pv 0)) ma_nil)) me_int (nomark _)) (me_one (me_call (callN_len _ _) (IH .is_whole) hr rfl (T.m .is_whole rfl) (T.k .is_whole) (T.b .is_whole) (ma_cons (me_item (me_var (pv 0)) me_int) (ma_cons me_int (ma_cons me_int ma_nil)))))))) mss_nil) (mss_cons (ms_if (mt_cmp op_in_seq opS_in (me_item (me_var (pv 0)) me_int) (me_glob (pe_glob (v := .ref a_DICE) rfl T.g_DICE rfl) T.r_DICE) (by rfl)) (mss_one (ms_ret (me_call (callN_len _ _) (IH .is_dice) hr rfl (T.m .is_dice rfl) (T.k .is_dice) (T.b .is_dice) (ma_cons (me_var (pv 0)) ma_nil)))) mss_nil) (mss_cons (ms_if (mt_cmp (op_eqA hr.units) opS_eq (me_item (me_var (pv 0)) me_int) me_str (nomark _)) (mss_one (ms_ret (me_and (me_cmp (op_eqA hr.units) opS_eq (me_callB call_len callS_len rfl T.b_len bt_len (ma_cons (me_var (pv 0)) ma_nil)) me_int (nomark _)) (me_and (me_call (callN_len _ _) (IH .is_whole) hr rfl (T.m .is_whole rfl) (T.k .is_whole) (T.b .is_whole) (ma_cons (me_item (me_var (pv 0)) me_int) (ma_cons me_int (ma_cons me_int ma_nil)))) (me_one (me_call (callN_len _ _) (IH .is_saying_in) hr rfl (T.m .is_saying_in rfl) (T.k .is_saying_in) (T.b .is_saying_in) (ma_cons (me_item (me_var (pv 0)) me_int) (ma_cons (me_sub (me_var (pv 1)) me_int) ma_nil)))))))) mss_nil) (mss_one (ms_ret (me_and (me_cmp op_in_seq opS_in (me_item (me_var (pv 0)) me_int) (me_glob (pe_glob (v := .ref a_TWO) rfl T.g_TWO rfl) T.r_TWO) (by rfl)) (me_and (me_cmp (op_eqA hr.units) opS_eq (me_callB call_len callS_len rfl T.b_len bt_len (ma_cons (me_var (pv 0)) ma_nil)) me_int (nomark _)) (me_one (mq_callB (cr_all rfl) qs_all rfl T.b_all bt_all (mq_new (ml_lc rfl S.nd (own := [("part", 2)]) (mi_tup (me_slice (me_var (pv 0)) (mo_some me_int) mo_none)) (blkOk_by (own := [("part", 2)]) (N := ["thing", "deep", "part"]) (sc := defScope s_is_saying_in) (by decide +kernel)) (by decide) (fun _ _ _ _ _ => (mg_name (i := 2) S.nd rfl (by first | exact Or.inl rfl | exact Or.inr rfl))) (fun _ _ _ _ _ => mts_nil) (fun _ _ _ _ _ => (me_call (callN_len _ _) (IH .is_saying_in) hr rfl (T.m .is_saying_in rfl) (T.k .is_saying_in) (T.b .is_saying_in) (ma_cons (me_var (pv 2)) (ma_cons (me_sub (me_var (pv 1)) me_int) ma_nil))))))))))))))))
theorem sc_dice_in : FnScope ["saying", "part"] (ps .dice_in) (defScope s_dice_in) := ⟨rfl, rfl, rfl, by decide +kernel, rfl, by decide +kernel, by decide +kernel⟩
theorem ok_dice_in {n : Nat} (T : Tx w K mg ad fd a_TWO a_DICE t_DEEPEST t_MOST_DICE a_SIGNS a_CALLS a_SUMS t_FIGURES t_MOST_DEEP A_NoFaces A_NoNote A_NoText A_NoWorth A_Reader A_ThrowError) (IH : ∀ g, Good P w K mg base ad fd n g) : FnOk P w K mg base CX0 (n + 1) (ad .dice_in) (fd .dice_in) (ps .dice_in) (spM K (ar .dice_in) (callN (n + 1) .dice_in)) :=
  have S := sc_dice_in
  fn_ok (T.f .dice_in) sc_dice_in rfl fun cdv A outer s H E hr =>
  (mss_cons (ms_if (mt_cmp op_in_seq opS_in (me_item (me_var (pv 0)) me_int) (me_glob (pe_glob (v := .ref a_DICE) rfl T.g_DICE rfl) T.r_DICE) (by rfl)) (mss_one (ms_ret (me_item (me_var (pv 0)) me_int))) mss_nil) (mss_one (ms_ret (mq_callB (cr_sum rfl) qs_sum rfl T.b_sum bt_sum (mq_new (ml_lc rfl S.nd (own := [("part", 1)]) (mi_tup (me_slice (me_var (pv 0)) (mo_some me_int) mo_none)) (blkOk_by (own := [("part", 1)]) (N := ["saying", "part"]) (sc := defScope s_dice_in) (by decide +kernel)) (by decide) (fun _ _ _ _ _ => (mg_name (i := 1) S.nd rfl (by first | exact Or.inl rfl | exact Or.inr rfl))) (fun _ _ _ _ _ => (mts_one (mt_tru (me_isi rfl T.b_isinstance rfl T.b_tuple bt_tuple ok_tuple (me_var (pv 1)))))) (fun _ _ _ _ _ => (me_call (callN_len _ _) (IH .dice_in) hr rfl (T.m .dice_in rfl) (T.k .dice_in) (T.b .dice_in) (ma_cons (me_var (pv 1)) ma_nil)))))))))
theorem sc_is_saying : FnScope ["thing"] (ps .is_saying) (defScope s_is_saying) := ⟨rfl, rfl, rfl, by decide +kernel, rfl, by decide +kernel, by decide +kernel⟩
theorem ok_is_saying {n : Nat} (T : Tx w K mg ad fd a_TWO a_DICE t_DEEPEST t_MOST_DICE a_SIGNS a_CALLS a_SUMS t_FIGURES t_MOST_DEEP A_NoFaces A_NoNote A_NoText A_NoWorth A_Reader A_ThrowError) (IH : ∀ g, Good P w K mg base ad fd n g) : FnOk P w K mg base CX0 (n + 1) (ad .is_saying) (fd .is_saying) (ps .is_saying) (spM K (ar .is_saying) (callN (n + 1) .is_saying)) :=
  have S := sc_is_saying
  fn_ok (T.f .is_saying) sc_is_saying rfl fun cdv A outer s H E hr =>
  (mss_one (ms_ret (me_and (me_call (callN_len _ _) (IH .is_saying_in) hr rfl (T.m .is_saying_in rfl) (T.k .is_saying_in) (T.b .is_saying_in) (ma_cons (me_var (pv 0)) (ma_cons (me_glob (pe_glob (v := .int 3) rfl T.g_DEEPEST ⟨_, rfl⟩) (fun _ _ => .int _)) ma_nil))) (me_one (me_cmp op_le opS_le (me_call (callN_len _ _) (IH .dice_in) hr rfl (T.m .dice_in rfl) (T.k .dice_in) (T.b .dice_in) (ma_cons (me_var (pv 0)) ma_nil)) (me_glob (pe_glob (v := .int 6) rfl T.g_MOST_DICE ⟨_, rfl⟩) (fun _ _ => .int _)) (nomark _))))))
theorem sc_in_brackets : FnScope ["saying", "words"] (ps .in_brackets) (defScope s_in_brackets) := ⟨rfl, rfl, rfl, by decide +kernel, rfl, by decide +kernel, by decide +kernel⟩
theorem ok_in_brackets {n : Nat} (T : Tx w K mg ad fd a_TWO a_DICE t_DEEPEST t_MOST_DICE a_SIGNS a_CALLS a_SUMS t_FIGURES t_MOST_DEEP A_NoFaces A_NoNote A_NoText A_NoWorth A_Reader A_ThrowError) (IH : ∀ g, Good P w K mg base ad fd n g) : FnOk P w K mg base CX0 (n + 1) (ad .in_brackets) (fd .in_brackets) (ps .in_brackets) (spM K (ar .in_brackets) (callN (n + 1) .in_brackets)) :=
  have S := sc_in_brackets
  fn_ok (T.f .in_brackets) sc_in_brackets rfl fun cdv A outer s H E hr =>
  (mss_cons (ms_if (mt_cmp op_in_seq opS_in (me_item (me_var (pv 0)) me_int) (me_var (pv 1)) (by rfl)) (mss_one (ms_ret (me_add (me_add me_str (me_call (callN_len _ _) (IH .written) hr rfl (T.m .written rfl) (T.k .written) (T.b .written) (ma_cons (me_var (pv 0)) ma_nil))) me_str))) mss_nil) (mss_one (ms_ret (me_call (callN_len _ _) (IH .written) hr rfl (T.m .written rfl) (T.k .written) (T.b .written) (ma_cons (me_var (pv 0)) ma_nil)))))
theorem sc_written : FnScope ["saying", "word", "found"] (ps .written) (defScope s_written) := ⟨rfl, rfl, rfl, by decide +kernel, rfl, by decide +kernel, by decide +kernel⟩
theorem ok_written {n : Nat} (T : Tx w K mg ad fd a_TWO a_DICE t_DEEPEST t_MOST_DICE a_SIGNS a_CALLS a_SUMS t_FIGURES t_MOST_DEEP A_NoFaces A_NoNote A_NoText A_NoWorth A_Reader A_ThrowError) (IH : ∀ g, Good P w K mg base ad fd n g) : FnOk P w K mg base CX0 (n + 1) (ad .written) (fd .written) (ps .written) (spM K (ar .written) (callN (n + 1) .written)) :=
  have S := sc_written
  fn_ok (T.f .written) sc_written rfl fun cdv A outer s H E hr =>
  (mss_cons (ms_set (i := 1) S.nd rfl (by first | exact Or.inl rfl | exact Or.inr rfl) (me_item (me_var (pv 0)) me_int)) (mss_cons (ms_if (mt_cmp (op_eqA hr.units) opS_eq (me_var (pv 1)) me_str (nomark _)) (mss_one (ms_ret (me_callTy call_str_int callS_str rfl T.b_str bt_str (ma_cons (me_item (me_var (pv 0)) me_int) ma_nil)))) mss_nil) (mss_cons (ms_if (mt_cmp (op_eqA hr.units) opS_eq (me_var (pv 1)) me_str (nomark _)) (mss_one (ms_ret (me_add (me_add (me_callTy call_str_int callS_str rfl T.b_str bt_str (ma_cons (me_item (me_var (pv 0)) me_int) ma_nil)) me_str) (me_call (callN_len _ _) (IH .in_brackets) hr rfl (T.m .in_brackets rfl) (T.k .in_brackets) (T.b .in_brackets) (ma_cons (me_item (me_var (pv 0)) me_int) (ma_cons (me_tup (ma_cons me_str (ma_cons me_str (ma_cons me_str ma_nil)))) ma_nil)))))) mss_nil) (mss_cons (ms_if (mt_inTab T.t_SUMS (me_var (pv 1)) (pe_glob (v := .ref a_SUMS) rfl T.g_SUMS rfl)) (mss_one (ms_ret (me_add (me_add (me_call (callN_len _ _) (IH .written) hr rfl (T.m .written rfl) (T.k .written) (T.b .written) (ma_cons (me_item (me_var (pv 0)) me_int) ma_nil)) (me_atTab T.t_SUMS (pe_glob (v := .ref a_SUMS) rfl T.g_SUMS rfl) (me_var (pv 1)))) (me_call (callN_len _ _) (IH .in_brackets) hr rfl (T.m .in_brackets rfl) (T.k .in_brackets) (T.b .in_brackets) (ma_cons (me_item (me_var (pv 0)) me_int) (ma_cons (me_tup (ma_cons me_str (ma_cons me_str ma_nil))) ma_nil)))))) mss_nil) (mss_cons (ms_if (mt_inTab T.t_CALLS (me_var (pv 1)) (pe_glob (v := .ref a_CALLS) rfl T.g_CALLS rfl)) (mss_one (ms_ret (me_add (me_add (me_add (me_add (me_add (me_atTab T.t_CALLS (pe_glob (v := .ref a_CALLS) rfl T.g_CALLS rfl) (me_var (pv 1))) me_str) (me_call (callN_len _ _) (IH .written) hr rfl (T.m .written rfl) (T.k .written) (T.b .written) (ma_cons (me_item (me_var (pv 0)) me_int) ma_nil))) me_str) (me_call (callN_len _ _) (IH .written) hr rfl (T.m .written rfl) (T.k .written) (T.b .written) (ma_cons (me_item (me_var (pv 0)) me_int) ma_nil))) me_str))) mss_nil) (mss_cons (ms_set (i := 2) S.nd rfl (by first | exact Or.inl rfl | exact Or.inr rfl) (me_add (me_add (me_callTy call_str_int callS_str rfl T.b_str bt_str (ma_cons (me_item (me_var (pv 0)) me_int) ma_nil)) me_str) (me_callTy call_str_int callS_str rfl T.b_str bt_str (ma_cons (me_item (me_var (pv 0)) me_int) ma_nil)))) (mss_cons (ms_if (mt_cmp (op_neA hr.units) opS_ne (me_var (pv 1)) me_str (nomark _)) (mss_one (ms_set (i := 2) S.nd rfl (by first | exact Or.inl rfl | exact Or.inr rfl) (me_add (me_add (me_var (pv 2)) (me_atTab T.t_SIGNS (pe_glob (v := .ref a_SIGNS) rfl T.g_SIGNS rfl) (me_var (pv 1)))) (me_callTy call_str_int callS_str rfl T.b_str bt_str (ma_cons (me_item (me_var (pv 0)) me_int) ma_nil))))) mss_nil) (mss_one (ms_ret (me_var (pv 2)))))))))))
theorem sc_Reader_has : FnScope ["self", "some"] (ps .Reader_has) (defScope s_Reader_has) := ⟨rfl, rfl, rfl, by decide +kernel, rfl, by decide +kernel, by decide +kernel⟩
theorem ok_Reader_has {n : Nat} (T : Tx w K mg ad fd a_TWO a_DICE t_DEEPEST t_MOST_DICE a_SIGNS a_CALLS a_SUMS t_FIGURES t_MOST_DEEP A_NoFaces A_NoNote A_NoText A_NoWorth A_Reader A_ThrowError) (IH : ∀ g, Good P w K mg base ad fd n g) : FnOk P w K mg base CX0 (n + 1) (ad .Reader_has) (fd .Reader_has) (ps .Reader_has) (spM K (ar .Reader_has) (callN (n + 1) .Reader_has)) :=
  have S := sc_Reader_has
  fn_ok (T.f .Reader_has) sc_Reader_has rfl fun cdv A outer s H E hr =>
  (mss_cons (ms_if (mt_cmp (op_neA hr.units) opS_ne (me_slice (me_fld T.c_Reader T.C_Reader T.n_Reader_text (me_var (pv 0))) (mo_some (me_fld T.c_Reader T.C_Reader T.n_Reader_place (me_var (pv 0)))) (mo_some (me_add (me_fld T.c_Reader T.C_Reader T.n_Reader_place (me_var (pv 0))) (me_callB call_len callS_len rfl T.b_len bt_len (ma_cons (me_var (pv 1)) ma_nil))))) (me_var (pv 1)) (nomark _)) (mss_one (ms_ret me_bl)) mss_nil) (mss_cons (ms_fld T.c_Reader T.C_Reader T.n_Reader_place (me_var (pv 0)) (me_add (me_fld T.c_Reader T.C_Reader T.n_Reader_place (me_var (pv 0))) (me_callB call_len callS_len rfl T.b_len bt_len (ma_cons (me_var (pv 1)) ma_nil)))) (mss_one (ms_ret me_bl))))
theorem sc_Reader_must : FnScope ["self", "some"] (ps .Reader_must) (defScope s_Reader_must) := ⟨rfl, rfl, rfl, by decide +kernel, rfl, by decide +kernel, by decide +kernel⟩
theorem ok_Reader_must {n : Nat} (T : Tx w K mg ad fd a_TWO a_DICE t_DEEPEST t_MOST_DICE a_SIGNS a_CALLS a_SUMS t_FIGURES t_MOST_DEEP A_NoFaces A_NoNote A_NoText A_NoWorth A_Reader A_ThrowError) (IH : ∀ g, Good P w K mg base ad fd n g) : FnOk P w K mg base (L2.CX P w) (n + 1) (ad .Reader_must) (fd .Reader_must) (ps .Reader_must) (spX K (ar .Reader_must) (callN (n + 1) .Reader_must)) :=
  have S := sc_Reader_must
  fn_okX (T.f .Reader_must) sc_Reader_must rfl fun cdv A outer s H E W hr tk =>
  (mss_one (ms_if (mt_not (mt_tru (me_meth T.c_Reader T.C_Reader T.h_Reader_has (callN_len _ _) (IH .Reader_has) hr (T.b .Reader_has) (me_var (pv 0)) (ma_cons (me_var (pv 1)) ma_nil)))) (mss_one (ms_raise rfl tk PySem.F.excBase_ValueError T.x_NoText T.g_NoText T.c_NoText T.k_NoText T.s_NoText T.y_NoText rfl)) mss_nil))
theorem sc_Reader_figure : FnScope ["self"] (ps .Reader_figure) (defScope s_Reader_figure) := ⟨rfl, rfl, rfl, by decide +kernel, rfl, by decide +kernel, by decide +kernel⟩
theorem ok_Reader_figure {n : Nat} (T : Tx w K mg ad fd a_TWO a_DICE t_DEEPEST t_MOST_DICE a_SIGNS a_CALLS a_SUMS t_FIGURES t_MOST_DEEP A_NoFaces A_NoNote A_NoText A_NoWorth A_Reader A_ThrowError) (IH : ∀ g, Good P w K mg base ad fd n g) : FnOk P w K mg base (L2.CX P w) (n + 1) (ad .Reader_figure) (fd .Reader_figure) (ps .Reader_figure) (spX K (ar .Reader_figure) (callN (n + 1) .Reader_figure)) :=
  have S := sc_Reader_figure
  fn_okX (T.f .Reader_figure) sc_Reader_figure rfl fun cdv A outer s H E W hr tk =>
  (mss_cons (ms_if (mt_w (mw_or (mt_cmp (op_eqA hr.units) opS_eq (me_fld T.c_Reader T.C_Reader T.n_Reader_place (me_var (pv 0))) (me_callB call_len callS_len rfl T.b_len bt_len (ma_cons (me_fld T.c_Reader T.C_Reader T.n_Reader_text (me_var (pv 0))) ma_nil)) (nomark _)) (mw_or1 (mt_cmp op_notIn_sign opS_ninS (me_item (me_fld T.c_Reader T.C_Reader T.n_Reader_text (me_var (pv 0))) (me_fld T.c_Reader T.C_Reader T.n_Reader_place (me_var (pv 0)))) (me_glob (pe_glob (v := .str "0123456789") rfl T.g_FIGURES ⟨_, rfl⟩) (fun _ _ => .str _)) (by rfl))))) (mss_one (ms_raise rfl tk PySem.F.excBase_ValueError T.x_NoText T.g_NoText T.c_NoText T.k_NoText T.s_NoText T.y_NoText rfl)) mss_nil) (mss_cons (ms_fld T.c_Reader T.C_Reader T.n_Reader_place (me_var (pv 0)) (me_add (me_fld T.c_Reader T.C_Reader T.n_Reader_place (me_var (pv 0))) me_int)) (mss_one (ms_ret (me_callTy call_int_str callS_intS rfl T.b_int bt_int (ma_cons (me_item (me_fld T.c_Reader T.C_Reader T.n_Reader_text (me_var (pv 0))) (me_sub (me_fld T.c_Reader T.C_Reader T.n_Reader_place (me_var (pv 0))) me_int)) ma_nil))))))
theorem sc_Reader_call : FnScope ["self", "deep", "word", "one", "other"] (ps .Reader_call) (defScope s_Reader_call) := ⟨rfl, rfl, rfl, by decide +kernel, rfl, by decide +kernel, by decide +kernel⟩
theorem ok_Reader_call {n : Nat} (T : Tx w K mg ad fd a_TWO a_DICE t_DEEPEST t_MOST_DICE a_SIGNS a_CALLS a_SUMS t_FIGURES t_MOST_DEEP A_NoFaces A_NoNote A_NoText A_NoWorth A_Reader A_ThrowError) (IH : ∀ g, Good P w K mg base ad fd n g) : FnOk P w K mg base (L2.CX P w) (n + 1) (ad .Reader_call) (fd .Reader_call) (ps .Reader_call) (spX K (ar .Reader_call) (callN (n + 1) .Reader_call)) :=
  have S := sc_Reader_call
  fn_okX (T.f .Reader_call) sc_Reader_call rfl fun cdv A outer s H E W hr tk =>
  (mss_cons (ms_for (passes_of rfl) rfl (mi_tab T.t_CALLS (by decide) (pe_glob (v := .ref a_CALLS) rfl T.g_CALLS rfl)) (mg_name (i := 2) S.nd rfl (by first | exact Or.inl rfl | exact Or.inr rfl)) (mss_one (ms_if (mt_tru (me_meth T.c_Reader T.C_Reader T.h_Reader_has (callN_len _ _) (IH .Reader_has) hr (T.b .Reader_has) (me_var (pv 0)) (ma_cons (me_add (me_atTab T.t_CALLS (pe_glob (v := .ref a_CALLS) rfl T.g_CALLS rfl) (me_var (pv 2))) me_str) ma_nil))) (mss_cons (ms_set (i := 3) S.nd rfl (by first | exact Or.inl rfl | exact Or.inr rfl) (me_methX tk T.c_Reader T.C_Reader T.h_Reader_saying (callN_ne _ _) (IH .Reader_saying) hr (T.b .Reader_saying) (me_var (pv 0)) (ma_cons (me_sub (me_var (pv 1)) me_int) ma_nil))) (mss_cons (ms_expr (me_methX tk T.c_Reader T.C_Reader T.h_Reader_must (callN_ne _ _) (IH .Reader_must) hr (T.b .Reader_must) (me_var (pv 0)) (ma_cons me_str ma_nil))) (mss_cons (ms_set (i := 4) S.nd rfl (by first | exact Or.inl rfl | exact Or.inr rfl) (me_methX tk T.c_Reader T.C_Reader T.h_Reader_saying (callN_ne _ _) (IH .Reader_saying) hr (T.b .Reader_saying) (me_var (pv 0)) (ma_cons (me_sub (me_var (pv 1)) me_int) ma_nil))) (mss_cons (ms_expr (me_methX tk T.c_Reader T.C_Reader T.h_Reader_must (callN_ne _ _) (IH .Reader_must) hr (T.b .Reader_must) (me_var (pv 0)) (ma_cons me_str ma_nil))) (mss_one (ms_ret (me_tup (ma_cons (me_var (pv 2)) (ma_cons (me_var (pv 3)) (ma_cons (me_var (pv 4)) ma_nil)))))))))) mss_nil))) (mss_one (ms_ret me_non)))
theorem sc_Reader_part : FnScope ["self", "deep", "found", "many", "sides", "word"] (ps .Reader_part) (defScope s_Reader_part) := ⟨rfl, rfl, rfl, by decide +kernel, rfl, by decide +kernel, by decide +kernel⟩
theorem ok_Reader_part {n : Nat} (T : Tx w K mg ad fd a_TWO a_DICE t_DEEPEST t_MOST_DICE a_SIGNS a_CALLS a_SUMS t_FIGURES t_MOST_DEEP A_NoFaces A_NoNote A_NoText A_NoWorth A_Reader A_ThrowError) (IH : ∀ g, Good P w K mg base ad fd n g) : FnOk P w K mg base (L2.CX P w) (n + 1) (ad .Reader_part) (fd .Reader_part) (ps .Reader_part) (spX K (ar .Reader_part) (callN (n + 1) .Reader_part)) :=
  have S := sc_Reader_part
  fn_okX (T.f .Reader_part) sc_Reader_part rfl fun cdv A outer s H E W hr tk =>
  (mss_cons (ms_if (mt_cmp (op_eqA hr.units) opS_eq (me_var (pv 1)) me_int (nomark _)) (mss_one (ms_raise rfl tk PySem.F.excBase_ValueError T.x_NoText T.g_NoText T.c_NoText T.k_NoText T.s_NoText T.y_NoText rfl)) mss_nil) (mss_cons (ms_if (mt_tru (me_meth T.c_Reader T.C_Reader T.h_Reader_has (callN_len _ _) (IH .Reader_has) hr (T.b .Reader_has) (me_var (pv 0)) (ma_cons me_str ma_nil))) (mss_cons (ms_set (i := 2) S.nd rfl (by first | exact Or.inl rfl | exact Or.inr rfl) (me_methX tk T.c_Reader T.C_Reader T.h_Reader_saying (callN_ne _ _) (IH .Reader_saying) hr (T.b .Reader_saying) (me_var (pv 0)) (ma_cons (me_sub (me_var (pv 1)) me_int) ma_nil))) (mss_cons (ms_expr (me_methX tk T.c_Reader T.C_Reader T.h_Reader_must (callN_ne _ _) (IH .Reader_must) hr (T.b .Reader_must) (me_var (pv 0)) (ma_cons me_str ma_nil))) (mss_one (ms_ret (me_var (pv 2)))))) mss_nil) (mss_cons (ms_set (i := 2) S.nd rfl (by first | exact Or.inl rfl | exact Or.inr rfl) (me_methX tk T.c_Reader T.C_Reader T.h_Reader_call (callN_ne _ _) (IH .Reader_call) hr (T.b .Reader_call) (me_var (pv 0)) (ma_cons (me_var (pv 1)) ma_nil))) (mss_cons (ms_if (mt_cmp op_notA opS_not (me_var (pv 2)) me_non (nomark _)) (mss_one (ms_ret (me_var (pv 2)))) mss_nil) (mss_cons (ms_set (i := 3) S.nd rfl (by first | exact Or.inl rfl | exact Or.inr rfl) (me_methX0 tk T.c_Reader T.C_Reader T.h_Reader_figure (callN_ne _ _) (IH .Reader_figure) hr (T.b .Reader_figure) (me_var (pv 0)))) (mss_cons (ms_if (mt_tru (me_meth T.c_Reader T.C_Reader T.h_Reader_has (callN_len _ _) (IH .Reader_has) hr (T.b .Reader_has) (me_var (pv 0)) (ma_cons me_str ma_nil))) (mss_one (ms_ret (me_tup (ma_cons me_str (ma_cons (me_var (pv 3)) (ma_cons (me_methX tk T.c_Reader T.C_Reader T.h_Reader_part (callN_ne _ _) (IH .Reader_part) hr (T.b .Reader_part) (me_var (pv 0)) (ma_cons (me_sub (me_var (pv 1)) me_int) ma_nil)) ma_nil)))))) mss_nil) (mss_cons (ms_if (mt_not (mt_tru (me_meth T.c_Reader T.C_Reader T.h_Reader_has (callN_len _ _) (IH .Reader_has) hr (T.b .Reader_has) (me_var (pv 0)) (ma_cons me_str ma_nil)))) (mss_one (ms_ret (me_tup (ma_cons me_str (ma_cons (me_var (pv 3)) ma_nil))))) mss_nil) (mss_cons (ms_set (i := 4) S.nd rfl (by first | exact Or.inl rfl | exact Or.inr rfl) (me_methX0 tk T.c_Reader T.C_Reader T.h_Reader_figure (callN_ne _ _) (IH .Reader_figure) hr (T.b .Reader_figure) (me_var (pv 0)))) (mss_cons (ms_for (passes_of rfl) rfl (mi_tab T.t_SIGNS (by decide) (pe_glob (v := .ref a_SIGNS) rfl T.g_SIGNS rfl)) (mg_name (i := 5) S.nd rfl (by first | exact Or.inl rfl | exact Or.inr rfl)) (mss_one (ms_if (mt_tru (me_meth T.c_Reader T.C_Reader T.h_Reader_has (callN_len _ _) (IH .Reader_has) hr (T.b .Reader_has) (me_var (pv 0)) (ma_cons (me_atTab T.t_SIGNS (pe_glob (v := .ref a_SIGNS) rfl T.g_SIGNS rfl) (me_var (pv 5))) ma_nil))) (mss_one (ms_ret (me_tup (ma_cons (me_var (pv 5)) (ma_cons (me_var (pv 3)) (ma_cons (me_var (pv 4)) (ma_cons (me_methX0 tk T.c_Reader T.C_Reader T.h_Reader_figure (callN_ne _ _) (IH .Reader_figure) hr (T.b .Reader_figure) (me_var (pv 0))) ma_nil))))))) mss_nil))) (mss_one (ms_ret (me_tup (ma_cons me_str (ma_cons (me_var (pv 3)) (ma_cons (me_var (pv 4)) ma_nil)))))))))))))))
theorem sc_Reader_saying : FnScope ["self", "deep", "found", "turn"] (ps .Reader_saying) (defScope s_Reader_saying) := ⟨rfl, rfl, rfl, by decide +kernel, rfl, by decide +kernel, by decide +kernel⟩
theorem ok_Reader_saying {n : Nat} (T : Tx w K mg ad fd a_TWO a_DICE t_DEEPEST t_MOST_DICE a_SIGNS a_CALLS a_SUMS t_FIGURES t_MOST_DEEP A_NoFaces A_NoNote A_NoText A_NoWorth A_Reader A_ThrowError) (IH : ∀ g, Good P w K mg base ad fd n g) : FnOk P w K mg base (L2.CX P w) (n + 1) (ad .Reader_saying) (fd .Reader_saying) (ps .Reader_saying) (spX K (ar .Reader_saying) (callN (n + 1) .Reader_saying)) :=
  have S := sc_Reader_saying
  fn_okX (T.f .Reader_saying) sc_Reader_saying rfl fun cdv A outer s H E W hr tk =>
  (mss_cons (ms_set (i := 2) S.nd rfl (by first | exact Or.inl rfl | exact Or.inr rfl) (me_methX tk T.c_Reader T.C_Reader T.h_Reader_part (callN_ne _ _) (IH .Reader_part) hr (T.b .Reader_part) (me_var (pv 0)) (ma_cons (me_var (pv 1)) ma_nil))) (mss_cons (ms_for (passes_of rfl) rfl (mi_rng1 rfl T.b_range (ma_cons (me_glob (pe_glob (v := .int 6) rfl T.g_MOST_DEEP ⟨_, rfl⟩) (fun _ _ => .int _)) ma_nil)) (mg_name (i := 3) S.nd rfl (by first | exact Or.inl rfl | exact Or.inr rfl)) (mss_one (ms_if (mt_tru (me_meth T.c_Reader T.C_Reader T.h_Reader_has (callN_len _ _) (IH .Reader_has) hr (T.b .Reader_has) (me_var (pv 0)) (ma_cons me_str ma_nil))) (mss_one (ms_set (i := 2) S.nd rfl (by first | exact Or.inl rfl | exact Or.inr rfl) (me_tup (ma_cons me_str (ma_cons (me_var (pv 2)) (ma_cons (me_methX tk T.c_Reader T.C_Reader T.h_Reader_part (callN_ne _ _) (IH .Reader_part) hr (T.b .Reader_part) (me_var (pv 0)) (ma_cons (me_var (pv 1)) ma_nil)) ma_nil)))))) (mss_one (ms_if (mt_tru (me_meth T.c_Reader T.C_Reader T.h_Reader_has (callN_len _ _) (IH .Reader_has) hr (T.b .Reader_has) (me_var (pv 0)) (ma_cons me_str ma_nil))) (mss_one (ms_set (i := 2) S.nd rfl (by first | exact Or.inl rfl | exact Or.inr rfl) (me_tup (ma_cons me_str (ma_cons (me_var (pv 2)) (ma_cons (me_methX tk T.c_Reader T.C_Reader T.h_Reader_part (callN_ne _ _) (IH .Reader_part) hr (T.b .Reader_part) (me_var (pv 0)) (ma_cons (me_var (pv 1)) ma_nil)) ma_nil)))))) mss_nil))))) (mss_one (ms_ret (me_var (pv 2))))))
theorem sc_read : FnScope ["text", "reader", "found"] (ps .read) (defScope s_read) := ⟨rfl, rfl, rfl, by decide +kernel, rfl, by decide +kernel, by decide +kernel⟩
theorem ok_read {n : Nat} (T : Tx w K mg ad fd a_TWO a_DICE t_DEEPEST t_MOST_DICE a_SIGNS a_CALLS a_SUMS t_FIGURES t_MOST_DEEP A_NoFaces A_NoNote A_NoText A_NoWorth A_Reader A_ThrowError) (IH : ∀ g, Good P w K mg base ad fd n g) : FnOk P w K mg base (L2.CX P w) (n + 1) (ad .read) (fd .read) (ps .read) (spX K (ar .read) (callN (n + 1) .read)) :=
  have S := sc_read
  fn_okX (T.f .read) sc_read rfl fun cdv A outer s H E W hr tk =>
  (mss_cons (ms_set (i := 1) S.nd rfl (by first | exact Or.inl rfl | exact Or.inr rfl) (me_newG T.M_Reader T.c_Reader (fun _ _ _ _ h => fnM_len h) (ok0_Reader_init T) hr rfl T.g_Reader (T.b .Reader_init) (ma_cons (me_var (pv 0)) ma_nil))) (mss_cons (ms_set (i := 2) S.nd rfl (by first | exact Or.inl rfl | exact Or.inr rfl) (me_methX tk T.c_Reader T.C_Reader T.h_Reader_saying (callN_ne _ _) (IH .Reader_saying) hr (T.b .Reader_saying) (me_var (pv 1)) (ma_cons (me_glob (pe_glob (v := .int 6) rfl T.g_MOST_DEEP ⟨_, rfl⟩) (fun _ _ => .int _)) ma_nil))) (mss_cons (ms_if (mt_w (mw_or (mt_cmp op_lt opS_lt (me_fld T.c_Reader T.C_Reader T.n_Reader_place (me_var (pv 1))) (me_callB call_len callS_len rfl T.b_len bt_len (ma_cons (me_var (pv 0)) ma_nil)) (nomark _)) (mw_or (mt_not (mt_tru (me_call (callN_len _ _) (IH .is_saying) hr rfl (T.m .is_saying rfl) (T.k .is_saying) (T.b .is_saying) (ma_cons (me_var (pv 2)) ma_nil)))) (mw_or1 (mt_cmp (op_neA hr.units) opS_ne (me_call (callN_len _ _) (IH .written) hr rfl (T.m .written rfl) (T.k .written) (T.b .written) (ma_cons (me_var (pv 2)) ma_nil)) (me_var (pv 0)) (nomark _)))))) (mss_one (ms_raise rfl tk PySem.F.excBase_ValueError T.x_NoText T.g_NoText T.c_NoText T.k_NoText T.s_NoText T.y_NoText rfl)) mss_nil) (mss_one (ms_ret (me_var (pv 2)))))))
theorem sc_f_law_cell : FnScope ["script", "k"] (ps .f_law_cell) (defScope s_f_law_cell) := ⟨rfl, rfl, rfl, by decide +kernel, rfl, by decide +kernel, by decide +kernel⟩
theorem ok_f_law_cell {n : Nat} (T : Tx w K mg ad fd a_TWO a_DICE t_DEEPEST t_MOST_DICE a_SIGNS a_CALLS a_SUMS t_FIGURES t_MOST_DEEP A_NoFaces A_NoNote A_NoText A_NoWorth A_Reader A_ThrowError) (IH : ∀ g, Good P w K mg base ad fd n g) : FnOk P w K mg base CX0 (n + 1) (ad .f_law_cell) (fd .f_law_cell) (ps .f_law_cell) (spM K (ar .f_law_cell) (callN (n + 1) .f_law_cell)) :=
  have S := sc_f_law_cell
  fn_ok (T.f .f_law_cell) sc_f_law_cell rfl fun cdv A outer s H E hr =>
  (mss_cons (ms_if (mt_cmp op_lt opS_lt (me_var (pv 1)) (me_callB call_len callS_len rfl T.b_len bt_len (ma_cons (me_var (pv 0)) ma_nil)) (nomark _)) (mss_one (ms_ret (me_item (me_var (pv 0)) (me_var (pv 1))))) mss_nil) (mss_one (ms_ret me_int)))
theorem sc_f_law_mix : FnScope ["cell", "prime", "many", "blend"] (ps .f_law_mix) (defScope s_f_law_mix) := ⟨rfl, rfl, rfl, by decide +kernel, rfl, by decide +kernel, by decide +kernel⟩
theorem ok_f_law_mix {n : Nat} (T : Tx w K mg ad fd a_TWO a_DICE t_DEEPEST t_MOST_DICE a_SIGNS a_CALLS a_SUMS t_FIGURES t_MOST_DEEP A_NoFaces A_NoNote A_NoText A_NoWorth A_Reader A_ThrowError) (IH : ∀ g, Good P w K mg base ad fd n g) : FnOk P w K mg base CX0 (n + 1) (ad .f_law_mix) (fd .f_law_mix) (ps .f_law_mix) (spM K (ar .f_law_mix) (callN (n + 1) .f_law_mix)) :=
  have S := sc_f_law_mix
  fn_ok (T.f .f_law_mix) sc_f_law_mix rfl fun cdv A outer s H E hr =>
  (mss_cons (ms_set (i := 3) S.nd rfl (by first | exact Or.inl rfl | exact Or.inr rfl) (me_mod (me_mul (me_var (pv 0)) me_int) (me_var (pv 1)))) (mss_one (ms_ret (me_mod (me_mod (me_mul (me_var (pv 3)) (me_add (me_var (pv 3)) me_int)) (me_var (pv 1))) (me_var (pv 2))))))
theorem sc_f_law_dice : FnScope ["cell", "most", "word", "many", "sides", "low", "high"] (ps .f_law_dice) (defScope s_f_law_dice) := ⟨rfl, rfl, rfl, by decide +kernel, rfl, by decide +kernel, by decide +kernel⟩
theorem ok_f_law_dice {n : Nat} (T : Tx w K mg ad fd a_TWO a_DICE t_DEEPEST t_MOST_DICE a_SIGNS a_CALLS a_SUMS t_FIGURES t_MOST_DEEP A_NoFaces A_NoNote A_NoText A_NoWorth A_Reader A_ThrowError) (IH : ∀ g, Good P w K mg base ad fd n g) : FnOk P w K mg base CX0 (n + 1) (ad .f_law_dice) (fd .f_law_dice) (ps .f_law_dice) (spM K (ar .f_law_dice) (callN (n + 1) .f_law_dice)) :=
  have S := sc_f_law_dice
  fn_ok (T.f .f_law_dice) sc_f_law_dice rfl fun cdv A outer s H E hr =>
  (mss_cons (ms_set (i := 2) S.nd rfl (by first | exact Or.inl rfl | exact Or.inr rfl) (me_item (me_tup (ma_cons me_str (ma_cons me_str (ma_cons me_str (ma_cons me_str (ma_cons me_str (ma_cons me_str ma_nil))))))) (me_call (callN_len _ _) (IH .f_law_mix) hr rfl (T.m .f_law_mix rfl) (T.k .f_law_mix) (T.b .f_law_mix) (ma_cons (me_var (pv 0)) (ma_cons me_int (ma_cons me_int ma_nil)))))) (mss_cons (ms_set (i := 3) S.nd rfl (by first | exact Or.inl rfl | exact Or.inr rfl) (me_add me_int (me_call (callN_len _ _) (IH .f_law_mix) hr rfl (T.m .f_law_mix rfl) (T.k .f_law_mix) (T.b .f_law_mix) (ma_cons (me_var (pv 0)) (ma_cons me_int (ma_cons (me_callB (call_min2 rfl) callS_min rfl T.b_min bt_min (ma_cons me_int (ma_cons (me_var (pv 1)) ma_nil))) ma_nil)))))) (mss_cons (ms_set (i := 4) S.nd rfl (by first | exact Or.inl rfl | exact Or.inr rfl) (me_add me_int (me_call (callN_len _ _) (IH .f_law_mix) hr rfl (T.m .f_law_mix rfl) (T.k .f_law_mix) (T.b .f_law_mix) (ma_cons (me_var (pv 0)) (ma_cons me_int (ma_cons me_int ma_nil)))))) (mss_cons (ms_if (mt_cmp (op_eqA hr.units) opS_eq (me_var (pv 2)) me_str (nomark _)) (mss_one (ms_ret (me_tup (ma_cons (me_var (pv 2)) (ma_cons (me_var (pv 3)) (ma_cons (me_var (pv 4)) ma_nil)))))) mss_nil) (mss_cons (ms_asg (me_getN (hu_of hr) (md_disp (mps_cons me_str (me_tup (ma_cons me_int (ma_cons (me_sub (me_var (pv 4)) me_int) ma_nil))) (mps_cons me_str (me_tup (ma_cons me_int (ma_cons me_int ma_nil))) (mps_cons me_str (me_tup (ma_cons me_int (ma_cons (me_var (pv 4)) ma_nil))) mps_nil)))) (me_var (pv 2)) (me_tup (ma_cons me_int (ma_cons (me_var (pv 3)) ma_nil)))) (mg_tup rfl (mgs_cons (mg_name (i := 5) S.nd rfl (by first | exact Or.inl rfl | exact Or.inr rfl)) (mgs_cons (mg_name (i := 6) S.nd rfl (by first | exact Or.inl rfl | exact Or.inr rfl)) mgs_nil)))) (mss_one (ms_ret (me_tup (ma_cons (me_var (pv 2)) (ma_cons (me_var (pv 3)) (ma_cons (me_var (pv 4)) (ma_cons (me_add (me_var (pv 5)) (me_call (callN_len _ _) (IH .f_law_mix) hr rfl (T.m .f_law_mix rfl) (T.k .f_law_mix) (T.b .f_law_mix) (ma_cons (me_var (pv 0)) (ma_cons me_int (ma_cons (me_add (me_sub (me_var (pv 6)) (me_var (pv 5))) me_int) ma_nil))))) ma_nil))))))))))))
theorem sc_f_law_many : FnScope ["saying", "part"] (ps .f_law_many) (defScope s_f_law_many) := ⟨rfl, rfl, rfl, by decide +kernel, rfl, by decide +kernel, by decide +kernel⟩
theorem ok_f_law_many {n : Nat} (T : Tx w K mg ad fd a_TWO a_DICE t_DEEPEST t_MOST_DICE a_SIGNS a_CALLS a_SUMS t_FIGURES t_MOST_DEEP A_NoFaces A_NoNote A_NoText A_NoWorth A_Reader A_ThrowError) (IH : ∀ g, Good P w K mg base ad fd n g) : FnOk P w K mg base CX0 (n + 1) (ad .f_law_many) (fd .f_law_many) (ps .f_law_many) (spM K (ar .f_law_many) (callN (n + 1) .f_law_many)) :=
  have S := sc_f_law_many
  fn_ok (T.f .f_law_many) sc_f_law_many rfl fun cdv A outer s H E hr =>
  (mss_cons (ms_if (mt_cmp (op_eqA hr.units) opS_eq (me_item (me_var (pv 0)) me_int) me_str (nomark _)) (mss_one (ms_ret me_int)) mss_nil) (mss_cons (ms_if (mt_tru (me_isi rfl T.b_isinstance rfl T.b_tuple bt_tuple ok_tuple (me_item (me_var (pv 0)) (me_neg me_int)))) (mss_one (ms_ret (mq_callB (cr_sum rfl) qs_sum rfl T.b_sum bt_sum (mq_new (ml_lc rfl S.nd (own := [("part", 1)]) (mi_tup (me_slice (me_var (pv 0)) (mo_some me_int) mo_none)) (blkOk_by (own := [("part", 1)]) (N := ["saying", "part"]) (sc := defScope s_f_law_many) (by decide +kernel)) (by decide) (fun _ _ _ _ _ => (mg_name (i := 1) S.nd rfl (by first | exact Or.inl rfl | exact Or.inr rfl))) (fun _ _ _ _ _ => (mts_one (mt_tru (me_isi rfl T.b_isinstance rfl T.b_tuple bt_tuple ok_tuple (me_var (pv 1)))))) (fun _ _ _ _ _ => (me_call (callN_len _ _) (IH .f_law_many) hr rfl (T.m .f_law_many rfl) (T.k .f_law_many) (T.b .f_law_many) (ma_cons (me_var (pv 1)) ma_nil)))))))) mss_nil) (mss_one (ms_ret (me_item (me_var (pv 0)) me_int)))))
theorem sc_f_law_saying : FnScope ["cell", "deep", "most", "way", "one", "other"] (ps .f_law_saying) (defScope s_f_law_saying) := ⟨rfl, rfl, rfl, by decide +kernel, rfl, by decide +kernel, by decide +kernel⟩
theorem ok_f_law_saying {n : Nat} (T : Tx w K mg ad fd a_TWO a_DICE t_DEEPEST t_MOST_DICE a_SIGNS a_CALLS a_SUMS t_FIGURES t_MOST_DEEP A_NoFaces A_NoNote A_NoText A_NoWorth A_Reader A_ThrowError) (IH : ∀ g, Good P w K mg base ad fd n g) : FnOk P w K mg base CX0 (n + 1) (ad .f_law_saying) (fd .f_law_saying) (ps .f_law_saying) (spM K (ar .f_law_saying) (callN (n + 1) .f_law_saying)) :=
  have S := sc_f_law_saying
  fn_ok (T.f .f_law_saying) sc_f_law_saying rfl fun cdv A outer s H E hr =>
  (mss_cons (ms_set (i := 3) S.nd rfl (by first | exact Or.inl rfl | exact Or.inr rfl) (me_call (callN_len _ _) (IH .f_law_mix) hr rfl (T.m .f_law_mix rfl) (T.k .f_law_mix) (T.b .f_law_mix) (ma_cons (me_var (pv 0)) (ma_cons me_int (ma_cons me_int ma_nil))))) (mss_cons (ms_if (mt_w (mw_or (mt_cmp op_lt opS_lt (me_var (pv 3)) me_int (nomark _)) (mw_or1 (mt_cmp (op_eqA hr.units) opS_eq (me_var (pv 2)) me_int (nomark _))))) (mss_one (ms_ret (me_tup (ma_cons me_str (ma_cons (me_call (callN_len _ _) (IH .f_law_mix) hr rfl (T.m .f_law_mix rfl) (T.k .f_law_mix) (T.b .f_law_mix) (ma_cons (me_var (pv 0)) (ma_cons me_int (ma_cons me_int ma_nil)))) ma_nil))))) mss_nil) (mss_cons (ms_if (mt_w (mw_or (mt_cmp op_lt opS_lt (me_var (pv 3)) me_int (nomark _)) (mw_or1 (mt_cmp (op_eqA hr.units) opS_eq (me_var (pv 1)) me_int (nomark _))))) (mss_one (ms_ret (me_call (callN_len _ _) (IH .f_law_dice) hr rfl (T.m .f_law_dice rfl) (T.k .f_law_dice) (T.b .f_law_dice) (ma_cons (me_add (me_var (pv 0)) me_int) (ma_cons (me_var (pv 2)) ma_nil))))) mss_nil) (mss_cons (ms_if (mt_cmp (op_eqA hr.units) opS_eq (me_var (pv 3)) me_int (nomark _)) (mss_one (ms_ret (me_tup (ma_cons me_str (ma_cons (me_call (callN_len _ _) (IH .f_law_mix) hr rfl (T.m .f_law_mix rfl) (T.k .f_law_mix) (T.b .f_law_mix) (ma_cons (me_var (pv 0)) (ma_cons me_int (ma_cons me_int ma_nil)))) (ma_cons (me_call (callN_len _ _) (IH .f_law_saying) hr rfl (T.m .f_law_saying rfl) (T.k .f_law_saying) (T.b .f_law_saying) (ma_cons (me_add (me_var (pv 0)) me_int) (ma_cons (me_sub (me_var (pv 1)) me_int) (ma_cons (me_var (pv 2)) ma_nil)))) ma_nil)))))) mss_nil) (mss_cons (ms_set (i := 4) S.nd rfl (by first | exact Or.inl rfl | exact Or.inr rfl) (me_call (callN_len _ _) (IH .f_law_saying) hr rfl (T.m .f_law_saying rfl) (T.k .f_law_saying) (T.b .f_law_saying) (ma_cons (me_add (me_var (pv 0)) me_int) (ma_cons (me_sub (me_var (pv 1)) me_int) (ma_cons (me_var (pv 2)) ma_nil))))) (mss_cons (ms_set (i := 5) S.nd rfl (by first | exact Or.inl rfl | exact Or.inr rfl) (me_call (callN_len _ _) (IH .f_law_saying) hr rfl (T.m .f_law_saying rfl) (T.k .f_law_saying) (T.b .f_law_saying) (ma_cons (me_add (me_var (pv 0)) me_int) (ma_cons (me_sub (me_var (pv 1)) me_int) (ma_cons (me_sub (me_var (pv 2)) (me_call (callN_len _ _) (IH .f_law_many) hr rfl (T.m .f_law_many rfl) (T.k .f_law_many) (T.b .f_law_many) (ma_cons (me_var (pv 4)) ma_nil))) ma_nil))))) (mss_cons (ms_if (mt_cmp (op_eqA hr.units) opS_eq (me_mod (me_var (pv 0)) me_int) me_int (nomark _)) (mss_one (ms_par (i := 4) (j := 5) rfl S.nd rfl rfl (by decide) rfl rfl (ma_cons (me_var (pv 5)) (ma_cons (me_var (pv 4)) ma_nil)) (by rfl))) mss_nil) (mss_one (ms_ret (me_tup (ma_cons (me_item (me_tup (ma_cons me_str (ma_cons me_str (ma_cons me_str (ma_cons me_str (ma_cons me_str ma_nil)))))) (me_call (callN_len _ _) (IH .f_law_mix) hr rfl (T.m .f_law_mix rfl) (T.k .f_law_mix) (T.b .f_law_mix) (ma_cons (me_var (pv 0)) (ma_cons me_int (ma_cons me_int ma_nil))))) (ma_cons (me_var (pv 4)) (ma_cons (me_var (pv 5)) ma_nil)))))))))))))
theorem sc_f_law_written : FnScope ["saying", "word", "other", "name", "found"] (ps .f_law_written) (defScope s_f_law_written) := ⟨rfl, rfl, rfl, by decide +kernel, rfl, by decide +kernel, by decide +kernel⟩
theorem ok_f_law_written {n : Nat} (T : Tx w K mg ad fd a_TWO a_DICE t_DEEPEST t_MOST_DICE a_SIGNS a_CALLS a_SUMS t_FIGURES t_MOST_DEEP A_NoFaces A_NoNote A_NoText A_NoWorth A_Reader A_ThrowError) (IH : ∀ g, Good P w K mg base ad fd n g) : FnOk P w K mg base CX0 (n + 1) (ad .f_law_written) (fd .f_law_written) (ps .f_law_written) (spM K (ar .f_law_written) (callN (n + 1) .f_law_written)) :=
  have S := sc_f_law_written
  fn_ok (T.f .f_law_written) sc_f_law_written rfl fun cdv A outer s H E hr =>
  (mss_cons (ms_set (i := 1) S.nd rfl (by first | exact Or.inl rfl | exact Or.inr rfl) (me_item (me_var (pv 0)) me_int)) (mss_cons (ms_if (mt_cmp (op_eqA hr.units) opS_eq (me_var (pv 1)) me_str (nomark _)) (mss_one (ms_ret (me_callTy call_str_int callS_str rfl T.b_str bt_str (ma_cons (me_item (me_var (pv 0)) me_int) ma_nil)))) mss_nil) (mss_cons (ms_if (mt_cmp op_in_seq opS_in (me_var (pv 1)) (me_tup (ma_cons me_str (ma_cons me_str ma_nil))) (by rfl)) (mss_cons (ms_set (i := 2) S.nd rfl (by first | exact Or.inl rfl | exact Or.inr rfl) (me_call (callN_len _ _) (IH .f_law_written) hr rfl (T.m .f_law_written rfl) (T.k .f_law_written) (T.b .f_law_written) (ma_cons (me_item (me_var (pv 0)) me_int) ma_nil))) (mss_cons (ms_if (mt_cmp op_in_seq opS_in (me_item (me_item (me_var (pv 0)) me_int) me_int) (me_tup (ma_cons me_str (ma_cons me_str ma_nil))) (by rfl)) (mss_one (ms_set (i := 2) S.nd rfl (by first | exact Or.inl rfl | exact Or.inr rfl) (me_add (me_add me_str (me_var (pv 2))) me_str))) mss_nil) (mss_one (ms_ret (me_add (me_add (me_call (callN_len _ _) (IH .f_law_written) hr rfl (T.m .f_law_written rfl) (T.k .f_law_written) (T.b .f_law_written) (ma_cons (me_item (me_var (pv 0)) me_int) ma_nil)) (me_atN (hu_of hr) (md_disp (mps_cons me_str me_str (mps_cons me_str me_str mps_nil))) (me_var (pv 1)))) (me_var (pv 2))))))) mss_nil) (mss_cons (ms_if (mt_cmp (op_eqA hr.units) opS_eq (me_var (pv 1)) me_str (nomark _)) (mss_cons (ms_set (i := 2) S.nd rfl (by first | exact Or.inl rfl | exact Or.inr rfl) (me_call (callN_len _ _) (IH .f_law_written) hr rfl (T.m .f_law_written rfl) (T.k .f_law_written) (T.b .f_law_written) (ma_cons (me_item (me_var (pv 0)) me_int) ma_nil))) (mss_cons (ms_if (mt_cmp op_in_seq opS_in (me_item (me_item (me_var (pv 0)) me_int) me_int) (me_tup (ma_cons me_str (ma_cons me_str (ma_cons me_str ma_nil)))) (by rfl)) (mss_one (ms_set (i := 2) S.nd rfl (by first | exact Or.inl rfl | exact Or.inr rfl) (me_add (me_add me_str (me_var (pv 2))) me_str))) mss_nil) (mss_one (ms_ret (me_add (me_add (me_callTy call_str_int callS_str rfl T.b_str bt_str (ma_cons (me_item (me_var (pv 0)) me_int) ma_nil)) me_str) (me_var (pv 2))))))) mss_nil) (mss_cons (ms_if (mt_tru (me_isi rfl T.b_isinstance rfl T.b_tuple bt_tuple ok_tuple (me_item (me_var (pv 0)) (me_neg me_int)))) (mss_cons (ms_set (i := 3) S.nd rfl (by first | exact Or.inl rfl | exact Or.inr rfl) (me_atN (hu_of hr) (md_disp (mps_cons me_str me_str (mps_cons me_str me_str (mps_cons me_str me_str mps_nil)))) (me_var (pv 1)))) (mss_one (ms_ret (me_add (me_add (me_add (me_add (me_add (me_var (pv 3)) me_str) (me_call (callN_len _ _) (IH .f_law_written) hr rfl (T.m .f_law_written rfl) (T.k .f_law_written) (T.b .f_law_written) (ma_cons (me_item (me_var (pv 0)) me_int) ma_nil))) me_str) (me_call (callN_len _ _) (IH .f_law_written) hr rfl (T.m .f_law_written rfl) (T.k .f_law_written) (T.b .f_law_written) (ma_cons (me_item (me_var (pv 0)) me_int) ma_nil))) me_str)))) mss_nil) (mss_cons (ms_set (i := 4) S.nd rfl (by first | exact Or.inl rfl | exact Or.inr rfl) (me_add (me_add (me_callTy call_str_int callS_str rfl T.b_str bt_str (ma_cons (me_item (me_var (pv 0)) me_int) ma_nil)) me_str) (me_callTy call_str_int callS_str rfl T.b_str bt_str (ma_cons (me_item (me_var (pv 0)) me_int) ma_nil)))) (mss_cons (ms_if (mt_cmp (op_neA hr.units) opS_ne (me_var (pv 1)) me_str (nomark _)) (mss_one (ms_set (i := 4) S.nd rfl (by first | exact Or.inl rfl | exact Or.inr rfl) (me_add (me_add (me_var (pv 4)) (me_atN (hu_of hr) (md_disp (mps_cons me_str me_str (mps_cons me_str me_str (mps_cons me_str me_str (mps_cons me_str me_str (mps_cons me_str me_str mps_nil)))))) (me_var (pv 1)))) (me_callTy call_str_int callS_str rfl T.b_str bt_str (ma_cons (me_item (me_var (pv 0)) me_int) ma_nil))))) mss_nil) (mss_one (ms_ret (me_var (pv 4)))))))))))
theorem sc_f_law_word : FnScope ["kept", "kinds"] (ps .f_law_word) (defScope s_f_law_word) := ⟨rfl, rfl, rfl, by decide +kernel, rfl, by decide +kernel, by decide +kernel⟩
theorem ok_f_law_word {n : Nat} (T : Tx w K mg ad fd a_TWO a_DICE t_DEEPEST t_MOST_DICE a_SIGNS a_CALLS a_SUMS t_FIGURES t_MOST_DEEP A_NoFaces A_NoNote A_NoText A_NoWorth A_Reader A_ThrowError) (IH : ∀ g, Good P w K mg base ad fd n g) : FnOk P w K mg base CX0 (n + 1) (ad .f_law_word) (fd .f_law_word) (ps .f_law_word) (spM K (ar .f_law_word) (callN (n + 1) .f_law_word)) :=
  have S := sc_f_law_word
  fn_ok (T.f .f_law_word) sc_f_law_word rfl fun cdv A outer s H E hr =>
  (mss_cons (ms_set (i := 1) S.nd rfl (by first | exact Or.inl rfl | exact Or.inr rfl) (me_keep (ml_lst (ma_cons (me_isE rfl T.b_isinstance (pe_glob (v := .ref A_NoFaces) rfl T.g_NoFaces rfl) (by intro u r; cases r; rfl) T.is_NoFaces (me_var (pv 0))) (ma_cons (me_isE rfl T.b_isinstance (pe_glob (v := .ref A_NoText) rfl T.g_NoText rfl) (by intro u r; cases r; rfl) T.is_NoText (me_var (pv 0))) ma_nil))))) (mss_cons (ms_set (i := 1) S.nd rfl (by first | exact Or.inl rfl | exact Or.inr rfl) (me_keep (ml_cat (mx_ref (me_var (pv 1))) (mx_new (ml_lst (ma_cons (me_isE rfl T.b_isinstance (pe_glob (v := .ref A_NoWorth) rfl T.g_NoWorth rfl) (by intro u r; cases r; rfl) T.is_NoWorth (me_var (pv 0))) (ma_cons (me_isE rfl T.b_isinstance (pe_glob (v := .ref A_NoNote) rfl T.g_NoNote rfl) (by intro u r; cases r; rfl) T.is_NoNote (me_var (pv 0))) ma_nil))))))) (mss_cons (ms_if (mt_w (mw_or (mt_cmp (op_neA hr.units) opS_ne (me_cnt (me_var (pv 1)) me_bl) me_int (nomark _)) (mw_or1 (mt_not (mt_tru (me_isE rfl T.b_isinstance (pe_bltn (v := .ty "ValueError") rfl T.b_ValueError bt_ValueError rfl) (by intro u r; cases r; rfl) T.is_ValueError (me_var (pv 0)))))))) (mss_one (ms_ret me_str)) mss_nil) (mss_one (ms_ret (me_item (me_tup (ma_cons me_str (ma_cons me_str (ma_cons me_str (ma_cons me_str ma_nil))))) (me_idx (me_var (pv 1)) me_bl)))))))
theorem sc_f_law_told : FnScope ["text", "kept", "answer", "e"] (ps .f_law_told) (defScope s_f_law_told) := ⟨rfl, rfl, rfl, by decide +kernel, rfl, by decide +kernel, by decide +kernel⟩
theorem ok_f_law_told {n : Nat} (T : Tx w K mg ad fd a_TWO a_DICE t_DEEPEST t_MOST_DICE a_SIGNS a_CALLS a_SUMS t_FIGURES t_MOST_DEEP A_NoFaces A_NoNote A_NoText A_NoWorth A_Reader A_ThrowError) (IH : ∀ g, Good P w K mg base ad fd n g) : FnOk P w K mg base CX0 (n + 1) (ad .f_law_told) (fd .f_law_told) (ps .f_law_told) (spM K (ar .f_law_told) (callN (n + 1) .f_law_told)) :=
  have S := sc_f_law_told
  fn_ok (T.f .f_law_told) sc_f_law_told rfl fun cdv A outer s H E hr =>
  (mss_cons (ms_set (i := 1) S.nd rfl (by first | exact Or.inl rfl | exact Or.inr rfl) me_non) (mss_cons (ms_set (i := 2) S.nd rfl (by first | exact Or.inl rfl | exact Or.inr rfl) me_non) (mss_cons (ms_tryK (cat := cat_ThrowError) (i := 3) (j := 1) rfl rfl rfl S.nd rfl rfl rfl (by first | exact Or.inl rfl | exact Or.inr rfl) (by decide) ⟨rfl, by decide, .inl T.g_ThrowError⟩ takesNone T.cat_ThrowError T.cr_ThrowError (fun W' pn xe tk po => (mss_one (ms_set (i := 2) S.nd rfl (by first | exact Or.inl rfl | exact Or.inr rfl) (me_callX tk (callN_ne _ _) (IH .read) hr rfl (T.m .read rfl) (T.k .read) (T.b .read) (ma_cons (me_var (pv 0)) ma_nil))))) (fun a pn => (pv 3))) (mss_one (ms_ret (me_ifExp (mt_cmp op_isA opS_is (me_var (pv 1)) me_non (nomark _)) (me_var (pv 2)) (me_call (callN_len _ _) (IH .f_law_word) hr rfl (T.m .f_law_word rfl) (T.k .f_law_word) (T.b .f_law_word) (ma_cons (me_var (pv 1)) ma_nil))))))))
theorem sc_f_law_is_right : FnScope ["text", "told"] (ps .f_law_is_right) (defScope s_f_law_is_right) := ⟨rfl, rfl, rfl, by decide +kernel, rfl, by decide +kernel, by decide +kernel⟩
theorem ok_f_law_is_right {n : Nat} (T : Tx w K mg ad fd a_TWO a_DICE t_DEEPEST t_MOST_DICE a_SIGNS a_CALLS a_SUMS t_FIGURES t_MOST_DEEP A_NoFaces A_NoNote A_NoText A_NoWorth A_Reader A_ThrowError) (IH : ∀ g, Good P w K mg base ad fd n g) : FnOk P w K mg base CX0 (n + 1) (ad .f_law_is_right) (fd .f_law_is_right) (ps .f_law_is_right) (spM K (ar .f_law_is_right) (callN (n + 1) .f_law_is_right)) :=
  have S := sc_f_law_is_right
  fn_ok (T.f .f_law_is_right) sc_f_law_is_right rfl fun cdv A outer s H E hr =>
  (mss_cons (ms_set (i := 1) S.nd rfl (by first | exact Or.inl rfl | exact Or.inr rfl) (me_call (callN_len _ _) (IH .f_law_told) hr rfl (T.m .f_law_told rfl) (T.k .f_law_told) (T.b .f_law_told) (ma_cons (me_var (pv 0)) ma_nil))) (mss_cons (ms_if (mt_tru (me_isi rfl T.b_isinstance rfl T.b_str bt_str ok_str (me_var (pv 1)))) (mss_one (ms_ret (me_cmp (op_eqA hr.units) opS_eq (me_var (pv 1)) me_str (nomark _)))) mss_nil) (mss_one (ms_ret (me_and (me_cmp op_isA opS_is (me_call (callN_len _ _) (IH .is_saying) hr rfl (T.m .is_saying rfl) (T.k .is_saying) (T.b .is_saying) (ma_cons (me_var (pv 1)) ma_nil)) me_bl (nomark _)) (me_one (me_cmp (op_eqA hr.units) opS_eq (me_call (callN_len _ _) (IH .f_law_written) hr rfl (T.m .f_law_written rfl) (T.k .f_law_written) (T.b .f_law_written) (ma_cons (me_var (pv 1)) ma_nil)) (me_var (pv 0)) (nomark _))))))))
theorem sc_f_law_bad : FnScope ["bad"] (ps .f_law_bad) (defScope s_f_law_bad) := ⟨rfl, rfl, rfl, by decide +kernel, rfl, by decide +kernel, by decide +kernel⟩
theorem ok_f_law_bad {n : Nat} (T : Tx w K mg ad fd a_TWO a_DICE t_DEEPEST t_MOST_DICE a_SIGNS a_CALLS a_SUMS t_FIGURES t_MOST_DEEP A_NoFaces A_NoNote A_NoText A_NoWorth A_Reader A_ThrowError) (IH : ∀ g, Good P w K mg base ad fd n g) : FnOk P w K mg base CX0 (n + 1) (ad .f_law_bad) (fd .f_law_bad) (ps .f_law_bad) (spM K (ar .f_law_bad) (callN (n + 1) .f_law_bad)) :=
  have S := sc_f_law_bad
  fn_ok (T.f .f_law_bad) sc_f_law_bad rfl fun cdv A outer s H E hr =>
  (mss_cons (ms_set (i := 0) S.nd rfl (by first | exact Or.inl rfl | exact Or.inr rfl) (me_keep (ml_lst (ma_cons me_str (ma_cons me_str (ma_cons me_str (ma_cons me_str (ma_cons me_str (ma_cons me_str (ma_cons me_str (ma_cons me_str (ma_cons me_str ma_nil)))))))))))) (mss_cons (ms_set (i := 0) S.nd rfl (by first | exact Or.inl rfl | exact Or.inr rfl) (me_keep (ml_cat (mx_ref (me_var (pv 0))) (mx_new (ml_lst (ma_cons me_str (ma_cons me_str (ma_cons me_str (ma_cons me_str (ma_cons me_str (ma_cons me_str (ma_cons me_str (ma_cons me_str (ma_cons me_str ma_nil)))))))))))))) (mss_cons (ms_set (i := 0) S.nd rfl (by first | exact Or.inl rfl | exact Or.inr rfl) (me_keep (ml_cat (mx_ref (me_var (pv 0))) (mx_new (ml_lst (ma_cons me_str (ma_cons me_str (ma_cons me_str (ma_cons me_str (ma_cons me_str (ma_cons me_str (ma_cons me_str ma_nil)))))))))))) (mss_cons (ms_set (i := 0) S.nd rfl (by first | exact Or.inl rfl | exact Or.inr rfl) (me_keep (ml_cat (mx_ref (me_var (pv 0))) (mx_new (ml_lst (ma_cons me_str (ma_cons me_str (ma_cons me_str (ma_cons me_str (ma_cons me_str (ma_cons me_str (ma_cons me_str ma_nil)))))))))))) (mss_cons (ms_set (i := 0) S.nd rfl (by first | exact Or.inl rfl | exact Or.inr rfl) (me_keep (ml_cat (mx_ref (me_var (pv 0))) (mx_new (ml_lst (ma_cons me_str (ma_cons me_str (ma_cons me_str (ma_cons me_str (ma_cons me_str (ma_cons me_str ma_nil))))))))))) (mss_cons (ms_set (i := 0) S.nd rfl (by first | exact Or.inl rfl | exact Or.inr rfl) (me_keep (ml_cat (mx_ref (me_var (pv 0))) (mx_new (ml_lst (ma_cons me_str (ma_cons me_str (ma_cons me_str (ma_cons me_str (ma_cons me_str ma_nil)))))))))) (mss_cons (ms_set (i := 0) S.nd rfl (by first | exact Or.inl rfl | exact Or.inr rfl) (me_keep (ml_cat (mx_ref (me_var (pv 0))) (mx_new (ml_lst (ma_cons me_str (ma_cons me_str (ma_cons me_str (ma_cons me_str (ma_cons me_str ma_nil)))))))))) (mss_cons (ms_set (i := 0) S.nd rfl (by first | exact Or.inl rfl | exact Or.inr rfl) (me_keep (ml_cat (mx_ref (me_var (pv 0))) (mx_new (ml_lst (ma_cons me_str (ma_cons me_str (ma_cons me_str (ma_cons me_str (ma_cons me_str ma_nil)))))))))) (mss_cons (ms_set (i := 0) S.nd rfl (by first | exact Or.inl rfl | exact Or.inr rfl) (me_keep (ml_cat (mx_ref (me_var (pv 0))) (mx_new (ml_lst (ma_cons me_str (ma_cons me_str (ma_cons me_str ma_nil)))))))) (mss_cons (ms_set (i := 0) S.nd rfl (by first | exact Or.inl rfl | exact Or.inr rfl) (me_keep (ml_cat (mx_ref (me_var (pv 0))) (mx_new (ml_lst (ma_cons me_str (ma_cons me_str ma_nil))))))) (mss_one (ms_ret (me_keep (ml_cat (mx_ref (me_var (pv 0))) (mx_new (ml_lst (ma_cons me_str ma_nil)))))))))))))))))
theorem sc_f_law_changed : FnScope ["text", "cell", "at", "signs", "sign", "kind"] (ps .f_law_changed) (defScope s_f_law_changed) := ⟨rfl, rfl, rfl, by decide +kernel, rfl, by decide +kernel, by decide +kernel⟩
theorem ok_f_law_changed {n : Nat} (T : Tx w K mg ad fd a_TWO a_DICE t_DEEPEST t_MOST_DICE a_SIGNS a_CALLS a_SUMS t_FIGURES t_MOST_DEEP A_NoFaces A_NoNote A_NoText A_NoWorth A_Reader A_ThrowError) (IH : ∀ g, Good P w K mg base ad fd n g) : FnOk P w K mg base CX0 (n + 1) (ad .f_law_changed) (fd .f_law_changed) (ps .f_law_changed) (spM K (ar .f_law_changed) (callN (n + 1) .f_law_changed)) :=
  have S := sc_f_law_changed
  fn_ok (T.f .f_law_changed) sc_f_law_changed rfl fun cdv A outer s H E hr =>
  (mss_cons (ms_set (i := 2) S.nd rfl (by first | exact Or.inl rfl | exact Or.inr rfl) (me_call (callN_len _ _) (IH .f_law_mix) hr rfl (T.m .f_law_mix rfl) (T.k .f_law_mix) (T.b .f_law_mix) (ma_cons (me_var (pv 1)) (ma_cons me_int (ma_cons (me_add (me_callB call_len callS_len rfl T.b_len bt_len (ma_cons (me_var (pv 0)) ma_nil)) me_int) ma_nil))))) (mss_cons (ms_set (i := 3) S.nd rfl (by first | exact Or.inl rfl | exact Or.inr rfl) me_str) (mss_cons (ms_set (i := 4) S.nd rfl (by first | exact Or.inl rfl | exact Or.inr rfl) (me_item (me_var (pv 3)) (me_call (callN_len _ _) (IH .f_law_mix) hr rfl (T.m .f_law_mix rfl) (T.k .f_law_mix) (T.b .f_law_mix) (ma_cons (me_var (pv 1)) (ma_cons me_int (ma_cons (me_callB call_len callS_len rfl T.b_len bt_len (ma_cons (me_var (pv 3)) ma_nil)) ma_nil)))))) (mss_cons (ms_set (i := 5) S.nd rfl (by first | exact Or.inl rfl | exact Or.inr rfl) (me_call (callN_len _ _) (IH .f_law_mix) hr rfl (T.m .f_law_mix rfl) (T.k .f_law_mix) (T.b .f_law_mix) (ma_cons (me_var (pv 1)) (ma_cons me_int (ma_cons me_int ma_nil))))) (mss_cons (ms_if (mt_cmp (op_eqA hr.units) opS_eq (me_var (pv 5)) me_int (nomark _)) (mss_one (ms_ret (me_add (me_add (me_slice (me_var (pv 0)) mo_none (mo_some (me_var (pv 2)))) (me_var (pv 4))) (me_slice (me_var (pv 0)) (mo_some (me_var (pv 2))) mo_none)))) mss_nil) (mss_cons (ms_if (mt_cmp (op_eqA hr.units) opS_eq (me_var (pv 5)) me_int (nomark _)) (mss_one (ms_ret (me_add (me_slice (me_var (pv 0)) mo_none (mo_some (me_var (pv 2)))) (me_slice (me_var (pv 0)) (mo_some (me_add (me_var (pv 2)) me_int)) mo_none)))) mss_nil) (mss_one (ms_ret (me_add (me_add (me_slice (me_var (pv 0)) mo_none (mo_some (me_var (pv 2)))) (me_var (pv 4))) (me_slice (me_var (pv 0)) (mo_some (me_add (me_var (pv 2)) me_int)) mo_none))))))))))
theorem sc_law : FnScope ["script", "k", "text", "turn"] (ps .law) (defScope s_law) := ⟨rfl, rfl, rfl, by decide +kernel, rfl, by decide +kernel, by decide +kernel⟩
theorem ok_law {n : Nat} (T : Tx w K mg ad fd a_TWO a_DICE t_DEEPEST t_MOST_DICE a_SIGNS a_CALLS a_SUMS t_FIGURES t_MOST_DEEP A_NoFaces A_NoNote A_NoText A_NoWorth A_Reader A_ThrowError) (IH : ∀ g, Good P w K mg base ad fd n g) : FnOk P w K mg base CX0 (n + 1) (ad .law) (fd .law) (ps .law) (spM K (ar .law) (callN (n + 1) .law)) :=
  have S := sc_law
  fn_ok (T.f .law) sc_law rfl fun cdv A outer s H E hr =>
  (mss_cons (ms_if (mt_tru (mq_callB (cr_any rfl) qs_any rfl T.b_any bt_any (mq_new (ml_lc rfl S.nd (own := [("text", 2)]) (mi_lst (me_frz (me_call0 (callN_len _ _) (IH .f_law_bad) hr rfl (T.m .f_law_bad rfl) (T.k .f_law_bad) (T.b .f_law_bad)))) (blkOk_by (own := [("text", 2)]) (N := ["script", "k", "text", "turn"]) (sc := defScope s_law) (by decide +kernel)) (by decide) (fun _ _ _ _ _ => (mg_name (i := 2) S.nd rfl (by first | exact Or.inl rfl | exact Or.inr rfl))) (fun _ _ _ _ _ => mts_nil) (fun _ _ _ _ _ => (me_cmp (op_neA hr.units) opS_ne (me_call (callN_len _ _) (IH .f_law_told) hr rfl (T.m .f_law_told rfl) (T.k .f_law_told) (T.b .f_law_told) (ma_cons (me_var (pv 2)) ma_nil)) me_str (nomark _))))))) (mss_one (ms_ret me_bl)) mss_nil) (mss_cons (ms_for PassesOwn.never rfl (mi_rng1 rfl T.b_range (ma_cons me_int ma_nil)) (mg_name (i := 1) S.nd rfl (by first | exact Or.inl rfl | exact Or.inr rfl)) (mss_cons (ms_set (i := 2) S.nd rfl (by first | exact Or.inl rfl | exact Or.inr rfl) (me_call (callN_len _ _) (IH .f_law_written) hr rfl (T.m .f_law_written rfl) (T.k .f_law_written) (T.b .f_law_written) (ma_cons (me_call (callN_len _ _) (IH .f_law_saying) hr rfl (T.m .f_law_saying rfl) (T.k .f_law_saying) (T.b .f_law_saying) (ma_cons (me_add (me_call (callN_len _ _) (IH .f_law_cell) hr rfl (T.m .f_law_cell rfl) (T.k .f_law_cell) (T.b .f_law_cell) (ma_cons (me_var (pv 0)) (ma_cons (me_mod (me_var (pv 1)) me_int) ma_nil))) (me_mul me_int (me_var (pv 1)))) (ma_cons me_int (ma_cons me_int ma_nil)))) ma_nil))) (mss_one (ms_for PassesOwn.never rfl (mi_rng1 rfl T.b_range (ma_cons me_int ma_nil)) (mg_name (i := 3) S.nd rfl (by first | exact Or.inl rfl | exact Or.inr rfl)) (mss_cons (ms_set (i := 2) S.nd rfl (by first | exact Or.inl rfl | exact Or.inr rfl) (me_call (callN_len _ _) (IH .f_law_changed) hr rfl (T.m .f_law_changed rfl) (T.k .f_law_changed) (T.b .f_law_changed) (ma_cons (me_var (pv 2)) (ma_cons (me_add (me_add (me_call (callN_len _ _) (IH .f_law_cell) hr rfl (T.m .f_law_cell rfl) (T.k .f_law_cell) (T.b .f_law_cell) (ma_cons (me_var (pv 0)) (ma_cons (me_add me_int (me_mod (me_var (pv 3)) me_int)) ma_nil))) (me_mul me_int (me_var (pv 1)))) (me_mul me_int (me_var (pv 3)))) ma_nil)))) (mss_one (ms_if (mt_not (mt_tru (me_call (callN_len _ _) (IH .f_law_is_right) hr rfl (T.m .f_law_is_right rfl) (T.k .f_law_is_right) (T.b .f_law_is_right) (ma_cons (me_var (pv 2)) ma_nil)))) (mss_one (ms_ret me_bl)) mss_nil))))))) (mss_one (ms_ret me_bl))))
theorem all_ok (T : Tx w K mg ad fd a_TWO a_DICE t_DEEPEST t_MOST_DICE a_SIGNS a_CALLS a_SUMS t_FIGURES t_MOST_DEEP A_NoFaces A_NoNote A_NoText A_NoWorth A_Reader A_ThrowError) : ∀ n f, Good P w K mg base ad fd n f
  | 0, f => by cases f <;> first | exact fn_zero | exact fn_zeroX
  | n + 1, f => by
    have IH := all_ok T n
    cases f
    · exact ok_Reader_init T IH
    · exact ok_is_whole T IH
    · exact ok_is_last T IH
    · exact ok_is_dice T IH
    · exact ok_is_saying_in T IH
    · exact ok_dice_in T IH
    · exact ok_is_saying T IH
    · exact ok_in_brackets T IH
    · exact ok_written T IH
    · exact ok_Reader_has T IH
    · exact ok_Reader_must T IH
    · exact ok_Reader_figure T IH
    · exact ok_Reader_call T IH
    · exact ok_Reader_part T IH
    · exact ok_Reader_saying T IH
    · exact ok_read T IH
    · exact ok_f_law_cell T IH
    · exact ok_f_law_mix T IH
    · exact ok_f_law_dice T IH
    · exact ok_f_law_many T IH
    · exact ok_f_law_saying T IH
    · exact ok_f_law_written T IH
    · exact ok_f_law_word T IH
    · exact ok_f_law_told T IH
    · exact ok_f_law_is_right T IH
    · exact ok_f_law_bad T IH
    · exact ok_f_law_changed T IH
    · exact ok_law T IH
end
theorem all_mk {P : Program} {w : World} {K : PySem.W.Frag} {h : Heap} {mg : Str → Option Value} {fa : Addr} (lv : Nat) (X : K.In h) (G : h.Ns mainGlobals mg) (hfa : mg "law" = some (.ref fa))
    {A_NoFaces : Addr}
    {A_NoNote : Addr}
    {A_NoText : Addr}
    {A_NoWorth : Addr}
    {A_Reader : Addr}
    {A_ThrowError : Addr}
    {f_Reader_init : Addr} {oc_Reader_init kV_Reader_init dc_Reader_init pm_Reader_init cd_Reader_init ct_Reader_init : Value} {od_Reader_init an_Reader_init : Option Addr} {sl_Reader_init : Array (Option Value)}
    {f_is_whole : Addr} {oc_is_whole kV_is_whole dc_is_whole pm_is_whole cd_is_whole ct_is_whole : Value} {od_is_whole an_is_whole : Option Addr} {sl_is_whole : Array (Option Value)}
    {f_is_last : Addr} {oc_is_last kV_is_last dc_is_last pm_is_last cd_is_last ct_is_last : Value} {od_is_last an_is_last : Option Addr} {sl_is_last : Array (Option Value)}
    {f_is_dice : Addr} {oc_is_dice kV_is_dice dc_is_dice pm_is_dice cd_is_dice ct_is_dice : Value} {od_is_dice an_is_dice : Option Addr} {sl_is_dice : Array (Option Value)}
    {f_is_saying_in : Addr} {oc_is_saying_in kV_is_saying_in dc_is_saying_in pm_is_saying_in cd_is_saying_in ct_is_saying_in : Value} {od_is_saying_in an_is_saying_in : Option Addr} {sl_is_saying_in : Array (Option Value)}
    {f_dice_in : Addr} {oc_dice_in kV_dice_in dc_dice_in pm_dice_in cd_dice_in ct_dice_in : Value} {od_dice_in an_dice_in : Option Addr} {sl_dice_in : Array (Option Value)}
    {f_is_saying : Addr} {oc_is_saying kV_is_saying dc_is_saying pm_is_saying cd_is_saying ct_is_saying : Value} {od_is_saying an_is_saying : Option Addr} {sl_is_saying : Array (Option Value)}
    {f_in_brackets : Addr} {oc_in_brackets kV_in_brackets dc_in_brackets pm_in_brackets cd_in_brackets ct_in_brackets : Value} {od_in_brackets an_in_brackets : Option Addr} {sl_in_brackets : Array (Option Value)}
    {f_written : Addr} {oc_written kV_written dc_written pm_written cd_written ct_written : Value} {od_written an_written : Option Addr} {sl_written : Array (Option Value)}
    {f_Reader_has : Addr} {oc_Reader_has kV_Reader_has dc_Reader_has pm_Reader_has cd_Reader_has ct_Reader_has : Value} {od_Reader_has an_Reader_has : Option Addr} {sl_Reader_has : Array (Option Value)}
    {f_Reader_must : Addr} {oc_Reader_must kV_Reader_must dc_Reader_must pm_Reader_must cd_Reader_must ct_Reader_must : Value} {od_Reader_must an_Reader_must : Option Addr} {sl_Reader_must : Array (Option Value)}
    {f_Reader_figure : Addr} {oc_Reader_figure kV_Reader_figure dc_Reader_figure pm_Reader_figure cd_Reader_figure ct_Reader_figure : Value} {od_Reader_figure an_Reader_figure : Option Addr} {sl_Reader_figure : Array (Option Value)}
    {f_Reader_call : Addr} {oc_Reader_call kV_Reader_call dc_Reader_call pm_Reader_call cd_Reader_call ct_Reader_call : Value} {od_Reader_call an_Reader_call : Option Addr} {sl_Reader_call : Array (Option Value)}
    {f_Reader_part : Addr} {oc_Reader_part kV_Reader_part dc_Reader_part pm_Reader_part cd_Reader_part ct_Reader_part : Value} {od_Reader_part an_Reader_part : Option Addr} {sl_Reader_part : Array (Option Value)}
    {f_Reader_saying : Addr} {oc_Reader_saying kV_Reader_saying dc_Reader_saying pm_Reader_saying cd_Reader_saying ct_Reader_saying : Value} {od_Reader_saying an_Reader_saying : Option Addr} {sl_Reader_saying : Array (Option Value)}
    {f_read : Addr} {oc_read kV_read dc_read pm_read cd_read ct_read : Value} {od_read an_read : Option Addr} {sl_read : Array (Option Value)}
    {f_f_law_cell : Addr} {oc_f_law_cell kV_f_law_cell dc_f_law_cell pm_f_law_cell cd_f_law_cell ct_f_law_cell : Value} {od_f_law_cell an_f_law_cell : Option Addr} {sl_f_law_cell : Array (Option Value)}
    {f_f_law_mix : Addr} {oc_f_law_mix kV_f_law_mix dc_f_law_mix pm_f_law_mix cd_f_law_mix ct_f_law_mix : Value} {od_f_law_mix an_f_law_mix : Option Addr} {sl_f_law_mix : Array (Option Value)}
    {f_f_law_dice : Addr} {oc_f_law_dice kV_f_law_dice dc_f_law_dice pm_f_law_dice cd_f_law_dice ct_f_law_dice : Value} {od_f_law_dice an_f_law_dice : Option Addr} {sl_f_law_dice : Array (Option Value)}
    {f_f_law_many : Addr} {oc_f_law_many kV_f_law_many dc_f_law_many pm_f_law_many cd_f_law_many ct_f_law_many : Value} {od_f_law_many an_f_law_many : Option Addr} {sl_f_law_many : Array (Option Value)}
    {f_f_law_saying : Addr} {oc_f_law_saying kV_f_law_saying dc_f_law_saying pm_f_law_saying cd_f_law_saying ct_f_law_saying : Value} {od_f_law_saying an_f_law_saying : Option Addr} {sl_f_law_saying : Array (Option Value)}
    {f_f_law_written : Addr} {oc_f_law_written kV_f_law_written dc_f_law_written pm_f_law_written cd_f_law_written ct_f_law_written : Value} {od_f_law_written an_f_law_written : Option Addr} {sl_f_law_written : Array (Option Value)}
    {f_f_law_word : Addr} {oc_f_law_word kV_f_law_word dc_f_law_word pm_f_law_word cd_f_law_word ct_f_law_word : Value} {od_f_law_word an_f_law_word : Option Addr} {sl_f_law_word : Array (Option Value)}
    {f_f_law_told : Addr} {oc_f_law_told kV_f_law_told dc_f_law_told pm_f_law_told cd_f_law_told ct_f_law_told : Value} {od_f_law_told an_f_law_told : Option Addr} {sl_f_law_told : Array (Option Value)}
    {f_f_law_is_right : Addr} {oc_f_law_is_right kV_f_law_is_right dc_f_law_is_right pm_f_law_is_right cd_f_law_is_right ct_f_law_is_right : Value} {od_f_law_is_right an_f_law_is_right : Option Addr} {sl_f_law_is_right : Array (Option Value)}
    {f_f_law_bad : Addr} {oc_f_law_bad kV_f_law_bad dc_f_law_bad pm_f_law_bad cd_f_law_bad ct_f_law_bad : Value} {od_f_law_bad an_f_law_bad : Option Addr} {sl_f_law_bad : Array (Option Value)}
    {f_f_law_changed : Addr} {oc_f_law_changed kV_f_law_changed dc_f_law_changed pm_f_law_changed cd_f_law_changed ct_f_law_changed : Value} {od_f_law_changed an_f_law_changed : Option Addr} {sl_f_law_changed : Array (Option Value)}
    {f_law : Addr} {oc_law kV_law dc_law pm_law cd_law ct_law : Value} {od_law an_law : Option Addr} {sl_law : Array (Option Value)}
    {a_TWO : Addr} {u0_TWO u1_TWO u2_TWO u3_TWO u4_TWO : Tok} {q_TWO : Option Addr} {n_TWO : Nat} {w_TWO : Array (Option Value)}
    {a_DICE : Addr} {u0_DICE u1_DICE u2_DICE u3_DICE u4_DICE u5_DICE : Tok} {q_DICE : Option Addr} {n_DICE : Nat} {w_DICE : Array (Option Value)}
    {t_DEEPEST : Tok}
    {t_MOST_DICE : Tok}
    {a_SIGNS : Addr} {u0_SIGNS u1_SIGNS u2_SIGNS u3_SIGNS u4_SIGNS u5_SIGNS u6_SIGNS u7_SIGNS u8_SIGNS u9_SIGNS : Tok} {n_SIGNS : Nat}
    {a_CALLS : Addr} {u0_CALLS u1_CALLS u2_CALLS u3_CALLS u4_CALLS u5_CALLS : Tok} {n_CALLS : Nat}
    {a_SUMS : Addr} {u0_SUMS u1_SUMS u2_SUMS u3_SUMS : Tok} {n_SUMS : Nat}
    {t_FIGURES : Tok}
    {t_MOST_DEEP : Tok}
    (g_NoFaces : PySem.W.nsIn K mainGlobals "NoFaces" = some (some (.ref A_NoFaces)))
    (g_NoNote : PySem.W.nsIn K mainGlobals "NoNote" = some (some (.ref A_NoNote)))
    (g_NoText : PySem.W.nsIn K mainGlobals "NoText" = some (some (.ref A_NoText)))
    (g_NoWorth : PySem.W.nsIn K mainGlobals "NoWorth" = some (some (.ref A_NoWorth)))
    (g_Reader : PySem.W.nsIn K mainGlobals "Reader" = some (some (.ref A_Reader)))
    (g_ThrowError : PySem.W.nsIn K mainGlobals "ThrowError" = some (some (.ref A_ThrowError)))
    (pg_Reader : PySem.W.plainGet K A_Reader Str.empty = true)
    (hd_Reader : PySem.W.hasDictIn K A_Reader = true)
    (po_Reader : PySem.W.plainOver K A_Reader = true)
    (sa_Reader : PySem.W.findIn K (.ref A_Reader) "__setattr__" = some (some (.builtin "object.__setattr__")))
    (mk_Reader : PySem.W.makesIn K A_Reader = true)
    (kc_Reader : PySem.W.keepIn K (.ref A_Reader) = true)
    (n_Reader_text : PySem.W.findIn K (.ref A_Reader) "text" = some none)
    (n_Reader_place : PySem.W.findIn K (.ref A_Reader) "place" = some none)
    (x_NoText : PySem.W.excIn K A_NoText [.type "ValueError", .type "Exception", .type "BaseException", .type "object"] "ValueError.__new__" = true)
    (k_NoText : PySem.W.keepIn K (.ref A_NoText) = true)
    (s_NoText : PySem.W.subIn K (.ref A_NoText) (.type "BaseException") = some true)
    (y_NoText : PySem.W.typeIn K (.ref A_NoText) = some (.type "type"))
    (e_ThrowError_NoText : PySem.W.exmOne K (.ref A_NoText) (.ref A_ThrowError) = some true)
    (xc_hn : PySem.W.specialIn K (.builtin "object.__class__") "__get__" = some (some (.builtin "getset_descriptor.__get__")))
    (xc_ht : PySem.W.takesIn K (.builtin "object.__class__") = some true)
    (xc_hg_NoText : PySem.W.findIn K (.ref A_NoText) "__getattribute__" = some (some (.builtin "BaseException.__getattribute__")))
    (xc_hk_NoText : PySem.W.findIn K (.ref A_NoText) "__getattr__" = some none)
    (xc_hs_NoText : PySem.W.subIn K (.ref A_NoText) (.type "BaseException") = some true)
    (xc_hd_NoText : PySem.W.hasDictIn K A_NoText = true)
    (xc_ha_NoText : PySem.W.findIn K (.ref A_NoText) "__class__" = some (some (.builtin "object.__class__")))
    (xc_hm_NoText : PySem.W.mroIn K A_NoText (.type "object") = some true)
    (xi_NoFaces_NoText : PySem.W.kitOne K (.ref A_NoText) (.ref A_NoFaces) = some false)
    (xi_NoNote_NoText : PySem.W.kitOne K (.ref A_NoText) (.ref A_NoNote) = some false)
    (xi_NoText_NoText : PySem.W.kitOne K (.ref A_NoText) (.ref A_NoText) = some true)
    (xi_NoWorth_NoText : PySem.W.kitOne K (.ref A_NoText) (.ref A_NoWorth) = some false)
    (xi_ValueError_NoText : PySem.W.kitOne K (.ref A_NoText) (.type "ValueError") = some true)
    (a_f_Reader_init : PySem.W.findIn K (.ref A_Reader) "__init__" = some (some (.ref f_Reader_init)))
    (l_f_Reader_init : K.lookup f_Reader_init = some ⟨oc_Reader_init, od_Reader_init, .func (PySem.W.fnOf "__init__" "Reader.__init__" (defArgs s_Reader_init) (defBody s_Reader_init) (defScope s_Reader_init) .none kV_Reader_init dc_Reader_init pm_Reader_init an_Reader_init cd_Reader_init ct_Reader_init), sl_Reader_init⟩)
    (c_f_Reader_init : PySem.W.codeIn K cd_Reader_init "Reader.__init__" = true)
    (k_f_Reader_init : PySem.W.keepIn K (.ref f_Reader_init) = true)
    (i_f_Reader_init : PySem.W.isFn K (.ref f_Reader_init) = true)
    (a_f_is_whole : PySem.W.nsIn K mainGlobals "is_whole" = some (some (.ref f_is_whole)))
    (l_f_is_whole : K.lookup f_is_whole = some ⟨oc_is_whole, od_is_whole, .func (PySem.W.fnOf "is_whole" "is_whole" (defArgs s_is_whole) (defBody s_is_whole) (defScope s_is_whole) .none kV_is_whole dc_is_whole pm_is_whole an_is_whole cd_is_whole ct_is_whole), sl_is_whole⟩)
    (c_f_is_whole : PySem.W.codeIn K cd_is_whole "is_whole" = true)
    (k_f_is_whole : PySem.W.keepIn K (.ref f_is_whole) = true)
    (a_f_is_last : PySem.W.nsIn K mainGlobals "is_last" = some (some (.ref f_is_last)))
    (l_f_is_last : K.lookup f_is_last = some ⟨oc_is_last, od_is_last, .func (PySem.W.fnOf "is_last" "is_last" (defArgs s_is_last) (defBody s_is_last) (defScope s_is_last) .none kV_is_last dc_is_last pm_is_last an_is_last cd_is_last ct_is_last), sl_is_last⟩)
    (c_f_is_last : PySem.W.codeIn K cd_is_last "is_last" = true)
    (k_f_is_last : PySem.W.keepIn K (.ref f_is_last) = true)
    (a_f_is_dice : PySem.W.nsIn K mainGlobals "is_dice" = some (some (.ref f_is_dice)))
    (l_f_is_dice : K.lookup f_is_dice = some ⟨oc_is_dice, od_is_dice, .func (PySem.W.fnOf "is_dice" "is_dice" (defArgs s_is_dice) (defBody s_is_dice) (defScope s_is_dice) .none kV_is_dice dc_is_dice pm_is_dice an_is_dice cd_is_dice ct_is_dice), sl_is_dice⟩)
    (c_f_is_dice : PySem.W.codeIn K cd_is_dice "is_dice" = true)
    (k_f_is_dice : PySem.W.keepIn K (.ref f_is_dice) = true)
    (a_f_is_saying_in : PySem.W.nsIn K mainGlobals "is_saying_in" = some (some (.ref f_is_saying_in)))
    (l_f_is_saying_in : K.lookup f_is_saying_in = some ⟨oc_is_saying_in, od_is_saying_in, .func (PySem.W.fnOf "is_saying_in" "is_saying_in" (defArgs s_is_saying_in) (defBody s_is_saying_in) (defScope s_is_saying_in) .none kV_is_saying_in dc_is_saying_in pm_is_saying_in an_is_saying_in cd_is_saying_in ct_is_saying_in), sl_is_saying_in⟩)
    (c_f_is_saying_in : PySem.W.codeIn K cd_is_saying_in "is_saying_in" = true)
    (k_f_is_saying_in : PySem.W.keepIn K (.ref f_is_saying_in) = true)
    (a_f_dice_in : PySem.W.nsIn K mainGlobals "dice_in" = some (some (.ref f_dice_in)))
    (l_f_dice_in : K.lookup f_dice_in = some ⟨oc_dice_in, od_dice_in, .func (PySem.W.fnOf "dice_in" "dice_in" (defArgs s_dice_in) (defBody s_dice_in) (defScope s_dice_in) .none kV_dice_in dc_dice_in pm_dice_in an_dice_in cd_dice_in ct_dice_in), sl_dice_in⟩)
    (c_f_dice_in : PySem.W.codeIn K cd_dice_in "dice_in" = true)
    (k_f_dice_in : PySem.W.keepIn K (.ref f_dice_in) = true)
    (a_f_is_saying : PySem.W.nsIn K mainGlobals "is_saying" = some (some (.ref f_is_saying)))
    (l_f_is_saying : K.lookup f_is_saying = some ⟨oc_is_saying, od_is_saying, .func (PySem.W.fnOf "is_saying" "is_saying" (defArgs s_is_saying) (defBody s_is_saying) (defScope s_is_saying) .none kV_is_saying dc_is_saying pm_is_saying an_is_saying cd_is_saying ct_is_saying), sl_is_saying⟩)
    (c_f_is_saying : PySem.W.codeIn K cd_is_saying "is_saying" = true)
    (k_f_is_saying : PySem.W.keepIn K (.ref f_is_saying) = true)
    (a_f_in_brackets : PySem.W.nsIn K mainGlobals "in_brackets" = some (some (.ref f_in_brackets)))
    (l_f_in_brackets : K.lookup f_in_brackets = some ⟨oc_in_brackets, od_in_brackets, .func (PySem.W.fnOf "in_brackets" "in_brackets" (defArgs s_in_brackets) (defBody s_in_brackets) (defScope s_in_brackets) .none kV_in_brackets dc_in_brackets pm_in_brackets an_in_brackets cd_in_brackets ct_in_brackets), sl_in_brackets⟩)
    (c_f_in_brackets : PySem.W.codeIn K cd_in_brackets "in_brackets" = true)
    (k_f_in_brackets : PySem.W.keepIn K (.ref f_in_brackets) = true)
    (a_f_written : PySem.W.nsIn K mainGlobals "written" = some (some (.ref f_written)))
    (l_f_written : K.lookup f_written = some ⟨oc_written, od_written, .func (PySem.W.fnOf "written" "written" (defArgs s_written) (defBody s_written) (defScope s_written) .none kV_written dc_written pm_written an_written cd_written ct_written), sl_written⟩)
    (c_f_written : PySem.W.codeIn K cd_written "written" = true)
    (k_f_written : PySem.W.keepIn K (.ref f_written) = true)
    (a_f_Reader_has : PySem.W.findIn K (.ref A_Reader) "has" = some (some (.ref f_Reader_has)))
    (l_f_Reader_has : K.lookup f_Reader_has = some ⟨oc_Reader_has, od_Reader_has, .func (PySem.W.fnOf "has" "Reader.has" (defArgs s_Reader_has) (defBody s_Reader_has) (defScope s_Reader_has) .none kV_Reader_has dc_Reader_has pm_Reader_has an_Reader_has cd_Reader_has ct_Reader_has), sl_Reader_has⟩)
    (c_f_Reader_has : PySem.W.codeIn K cd_Reader_has "Reader.has" = true)
    (k_f_Reader_has : PySem.W.keepIn K (.ref f_Reader_has) = true)
    (i_f_Reader_has : PySem.W.isFn K (.ref f_Reader_has) = true)
    (a_f_Reader_must : PySem.W.findIn K (.ref A_Reader) "must" = some (some (.ref f_Reader_must)))
    (l_f_Reader_must : K.lookup f_Reader_must = some ⟨oc_Reader_must, od_Reader_must, .func (PySem.W.fnOf "must" "Reader.must" (defArgs s_Reader_must) (defBody s_Reader_must) (defScope s_Reader_must) .none kV_Reader_must dc_Reader_must pm_Reader_must an_Reader_must cd_Reader_must ct_Reader_must), sl_Reader_must⟩)
    (c_f_Reader_must : PySem.W.codeIn K cd_Reader_must "Reader.must" = true)
    (k_f_Reader_must : PySem.W.keepIn K (.ref f_Reader_must) = true)
    (i_f_Reader_must : PySem.W.isFn K (.ref f_Reader_must) = true)
    (a_f_Reader_figure : PySem.W.findIn K (.ref A_Reader) "figure" = some (some (.ref f_Reader_figure)))
    (l_f_Reader_figure : K.lookup f_Reader_figure = some ⟨oc_Reader_figure, od_Reader_figure, .func (PySem.W.fnOf "figure" "Reader.figure" (defArgs s_Reader_figure) (defBody s_Reader_figure) (defScope s_Reader_figure) .none kV_Reader_figure dc_Reader_figure pm_Reader_figure an_Reader_figure cd_Reader_figure ct_Reader_figure), sl_Reader_figure⟩)
    (c_f_Reader_figure : PySem.W.codeIn K cd_Reader_figure "Reader.figure" = true)
    (k_f_Reader_figure : PySem.W.keepIn K (.ref f_Reader_figure) = true)
    (i_f_Reader_figure : PySem.W.isFn K (.ref f_Reader_figure) = true)
    (a_f_Reader_call : PySem.W.findIn K (.ref A_Reader) "call" = some (some (.ref f_Reader_call)))
    (l_f_Reader_call : K.lookup f_Reader_call = some ⟨oc_Reader_call, od_Reader_call, .func (PySem.W.fnOf "call" "Reader.call" (defArgs s_Reader_call) (defBody s_Reader_call) (defScope s_Reader_call) .none kV_Reader_call dc_Reader_call pm_Reader_call an_Reader_call cd_Reader_call ct_Reader_call), sl_Reader_call⟩)
    (c_f_Reader_call : PySem.W.codeIn K cd_Reader_call "Reader.call" = true)
    (k_f_Reader_call : PySem.W.keepIn K (.ref f_Reader_call) = true)
    (i_f_Reader_call : PySem.W.isFn K (.ref f_Reader_call) = true)
    (a_f_Reader_part : PySem.W.findIn K (.ref A_Reader) "part" = some (some (.ref f_Reader_part)))
    (l_f_Reader_part : K.lookup f_Reader_part = some ⟨oc_Reader_part, od_Reader_part, .func (PySem.W.fnOf "part" "Reader.part" (defArgs s_Reader_part) (defBody s_Reader_part) (defScope s_Reader_part) .none kV_Reader_part dc_Reader_part pm_Reader_part an_Reader_part cd_Reader_part ct_Reader_part), sl_Reader_part⟩)
    (c_f_Reader_part : PySem.W.codeIn K cd_Reader_part "Reader.part" = true)
    (k_f_Reader_part : PySem.W.keepIn K (.ref f_Reader_part) = true)
    (i_f_Reader_part : PySem.W.isFn K (.ref f_Reader_part) = true)
    (a_f_Reader_saying : PySem.W.findIn K (.ref A_Reader) "saying" = some (some (.ref f_Reader_saying)))
    (l_f_Reader_saying : K.lookup f_Reader_saying = some ⟨oc_Reader_saying, od_Reader_saying, .func (PySem.W.fnOf "saying" "Reader.saying" (defArgs s_Reader_saying) (defBody s_Reader_saying) (defScope s_Reader_saying) .none kV_Reader_saying dc_Reader_saying pm_Reader_saying an_Reader_saying cd_Reader_saying ct_Reader_saying), sl_Reader_saying⟩)
    (c_f_Reader_saying : PySem.W.codeIn K cd_Reader_saying "Reader.saying" = true)
    (k_f_Reader_saying : PySem.W.keepIn K (.ref f_Reader_saying) = true)
    (i_f_Reader_saying : PySem.W.isFn K (.ref f_Reader_saying) = true)
    (a_f_read : PySem.W.nsIn K mainGlobals "read" = some (some (.ref f_read)))
    (l_f_read : K.lookup f_read = some ⟨oc_read, od_read, .func (PySem.W.fnOf "read" "read" (defArgs s_read) (defBody s_read) (defScope s_read) .none kV_read dc_read pm_read an_read cd_read ct_read), sl_read⟩)
    (c_f_read : PySem.W.codeIn K cd_read "read" = true)
    (k_f_read : PySem.W.keepIn K (.ref f_read) = true)
    (a_f_f_law_cell : PySem.W.nsIn K mainGlobals "_law_cell" = some (some (.ref f_f_law_cell)))
    (l_f_f_law_cell : K.lookup f_f_law_cell = some ⟨oc_f_law_cell, od_f_law_cell, .func (PySem.W.fnOf "_law_cell" "_law_cell" (defArgs s_f_law_cell) (defBody s_f_law_cell) (defScope s_f_law_cell) .none kV_f_law_cell dc_f_law_cell pm_f_law_cell an_f_law_cell cd_f_law_cell ct_f_law_cell), sl_f_law_cell⟩)
    (c_f_f_law_cell : PySem.W.codeIn K cd_f_law_cell "_law_cell" = true)
    (k_f_f_law_cell : PySem.W.keepIn K (.ref f_f_law_cell) = true)
    (a_f_f_law_mix : PySem.W.nsIn K mainGlobals "_law_mix" = some (some (.ref f_f_law_mix)))
    (l_f_f_law_mix : K.lookup f_f_law_mix = some ⟨oc_f_law_mix, od_f_law_mix, .func (PySem.W.fnOf "_law_mix" "_law_mix" (defArgs s_f_law_mix) (defBody s_f_law_mix) (defScope s_f_law_mix) .none kV_f_law_mix dc_f_law_mix pm_f_law_mix an_f_law_mix cd_f_law_mix ct_f_law_mix), sl_f_law_mix⟩)
    (c_f_f_law_mix : PySem.W.codeIn K cd_f_law_mix "_law_mix" = true)
    (k_f_f_law_mix : PySem.W.keepIn K (.ref f_f_law_mix) = true)
    (a_f_f_law_dice : PySem.W.nsIn K mainGlobals "_law_dice" = some (some (.ref f_f_law_dice)))
    (l_f_f_law_dice : K.lookup f_f_law_dice = some ⟨oc_f_law_dice, od_f_law_dice, .func (PySem.W.fnOf "_law_dice" "_law_dice" (defArgs s_f_law_dice) (defBody s_f_law_dice) (defScope s_f_law_dice) .none kV_f_law_dice dc_f_law_dice pm_f_law_dice an_f_law_dice cd_f_law_dice ct_f_law_dice), sl_f_law_dice⟩)
    (c_f_f_law_dice : PySem.W.codeIn K cd_f_law_dice "_law_dice" = true)
    (k_f_f_law_dice : PySem.W.keepIn K (.ref f_f_law_dice) = true)
    (a_f_f_law_many : PySem.W.nsIn K mainGlobals "_law_many" = some (some (.ref f_f_law_many)))
    (l_f_f_law_many : K.lookup f_f_law_many = some ⟨oc_f_law_many, od_f_law_many, .func (PySem.W.fnOf "_law_many" "_law_many" (defArgs s_f_law_many) (defBody s_f_law_many) (defScope s_f_law_many) .none kV_f_law_many dc_f_law_many pm_f_law_many an_f_law_many cd_f_law_many ct_f_law_many), sl_f_law_many⟩)
    (c_f_f_law_many : PySem.W.codeIn K cd_f_law_many "_law_many" = true)
    (k_f_f_law_many : PySem.W.keepIn K (.ref f_f_law_many) = true)
    (a_f_f_law_saying : PySem.W.nsIn K mainGlobals "_law_saying" = some (some (.ref f_f_law_saying)))
    (l_f_f_law_saying : K.lookup f_f_law_saying = some ⟨oc_f_law_saying, od_f_law_saying, .func (PySem.W.fnOf "_law_saying" "_law_saying" (defArgs s_f_law_saying) (defBody s_f_law_saying) (defScope s_f_law_saying) .none kV_f_law_saying dc_f_law_saying pm_f_law_saying an_f_law_saying cd_f_law_saying ct_f_law_saying), sl_f_law_saying⟩)
    (c_f_f_law_saying : PySem.W.codeIn K cd_f_law_saying "_law_saying" = true)
    (k_f_f_law_saying : PySem.W.keepIn K (.ref f_f_law_saying) = true)
    (a_f_f_law_written : PySem.W.nsIn K mainGlobals "_law_written" = some (some (.ref f_f_law_written)))
    (l_f_f_law_written : K.lookup f_f_law_written = some ⟨oc_f_law_written, od_f_law_written, .func (PySem.W.fnOf "_law_written" "_law_written" (defArgs s_f_law_written) (defBody s_f_law_written) (defScope s_f_law_written) .none kV_f_law_written dc_f_law_written pm_f_law_written an_f_law_written cd_f_law_written ct_f_law_written), sl_f_law_written⟩)
    (c_f_f_law_written : PySem.W.codeIn K cd_f_law_written "_law_written" = true)
    (k_f_f_law_written : PySem.W.keepIn K (.ref f_f_law_written) = true)
    (a_f_f_law_word : PySem.W.nsIn K mainGlobals "_law_word" = some (some (.ref f_f_law_word)))
    (l_f_f_law_word : K.lookup f_f_law_word = some ⟨oc_f_law_word, od_f_law_word, .func (PySem.W.fnOf "_law_word" "_law_word" (defArgs s_f_law_word) (defBody s_f_law_word) (defScope s_f_law_word) .none kV_f_law_word dc_f_law_word pm_f_law_word an_f_law_word cd_f_law_word ct_f_law_word), sl_f_law_word⟩)
    (c_f_f_law_word : PySem.W.codeIn K cd_f_law_word "_law_word" = true)
    (k_f_f_law_word : PySem.W.keepIn K (.ref f_f_law_word) = true)
    (a_f_f_law_told : PySem.W.nsIn K mainGlobals "_law_told" = some (some (.ref f_f_law_told)))
    (l_f_f_law_told : K.lookup f_f_law_told = some ⟨oc_f_law_told, od_f_law_told, .func (PySem.W.fnOf "_law_told" "_law_told" (defArgs s_f_law_told) (defBody s_f_law_told) (defScope s_f_law_told) .none kV_f_law_told dc_f_law_told pm_f_law_told an_f_law_told cd_f_law_told ct_f_law_told), sl_f_law_told⟩)
    (c_f_f_law_told : PySem.W.codeIn K cd_f_law_told "_law_told" = true)
    (k_f_f_law_told : PySem.W.keepIn K (.ref f_f_law_told) = true)
    (a_f_f_law_is_right : PySem.W.nsIn K mainGlobals "_law_is_right" = some (some (.ref f_f_law_is_right)))
    (l_f_f_law_is_right : K.lookup f_f_law_is_right = some ⟨oc_f_law_is_right, od_f_law_is_right, .func (PySem.W.fnOf "_law_is_right" "_law_is_right" (defArgs s_f_law_is_right) (defBody s_f_law_is_right) (defScope s_f_law_is_right) .none kV_f_law_is_right dc_f_law_is_right pm_f_law_is_right an_f_law_is_right cd_f_law_is_right ct_f_law_is_right), sl_f_law_is_right⟩)
    (c_f_f_law_is_right : PySem.W.codeIn K cd_f_law_is_right "_law_is_right" = true)
    (k_f_f_law_is_right : PySem.W.keepIn K (.ref f_f_law_is_right) = true)
    (a_f_f_law_bad : PySem.W.nsIn K mainGlobals "_law_bad" = some (some (.ref f_f_law_bad)))
    (l_f_f_law_bad : K.lookup f_f_law_bad = some ⟨oc_f_law_bad, od_f_law_bad, .func (PySem.W.fnOf "_law_bad" "_law_bad" (defArgs s_f_law_bad) (defBody s_f_law_bad) (defScope s_f_law_bad) .none kV_f_law_bad dc_f_law_bad pm_f_law_bad an_f_law_bad cd_f_law_bad ct_f_law_bad), sl_f_law_bad⟩)
    (c_f_f_law_bad : PySem.W.codeIn K cd_f_law_bad "_law_bad" = true)
    (k_f_f_law_bad : PySem.W.keepIn K (.ref f_f_law_bad) = true)
    (a_f_f_law_changed : PySem.W.nsIn K mainGlobals "_law_changed" = some (some (.ref f_f_law_changed)))
    (l_f_f_law_changed : K.lookup f_f_law_changed = some ⟨oc_f_law_changed, od_f_law_changed, .func (PySem.W.fnOf "_law_changed" "_law_changed" (defArgs s_f_law_changed) (defBody s_f_law_changed) (defScope s_f_law_changed) .none kV_f_law_changed dc_f_law_changed pm_f_law_changed an_f_law_changed cd_f_law_changed ct_f_law_changed), sl_f_law_changed⟩)
    (c_f_f_law_changed : PySem.W.codeIn K cd_f_law_changed "_law_changed" = true)
    (k_f_f_law_changed : PySem.W.keepIn K (.ref f_f_law_changed) = true)
    (a_f_law : PySem.W.nsIn K mainGlobals "law" = some (some (.ref f_law)))
    (l_f_law : K.lookup f_law = some ⟨oc_law, od_law, .func (PySem.W.fnOf "law" "law" (defArgs s_law) (defBody s_law) (defScope s_law) .none kV_law dc_law pm_law an_law cd_law ct_law), sl_law⟩)
    (c_f_law : PySem.W.codeIn K cd_law "law" = true)
    (k_f_law : PySem.W.keepIn K (.ref f_law) = true)
    (z_ValueError : PySem.W.nsIn K mainGlobals "ValueError" = some none)
    (z_all : PySem.W.nsIn K mainGlobals "all" = some none)
    (z_any : PySem.W.nsIn K mainGlobals "any" = some none)
    (z_bool : PySem.W.nsIn K mainGlobals "bool" = some none)
    (z_int : PySem.W.nsIn K mainGlobals "int" = some none)
    (z_isinstance : PySem.W.nsIn K mainGlobals "isinstance" = some none)
    (z_len : PySem.W.nsIn K mainGlobals "len" = some none)
    (z_min : PySem.W.nsIn K mainGlobals "min" = some none)
    (z_range : PySem.W.nsIn K mainGlobals "range" = some none)
    (z_str : PySem.W.nsIn K mainGlobals "str" = some none)
    (z_sum : PySem.W.nsIn K mainGlobals "sum" = some none)
    (z_tuple : PySem.W.nsIn K mainGlobals "tuple" = some none)
    (g_TWO : PySem.W.nsIn K mainGlobals "TWO" = some (some (.ref a_TWO))) (l_TWO : K.lookup a_TWO = some ⟨.type "tuple", q_TWO, .seq #[(.str "plus" u0_TWO), (.str "less" u1_TWO), (.str "most" u2_TWO), (.str "least" u3_TWO), (.str "beats" u4_TWO)] n_TWO, w_TWO⟩)
    (g_DICE : PySem.W.nsIn K mainGlobals "DICE" = some (some (.ref a_DICE))) (l_DICE : K.lookup a_DICE = some ⟨.type "tuple", q_DICE, .seq #[(.str "dice" u0_DICE), (.str "high" u1_DICE), (.str "low" u2_DICE), (.str "again" u3_DICE), (.str "burst" u4_DICE), (.str "count" u5_DICE)] n_DICE, w_DICE⟩)
    (g_DEEPEST : PySem.W.nsIn K mainGlobals "DEEPEST" = some (some (.int 3 t_DEEPEST)))
    (g_MOST_DICE : PySem.W.nsIn K mainGlobals "MOST_DICE" = some (some (.int 6 t_MOST_DICE)))
    (g_SIGNS : PySem.W.nsIn K mainGlobals "SIGNS" = some (some (.ref a_SIGNS))) (l_SIGNS : K.lookup a_SIGNS = some ⟨.type "dict", none, .dict #[⟨PyData.keyHash w.params (Str.ofString "high"), .str "high" u0_SIGNS, .str "h" u1_SIGNS⟩, ⟨PyData.keyHash w.params (Str.ofString "low"), .str "low" u2_SIGNS, .str "l" u3_SIGNS⟩, ⟨PyData.keyHash w.params (Str.ofString "again"), .str "again" u4_SIGNS, .str "r" u5_SIGNS⟩, ⟨PyData.keyHash w.params (Str.ofString "burst"), .str "burst" u6_SIGNS, .str "x" u7_SIGNS⟩, ⟨PyData.keyHash w.params (Str.ofString "count"), .str "count" u8_SIGNS, .str "c" u9_SIGNS⟩] n_SIGNS, #[]⟩) (y_SIGNS : (a_SIGNS == sysModules) = false)
    (g_CALLS : PySem.W.nsIn K mainGlobals "CALLS" = some (some (.ref a_CALLS))) (l_CALLS : K.lookup a_CALLS = some ⟨.type "dict", none, .dict #[⟨PyData.keyHash w.params (Str.ofString "most"), .str "most" u0_CALLS, .str "max" u1_CALLS⟩, ⟨PyData.keyHash w.params (Str.ofString "least"), .str "least" u2_CALLS, .str "min" u3_CALLS⟩, ⟨PyData.keyHash w.params (Str.ofString "beats"), .str "beats" u4_CALLS, .str "beats" u5_CALLS⟩] n_CALLS, #[]⟩) (y_CALLS : (a_CALLS == sysModules) = false)
    (g_SUMS : PySem.W.nsIn K mainGlobals "SUMS" = some (some (.ref a_SUMS))) (l_SUMS : K.lookup a_SUMS = some ⟨.type "dict", none, .dict #[⟨PyData.keyHash w.params (Str.ofString "plus"), .str "plus" u0_SUMS, .str " + " u1_SUMS⟩, ⟨PyData.keyHash w.params (Str.ofString "less"), .str "less" u2_SUMS, .str " - " u3_SUMS⟩] n_SUMS, #[]⟩) (y_SUMS : (a_SUMS == sysModules) = false)
    (g_FIGURES : PySem.W.nsIn K mainGlobals "FIGURES" = some (some (.str "0123456789" t_FIGURES)))
    (g_MOST_DEEP : PySem.W.nsIn K mainGlobals "MOST_DEEP" = some (some (.int 6 t_MOST_DEEP))) :
    ∃ fd : FuncData, (∀ (s : Shared) (v : Value), BindsTo s fd ⟨[v], []⟩ [("script", v)]) ∧ ∀ base : Heap, K.In base → base.Ns mainGlobals mg → FnOk P w K mg base CX0 lv fa fd ["script"] (spM K 1 (callN lv .law)) := by
  have e := hfa.symm.trans (PySem.W.mg_of X G a_f_law)
  cases e
  have F_Reader_init := fun_mk (st := s_Reader_init) l_f_Reader_init c_f_Reader_init k_f_Reader_init
  have b_Reader_init := F_Reader_init.binds (ps := ps .Reader_init) fun _ _ _ _ _ _ us hl => match us, hl with | [_, _], _ => rfl
  have F_is_whole := fun_mk (st := s_is_whole) l_f_is_whole c_f_is_whole k_f_is_whole
  have b_is_whole := F_is_whole.binds (ps := ps .is_whole) fun _ _ _ _ _ _ us hl => match us, hl with | [_, _, _], _ => rfl
  have F_is_last := fun_mk (st := s_is_last) l_f_is_last c_f_is_last k_f_is_last
  have b_is_last := F_is_last.binds (ps := ps .is_last) fun _ _ _ _ _ _ us hl => match us, hl with | [_, _, _, _], _ => rfl
  have F_is_dice := fun_mk (st := s_is_dice) l_f_is_dice c_f_is_dice k_f_is_dice
  have b_is_dice := F_is_dice.binds (ps := ps .is_dice) fun _ _ _ _ _ _ us hl => match us, hl with | [_], _ => rfl
  have F_is_saying_in := fun_mk (st := s_is_saying_in) l_f_is_saying_in c_f_is_saying_in k_f_is_saying_in
  have b_is_saying_in := F_is_saying_in.binds (ps := ps .is_saying_in) fun _ _ _ _ _ _ us hl => match us, hl with | [_, _], _ => rfl
  have F_dice_in := fun_mk (st := s_dice_in) l_f_dice_in c_f_dice_in k_f_dice_in
  have b_dice_in := F_dice_in.binds (ps := ps .dice_in) fun _ _ _ _ _ _ us hl => match us, hl with | [_], _ => rfl
  have F_is_saying := fun_mk (st := s_is_saying) l_f_is_saying c_f_is_saying k_f_is_saying
  have b_is_saying := F_is_saying.binds (ps := ps .is_saying) fun _ _ _ _ _ _ us hl => match us, hl with | [_], _ => rfl
  have F_in_brackets := fun_mk (st := s_in_brackets) l_f_in_brackets c_f_in_brackets k_f_in_brackets
  have b_in_brackets := F_in_brackets.binds (ps := ps .in_brackets) fun _ _ _ _ _ _ us hl => match us, hl with | [_, _], _ => rfl
  have F_written := fun_mk (st := s_written) l_f_written c_f_written k_f_written
  have b_written := F_written.binds (ps := ps .written) fun _ _ _ _ _ _ us hl => match us, hl with | [_], _ => rfl
  have F_Reader_has := fun_mk (st := s_Reader_has) l_f_Reader_has c_f_Reader_has k_f_Reader_has
  have b_Reader_has := F_Reader_has.binds (ps := ps .Reader_has) fun _ _ _ _ _ _ us hl => match us, hl with | [_, _], _ => rfl
  have F_Reader_must := fun_mk (st := s_Reader_must) l_f_Reader_must c_f_Reader_must k_f_Reader_must
  have b_Reader_must := F_Reader_must.binds (ps := ps .Reader_must) fun _ _ _ _ _ _ us hl => match us, hl with | [_, _], _ => rfl
  have F_Reader_figure := fun_mk (st := s_Reader_figure) l_f_Reader_figure c_f_Reader_figure k_f_Reader_figure
  have b_Reader_figure := F_Reader_figure.binds (ps := ps .Reader_figure) fun _ _ _ _ _ _ us hl => match us, hl with | [_], _ => rfl
  have F_Reader_call := fun_mk (st := s_Reader_call) l_f_Reader_call c_f_Reader_call k_f_Reader_call
  have b_Reader_call := F_Reader_call.binds (ps := ps .Reader_call) fun _ _ _ _ _ _ us hl => match us, hl with | [_, _], _ => rfl
  have F_Reader_part := fun_mk (st := s_Reader_part) l_f_Reader_part c_f_Reader_part k_f_Reader_part
  have b_Reader_part := F_Reader_part.binds (ps := ps .Reader_part) fun _ _ _ _ _ _ us hl => match us, hl with | [_, _], _ => rfl
  have F_Reader_saying := fun_mk (st := s_Reader_saying) l_f_Reader_saying c_f_Reader_saying k_f_Reader_saying
  have b_Reader_saying := F_Reader_saying.binds (ps := ps .Reader_saying) fun _ _ _ _ _ _ us hl => match us, hl with | [_, _], _ => rfl
  have F_read := fun_mk (st := s_read) l_f_read c_f_read k_f_read
  have b_read := F_read.binds (ps := ps .read) fun _ _ _ _ _ _ us hl => match us, hl with | [_], _ => rfl
  have F_f_law_cell := fun_mk (st := s_f_law_cell) l_f_f_law_cell c_f_f_law_cell k_f_f_law_cell
  have b_f_law_cell := F_f_law_cell.binds (ps := ps .f_law_cell) fun _ _ _ _ _ _ us hl => match us, hl with | [_, _], _ => rfl
  have F_f_law_mix := fun_mk (st := s_f_law_mix) l_f_f_law_mix c_f_f_law_mix k_f_f_law_mix
  have b_f_law_mix := F_f_law_mix.binds (ps := ps .f_law_mix) fun _ _ _ _ _ _ us hl => match us, hl with | [_, _, _], _ => rfl
  have F_f_law_dice := fun_mk (st := s_f_law_dice) l_f_f_law_dice c_f_f_law_dice k_f_f_law_dice
  have b_f_law_dice := F_f_law_dice.binds (ps := ps .f_law_dice) fun _ _ _ _ _ _ us hl => match us, hl with | [_, _], _ => rfl
  have F_f_law_many := fun_mk (st := s_f_law_many) l_f_f_law_many c_f_f_law_many k_f_f_law_many
  have b_f_law_many := F_f_law_many.binds (ps := ps .f_law_many) fun _ _ _ _ _ _ us hl => match us, hl with | [_], _ => rfl
  have F_f_law_saying := fun_mk (st := s_f_law_saying) l_f_f_law_saying c_f_f_law_saying k_f_f_law_saying
  have b_f_law_saying := F_f_law_saying.binds (ps := ps .f_law_saying) fun _ _ _ _ _ _ us hl => match us, hl with | [_, _, _], _ => rfl
  have F_f_law_written := fun_mk (st := s_f_law_written) l_f_f_law_written c_f_f_law_written k_f_f_law_written
  have b_f_law_written := F_f_law_written.binds (ps := ps .f_law_written) fun _ _ _ _ _ _ us hl => match us, hl with | [_], _ => rfl
  have F_f_law_word := fun_mk (st := s_f_law_word) l_f_f_law_word c_f_f_law_word k_f_f_law_word
  have b_f_law_word := F_f_law_word.binds (ps := ps .f_law_word) fun _ _ _ _ _ _ us hl => match us, hl with | [_], _ => rfl
  have F_f_law_told := fun_mk (st := s_f_law_told) l_f_f_law_told c_f_f_law_told k_f_f_law_told
  have b_f_law_told := F_f_law_told.binds (ps := ps .f_law_told) fun _ _ _ _ _ _ us hl => match us, hl with | [_], _ => rfl
  have F_f_law_is_right := fun_mk (st := s_f_law_is_right) l_f_f_law_is_right c_f_f_law_is_right k_f_f_law_is_right
  have b_f_law_is_right := F_f_law_is_right.binds (ps := ps .f_law_is_right) fun _ _ _ _ _ _ us hl => match us, hl with | [_], _ => rfl
  have F_f_law_bad := fun_mk (st := s_f_law_bad) l_f_f_law_bad c_f_f_law_bad k_f_f_law_bad
  have b_f_law_bad := F_f_law_bad.binds (ps := ps .f_law_bad) fun _ _ _ _ _ _ us hl => match us, hl with | [], _ => rfl
  have F_f_law_changed := fun_mk (st := s_f_law_changed) l_f_f_law_changed c_f_f_law_changed k_f_f_law_changed
  have b_f_law_changed := F_f_law_changed.binds (ps := ps .f_law_changed) fun _ _ _ _ _ _ us hl => match us, hl with | [_, _], _ => rfl
  have F_law := fun_mk (st := s_law) l_f_law c_f_law k_f_law
  have b_law := F_law.binds (ps := ps .law) fun _ _ _ _ _ _ us hl => match us, hl with | [_], _ => rfl
  let ad : Fn → Addr := fun f => match f with | .Reader_init => f_Reader_init | .is_whole => f_is_whole | .is_last => f_is_last | .is_dice => f_is_dice | .is_saying_in => f_is_saying_in | .dice_in => f_dice_in | .is_saying => f_is_saying | .in_brackets => f_in_brackets | .written => f_written | .Reader_has => f_Reader_has | .Reader_must => f_Reader_must | .Reader_figure => f_Reader_figure | .Reader_call => f_Reader_call | .Reader_part => f_Reader_part | .Reader_saying => f_Reader_saying | .read => f_read | .f_law_cell => f_f_law_cell | .f_law_mix => f_f_law_mix | .f_law_dice => f_f_law_dice | .f_law_many => f_f_law_many | .f_law_saying => f_f_law_saying | .f_law_written => f_f_law_written | .f_law_word => f_f_law_word | .f_law_told => f_f_law_told | .f_law_is_right => f_f_law_is_right | .f_law_bad => f_f_law_bad | .f_law_changed => f_f_law_changed | .law => fa
  let fd : Fn → FuncData := fun f => match f with | .Reader_init => PySem.W.fnOf "__init__" "Reader.__init__" (defArgs s_Reader_init) (defBody s_Reader_init) (defScope s_Reader_init) .none kV_Reader_init dc_Reader_init pm_Reader_init an_Reader_init cd_Reader_init ct_Reader_init | .is_whole => PySem.W.fnOf "is_whole" "is_whole" (defArgs s_is_whole) (defBody s_is_whole) (defScope s_is_whole) .none kV_is_whole dc_is_whole pm_is_whole an_is_whole cd_is_whole ct_is_whole | .is_last => PySem.W.fnOf "is_last" "is_last" (defArgs s_is_last) (defBody s_is_last) (defScope s_is_last) .none kV_is_last dc_is_last pm_is_last an_is_last cd_is_last ct_is_last | .is_dice => PySem.W.fnOf "is_dice" "is_dice" (defArgs s_is_dice) (defBody s_is_dice) (defScope s_is_dice) .none kV_is_dice dc_is_dice pm_is_dice an_is_dice cd_is_dice ct_is_dice | .is_saying_in => PySem.W.fnOf "is_saying_in" "is_saying_in" (defArgs s_is_saying_in) (defBody s_is_saying_in) (defScope s_is_saying_in) .none kV_is_saying_in dc_is_saying_in pm_is_saying_in an_is_saying_in cd_is_saying_in ct_is_saying_in | .dice_in => PySem.W.fnOf "dice_in" "dice_in" (defArgs s_dice_in) (defBody s_dice_in) (defScope s_dice_in) .none kV_dice_in dc_dice_in pm_dice_in an_dice_in cd_dice_in ct_dice_in | .is_saying => PySem.W.fnOf "is_saying" "is_saying" (defArgs s_is_saying) (defBody s_is_saying) (defScope s_is_saying) .none kV_is_saying dc_is_saying pm_is_saying an_is_saying cd_is_saying ct_is_saying | .in_brackets => PySem.W.fnOf "in_brackets" "in_brackets" (defArgs s_in_brackets) (defBody s_in_brackets) (defScope s_in_brackets) .none kV_in_brackets dc_in_brackets pm_in_brackets an_in_brackets cd_in_brackets ct_in_brackets | .written => PySem.W.fnOf "written" "written" (defArgs s_written) (defBody s_written) (defScope s_written) .none kV_written dc_written pm_written an_written cd_written ct_written | .Reader_has => PySem.W.fnOf "has" "Reader.has" (defArgs s_Reader_has) (defBody s_Reader_has) (defScope s_Reader_has) .none kV_Reader_has dc_Reader_has pm_Reader_has an_Reader_has cd_Reader_has ct_Reader_has | .Reader_must => PySem.W.fnOf "must" "Reader.must" (defArgs s_Reader_must) (defBody s_Reader_must) (defScope s_Reader_must) .none kV_Reader_must dc_Reader_must pm_Reader_must an_Reader_must cd_Reader_must ct_Reader_must | .Reader_figure => PySem.W.fnOf "figure" "Reader.figure" (defArgs s_Reader_figure) (defBody s_Reader_figure) (defScope s_Reader_figure) .none kV_Reader_figure dc_Reader_figure pm_Reader_figure an_Reader_figure cd_Reader_figure ct_Reader_figure | .Reader_call => PySem.W.fnOf "call" "Reader.call" (defArgs s_Reader_call) (defBody s_Reader_call) (defScope s_Reader_call) .none kV_Reader_call dc_Reader_call pm_Reader_call an_Reader_call cd_Reader_call ct_Reader_call | .Reader_part => PySem.W.fnOf "part" "Reader.part" (defArgs s_Reader_part) (defBody s_Reader_part) (defScope s_Reader_part) .none kV_Reader_part dc_Reader_part pm_Reader_part an_Reader_part cd_Reader_part ct_Reader_part | .Reader_saying => PySem.W.fnOf "saying" "Reader.saying" (defArgs s_Reader_saying) (defBody s_Reader_saying) (defScope s_Reader_saying) .none kV_Reader_saying dc_Reader_saying pm_Reader_saying an_Reader_saying cd_Reader_saying ct_Reader_saying | .read => PySem.W.fnOf "read" "read" (defArgs s_read) (defBody s_read) (defScope s_read) .none kV_read dc_read pm_read an_read cd_read ct_read | .f_law_cell => PySem.W.fnOf "_law_cell" "_law_cell" (defArgs s_f_law_cell) (defBody s_f_law_cell) (defScope s_f_law_cell) .none kV_f_law_cell dc_f_law_cell pm_f_law_cell an_f_law_cell cd_f_law_cell ct_f_law_cell | .f_law_mix => PySem.W.fnOf "_law_mix" "_law_mix" (defArgs s_f_law_mix) (defBody s_f_law_mix) (defScope s_f_law_mix) .none kV_f_law_mix dc_f_law_mix pm_f_law_mix an_f_law_mix cd_f_law_mix ct_f_law_mix | .f_law_dice => PySem.W.fnOf "_law_dice" "_law_dice" (defArgs s_f_law_dice) (defBody s_f_law_dice) (defScope s_f_law_dice) .none kV_f_law_dice dc_f_law_dice pm_f_law_dice an_f_law_dice cd_f_law_dice ct_f_law_dice | .f_law_many => PySem.W.fnOf "_law_many" "_law_many" (defArgs s_f_law_many) (defBody s_f_law_many) (defScope s_f_law_many) .none kV_f_law_many dc_f_law_many pm_f_law_many an_f_law_many cd_f_law_many ct_f_law_many | .f_law_saying => PySem.W.fnOf "_law_saying" "_law_saying" (defArgs s_f_law_saying) (defBody s_f_law_saying) (defScope s_f_law_saying) .none kV_f_law_saying dc_f_law_saying pm_f_law_saying an_f_law_saying cd_f_law_saying ct_f_law_saying | .f_law_written => PySem.W.fnOf "_law_written" "_law_written" (defArgs s_f_law_written) (defBody s_f_law_written) (defScope s_f_law_written) .none kV_f_law_written dc_f_law_written pm_f_law_written an_f_law_written cd_f_law_written ct_f_law_written | .f_law_word => PySem.W.fnOf "_law_word" "_law_word" (defArgs s_f_law_word) (defBody s_f_law_word) (defScope s_f_law_word) .none kV_f_law_word dc_f_law_word pm_f_law_word an_f_law_word cd_f_law_word ct_f_law_word | .f_law_told => PySem.W.fnOf "_law_told" "_law_told" (defArgs s_f_law_told) (defBody s_f_law_told) (defScope s_f_law_told) .none kV_f_law_told dc_f_law_told pm_f_law_told an_f_law_told cd_f_law_told ct_f_law_told | .f_law_is_right => PySem.W.fnOf "_law_is_right" "_law_is_right" (defArgs s_f_law_is_right) (defBody s_f_law_is_right) (defScope s_f_law_is_right) .none kV_f_law_is_right dc_f_law_is_right pm_f_law_is_right an_f_law_is_right cd_f_law_is_right ct_f_law_is_right | .f_law_bad => PySem.W.fnOf "_law_bad" "_law_bad" (defArgs s_f_law_bad) (defBody s_f_law_bad) (defScope s_f_law_bad) .none kV_f_law_bad dc_f_law_bad pm_f_law_bad an_f_law_bad cd_f_law_bad ct_f_law_bad | .f_law_changed => PySem.W.fnOf "_law_changed" "_law_changed" (defArgs s_f_law_changed) (defBody s_f_law_changed) (defScope s_f_law_changed) .none kV_f_law_changed dc_f_law_changed pm_f_law_changed an_f_law_changed cd_f_law_changed ct_f_law_changed | .law => PySem.W.fnOf "law" "law" (defArgs s_law) (defBody s_law) (defScope s_law) .none kV_law dc_law pm_law an_law cd_law ct_law
  have T : Tx w K mg ad fd a_TWO a_DICE t_DEEPEST t_MOST_DICE a_SIGNS a_CALLS a_SUMS t_FIGURES t_MOST_DEEP A_NoFaces A_NoNote A_NoText A_NoWorth A_Reader A_ThrowError := {
    f := fun f => by
      cases f
      · exact F_Reader_init
      · exact F_is_whole
      · exact F_is_last
      · exact F_is_dice
      · exact F_is_saying_in
      · exact F_dice_in
      · exact F_is_saying
      · exact F_in_brackets
      · exact F_written
      · exact F_Reader_has
      · exact F_Reader_must
      · exact F_Reader_figure
      · exact F_Reader_call
      · exact F_Reader_part
      · exact F_Reader_saying
      · exact F_read
      · exact F_f_law_cell
      · exact F_f_law_mix
      · exact F_f_law_dice
      · exact F_f_law_many
      · exact F_f_law_saying
      · exact F_f_law_written
      · exact F_f_law_word
      · exact F_f_law_told
      · exact F_f_law_is_right
      · exact F_f_law_bad
      · exact F_f_law_changed
      · exact F_law
    m := fun f hm => by
      cases f
      · cases hm
      · exact PySem.W.mg_of X G a_f_is_whole
      · exact PySem.W.mg_of X G a_f_is_last
      · exact PySem.W.mg_of X G a_f_is_dice
      · exact PySem.W.mg_of X G a_f_is_saying_in
      · exact PySem.W.mg_of X G a_f_dice_in
      · exact PySem.W.mg_of X G a_f_is_saying
      · exact PySem.W.mg_of X G a_f_in_brackets
      · exact PySem.W.mg_of X G a_f_written
      · cases hm
      · cases hm
      · cases hm
      · cases hm
      · cases hm
      · cases hm
      · exact PySem.W.mg_of X G a_f_read
      · exact PySem.W.mg_of X G a_f_f_law_cell
      · exact PySem.W.mg_of X G a_f_f_law_mix
      · exact PySem.W.mg_of X G a_f_f_law_dice
      · exact PySem.W.mg_of X G a_f_f_law_many
      · exact PySem.W.mg_of X G a_f_f_law_saying
      · exact PySem.W.mg_of X G a_f_f_law_written
      · exact PySem.W.mg_of X G a_f_f_law_word
      · exact PySem.W.mg_of X G a_f_f_law_told
      · exact PySem.W.mg_of X G a_f_f_law_is_right
      · exact PySem.W.mg_of X G a_f_f_law_bad
      · exact PySem.W.mg_of X G a_f_f_law_changed
      · exact PySem.W.mg_of X G a_f_law
    k := fun f => by
      cases f
      · exact k_f_Reader_init
      · exact k_f_is_whole
      · exact k_f_is_last
      · exact k_f_is_dice
      · exact k_f_is_saying_in
      · exact k_f_dice_in
      · exact k_f_is_saying
      · exact k_f_in_brackets
      · exact k_f_written
      · exact k_f_Reader_has
      · exact k_f_Reader_must
      · exact k_f_Reader_figure
      · exact k_f_Reader_call
      · exact k_f_Reader_part
      · exact k_f_Reader_saying
      · exact k_f_read
      · exact k_f_f_law_cell
      · exact k_f_f_law_mix
      · exact k_f_f_law_dice
      · exact k_f_f_law_many
      · exact k_f_f_law_saying
      · exact k_f_f_law_written
      · exact k_f_f_law_word
      · exact k_f_f_law_told
      · exact k_f_f_law_is_right
      · exact k_f_f_law_bad
      · exact k_f_f_law_changed
      · exact k_f_law
    b := fun f => by
      cases f
      · exact b_Reader_init
      · exact b_is_whole
      · exact b_is_last
      · exact b_is_dice
      · exact b_is_saying_in
      · exact b_dice_in
      · exact b_is_saying
      · exact b_in_brackets
      · exact b_written
      · exact b_Reader_has
      · exact b_Reader_must
      · exact b_Reader_figure
      · exact b_Reader_call
      · exact b_Reader_part
      · exact b_Reader_saying
      · exact b_read
      · exact b_f_law_cell
      · exact b_f_law_mix
      · exact b_f_law_dice
      · exact b_f_law_many
      · exact b_f_law_saying
      · exact b_f_law_written
      · exact b_f_law_word
      · exact b_f_law_told
      · exact b_f_law_is_right
      · exact b_f_law_bad
      · exact b_f_law_changed
      · exact b_law
    g_NoFaces := PySem.W.mg_of X G g_NoFaces
    c_NoFaces := g_NoFaces
    g_NoNote := PySem.W.mg_of X G g_NoNote
    c_NoNote := g_NoNote
    g_NoText := PySem.W.mg_of X G g_NoText
    c_NoText := g_NoText
    g_NoWorth := PySem.W.mg_of X G g_NoWorth
    c_NoWorth := g_NoWorth
    g_Reader := PySem.W.mg_of X G g_Reader
    c_Reader := g_Reader
    g_ThrowError := PySem.W.mg_of X G g_ThrowError
    c_ThrowError := g_ThrowError
    C_Reader := ⟨pg_Reader, hd_Reader, po_Reader, sa_Reader⟩
    M_Reader := ⟨mk_Reader, a_f_Reader_init, i_f_Reader_init, kc_Reader⟩
    n_Reader_text := n_Reader_text
    n_Reader_place := n_Reader_place
    h_Reader_has := ⟨a_f_Reader_has, i_f_Reader_has, k_f_Reader_has⟩
    h_Reader_must := ⟨a_f_Reader_must, i_f_Reader_must, k_f_Reader_must⟩
    h_Reader_figure := ⟨a_f_Reader_figure, i_f_Reader_figure, k_f_Reader_figure⟩
    h_Reader_call := ⟨a_f_Reader_call, i_f_Reader_call, k_f_Reader_call⟩
    h_Reader_part := ⟨a_f_Reader_part, i_f_Reader_part, k_f_Reader_part⟩
    h_Reader_saying := ⟨a_f_Reader_saying, i_f_Reader_saying, k_f_Reader_saying⟩
    x_NoText := x_NoText
    k_NoText := k_NoText
    s_NoText := s_NoText
    y_NoText := y_NoText
    cat_ThrowError := fun c b cls hc hn => by
      unfold cat_ThrowError at hc
      by_cases h_NoText : c = "NoText"
      · rw [if_pos h_NoText] at hc
        subst h_NoText
        rw [g_NoText] at hn
        cases hn
        cases hc
        exact e_ThrowError_NoText
      rw [if_neg h_NoText] at hc
      cases hc
    cr_ThrowError := fun c hc => by
      unfold cat_ThrowError at hc
      by_cases h_NoText : c = "NoText"
      · subst h_NoText
        exact ⟨_, g_NoText⟩
      rw [if_neg h_NoText] at hc
      cases hc
    is_NoFaces := fun c b A hc hn => by
      unfold isi_NoFaces at hc
      by_cases h_NoText : c = "NoText"
      · rw [if_pos h_NoText] at hc
        subst h_NoText
        have hn' : PySem.W.nsIn K mainGlobals _ = _ := hn
        rw [g_NoText] at hn'
        cases hn'
        cases hc
        exact ⟨xi_NoFaces_NoText, ⟨xc_hg_NoText, xc_hk_NoText, xc_hs_NoText, xc_hd_NoText, xc_ha_NoText, xc_hn, xc_ht, xc_hm_NoText⟩⟩
      rw [if_neg h_NoText] at hc
      cases hc
    is_NoNote := fun c b A hc hn => by
      unfold isi_NoNote at hc
      by_cases h_NoText : c = "NoText"
      · rw [if_pos h_NoText] at hc
        subst h_NoText
        have hn' : PySem.W.nsIn K mainGlobals _ = _ := hn
        rw [g_NoText] at hn'
        cases hn'
        cases hc
        exact ⟨xi_NoNote_NoText, ⟨xc_hg_NoText, xc_hk_NoText, xc_hs_NoText, xc_hd_NoText, xc_ha_NoText, xc_hn, xc_ht, xc_hm_NoText⟩⟩
      rw [if_neg h_NoText] at hc
      cases hc
    is_NoText := fun c b A hc hn => by
      unfold isi_NoText at hc
      by_cases h_NoText : c = "NoText"
      · rw [if_pos h_NoText] at hc
        subst h_NoText
        have hn' : PySem.W.nsIn K mainGlobals _ = _ := hn
        rw [g_NoText] at hn'
        cases hn'
        cases hc
        exact ⟨xi_NoText_NoText, ⟨xc_hg_NoText, xc_hk_NoText, xc_hs_NoText, xc_hd_NoText, xc_ha_NoText, xc_hn, xc_ht, xc_hm_NoText⟩⟩
      rw [if_neg h_NoText] at hc
      cases hc
    is_NoWorth := fun c b A hc hn => by
      unfold isi_NoWorth at hc
      by_cases h_NoText : c = "NoText"
      · rw [if_pos h_NoText] at hc
        subst h_NoText
        have hn' : PySem.W.nsIn K mainGlobals _ = _ := hn
        rw [g_NoText] at hn'
        cases hn'
        cases hc
        exact ⟨xi_NoWorth_NoText, ⟨xc_hg_NoText, xc_hk_NoText, xc_hs_NoText, xc_hd_NoText, xc_ha_NoText, xc_hn, xc_ht, xc_hm_NoText⟩⟩
      rw [if_neg h_NoText] at hc
      cases hc
    is_ValueError := fun c b A hc hn => by
      unfold isi_ValueError at hc
      by_cases h_NoText : c = "NoText"
      · rw [if_pos h_NoText] at hc
        subst h_NoText
        have hn' : PySem.W.nsIn K mainGlobals _ = _ := hn
        rw [g_NoText] at hn'
        cases hn'
        cases hc
        exact ⟨xi_ValueError_NoText, ⟨xc_hg_NoText, xc_hk_NoText, xc_hs_NoText, xc_hd_NoText, xc_ha_NoText, xc_hn, xc_ht, xc_hm_NoText⟩⟩
      rw [if_neg h_NoText] at hc
      cases hc
    b_ValueError := PySem.W.mg_none_of X G z_ValueError
    b_all := PySem.W.mg_none_of X G z_all
    b_any := PySem.W.mg_none_of X G z_any
    b_bool := PySem.W.mg_none_of X G z_bool
    b_int := PySem.W.mg_none_of X G z_int
    b_isinstance := PySem.W.mg_none_of X G z_isinstance
    b_len := PySem.W.mg_none_of X G z_len
    b_min := PySem.W.mg_none_of X G z_min
    b_range := PySem.W.mg_none_of X G z_range
    b_str := PySem.W.mg_none_of X G z_str
    b_sum := PySem.W.mg_none_of X G z_sum
    b_tuple := PySem.W.mg_none_of X G z_tuple
    g_TWO := PySem.W.mg_of X G g_TWO
    r_TWO := fun H mu => .tup (vs := [.str "plus", .str "less", .str "most", .str "least", .str "beats"]) (.inr ⟨⟨"plus", by simp⟩, _, _, _, l_TWO, rfl, rfl, by show 5 ≤ sizeLine; decide, (.cons ⟨_, rfl⟩ (.cons ⟨_, rfl⟩ (.cons ⟨_, rfl⟩ (.cons ⟨_, rfl⟩ (.cons ⟨_, rfl⟩ .nil)))))⟩) (.cons (.str _) (.cons (.str _) (.cons (.str _) (.cons (.str _) (.cons (.str _) .nil)))))
    g_DICE := PySem.W.mg_of X G g_DICE
    r_DICE := fun H mu => .tup (vs := [.str "dice", .str "high", .str "low", .str "again", .str "burst", .str "count"]) (.inr ⟨⟨"dice", by simp⟩, _, _, _, l_DICE, rfl, rfl, by show 6 ≤ sizeLine; decide, (.cons ⟨_, rfl⟩ (.cons ⟨_, rfl⟩ (.cons ⟨_, rfl⟩ (.cons ⟨_, rfl⟩ (.cons ⟨_, rfl⟩ (.cons ⟨_, rfl⟩ .nil))))))⟩) (.cons (.str _) (.cons (.str _) (.cons (.str _) (.cons (.str _) (.cons (.str _) (.cons (.str _) .nil))))))
    g_DEEPEST := PySem.W.mg_of X G g_DEEPEST
    g_MOST_DICE := PySem.W.mg_of X G g_MOST_DICE
    g_SIGNS := PySem.W.mg_of X G g_SIGNS
    t_SIGNS := ⟨y_SIGNS, _, _, l_SIGNS, ⟨⟨_, _, rfl⟩, ⟨⟨_, _, rfl⟩, ⟨⟨_, _, rfl⟩, ⟨⟨_, _, rfl⟩, ⟨⟨_, _, rfl⟩, trivial⟩⟩⟩⟩⟩⟩
    g_CALLS := PySem.W.mg_of X G g_CALLS
    t_CALLS := ⟨y_CALLS, _, _, l_CALLS, ⟨⟨_, _, rfl⟩, ⟨⟨_, _, rfl⟩, ⟨⟨_, _, rfl⟩, trivial⟩⟩⟩⟩
    g_SUMS := PySem.W.mg_of X G g_SUMS
    t_SUMS := ⟨y_SUMS, _, _, l_SUMS, ⟨⟨_, _, rfl⟩, ⟨⟨_, _, rfl⟩, trivial⟩⟩⟩
    g_FIGURES := PySem.W.mg_of X G g_FIGURES
    g_MOST_DEEP := PySem.W.mg_of X G g_MOST_DEEP
  }
  exact ⟨_, fun s v => .of_eq rfl, fun base _ _ => all_ok T lv .law⟩
end L13

/-! Equations of the readings' combinators, for simp. -/
namespace Ml
open PySem L2
theorem ofString_inj {a b : String} : Str.ofString a = Str.ofString b ↔ a = b := by
  constructor
  · intro h
    rw [Str.ofString_eq_toList, Str.ofString_eq_toList] at h
    have h1 : (a.toList.map Char.toNat).toArray = (b.toList.map Char.toNat).toArray := by injection h
    have h2 : a.toList.map Char.toNat = b.toList.map Char.toNat := by simpa using congrArg Array.toList h1
    have h3 : a.toList = b.toList := by
      have inj : ∀ {x y : Char}, x.toNat = y.toNat → x = y := fun {x y} h => Char.ext (UInt32.toNat_inj.mp h)
      exact (List.map_inj_right (fun x y h => inj h)).mp h2
    exact String.toList_inj.mp h3
  · rintro rfl; rfl
@[simp] theorem ofString_eq_iff {a b : String} : (Str.ofString a = Str.ofString b) = (a = b) := propext ofString_inj
@[simp] theorem ofString_beq {a b : String} : (Str.ofString a == Str.ofString b) = (a == b) := by
  rw [Bool.eq_iff_iff]; simp
variable {ev : Ev} {st : Sto} {ma mb mc : Mo D} {mr : Mo (List D)} {ta tb : Mo Bool} {s1 s2 : Ms}
@[simp] theorem e_C (d : D) : mC d ev st = .ok d st := rfl
@[simp] theorem e_Var (i : Nat) : mVar i ev st = match ev[i]? with | some (some d) => .ok d st | _ => .bad := rfl
@[simp] theorem e_Nil : mNil ev st = .ok [] st := rfl
@[simp] theorem e_Cons : mCons ma mr ev st = (ma ev st).bind fun d st1 => (mr ev st1).bind fun ds st2 => .ok (d :: ds) st2 := rfl
@[simp] theorem e_Tup : mTup mr ev st = (mr ev st).bind fun ds st1 => if ds.length ≤ lim then .ok (.tup ds) st1 else .bad := rfl
@[simp] theorem e_Disp : mDisp mr ev st = (mr ev st).bind fun ds st1 => if ds.length ≤ lim then .ok ds st1 else .bad := rfl
@[simp] theorem e_Keep : mKeep mr ev st = (mr ev st).bind fun ds st1 => .ok (.ref st1.length) (st1 ++ [.lst ds]) := rfl
@[simp] theorem e_Op (g : G2) : mOp g ma mb ev st = (ma ev st).bind fun a st1 => (mb ev st1).bind fun b st2 => Rs.of (g a b st2) := rfl
@[simp] theorem e_Un (g : G1) : mUn g ma ev st = (ma ev st).bind fun a st1 => Rs.of (g a st1) := rfl
@[simp] theorem e_CB (g : GA) : mCB g mr ev st = (mr ev st).bind fun ds st1 => Rs.of (g ds st1) := rfl
@[simp] theorem e_of_some {α : Type} (d : α) (st : Sto) : Rs.of (some (d, st)) = .ok d st := rfl
@[simp] theorem e_of_none {α : Type} : Rs.of (none : Option (α × Sto)) = .bad := rfl
@[simp] theorem e_addI (i j : Int) : gAdd (.int i) (.int j) st = some (.int (i + j), st) := rfl
@[simp] theorem e_addS (x y : Str) : gAdd (.str x) (.str y) st = if x.length + y.length ≤ lim then some (.str (x ++ y), st) else none := by
  simp [gAdd, gI, gAddS, gCatT]; split <;> simp_all
@[simp] theorem e_addT (xs ys : List D) : gAdd (.tup xs) (.tup ys) st = if xs.length + ys.length ≤ lim then some (.tup (xs ++ ys), st) else none := by
  simp [gAdd, gI, gAddS, gCatT]
@[simp] theorem e_sub (i j : Int) : gSub (.int i) (.int j) st = some (.int (i - j), st) := rfl
@[simp] theorem e_mul (i j : Int) : gMul (.int i) (.int j) st = if (small64 i || small64 j || (w250 i && w250 j)) = true then some (.int (i * j), st) else none := rfl
@[simp] theorem e_mod (i j : Int) : gMod (.int i) (.int j) st = if 0 < j then some (.int (i % j), st) else none := by simp [gMod, gIc]
@[simp] theorem e_div (i j : Int) : gDiv (.int i) (.int j) st = if 0 < j ∧ j.natAbs < 2 ^ 200 then some (.int (i / j), st) else none := by simp [gDiv, gIc]
@[simp] theorem e_neg (i : Int) : gNeg (.int i) st = some (.int (-i), st) := rfl
@[simp] theorem e_lt (i j : Int) : gLt (.int i) (.int j) st = some (.bl (decide (i < j)), st) := rfl
@[simp] theorem e_le (i j : Int) : gLe (.int i) (.int j) st = some (.bl (decide (i ≤ j)), st) := rfl
@[simp] theorem e_gt (i j : Int) : gGt (.int i) (.int j) st = some (.bl (decide (j < i)), st) := rfl
@[simp] theorem e_ge (i j : Int) : gGe (.int i) (.int j) st = some (.bl (decide (j ≤ i)), st) := rfl
@[simp] theorem e_eqS (x y : Str) : gEq (.str x) (.str y) st = some (.bl (x == y), st) := rfl
@[simp] theorem e_eqI (x y : Int) : gEq (.int x) (.int y) st = some (.bl (x == y), st) := rfl
@[simp] theorem e_eqB (x y : Bool) : gEq (.bl x) (.bl y) st = some (.bl (x == y), st) := rfl
@[simp] theorem e_neS (x y : Str) : gNe (.str x) (.str y) st = some (.bl (!(x == y)), st) := rfl
@[simp] theorem e_neI (x y : Int) : gNe (.int x) (.int y) st = some (.bl (!(x == y)), st) := rfl
@[simp] theorem e_isN (d : D) : gIsN d .non st = some (.bl (match d with | .non => true | _ => false), st) := rfl
@[simp] theorem e_isB (x y : Bool) : gIsN (.bl x) (.bl y) st = some (.bl (decide (x = y)), st) := rfl
@[simp] theorem e_notN (d : D) : gNotN d .non st = some (.bl (match d with | .non => false | _ => true), st) := rfl
@[simp] theorem e_notB (x y : Bool) : gNotN (.bl x) (.bl y) st = some (.bl (!decide (x = y)), st) := rfl
@[simp] theorem e_in (a : D) (ds : List D) (neg : Bool) : gIn neg a (.tup ds) st = if flatD a && ds.all flatD then some (.bl (if neg then !inD a ds else inD a ds), st) else none := rfl
@[simp] theorem e_flatS (x : Str) : flatD (.str x) = true := rfl
@[simp] theorem e_flatI (x : Int) : flatD (.int x) = true := rfl
@[simp] theorem e_inNil (a : D) : inD a [] = false := rfl
@[simp] theorem e_inS (x y : Str) (ds : List D) : inD (.str x) (.str y :: ds) = ((y == x) || inD (.str x) ds) := by
  unfold inD eqD
  rw [List.any_cons]
  congr 1
@[simp] theorem e_Test (m : Mo D) : mTest m ev st = (m ev st).bind fun d st1 => match d with | .bl b => .ok b st1 | _ => .bad := rfl
@[simp] theorem e_Tru (m : Mo D) : mTru m ev st = (m ev st).bind fun d st1 => match truD st1 d with | some b => .ok b st1 | none => .bad := rfl
@[simp] theorem e_truB (b : Bool) : truD st (.bl b) = some b := rfl
@[simp] theorem e_truI (b : Int) : truD st (.int b) = some (b != 0) := rfl
@[simp] theorem e_TAnd : mTAnd ta tb ev st = (ta ev st).bind fun b st1 => if b = true then tb ev st1 else .ok false st1 := rfl
@[simp] theorem e_TOr : mTOr ta tb ev st = (ta ev st).bind fun b st1 => if b = true then .ok true st1 else tb ev st1 := rfl
@[simp] theorem e_TNot : mTNot ta ev st = (ta ev st).bind fun b st1 => .ok (!b) st1 := rfl
@[simp] theorem e_And : mAnd ma mb ev st = (ma ev st).bind fun d st1 => match d with | .bl true => mb ev st1 | .bl false => .ok (.bl false) st1 | _ => .bad := rfl
@[simp] theorem e_Or : mOr ma mb ev st = (ma ev st).bind fun d st1 => match d with | .bl true => .ok (.bl true) st1 | .bl false => mb ev st1 | _ => .bad := rfl
@[simp] theorem e_Not : mNot ma ev st = (ma ev st).bind fun d st1 => match truD st1 d with | some b => .ok (.bl (!b)) st1 | none => .bad := rfl
@[simp] theorem e_If : mIf ta ma mb ev st = (ta ev st).bind fun b st1 => if b = true then ma ev st1 else mb ev st1 := rfl
@[simp] theorem e_Chain (g g' : G2) : mChain g g' ma mb mc ev st = (ma ev st).bind fun x st1 => (mb ev st1).bind fun y st2 => (Rs.of (g x y st2)).bind fun z st3 => match z with | .bl true => (mc ev st3).bind fun w st4 => Rs.of (g' y w st4) | .bl false => .ok (.bl false) st3 | _ => .bad := rfl
@[simp] theorem e_ixT (ds : List D) (i : Int) : gIx (.tup ds) (.int i) st = match L2.atI ds i with | some d => some (d, st) | none => none := rfl
@[simp] theorem e_ixR (ds : List D) (i : Int) : gIx (.ro ds) (.int i) st = match L2.atI ds i with | some d => some (d, st) | none => none := rfl
theorem e_ixL {i : Nat} {ds : List D} {k : Int} (h : st[i]? = some (.lst ds)) : gIx (.ref i) (.int k) st = match L2.atI ds k with | some d => some (d, st) | none => none := by
  simp only [gIx, seqOf, h]
  all_goals rfl
@[simp] theorem at_0 {α : Type} (x : α) (xs : List α) : L2.atI (x :: xs) 0 = some x := by simp [L2.atI, ixN]
@[simp] theorem at_1 {α : Type} (x y : α) (xs : List α) : L2.atI (x :: y :: xs) 1 = some y := by
  have h : (1 : Int) < ((x :: y :: xs).length : Nat) := by simp; omega
  simp only [L2.atI, ixN]
  rw [if_pos (by decide), if_pos h]; rfl
@[simp] theorem at_2 {α : Type} (x y z : α) (xs : List α) : L2.atI (x :: y :: z :: xs) 2 = some z := by
  have h : (2 : Int) < ((x :: y :: z :: xs).length : Nat) := by simp; omega
  simp only [L2.atI, ixN]
  rw [if_pos (by decide), if_pos h]; rfl
@[simp] theorem at_3 {α : Type} (x y z w : α) (xs : List α) : L2.atI (x :: y :: z :: w :: xs) 3 = some w := by
  have h : (3 : Int) < ((x :: y :: z :: w :: xs).length : Nat) := by simp; omega
  simp only [L2.atI, ixN]
  rw [if_pos (by decide), if_pos h]; rfl
@[simp] theorem e_NoPart : mNoPart ev st = .ok none st := rfl
@[simp] theorem e_Part : mPart ma ev st = (ma ev st).bind fun d st1 => match d with | .int i => .ok (some i) st1 | _ => .bad := rfl
@[simp] theorem e_slT (ds : List D) (lo hi : Option Int) : gSl (.tup ds) lo hi = some (.tup (cutD ds lo hi)) := rfl
@[simp] theorem e_Sl (ml mh : MoO) : mSl ma ml mh ev st = (ma ev st).bind fun d st1 => (ml ev st1).bind fun lo st2 => (mh ev st2).bind fun hi st3 => match gSl d lo hi with | some d' => .ok d' st3 | none => .bad := rfl
@[simp] theorem e_lenT (ds : List D) : gLen [.tup ds] st = some (.int ds.length, st) := rfl
@[simp] theorem e_lenR (ds : List D) : gLen [.ro ds] st = some (.int ds.length, st) := rfl
@[simp] theorem e_intI (i : Int) : gInt [.int i] st = some (.int i, st) := rfl
@[simp] theorem e_intB (b : Bool) : gInt [.bl b] st = some (.int (if b then 1 else 0), st) := rfl
@[simp] theorem e_abs (i : Int) : gAbs [.int i] st = some (.int (if i < 0 then -i else i), st) := rfl
@[simp] theorem e_max (i j : Int) : gMax [.int i, .int j] st = some (.int (if j > i then j else i), st) := rfl
@[simp] theorem e_min (i j : Int) : gMin [.int i, .int j] st = some (.int (if j < i then j else i), st) := rfl
@[simp] theorem e_str (i : Int) : gStr [.int i] st = if i.natAbs < 1000000 then some (.str (toString i), st) else none := rfl
@[simp] theorem e_Isi (c : String) : mIsi c ma ev st = (ma ev st).bind fun d st1 => match tyD st1 d with | some t => .ok (.bl (isiB t c)) st1 | none => .bad := rfl
@[simp] theorem e_Isi2 (c c' : String) : mIsi2 c c' ma ev st = (ma ev st).bind fun d st1 => match tyD st1 d with | some t => .ok (.bl (isiB t c || isiB t c')) st1 | none => .bad := rfl
@[simp] theorem ty_non : tyD st .non = some "NoneType" := rfl
@[simp] theorem ty_bl (b : Bool) : tyD st (.bl b) = some "bool" := rfl
@[simp] theorem ty_int (i : Int) : tyD st (.int i) = some "int" := rfl
@[simp] theorem ty_str (x : Str) : tyD st (.str x) = some "str" := rfl
@[simp] theorem ty_tup (ds : List D) : tyD st (.tup ds) = some "tuple" := rfl
@[simp] theorem isi_eq (a : String) : isiB a a = true := by simp [isiB]
@[simp] theorem isi_1 : isiB "tuple" "bool" = false := by decide
@[simp] theorem isi_2 : isiB "int" "tuple" = false := by decide
@[simp] theorem isi_3 : isiB "int" "bool" = false := by decide
@[simp] theorem isi_4 : isiB "int" "str" = false := by decide
@[simp] theorem isi_5 : isiB "str" "tuple" = false := by decide
@[simp] theorem isi_6 : isiB "str" "bool" = false := by decide
@[simp] theorem isi_7 : isiB "str" "int" = false := by decide
@[simp] theorem isi_8 : isiB "bool" "int" = true := by decide
@[simp] theorem isi_9 : isiB "bool" "tuple" = false := by decide
@[simp] theorem isi_10 : isiB "NoneType" "tuple" = false := by decide
@[simp] theorem isi_11 : isiB "NoneType" "int" = false := by decide
@[simp] theorem isi_12 : isiB "tuple" "int" = false := by decide
@[simp] theorem isi_13 : isiB "tuple" "str" = false := by decide
@[simp] theorem isi_14 : isiB "bool" "str" = false := by decide
@[simp] theorem isi_15 : isiB "NoneType" "bool" = false := by decide
@[simp] theorem isi_16 : isiB "NoneType" "str" = false := by decide
@[simp] theorem e_Q {α : Type} (g : List D → Option α) : mQ g mr ev st = (mr ev st).bind fun ds st1 => match g ds with | some d => .ok d st1 | none => .bad := rfl
@[simp] theorem e_sumN : gSum [] = some (.int 0) := rfl
@[simp] theorem e_tupOf (ds : List D) : gTupOf ds = some (.tup ds) := rfl
@[simp] theorem e_sorted (ns : List Int) : gSorted (ns.map D.int) = some ((sortI ns).map D.int) := by
  have h : ∀ ns : List Int, intsOf (ns.map D.int) = some ns := fun ns => by
    induction ns with
    | nil => rfl
    | cons n ns ih => simp [intsOf, ih]
  simp [gSorted, h]
theorem intsOf_map (ns : List Int) : intsOf (ns.map D.int) = some ns := by
  induction ns with
  | nil => rfl
  | cons n ns ih => simp [intsOf, ih]
theorem blsOf_map (ns : List Bool) : blsOf (ns.map D.bl) = some ns := by
  induction ns with
  | nil => rfl
  | cons n ns ih => simp [blsOf, ih]
@[simp] theorem e_sum (ns : List Int) : gSum (ns.map D.int) = some (.int ns.sum) := by simp [gSum, intsOf_map]
@[simp] theorem e_sum1 (a : Int) : gSum [.int a] = some (.int a) := by simp [gSum, intsOf]
@[simp] theorem e_sum2 (a b : Int) : gSum [.int a, .int b] = some (.int (a + b)) := by simp [gSum, intsOf]
@[simp] theorem e_sort2 (a b : Int) : gSorted [.int a, .int b] = some (if a ≤ b then [.int a, .int b] else [.int b, .int a]) := by
  simp only [gSorted, intsOf, Option.map_some, sortI, insI]
  split <;> rfl
@[simp] theorem e_all (ns : List Bool) : gAll (ns.map D.bl) = some (.bl (ns.all id)) := by simp [gAll, blsOf_map]
@[simp] theorem e_Skip : mSkip ev st = .ok (.nx, ev) st := rfl
@[simp] theorem e_Seq : mSeq s1 s2 ev st = match s1 ev st with | .ok (.nx, ev1) st1 => s2 ev1 st1 | r => r := rfl
@[simp] theorem e_Ret : mRet ma ev st = (ma ev st).bind fun d st1 => .ok (.rt d, ev) st1 := rfl
@[simp] theorem e_Set (i : Nat) : mSet i ma ev st = (ma ev st).bind fun d st1 => .ok (.nx, ev.set i (some d)) st1 := rfl
@[simp] theorem e_IfS : mIfS ta s1 s2 ev st = (ta ev st).bind fun b st1 => if b = true then s1 ev st1 else s2 ev st1 := rfl
@[simp] theorem e_Drop : mDrop ma ev st = (ma ev st).bind fun _ st1 => .ok (.nx, ev) st1 := rfl
@[simp] theorem e_gtName (i : Nat) (d : D) : gtName i d ev = some (ev.set i (some d)) := rfl
@[simp] theorem e_gtsNil : gtsNil [] ev = some ev := rfl
@[simp] theorem e_gtsCons (g : Gt) (gs : Gts) (d : D) (ds : List D) : gtsCons g gs (d :: ds) ev = (g d ev).bind (gs ds) := rfl
@[simp] theorem e_gtTup (n : Nat) (gs : Gts) (ds : List D) : gtTup n gs (.tup ds) ev = if ds.length = n then gs ds ev else none := rfl
@[simp] theorem e_Asg (g : Gt) : mAsg ma g ev st = (ma ev st).bind fun d st1 => match g d ev with | some ev' => .ok (.nx, ev') st1 | none => .bad := rfl
@[simp] theorem e_Par (i j : Nat) : mPar i j mr ev st = (mr ev st).bind fun ds st1 => match ds with | [x, y] => .ok (.nx, (ev.set i (some x)).set j (some y)) st1 | _ => .bad := rfl
@[simp] theorem e_For (mi : Mo (List D)) (g : Gt) (b : Ms) : mFor mi g b ev st = (mi ev st).bind fun it st1 => loop g b it ev st1 := rfl
@[simp] theorem e_ItT : mItT ma ev st = (ma ev st).bind fun d st1 => match d with | .tup ds => if ds.length ≤ lim then .ok ds st1 else .bad | _ => .bad := rfl
@[simp] theorem e_ItR : mItR mr ev st = (mr ev st).bind fun ds st1 => match ds with | [.int j] => if j.toNat ≤ lim ∧ -1000000000 ≤ j then .ok (rngD 0 j.toNat) st1 else .bad | _ => .bad := rfl
@[simp] theorem e_ItR2 : mItR2 mr ev st = (mr ev st).bind fun ds st1 => match ds with | [.int i, .int j] => if (j - i).toNat ≤ lim ∧ -1000000000 ≤ i ∧ i ≤ 1000000000 ∧ -1000000000 ≤ j ∧ j ≤ 1000000000 then .ok (rngD i (j - i).toNat) st1 else .bad | _ => .bad := rfl
@[simp] theorem e_Lc (vs : List Nat) (mi : Mo (List D)) (g : Gt) (t : Mo Bool) (m : Mo D) : mLc vs mi g t m ev st = (mi ev st).bind fun it st1 => lcLoop g t m it (wipeD ev vs) st1 := rfl
@[simp] theorem e_lcN (g : Gt) (t : Mo Bool) (m : Mo D) : lcLoop g t m [] ev st = .ok [] st := rfl
@[simp] theorem e_lcC (g : Gt) (t : Mo Bool) (m : Mo D) (d : D) (ds : List D) : lcLoop g t m (d :: ds) ev st = match g d ev with
    | none => .bad
    | some ev1 => match t ev1 st with
      | .ok true st1 => (match m ev1 st1 with
        | .ok y st2 => (match lcLoop g t m ds ev st2 with
          | .ok ys st3 => .ok (y :: ys) st3
          | _ => .bad)
        | _ => .bad)
      | .ok false st1 => lcLoop g t m ds ev st1
      | _ => .bad := rfl
@[simp] theorem e_wN : wipeD ev [] = ev := rfl
@[simp] theorem e_wC (v : Nat) (vs : List Nat) : wipeD ev (v :: vs) = (wipeD ev vs).set v none := rfl
@[simp] theorem e_Yes : mYes ev st = .ok true st := rfl
@[simp] theorem e_Zip : mZip mr ev st = (mr ev st).bind fun ds st1 => match ds with | [.tup xs, .tup ys] => if (zipD xs ys).length ≤ lim then .ok (zipD xs ys) st1 else .bad | _ => .bad := rfl
@[simp] theorem e_Call (c : Fm) : mCall c mr ev st = (mr ev st).bind fun ds st1 => match c ds st1 with | .ok d st2 => .ok d st2 | _ => .bad := rfl
@[simp] theorem e_GetN (md : Mo (List (Key × D))) (mk mx : Mo D) : mGetN md mk mx ev st = (md ev st).bind fun kvs st1 => (mk ev st1).bind fun k st2 => (mx ev st2).bind fun x st3 => match keyOf k with | some kk => .ok ((valD kvs kk).getD x) st3 | none => .bad := rfl
@[simp] theorem e_DictD (ps : List (Mo D × Mo D)) : mDictD ps ev st = (mPairs ps ev st).bind fun kvs st1 => if kvs.length ≤ 15 then .ok (mergeD [] kvs) st1 else .bad := rfl
@[simp] theorem e_PairsN : mPairs [] ev st = .ok [] st := rfl
@[simp] theorem e_PairsC (mk mv : Mo D) (r : List (Mo D × Mo D)) : mPairs ((mk, mv) :: r) ev st = (mk ev st).bind fun k st1 => (mv ev st1).bind fun v st2 => match keyOf k with | some kk => (mPairs r ev st2).bind fun ps st3 => .ok ((kk, v) :: ps) st3 | none => .bad := rfl
@[simp] theorem e_keyI (i : Int) : keyOf (.int i) = some (.inl i) := rfl
@[simp] theorem e_keyS (x : Str) : keyOf (.str x) = some (.inr x) := rfl
theorem lim_10 {n : Nat} (h : n ≤ 1000) : n ≤ lim := Nat.le_trans h (by decide)
@[simp] theorem lim0 : 0 ≤ lim := Nat.zero_le _
@[simp] theorem lim1 : 1 ≤ lim := by decide
@[simp] theorem lim2 : 2 ≤ lim := by decide
@[simp] theorem lim3 : 3 ≤ lim := by decide
@[simp] theorem lim4 : 4 ≤ lim := by decide
@[simp] theorem lim5 : 5 ≤ lim := by decide
@[simp] theorem lim6 : 6 ≤ lim := by decide
theorem small_of {i : Int} (h : -1000000 ≤ i) (h' : i ≤ 1000000) : small64 i = true := decide_eq_true (by omega)
/-! ### loops -/
theorem loop_inv {g : Gt} {body : Ms} {I : Ev → Prop} : ∀ {ds : List D}, (∀ d ∈ ds, ∀ ev st, I ev → ∃ ev1 ev2 st2, g d ev = some ev1 ∧ body ev1 st = .ok (.nx, ev2) st2 ∧ I ev2) → ∀ ev st, I ev → ∃ ev' st', loop g body ds ev st = .ok (.nx, ev') st' ∧ I ev'
  | [], _, ev, st, h => ⟨ev, st, rfl, h⟩
  | d :: ds, hs, ev, st, h => by
    obtain ⟨ev1, ev2, st2, h1, h2, h3⟩ := hs d List.mem_cons_self ev st h
    obtain ⟨ev', st', h4, h5⟩ := loop_inv (fun d hd => hs d (List.mem_cons_of_mem _ hd)) ev2 st2 h3
    refine ⟨ev', st', ?_, h5⟩
    simp only [loop, h1, h2, h4]
end Ml

/-! Equations of more combinators: lists and dicts of the store. -/
namespace Ml
open PySem L2
variable {ev : Ev} {st : Sto} {ma mb mc mk mv mx : Mo D} {mr : Mo (List D)} {ta tb : Mo Bool} {s1 s2 : Ms} {xa xb : Mo Lo}
@[simp] theorem e_LoR : mLoR ma ev st = (ma ev st).bind fun d st1 => .ok (.r d) st1 := rfl
@[simp] theorem e_LoN : mLoN mr ev st = (mr ev st).bind fun d st1 => .ok (.n d) st1 := rfl
@[simp] theorem e_loN (ds : List D) : loAt st (.n ds) = some ds := rfl
@[simp] theorem e_loR (i : Nat) : loAt st (.r (.ref i)) = match st[i]? with | some (.lst ds) => some ds | _ => none := rfl
@[simp] theorem e_Cat : mCat xa xb ev st = (xa ev st).bind fun u st1 => (xb ev st1).bind fun v st2 => match loAt st2 u, loAt st2 v with
  | some ds, some es => if ds.length + es.length ≤ lim then .ok (ds ++ es) st2 else .bad
  | _, _ => .bad := rfl
@[simp] theorem e_Rep : mRep xa mb ev st = (xa ev st).bind fun u st1 => (mb ev st1).bind fun v st2 => match loAt st2 u, v with
  | some ds, .int k => if -(2 ^ 63) ≤ k ∧ k < 2 ^ 63 ∧ ds.length * k.toNat ≤ lim then .ok (List.replicate k.toNat ds).flatten st2 else .bad
  | _, _ => .bad := rfl
@[simp] theorem e_CmpL (f : Bool → Bool) : mCmpL f xa xb ev st = (xa ev st).bind fun u st1 => (xb ev st1).bind fun v st2 => match loAt st2 u, loAt st2 v with
  | some ds, some es => if doks 59 ds && doks 59 es then .ok (.bl (f (leq ds es))) st2 else .bad
  | _, _ => .bad := rfl
@[simp] theorem e_TupOf : mTupOf ma ev st = (ma ev st).bind fun d st1 => match d with
  | .tup ds => .ok ds st1
  | _ => .bad := rfl
@[simp] theorem e_RevT : mRevT ma ev st = (ma ev st).bind fun d st1 => match d with
  | .tup ds => .ok (.tup ds.reverse) st1
  | _ => .bad := rfl
@[simp] theorem e_Upper : mUpper ma ev st = (ma ev st).bind fun d st1 => match d with
  | .str x => if x.length ≤ lim then .ok (.str (Txt.upper x)) st1 else .bad
  | _ => .bad := rfl
@[simp] theorem e_mulS (x : Str) (n : Int) : gMulS (.str x) (.int n) st = if mul2Ok x n then some (.str (Txt.mul x n), st) else none := rfl
@[simp] theorem e_slS (x : Str) (lo hi : Option Int) : gSl (.str x) lo hi = if x.length ≤ lim then some (.str (cutS x lo hi)) else none := rfl
@[simp] theorem e_Frz : mFrz ma ev st = (ma ev st).bind fun d st1 => match d with
  | .ref n => (match st1[n]? with
    | some ob => (match lockO ob with
      | some ob' => .ok (.ref n) (st1.set n ob')
      | none => .bad)
    | none => .bad)
  | _ => .bad := rfl
@[simp] theorem e_lockL (ds : List D) : lockO (.lst ds) = some (.ro ds) := rfl
@[simp] theorem e_ItN : mItN mr ev st = (mr ev st).bind fun ds st1 => if ds.length ≤ lim then .ok ds st1 else .bad := rfl
@[simp] theorem st_at0 (st l : Sto) : (st ++ l)[st.length]? = l[0]? := by
  rw [List.getElem?_append_right (Nat.le_refl _), Nat.sub_self]
@[simp] theorem st_atk (st l : Sto) (k : Nat) : (st ++ l)[st.length + k]? = l[k]? := by
  rw [List.getElem?_append_right (Nat.le_add_right _ _), Nat.add_sub_cancel_left]
@[simp] theorem e_ItK (k : Kd) : mItK k ma ev st = (ma ev st).bind fun d st1 => match d with
  | .ref j => (match st1[j]? with
    | some ob => (match itemsK k ob with
      | some ds => .ok ds st1
      | none => .bad)
    | none => .bad)
  | _ => .bad := rfl
@[simp] theorem e_KeepD (m : Mo (List (Key × D))) : mKeepD m ev st = (m ev st).bind fun ds st1 => .ok (.ref st1.length) (st1 ++ [.dK false ds]) := rfl
@[simp] theorem e_KeepT (m : Mo (List (List Key × D))) : mKeepT m ev st = (m ev st).bind fun ds st1 => .ok (.ref st1.length) (st1 ++ [.dT false ds]) := rfl
@[simp] theorem e_DNew {κ : Type} : (mDNew : Mo (List (κ × D))) ev st = .ok [] st := rfl
@[simp] theorem e_DAt : mDAt ma mk ev st = (ma ev st).bind fun d st1 => (mk ev st1).bind fun k st2 => match getD1 st2 d k with
  | some (some v) => .ok v st2
  | _ => .bad := rfl
@[simp] theorem e_DGet : mDGet ma mk mx ev st = (ma ev st).bind fun d st1 => if isDct st1 d = true then (mk ev st1).bind fun k st2 => (mx ev st2).bind fun x st3 => match getD1 st3 d k with
  | some r => .ok (r.getD x) st3
  | none => .bad else .bad := rfl
@[simp] theorem e_DPut : mDPut ma mk mv ev st = (mv ev st).bind fun v st1 => (ma ev st1).bind fun d st2 => (mk ev st2).bind fun k st3 => if isDct st3 d = true then (match putD1 st3 d k v with
  | some st4 => .ok (.nx, ev) st4
  | none => .bad) else .bad := rfl
@[simp] theorem e_seqR (i : Nat) : seqOf st (.ref i) = match st[i]? with | some (.lst ds) => some ds | some (.ro ds) => some ds | _ => none := rfl
@[simp] theorem e_ixRef (i : Nat) (k : Int) : gIx (.ref i) (.int k) st = match seqOf st (.ref i) with
  | some ds => (match L2.atI ds k with | some d => some (d, st) | none => none)
  | none => none := rfl
@[simp] theorem e_lenRef (i : Nat) : gLen [.ref i] st = (seqOf st (.ref i)).map fun ds => (.int ds.length, st) := by
  cases h : seqOf st (.ref i) <;> simp only [gLen, lenD, h] <;> rfl
theorem cut_to {α : Type} (ds : List α) (j : Nat) : cutD ds none (some (j : Int)) = ds.take j := by
  unfold cutD
  simp only [HT.sIx]
  rw [if_neg (by omega)]
  simp only [Int.toNat_natCast, List.drop_zero, Nat.sub_zero]
  rcases Nat.le_total j ds.length with h | h
  · rw [Nat.min_eq_left h]
  · rw [Nat.min_eq_right h, List.take_length, List.take_of_length_le h]
theorem cut_from {α : Type} (ds : List α) (j : Nat) : cutD ds (some (j : Int)) none = ds.drop j := by
  unfold cutD
  simp only [HT.sIx]
  rw [if_neg (by omega)]
  simp only [Int.toNat_natCast]
  rcases Nat.le_total j ds.length with h | h
  · rw [Nat.min_eq_left h, List.take_of_length_le (by simp)]
  · rw [Nat.min_eq_right h]; simp [List.drop_eq_nil_of_le h]
theorem cut_sub {α : Type} (ds : List α) (lo hi : Option Int) : ∀ x ∈ cutD ds lo hi, x ∈ ds := fun x h => List.mem_of_mem_drop (List.mem_of_mem_take h)
theorem cut_len {α : Type} (ds : List α) (lo hi : Option Int) : (cutD ds lo hi).length ≤ ds.length := by
  unfold cutD
  rw [List.length_take, List.length_drop]
  omega
end Ml

/-! Equations of the combinators of own classes: fields, methods, raise, try. -/
namespace Ml
open PySem L2
variable {ev : Ev} {st : Sto} {ma mb mv : Mo D} {mr : Mo (List D)} {s1 s2 : Ms}
@[simp] theorem e_Fld (cn f : Str) : mFld cn f ma ev st = (ma ev st).bind fun d st1 => match insAt st1 cn d with
  | some (_, fs) => (match fs.lookup f with
    | some v => .ok v st1
    | none => .bad)
  | none => .bad := rfl
@[simp] theorem e_FldSet (cn f : Str) : mFldSet cn f ma mv ev st = (mv ev st).bind fun y st1 => (ma ev st1).bind fun d st2 => match insAt st2 cn d with
  | some (i, fs) => if fs.length < 1000 then .ok (.nx, ev) (st2.set i (.ins cn (putFD f y fs))) else .bad
  | none => .bad := rfl
@[simp] theorem e_Meth (cn m : Str) (c : Fm) : mMeth cn m c ma mr ev st = (ma ev st).bind fun d st1 => match insAt st1 cn d with
  | some (_, fs) => (match fs.lookup m with
    | none => (mr ev st1).bind fun ds st2 => (match c (d :: ds) st2 with
      | .ok d st3 => .ok d st3
      | _ => .bad)
    | some _ => .bad)
  | none => .bad := rfl
@[simp] theorem e_MethX (cn m : Str) (c : Fm) : mMethX cn m c ma mr ev st = (ma ev st).bind fun d st1 => match insAt st1 cn d with
  | some (_, fs) => (match fs.lookup m with
    | none => (mr ev st1).bind fun ds st2 => cCall c ev (d :: ds) st2
    | some _ => .bad)
  | none => .bad := rfl
@[simp] theorem e_CallX (c : Fm) : mCallX c mr ev st = (mr ev st).bind fun ds st1 => cCall c ev ds st1 := rfl
theorem cCall_ok {c : Fm} {ds : List D} {st' : Sto} {d : D} (h : c ds st = .ok d st') : cCall c ev ds st = .ok d st' := by unfold cCall; rw [h]
theorem cCall_exc {c : Fm} {ds : List D} {st' : Sto} {x : Str} {e : Ev} (h : c ds st = .exc x e st') : cCall c ev ds st = .exc x ev st' := by unfold cCall; rw [h]
@[simp] theorem e_Raise (c : Str) : mRaise c ev st = .exc c ev st := rfl
@[simp] theorem e_insR (cn : Str) (i : Nat) : insAt st cn (.ref i) = match st[i]? with
    | some (.ins c fs) => if c = cn then some (i, fs) else none
    | _ => none := rfl
@[simp] theorem e_New (cn : Str) (c : Fm) : mNew cn c mr ev st = (mr ev st).bind fun ds st1 => match c (.ref st1.length :: ds) (st1 ++ [.ins cn []]) with
  | .ok .non st2 => .ok (.ref st1.length) st2
  | _ => .bad := rfl
@[simp] theorem e_NewG (lv : Nat) (cn : Str) (c : Fm) : mNewG lv cn c mr ev st = if 2 ≤ lv then mNew cn c mr ev st else .bad := rfl
@[simp] theorem e_TabI (tab : List (String × String)) : mTabI tab ev st = .ok (tab.map fun pr => D.str (Str.ofString pr.1)) st := rfl
@[simp] theorem e_Try (cat : Str → Option Bool) : mTry cat s1 s2 ev st = match s1 ev st with
  | .exc c ev1 st1 => (match cat c with
    | some true => (match s2 ev1 st1 with
      | .ok r st2 => .ok r st2
      | _ => .bad)
    | some false => .exc c ev1 st1
    | none => .bad)
  | .ok r st1 => .ok r st1
  | .bad => .bad := rfl
@[simp] theorem e_loopN (g : Gt) (b : Ms) : loop g b [] ev st = .ok (.nx, ev) st := rfl
theorem e_loopC (g : Gt) (b : Ms) (d : D) (ds : List D) : loop g b (d :: ds) ev st = match g d ev with
    | none => .bad
    | some ev1 => match b ev1 st with
      | .ok (.nx, ev2) st2 => loop g b ds ev2 st2
      | .ok (.ct, ev2) st2 => loop g b ds ev2 st2
      | .ok (.bk, ev2) st2 => .ok (.nx, ev2) st2
      | .ok (.rt d, ev2) st2 => .ok (.rt d, ev2) st2
      | .bad => .bad
      | .exc c e s => .exc c e s := rfl
theorem loop_app (g : Gt) (b : Ms) : ∀ (xs ys : List D) (ev : Ev) (st : Sto) (ev1 : Ev) (st1 : Sto), loop g b xs ev st = .ok (.nx, ev1) st1 → (∀ d ∈ xs, ∀ ev st ev2 st2, b ev st ≠ .ok (.bk, ev2) st2) → loop g b (xs ++ ys) ev st = loop g b ys ev1 st1
  | [], ys, ev, st, ev1, st1, h, _ => by cases h; rfl
  | d :: xs, ys, ev, st, ev1, st1, h, hb => by
    rw [List.cons_append, e_loopC]
    rw [e_loopC] at h
    cases hg : g d ev with
    | none => rw [hg] at h; cases h
    | some e1 =>
      rw [hg] at h
      simp only at h ⊢
      cases hr : b e1 st with
      | bad => rw [hr] at h; cases h
      | exc _ _ _ => rw [hr] at h; cases h
      | ok r s2 =>
        obtain ⟨fl, e2⟩ := r
        rw [hr] at h
        cases fl with
        | nx => exact loop_app g b xs ys e2 s2 ev1 st1 h fun d hd => hb d (List.mem_cons_of_mem _ hd)
        | ct => exact loop_app g b xs ys e2 s2 ev1 st1 h fun d hd => hb d (List.mem_cons_of_mem _ hd)
        | bk => exact absurd hr (hb d List.mem_cons_self _ _ _ _)
        | rt d => cases h
end Ml

/-! Equations: kept exceptions, count, index, pop. -/
namespace Ml
open PySem L2
variable {ev : Ev} {st : Sto} {ma mb mv : Mo D} {mr : Mo (List D)} {s1 s2 : Ms}
@[simp] theorem e_TryK (cat : Str → Option Bool) (i j : Nat) : mTryK cat i j s1 ev st = match s1 ev st with
  | .exc c ev1 st1 => (match cat c with
    | some true => if i < ev1.length then .ok (.nx, (ev1.set j (some (.ref st1.length))).set i none) (st1 ++ [.exc c]) else .bad
    | some false => .exc c ev1 st1
    | none => .bad)
  | .ok r st1 => .ok r st1
  | .bad => .bad := rfl
@[simp] theorem e_IsE (tab : Str → Option Bool) : mIsE tab ma ev st = (ma ev st).bind fun d st1 => match d with
  | .ref i => (match st1[i]? with
    | some (.exc c) => (match tab c with
      | some b => .ok (.bl b) st1
      | none => .bad)
    | _ => .bad)
  | _ => .bad := rfl
@[simp] theorem e_Cnt : mCnt ma mb ev st = (ma ev st).bind fun d st1 => match lstD st1 d with
  | some _ => (mb ev st1).bind fun y st2 => (match lstD st2 d with
    | some ds => if flatD y && ds.all flatD then .ok (.int (ds.countP (fun z => eqD z y) : Nat)) st2 else .bad
    | none => .bad)
  | none => .bad := rfl
@[simp] theorem e_Idx : mIdx ma mb ev st = (ma ev st).bind fun d st1 => match lstD st1 d with
  | some _ => (mb ev st1).bind fun y st2 => (match lstD st2 d with
    | some ds => if flatD y && ds.all flatD then (match ds.findIdx? (fun z => eqD z y) with
      | some j => .ok (.int (j : Nat)) st2
      | none => .bad) else .bad
    | none => .bad)
  | none => .bad := rfl
@[simp] theorem e_Pop : mPop ma ev st = (ma ev st).bind fun d st1 => match d with
  | .ref i => (match st1[i]? with
    | some (.lst ds) => (match ds[ds.length - 1]? with
      | some y => .ok y (st1.set i (.lst ds.dropLast))
      | none => .bad)
    | _ => .bad)
  | _ => .bad := rfl
@[simp] theorem e_lstD (i : Nat) : lstD st (.ref i) = match st[i]? with
    | some (.lst ds) => some ds
    | some (.ro ds) => some ds
    | _ => none := rfl
@[simp] theorem e_flatB (b : Bool) : flatD (.bl b) = true := rfl
@[simp] theorem e_eqDB (a b : Bool) : eqD (.bl a) (.bl b) = (a == b) := rfl
@[simp] theorem e_eqDI (a b : Int) : eqD (.int a) (.int b) = (a == b) := rfl
theorem get_app {st : Sto} {i : Nat} {o : Ob} (h : st[i]? = some o) (l : Sto) : (st ++ l)[i]? = some o := by
  rw [List.getElem?_append_left (List.getElem?_eq_some_iff.mp h).1]; exact h
end Ml

namespace Ml
open PySem L2
/-- _law_word: which refusal it is -/
def wordOf (c : Str) : Str := if c = "NoFaces" then "no faces" else if c = "NoText" then "no text" else if c = "NoWorth" then "no worth" else "no note"
theorem word_ok {c : String} {i : Nat} {st : Sto} {b1 b2 b3 b4 : Bool} {j : Nat} (h : st[i]? = some (.exc (Str.ofString c))) (h1 : isi_NoFaces (Str.ofString c) = some b1) (h2 : isi_NoText (Str.ofString c) = some b2) (h3 : isi_NoWorth (Str.ofString c) = some b3) (h4 : isi_NoNote (Str.ofString c) = some b4) (h5 : isi_ValueError (Str.ofString c) = some true)
    (hb : (b1, b2, b3, b4, j) = (true, false, false, false, 0) ∨ (b1, b2, b3, b4, j) = (false, true, false, false, 1) ∨ (b1, b2, b3, b4, j) = (false, false, true, false, 2) ∨ (b1, b2, b3, b4, j) = (false, false, false, true, 3)) :
    ∃ st', fnM 1 2 m_f_law_word [.ref i] st = .ok (.str (["no faces", "no text", "no worth", "no note"].getD j "")) st' := by
  have ha := get_app h
  have f4 : ∀ a b c d : Bool, [D.bl a, .bl b, .bl c, .bl d].findIdx? (fun z => eqD z (.bl true)) = if a = true then some 0 else if b = true then some 1 else if c = true then some 2 else if d = true then some 3 else none := fun a b c d => by
    cases a <;> cases b <;> cases c <;> cases d <;> rfl
  have l4 : (4 : Nat) ≤ lim := by decide
  refine ⟨st ++ [.lst [.bl b1, .bl b2], .lst [.bl b1, .bl b2, .bl b3, .bl b4]], ?_⟩
  rcases hb with e | e | e | e <;> cases e <;> simp [fnM, m_f_law_word, h, ha, h1, h2, h3, h4, h5, f4, l4]
end Ml

/-! The reader: a plain one over the signs that are left, and that the program's does the same. -/
namespace Ml
open PySem L2
def pHas (x : Str) (r : List Nat) : Option (List Nat) := if x.cps.toList.isPrefixOf r = true then some (r.drop x.length) else none
def pFig : List Nat → Option (Int × List Nat)
  | [] => none
  | c :: r => if 48 ≤ c ∧ c ≤ 57 then some ((c : Int) - 48, r) else none
abbrev Ps := List Nat → Option (D × List Nat)
def pLoop (P : Ps) : Nat → D → Ps
  | 0, f, r => some (f, r)
  | n + 1, f, r => match pHas " + " r with
    | some r1 => (match P r1 with
      | some (d, r2) => pLoop P n (.tup [.str "plus", f, d]) r2
      | none => none)
    | none => match pHas " - " r with
      | some r1 => (match P r1 with
        | some (d, r2) => pLoop P n (.tup [.str "less", f, d]) r2
        | none => none)
      | none => pLoop P n f r
def pSay (P : Ps) : Ps := fun r => match P r with
  | some (d, r1) => pLoop P 6 d r1
  | none => none
def pArgs (P : Ps) (w : String) : Ps := fun r => match pSay P r with
  | some (a, r1) => (match pHas ", " r1 with
    | some r2 => (match pSay P r2 with
      | some (b, r3) => (match pHas ")" r3 with
        | some r4 => some (.tup [.str (Str.ofString w), a, b], r4)
        | none => none)
      | none => none)
    | none => none)
  | none => none
/-- none: no call comes -/
def pCall (P : Ps) (r : List Nat) : Option (Option (D × List Nat)) := match pHas "max(" r with
  | some r1 => some (pArgs P "most" r1)
  | none => match pHas "min(" r with
    | some r1 => some (pArgs P "least" r1)
    | none => match pHas "beats(" r with
      | some r1 => some (pArgs P "beats" r1)
      | none => none
def pSigns (m s : Int) (r : List Nat) : List (String × String) → Option (D × List Nat)
  | [] => some (.tup [.str "dice", .int m, .int s], r)
  | (w, g) :: t => match pHas (Str.ofString g) r with
    | some r1 => (match pFig r1 with
      | some (l, r2) => some (.tup [.str (Str.ofString w), .int m, .int s, .int l], r2)
      | none => none)
    | none => pSigns m s r t
def pPart : Nat → Ps
  | 0, _ => none
  | k + 1, r => match pHas "(" r with
    | some r1 => (match pSay (pPart k) r1 with
      | some (d, r2) => (match pHas ")" r2 with
        | some r3 => some (d, r3)
        | none => none)
      | none => none)
    | none => match pCall (pPart k) r with
      | some x => x
      | none => match pFig r with
        | none => none
        | some (m, r1) => match pHas " * " r1 with
          | some r2 => (match pPart k r2 with
            | some (d, r3) => some (.tup [.str "times", .int m, d], r3)
            | none => none)
          | none => match pHas "d" r1 with
            | none => some (.tup [.str "number", .int m], r1)
            | some r2 => (match pFig r2 with
              | none => none
              | some (s, r3) => pSigns m s r3 d_SIGNS)
/-! what is left is an end of what was -/
theorem pHas_suf {x : Str} {r r1 : List Nat} (h : pHas x r = some r1) : r1 <:+ r := by
  unfold pHas at h
  split at h
  · cases h; exact List.drop_suffix _ _
  · cases h
theorem pFig_suf {r r1 : List Nat} {n : Int} (h : pFig r = some (n, r1)) : r1 <:+ r := by
  cases r with
  | nil => cases h
  | cons c t =>
    simp only [pFig] at h
    split at h
    · cases h; exact List.suffix_cons _ _
    · cases h
def Suf (P : Ps) : Prop := ∀ r d r1, P r = some (d, r1) → r1 <:+ r
theorem pLoop_suf {P : Ps} (hP : Suf P) : ∀ n f, Suf (pLoop P n f)
  | 0, f, r, d, r1, h => by cases h; exact List.suffix_refl _
  | n + 1, f, r, d, r1, h => by
    unfold pLoop at h
    split at h
    · rename_i r2 h2
      split at h
      · rename_i d3 r3 h3
        exact (pLoop_suf hP n _ _ _ _ h).trans ((hP _ _ _ h3).trans (pHas_suf h2))
      · cases h
    · split at h
      · rename_i r2 h2
        split at h
        · rename_i d3 r3 h3
          exact (pLoop_suf hP n _ _ _ _ h).trans ((hP _ _ _ h3).trans (pHas_suf h2))
        · cases h
      · exact pLoop_suf hP n _ _ _ _ h
theorem pSay_suf {P : Ps} (hP : Suf P) : Suf (pSay P) := fun r d r1 h => by
  unfold pSay at h
  split at h
  · rename_i d2 r2 h2
    exact (pLoop_suf hP 6 _ _ _ _ h).trans (hP _ _ _ h2)
  · cases h
theorem pArgs_suf {P : Ps} (hP : Suf P) (w : String) : Suf (pArgs P w) := fun r d r1 h => by
  unfold pArgs at h
  split at h
  · rename_i d2 r2 h2
    split at h
    · rename_i r3 h3
      split at h
      · rename_i d4 r4 h4
        split at h
        · rename_i r5 h5
          cases h
          exact (pHas_suf h5).trans ((pSay_suf hP _ _ _ h4).trans ((pHas_suf h3).trans (pSay_suf hP _ _ _ h2)))
        · cases h
      · cases h
    · cases h
  · cases h
theorem pCall_suf {P : Ps} (hP : Suf P) {r r1 : List Nat} {d : D} (h : pCall P r = some (some (d, r1))) : r1 <:+ r := by
  unfold pCall at h
  split at h
  · rename_i r2 h2
    exact (pArgs_suf hP _ _ _ _ (Option.some.inj h)).trans (pHas_suf h2)
  · split at h
    · rename_i r2 h2
      exact (pArgs_suf hP _ _ _ _ (Option.some.inj h)).trans (pHas_suf h2)
    · split at h
      · rename_i r2 h2
        exact (pArgs_suf hP _ _ _ _ (Option.some.inj h)).trans (pHas_suf h2)
      · cases h
theorem pSigns_suf {m s : Int} {r r1 : List Nat} {d : D} : ∀ {tab : List (String × String)}, pSigns m s r tab = some (d, r1) → r1 <:+ r
  | [], h => by cases h; exact List.suffix_refl _
  | (w, g) :: t, h => by
    unfold pSigns at h
    split at h
    · rename_i r2 h2
      split at h
      · rename_i l r3 h3
        cases h
        exact (pFig_suf h3).trans (pHas_suf h2)
      · cases h
    · exact pSigns_suf h
theorem pPart_suf : ∀ k, Suf (pPart k)
  | 0, _, _, _, h => by cases h
  | k + 1, r, d, r1, h => by
    have hP := pPart_suf k
    unfold pPart at h
    split at h
    · rename_i r2 h2
      split at h
      · rename_i d3 r3 h3
        split at h
        · rename_i r4 h4
          cases h
          exact (pHas_suf h4).trans ((pSay_suf hP _ _ _ h3).trans (pHas_suf h2))
        · cases h
      · cases h
    · split at h
      · rename_i x hx
        subst h
        exact pCall_suf hP hx
      · split at h
        · cases h
        · rename_i m r2 h2
          split at h
          · rename_i r3 h3
            split at h
            · rename_i d4 r4 h4
              cases h
              exact (hP _ _ _ h4).trans ((pHas_suf h3).trans (pFig_suf h2))
            · cases h
          · split at h
            · cases h; exact pFig_suf h2
            · rename_i r3 h3
              split at h
              · cases h
              · rename_i s r4 h4
                exact (pSigns_suf h).trans ((pFig_suf h4).trans ((pHas_suf h3).trans (pFig_suf h2)))
/-! ### the program's reader -/
def rf (T : Str) (r : List Nat) : List (Str × D) := [("text", .str T), ("place", .int ((T.length : Int) - (r.length : Int)))]
def rdr (T : Str) (r : List Nat) : Ob := .ins "Reader" (rf T r)
@[simp] theorem rf_text (T : Str) (r : List Nat) : (rf T r).lookup ("text" : Str) = some (.str T) := by simp [rf, List.lookup_cons]
@[simp] theorem rf_place (T : Str) (r : List Nat) : (rf T r).lookup ("place" : Str) = some (.int ((T.length : Int) - (r.length : Int))) := by simp [rf, List.lookup_cons]
@[simp] theorem rf_has (T : Str) (r : List Nat) : (rf T r).lookup ("has" : Str) = none := by simp [rf, List.lookup_cons]
@[simp] theorem rf_must (T : Str) (r : List Nat) : (rf T r).lookup ("must" : Str) = none := by simp [rf, List.lookup_cons]
@[simp] theorem rf_fig (T : Str) (r : List Nat) : (rf T r).lookup ("figure" : Str) = none := by simp [rf, List.lookup_cons]
@[simp] theorem rf_call (T : Str) (r : List Nat) : (rf T r).lookup ("call" : Str) = none := by simp [rf, List.lookup_cons]
@[simp] theorem rf_part (T : Str) (r : List Nat) : (rf T r).lookup ("part" : Str) = none := by simp [rf, List.lookup_cons]
@[simp] theorem rf_say (T : Str) (r : List Nat) : (rf T r).lookup ("saying" : Str) = none := by simp [rf, List.lookup_cons]
@[simp] theorem rf_len (T : Str) (r : List Nat) : (rf T r).length = 2 := rfl
theorem rf_put (T : Str) (r r1 : List Nat) (n : Int) (h : n = (T.length : Int) - (r1.length : Int)) : putFD "place" (.int n) (rf T r) = rf T r1 := by
  subst h
  simp [rf, putFD]
abbrev At (base : Sto) (i : Nat) (T : Str) (r : List Nat) : Sto := base.set i (rdr T r)
theorem ins_at {base : Sto} {i : Nat} (hi : i < base.length) (T : Str) (r : List Nat) : insAt (At base i T r) "Reader" (.ref i) = some (i, rf T r) := by
  rw [e_insR, List.getElem?_set_self hi]
  simp [rdr]
theorem set_at {base : Sto} {i : Nat} (T : Str) (r r1 : List Nat) : (At base i T r).set i (rdr T r1) = At base i T r1 := by simp
theorem len_cps (T : Str) : T.cps.toList.length = T.length := Array.length_toList
theorem cut_at {T x : Str} {r : List Nat} (hr : r <:+ T.cps.toList) : (cutS T (some ((T.length : Int) - (r.length : Int))) (some ((T.length : Int) - (r.length : Int) + (x.length : Int))) == x) = x.cps.toList.isPrefixOf r := by
  obtain ⟨p, e⟩ := hr
  have hl : T.length = p.length + r.length := by rw [← len_cps, ← e, List.length_append]
  have e1 : (T.length : Int) - (r.length : Int) = (p.length : Nat) := by omega
  have e2 : ((p.length : Nat) : Int) + (x.length : Int) = ((p.length + x.length : Nat) : Int) := by omega
  rw [e1, e2]
  unfold cutS
  rw [HT.sIx_nat, HT.sIx_nat, ← e, show min p.length T.length = p.length from Nat.min_eq_left (by omega), List.drop_left]
  have e3 : r.take (min (p.length + x.length) T.length - p.length) = r.take x.length := by
    rcases Nat.le_total x.length r.length with h | h
    · rw [Nat.min_eq_left (by omega)]; congr 1; omega
    · rw [Nat.min_eq_right (by omega), List.take_of_length_le (by omega), List.take_of_length_le h]
  rw [e3, Bool.eq_iff_iff, beq_iff_eq, List.isPrefixOf_iff_prefix, List.prefix_iff_eq_take, len_cps]
  constructor
  · intro h
    have h' := congrArg (fun z : Str => z.cps.toList) h
    exact h'.symm
  · intro h
    obtain ⟨⟨l⟩⟩ := x
    simp only at h
    rw [← h]
theorem e_lenS (x : Str) (st : Sto) (h : x.length ≤ lim) : gLen [.str x] st = some (.int x.length, st) := by simp only [gLen, lenD, if_pos h]; rfl
section
variable {base : Sto} {i : Nat} {T : Str}
theorem has_ok (hi : i < base.length) (hT : T.length ≤ lim) {x : Str} {r : List Nat} (hx : x.length ≤ lim) (hr : r <:+ T.cps.toList) :
    fnM 2 2 m_Reader_has [.ref i, .str x] (At base i T r) = match pHas x r with
      | some r1 => .ok (.bl true) (At base i T r1)
      | none => .ok (.bl false) (At base i T r) := by
  have h1 := ins_at hi T r
  have h2 := cut_at (x := x) hr
  have hp := rf_put T r (r.drop x.length) ((T.length : Int) - (r.length : Int) + (x.length : Int))
  unfold pHas
  by_cases hc : x.cps.toList.isPrefixOf r = true
  · rw [if_pos hc]
    rw [hc] at h2
    have hle : x.length ≤ r.length := by
      rw [← len_cps]
      exact (List.isPrefixOf_iff_prefix.mp hc).length_le
    have hp := hp (by rw [List.length_drop]; omega)
    simp [-e_insR, fnM, m_Reader_has, h1, hT, e_lenS x _ hx, h2, hp]
    rfl
  · rw [if_neg hc]
    rw [Bool.eq_false_iff.mpr hc] at h2
    simp [-e_insR, fnM, m_Reader_has, h1, hT, e_lenS x _ hx, h2]
theorem must_ok {c_has : Fm} (hi : i < base.length) {x : Str} {r : List Nat} (hh : c_has [.ref i, .str x] (At base i T r) = match pHas x r with
      | some r1 => .ok (.bl true) (At base i T r1)
      | none => .ok (.bl false) (At base i T r)) :
    fnX 2 2 (m_Reader_must c_has) [.ref i, .str x] (At base i T r) = match pHas x r with
      | some r1 => .ok .non (At base i T r1)
      | none => .exc "NoText" [] (At base i T r) := by
  have h1 := ins_at hi T r
  cases hp : pHas x r with
  | none =>
    rw [hp] at hh
    simp [-e_insR, fnX, m_Reader_must, h1, hh]
  | some r1 =>
    rw [hp] at hh
    simp [-e_insR, fnX, m_Reader_must, h1, hh]
theorem fig_in (c : Nat) : c ∈ (Str.ofString "0123456789").cps.toList ↔ 48 ≤ c ∧ c ≤ 57 := by
  have e : (Str.ofString "0123456789").cps.toList = [48, 49, 50, 51, 52, 53, 54, 55, 56, 57] := by decide +kernel
  rw [e]
  simp
  omega
theorem fig_int {c : Nat} (h : 48 ≤ c ∧ c ≤ 57) : PySem.intText? ⟨#[c]⟩ = some ((c : Int) - 48) := by
  obtain ⟨h1, h2⟩ := h
  have : c = 48 ∨ c = 49 ∨ c = 50 ∨ c = 51 ∨ c = 52 ∨ c = 53 ∨ c = 54 ∨ c = 55 ∨ c = 56 ∨ c = 57 := by omega
  rcases this with rfl | rfl | rfl | rfl | rfl | rfl | rfl | rfl | rfl | rfl <;> decide +kernel
theorem e_ixS (x : Str) (k : Int) (st : Sto) : gIx (.str x) (.int k) st = if x.length ≤ lim then (match L2.atI x.cps.toList k with
      | some c => some (.str ⟨#[c]⟩, st)
      | none => none) else none := rfl
theorem fig_ok (hi : i < base.length) (hT : T.length ≤ lim) {r : List Nat} (hr : r <:+ T.cps.toList) :
    fnX 1 1 m_Reader_figure [.ref i] (At base i T r) = match pFig r with
      | some (n, r1) => .ok (.int n) (At base i T r1)
      | none => .exc "NoText" [] (At base i T r) := by
  have h1 := ins_at hi T r
  cases r with
  | nil => simp [-e_insR, fnX, m_Reader_figure, h1, e_lenS T _ hT, pFig]
  | cons c t =>
    have h2 := ins_at hi T t
    obtain ⟨p, e⟩ := hr
    have hl : T.length = p.length + (t.length + 1) := by rw [← len_cps, ← e, List.length_append]; rfl
    have hat : L2.atI T.cps.toList ((T.length : Int) - ((t.length : Int) + 1)) = some c := by
      have e1 : (T.length : Int) - ((t.length : Int) + 1) = (p.length : Nat) := by omega
      rw [e1]
      exact atI_nat (by rw [← e]; simp)
    have hat2 : L2.atI T.cps.toList ((T.length : Int) - (t.length : Int) - 1) = some c := by
      rw [← hat]; congr 1; omega
    have hne : ¬ ((T.length : Int) - ((t.length : Int) + 1) = (T.length : Int)) := by omega
    have hp := rf_put T (c :: t) t ((T.length : Int) - ((t.length : Int) + 1) + 1) (by omega)
    have hs := set_at (base := base) (i := i) T (c :: t) t
    have gn : ∀ st, gNinS (.str ⟨#[c]⟩) (.str "0123456789") st = some (.bl (!decide (48 ≤ c ∧ c ≤ 57)), st) := fun st => by
      simp only [gNinS]
      rw [decide_eq_decide.mpr (fig_in c)]
    simp only [pFig]
    by_cases hc : 48 ≤ c ∧ c ≤ 57
    · rw [if_pos hc]
      have gi : ∀ st, gIntS [.str ⟨#[c]⟩] st = some (.int ((c : Int) - 48), st) := fun st => by
        simp only [gIntS]
        rw [if_pos (by show 1 ≤ 640; decide), fig_int hc]
      rw [decide_eq_true hc] at gn
      have hs' : (base.set i (rdr T (c :: t))).set i (.ins "Reader" (rf T t)) = At base i T t := hs
      simp [-e_insR, -List.set_set, fnX, m_Reader_figure, h1, hT, e_lenS T _ hT, e_ixS, hat, gn, hne, hp, hs', h2, hat2, gi]
    · rw [if_neg hc]
      rw [decide_eq_false hc] at gn
      simp [-e_insR, fnX, m_Reader_figure, h1, hT, e_lenS T _ hT, e_ixS, hat, gn, hne]
end
end Ml

namespace Ml
open PySem L2
/-! ### cells and draws -/
def mixv (c p m : Int) : Int := c * 48271 % p * (c * 48271 % p + 7) % p % m
theorem mixv_pos {c p m : Int} (h : 0 < m) : 0 ≤ mixv c p m := Int.emod_nonneg _ (by omega)
theorem mixv_lt {c p m : Int} (h : 0 < m) : mixv c p m < m := Int.emod_lt_of_pos _ h
theorem mix_ok {c p m : Int} {st : Sto} (h1 : 0 < p) (h2 : p < 10000) (h3 : 0 < m) : fnM 3 4 m_f_law_mix [.int c, .int p, .int m] st = .ok (.int (mixv c p m)) st := by
  have h4 : 0 ≤ c * 48271 % p := Int.emod_nonneg _ (by omega)
  have h5 : c * 48271 % p < p := Int.emod_lt_of_pos _ h1
  have h6 : small64 48271 = true := by decide
  have h7 : small64 (c * 48271 % p) = true := small_of (by omega) (by omega)
  simp [fnM, m_f_law_mix, h6, h7, h1, h3, mixv]
theorem cell_ok {ns : List Int} {k : Int} {st : Sto} (h1 : 0 ≤ k) : ∃ c : Int, fnM 2 2 m_f_law_cell [.ro (ns.map D.int), .int k] st = .ok (.int c) st := by
  by_cases h : k < (ns.length : Int)
  · have hk : k.toNat < ns.length := by omega
    have e := atI_nat (xs := ns.map D.int) (j := k.toNat) (v := .int ns[k.toNat]) (by simp only [List.getElem?_map, List.getElem?_eq_getElem hk, Option.map_some])
    rw [Int.toNat_of_nonneg h1] at e
    refine ⟨ns[k.toNat], ?_⟩
    simp [fnM, m_f_law_cell, h, e]
  · refine ⟨0, ?_⟩
    simp [fnM, m_f_law_cell, h]
/-! ### sayings -/
end Ml

namespace Ml
open PySem L2
/-! ### cells and draws -/
inductive W2 where
  | plus | less | most | least | beats
inductive WL where
  | high | low | again | burst | count
def W2.s : W2 → String
  | .plus => "plus" | .less => "less" | .most => "most" | .least => "least" | .beats => "beats"
def WL.s : WL → String
  | .high => "high" | .low => "low" | .again => "again" | .burst => "burst" | .count => "count"
inductive Say where
  | num (n : Int) | die (m s : Int) | dl (w : WL) (m s l : Int) | two (w : W2) (a b : Say) | times (n : Int) (a : Say)
def enc : Say → D
  | .num n => .tup [.str "number", .int n]
  | .die m s => .tup [.str "dice", .int m, .int s]
  | .dl w m s l => .tup [.str (Str.ofString w.s), .int m, .int s, .int l]
  | .two w a b => .tup [.str (Str.ofString w.s), enc a, enc b]
  | .times n a => .tup [.str "times", .int n, enc a]
def lastOk : WL → Int → Int → Int → Prop
  | .high, m, _, l => 1 ≤ l ∧ l ≤ m
  | .low, m, _, l => 1 ≤ l ∧ l ≤ m
  | .again, _, s, l => 1 ≤ l ∧ l ≤ s - 1
  | .burst, _, _, l => 1 ≤ l ∧ l ≤ 2
  | .count, _, s, l => 2 ≤ l ∧ l ≤ s
def Wf : Say → Prop
  | .num n => 0 ≤ n ∧ n ≤ 9
  | .die m s => 1 ≤ m ∧ m ≤ 3 ∧ 2 ≤ s ∧ s ≤ 6
  | .dl w m s l => 1 ≤ m ∧ m ≤ 3 ∧ 2 ≤ s ∧ s ≤ 6 ∧ lastOk w m s l
  | .two _ a b => Wf a ∧ Wf b
  | .times n a => 0 ≤ n ∧ n ≤ 3 ∧ Wf a
def dep : Say → Nat
  | .two _ a b => max (dep a) (dep b) + 1
  | .times _ a => dep a + 1
  | _ => 1
def dice : Say → Int
  | .num _ => 0
  | .die m _ => m
  | .dl _ m _ _ => m
  | .two _ a b => dice a + dice b
  | .times _ a => dice a
theorem dep_pos : ∀ s, 1 ≤ dep s
  | .num _ => Nat.le_refl _
  | .die _ _ => Nat.le_refl _
  | .dl _ _ _ _ => Nat.le_refl _
  | .two _ _ _ => Nat.le_add_left _ _
  | .times _ _ => Nat.le_add_left _ _
theorem dice_pos : ∀ s, Wf s → 0 ≤ dice s
  | .num _, _ => Int.le_refl _
  | .die _ _, h => by have := h.1; simp only [dice]; omega
  | .dl _ _ _ _, h => by have := h.1; simp only [dice]; omega
  | .two _ a b, h => by have := dice_pos a h.1; have := dice_pos b h.2; simp only [dice]; omega
  | .times _ a, h => by have := dice_pos a h.2.2; simpa only [dice] using this
@[simp] theorem enc_num (n : Int) : enc (.num n) = .tup [.str "number", .int n] := rfl
@[simp] theorem enc_die (m s : Int) : enc (.die m s) = .tup [.str "dice", .int m, .int s] := rfl
/-- a saying is a tuple that begins with its word -/
def hd : Say → String
  | .num _ => "number"
  | .die _ _ => "dice"
  | .dl w _ _ _ => w.s
  | .two w _ _ => w.s
  | .times _ _ => "times"
def tl : Say → List D
  | .num n => [.int n]
  | .die m s => [.int m, .int s]
  | .dl _ m s l => [.int m, .int s, .int l]
  | .two _ a b => [enc a, enc b]
  | .times n a => [.int n, enc a]
theorem enc_eq : ∀ s, enc s = .tup (.str (Str.ofString (hd s)) :: tl s)
  | .num _ => rfl
  | .die _ _ => rfl
  | .dl _ _ _ _ => rfl
  | .two _ _ _ => rfl
  | .times _ _ => rfl
@[simp] theorem ty_enc (s : Say) (st : Sto) : tyD st (enc s) = some "tuple" := by rw [enc_eq]; rfl
@[simp] theorem ix0_enc (s : Say) (st : Sto) : gIx (enc s) (.int 0) st = some (.str (Str.ofString (hd s)), st) := by rw [enc_eq]; simp
@[simp] theorem at_m1_2 {α : Type} (x y : α) : L2.atI [x, y] (-1) = some y := rfl
@[simp] theorem at_m1_3 {α : Type} (x y z : α) : L2.atI [x, y, z] (-1) = some z := rfl
@[simp] theorem at_m1_4 {α : Type} (x y z w : α) : L2.atI [x, y, z, w] (-1) = some w := rfl
@[simp] theorem cut_1_2 {α : Type} (x y : α) : cutD [x, y] (some 1) none = [y] := rfl
@[simp] theorem cut_1_3 {α : Type} (x y z : α) : cutD [x, y, z] (some 1) none = [y, z] := rfl
@[simp] theorem cut_1_4 {α : Type} (x y z w : α) : cutD [x, y, z, w] (some 1) none = [y, z, w] := rfl
@[simp] theorem at_4 {α : Type} (x y z w u : α) (xs : List α) : L2.atI (x :: y :: z :: w :: u :: xs) 4 = some u := by
  have h : (4 : Int) < ((x :: y :: z :: w :: u :: xs).length : Nat) := by simp; omega
  simp only [L2.atI, ixN]
  rw [if_pos (by decide), if_pos h]; rfl
@[simp] theorem at_5 {α : Type} (x y z w u v : α) (xs : List α) : L2.atI (x :: y :: z :: w :: u :: v :: xs) 5 = some v := by
  have h : (5 : Int) < ((x :: y :: z :: w :: u :: v :: xs).length : Nat) := by simp; omega
  simp only [L2.atI, ixN]
  rw [if_pos (by decide), if_pos h]; rfl
/-! _law_many -/
theorem many_step {c : Fm} {s : Say} {st : Sto} (ih : ∀ a, dep a < dep s → c [enc a] st = .ok (.int (dice a)) st) : fnM 1 2 (m_f_law_many c) [enc s] st = .ok (.int (dice s)) st := by
  cases s with
  | num n => simp [fnM, m_f_law_many, dice]
  | die m s => simp [fnM, m_f_law_many, dice]
  | dl w m s l => cases w <;> simp [fnM, m_f_law_many, dice, enc, WL.s]
  | two w a b =>
    have ha := ih a (by simp only [dep]; omega)
    have hb := ih b (by simp only [dep]; omega)
    cases w <;> simp [fnM, m_f_law_many, dice, enc, W2.s, ha, hb]
  | times n a =>
    have ha := ih a (by simp only [dep]; omega)
    simp [fnM, m_f_law_many, dice, enc, ha]
/-! _law_dice -/
theorem dice_ok {c_mix : Fm} {cell most : Int} {st : Sto} (hm : ∀ c p m st, 0 < p → p < 10000 → 0 < m → c_mix [.int c, .int p, .int m] st = .ok (.int (mixv c p m)) st) (h1 : 1 ≤ most) :
    ∃ s, Wf s ∧ dep s = 1 ∧ dice s ≤ most ∧ 1 ≤ dice s ∧ fnM 2 7 (m_f_law_dice c_mix) [.int cell, .int most] st = .ok (enc s) st := by
  have a0 := mixv_pos (c := cell) (p := 9973) (m := 6) (by decide)
  have a1 := mixv_lt (c := cell) (p := 9973) (m := 6) (by decide)
  have e1 : (if most < 3 then most else 3) = min 3 most := by split <;> omega
  generalize hmm : min 3 most = mm at *
  have hmm0 : 0 < mm := by omega
  have b0 := mixv_pos (c := cell) (p := 9967) (m := mm) hmm0
  have b1 := mixv_lt (c := cell) (p := 9967) (m := mm) hmm0
  have c0 := mixv_pos (c := cell) (p := 9949) (m := 5) (by decide)
  have c1 := mixv_lt (c := cell) (p := 9949) (m := 5) (by decide)
  have h9973 := fun st => hm cell 9973 6 st (by decide) (by decide) (by decide)
  have h9967 := fun st => hm cell 9967 mm st (by decide) (by decide) hmm0
  have h9949 := fun st => hm cell 9949 5 st (by decide) (by decide) (by decide)
  generalize mixv cell 9973 6 = i at *
  generalize mixv cell 9967 mm = m at *
  generalize mixv cell 9949 5 = s at *
  have h9941 : ∀ z st, 0 < z → c_mix [.int cell, .int 9941, .int z] st = .ok (.int (mixv cell 9941 z)) st := fun z st hz => hm cell 9941 z st (by decide) (by decide) hz
  have d0 : ∀ z, 0 < z → 0 ≤ mixv cell 9941 z ∧ mixv cell 9941 z < z := fun z hz => ⟨mixv_pos hz, mixv_lt hz⟩
  have hi : i = 0 ∨ i = 1 ∨ i = 2 ∨ i = 3 ∨ i = 4 ∨ i = 5 := by omega
  rcases hi with rfl | rfl | rfl | rfl | rfl | rfl
  · refine ⟨.die (1 + m) (2 + s), ⟨by omega, by omega, by omega, by omega⟩, rfl, by simp only [dice]; omega, by simp only [dice]; omega, ?_⟩
    simp [fnM, m_f_law_dice, h9973, h9967, h9949, e1]
  · have dz := d0 (1 + m) (by omega)
    refine ⟨.dl .high (1 + m) (2 + s) (1 + mixv cell 9941 (1 + m)), ⟨by omega, by omega, by omega, by omega, by omega, by omega⟩, rfl, by simp only [dice]; omega, by simp only [dice]; omega, ?_⟩
    simp [fnM, m_f_law_dice, h9973, h9967, h9949, e1, enc, WL.s, mergeD, putD, valD]
    rw [h9941 _ _ (by omega)]
    simp
  · have dz := d0 (1 + m) (by omega)
    refine ⟨.dl .low (1 + m) (2 + s) (1 + mixv cell 9941 (1 + m)), ⟨by omega, by omega, by omega, by omega, by omega, by omega⟩, rfl, by simp only [dice]; omega, by simp only [dice]; omega, ?_⟩
    simp [fnM, m_f_law_dice, h9973, h9967, h9949, e1, enc, WL.s, mergeD, putD, valD]
    rw [h9941 _ _ (by omega)]
    simp
  · have dz := d0 (2 + s - 1) (by omega)
    refine ⟨.dl .again (1 + m) (2 + s) (1 + mixv cell 9941 (2 + s - 1)), ⟨by omega, by omega, by omega, by omega, by omega, by omega⟩, rfl, by simp only [dice]; omega, by simp only [dice]; omega, ?_⟩
    simp [fnM, m_f_law_dice, h9973, h9967, h9949, e1, enc, WL.s, mergeD, putD, valD]
    rw [h9941 _ _ (by omega)]
    simp
  · have dz := d0 2 (by omega)
    refine ⟨.dl .burst (1 + m) (2 + s) (1 + mixv cell 9941 2), ⟨by omega, by omega, by omega, by omega, by omega, by omega⟩, rfl, by simp only [dice]; omega, by simp only [dice]; omega, ?_⟩
    simp [fnM, m_f_law_dice, h9973, h9967, h9949, e1, enc, WL.s, mergeD, putD, valD]
    rw [h9941 _ _ (by omega)]
    simp
  · have dz := d0 (2 + s - 2 + 1) (by omega)
    refine ⟨.dl .count (1 + m) (2 + s) (2 + mixv cell 9941 (2 + s - 2 + 1)), ⟨by omega, by omega, by omega, by omega, by omega, by omega⟩, rfl, by simp only [dice]; omega, by simp only [dice]; omega, ?_⟩
    simp [fnM, m_f_law_dice, h9973, h9967, h9949, e1, enc, WL.s, mergeD, putD, valD]
    rw [h9941 _ _ (by omega)]
    simp
end Ml

namespace Ml
open PySem L2
/-! _law_saying -/
theorem say_step {c_dice c_many c_mix c_say : Fm} {cell most : Int} {deep : Nat} {st : Sto} (hd : 1 ≤ deep) (hd3 : deep ≤ 3) (hm0 : 0 ≤ most)
    (hm : ∀ c p m st, 0 < p → p < 10000 → 0 < m → c_mix [.int c, .int p, .int m] st = .ok (.int (mixv c p m)) st)
    (hdi : ∀ cell st, 1 ≤ most → ∃ s, Wf s ∧ dep s = 1 ∧ dice s ≤ most ∧ 1 ≤ dice s ∧ c_dice [.int cell, .int most] st = .ok (enc s) st)
    (hma : ∀ s st, Wf s → dep s ≤ deep - 1 → c_many [enc s] st = .ok (.int (dice s)) st)
    (hsay : ∀ cell most st, 2 ≤ deep → 0 ≤ most → ∃ s, Wf s ∧ dep s ≤ deep - 1 ∧ dice s ≤ most ∧ c_say [.int cell, .int ((deep : Int) - 1), .int most] st = .ok (enc s) st) :
    ∃ s, Wf s ∧ dep s ≤ deep ∧ dice s ≤ most ∧ fnM 3 6 (m_f_law_saying c_dice c_many c_mix c_say) [.int cell, .int deep, .int most] st = .ok (enc s) st := by
  have w0 := mixv_pos (c := cell) (p := 9931) (m := 12) (by decide)
  have w1 := mixv_lt (c := cell) (p := 9931) (m := 12) (by decide)
  have hw := fun st => hm cell 9931 12 st (by decide) (by decide) (by decide)
  generalize mixv cell 9931 12 = way at *
  by_cases h1 : way < 2 ∨ most = 0
  · have n0 := mixv_pos (c := cell) (p := 9929) (m := 10) (by decide)
    have n1 := mixv_lt (c := cell) (p := 9929) (m := 10) (by decide)
    refine ⟨.num (mixv cell 9929 10), ⟨by omega, by omega⟩, by simp only [dep]; omega, by simpa only [dice] using hm0, ?_⟩
    have hn := fun st => hm cell 9929 10 st (by decide) (by decide) (by decide)
    rcases h1 with h1 | h1
    · simp [fnM, m_f_law_saying, hw, h1, hn]
    · by_cases h2 : way < 2 <;> simp [fnM, m_f_law_saying, hw, h1, h2, hn]
  · have h2 : ¬ way < 2 := fun z => h1 (.inl z)
    have h3 : ¬ most = 0 := fun z => h1 (.inr z)
    by_cases h4 : way < 5 ∨ deep = 1
    · obtain ⟨s, k1, k2, k3, k4, k5⟩ := hdi (cell + 1) st (by omega)
      refine ⟨s, k1, by omega, k3, ?_⟩
      rcases h4 with h4 | h4
      · simp [fnM, m_f_law_saying, hw, h2, h3, h4, k5]
      · subst h4
        by_cases h5 : way < 5 <;> simp [fnM, m_f_law_saying, hw, h2, h3, h5, k5]
    · have h5 : ¬ way < 5 := fun z => h4 (.inl z)
      have h6 : ¬ deep = 1 := fun z => h4 (.inr z)
      have h6' : ¬ ((deep : Int) = 1) := by omega
      by_cases h7 : way = 11
      · obtain ⟨s, k1, k2, k3, k4⟩ := hsay (cell + 2) most st (by omega) hm0
        have n0 := mixv_pos (c := cell) (p := 9923) (m := 4) (by decide)
        have n1 := mixv_lt (c := cell) (p := 9923) (m := 4) (by decide)
        have hn := fun st => hm cell 9923 4 st (by decide) (by decide) (by decide)
        refine ⟨.times (mixv cell 9923 4) s, ⟨by omega, by omega, k1⟩, by simp only [dep]; omega, k3, ?_⟩
        simp [fnM, m_f_law_saying, hw, h2, h3, h5, h6', h7, hn, k4, enc]
      · obtain ⟨a, a1, a2, a3, a4⟩ := hsay (cell + 3) most st (by omega) hm0
        have am := hma a st a1 a2
        obtain ⟨b, b1, b2, b3, b4⟩ := hsay (cell + 5) (most - dice a) st (by omega) (by omega)
        have n0 := mixv_pos (c := cell) (p := 9907) (m := 5) (by decide)
        have n1 := mixv_lt (c := cell) (p := 9907) (m := 5) (by decide)
        have hn := fun st => hm cell 9907 5 st (by decide) (by decide) (by decide)
        generalize mixv cell 9907 5 = i at *
        have key : ∀ (x y : Say), ∃ w : W2, (fun z => L2.atI [D.str "plus", .str "less", .str "most", .str "least", .str "beats"] z) i = some (.str (Str.ofString w.s)) := by
          intro x y
          have hi : i = 0 ∨ i = 1 ∨ i = 2 ∨ i = 3 ∨ i = 4 := by omega
          rcases hi with rfl | rfl | rfl | rfl | rfl
          · exact ⟨.plus, rfl⟩
          · exact ⟨.less, rfl⟩
          · exact ⟨.most, rfl⟩
          · exact ⟨.least, rfl⟩
          · exact ⟨.beats, rfl⟩
        obtain ⟨w, ew⟩ := key a b
        simp only at ew
        by_cases he : cell % 2 = 0
        · refine ⟨.two w b a, ⟨b1, a1⟩, by simp only [dep]; omega, by simp only [dice]; omega, ?_⟩
          simp [fnM, m_f_law_saying, hw, h2, h3, h5, h6', h7, hn, a4, am, b4, ew, he, enc]
        · refine ⟨.two w a b, ⟨a1, b1⟩, by simp only [dep]; omega, by simp only [dice]; omega, ?_⟩
          simp [fnM, m_f_law_saying, hw, h2, h3, h5, h6', h7, hn, a4, am, b4, ew, he, enc]
end Ml

namespace Ml
open PySem L2
/-! ### data compared -/
theorem doks_cons (n : Nat) (d : D) (ds : List D) : doks n (d :: ds) = (d.dok n && doks n ds) := by simp [doks]
theorem dok_tup (n : Nat) (ds : List D) : (D.tup ds).dok (n + 1) = doks n ds := by simp [D.dok]
@[simp] theorem dok_int (n : Nat) (i : Int) : (D.int i).dok n = true := by simp [D.dok]
@[simp] theorem doks_nil (n : Nat) : doks n [] = true := by simp [doks]
theorem strOk_lit (x : String) : PyData.strOk (Str.ofString x) = true := by
  unfold PyData.strOk
  rw [Str.ofString_eq_toList]
  simp only [List.all_toArray, List.all_map, List.all_eq_true]
  intro c _
  simp only [Function.comp_apply, decide_eq_true_eq]
  have := c.valid
  simp only [UInt32.isValidChar, Nat.isValidChar] at this
  show c.toNat < _
  have e : c.toNat = c.val.toNat := rfl
  omega
@[simp] theorem dok_lit (n : Nat) (x : String) : (D.str (Str.ofString x)).dok n = true := by simp [D.dok, strOk_lit]
theorem dok_enc : ∀ (s : Say) (n : Nat), dep s ≤ n → (enc s).dok n = true
  | s, 0, h => absurd (Nat.le_trans (dep_pos s) h) (by decide)
  | .num k, n + 1, _ => by simp [dok_tup, doks_cons]
  | .die m k, n + 1, _ => by simp [dok_tup, doks_cons]
  | .dl w m k l, n + 1, _ => by simp [enc, dok_tup, doks_cons]
  | .two w a b, n + 1, h => by
    simp only [dep] at h
    simp [enc, dok_tup, doks_cons, dok_enc a n (by omega), dok_enc b n (by omega)]
  | .times k a, n + 1, h => by
    simp only [dep] at h
    simp [enc, dok_tup, doks_cons, dok_enc a n (by omega)]
theorem dok_60 {s : Say} (h : dep s ≤ 50) : (enc s).dok 60 = true := dok_enc s 60 (by omega)
theorem eq_enc {a b : Say} {st : Sto} (ha : dep a ≤ 50) (hb : dep b ≤ 50) : gEq (enc a) (enc b) st = some (.bl (deq (enc a) (enc b)), st) := by
  unfold gEq
  rw [dok_60 ha, dok_60 hb]
  split <;> rfl
theorem ne_enc {a b : Say} {st : Sto} (ha : dep a ≤ 50) (hb : dep b ≤ 50) : gNe (enc a) (enc b) st = some (.bl (!deq (enc a) (enc b)), st) := by
  unfold gNe
  rw [dok_60 ha, dok_60 hb]
  split <;> rfl
end Ml

namespace Ml
open PySem L2
/-! ### texts -/
def sgn : WL → String
  | .high => "h" | .low => "l" | .again => "r" | .burst => "x" | .count => "c"
def clS : W2 → String
  | .most => "max" | .least => "min" | .beats => "beats" | .plus => " + " | .less => " - "
def inPL : Say → Bool
  | .two .plus _ _ => true
  | .two .less _ _ => true
  | _ => false
def inPLT : Say → Bool
  | .times _ _ => true
  | s => inPL s
def brk (b : Bool) (x : Str) : Str := if b = true then Str.ofString "(" ++ x ++ Str.ofString ")" else x
def nS (n : Int) : Str := Str.ofString (toString n)
def wr : Say → Str
  | .num n => nS n
  | .die m k => nS m ++ Str.ofString "d" ++ nS k
  | .dl w m k l => nS m ++ Str.ofString "d" ++ nS k ++ Str.ofString (sgn w) ++ nS l
  | .two .plus a b => wr a ++ Str.ofString " + " ++ brk (inPL b) (wr b)
  | .two .less a b => wr a ++ Str.ofString " - " ++ brk (inPL b) (wr b)
  | .two w a b => Str.ofString (clS w) ++ Str.ofString "(" ++ wr a ++ Str.ofString ", " ++ wr b ++ Str.ofString ")"
  | .times n a => nS n ++ Str.ofString " * " ++ brk (inPLT a) (wr a)
def br (b : Bool) (n : Nat) : Nat := if b = true then n + 2 else n
def wl : Say → Nat
  | .num _ => 1
  | .die _ _ => 3
  | .dl _ _ _ _ => 5
  | .two .plus a b => wl a + 3 + br (inPL b) (wl b)
  | .two .less a b => wl a + 3 + br (inPL b) (wl b)
  | .two .beats a b => 9 + wl a + wl b
  | .two _ a b => 7 + wl a + wl b
  | .times _ a => 4 + br (inPLT a) (wl a)
theorem len_nS {n : Int} (h0 : 0 ≤ n) (h9 : n ≤ 9) : (nS n).length = 1 := by
  have h : n = 0 ∨ n = 1 ∨ n = 2 ∨ n = 3 ∨ n = 4 ∨ n = 5 ∨ n = 6 ∨ n = 7 ∨ n = 8 ∨ n = 9 := by omega
  rcases h with rfl | rfl | rfl | rfl | rfl | rfl | rfl | rfl | rfl | rfl <;> decide +kernel
theorem len_lit1 : (Str.ofString "d").length = 1 ∧ (Str.ofString " + ").length = 3 ∧ (Str.ofString " - ").length = 3 ∧ (Str.ofString " * ").length = 3 ∧ (Str.ofString "(").length = 1 ∧ (Str.ofString ")").length = 1 ∧ (Str.ofString ", ").length = 2 := by decide +kernel
theorem len_sgn (w : WL) : (Str.ofString (sgn w)).length = 1 := by cases w <;> decide +kernel
theorem len_brk (b : Bool) (x : Str) : (brk b x).length = br b x.length := by
  have l := len_lit1
  unfold brk br
  cases b
  · rfl
  · simp only [if_true, Str.length_append]; omega
theorem len_wr : ∀ {s : Say}, Wf s → (wr s).length = wl s
  | .num n, h => len_nS h.1 h.2
  | .die m k, h => by
    have l := len_lit1
    simp only [wr, wl, Str.length_append, len_nS (n := m) (by have := h.1; omega) (by have := h.2.1; omega), len_nS (n := k) (by have := h.2.2.1; omega) (by have := h.2.2.2; omega)]; omega
  | .dl w m k l, h => by
    have ll := len_lit1
    have hl : 0 ≤ l ∧ l ≤ 9 := by
      obtain ⟨h1, h2, h3, h4, h5⟩ := h
      cases w <;> simp only [lastOk] at h5 <;> omega
    simp only [wr, wl, Str.length_append, len_sgn, len_nS (n := m) (by have := h.1; omega) (by have := h.2.1; omega), len_nS (n := k) (by have := h.2.2.1; omega) (by have := h.2.2.2.1; omega), len_nS hl.1 hl.2]; omega
  | .two w a b, h => by
    have l := len_lit1
    have ha := len_wr h.1
    have hb := len_wr h.2
    have c1 : (Str.ofString (clS .most)).length = 3 ∧ (Str.ofString (clS .least)).length = 3 ∧ (Str.ofString (clS .beats)).length = 5 := by decide +kernel
    cases w <;> simp only [wr, wl, Str.length_append, len_brk, ha, hb] <;> omega
  | .times n a, h => by
    have l := len_lit1
    have ha := len_wr h.2.2
    simp only [wr, wl, Str.length_append, len_brk, ha, len_nS (n := n) h.1 (by have := h.2.1; omega)]; omega
theorem wl_le : ∀ s, wl s ≤ 20 * 4 ^ dep s
  | .num _ => by simp [wl, dep]
  | .die _ _ => by simp [wl, dep]
  | .dl _ _ _ _ => by simp [wl, dep]
  | .two w a b => by
    have ha := wl_le a
    have hb := wl_le b
    have p1 : 4 ^ dep a ≤ 4 ^ max (dep a) (dep b) := Nat.pow_le_pow_right (by decide) (Nat.le_max_left _ _)
    have p2 : 4 ^ dep b ≤ 4 ^ max (dep a) (dep b) := Nat.pow_le_pow_right (by decide) (Nat.le_max_right _ _)
    have p0 : 0 < 4 ^ max (dep a) (dep b) := Nat.pow_pos (by decide)
    simp only [dep, Nat.pow_succ]
    cases w <;> simp only [wl, br] <;> (try split) <;> omega
  | .times n a => by
    have ha := wl_le a
    have p0 : 0 < 4 ^ dep a := Nat.pow_pos (by decide)
    simp only [dep, Nat.pow_succ, wl, br]
    split <;> omega
theorem wl_pos : ∀ s, 1 ≤ wl s
  | .num _ => by simp [wl]
  | .die _ _ => by simp [wl]
  | .dl _ _ _ _ => by simp [wl]
  | .two w a b => by cases w <;> simp only [wl] <;> omega
  | .times _ a => by simp only [wl]; omega
end Ml

/-! The plain reader, at a saying's text. -/
namespace Ml
open PySem L2
def ts (x : Str) : List Nat := x.cps.toList
theorem ts_app (a b : Str) : ts (a ++ b) = ts a ++ ts b := by
  show (a.cps ++ b.cps).toList = _
  rw [Array.toList_append]; rfl
theorem ts_len (x : Str) : (ts x).length = x.length := len_cps x
theorem pHas_app (x : Str) (r : List Nat) : pHas x (ts x ++ r) = some r := by
  unfold pHas
  rw [if_pos]
  · rw [← ts_len, List.drop_left]
  · exact List.isPrefixOf_iff_prefix.mpr (List.prefix_append _ _)
theorem lits : ts "(" = [40] ∧ ts ")" = [41] ∧ ts ", " = [44, 32] ∧ ts " + " = [32, 43, 32] ∧ ts " - " = [32, 45, 32] ∧ ts " * " = [32, 42, 32] ∧ ts "d" = [100] ∧ ts "max(" = [109, 97, 120, 40] ∧ ts "min(" = [109, 105, 110, 40] ∧ ts "beats(" = [98, 101, 97, 116, 115, 40] := by decide +kernel
theorem litsS : ts "h" = [104] ∧ ts "l" = [108] ∧ ts "r" = [114] ∧ ts "x" = [120] ∧ ts "c" = [99] := by decide +kernel
theorem litc : ts "max" = [109, 97, 120] ∧ ts "min" = [109, 105, 110] ∧ ts "beats" = [98, 101, 97, 116, 115] := by decide +kernel
theorem pHas_no {x : Str} {a : Nat} {t r : List Nat} (h : ts x = a :: t) (hr : ∀ c u, r = c :: u → c ≠ a) : pHas x r = none := by
  unfold pHas
  rw [if_neg]
  show ¬ (ts x).isPrefixOf r = true
  rw [h]
  cases r with
  | nil => simp [List.isPrefixOf]
  | cons c u =>
    have := hr c u rfl
    simp [List.isPrefixOf]
    intro z
    exact absurd z.symm this
theorem pHas_no2 {x : Str} {a b : Nat} {t r : List Nat} (h : ts x = a :: b :: t) (hr : ∀ c e u, r = c :: e :: u → c = a → e ≠ b) : pHas x r = none := by
  unfold pHas
  rw [if_neg]
  show ¬ (ts x).isPrefixOf r = true
  rw [h]
  cases r with
  | nil => simp [List.isPrefixOf]
  | cons c u =>
    cases u with
    | nil => simp [List.isPrefixOf]
    | cons e u =>
      have := hr c e u rfl
      simp [List.isPrefixOf]
      intro z q
      exact absurd q.symm (this z.symm)
/-- what may stand behind a part, behind a saying -/
def stp : List Nat → Prop
  | [] => True
  | [c] => c = 41 ∨ c = 44
  | c :: e :: _ => c = 41 ∨ c = 44 ∨ c = 32 ∧ (e = 43 ∨ e = 45)
def stS : List Nat → Prop
  | [] => True
  | c :: _ => c = 41 ∨ c = 44
theorem stS_stp : ∀ {r : List Nat}, stS r → stp r
  | [], _ => trivial
  | [c], h => h
  | c :: e :: _, h => h.elim .inl fun q => .inr (.inl q)
theorem stp_hd {c : Nat} {r : List Nat} (h : stp (c :: r)) : c = 41 ∨ c = 44 ∨ c = 32 := by
  cases r with
  | nil => exact h.elim .inl fun q => .inr (.inl q)
  | cons e u => rcases h with q | q | q; exact .inl q; exact .inr (.inl q); exact .inr (.inr q.1)
theorem stp_times {r : List Nat} (h : stp r) : pHas " * " r = none :=
  pHas_no2 lits.2.2.2.2.2.1 fun c e u er hc he => by subst er; subst hc he; simp [stp] at h
theorem stp_one {r : List Nat} (h : stp r) {x : Str} {a : Nat} {t : List Nat} (hx : ts x = a :: t) (ha : a ≠ 41) (hb : a ≠ 44) (hc : a ≠ 32) : pHas x r = none :=
  pHas_no hx fun c u er z => by
    subst er z
    rcases stp_hd h with q | q | q
    · exact ha q
    · exact hb q
    · exact hc q
theorem stS_sum {r : List Nat} (h : stS r) : pHas " + " r = none ∧ pHas " - " r = none :=
  ⟨pHas_no lits.2.2.2.1 fun c u er z => (by subst er z; exact h.elim (fun q => by cases q) (fun q => by cases q)), pHas_no lits.2.2.2.2.1 fun c u er z => (by subst er z; exact h.elim (fun q => by cases q) (fun q => by cases q))⟩
theorem ts_nS {n : Int} (h0 : 0 ≤ n) (h9 : n ≤ 9) : ts (nS n) = [48 + n.toNat] := by
  have h : n = 0 ∨ n = 1 ∨ n = 2 ∨ n = 3 ∨ n = 4 ∨ n = 5 ∨ n = 6 ∨ n = 7 ∨ n = 8 ∨ n = 9 := by omega
  rcases h with rfl | rfl | rfl | rfl | rfl | rfl | rfl | rfl | rfl | rfl <;> decide +kernel
theorem pFig_nS {n : Int} (h0 : 0 ≤ n) (h9 : n ≤ 9) (r : List Nat) : pFig (ts (nS n) ++ r) = some (n, r) := by
  rw [ts_nS h0 h9]
  simp only [List.cons_append, List.nil_append, pFig]
  rw [if_pos ⟨by omega, by omega⟩]
  congr 2
  omega
/-- a figure comes: no bracket, no call -/
theorem dig_no {n : Int} (h0 : 0 ≤ n) (h9 : n ≤ 9) (r : List Nat) (P : Ps) : pHas "(" (ts (nS n) ++ r) = none ∧ pCall P (ts (nS n) ++ r) = none := by
  rw [ts_nS h0 h9]
  have no : ∀ {x : Str} {a : Nat} {t : List Nat}, ts x = a :: t → (a < 48 ∨ 57 < a) → pHas x ([48 + n.toNat] ++ r) = none := fun hx ha => pHas_no hx fun c u er z => by
    simp only [List.cons_append, List.nil_append, List.cons.injEq] at er
    omega
  have l := lits
  refine ⟨no l.1 (by decide), ?_⟩
  unfold pCall
  rw [no l.2.2.2.2.2.2.2.1 (by decide), no l.2.2.2.2.2.2.2.2.1 (by decide), no l.2.2.2.2.2.2.2.2.2 (by decide)]
theorem lit_call3 : Str.ofString "max" ++ Str.ofString "(" = Str.ofString "max(" ∧ Str.ofString "min" ++ Str.ofString "(" = Str.ofString "min(" ∧ Str.ofString "beats" ++ Str.ofString "(" = Str.ofString "beats(" := by decide +kernel
def spn : Say → Nat
  | .two .plus a _ => spn a + 1
  | .two .less a _ => spn a + 1
  | _ => 0
theorem spn_lt : ∀ s, spn s < dep s
  | .num _ => by simp [spn, dep]
  | .die _ _ => by simp [spn, dep]
  | .dl _ _ _ _ => by simp [spn, dep]
  | .times _ _ => by simp [spn, dep]
  | .two w a b => by
    have := spn_lt a
    cases w <;> simp only [spn, dep] <;> omega
def PB (s : Say) : Prop := inPL s = false → ∀ k r, 2 * dep s ≤ k + 1 → stp r → pPart k (ts (wr s) ++ r) = some (enc s, r)
def PC (s : Say) : Prop := ∀ k r n, 2 * dep s ≤ k + 1 → stp r → (match pPart k (ts (wr s) ++ r) with
  | some (d, r1) => pLoop (pPart k) (spn s + n) d r1
  | none => none) = pLoop (pPart k) n (enc s) r
theorem pLoop_stop {P : Ps} {d : D} {r : List Nat} (h : stS r) : ∀ n, pLoop P n d r = some (d, r)
  | 0 => rfl
  | n + 1 => by
    unfold pLoop
    rw [(stS_sum h).1, (stS_sum h).2]
    exact pLoop_stop h n
theorem PC.say {s : Say} (h : PC s) (hd : dep s ≤ 7) {k : Nat} {r : List Nat} (hk : 2 * dep s ≤ k + 1) (hr : stS r) : pSay (pPart k) (ts (wr s) ++ r) = some (enc s, r) := by
  have hs := spn_lt s
  have q := h k r (6 - spn s) hk (stS_stp hr)
  rw [Nat.add_sub_cancel' (by omega), pLoop_stop hr] at q
  unfold pSay
  exact q
theorem PB.pc {s : Say} (h : PB s) (hp : inPL s = false) : PC s := fun k r n hk hr => by
  rw [h hp k r hk hr]
  have : spn s = 0 := by
    cases s with
    | two w a b => cases w <;> first | rfl | cases hp
    | _ => rfl
  simp only [this, Nat.zero_add]
theorem stS_cl (r : List Nat) : stS (ts ")" ++ r) := by rw [lits.2.1]; exact .inl rfl
theorem stS_co (r : List Nat) : stS (ts ", " ++ r) := by rw [lits.2.2.1]; exact .inr rfl
theorem stp_pl (r : List Nat) : stp (ts " + " ++ r) := by rw [lits.2.2.2.1]; exact .inr (.inr ⟨rfl, .inl rfl⟩)
theorem stp_le (r : List Nat) : stp (ts " - " ++ r) := by rw [lits.2.2.2.2.1]; exact .inr (.inr ⟨rfl, .inr rfl⟩)
/-- in brackets or not -/
theorem brk_part {s : Say} (hb : PB s) (hc : PC s) (hd : dep s ≤ 7) {b : Bool} (hbb : b = false → inPL s = false) {k : Nat} {r : List Nat} (hk : 2 * dep s ≤ k) (hr : stp r) : pPart k (ts (brk b (wr s)) ++ r) = some (enc s, r) := by
  cases b with
  | false =>
    have e : brk false (wr s) = wr s := rfl
    rw [e]
    exact hb (hbb rfl) k r (by omega) hr
  | true =>
    have e : brk true (wr s) = Str.ofString "(" ++ wr s ++ Str.ofString ")" := rfl
    rw [e, ts_app, ts_app, List.append_assoc, List.append_assoc]
    have := dep_pos s
    obtain ⟨j, rfl⟩ : ∃ j, k = j + 1 := ⟨k - 1, by omega⟩
    unfold pPart
    rw [pHas_app]
    simp only
    rw [hc.say hd (by omega) (stS_cl r)]
    simp only
    rw [pHas_app]
theorem par : ∀ s, Wf s → dep s ≤ 7 → PB s ∧ PC s
  | .num n, hw, _ => by
    have hb : PB (.num n) := fun _ k r hk hr => by
      obtain ⟨j, rfl⟩ : ∃ j, k = j + 1 := ⟨k - 1, by simp only [dep] at hk; omega⟩
      have d := dig_no hw.1 hw.2 r (pPart j)
      simp only [wr]
      unfold pPart
      rw [d.1, d.2]
      simp only
      rw [pFig_nS hw.1 hw.2]
      simp only
      rw [stp_times hr, stp_one hr lits.2.2.2.2.2.2.1 (by decide) (by decide) (by decide)]
      rfl
    exact ⟨hb, hb.pc rfl⟩
  | .die m z, hw, _ => by
    obtain ⟨h1, h2, h3, h4⟩ := hw
    have hb : PB (.die m z) := fun _ k r hk hr => by
      obtain ⟨j, rfl⟩ : ∃ j, k = j + 1 := ⟨k - 1, by simp only [dep] at hk; omega⟩
      simp only [wr, ts_app, List.append_assoc]
      have d := dig_no (n := m) (by omega) (by omega) (ts "d" ++ (ts (nS z) ++ r)) (pPart j)
      have nt : pHas " * " (ts "d" ++ (ts (nS z) ++ r)) = none := pHas_no lits.2.2.2.2.2.1 fun c u er q => by
        rw [lits.2.2.2.2.2.2.1] at er
        simp only [List.cons_append, List.nil_append, List.cons.injEq] at er
        omega
      unfold pPart
      rw [d.1, d.2]
      simp only
      rw [pFig_nS (by omega) (by omega)]
      simp only
      rw [nt, pHas_app]
      simp only
      rw [pFig_nS (by omega) (by omega)]
      simp only
      have o := fun {x : Str} {a : Nat} {t : List Nat} (hx : ts x = a :: t) => stp_one hr (x := x) (a := a) (t := t) hx
      have l := litsS
      simp only [d_SIGNS, pSigns]
      rw [o l.1 (by decide) (by decide) (by decide), o l.2.1 (by decide) (by decide) (by decide), o l.2.2.1 (by decide) (by decide) (by decide), o l.2.2.2.1 (by decide) (by decide) (by decide), o l.2.2.2.2 (by decide) (by decide) (by decide)]
      rfl
    exact ⟨hb, hb.pc rfl⟩
  | .dl w m z l, hw, _ => by
    obtain ⟨h1, h2, h3, h4, h5⟩ := hw
    have hl : 0 ≤ l ∧ l ≤ 9 := by cases w <;> simp only [lastOk] at h5 <;> omega
    have hb : PB (.dl w m z l) := fun _ k r hk hr => by
      obtain ⟨j, rfl⟩ : ∃ j, k = j + 1 := ⟨k - 1, by simp only [dep] at hk; omega⟩
      simp only [wr, ts_app, List.append_assoc]
      have d := dig_no (n := m) (by omega) (by omega) (ts "d" ++ (ts (nS z) ++ (ts (Str.ofString (sgn w)) ++ (ts (nS l) ++ r)))) (pPart j)
      have nt : pHas " * " (ts "d" ++ (ts (nS z) ++ (ts (Str.ofString (sgn w)) ++ (ts (nS l) ++ r)))) = none := pHas_no lits.2.2.2.2.2.1 fun c u er q => by
        rw [lits.2.2.2.2.2.2.1] at er
        simp only [List.cons_append, List.nil_append, List.cons.injEq] at er
        omega
      unfold pPart
      rw [d.1, d.2]
      simp only
      rw [pFig_nS (by omega) (by omega)]
      simp only
      rw [nt, pHas_app]
      simp only
      rw [pFig_nS (by omega) (by omega)]
      simp only
      have no : ∀ {x y : Str} {a b : Nat} {t u : List Nat}, ts x = a :: t → ts y = b :: u → a ≠ b → pHas x (ts y ++ (ts (nS l) ++ r)) = none := fun hx hy ha => pHas_no hx fun c v er q => by
        rw [hy] at er
        simp only [List.cons_append, List.cons.injEq] at er
        omega
      have e := litsS
      have f := pFig_nS hl.1 hl.2 r
      cases w with
      | high =>
        simp only [d_SIGNS, pSigns, sgn]
        rw [pHas_app]; simp only; rw [f]; rfl
      | low =>
        simp only [d_SIGNS, pSigns, sgn]
        rw [no e.1 e.2.1 (by decide), pHas_app]; simp only; rw [f]; rfl
      | again =>
        simp only [d_SIGNS, pSigns, sgn]
        rw [no e.1 e.2.2.1 (by decide), no e.2.1 e.2.2.1 (by decide), pHas_app]; simp only; rw [f]; rfl
      | burst =>
        simp only [d_SIGNS, pSigns, sgn]
        rw [no e.1 e.2.2.2.1 (by decide), no e.2.1 e.2.2.2.1 (by decide), no e.2.2.1 e.2.2.2.1 (by decide), pHas_app]; simp only; rw [f]; rfl
      | count =>
        simp only [d_SIGNS, pSigns, sgn]
        rw [no e.1 e.2.2.2.2 (by decide), no e.2.1 e.2.2.2.2 (by decide), no e.2.2.1 e.2.2.2.2 (by decide), no e.2.2.2.1 e.2.2.2.2 (by decide), pHas_app]; simp only; rw [f]; rfl
    exact ⟨hb, hb.pc rfl⟩
  | .times n a, hw, hd => by
    obtain ⟨h1, h2, h3⟩ := hw
    have pa := par a h3 (by simp only [dep] at hd; omega)
    have hb : PB (.times n a) := fun _ k r hk hr => by
      simp only [dep] at hk hd
      obtain ⟨j, rfl⟩ : ∃ j, k = j + 1 := ⟨k - 1, by omega⟩
      simp only [wr, ts_app, List.append_assoc]
      have d := dig_no (n := n) (by omega) (by omega) (ts " * " ++ (ts (brk (inPLT a) (wr a)) ++ r)) (pPart j)
      unfold pPart
      rw [d.1, d.2]
      simp only
      rw [pFig_nS (by omega) (by omega)]
      simp only
      rw [pHas_app]
      simp only
      rw [brk_part pa.1 pa.2 (by omega) (fun hf => by
        cases hpl : inPL a with
        | false => rfl
        | true =>
          cases a with
          | two w x y =>
            have hf' : inPL (.two w x y) = false := hf
            rw [hf'] at hpl
            cases hpl
          | _ => cases hpl) (by omega) hr]
      rfl
    exact ⟨hb, hb.pc rfl⟩
  | .two w a b, hw, hd => by
    have pa := par a hw.1 (by simp only [dep] at hd; omega)
    have pb := par b hw.2 (by simp only [dep] at hd; omega)
    have da : dep a < dep (.two w a b) := by simp only [dep]; omega
    have db : dep b < dep (.two w a b) := by simp only [dep]; omega
    have call : ∀ (g : String) (c : Nat) (t : List Nat), wr (.two w a b) = Str.ofString g ++ Str.ofString "(" ++ wr a ++ Str.ofString ", " ++ wr b ++ Str.ofString ")" → ts (Str.ofString g ++ Str.ofString "(") = c :: t → c ≠ 40 →
        (∀ k r, pCall (pPart k) (ts (Str.ofString g ++ Str.ofString "(") ++ r) = some (pArgs (pPart k) w.s r)) → inPL (.two w a b) = false → PB (.two w a b) ∧ PC (.two w a b) := fun g c t ew hg hc hcl hp => by
      have hb : PB (.two w a b) := fun _ k r hk hr => by
        obtain ⟨j, rfl⟩ : ∃ j, k = j + 1 := ⟨k - 1, by omega⟩
        rw [ew]
        rw [ts_app _ (Str.ofString ")"), ts_app _ (wr b), ts_app _ (Str.ofString ", "), ts_app _ (wr a)]
        simp only [List.append_assoc]
        unfold pPart
        rw [pHas_no lits.1 fun c' u er q => by
          rw [hg] at er
          simp only [List.cons_append, List.cons.injEq] at er
          omega]
        simp only
        rw [hcl]
        simp only
        unfold pArgs
        rw [pa.2.say (by omega) (by omega) (stS_co _)]
        simp only
        rw [pHas_app]
        simp only
        rw [pb.2.say (by omega) (by omega) (stS_cl _)]
        simp only
        rw [pHas_app]
        rfl
      exact ⟨hb, hb.pc hp⟩
    have nh : ∀ {x y : Str} {c e c' e' : Nat} {t t' r : List Nat}, ts x = c :: e :: t → ts y = c' :: e' :: t' → (c ≠ c' ∨ e ≠ e') → pHas x (ts y ++ r) = none := fun hx hy hn => pHas_no2 hx fun p q u er z z' => by
      rw [hy] at er
      simp only [List.cons_append, List.cons.injEq] at er
      omega
    have sm : ∀ (z : String) (wd : String), Str.ofString w.s = Str.ofString wd → wr (.two w a b) = wr a ++ Str.ofString z ++ brk (inPL b) (wr b) → (∀ r, stp (ts (Str.ofString z) ++ r)) → spn (.two w a b) = spn a + 1 →
        (∀ (P : Ps) n d r, pLoop P (n + 1) d (ts (Str.ofString z) ++ r) = match P r with
          | some (d', r2) => pLoop P n (.tup [.str (Str.ofString wd), d, d']) r2
          | none => none) → inPL (.two w a b) = true → PB (.two w a b) ∧ PC (.two w a b) := fun z wd ewd ew hs hsp hl hp => by
      refine ⟨fun h => (by rw [hp] at h; cases h), fun k r n hk hr => ?_⟩
      rw [ew, ts_app, ts_app, List.append_assoc, List.append_assoc, hsp, Nat.add_assoc, Nat.add_comm 1 n]
      rw [pa.2 k (ts (Str.ofString z) ++ (ts (brk (inPL b) (wr b)) ++ r)) (n + 1) (by omega) (hs _), hl]
      rw [brk_part pb.1 pb.2 (by omega) (fun h => h) (by omega) hr]
      simp only [enc, ewd]
    have L := lits
    have C := lit_call3
    cases w with
    | most =>
      refine call "max" 109 _ rfl (by rw [C.1]; exact L.2.2.2.2.2.2.2.1) (by decide) (fun k r => ?_) rfl
      rw [C.1]
      unfold pCall
      rw [pHas_app]
      rfl
    | least =>
      refine call "min" 109 _ rfl (by rw [C.2.1]; exact L.2.2.2.2.2.2.2.2.1) (by decide) (fun k r => ?_) rfl
      rw [C.2.1]
      unfold pCall
      rw [nh L.2.2.2.2.2.2.2.1 L.2.2.2.2.2.2.2.2.1 (by decide), pHas_app]
      rfl
    | beats =>
      refine call "beats" 98 _ rfl (by rw [C.2.2]; exact L.2.2.2.2.2.2.2.2.2) (by decide) (fun k r => ?_) rfl
      rw [C.2.2]
      unfold pCall
      rw [nh L.2.2.2.2.2.2.2.1 L.2.2.2.2.2.2.2.2.2 (by decide), nh L.2.2.2.2.2.2.2.2.1 L.2.2.2.2.2.2.2.2.2 (by decide), pHas_app]
      rfl
    | plus =>
      refine sm " + " "plus" rfl rfl stp_pl rfl (fun P n d r => ?_) rfl
      rw [pLoop, pHas_app]
      try rfl
    | less =>
      refine sm " - " "less" rfl rfl stp_le rfl (fun P n d r => ?_) rfl
      rw [pLoop, pHas_app, nh L.2.2.2.1 L.2.2.2.2.1 (by decide)]
      try rfl
theorem par_say {s : Say} (hw : Wf s) (hd : dep s ≤ 3) : pSay (pPart 6) (ts (wr s)) = some (enc s, []) := by
  have := (par s hw (by omega)).2.say (by omega) (k := 6) (r := []) (by omega) trivial
  rwa [List.append_nil] at this
end Ml

namespace Ml
open PySem L2
@[simp] theorem e_InTab (f : Bool → Bool) (tab : List (String × String)) (ma : Mo D) (ev : Ev) (st : Sto) : mInTab f tab ma ev st = (ma ev st).bind fun d st1 => match d with
  | .str z => .ok (.bl (f (tabAt tab z).isSome)) st1
  | _ => .bad := rfl
@[simp] theorem e_AtTab (tab : List (String × String)) (ma : Mo D) (ev : Ev) (st : Sto) : mAtTab tab ma ev st = (ma ev st).bind fun d st1 => match d with
  | .str z => (match tabAt tab z with
    | some v => .ok (.str (Str.ofString v)) st1
    | none => .bad)
  | _ => .bad := rfl
theorem addS {x y : Str} {n : Nat} (st : Sto) (h : x.length + y.length = n) (hn : n ≤ 100000) : gAdd (.str x) (.str y) st = some (.str (x ++ y), st) := by
  rw [e_addS, if_pos]
  have : lim = 1000000 := rfl
  omega
theorem strN {i : Int} (h0 : 0 ≤ i) (h9 : i ≤ 9) (st : Sto) : gStr [.int i] st = some (.str (nS i), st) := by
  rw [e_str, if_pos (by omega)]; rfl
theorem ne_dice (w : WL) : (Str.ofString w.s == Str.ofString "dice") = false := by cases w <;> simp [WL.s]
theorem br_ok {c_wr : Fm} {a : Say} {st : Sto} (hw : Wf a) (hl : wl a ≤ 90000) (h : c_wr [enc a] st = .ok (.str (wr a)) st) :
    fnM 2 2 (m_in_brackets c_wr) [enc a, .tup [.str "plus", .str "less"]] st = .ok (.str (brk (inPL a) (wr a))) st ∧ fnM 2 2 (m_in_brackets c_wr) [enc a, .tup [.str "plus", .str "less", .str "times"]] st = .ok (.str (brk (inPLT a) (wr a))) st := by
  have l := len_lit1
  have la := len_wr hw
  have e1 := addS (x := Str.ofString "(") (y := wr a) st rfl (by omega)
  have e2 := addS (x := Str.ofString "(" ++ wr a) (y := Str.ofString ")") st rfl (by rw [Str.length_append]; omega)
  cases a with
  | num n => exact ⟨by simp [-enc_num, fnM, m_in_brackets, hd, h, inPL, brk], by simp [-enc_num, -enc_die, fnM, m_in_brackets, hd, h, inPL, inPLT, brk]⟩
  | die m k => exact ⟨by simp [-enc_die, fnM, m_in_brackets, hd, h, inPL, brk], by simp [-enc_num, -enc_die, fnM, m_in_brackets, hd, h, inPL, inPLT, brk]⟩
  | dl w m k l => exact ⟨by cases w <;> simp [fnM, m_in_brackets, hd, h, inPL, brk, WL.s], by cases w <;> simp [fnM, m_in_brackets, hd, h, inPL, inPLT, brk, WL.s]⟩
  | two w x y => exact ⟨by cases w <;> simp [fnM, m_in_brackets, hd, h, inPL, brk, W2.s, -e_addS, e1, e2], by cases w <;> simp [fnM, m_in_brackets, hd, h, inPL, inPLT, brk, W2.s, -e_addS, e1, e2]⟩
  | times n x => exact ⟨by simp [fnM, m_in_brackets, hd, h, inPL, brk, -e_addS, e1, e2], by simp [fnM, m_in_brackets, hd, h, inPL, inPLT, brk, -e_addS, e1, e2]⟩
theorem written_step {c_br c_wr : Fm} {s : Say} {st : Sto} (hw : Wf s) (hl : wl s ≤ 90000)
    (hwr : ∀ a, Wf a → dep a < dep s → wl a ≤ 90000 → c_wr [enc a] st = .ok (.str (wr a)) st)
    (hb1 : ∀ a, Wf a → dep a < dep s → wl a ≤ 90000 → c_br [enc a, .tup [.str "plus", .str "less"]] st = .ok (.str (brk (inPL a) (wr a))) st)
    (hb2 : ∀ a, Wf a → dep a < dep s → wl a ≤ 90000 → c_br [enc a, .tup [.str "plus", .str "less", .str "times"]] st = .ok (.str (brk (inPLT a) (wr a))) st) :
    fnM 1 3 (m_written c_br c_wr) [enc s] st = .ok (.str (wr s)) st := by
  have l := len_lit1
  cases s with
  | num n => simp [fnM, m_written, -e_str, strN hw.1 hw.2, wr]
  | die m k =>
    obtain ⟨h1, h2, h3, h4⟩ := hw
    have lm := len_nS (n := m) (by omega) (by omega)
    have lk := len_nS (n := k) (by omega) (by omega)
    have e1 := addS (x := nS m) (y := Str.ofString "d") st rfl (by omega)
    have e2 := addS (x := nS m ++ Str.ofString "d") (y := nS k) st rfl (by rw [Str.length_append]; omega)
    simp [fnM, m_written, -e_str, -e_addS, strN (i := m) (by omega) (by omega), strN (i := k) (by omega) (by omega), e1, e2, wr, tabAt, d_SUMS, d_CALLS]
  | dl w m k z =>
    obtain ⟨h1, h2, h3, h4, h5⟩ := hw
    have hz : 0 ≤ z ∧ z ≤ 9 := by cases w <;> simp only [lastOk] at h5 <;> omega
    have lm := len_nS (n := m) (by omega) (by omega)
    have lk := len_nS (n := k) (by omega) (by omega)
    have lz := len_nS hz.1 hz.2
    have ls := len_sgn w
    have e1 := addS (x := nS m) (y := Str.ofString "d") st rfl (by omega)
    have e2 := addS (x := nS m ++ Str.ofString "d") (y := nS k) st rfl (by rw [Str.length_append]; omega)
    have e3 := addS (x := nS m ++ Str.ofString "d" ++ nS k) (y := Str.ofString (sgn w)) st rfl (by rw [Str.length_append, Str.length_append]; omega)
    have e4 := addS (x := nS m ++ Str.ofString "d" ++ nS k ++ Str.ofString (sgn w)) (y := nS z) st rfl (by rw [Str.length_append, Str.length_append, Str.length_append]; omega)
    cases w <;> simp only [sgn] at e3 e4 <;> simp [fnM, m_written, -e_str, -e_addS, strN (i := m) (by omega) (by omega), strN (i := k) (by omega) (by omega), strN hz.1 hz.2, e1, e2, e3, e4, wr, enc, WL.s, sgn, tabAt, d_SUMS, d_CALLS, d_SIGNS]
  | two w a b =>
    have da : dep a < dep (.two w a b) := by simp only [dep]; omega
    have db : dep b < dep (.two w a b) := by simp only [dep]; omega
    have la := len_wr hw.1
    have lb := len_wr hw.2
    have hbb : wl b ≤ br (inPL b) (wl b) := by unfold br; split <;> omega
    have hab : wl a ≤ 90000 ∧ wl b ≤ 90000 ∧ wl a + wl b ≤ 90000 ∧ br (inPL b) (wl b) ≤ wl b + 2 := by
      have : br (inPL b) (wl b) ≤ wl b + 2 := by unfold br; split <;> omega
      cases w <;> simp only [wl] at hl <;> omega
    have f1 := hwr a hw.1 da hab.1
    have f2 := hwr b hw.2 db hab.2.1
    have f3 := hb1 b hw.2 db hab.2.1
    have lbk := len_brk (inPL b) (wr b)
    rw [lb] at lbk
    have sums : ∀ z : String, (Str.ofString z).length = 3 → gAdd (.str (wr a)) (.str (Str.ofString z)) st = some (.str (wr a ++ Str.ofString z), st) ∧ gAdd (.str (wr a ++ Str.ofString z)) (.str (brk (inPL b) (wr b))) st = some (.str (wr a ++ Str.ofString z ++ brk (inPL b) (wr b)), st) := fun z hz =>
      ⟨addS st rfl (by omega), addS st rfl (by rw [Str.length_append]; omega)⟩
    have calls : ∀ z : String, (Str.ofString z).length ≤ 5 → gAdd (.str (Str.ofString z)) (.str (Str.ofString "(")) st = some (.str (Str.ofString z ++ Str.ofString "("), st) ∧ gAdd (.str (Str.ofString z ++ Str.ofString "(")) (.str (wr a)) st = some (.str (Str.ofString z ++ Str.ofString "(" ++ wr a), st) ∧
        gAdd (.str (Str.ofString z ++ Str.ofString "(" ++ wr a)) (.str (Str.ofString ", ")) st = some (.str (Str.ofString z ++ Str.ofString "(" ++ wr a ++ Str.ofString ", "), st) ∧ gAdd (.str (Str.ofString z ++ Str.ofString "(" ++ wr a ++ Str.ofString ", ")) (.str (wr b)) st = some (.str (Str.ofString z ++ Str.ofString "(" ++ wr a ++ Str.ofString ", " ++ wr b), st) ∧
        gAdd (.str (Str.ofString z ++ Str.ofString "(" ++ wr a ++ Str.ofString ", " ++ wr b)) (.str (Str.ofString ")")) st = some (.str (Str.ofString z ++ Str.ofString "(" ++ wr a ++ Str.ofString ", " ++ wr b ++ Str.ofString ")"), st) := fun z hz =>
      ⟨addS st rfl (by omega), addS st rfl (by simp only [Str.length_append]; omega), addS st rfl (by simp only [Str.length_append]; omega), addS st rfl (by simp only [Str.length_append]; omega), addS st rfl (by simp only [Str.length_append]; omega)⟩
    have c1 : (Str.ofString "max").length = 3 ∧ (Str.ofString "min").length = 3 ∧ (Str.ofString "beats").length = 5 := by decide +kernel
    cases w with
    | plus =>
      obtain ⟨e1, e2⟩ := sums " + " l.2.1
      simp [fnM, m_written, -e_addS, enc, W2.s, tabAt, d_SUMS, f1, f3, e1, e2, wr]
    | less =>
      obtain ⟨e1, e2⟩ := sums " - " l.2.2.1
      simp [fnM, m_written, -e_addS, enc, W2.s, tabAt, d_SUMS, f1, f3, e1, e2, wr]
    | most =>
      obtain ⟨e1, e2, e3, e4, e5⟩ := calls "max" (by omega)
      simp [fnM, m_written, -e_addS, enc, W2.s, tabAt, d_SUMS, d_CALLS, f1, f2, e1, e2, e3, e4, e5, wr, clS]
    | least =>
      obtain ⟨e1, e2, e3, e4, e5⟩ := calls "min" (by omega)
      simp [fnM, m_written, -e_addS, enc, W2.s, tabAt, d_SUMS, d_CALLS, f1, f2, e1, e2, e3, e4, e5, wr, clS]
    | beats =>
      obtain ⟨e1, e2, e3, e4, e5⟩ := calls "beats" (by omega)
      simp [fnM, m_written, -e_addS, enc, W2.s, tabAt, d_SUMS, d_CALLS, f1, f2, e1, e2, e3, e4, e5, wr, clS]
  | times n a =>
    have da : dep a < dep (.times n a) := by simp only [dep]; omega
    have la := len_wr hw.2.2
    have hbb : wl a ≤ br (inPLT a) (wl a) := by unfold br; split <;> omega
    simp only [wl] at hl
    have f3 := hb2 a hw.2.2 da (by omega)
    have lbk := len_brk (inPLT a) (wr a)
    rw [la] at lbk
    have ln := len_nS (n := n) hw.1 (by have := hw.2.1; omega)
    have e1 := addS (x := nS n) (y := Str.ofString " * ") st rfl (by omega)
    have e2 := addS (x := nS n ++ Str.ofString " * ") (y := brk (inPLT a) (wr a)) st rfl (by rw [Str.length_append]; omega)
    simp [fnM, m_written, -e_addS, -e_str, enc, strN hw.1 (by have := hw.2.1; omega), f3, e1, e2, wr]
end Ml

namespace Ml
open PySem L2
def Rd (base : Sto) (i : Nat) (T : Str) (res : Rs D) (p : Option (D × List Nat)) : Prop := match p with
  | some (d, r) => res = .ok d (At base i T r)
  | none => ∃ r, res = .exc "NoText" [] (At base i T r)
theorem Rd.some {base : Sto} {i : Nat} {T : Str} {res : Rs D} {p : Option (D × List Nat)} {d : D} {r : List Nat} (h : Rd base i T res p) (e : p = some (d, r)) : res = .ok d (At base i T r) := by subst e; exact h
theorem Rd.none {base : Sto} {i : Nat} {T : Str} {res : Rs D} {p : Option (D × List Nat)} (h : Rd base i T res p) (e : p = none) : ∃ r, res = .exc "NoText" [] (At base i T r) := by subst e; exact h
structure Has (base : Sto) (i : Nat) (T : Str) (c_has c_must c_fig : Fm) : Prop where
  lt : i < base.length
  has : ∀ (x : Str) r r1, x.length ≤ 20 → r <:+ T.cps.toList → pHas x r = some r1 → c_has [.ref i, .str x] (At base i T r) = .ok (.bl true) (At base i T r1)
  hasN : ∀ (x : Str) r, x.length ≤ 20 → r <:+ T.cps.toList → pHas x r = none → c_has [.ref i, .str x] (At base i T r) = .ok (.bl false) (At base i T r)
  must : ∀ (x : Str) r r1, x.length ≤ 20 → r <:+ T.cps.toList → pHas x r = some r1 → c_must [.ref i, .str x] (At base i T r) = .ok .non (At base i T r1)
  mustN : ∀ (x : Str) r, x.length ≤ 20 → r <:+ T.cps.toList → pHas x r = none → c_must [.ref i, .str x] (At base i T r) = .exc "NoText" [] (At base i T r)
  fig : ∀ r n r1, r <:+ T.cps.toList → pFig r = some (n, r1) → c_fig [.ref i] (At base i T r) = .ok (.int n) (At base i T r1)
  figN : ∀ r, r <:+ T.cps.toList → pFig r = none → c_fig [.ref i] (At base i T r) = .exc "NoText" [] (At base i T r)
theorem len20 : (Str.ofString " + ").length ≤ 20 ∧ (Str.ofString " - ").length ≤ 20 ∧ (Str.ofString " * ").length ≤ 20 ∧ (Str.ofString "(").length ≤ 20 ∧ (Str.ofString ")").length ≤ 20 ∧ (Str.ofString ", ").length ≤ 20 ∧ (Str.ofString "d").length ≤ 20 ∧ (Str.ofString "max(").length ≤ 20 ∧ (Str.ofString "min(").length ≤ 20 ∧ (Str.ofString "beats(").length ≤ 20 := by decide +kernel
variable {base : Sto} {i : Nat} {T : Str} {c_has c_must c_fig c_part c_say c_call : Fm}
/-! saying -/
theorem sloop_ok {P : Ps} {k : Int} (H : Has base i T c_has c_must c_fig) (hP : Suf P) (hp : ∀ r, r <:+ T.cps.toList → Rd base i T (c_part [.ref i, .int k] (At base i T r)) (P r)) :
    ∀ (ds : List D) (f : D) (r : List Nat) (v3 : Option D), r <:+ T.cps.toList → (match pLoop P ds.length f r with
      | some (d, r1) => ∃ v3', loop (gtName 3) (m_Reader_saying_b1 c_has c_part) ds [some (.ref i), some (.int k), some f, v3] (At base i T r) = .ok (.nx, [some (.ref i), some (.int k), some d, v3']) (At base i T r1)
      | none => ∃ ev' r1, loop (gtName 3) (m_Reader_saying_b1 c_has c_part) ds [some (.ref i), some (.int k), some f, v3] (At base i T r) = .exc "NoText" ev' (At base i T r1))
  | [], f, r, v3, hr => ⟨v3, rfl⟩
  | x :: ds, f, r, v3, hr => by
    have ih := sloop_ok (k := k) H hP hp ds
    have hin := fun r => ins_at H.lt T r
    have l3 := len20
    rw [List.length_cons]
    unfold pLoop
    rw [e_loopC]
    cases h1 : pHas " + " r with
    | some r1 =>
      have e1 := H.has _ r r1 l3.1 hr h1
      have s1 := (pHas_suf h1).trans hr
      have q := hp r1 s1
      simp only
      cases h2 : P r1 with
      | none =>
        obtain ⟨r2, e2⟩ := q.none h2
        exact ⟨_, r2, by simp [-e_insR, m_Reader_saying_b1, hin, e1, cCall, e2]; rfl⟩
      | some z =>
        obtain ⟨d, r2⟩ := z
        have e2 := q.some h2
        have s2 := (hP _ _ _ h2).trans s1
        simp only
        have ih := ih (.tup [.str "plus", f, d]) r2 (some x) s2
        simp [-e_insR, m_Reader_saying_b1, hin, e1, cCall, e2]
        exact ih
    | none =>
      have e1 := H.hasN _ r l3.1 hr h1
      simp only
      cases h3 : pHas " - " r with
      | some r1 =>
        have e3 := H.has _ r r1 l3.2.1 hr h3
        have s1 := (pHas_suf h3).trans hr
        have q := hp r1 s1
        simp only
        cases h2 : P r1 with
        | none =>
          obtain ⟨r2, e2⟩ := q.none h2
          exact ⟨_, r2, by simp [-e_insR, m_Reader_saying_b1, hin, e1, e3, cCall, e2]; rfl⟩
        | some z =>
          obtain ⟨d, r2⟩ := z
          have e2 := q.some h2
          have s2 := (hP _ _ _ h2).trans s1
          simp only
          have ih := ih (.tup [.str "less", f, d]) r2 (some x) s2
          simp [-e_insR, m_Reader_saying_b1, hin, e1, e3, cCall, e2]
          exact ih
      | none =>
        have e3 := H.hasN _ r l3.2.1 hr h3
        simp only
        have ih := ih f r (some x) hr
        simp [-e_insR, m_Reader_saying_b1, hin, e1, e3, cCall]
        exact ih
theorem say_ok {P : Ps} {k : Int} {r : List Nat} (H : Has base i T c_has c_must c_fig) (hP : Suf P) (hp : ∀ r, r <:+ T.cps.toList → Rd base i T (c_part [.ref i, .int k] (At base i T r)) (P r)) (hr : r <:+ T.cps.toList) :
    Rd base i T (fnX 2 4 (m_Reader_saying c_has c_part) [.ref i, .int k] (At base i T r)) (pSay P r) := by
  have hin := fun r => ins_at H.lt T r
  have q := hp r hr
  have l6 : (6 : Int) ≤ ((lim : Nat) : Int) := by decide
  unfold pSay
  cases h1 : P r with
  | none =>
    obtain ⟨r2, e2⟩ := q.none h1
    exact ⟨r2, by simp [-e_insR, fnX, m_Reader_saying, hin, cCall, e2]⟩
  | some z =>
    obtain ⟨d, r1⟩ := z
    have e1 := q.some h1
    have s1 := (hP _ _ _ h1).trans hr
    have lo := sloop_ok (k := k) H hP hp (rngD 0 6) d r1 none s1
    rw [show (rngD 0 6).length = 6 from rfl] at lo
    simp only
    cases h2 : pLoop P 6 d r1 with
    | none =>
      rw [h2] at lo
      obtain ⟨ev', r2, e2⟩ := lo
      exact ⟨r2, by simp [-e_insR, fnX, m_Reader_saying, hin, cCall, e1, e2, l6]⟩
    | some z =>
      obtain ⟨d2, r2⟩ := z
      rw [h2] at lo
      obtain ⟨v3', e2⟩ := lo
      show _ = _
      simp [-e_insR, fnX, m_Reader_saying, hin, cCall, e1, e2, l6]
/-! a call -/
theorem lit_call : Str.ofString "max" ++ Str.ofString "(" = Str.ofString "max(" ∧ Str.ofString "min" ++ Str.ofString "(" = Str.ofString "min(" ∧ Str.ofString "beats" ++ Str.ofString "(" = Str.ofString "beats(" := by decide +kernel
theorem cat_call (st : Sto) : gAdd (.str (Str.ofString "max")) (.str (Str.ofString "(")) st = some (.str (Str.ofString "max("), st) ∧ gAdd (.str (Str.ofString "min")) (.str (Str.ofString "(")) st = some (.str (Str.ofString "min("), st) ∧ gAdd (.str (Str.ofString "beats")) (.str (Str.ofString "(")) st = some (.str (Str.ofString "beats("), st) := by
  have l := lit_call
  refine ⟨?_, ?_, ?_⟩
  · rw [e_addS, if_pos (by decide +kernel), l.1]
  · rw [e_addS, if_pos (by decide +kernel), l.2.1]
  · rw [e_addS, if_pos (by decide +kernel), l.2.2]
theorem tab_calls : tabAt d_CALLS "most" = some "max" ∧ tabAt d_CALLS "least" = some "min" ∧ tabAt d_CALLS "beats" = some "beats" := by decide +kernel
/-- one turn of the walk over the calls -/
theorem callb_ok {P : Ps} {k : Int} {r : List Nat} {w g : String} {v3 v4 : Option D} (H : Has base i T c_has c_must c_fig) (hP : Suf P) (hs : ∀ r, r <:+ T.cps.toList → Rd base i T (c_say [.ref i, .int k] (At base i T r)) (pSay P r)) (hr : r <:+ T.cps.toList)
    (hw : tabAt d_CALLS (Str.ofString w) = some g) (hg : ∀ st, gAdd (.str (Str.ofString g)) (.str (Str.ofString "(")) st = some (.str (Str.ofString (g ++ "(")), st)) (hl : (Str.ofString (g ++ "(")).length ≤ 20) :
    match pHas (Str.ofString (g ++ "(")) r with
    | none => m_Reader_call_b1 c_has c_must c_say [some (.ref i), some (.int (k + 1)), some (.str (Str.ofString w)), v3, v4] (At base i T r) = .ok (.nx, [some (.ref i), some (.int (k + 1)), some (.str (Str.ofString w)), v3, v4]) (At base i T r)
    | some r1 => (match pArgs P w r1 with
      | some (d, r2) => ∃ ev', m_Reader_call_b1 c_has c_must c_say [some (.ref i), some (.int (k + 1)), some (.str (Str.ofString w)), v3, v4] (At base i T r) = .ok (.rt d, ev') (At base i T r2)
      | none => ∃ ev' r2, m_Reader_call_b1 c_has c_must c_say [some (.ref i), some (.int (k + 1)), some (.str (Str.ofString w)), v3, v4] (At base i T r) = .exc "NoText" ev' (At base i T r2)) := by
  have hin := fun r => ins_at H.lt T r
  have l3 := len20
  cases h1 : pHas (Str.ofString (g ++ "(")) r with
  | none =>
    have e1 := H.hasN _ r hl hr h1
    simp [-e_insR, m_Reader_call_b1, hin, hw, hg, e1]
  | some r1 =>
    have e1 := H.has _ r r1 hl hr h1
    have s1 := (pHas_suf h1).trans hr
    have q1 := hs r1 s1
    simp only
    unfold pArgs
    cases h2 : pSay P r1 with
    | none =>
      obtain ⟨r2, e2⟩ := q1.none h2
      exact ⟨_, r2, by simp [-e_insR, m_Reader_call_b1, hin, hw, hg, e1, cCall, e2]; rfl⟩
    | some z =>
      obtain ⟨a, r2⟩ := z
      have e2 := q1.some h2
      have s2 := (pSay_suf hP _ _ _ h2).trans s1
      simp only
      cases h3 : pHas ", " r2 with
      | none =>
        have e3 := H.mustN _ r2 l3.2.2.2.2.2.1 s2 h3
        exact ⟨_, r2, by simp [-e_insR, m_Reader_call_b1, hin, hw, hg, e1, cCall, e2, e3]; rfl⟩
      | some r3 =>
        have e3 := H.must _ r2 r3 l3.2.2.2.2.2.1 s2 h3
        have s3 := (pHas_suf h3).trans s2
        have q3 := hs r3 s3
        simp only
        cases h4 : pSay P r3 with
        | none =>
          obtain ⟨r4, e4⟩ := q3.none h4
          exact ⟨_, r4, by simp [-e_insR, m_Reader_call_b1, hin, hw, hg, e1, cCall, e2, e3, e4]; rfl⟩
        | some z =>
          obtain ⟨b, r4⟩ := z
          have e4 := q3.some h4
          have s4 := (pSay_suf hP _ _ _ h4).trans s3
          simp only
          cases h5 : pHas ")" r4 with
          | none =>
            have e5 := H.mustN _ r4 l3.2.2.2.2.1 s4 h5
            exact ⟨_, r4, by simp [-e_insR, m_Reader_call_b1, hin, hw, hg, e1, cCall, e2, e3, e4, e5]; rfl⟩
          | some r5 =>
            have e5 := H.must _ r4 r5 l3.2.2.2.2.1 s4 h5
            exact ⟨_, by simp [-e_insR, m_Reader_call_b1, hin, hw, hg, e1, cCall, e2, e3, e4, e5]; rfl⟩
theorem call_ok {P : Ps} {k : Int} {r : List Nat} (H : Has base i T c_has c_must c_fig) (hP : Suf P) (hs : ∀ r, r <:+ T.cps.toList → Rd base i T (c_say [.ref i, .int k] (At base i T r)) (pSay P r)) (hr : r <:+ T.cps.toList) :
    match pCall P r with
    | some p => Rd base i T (fnX 2 5 (m_Reader_call c_has c_must c_say) [.ref i, .int (k + 1)] (At base i T r)) p
    | none => fnX 2 5 (m_Reader_call c_has c_must c_say) [.ref i, .int (k + 1)] (At base i T r) = .ok .non (At base i T r) := by
  have t := tab_calls
  have l3 := len20
  have b1 := fun v3 v4 => callb_ok (k := k) (w := "most") (g := "max") (v3 := v3) (v4 := v4) H hP hs hr t.1 (fun st => (cat_call st).1) l3.2.2.2.2.2.2.2.1
  have b2 := fun v3 v4 => callb_ok (k := k) (w := "least") (g := "min") (v3 := v3) (v4 := v4) H hP hs hr t.2.1 (fun st => (cat_call st).2.1) l3.2.2.2.2.2.2.2.2.1
  have b3 := fun v3 v4 => callb_ok (k := k) (w := "beats") (g := "beats") (v3 := v3) (v4 := v4) H hP hs hr t.2.2 (fun st => (cat_call st).2.2) l3.2.2.2.2.2.2.2.2.2
  rw [show ("max" ++ "(" : String) = "max(" from by decide +kernel] at b1
  rw [show ("min" ++ "(" : String) = "min(" from by decide +kernel] at b2
  rw [show ("beats" ++ "(" : String) = "beats(" from by decide +kernel] at b3
  have go : ∀ (d : D) (ev' : Ev) (r2 : List Nat), loop (gtName 2) (m_Reader_call_b1 c_has c_must c_say) [.str "most", .str "least", .str "beats"] [some (.ref i), some (.int (k + 1)), none, none, none] (At base i T r) = .ok (.rt d, ev') (At base i T r2) → fnX 2 5 (m_Reader_call c_has c_must c_say) [.ref i, .int (k + 1)] (At base i T r) = .ok d (At base i T r2) := fun d ev' r2 e => by
    simp [-e_insR, fnX, m_Reader_call, d_CALLS, e]
  have goN : ∀ (ev' : Ev) (r2 : List Nat), loop (gtName 2) (m_Reader_call_b1 c_has c_must c_say) [.str "most", .str "least", .str "beats"] [some (.ref i), some (.int (k + 1)), none, none, none] (At base i T r) = .exc "NoText" ev' (At base i T r2) → fnX 2 5 (m_Reader_call c_has c_must c_say) [.ref i, .int (k + 1)] (At base i T r) = .exc "NoText" [] (At base i T r2) := fun ev' r2 e => by
    simp [-e_insR, fnX, m_Reader_call, d_CALLS, e]
  have g0 : ∀ (ev' : Ev) (r2 : List Nat), loop (gtName 2) (m_Reader_call_b1 c_has c_must c_say) [.str "most", .str "least", .str "beats"] [some (.ref i), some (.int (k + 1)), none, none, none] (At base i T r) = .ok (.nx, ev') (At base i T r2) → fnX 2 5 (m_Reader_call c_has c_must c_say) [.ref i, .int (k + 1)] (At base i T r) = .ok .non (At base i T r2) := fun ev' r2 e => by
    simp [-e_insR, fnX, m_Reader_call, d_CALLS, e]
  have b1 := b1 none none
  have b2 := b2 none none
  have b3 := b3 none none
  unfold pCall
  cases h1 : pHas "max(" r with
  | some r1 =>
    rw [h1] at b1
    simp only at b1 ⊢
    cases h2 : pArgs P "most" r1 with
    | none =>
      rw [h2] at b1
      obtain ⟨ev', r2, e⟩ := b1
      exact ⟨r2, goN ev' r2 (by simp [e_loopC, e])⟩
    | some z =>
      obtain ⟨d, r2⟩ := z
      rw [h2] at b1
      obtain ⟨ev', e⟩ := b1
      exact go d ev' r2 (by simp [e_loopC, e])
  | none =>
    rw [h1] at b1
    simp only at b1 ⊢
    cases h2 : pHas "min(" r with
    | some r1 =>
      rw [h2] at b2
      simp only at b2 ⊢
      cases h3 : pArgs P "least" r1 with
      | none =>
        rw [h3] at b2
        obtain ⟨ev', r2, e⟩ := b2
        exact ⟨r2, goN ev' r2 (by simp [e_loopC, b1, e])⟩
      | some z =>
        obtain ⟨d, r2⟩ := z
        rw [h3] at b2
        obtain ⟨ev', e⟩ := b2
        exact go d ev' r2 (by simp [e_loopC, b1, e])
    | none =>
      rw [h2] at b2
      simp only at b2 ⊢
      cases h3 : pHas "beats(" r with
      | some r1 =>
        rw [h3] at b3
        simp only at b3 ⊢
        cases h4 : pArgs P "beats" r1 with
        | none =>
          rw [h4] at b3
          obtain ⟨ev', r2, e⟩ := b3
          exact ⟨r2, goN ev' r2 (by simp [e_loopC, b1, b2, e])⟩
        | some z =>
          obtain ⟨d, r2⟩ := z
          rw [h4] at b3
          obtain ⟨ev', e⟩ := b3
          exact go d ev' r2 (by simp [e_loopC, b1, b2, e])
      | none =>
        rw [h3] at b3
        simp only at b3 ⊢
        exact g0 _ r (by simp [e_loopC, b1, b2, b3]; rfl)
/-! the signs behind dice -/
theorem signs_ok {k : Int} {m s : Int} {r : List Nat} {v2 : D} (H : Has base i T c_has c_must c_fig) (hr : r <:+ T.cps.toList) : ∀ (tab : List (String × String)) (v5 : Option D), (∀ p ∈ tab, tabAt d_SIGNS (Str.ofString p.1) = some p.2 ∧ (Str.ofString p.2).length ≤ 20) →
    (∃ e', loop (gtName 5) (m_Reader_part_b1 c_call c_fig c_has c_must c_part c_say) (tab.map fun pr => D.str (Str.ofString pr.1)) [some (.ref i), some (.int k), some v2, some (.int m), some (.int s), v5] (At base i T r) = .ok (.nx, [some (.ref i), some (.int k), some v2, some (.int m), some (.int s), e']) (At base i T r) ∧ pSigns m s r tab = some (.tup [.str "dice", .int m, .int s], r)) ∨
    (match pSigns m s r tab with
    | some (d, r1) => ∃ ev', loop (gtName 5) (m_Reader_part_b1 c_call c_fig c_has c_must c_part c_say) (tab.map fun pr => D.str (Str.ofString pr.1)) [some (.ref i), some (.int k), some v2, some (.int m), some (.int s), v5] (At base i T r) = .ok (.rt d, ev') (At base i T r1)
    | none => ∃ ev' r1, loop (gtName 5) (m_Reader_part_b1 c_call c_fig c_has c_must c_part c_say) (tab.map fun pr => D.str (Str.ofString pr.1)) [some (.ref i), some (.int k), some v2, some (.int m), some (.int s), v5] (At base i T r) = .exc "NoText" ev' (At base i T r1))
  | [], v5, _ => .inl ⟨v5, rfl, rfl⟩
  | (w, g) :: tab, v5, ht => by
    have hin := fun r => ins_at H.lt T r
    obtain ⟨hw, hl⟩ := ht _ List.mem_cons_self
    simp only at hw hl
    simp only [List.map_cons, e_loopC]
    unfold pSigns
    cases h1 : pHas (Str.ofString g) r with
    | none =>
      have e1 := H.hasN _ r hl hr h1
      simp only
      have ih := signs_ok (k := k) (m := m) (s := s) (v2 := v2) H hr tab (some (.str (Str.ofString w))) fun p hp => ht p (List.mem_cons_of_mem _ hp)
      simpa [-e_insR, m_Reader_part_b1, hin, hw, e1] using ih
    | some r1 =>
      have e1 := H.has _ r r1 hl hr h1
      have s1 := (pHas_suf h1).trans hr
      refine .inr ?_
      simp only
      cases h2 : pFig r1 with
      | none =>
        have e2 := H.figN r1 s1 h2
        exact ⟨_, r1, by simp [-e_insR, m_Reader_part_b1, hin, hw, e1, cCall, e2]; rfl⟩
      | some z =>
        obtain ⟨l, r2⟩ := z
        have e2 := H.fig r1 l r2 s1 h2
        exact ⟨_, by simp [-e_insR, m_Reader_part_b1, hin, hw, e1, cCall, e2]; rfl⟩
theorem tab_signs : ∀ p ∈ d_SIGNS, tabAt d_SIGNS (Str.ofString p.1) = some p.2 ∧ (Str.ofString p.2).length ≤ 20 := by decide +kernel
/-! a part -/
theorem part0_ok {r : List Nat} : Rd base i T (fnX 2 6 (m_Reader_part c_call c_fig c_has c_must c_part c_say) [.ref i, .int 0] (At base i T r)) (pPart 0 r) := ⟨r, by simp [fnX, m_Reader_part]⟩
theorem part_ok {k : Nat} {r : List Nat} (H : Has base i T c_has c_must c_fig) (hs : ∀ r, r <:+ T.cps.toList → Rd base i T (c_say [.ref i, .int k] (At base i T r)) (pSay (pPart k) r)) (hp : ∀ r, r <:+ T.cps.toList → Rd base i T (c_part [.ref i, .int k] (At base i T r)) (pPart k r))
    (hc : ∀ r, r <:+ T.cps.toList → match pCall (pPart k) r with
      | some p => Rd base i T (c_call [.ref i, .int ((k : Int) + 1)] (At base i T r)) p
      | none => c_call [.ref i, .int ((k : Int) + 1)] (At base i T r) = .ok .non (At base i T r)) (hr : r <:+ T.cps.toList)
    (hd : ∀ d r1, pCall (pPart k) r = some (some (d, r1)) → ∃ ds, d = .tup ds) :
    Rd base i T (fnX 2 6 (m_Reader_part c_call c_fig c_has c_must c_part c_say) [.ref i, .int ((k : Int) + 1)] (At base i T r)) (pPart (k + 1) r) := by
  have hin := fun r => ins_at H.lt T r
  have l3 := len20
  have k0 : ((k : Int) + 1 == 0) = false := by rw [beq_eq_false_iff_ne]; omega
  have k0' : ¬ ((k : Int) + 1 = 0) := by omega
  have sfP := pPart_suf k
  unfold pPart
  cases h1 : pHas "(" r with
  | some r1 =>
    have e1 := H.has _ r r1 l3.2.2.2.1 hr h1
    have s1 := (pHas_suf h1).trans hr
    have q1 := hs r1 s1
    simp only
    cases h2 : pSay (pPart k) r1 with
    | none =>
      obtain ⟨r2, e2⟩ := q1.none h2
      exact ⟨r2, by simp [-e_insR, fnX, m_Reader_part, hin, k0', e1, cCall, e2]⟩
    | some z =>
      obtain ⟨d, r2⟩ := z
      have e2 := q1.some h2
      have s2 := (pSay_suf sfP _ _ _ h2).trans s1
      simp only
      cases h3 : pHas ")" r2 with
      | none =>
        have e3 := H.mustN _ r2 l3.2.2.2.2.1 s2 h3
        exact ⟨r2, by simp [-e_insR, fnX, m_Reader_part, hin, k0', e1, cCall, e2, e3]⟩
      | some r3 =>
        have e3 := H.must _ r2 r3 l3.2.2.2.2.1 s2 h3
        show _ = _
        simp [-e_insR, fnX, m_Reader_part, hin, k0', e1, cCall, e2, e3]
  | none =>
    have e1 := H.hasN _ r l3.2.2.2.1 hr h1
    simp only
    have q1 := hc r hr
    cases h2 : pCall (pPart k) r with
    | some x =>
      rw [h2] at q1
      simp only at q1 ⊢
      cases x with
      | none =>
        obtain ⟨r2, e2⟩ := q1
        exact ⟨r2, by simp [-e_insR, fnX, m_Reader_part, hin, k0', e1, cCall, e2]⟩
      | some z =>
        obtain ⟨d, r2⟩ := z
        obtain ⟨ds, rfl⟩ := hd d r2 h2
        have e2 : _ = _ := q1
        show _ = _
        simp [-e_insR, fnX, m_Reader_part, hin, k0', e1, cCall, e2]
    | none =>
      rw [h2] at q1
      simp only at q1 ⊢
      cases h3 : pFig r with
      | none =>
        have e3 := H.figN r hr h3
        exact ⟨r, by simp [-e_insR, fnX, m_Reader_part, hin, k0', e1, cCall, q1, e3]⟩
      | some z =>
        obtain ⟨m, r1⟩ := z
        have e3 := H.fig r m r1 hr h3
        have s1 := (pFig_suf h3).trans hr
        simp only
        cases h4 : pHas " * " r1 with
        | some r2 =>
          have e4 := H.has _ r1 r2 l3.2.2.1 s1 h4
          have s2 := (pHas_suf h4).trans s1
          have q2 := hp r2 s2
          simp only
          cases h5 : pPart k r2 with
          | none =>
            obtain ⟨r3, e5⟩ := q2.none h5
            exact ⟨r3, by simp [-e_insR, fnX, m_Reader_part, hin, k0', e1, cCall, q1, e3, e4, e5]⟩
          | some z =>
            obtain ⟨d, r3⟩ := z
            have e5 := q2.some h5
            show _ = _
            simp [-e_insR, fnX, m_Reader_part, hin, k0', e1, cCall, q1, e3, e4, e5]
        | none =>
          have e4 := H.hasN _ r1 l3.2.2.1 s1 h4
          simp only
          cases h5 : pHas "d" r1 with
          | none =>
            have e5 := H.hasN _ r1 l3.2.2.2.2.2.2.1 s1 h5
            show _ = _
            simp [-e_insR, fnX, m_Reader_part, hin, k0', e1, cCall, q1, e3, e4, e5]
          | some r2 =>
            have e5 := H.has _ r1 r2 l3.2.2.2.2.2.2.1 s1 h5
            have s2 := (pHas_suf h5).trans s1
            simp only
            cases h6 : pFig r2 with
            | none =>
              have e6 := H.figN r2 s2 h6
              exact ⟨r2, by simp [-e_insR, fnX, m_Reader_part, hin, k0', e1, cCall, q1, e3, e4, e5, e6]⟩
            | some z =>
              obtain ⟨s, r3⟩ := z
              have e6 := H.fig r2 s r3 s2 h6
              have s3 := (pFig_suf h6).trans s2
              simp only
              have q := signs_ok (k := (k : Int) + 1) (m := m) (s := s) (v2 := .non) (c_call := c_call) (c_part := c_part) (c_say := c_say) H s3 d_SIGNS none tab_signs
              rcases q with ⟨e', q1', q2⟩ | q
              · rw [q2]
                show _ = _
                simp [-e_insR, fnX, m_Reader_part, hin, k0', e1, cCall, q1, e3, e4, e5, e6, q1']
              · cases h7 : pSigns m s r3 d_SIGNS with
                | none =>
                  rw [h7] at q
                  obtain ⟨ev', r4, e7⟩ := q
                  exact ⟨r4, by simp [-e_insR, fnX, m_Reader_part, hin, k0', e1, cCall, q1, e3, e4, e5, e6, e7]⟩
                | some z =>
                  obtain ⟨d, r4⟩ := z
                  rw [h7] at q
                  obtain ⟨ev', e7⟩ := q
                  show _ = _
                  simp [-e_insR, fnX, m_Reader_part, hin, k0', e1, cCall, q1, e3, e4, e5, e6, e7]
end Ml

namespace Ml
open PySem L2
/-! ### which things are sayings: a plain look -/
def whole (d : D) (lo hi : Int) : Bool := match d with
  | .int i => decide (lo ≤ i) && decide (i ≤ hi)
  | _ => false
def isTwo (w : Str) : Bool := w == "plus" || w == "less" || w == "most" || w == "least" || w == "beats"
def lastB (w : Str) (m s : Int) (z : D) : Bool :=
  if w = "high" then whole z 1 m else if w = "low" then whole z 1 m else if w = "again" then whole z 1 (s - 1) else if w = "burst" then whole z 1 2 else if w = "count" then whole z 2 s else false
def dlB (w : Str) (x y z : D) : Bool := match x, y with
  | .int m, .int s => decide (1 ≤ m) && decide (m ≤ 3) && decide (2 ≤ s) && decide (s ≤ 6) && lastB w m s z
  | _, _ => false
def isS : Nat → D → Bool
  | 0, _ => false
  | _ + 1, .tup [.str w, x] => w == "number" && whole x 0 9
  | k + 1, .tup [.str w, x, y] => if w = "dice" then whole x 1 3 && whole y 2 6 else if w = "times" then whole x 0 3 && isS k y else if isTwo w then isS k x && isS k y else false
  | _ + 1, .tup [.str w, x, y, z] => dlB w x y z
  | _ + 1, _ => false
def lstAt (st : Sto) (i : Nat) : Bool := match st[i]? with
  | some (.lst _) => true
  | some (.ro _) => true
  | _ => false
mutual
def D.inb (st : Sto) : D → Bool
  | .ref i => lstAt st i
  | .tup ds => inbs st ds
  | _ => true
def inbs (st : Sto) : List D → Bool
  | [] => true
  | d :: ds => d.inb st && inbs st ds
end
def Grow (st st' : Sto) : Prop := ∀ i, lstAt st i = true → lstAt st' i = true
mutual
theorem D.inb.grow {st st' : Sto} (g : Grow st st') : ∀ {d : D}, d.inb st = true → d.inb st' = true
  | .ref i, h => g i h
  | .tup ds, h => inbs.grow g (ds := ds) h
  | .non, _ => rfl
  | .bl _, _ => rfl
  | .int _, _ => rfl
  | .str _, _ => rfl
  | .ro _, _ => rfl
theorem inbs.grow {st st' : Sto} (g : Grow st st') : ∀ {ds : List D}, inbs st ds = true → inbs st' ds = true
  | [], _ => rfl
  | d :: ds, h => by
    simp only [inbs, Bool.and_eq_true] at h ⊢
    exact ⟨D.inb.grow g h.1, inbs.grow g h.2⟩
end
theorem Grow.refl (st : Sto) : Grow st st := fun _ h => h
theorem Grow.trans {a b c : Sto} (h : Grow a b) (k : Grow b c) : Grow a c := fun i z => k i (h i z)
theorem Grow.app (st more : Sto) : Grow st (st ++ more) := fun i h => by
  unfold lstAt at h ⊢
  by_cases hi : i < st.length
  · rw [List.getElem?_append_left hi]; exact h
  · rw [List.getElem?_eq_none (by omega)] at h; cases h
theorem inbs_all {st : Sto} : ∀ {ds : List D}, inbs st ds = true ↔ ∀ d ∈ ds, d.inb st = true
  | [] => by simp [inbs]
  | d :: ds => by simp [inbs, inbs_all (ds := ds)]
theorem ty_ref {i : Nat} {st : Sto} (h : lstAt st i = true) : tyD st (.ref i) = some "list" := by
  unfold lstAt at h
  split at h
  · rename_i e; simp only [tyD, e]
  · rename_i e; simp only [tyD, e]
  · cases h
@[simp] theorem ty_ro (ds : List D) (st : Sto) : tyD st (.ro ds) = some "list" := rfl
@[simp] theorem isi_l1 : isiB "list" "tuple" = false := by decide
@[simp] theorem isi_l2 : isiB "list" "int" = false := by decide
@[simp] theorem isi_l3 : isiB "list" "bool" = false := by decide
@[simp] theorem isi_l4 : isiB "list" "str" = false := by decide
@[simp] theorem isi_d1 : isiB "dict" "tuple" = false := by decide
@[simp] theorem isi_d2 : isiB "dict" "int" = false := by decide
@[simp] theorem isi_d3 : isiB "dict" "bool" = false := by decide
@[simp] theorem isi_d4 : isiB "dict" "str" = false := by decide
theorem whole_ok {d : D} {lo hi : Int} {st : Sto} (h : d.inb st = true) : fnM 3 3 m_is_whole [d, .int lo, .int hi] st = .ok (.bl (whole d lo hi)) st := by
  cases d with
  | ref i =>
    have e := ty_ref h
    simp [fnM, m_is_whole, whole, e]
  | int i => by_cases h1 : lo ≤ i <;> simp [fnM, m_is_whole, whole, h1]
  | _ => simp [fnM, m_is_whole, whole]
theorem last_ok {c : Fm} {w : Str} {m s : Int} {z : D} {st : Sto} (hc : ∀ d lo hi, d.inb st = true → c [d, .int lo, .int hi] st = .ok (.bl (whole d lo hi)) st) (hz : z.inb st = true) (hw : w = "high" ∨ w = "low" ∨ w = "again" ∨ w = "burst" ∨ w = "count") :
    fnM 4 4 (m_is_last c) [.str w, .int m, .int s, z] st = .ok (.bl (lastB w m s z)) st := by
  rcases hw with rfl | rfl | rfl | rfl | rfl <;> simp [fnM, m_is_last, hc _ _ _ hz, lastB]
theorem five2 (n : Nat) : ¬ ((n : Int) + 1 + 1 + 1 + 1 + 1 = 2) := by omega
theorem five3 (n : Nat) : ¬ ((n : Int) + 1 + 1 + 1 + 1 + 1 = 3) := by omega
theorem five4 (n : Nat) : ¬ ((n : Int) + 1 + 1 + 1 + 1 + 1 = 4) := by omega
theorem five5 (n : Nat) : ¬ ((n : Int) + 1 + 1 + 1 + 1 + 1 < 2) := by omega
@[simp] theorem five2b (n : Nat) : (((n : Int) + 1 + 1 + 1 + 1 + 1) == 2) = false := by simp; omega
@[simp] theorem five3b (n : Nat) : (((n : Int) + 1 + 1 + 1 + 1 + 1) == 3) = false := by simp; omega
@[simp] theorem five4b (n : Nat) : (((n : Int) + 1 + 1 + 1 + 1 + 1) == 4) = false := by simp; omega
@[simp] theorem four1b (n : Nat) : (((n : Int) + 1 + 1 + 1 + 1) == 1) = false := by simp; omega
@[simp] theorem four2b (n : Nat) : (((n : Int) + 1 + 1 + 1 + 1) == 2) = false := by simp; omega
@[simp] theorem four3b (n : Nat) : (((n : Int) + 1 + 1 + 1 + 1) == 3) = false := by simp; omega
theorem dice_len_ok {c1 c2 : Fm} {w : Str} {x : D} {rest : List D} {st : Sto} (hc : ∀ d lo hi, d.inb st = true → c2 [d, .int lo, .int hi] st = .ok (.bl (whole d lo hi)) st)
    (hl : ∀ (w : Str) m s z, z.inb st = true → (w = "high" ∨ w = "low" ∨ w = "again" ∨ w = "burst" ∨ w = "count") → c1 [.str w, .int m, .int s, z] st = .ok (.bl (lastB w m s z)) st)
    (hi : inbs st (x :: rest) = true) (hw : w = "dice" ∨ w = "high" ∨ w = "low" ∨ w = "again" ∨ w = "burst" ∨ w = "count") :
    fnM 1 1 (m_is_dice c1 c2) [.tup (.str w :: x :: rest)] st = .ok (.bl (isS 1 (.tup (.str w :: x :: rest)))) st := by
  simp only [inbs, Bool.and_eq_true] at hi
  obtain ⟨hx, hr⟩ := hi
  rcases rest with _ | ⟨y, _ | ⟨z, _ | ⟨v, more⟩⟩⟩
  · rcases hw with rfl | rfl | rfl | rfl | rfl | rfl <;> simp [fnM, m_is_dice, isS]
  · simp only [inbs, Bool.and_eq_true] at hr
    obtain ⟨hy, _⟩ := hr
    rcases hw with rfl | rfl | rfl | rfl | rfl | rfl
    · cases h1 : whole x 1 3 <;> cases h2 : whole y 2 6 <;> simp [fnM, m_is_dice, isS, hc _ _ _ hx, hc _ _ _ hy, h1, h2]
    all_goals simp [fnM, m_is_dice, isS, isTwo]
  · simp only [inbs, Bool.and_eq_true] at hr
    obtain ⟨hy, hz, _⟩ := hr
    rcases hw with rfl | hw
    · have e : dlB "dice" x y z = false := by cases x <;> cases y <;> simp [dlB, lastB]
      simp [fnM, m_is_dice, isS, e]
    · have hd : ¬ w = "dice" := by rcases hw with rfl | rfl | rfl | rfl | rfl <;> simp
      have hd' : (w == "dice") = false := by simpa using hd
      cases x with
      | int m =>
        cases y with
        | int s =>
          have e := hl w m s z hz hw
          by_cases a1 : 1 ≤ m <;> by_cases a2 : m ≤ 3 <;> by_cases a3 : 2 ≤ s <;> by_cases a4 : s ≤ 6 <;> simp [fnM, m_is_dice, isS, hc _ _ _ hx, hc _ _ _ hy, whole, a1, a2, a3, a4, hd, hd', e, dlB]
        | _ =>  cases h1 : whole (.int m) 1 3 <;> simp [fnM, m_is_dice, isS, hc _ _ _ hx, hc _ _ _ hy, h1, hd, dlB, whole]
      | _ => simp [fnM, m_is_dice, isS, hc _ _ _ hx, hc _ _ _ hy, hd, dlB, whole]
  · rcases hw with rfl | rfl | rfl | rfl | rfl | rfl <;> simp [fnM, m_is_dice, isS, five2, five3, five4]
theorem isS1_dice {w : Str} {l : List D} {k : Nat} (hw : w = "dice" ∨ w = "high" ∨ w = "low" ∨ w = "again" ∨ w = "burst" ∨ w = "count") : isS (k + 1) (.tup (.str w :: l)) = isS 1 (.tup (.str w :: l)) := by
  rcases l with _ | ⟨x, _ | ⟨y, _ | ⟨z, _ | ⟨v, more⟩⟩⟩⟩ <;> rcases hw with rfl | rfl | rfl | rfl | rfl | rfl <;> simp [isS, isTwo]
/-- is_saying_in -/
theorem in_step {c1 c2 c3 : Fm} {d : D} {k : Nat} {st : Sto} (hw : ∀ d lo hi, d.inb st = true → c3 [d, .int lo, .int hi] st = .ok (.bl (whole d lo hi)) st)
    (hd : ∀ (w : Str) x rest, inbs st (x :: rest) = true → (w = "dice" ∨ w = "high" ∨ w = "low" ∨ w = "again" ∨ w = "burst" ∨ w = "count") → c1 [.tup (.str w :: x :: rest)] st = .ok (.bl (isS 1 (.tup (.str w :: x :: rest)))) st)
    (ih : ∀ d, d.inb st = true → 0 < k → c2 [d, .int ((k : Int) - 1)] st = .ok (.bl (isS (k - 1) d)) st) (h : d.inb st = true) :
    fnM 2 3 (m_is_saying_in c1 c2 c3) [d, .int k] st = .ok (.bl (isS k d)) st := by
  cases d with
  | ref i => cases k <;> simp [fnM, m_is_saying_in, isS, ty_ref h]
  | tup ds =>
    rcases ds with _ | ⟨x, _ | ⟨y, rest⟩⟩
    · cases k <;> simp [fnM, m_is_saying_in, isS]
    · cases k <;> cases x <;> simp [fnM, m_is_saying_in, isS]
    · have h2 : ¬ ((rest.length : Int) + 1 + 1 < 2) := by omega
      simp only [D.inb, inbs, Bool.and_eq_true] at h
      obtain ⟨hx, hy, hr⟩ := h
      cases x with
      | str w =>
        cases k with
        | zero => simp [fnM, m_is_saying_in, isS, h2]
        | succ k =>
          have ih : ∀ d, d.inb st = true → c2 [d, .int k] st = .ok (.bl (isS k d)) st := fun d h => by
            have := ih d h (Nat.succ_pos k)
            simpa using this
          have e0 : ¬ ((k : Int) + 1 = 0) := by omega
          by_cases w1 : w = "number"
          · subst w1
            have e1 : ∀ x y z, dlB "number" x y z = false := fun x y z => by cases x <;> cases y <;> simp [dlB, lastB]
            rcases rest with _ | ⟨z, _ | ⟨u, _ | ⟨v, more⟩⟩⟩ <;> simp [fnM, m_is_saying_in, isS, hw _ _ _ hy, e0, isTwo, e1, five2, five5]
          · by_cases w2 : w = "dice" ∨ w = "high" ∨ w = "low" ∨ w = "again" ∨ w = "burst" ∨ w = "count"
            · rw [isS1_dice w2]
              have e := hd w y rest (by simp [inbs, hy, hr]) w2
              rcases w2 with rfl | rfl | rfl | rfl | rfl | rfl <;> simp [fnM, m_is_saying_in, d_DICE, h2, e, e0]
            · simp only [not_or] at w2
              obtain ⟨a1, a2, a3, a4, a5, a6⟩ := w2
              have b0 : (w == "number") = false := by simpa using w1
              have b1 : (("dice" : Str) == w) = false := by simpa using fun z => a1 z.symm
              have b2 : (("high" : Str) == w) = false := by simpa using fun z => a2 z.symm
              have b3 : (("low" : Str) == w) = false := by simpa using fun z => a3 z.symm
              have b4 : (("again" : Str) == w) = false := by simpa using fun z => a4 z.symm
              have b5 : (("burst" : Str) == w) = false := by simpa using fun z => a5 z.symm
              have b6 : (("count" : Str) == w) = false := by simpa using fun z => a6 z.symm
              have e1 : ∀ x y z, dlB w x y z = false := fun x y z => by cases x <;> cases y <;> simp [dlB, lastB, a1, a2, a3, a4, a5, a6]
              by_cases w3 : w = "times"
              · subst w3
                rcases rest with _ | ⟨z, _ | ⟨u, _ | ⟨v, more⟩⟩⟩
                · simp [fnM, m_is_saying_in, isS, d_DICE, h2, e0]
                · simp only [inbs, Bool.and_eq_true] at hr
                  cases h1 : whole y 0 3 <;> simp [fnM, m_is_saying_in, isS, d_DICE, h2, e0, hw _ _ _ hy, ih _ hr.1, h1]
                · simp [fnM, m_is_saying_in, isS, d_DICE, h2, e0, e1]
                · simp [fnM, m_is_saying_in, isS, d_DICE, h2, e0, e1, five2, five3, five5]
              · have b7 : (w == "times") = false := by simpa using w3
                by_cases w4 : isTwo w = true
                · have hw4 : w = "plus" ∨ w = "less" ∨ w = "most" ∨ w = "least" ∨ w = "beats" := by simpa [isTwo, or_assoc] using w4
                  rcases rest with _ | ⟨z, _ | ⟨u, _ | ⟨v, more⟩⟩⟩
                  · rcases hw4 with rfl | rfl | rfl | rfl | rfl <;> simp [fnM, m_is_saying_in, isS, d_DICE, d_TWO, h2, e0]
                  · simp only [inbs, Bool.and_eq_true] at hr
                    rcases hw4 with rfl | rfl | rfl | rfl | rfl <;> simp [fnM, m_is_saying_in, isS, d_DICE, d_TWO, h2, e0, ih _ hy, ih _ hr.1, isTwo, gAll, blsOf]
                  · rcases hw4 with rfl | rfl | rfl | rfl | rfl <;> simp [fnM, m_is_saying_in, isS, d_DICE, d_TWO, h2, e0, e1]
                  · rcases hw4 with rfl | rfl | rfl | rfl | rfl <;> simp [fnM, m_is_saying_in, isS, d_DICE, d_TWO, h2, e0, five2, five3, five5]
                · have c4 := w4
                  simp only [isTwo, Bool.or_eq_true, beq_iff_eq, not_or] at w4
                  obtain ⟨⟨⟨⟨c1', c2'⟩, c3'⟩, c4'⟩, c5'⟩ := w4
                  have g1 : (("plus" : Str) == w) = false := by simpa using fun z => c1' z.symm
                  have g2 : (("less" : Str) == w) = false := by simpa using fun z => c2' z.symm
                  have g3 : (("most" : Str) == w) = false := by simpa using fun z => c3' z.symm
                  have g4 : (("least" : Str) == w) = false := by simpa using fun z => c4' z.symm
                  have g5 : (("beats" : Str) == w) = false := by simpa using fun z => c5' z.symm
                  have c4 : isTwo w = false := by simpa using c4
                  have fin : isS (k + 1) (.tup (.str w :: y :: rest)) = false := by
                    rcases rest with _ | ⟨z, _ | ⟨u, _ | ⟨v, more⟩⟩⟩ <;> simp [isS, e1, b0, w1, a1, w3, c4]
                  rw [fin]
                  simp [fnM, m_is_saying_in, d_DICE, d_TWO, h2, e0, b0, b1, b2, b3, b4, b5, b6, b7, g1, g2, g3, g4, g5]
      | ref i => cases k <;> simp [fnM, m_is_saying_in, isS, h2, ty_ref hx]
      | _ => cases k <;> simp [fnM, m_is_saying_in, isS, h2]
  | _ => cases k <;> simp [fnM, m_is_saying_in, isS]
theorem whole_of {d : D} {lo hi : Int} (h : whole d lo hi = true) : ∃ i, d = .int i ∧ lo ≤ i ∧ i ≤ hi := by
  cases d with
  | int i => exact ⟨i, rfl, by simpa [whole] using h⟩
  | _ => simp [whole] at h
theorem isS_enc : ∀ (s : Say) (k : Nat), Wf s → dep s ≤ k → isS k (enc s) = true
  | s, 0, _, h => absurd (Nat.le_trans (dep_pos s) h) (by decide)
  | .num n, k + 1, hw, _ => by simp [isS, enc, whole, hw.1, hw.2]
  | .die m s, k + 1, hw, _ => by simp [isS, enc, whole, hw.1, hw.2.1, hw.2.2.1, hw.2.2.2]
  | .dl w m s l, k + 1, hw, _ => by
    obtain ⟨h1, h2, h3, h4, h5⟩ := hw
    cases w <;> simp only [lastOk] at h5 <;> simp [isS, enc, WL.s, dlB, lastB, whole, h1, h2, h3, h4, h5.1, h5.2]
  | .two w a b, k + 1, hw, h => by
    simp only [dep] at h
    have ha := isS_enc a k hw.1 (by omega)
    have hb := isS_enc b k hw.2 (by omega)
    cases w <;> simp [isS, enc, W2.s, isTwo, ha, hb]
  | .times n a, k + 1, hw, h => by
    simp only [dep] at h
    have ha := isS_enc a k hw.2.2 (by omega)
    simp [isS, enc, whole, ha, hw.1, hw.2.1]
theorem inb_enc (st : Sto) : ∀ s, (enc s).inb st = true
  | .num _ => rfl
  | .die _ _ => rfl
  | .dl _ _ _ _ => rfl
  | .two _ a b => by simp [enc, D.inb, inbs, inb_enc st a, inb_enc st b]
  | .times _ a => by simp [enc, D.inb, inbs, inb_enc st a]
/-- dice_in -/
theorem dicein_step {c : Fm} {s : Say} {st : Sto} (ih : ∀ a, dep a < dep s → c [enc a] st = .ok (.int (dice a)) st) : fnM 1 2 (m_dice_in c) [enc s] st = .ok (.int (dice s)) st := by
  cases s with
  | num n => simp [fnM, m_dice_in, dice, d_DICE]
  | die m s => simp [fnM, m_dice_in, dice, d_DICE]
  | dl w m s l => cases w <;> simp [fnM, m_dice_in, dice, enc, WL.s, d_DICE]
  | two w a b =>
    have ha := ih a (by simp only [dep]; omega)
    have hb := ih b (by simp only [dep]; omega)
    cases w <;> simp [fnM, m_dice_in, dice, enc, W2.s, ha, hb, d_DICE]
  | times n a =>
    have ha := ih a (by simp only [dep]; omega)
    simp [fnM, m_dice_in, dice, enc, ha, d_DICE]
/-- is_saying -/
theorem is_no {c1 c2 : Fm} {d : D} {st : Sto} (h2 : c2 [d, .int 3] st = .ok (.bl (isS 3 d)) st) (h : isS 3 d = false) : fnM 1 1 (m_is_saying c1 c2) [d] st = .ok (.bl false) st := by
  simp [fnM, m_is_saying, h2, h]
theorem is_enc {c1 c2 : Fm} {s : Say} {st : Sto} (h2 : c2 [enc s, .int 3] st = .ok (.bl (isS 3 (enc s))) st) (h : isS 3 (enc s) = true) (h1 : c1 [enc s] st = .ok (.int (dice s)) st) : fnM 1 1 (m_is_saying c1 c2) [enc s] st = .ok (.bl (decide (dice s ≤ 6))) st := by
  simp [fnM, m_is_saying, h2, h, h1]
/-! _law_odd -/
end Ml

namespace Ml
open PySem L2
theorem say_of : ∀ (k : Nat) (d : D), isS k d = true → ∃ s, d = enc s ∧ Wf s ∧ dep s ≤ k
  | 0, d, h => by simp [isS] at h
  | k + 1, d, h => by
    unfold isS at h
    split at h
    · cases ‹_ + 1 = 0›
    · rename_i w x e
      simp only [Bool.and_eq_true, beq_iff_eq] at h
      obtain ⟨rfl, h⟩ := h
      obtain ⟨i, rfl, h1, h2⟩ := whole_of h
      exact ⟨.num i, rfl, ⟨h1, h2⟩, by simp [dep]⟩
    · rename_i k' w x y e
      cases e
      split at h
      · rename_i hw; subst hw
        rw [Bool.and_eq_true] at h
        obtain ⟨i, rfl, h1, h2⟩ := whole_of h.1
        obtain ⟨j, rfl, h3, h4⟩ := whole_of h.2
        exact ⟨.die i j, rfl, ⟨h1, h2, h3, h4⟩, by simp [dep]⟩
      · split at h
        · rename_i hw; subst hw
          rw [Bool.and_eq_true] at h
          obtain ⟨i, rfl, h1, h2⟩ := whole_of h.1
          obtain ⟨s, rfl, h3, h4⟩ := say_of k y h.2
          exact ⟨.times i s, rfl, ⟨h1, h2, h3⟩, by simp only [dep]; omega⟩
        · split at h
          · rename_i hw
            rw [Bool.and_eq_true] at h
            obtain ⟨s, rfl, h3, h4⟩ := say_of k x h.1
            obtain ⟨t, rfl, h5, h6⟩ := say_of k y h.2
            have hw4 : w = "plus" ∨ w = "less" ∨ w = "most" ∨ w = "least" ∨ w = "beats" := by simpa [isTwo, or_assoc] using hw
            rcases hw4 with rfl | rfl | rfl | rfl | rfl
            · exact ⟨.two .plus s t, rfl, ⟨h3, h5⟩, by simp only [dep]; omega⟩
            · exact ⟨.two .less s t, rfl, ⟨h3, h5⟩, by simp only [dep]; omega⟩
            · exact ⟨.two .most s t, rfl, ⟨h3, h5⟩, by simp only [dep]; omega⟩
            · exact ⟨.two .least s t, rfl, ⟨h3, h5⟩, by simp only [dep]; omega⟩
            · exact ⟨.two .beats s t, rfl, ⟨h3, h5⟩, by simp only [dep]; omega⟩
          · cases h
    · rename_i w x y z e
      unfold dlB at h
      split at h
      · rename_i m s
        simp only [Bool.and_eq_true, decide_eq_true_eq] at h
        obtain ⟨⟨⟨⟨h1, h2⟩, h3⟩, h4⟩, h5⟩ := h
        unfold lastB at h5
        split at h5
        · rename_i hw; subst hw
          obtain ⟨i, rfl, h6, h7⟩ := whole_of h5
          exact ⟨.dl .high m s i, rfl, ⟨h1, h2, h3, h4, h6, h7⟩, by simp [dep]⟩
        · split at h5
          · rename_i hw; subst hw
            obtain ⟨i, rfl, h6, h7⟩ := whole_of h5
            exact ⟨.dl .low m s i, rfl, ⟨h1, h2, h3, h4, h6, h7⟩, by simp [dep]⟩
          · split at h5
            · rename_i hw; subst hw
              obtain ⟨i, rfl, h6, h7⟩ := whole_of h5
              exact ⟨.dl .again m s i, rfl, ⟨h1, h2, h3, h4, h6, h7⟩, by simp [dep]⟩
            · split at h5
              · rename_i hw; subst hw
                obtain ⟨i, rfl, h6, h7⟩ := whole_of h5
                exact ⟨.dl .burst m s i, rfl, ⟨h1, h2, h3, h4, h6, h7⟩, by simp [dep]⟩
              · split at h5
                · rename_i hw; subst hw
                  obtain ⟨i, rfl, h6, h7⟩ := whole_of h5
                  exact ⟨.dl .count m s i, rfl, ⟨h1, h2, h3, h4, h6, h7⟩, by simp [dep]⟩
                · cases h5
      · cases h
    · cases h
end Ml

/-! _law_written -/
namespace Ml
open PySem L2
@[simp] theorem e_AtN (md : Mo (List (Key × D))) (mk : Mo D) (ev : Ev) (st : Sto) : mAtN md mk ev st = (md ev st).bind fun kvs st1 => (mk ev st1).bind fun k st2 => match keyOf k with
  | some kk => (match valD kvs kk with
    | some v => .ok v st2
    | none => .bad)
  | none => .bad := rfl
theorem hd_pl (s : Say) (st : Sto) : gIn false (.str (Str.ofString (hd s))) (.tup [.str "plus", .str "less"]) st = some (.bl (inPL s), st) := by
  cases s with
  | dl w m k l => cases w <;> simp [hd, WL.s, inPL]
  | two w a b => cases w <;> simp [hd, W2.s, inPL]
  | _ => simp [hd, inPL]
theorem hd_plt (s : Say) (st : Sto) : gIn false (.str (Str.ofString (hd s))) (.tup [.str "plus", .str "less", .str "times"]) st = some (.bl (inPLT s), st) := by
  cases s with
  | dl w m k l => cases w <;> simp [hd, WL.s, inPL, inPLT]
  | two w a b => cases w <;> simp [hd, W2.s, inPL, inPLT]
  | _ => simp [hd, inPL, inPLT]
theorem lw_step {c_wr : Fm} {s : Say} {st : Sto} (hw : Wf s) (hl : wl s ≤ 90000)
    (hwr : ∀ a, Wf a → dep a < dep s → wl a ≤ 90000 → c_wr [enc a] st = .ok (.str (wr a)) st) :
    fnM 1 5 (m_f_law_written c_wr) [enc s] st = .ok (.str (wr s)) st := by
  have l := len_lit1
  cases s with
  | num n => simp [fnM, m_f_law_written, -e_str, strN hw.1 hw.2, wr]
  | die m k =>
    obtain ⟨h1, h2, h3, h4⟩ := hw
    have lm := len_nS (n := m) (by omega) (by omega)
    have lk := len_nS (n := k) (by omega) (by omega)
    have e1 := addS (x := nS m) (y := Str.ofString "d") st rfl (by omega)
    have e2 := addS (x := nS m ++ Str.ofString "d") (y := nS k) st rfl (by rw [Str.length_append]; omega)
    simp [fnM, m_f_law_written, -e_str, -e_addS, strN (i := m) (by omega) (by omega), strN (i := k) (by omega) (by omega), e1, e2, wr]
  | dl w m k z =>
    obtain ⟨h1, h2, h3, h4, h5⟩ := hw
    have hz : 0 ≤ z ∧ z ≤ 9 := by cases w <;> simp only [lastOk] at h5 <;> omega
    have lm := len_nS (n := m) (by omega) (by omega)
    have lk := len_nS (n := k) (by omega) (by omega)
    have lz := len_nS hz.1 hz.2
    have ls := len_sgn w
    have e1 := addS (x := nS m) (y := Str.ofString "d") st rfl (by omega)
    have e2 := addS (x := nS m ++ Str.ofString "d") (y := nS k) st rfl (by rw [Str.length_append]; omega)
    have e3 := addS (x := nS m ++ Str.ofString "d" ++ nS k) (y := Str.ofString (sgn w)) st rfl (by rw [Str.length_append, Str.length_append]; omega)
    have e4 := addS (x := nS m ++ Str.ofString "d" ++ nS k ++ Str.ofString (sgn w)) (y := nS z) st rfl (by rw [Str.length_append, Str.length_append, Str.length_append]; omega)
    cases w <;> simp only [sgn] at e3 e4 <;> simp [fnM, m_f_law_written, -e_str, -e_addS, strN (i := m) (by omega) (by omega), strN (i := k) (by omega) (by omega), strN hz.1 hz.2, e1, e2, e3, e4, wr, enc, WL.s, sgn, mergeD, putD, valD]
  | two w a b =>
    have da : dep a < dep (.two w a b) := by simp only [dep]; omega
    have db : dep b < dep (.two w a b) := by simp only [dep]; omega
    have la := len_wr hw.1
    have lb := len_wr hw.2
    have hbb : wl b ≤ br (inPL b) (wl b) := by unfold br; split <;> omega
    have hab : wl a ≤ 90000 ∧ wl b ≤ 90000 ∧ wl a + wl b ≤ 90000 ∧ br (inPL b) (wl b) ≤ wl b + 2 := by
      have : br (inPL b) (wl b) ≤ wl b + 2 := by unfold br; split <;> omega
      cases w <;> simp only [wl] at hl <;> omega
    have f1 := hwr a hw.1 da hab.1
    have f2 := hwr b hw.2 db hab.2.1
    have hb1 := hd_pl b st
    have lbk := len_brk (inPL b) (wr b)
    rw [lb] at lbk
    have bk1 := addS (x := Str.ofString "(") (y := wr b) st rfl (by omega)
    have bk2 := addS (x := Str.ofString "(" ++ wr b) (y := Str.ofString ")") st rfl (by rw [Str.length_append]; omega)
    have sums : ∀ z : String, (Str.ofString z).length = 3 → gAdd (.str (wr a)) (.str (Str.ofString z)) st = some (.str (wr a ++ Str.ofString z), st) ∧ gAdd (.str (wr a ++ Str.ofString z)) (.str (brk (inPL b) (wr b))) st = some (.str (wr a ++ Str.ofString z ++ brk (inPL b) (wr b)), st) := fun z hz =>
      ⟨addS st rfl (by omega), addS st rfl (by rw [Str.length_append]; omega)⟩
    have calls : ∀ z : String, (Str.ofString z).length ≤ 5 → gAdd (.str (Str.ofString z)) (.str (Str.ofString "(")) st = some (.str (Str.ofString z ++ Str.ofString "("), st) ∧ gAdd (.str (Str.ofString z ++ Str.ofString "(")) (.str (wr a)) st = some (.str (Str.ofString z ++ Str.ofString "(" ++ wr a), st) ∧
        gAdd (.str (Str.ofString z ++ Str.ofString "(" ++ wr a)) (.str (Str.ofString ", ")) st = some (.str (Str.ofString z ++ Str.ofString "(" ++ wr a ++ Str.ofString ", "), st) ∧ gAdd (.str (Str.ofString z ++ Str.ofString "(" ++ wr a ++ Str.ofString ", ")) (.str (wr b)) st = some (.str (Str.ofString z ++ Str.ofString "(" ++ wr a ++ Str.ofString ", " ++ wr b), st) ∧
        gAdd (.str (Str.ofString z ++ Str.ofString "(" ++ wr a ++ Str.ofString ", " ++ wr b)) (.str (Str.ofString ")")) st = some (.str (Str.ofString z ++ Str.ofString "(" ++ wr a ++ Str.ofString ", " ++ wr b ++ Str.ofString ")"), st) := fun z hz =>
      ⟨addS st rfl (by omega), addS st rfl (by simp only [Str.length_append]; omega), addS st rfl (by simp only [Str.length_append]; omega), addS st rfl (by simp only [Str.length_append]; omega), addS st rfl (by simp only [Str.length_append]; omega)⟩
    have c1 : (Str.ofString "max").length = 3 ∧ (Str.ofString "min").length = 3 ∧ (Str.ofString "beats").length = 5 := by decide +kernel
    cases w with
    | plus =>
      obtain ⟨e1, e2⟩ := sums " + " l.2.1
      cases hp : inPL b <;> rw [hp] at hb1 e2 <;> simp only [brk, if_true, if_false, Bool.false_eq_true] at e2 <;> simp [fnM, m_f_law_written, -e_addS, -e_in, hb1, enc, W2.s, mergeD, putD, valD, f1, f2, bk1, bk2, e1, e2, wr, brk, hp, e_in (.str "plus")]
    | less =>
      obtain ⟨e1, e2⟩ := sums " - " l.2.2.1
      cases hp : inPL b <;> rw [hp] at hb1 e2 <;> simp only [brk, if_true, if_false, Bool.false_eq_true] at e2 <;> simp [fnM, m_f_law_written, -e_addS, -e_in, hb1, enc, W2.s, mergeD, putD, valD, f1, f2, bk1, bk2, e1, e2, wr, brk, hp, e_in (.str "less")]
    | most =>
      obtain ⟨e1, e2, e3, e4, e5⟩ := calls "max" (by omega)
      simp [fnM, m_f_law_written, -e_addS, enc, W2.s, mergeD, putD, valD, f1, f2, e1, e2, e3, e4, e5, wr, clS]
    | least =>
      obtain ⟨e1, e2, e3, e4, e5⟩ := calls "min" (by omega)
      simp [fnM, m_f_law_written, -e_addS, enc, W2.s, mergeD, putD, valD, f1, f2, e1, e2, e3, e4, e5, wr, clS]
    | beats =>
      obtain ⟨e1, e2, e3, e4, e5⟩ := calls "beats" (by omega)
      simp [fnM, m_f_law_written, -e_addS, enc, W2.s, mergeD, putD, valD, f1, f2, e1, e2, e3, e4, e5, wr, clS]
  | times n a =>
    have da : dep a < dep (.times n a) := by simp only [dep]; omega
    have la := len_wr hw.2.2
    have hbb : wl a ≤ br (inPLT a) (wl a) := by unfold br; split <;> omega
    simp only [wl] at hl
    have f1 := hwr a hw.2.2 da (by omega)
    have hb2 := hd_plt a st
    have lbk := len_brk (inPLT a) (wr a)
    rw [la] at lbk
    have ln := len_nS (n := n) hw.1 (by have := hw.2.1; omega)
    have bk1 := addS (x := Str.ofString "(") (y := wr a) st rfl (by omega)
    have bk2 := addS (x := Str.ofString "(" ++ wr a) (y := Str.ofString ")") st rfl (by rw [Str.length_append]; omega)
    have e1 := addS (x := nS n) (y := Str.ofString " * ") st rfl (by omega)
    have e2 := addS (x := nS n ++ Str.ofString " * ") (y := brk (inPLT a) (wr a)) st rfl (by rw [Str.length_append]; omega)
    have sN := fun st => strN (i := n) hw.1 (by have := hw.2.1; omega) st
    cases hp : inPLT a <;> rw [hp] at hb2 e2 <;> simp only [brk, if_true, if_false, Bool.false_eq_true] at e2 <;> simp [fnM, m_f_law_written, -e_addS, -e_str, -e_in, hb2, enc, sN, f1, bk1, bk2, e1, e2, wr, brk, hp, e_in (.str "times")]
end Ml

/-! read -/
namespace Ml
open PySem L2
/-! what the plain reader tells holds no reference -/
def Pin (P : Ps) : Prop := ∀ st r d r1, P r = some (d, r1) → d.inb st = true
theorem pLoop_in {P : Ps} (hP : Pin P) : ∀ n st f r d r1, f.inb st = true → pLoop P n f r = some (d, r1) → d.inb st = true
  | 0, st, f, r, d, r1, hf, h => by cases h; exact hf
  | n + 1, st, f, r, d, r1, hf, h => by
    unfold pLoop at h
    split at h
    · split at h
      · rename_i d3 r3 h3
        exact pLoop_in hP n st _ _ _ _ (by simp [D.inb, inbs, hf, hP st _ _ _ h3]) h
      · cases h
    · split at h
      · split at h
        · rename_i d3 r3 h3
          exact pLoop_in hP n st _ _ _ _ (by simp [D.inb, inbs, hf, hP st _ _ _ h3]) h
        · cases h
      · exact pLoop_in hP n st _ _ _ _ hf h
theorem pSay_in {P : Ps} (hP : Pin P) : Pin (pSay P) := fun st r d r1 h => by
  unfold pSay at h
  split at h
  · rename_i d2 r2 h2
    exact pLoop_in hP 6 st _ _ _ _ (hP st _ _ _ h2) h
  · cases h
theorem pArgs_in {P : Ps} (hP : Pin P) (w : String) : Pin (pArgs P w) := fun st r d r1 h => by
  unfold pArgs at h
  split at h
  · rename_i d2 r2 h2
    split at h
    · split at h
      · rename_i d4 r4 h4
        split at h
        · cases h
          simp [D.inb, inbs, pSay_in hP st _ _ _ h2, pSay_in hP st _ _ _ h4]
        · cases h
      · cases h
    · cases h
  · cases h
theorem pArgs_tup {P : Ps} {w : String} {r r1 : List Nat} {d : D} (h : pArgs P w r = some (d, r1)) : ∃ ds, d = .tup ds := by
  unfold pArgs at h
  split at h
  · split at h
    · split at h
      · split at h
        · cases h; exact ⟨_, rfl⟩
        · cases h
      · cases h
    · cases h
  · cases h
theorem pCall_tup {P : Ps} {r r1 : List Nat} {d : D} (h : pCall P r = some (some (d, r1))) : ∃ ds, d = .tup ds := by
  unfold pCall at h
  split at h
  · exact pArgs_tup (Option.some.inj h)
  · split at h
    · exact pArgs_tup (Option.some.inj h)
    · split at h
      · exact pArgs_tup (Option.some.inj h)
      · cases h
theorem pCall_in {P : Ps} (hP : Pin P) {st : Sto} {r r1 : List Nat} {d : D} (h : pCall P r = some (some (d, r1))) : d.inb st = true := by
  unfold pCall at h
  split at h
  · exact pArgs_in hP _ st _ _ _ (Option.some.inj h)
  · split at h
    · exact pArgs_in hP _ st _ _ _ (Option.some.inj h)
    · split at h
      · exact pArgs_in hP _ st _ _ _ (Option.some.inj h)
      · cases h
theorem pSigns_in {m s : Int} {st : Sto} {r r1 : List Nat} {d : D} : ∀ {tab : List (String × String)}, pSigns m s r tab = some (d, r1) → d.inb st = true
  | [], h => by cases h; rfl
  | (w, g) :: t, h => by
    unfold pSigns at h
    split at h
    · split at h
      · cases h; rfl
      · cases h
    · exact pSigns_in h
theorem pPart_in : ∀ k, Pin (pPart k)
  | 0, _, _, _, _, h => by cases h
  | k + 1, st, r, d, r1, h => by
    have hP := pPart_in k
    unfold pPart at h
    split at h
    · split at h
      · rename_i d3 r3 h3
        split at h
        · cases h
          exact pSay_in hP st _ _ _ h3
        · cases h
      · cases h
    · split at h
      · rename_i x hx
        subst h
        exact pCall_in hP hx
      · split at h
        · cases h
        · split at h
          · split at h
            · rename_i d4 r4 h4
              cases h
              simp [D.inb, inbs, hP st _ _ _ h4]
            · cases h
          · split at h
            · cases h; rfl
            · split at h
              · cases h
              · exact pSigns_in h
/-! ### the making of a reader -/
theorem set_last (st : Sto) (a b : Ob) : (st ++ [a]).set st.length b = st ++ [b] := by simp
theorem init_ok {T : Str} {st : Sto} : fnM 2 2 m_Reader_init [.ref st.length, .str T] (st ++ [.ins "Reader" []]) = .ok .non (st ++ [rdr T (ts T)]) := by
  have e : (0 : Int) = (T.length : Int) - ((ts T).length : Int) := by rw [ts_len]; omega
  simp [fnM, m_Reader_init, putFD, rdr, rf, ← e]
theorem at_last (st : Sto) (T : Str) (a : Ob) (r : List Nat) : At (st ++ [a]) st.length T r = st ++ [rdr T r] := by simp
theorem read_ok {lv : Nat} {c_say c_is c_wr : Fm} {T : Str} {st : Sto} (hlv : 2 ≤ lv) (hT : T.length ≤ lim)
    (hs : Rd (st ++ [rdr T (ts T)]) st.length T (c_say [.ref st.length, .int 6] (st ++ [rdr T (ts T)])) (pSay (pPart 6) (ts T)))
    (his : ∀ d st, d.inb st = true → ∃ b, c_is [d] st = .ok (.bl b) st ∧ (b = true ↔ ∃ s, d = enc s ∧ Wf s ∧ dep s ≤ 3 ∧ dice s ≤ 6))
    (hwr : ∀ s st, Wf s → dep s ≤ 3 → c_wr [enc s] st = .ok (.str (wr s)) st) :
    ∃ ob, (∃ s, Wf s ∧ dep s ≤ 3 ∧ dice s ≤ 6 ∧ wr s = T ∧ pSay (pPart 6) (ts T) = some (enc s, []) ∧ fnX 1 3 (m_read lv c_say c_is c_wr) [.str T] st = .ok (enc s) (st ++ [ob])) ∨
      (fnX 1 3 (m_read lv c_say c_is c_wr) [.str T] st = .exc "NoText" [] (st ++ [ob]) ∧ ∀ s, Wf s → dep s ≤ 3 → dice s ≤ 6 → wr s ≠ T) := by
  have hi := init_ok (T := T) (st := st)
  have hin : ∀ r, insAt (st ++ [rdr T r]) "Reader" (.ref st.length) = some (st.length, rf T r) := fun r => by
    rw [← at_last st T (rdr T r) r]
    exact ins_at (by simp) T r
  have hlt : ∀ r : List Nat, decide ((T.length : Int) - (r.length : Int) < (T.length : Int)) = !r.isEmpty := fun r => by
    cases r with
    | nil => simp
    | cons c t => simp; omega
  cases hp : pSay (pPart 6) (ts T) with
  | none =>
    obtain ⟨r, e⟩ := hs.none hp
    rw [at_last] at e
    refine ⟨rdr T r, .inr ⟨?_, fun s h1 h2 h3 h4 => ?_⟩⟩
    · simp [-e_insR, fnX, m_read, hlv, hi, hin, cCall, e]
    · subst h4
      rw [par_say h1 h2] at hp
      cases hp
  | some z =>
    obtain ⟨d, r⟩ := z
    have e := hs.some hp
    rw [at_last] at e
    refine ⟨rdr T r, ?_⟩
    have nos : ∀ s, Wf s → dep s ≤ 3 → wr s = T → enc s = d ∧ r = [] := fun s h1 h2 h4 => by
      subst h4
      rw [par_say h1 h2] at hp
      cases hp
      exact ⟨rfl, rfl⟩
    cases r with
    | cons c t =>
      refine .inr ⟨?_, fun s h1 h2 h3 h4 => by have := (nos s h1 h2 h4).2; cases this⟩
      have hl := hlt (c :: t)
      have hl' : (T.length : Int) - ((t.length : Int) + 1) < (T.length : Int) := by omega
      simp [-e_insR, fnX, m_read, hlv, hi, hin, cCall, e, e_lenS T _ hT, hl']
    | nil =>
      obtain ⟨b, e1, hb⟩ := his d (st ++ [rdr T []]) (pSay_in (pPart_in 6) _ _ _ _ hp)
      cases b with
      | false =>
        refine .inr ⟨?_, fun s h1 h2 h3 h4 => by have := hb.mpr ⟨s, (nos s h1 h2 h4).1.symm, h1, h2, h3⟩; cases this⟩
        simp [-e_insR, fnX, m_read, hlv, hi, hin, cCall, e, e_lenS T _ hT, e1]
      | true =>
        obtain ⟨s, rfl, h1, h2, h3⟩ := hb.mp rfl
        have e2 := hwr s (st ++ [rdr T []]) h1 h2
        by_cases hw : wr s = T
        · refine .inl ⟨s, h1, h2, h3, hw, rfl, ?_⟩
          have hne : (!(wr s == T)) = false := by simp [hw]
          simp [-e_insR, fnX, m_read, hlv, hi, hin, cCall, e, e_lenS T _ hT, e1, e2, hw]
        · refine .inr ⟨?_, fun s' h1' h2' h3' h4' => ?_⟩
          · simp [-e_insR, fnX, m_read, hlv, hi, hin, cCall, e, e_lenS T _ hT, e1, e2, hw]
          · have es := (nos s' h1' h2' h4').1
            have e3 := hwr s' (st ++ [rdr T []]) h1' h2'
            rw [es, e2] at e3
            injection e3 with q
            injection q with q
            exact hw (q.trans h4')
end Ml

namespace Ml
open PySem L2
/-! _law_told -/
theorem told_yes {c_word c_read : Fm} {T : Str} {d : D} {st st' : Sto} (h : c_read [.str T] st = .ok d st') : fnM 1 4 (m_f_law_told c_word c_read) [.str T] st = .ok d st' := by
  simp [fnM, m_f_law_told, cCall, h]
theorem told_no {c_word c_read : Fm} {T : Str} {st st' st2 : Sto} (h : c_read [.str T] st = .exc "NoText" [] st') (hw : c_word [.ref st'.length] (st' ++ [.exc "NoText"]) = .ok (.str "no text") st2) : fnM 1 4 (m_f_law_told c_word c_read) [.str T] st = .ok (.str "no text") st2 := by
  simp [fnM, m_f_law_told, cCall, h, cat_ThrowError, hw]
/-! _law_is_right -/
theorem right_no {c_told c_wr c_is : Fm} {T : Str} {st st' : Sto} (h : c_told [.str T] st = .ok (.str "no text") st') : fnM 1 2 (m_f_law_is_right c_told c_wr c_is) [.str T] st = .ok (.bl true) st' := by
  simp [fnM, m_f_law_is_right, h]
theorem right_yes {c_told c_wr c_is : Fm} {T : Str} {s : Say} {st st' : Sto} (h : c_told [.str T] st = .ok (enc s) st') (h2 : c_is [enc s] st' = .ok (.bl true) st') (h3 : c_wr [enc s] st' = .ok (.str T) st') : fnM 1 2 (m_f_law_is_right c_told c_wr c_is) [.str T] st = .ok (.bl true) st' := by
  simp [fnM, m_f_law_is_right, h, h2, h3]
/-! _law_changed -/
theorem cut_le (T : Str) (lo hi : Option Int) : (cutS T lo hi).length ≤ T.length := cutS_length T lo hi
theorem changed_ok {c_mix : Fm} {T : Str} {cell : Int} {st : Sto} (hm : ∀ c p m st, 0 < p → p < 10000 → 0 < m → c_mix [.int c, .int p, .int m] st = .ok (.int (mixv c p m)) st) (hT : T.length ≤ 100000) :
    ∃ T' : Str, T'.length ≤ 2 * T.length + 1 ∧ fnM 2 6 (m_f_law_changed c_mix) [.str T, .int cell] st = .ok (.str T') st := by
  have hl : lim = 1000000 := rfl
  have ls : (Str.ofString " 0123467dhlrxc+-*(),maxinbets").length = 29 := by decide +kernel
  have e1 : ∀ st, gLen [.str T] st = some (.int T.length, st) := fun st => by simp only [gLen, lenD, if_pos (show T.length ≤ lim by omega)]; rfl
  have e2 : ∀ st, gLen [.str (Str.ofString " 0123467dhlrxc+-*(),maxinbets")] st = some (.int 29, st) := fun st => by
    simp only [gLen, lenD, if_pos (show (Str.ofString " 0123467dhlrxc+-*(),maxinbets").length ≤ lim by omega), ls]; rfl
  have m1 := fun st => hm cell 9817 ((T.length : Int) + 1) st (by decide) (by decide) (by omega)
  have m2 := fun st => hm cell 9811 29 st (by decide) (by decide) (by decide)
  have m3 := fun st => hm cell 9803 3 st (by decide) (by decide) (by decide)
  have b0 := mixv_pos (c := cell) (p := 9811) (m := 29) (by decide)
  have b1 := mixv_lt (c := cell) (p := 9811) (m := 29) (by decide)
  generalize mixv cell 9817 ((T.length : Int) + 1) = at_ at *
  generalize mixv cell 9811 29 = sg at *
  generalize mixv cell 9803 3 = kd at *
  obtain ⟨g, hg⟩ : ∃ g, L2.atI (Str.ofString " 0123467dhlrxc+-*(),maxinbets").cps.toList sg = some g := by
    obtain ⟨n, rfl⟩ : ∃ n : Nat, sg = n := ⟨sg.toNat, by omega⟩
    have hn : n < (Str.ofString " 0123467dhlrxc+-*(),maxinbets").cps.toList.length := by rw [len_cps, ls]; omega
    exact ⟨_, atI_nat (List.getElem?_eq_getElem hn)⟩
  have e3 : ∀ st, gIx (.str (Str.ofString " 0123467dhlrxc+-*(),maxinbets")) (.int sg) st = some (.str ⟨#[g]⟩, st) := fun st => by rw [e_ixS, if_pos (by omega), hg]
  have c1 := cut_le T none (some at_)
  have c2 := cut_le T (some at_) none
  have c3 := cut_le T (some (at_ + 1)) none
  have lg : (⟨#[g]⟩ : Str).length = 1 := rfl
  have sl : ∀ lo hi, gSl (.str T) lo hi = some (.str (cutS T lo hi)) := fun lo hi => by rw [e_slS, if_pos (by omega)]
  have a1 : ∀ st, gAdd (.str (cutS T none (some at_))) (.str ⟨#[g]⟩) st = some (.str (cutS T none (some at_) ++ ⟨#[g]⟩), st) := fun st => by rw [e_addS, if_pos (by omega)]
  have la1 : (cutS T none (some at_) ++ ⟨#[g]⟩ : Str).length ≤ T.length + 1 := by rw [Str.length_append]; omega
  have a2 : ∀ st, gAdd (.str (cutS T none (some at_) ++ ⟨#[g]⟩)) (.str (cutS T (some at_) none)) st = some (.str (cutS T none (some at_) ++ ⟨#[g]⟩ ++ cutS T (some at_) none), st) := fun st => by rw [e_addS, if_pos (by omega)]
  have a3 : ∀ st, gAdd (.str (cutS T none (some at_) ++ ⟨#[g]⟩)) (.str (cutS T (some (at_ + 1)) none)) st = some (.str (cutS T none (some at_) ++ ⟨#[g]⟩ ++ cutS T (some (at_ + 1)) none), st) := fun st => by rw [e_addS, if_pos (by omega)]
  have a4 : ∀ st, gAdd (.str (cutS T none (some at_))) (.str (cutS T (some (at_ + 1)) none)) st = some (.str (cutS T none (some at_) ++ cutS T (some (at_ + 1)) none), st) := fun st => by rw [e_addS, if_pos (by omega)]
  by_cases h0 : kd = 0
  · refine ⟨cutS T none (some at_) ++ ⟨#[g]⟩ ++ cutS T (some at_) none, by rw [Str.length_append]; omega, ?_⟩
    simp [-e_addS, -e_slS, fnM, m_f_law_changed, e1, e2, m1, m2, m3, e3, h0, sl, a1, a2]
  · by_cases h1 : kd = 1
    · refine ⟨cutS T none (some at_) ++ cutS T (some (at_ + 1)) none, by rw [Str.length_append]; omega, ?_⟩
      simp [-e_addS, -e_slS, fnM, m_f_law_changed, e1, e2, m1, m2, m3, e3, h0, h1, sl, a4]
    · refine ⟨cutS T none (some at_) ++ ⟨#[g]⟩ ++ cutS T (some (at_ + 1)) none, by rw [Str.length_append]; omega, ?_⟩
      simp [-e_addS, -e_slS, fnM, m_f_law_changed, e1, e2, m1, m2, m3, e3, h0, h1, sl, a1, a3]
/-! texts that are none: a plain look -/
def diceD : Nat → D → Int
  | 0, _ => 0
  | k + 1, .tup [.str w, .int m, .int _, .int _] => m
  | k + 1, .tup [.str w, .int m, .int _] => m
  | k + 1, .tup [.str w, .int _, y] => diceD k y
  | k + 1, .tup [.str w, x, y] => diceD k x + diceD k y
  | _ + 1, _ => 0
def plD : D → Bool
  | .tup (.str w :: _) => w == "plus" || w == "less"
  | _ => false
def pltD : D → Bool
  | .tup (.str w :: _) => w == "plus" || w == "less" || w == "times"
  | _ => false
def wrD : Nat → D → Str
  | 0, _ => ""
  | _ + 1, .tup [.str w, .int n] => nS n
  | _ + 1, .tup [.str w, .int m, .int s, .int l] => nS m ++ Str.ofString "d" ++ nS s ++ (if w = "high" then "h" else if w = "low" then "l" else if w = "again" then "r" else if w = "burst" then "x" else "c") ++ nS l
  | _ + 1, .tup [.str w, .int m, .int s] => nS m ++ Str.ofString "d" ++ nS s
  | k + 1, .tup [.str w, .int n, y] => nS n ++ Str.ofString " * " ++ brk (pltD y) (wrD k y)
  | k + 1, .tup [.str w, x, y] => if w = "plus" then wrD k x ++ Str.ofString " + " ++ brk (plD y) (wrD k y) else if w = "less" then wrD k x ++ Str.ofString " - " ++ brk (plD y) (wrD k y)
      else (if w = "most" then Str.ofString "max" else if w = "least" then Str.ofString "min" else Str.ofString "beats") ++ Str.ofString "(" ++ wrD k x ++ Str.ofString ", " ++ wrD k y ++ Str.ofString ")"
  | _ + 1, _ => ""
theorem plD_enc (s : Say) : plD (enc s) = inPL s := by
  cases s with
  | dl w m k l => cases w <;> simp [plD, enc, WL.s, inPL]
  | two w a b => cases w <;> simp [plD, enc, W2.s, inPL]
  | _ => simp [plD, enc, inPL]
theorem pltD_enc (s : Say) : pltD (enc s) = inPLT s := by
  cases s with
  | dl w m k l => cases w <;> simp [pltD, enc, WL.s, inPLT, inPL]
  | two w a b => cases w <;> simp [pltD, enc, W2.s, inPLT, inPL]
  | _ => simp [pltD, enc, inPLT, inPL]
theorem enc_tup (s : Say) : ∃ ds, enc s = .tup ds := by rw [enc_eq]; exact ⟨_, rfl⟩
theorem diceD_enc : ∀ (s : Say) (k : Nat), dep s ≤ k → diceD k (enc s) = dice s
  | s, 0, h => absurd (Nat.le_trans (dep_pos s) h) (by decide)
  | .num n, k + 1, _ => rfl
  | .die m z, k + 1, _ => rfl
  | .dl w m z l, k + 1, _ => rfl
  | .two w a b, k + 1, h => by
    simp only [dep] at h
    have ha := diceD_enc a k (by omega)
    have hb := diceD_enc b k (by omega)
    obtain ⟨xs, ea⟩ := enc_tup a
    obtain ⟨ys, eb⟩ := enc_tup b
    simp only [enc, dice]
    rw [← ha, ← hb, ea, eb]
    rfl
  | .times n a, k + 1, h => by
    simp only [dep] at h
    have ha := diceD_enc a k (by omega)
    obtain ⟨xs, ea⟩ := enc_tup a
    simp only [enc, dice]
    rw [← ha, ea]
    rfl
theorem wrD_enc : ∀ (s : Say) (k : Nat), dep s ≤ k → wrD k (enc s) = wr s
  | s, 0, h => absurd (Nat.le_trans (dep_pos s) h) (by decide)
  | .num n, k + 1, _ => rfl
  | .die m z, k + 1, _ => rfl
  | .dl w m z l, k + 1, _ => by cases w <;> simp [enc, WL.s, wrD, wr, sgn]
  | .two w a b, k + 1, h => by
    simp only [dep] at h
    have ha := wrD_enc a k (by omega)
    have hb := wrD_enc b k (by omega)
    have pb := plD_enc b
    obtain ⟨xs, ea⟩ := enc_tup a
    obtain ⟨ys, eb⟩ := enc_tup b
    rw [ea] at ha
    rw [eb] at hb pb
    simp only [enc]
    rw [ea, eb]
    cases w <;> simp [wrD, W2.s, wr, clS, ha, hb, pb]
  | .times n a, k + 1, h => by
    simp only [dep] at h
    have ha := wrD_enc a k (by omega)
    have pa := pltD_enc a
    obtain ⟨xs, ea⟩ := enc_tup a
    rw [ea] at ha pa
    simp only [enc]
    rw [ea]
    simp [wrD, wr, ha, pa]
def badB (T : Str) : Bool := match pSay (pPart 6) (ts T) with
  | some (d, []) => !isS 3 d || !decide (diceD 3 d ≤ 6) || !(wrD 3 d == T)
  | _ => true
theorem badB_no {T : Str} (h : badB T = true) (s : Say) (h1 : Wf s) (h2 : dep s ≤ 3) (h3 : dice s ≤ 6) : wr s ≠ T := by
  rintro rfl
  unfold badB at h
  rw [par_say h1 h2] at h
  simp only [isS_enc s 3 h1 h2, diceD_enc s 3 h2, wrD_enc s 3 h2] at h
  simp [h3] at h
def bads : List String := ["", " ", "10", "01", "-1", "d6", "1d", "0d6", "4d6", "1d1", "1d7", "1d06", "1 d6", "1d6h", "1d6h0", "1d6h2", "2d6l3", "1d6r6", "1d6r0", "1d6x3", "1d6x0", "1d6c1", "1d6c7", "1d6z1", "1+1",
  "1 +1", "1  + 1", "1 +", "+ 1", "(1)", "(1 + 2)", "1 + (1d6)", "(1 + 2) + 3", "1 + 2)", "(1 + 2", "4 * 1d6", "1d6 * 2", "2*1d6", "2 * ", "2 * (1d6)", "2 * 3 * 1d6", "max(1)", "max(1,2)",
  "max(1, 2", "max(1, 2, 3)", "max (1, 2)", "Max(1, 2)", "beat(1, 2)", "beats(1, )", "min()", "1d6 ", " 1d6", "3d6 + 3d6 + 1d6", "max(max(max(1, 2), 1), 1)", "1 + 1 + 1 + 1", "2 * (2 * (2 * 1))", "1d6h1h1", "1 1", "2 * max(1 + 1 + 1, 1)"]
theorem bads_ok : ∀ x ∈ bads, badB (Str.ofString x) = true ∧ (Str.ofString x).length ≤ 100 := by decide +kernel
end Ml

namespace L13
open PySem L2 Ml
theorem l_mix (n : Nat) : ∀ c p m st, 0 < p → p < 10000 → 0 < m → callN (n + 1) .f_law_mix [.int c, .int p, .int m] st = .ok (.int (mixv c p m)) st := fun c p m st h1 h2 h3 => mix_ok h1 h2 h3
theorem l_many : ∀ (n : Nat) (s : Say) (st : Sto), dep s ≤ n → callN n .f_law_many [enc s] st = .ok (.int (dice s)) st
  | 0, s, _, h => absurd (Nat.le_trans (dep_pos s) h) (by decide)
  | n + 1, s, st, h => many_step fun a ha => l_many n a st (by omega)
theorem l_say : ∀ (deep n : Nat) (cell most : Int) (st : Sto), 1 ≤ deep → deep ≤ 3 → deep + 3 ≤ n → 0 ≤ most → ∃ s, Wf s ∧ dep s ≤ deep ∧ dice s ≤ most ∧ callN n .f_law_saying [.int cell, .int deep, .int most] st = .ok (enc s) st
  | 0, _, _, _, _, h, _, _, _ => absurd h (by decide)
  | deep + 1, n, cell, most, st, _, h3, hn, hm => by
    obtain ⟨k, rfl⟩ : ∃ k, n = k + 1 + 1 + 1 := ⟨n - 3, by omega⟩
    refine say_step (c_dice := callN (k + 1 + 1) .f_law_dice) (c_many := callN (k + 1 + 1) .f_law_many) (c_mix := callN (k + 1 + 1) .f_law_mix) (c_say := callN (k + 1 + 1) .f_law_saying) (by omega) h3 hm (l_mix _) (fun cell st h => dice_ok (l_mix k) h) (fun s st _ hd => l_many _ s st (by omega)) (fun cell most st h2 h0 => ?_)
    obtain ⟨s, k1, k2, k3, k4⟩ := l_say deep (k + 1 + 1) cell most st (by omega) (by omega) (by omega) h0
    refine ⟨s, k1, by omega, k3, ?_⟩
    have e : ((deep + 1 : Nat) : Int) - 1 = (deep : Int) := by omega
    rw [e]; exact k4
end L13

namespace L13
open PySem L2 Ml
theorem l_dicein : ∀ (n : Nat) (s : Say) (st : Sto), dep s ≤ n → callN n .dice_in [enc s] st = .ok (.int (dice s)) st
  | 0, s, _, h => absurd (Nat.le_trans (dep_pos s) h) (by decide)
  | n + 1, s, st, h => dicein_step fun a ha => l_dicein n a st (by omega)
theorem l_whole (n : Nat) (st : Sto) : ∀ (d : D) lo hi, d.inb st = true → callN (n + 1) .is_whole [d, .int lo, .int hi] st = .ok (.bl (whole d lo hi)) st := fun d lo hi h => whole_ok h
theorem l_last (n : Nat) (st : Sto) : ∀ (w : Str) m s z, z.inb st = true → (w = "high" ∨ w = "low" ∨ w = "again" ∨ w = "burst" ∨ w = "count") → callN (n + 2) .is_last [.str w, .int m, .int s, z] st = .ok (.bl (lastB w m s z)) st := fun w m s z hz hw => last_ok (l_whole n st) hz hw
theorem l_idice (n : Nat) (st : Sto) : ∀ (w : Str) x rest, inbs st (x :: rest) = true → (w = "dice" ∨ w = "high" ∨ w = "low" ∨ w = "again" ∨ w = "burst" ∨ w = "count") → callN (n + 3) .is_dice [.tup (.str w :: x :: rest)] st = .ok (.bl (isS 1 (.tup (.str w :: x :: rest)))) st := fun w x rest hi hw => dice_len_ok (l_whole (n + 1) st) (l_last n st) hi hw
theorem l_in : ∀ (k n : Nat) (d : D) (st : Sto), k + 4 ≤ n → d.inb st = true → callN n .is_saying_in [d, .int k] st = .ok (.bl (isS k d)) st
  | k, n, d, st, h, hd => by
    obtain ⟨m, rfl⟩ : ∃ m, n = m + 4 := ⟨n - 4, by omega⟩
    refine in_step (c1 := callN (m + 3) .is_dice) (c2 := callN (m + 3) .is_saying_in) (c3 := callN (m + 3) .is_whole) (l_whole (m + 2) st) (l_idice m st) (fun d hd hk => ?_) hd
    obtain ⟨j, rfl⟩ : ∃ j, k = j + 1 := ⟨k - 1, by omega⟩
    have e : ((j + 1 : Nat) : Int) - 1 = (j : Int) := by omega
    rw [e]
    exact l_in j (m + 3) d st (by omega) hd
  termination_by k => k
theorem l_issay {n : Nat} (hn : 9 ≤ n) (s : Say) (st : Sto) (hw : Wf s) (hp : dep s ≤ 3) : callN n .is_saying [enc s] st = .ok (.bl (decide (dice s ≤ 6))) st := by
  obtain ⟨m, rfl⟩ : ∃ m, n = m + 1 := ⟨n - 1, by omega⟩
  exact is_enc (c1 := callN m .dice_in) (c2 := callN m .is_saying_in) (l_in 3 m (enc s) st (by omega) (inb_enc st s)) (isS_enc s 3 hw hp) (l_dicein m s st (by omega))
end L13

namespace L13
open PySem L2 Ml
theorem l_written : ∀ (k n : Nat) (s : Say) (st : Sto), dep s ≤ k → 2 * k + 1 ≤ n → Wf s → wl s ≤ 90000 → callN n .written [enc s] st = .ok (.str (wr s)) st
  | 0, _, s, _, h, _, _, _ => absurd (Nat.le_trans (dep_pos s) h) (by decide)
  | k + 1, n, s, st, h, hn, hw, hl => by
    obtain ⟨m, rfl⟩ : ∃ m, n = m + 1 + 1 := ⟨n - 2, by omega⟩
    refine written_step (c_br := callN (m + 1) .in_brackets) (c_wr := callN (m + 1) .written) hw hl (fun a ha hd hl => l_written k (m + 1) a st (by omega) (by omega) ha hl) (fun a ha hd hl => ?_) (fun a ha hd hl => ?_)
    · exact (br_ok (c_wr := callN m .written) ha hl (l_written k m a st (by omega) (by omega) ha hl)).1
    · exact (br_ok (c_wr := callN m .written) ha hl (l_written k m a st (by omega) (by omega) ha hl)).2
theorem wl_5 {s : Say} (h : dep s ≤ 5) : wl s ≤ 90000 := by
  have h1 := wl_le s
  have h2 : 4 ^ dep s ≤ 4 ^ 5 := Nat.pow_le_pow_right (by decide) h
  have h3 : (4 : Nat) ^ 5 = 1024 := by decide
  omega
theorem l_writtenN {n : Nat} (hn : 11 ≤ n) (s : Say) (st : Sto) (hw : Wf s) (hp : dep s ≤ 5) : callN n .written [enc s] st = .ok (.str (wr s)) st := l_written 5 n s st hp (by omega) hw (wl_5 hp)
end L13

namespace L13
open PySem L2 Ml
theorem l_rhas {base : Sto} {i : Nat} {T : Str} (hi : i < base.length) (hT : T.length ≤ lim) (n m k : Nat) : Has base i T (callN (n + 1) .Reader_has) (callN (m + 2) .Reader_must) (callN (k + 1) .Reader_figure) where
  lt := hi
  has := fun x r r1 hx hr e => by
    have := has_ok (base := base) hi hT (x := x) (by have : lim = 1000000 := rfl; omega) hr
    rw [e] at this
    exact this
  hasN := fun x r hx hr e => by
    have := has_ok (base := base) hi hT (x := x) (by have : lim = 1000000 := rfl; omega) hr
    rw [e] at this
    exact this
  must := fun x r r1 hx hr e => by
    have := must_ok (c_has := callN (m + 1) .Reader_has) (base := base) hi (has_ok (base := base) hi hT (x := x) (by have : lim = 1000000 := rfl; omega) hr)
    rw [e] at this
    exact this
  mustN := fun x r hx hr e => by
    have := must_ok (c_has := callN (m + 1) .Reader_has) (base := base) hi (has_ok (base := base) hi hT (x := x) (by have : lim = 1000000 := rfl; omega) hr)
    rw [e] at this
    exact this
  fig := fun r n r1 hr e => by
    have := fig_ok (base := base) hi hT hr
    rw [e] at this
    exact this
  figN := fun r hr e => by
    have := fig_ok (base := base) hi hT hr
    rw [e] at this
    exact this
theorem l_rsay {base : Sto} {i : Nat} {T : Str} (hi : i < base.length) (hT : T.length ≤ lim) {n k : Nat} (hp : ∀ r, r <:+ T.cps.toList → Rd base i T (callN (n + 2) .Reader_part [.ref i, .int k] (At base i T r)) (pPart k r)) (r : List Nat) (hr : r <:+ T.cps.toList) :
    Rd base i T (callN (n + 3) .Reader_saying [.ref i, .int k] (At base i T r)) (pSay (pPart k) r) := say_ok (c_has := callN (n + 2) .Reader_has) (c_part := callN (n + 2) .Reader_part) (l_rhas hi hT (n + 1) n 0) (pPart_suf k) hp hr
theorem l_rpart {base : Sto} {i : Nat} {T : Str} (hi : i < base.length) (hT : T.length ≤ lim) : ∀ (k n : Nat), 3 * k + 4 ≤ n → ∀ r, r <:+ T.cps.toList → Rd base i T (callN n .Reader_part [.ref i, .int k] (At base i T r)) (pPart k r)
  | 0, n, hn, r, hr => by
    obtain ⟨m, rfl⟩ : ∃ m, n = m + 1 := ⟨n - 1, by omega⟩
    exact part0_ok (c_call := callN m .Reader_call) (c_fig := callN m .Reader_figure) (c_has := callN m .Reader_has) (c_must := callN m .Reader_must) (c_part := callN m .Reader_part) (c_say := callN m .Reader_saying)
  | k + 1, n, hn, r, hr => by
    obtain ⟨m, rfl⟩ : ∃ m, n = m + 5 := ⟨n - 5, by omega⟩
    have e : ((k + 1 : Nat) : Int) = (k : Int) + 1 := by omega
    rw [e]
    refine part_ok (c_call := callN (m + 4) .Reader_call) (c_fig := callN (m + 4) .Reader_figure) (c_has := callN (m + 4) .Reader_has) (c_must := callN (m + 4) .Reader_must) (c_part := callN (m + 4) .Reader_part) (c_say := callN (m + 4) .Reader_saying) (l_rhas hi hT (m + 3) (m + 2) (m + 3)) (fun r hr => ?_) (fun r hr => l_rpart hi hT k (m + 4) (by omega) r hr) (fun r hr => ?_) hr (fun d r1 h => pCall_tup h)
    · exact l_rsay hi hT (n := m + 1) (fun r hr => l_rpart hi hT k (m + 3) (by omega) r hr) r hr
    · exact call_ok (c_has := callN (m + 3) .Reader_has) (c_must := callN (m + 3) .Reader_must) (c_say := callN (m + 3) .Reader_saying) (l_rhas hi hT (m + 2) (m + 1) 0) (pPart_suf k) (fun r hr => l_rsay hi hT (n := m) (fun r hr => l_rpart hi hT k (m + 2) (by omega) r hr) r hr) hr
theorem l_isany {n : Nat} (hn : 9 ≤ n) (d : D) (st : Sto) (hd : d.inb st = true) : ∃ b, callN n .is_saying [d] st = .ok (.bl b) st ∧ (b = true ↔ ∃ s, d = enc s ∧ Wf s ∧ dep s ≤ 3 ∧ dice s ≤ 6) := by
  obtain ⟨m, rfl⟩ : ∃ m, n = m + 1 := ⟨n - 1, by omega⟩
  have h2 := l_in 3 m d st (by omega) hd
  cases h : isS 3 d with
  | false =>
    refine ⟨false, is_no (c1 := callN m .dice_in) (c2 := callN m .is_saying_in) h2 h, (fun z => by cases z), fun ⟨s, e, hw, hp, _⟩ => ?_⟩
    subst e
    rw [isS_enc s 3 hw hp] at h
    cases h
  | true =>
    obtain ⟨s, rfl, hw, hp⟩ := say_of 3 d h
    refine ⟨_, is_enc (c1 := callN m .dice_in) (c2 := callN m .is_saying_in) h2 h (l_dicein m s st (by omega)), (fun z => ⟨s, rfl, hw, hp, by simpa using z⟩), fun ⟨s', e, hw', hp', hd'⟩ => ?_⟩
    have e1 := l_dicein m s st (by omega)
    have e2 := l_dicein m s' st (by omega)
    rw [← e, e1] at e2
    injection e2 with q
    injection q with q
    rw [decide_eq_true_eq, q]
    exact hd'
theorem l_read {n : Nat} (hn : 30 ≤ n) {T : Str} (hT : T.length ≤ lim) (st : Sto) :
    ∃ ob, (∃ s, Wf s ∧ dep s ≤ 3 ∧ dice s ≤ 6 ∧ wr s = T ∧ pSay (pPart 6) (ts T) = some (enc s, []) ∧ callN n .read [.str T] st = .ok (enc s) (st ++ [ob])) ∨
      (callN n .read [.str T] st = .exc "NoText" [] (st ++ [ob]) ∧ ∀ s, Wf s → dep s ≤ 3 → dice s ≤ 6 → wr s ≠ T) := by
  obtain ⟨m, rfl⟩ : ∃ m, n = m + 4 := ⟨n - 4, by omega⟩
  refine read_ok (c_say := callN (m + 3) .Reader_saying) (c_is := callN (m + 3) .is_saying) (c_wr := callN (m + 3) .written) (by omega) hT ?_ (fun d st hd => l_isany (by omega) d st hd) (fun s st hw hp => l_writtenN (by omega) s st hw (by omega))
  have hi : st.length < (st ++ [rdr T (ts T)]).length := by simp
  have := l_rsay hi hT (n := m) (k := 6) (fun r hr => l_rpart hi hT 6 (m + 2) (by omega) r hr) (ts T) (List.suffix_refl _)
  rw [at_last] at this
  exact this
end L13

namespace L13
open PySem L2 Ml
def lv : Nat := 40
theorem l_lwritten : ∀ (n : Nat) (s : Say) (st : Sto), dep s ≤ n → Wf s → wl s ≤ 90000 → callN n .f_law_written [enc s] st = .ok (.str (wr s)) st
  | 0, s, _, h, _, _ => absurd (Nat.le_trans (dep_pos s) h) (by decide)
  | n + 1, s, st, h, hw, hl => lw_step hw hl fun a ha hd hl => l_lwritten n a st (by omega) ha hl
theorem l_word (n : Nat) (st : Sto) : ∃ st', callN (n + 1) .f_law_word [.ref st.length] (st ++ [.exc "NoText"]) = .ok (.str "no text") st' :=
  word_ok (c := "NoText") (b1 := false) (b2 := true) (b3 := false) (b4 := false) (j := 1) (by simp) (by simp [isi_NoFaces]) (by simp [isi_NoText]) (by simp [isi_NoWorth]) (by simp [isi_NoNote]) (by simp [isi_ValueError]) (.inr (.inl rfl))
theorem l_told {n : Nat} (hn : 31 ≤ n) {T : Str} (hT : T.length ≤ lim) (st : Sto) :
    ∃ st', (∃ s, Wf s ∧ dep s ≤ 3 ∧ dice s ≤ 6 ∧ wr s = T ∧ callN n .f_law_told [.str T] st = .ok (enc s) st') ∨ (callN n .f_law_told [.str T] st = .ok (.str "no text") st') := by
  obtain ⟨m, rfl⟩ : ∃ m, n = m + 1 + 1 := ⟨n - 2, by omega⟩
  obtain ⟨ob, ⟨s, h1, h2, h3, h4, _, e⟩ | ⟨e, no⟩⟩ := l_read (n := m + 1) (by omega) hT st
  · exact ⟨_, .inl ⟨s, h1, h2, h3, h4, told_yes e⟩⟩
  · obtain ⟨st2, hw⟩ := l_word m (st ++ [ob])
    exact ⟨st2, .inr (told_no e hw)⟩
theorem l_bad {n : Nat} (hn : 31 ≤ n) {T : Str} (hT : T.length ≤ lim) (hb : badB T = true) (st : Sto) : ∃ st', callN n .f_law_told [.str T] st = .ok (.str "no text") st' := by
  obtain ⟨st', ⟨s, h1, h2, h3, h4, _⟩ | e⟩ := l_told hn hT st
  · exact absurd h4 (badB_no hb s h1 h2 h3)
  · exact ⟨st', e⟩
theorem l_right {n : Nat} (hn : 32 ≤ n) {T : Str} (hT : T.length ≤ lim) (st : Sto) : ∃ st', callN n .f_law_is_right [.str T] st = .ok (.bl true) st' := by
  obtain ⟨m, rfl⟩ : ∃ m, n = m + 1 := ⟨n - 1, by omega⟩
  obtain ⟨st', ⟨s, h1, h2, h3, h4, e⟩ | e⟩ := l_told (n := m) (by omega) hT st
  · have e2 := l_issay (n := m) (by omega) s st' h1 h2
    rw [decide_eq_true h3] at e2
    have e3 := l_lwritten m s st' (by omega) h1 (wl_5 (by omega))
    rw [h4] at e3
    exact ⟨st', right_yes e e2 e3⟩
  · exact ⟨st', right_no e⟩
theorem lc_bad {ev : Ev} (h4 : 4 ≤ ev.length) : ∀ (xs : List String) (st : Sto), (∀ x ∈ xs, badB (Str.ofString x) = true ∧ (Str.ofString x).length ≤ 100) → ∃ st', lcLoop (gtName 2) mYes (mOp gNe (mCall (callN 39 .f_law_told) (mCons (mVar 2) mNil)) (mC (.str "no text"))) (xs.map fun x => D.str (Str.ofString x)) ev st = .ok (xs.map fun _ => D.bl false) st'
  | [], st, _ => ⟨st, rfl⟩
  | x :: xs, st, h => by
    obtain ⟨h1, h2⟩ := h x List.mem_cons_self
    obtain ⟨st1, e1⟩ := l_bad (n := 39) (by decide) (T := Str.ofString x) (by have : lim = 1000000 := rfl; omega) h1 st
    obtain ⟨st2, e2⟩ := lc_bad h4 xs st1 fun y hy => h y (List.mem_cons_of_mem _ hy)
    refine ⟨st2, ?_⟩
    have g2 : (ev.set 2 (some (D.str (Str.ofString x))))[2]? = some (some (.str (Str.ofString x))) := List.getElem?_set_self (by omega)
    simp [g2, e1, e2]
theorem bad_list : ∃ (k : Nat) (st : Sto), callN 39 .f_law_bad [] [] = .ok (.ref k) st ∧ st[k]? = some (.lst (bads.map fun x => D.str (Str.ofString x))) := ⟨10, _, rfl, rfl⟩
theorem any_false : ∀ n : Nat, gAny (List.replicate n (D.bl false)) = some (.bl false)
  | n => by
    have e : List.replicate n (D.bl false) = (List.replicate n false).map D.bl := by simp
    rw [e]
    unfold gAny
    rw [blsOf_map]
    simp
theorem body1 {ns : List Int} {k : Nat} {turn : Nat} {T : Str} {st : Sto} (hT : T.length ≤ 100000) :
    ∃ (st' : Sto) (T' : Str), T'.length ≤ 2 * T.length + 1 ∧ m_law_b1 (callN 39 .f_law_bad) (callN 39 .f_law_cell) (callN 39 .f_law_changed) (callN 39 .f_law_is_right) (callN 39 .f_law_saying) (callN 39 .f_law_told) (callN 39 .f_law_written) [some (.ro (ns.map D.int)), some (.int k), some (.str T), some (.int turn)] st =
      .ok (.nx, [some (.ro (ns.map D.int)), some (.int k), some (.str T'), some (.int turn)]) st' := by
  obtain ⟨cv, hcv⟩ : ∃ c : Int, callN 39 .f_law_cell [.ro (ns.map D.int), .int (8 + (turn : Int) % 2)] st = .ok (.int c) st := cell_ok (by have := Int.emod_nonneg (turn : Int) (b := 2) (by decide); omega)
  obtain ⟨T', h1, e1⟩ := changed_ok (c_mix := callN 38 .f_law_mix) (T := T) (cell := cv + 7 * k + 11 * turn) (st := st) (l_mix 37) hT
  have e1 : callN 39 .f_law_changed [.str T, .int (cv + 7 * k + 11 * turn)] st = .ok (.str T') st := e1
  obtain ⟨st', e2⟩ := l_right (n := 39) (by decide) (T := T') (by have : lim = 1000000 := rfl; omega) st
  have s7 : small64 7 = true := by decide
  have s11 : small64 11 = true := by decide
  exact ⟨st', T', h1, by unfold m_law_b1; simp [hcv, s7, s11, e1, e2]⟩
theorem body2 {ns : List Int} {k : Nat} {v2 v3 : Option D} {st : Sto} :
    ∃ (st' : Sto) (w2 w3 : Option D), m_law_b2 (callN 39 .f_law_bad) (callN 39 .f_law_cell) (callN 39 .f_law_changed) (callN 39 .f_law_is_right) (callN 39 .f_law_saying) (callN 39 .f_law_told) (callN 39 .f_law_written) [some (.ro (ns.map D.int)), some (.int k), v2, v3] st =
      .ok (.nx, [some (.ro (ns.map D.int)), some (.int k), w2, w3]) st' := by
  obtain ⟨cv, hcv⟩ : ∃ c : Int, callN 39 .f_law_cell [.ro (ns.map D.int), .int ((k : Int) % 8)] st = .ok (.int c) st := cell_ok (Int.emod_nonneg _ (by decide))
  obtain ⟨s, h1, h2, h3, e1⟩ := l_say 3 39 (cv + 3 * k) 6 st (by decide) (by decide) (by decide) (by decide)
  have e1 : callN 39 .f_law_saying [.int (cv + 3 * k), .int 3, .int 6] st = .ok (enc s) st := e1
  have e2 := l_lwritten 39 s st (by omega) h1 (wl_5 (by omega))
  have hl := len_wr h1
  have hw := wl_le s
  have hp : 4 ^ dep s ≤ 4 ^ 3 := Nat.pow_le_pow_right (by decide) h2
  obtain ⟨st1, T1, g1, f1⟩ := body1 (ns := ns) (k := k) (turn := 0) (T := wr s) (st := st) (by omega)
  obtain ⟨st2, T2, g2, f2⟩ := body1 (ns := ns) (k := k) (turn := 1) (T := T1) (st := st1) (by omega)
  obtain ⟨st3, T3, g3, f3⟩ := body1 (ns := ns) (k := k) (turn := 2) (T := T2) (st := st2) (by omega)
  have s3 : small64 3 = true := by decide
  have r3 : rngD 0 3 = [.int 0, .int 1, .int 2] := rfl
  have hl3 : (3 : Int) ≤ ((lim : Nat) : Int) := by decide
  have f1 := f1
  simp only [Int.ofNat_zero, Int.natCast_zero, Int.natCast_one] at f1 f2 f3
  have f3' : m_law_b1 (callN 39 .f_law_bad) (callN 39 .f_law_cell) (callN 39 .f_law_changed) (callN 39 .f_law_is_right) (callN 39 .f_law_saying) (callN 39 .f_law_told) (callN 39 .f_law_written) [some (.ro (ns.map D.int)), some (.int k), some (.str T2), some (.int 2)] st2 = .ok (.nx, [some (.ro (ns.map D.int)), some (.int k), some (.str T3), some (.int 2)]) st3 := f3
  refine ⟨st3, some (.str T3), some (.int 2), ?_⟩
  unfold m_law_b2
  simp [hcv, s3, e1, e2, r3, hl3, e_loopC, f1, f2, f3']
theorem law_true (ns : List Int) (h : ns.length ≤ 63) : ∃ st', callN lv .law [.ro (ns.map D.int)] [] = .ok (.bl true) st' := by
  rw [show callN lv .law = fnM 1 4 (m_law (callN 39 .f_law_bad) (callN 39 .f_law_cell) (callN 39 .f_law_changed) (callN 39 .f_law_is_right) (callN 39 .f_law_saying) (callN 39 .f_law_told) (callN 39 .f_law_written)) from rfl]
  obtain ⟨kb, stb, eb, hb⟩ := bad_list
  obtain ⟨st1, e1⟩ := lc_bad (ev := [some (.ro (ns.map D.int)), none, none, none]) (by simp) bads (stb.set kb (.ro (bads.map fun x => D.str (Str.ofString x)))) bads_ok
  have kl : kb < stb.length := (List.getElem?_eq_some_iff.mp hb).1
  have it : itemsK .lst (.ro (bads.map fun x => D.str (Str.ofString x))) = some (bads.map fun x => D.str (Str.ofString x)) := by
    simp only [itemsK]
    rw [if_pos (by rw [List.length_map]; decide)]
  obtain ⟨ev', st', hl, v1, v2, v3, rfl⟩ := loop_inv (g := gtName 1) (body := m_law_b2 (callN 39 .f_law_bad) (callN 39 .f_law_cell) (callN 39 .f_law_changed) (callN 39 .f_law_is_right) (callN 39 .f_law_saying) (callN 39 .f_law_told) (callN 39 .f_law_written)) (ds := rngD 0 10)
    (I := fun ev => ∃ v1 v2 v3, ev = [some (.ro (ns.map D.int)), v1, v2, v3])
    (by
      rintro d hd ev st ⟨v1, v2, v3, rfl⟩
      obtain ⟨i, hi⟩ := List.getElem?_of_mem hd
      obtain ⟨hi1, rfl⟩ := rngD_get hi
      obtain ⟨st', w2, w3, e⟩ := body2 (ns := ns) (k := i) (st := st) (v2 := v2) (v3 := v3)
      exact ⟨_, _, st', rfl, by simpa using e, _, _, _, rfl⟩)
    [some (.ro (ns.map D.int)), none, none, none] st1 ⟨_, _, _, rfl⟩
  have hl8 : (10 : Int) ≤ ((lim : Nat) : Int) := by decide
  have ea : gAny (bads.map fun _ => D.bl false) = some (.bl false) := by rw [List.map_const']; exact any_false _
  refine ⟨st', ?_⟩
  simp only [fnM, m_law]
  simp [hl8, hl, eb, hb, e1, ea, it, List.getElem?_set_self kl]
end L13

open PySem PySem.W PyProof.Rows
set_option maxRecDepth 100000 in
set_option maxHeartbeats 0 in
theorem PySem.Challenge.cw_diespeech_k13_whole_no_other_texts_holds : PySem.Challenge.rw_diespeech_k13_whole_no_other_texts.Holds := by
  w_on; o_law; k_head; (case hw => w_witness2)
  k_fill
  refine Ml.walk_m (l := PySem.Challenge.rw_diespeech_k13_whole_no_other_texts) (k := L13.lv) (c := L13.callN L13.lv .law) rfl rfl ⟨rfl, by decide, by decide⟩ (fun w h Y => PySem.W.kIn_of Y) ?F L13.law_true
  case F =>
    intro w mg fa h KX G hmg
    refine' L13.all_mk L13.lv KX G hmg ?g_NoFaces ?g_NoNote ?g_NoText ?g_NoWorth ?g_Reader ?g_ThrowError ?pg_Reader ?hd_Reader ?po_Reader ?sa_Reader ?mk_Reader ?kc_Reader ?n_Reader_text ?n_Reader_place ?x_NoText ?k_NoText ?s_NoText ?y_NoText ?e_ThrowError_NoText ?xc_hn ?xc_ht ?xc_hg_NoText ?xc_hk_NoText ?xc_hs_NoText ?xc_hd_NoText ?xc_ha_NoText ?xc_hm_NoText ?xi_NoFaces_NoText ?xi_NoNote_NoText ?xi_NoText_NoText ?xi_NoWorth_NoText ?xi_ValueError_NoText ?a_f_Reader_init ?l_f_Reader_init ?c_f_Reader_init ?k_f_Reader_init ?i_f_Reader_init ?a_f_is_whole ?l_f_is_whole ?c_f_is_whole ?k_f_is_whole ?a_f_is_last ?l_f_is_last ?c_f_is_last ?k_f_is_last ?a_f_is_dice ?l_f_is_dice ?c_f_is_dice ?k_f_is_dice ?a_f_is_saying_in ?l_f_is_saying_in ?c_f_is_saying_in ?k_f_is_saying_in ?a_f_dice_in ?l_f_dice_in ?c_f_dice_in ?k_f_dice_in ?a_f_is_saying ?l_f_is_saying ?c_f_is_saying ?k_f_is_saying ?a_f_in_brackets ?l_f_in_brackets ?c_f_in_brackets ?k_f_in_brackets ?a_f_written ?l_f_written ?c_f_written ?k_f_written ?a_f_Reader_has ?l_f_Reader_has ?c_f_Reader_has ?k_f_Reader_has ?i_f_Reader_has ?a_f_Reader_must ?l_f_Reader_must ?c_f_Reader_must ?k_f_Reader_must ?i_f_Reader_must ?a_f_Reader_figure ?l_f_Reader_figure ?c_f_Reader_figure ?k_f_Reader_figure ?i_f_Reader_figure ?a_f_Reader_call ?l_f_Reader_call ?c_f_Reader_call ?k_f_Reader_call ?i_f_Reader_call ?a_f_Reader_part ?l_f_Reader_part ?c_f_Reader_part ?k_f_Reader_part ?i_f_Reader_part ?a_f_Reader_saying ?l_f_Reader_saying ?c_f_Reader_saying ?k_f_Reader_saying ?i_f_Reader_saying ?a_f_read ?l_f_read ?c_f_read ?k_f_read ?a_f_f_law_cell ?l_f_f_law_cell ?c_f_f_law_cell ?k_f_f_law_cell ?a_f_f_law_mix ?l_f_f_law_mix ?c_f_f_law_mix ?k_f_f_law_mix ?a_f_f_law_dice ?l_f_f_law_dice ?c_f_f_law_dice ?k_f_f_law_dice ?a_f_f_law_many ?l_f_f_law_many ?c_f_f_law_many ?k_f_f_law_many ?a_f_f_law_saying ?l_f_f_law_saying ?c_f_f_law_saying ?k_f_f_law_saying ?a_f_f_law_written ?l_f_f_law_written ?c_f_f_law_written ?k_f_f_law_written ?a_f_f_law_word ?l_f_f_law_word ?c_f_f_law_word ?k_f_f_law_word ?a_f_f_law_told ?l_f_f_law_told ?c_f_f_law_told ?k_f_f_law_told ?a_f_f_law_is_right ?l_f_f_law_is_right ?c_f_f_law_is_right ?k_f_f_law_is_right ?a_f_f_law_bad ?l_f_f_law_bad ?c_f_f_law_bad ?k_f_f_law_bad ?a_f_f_law_changed ?l_f_f_law_changed ?c_f_f_law_changed ?k_f_f_law_changed ?a_f_law ?l_f_law ?c_f_law ?k_f_law ?z_ValueError ?z_all ?z_any ?z_bool ?z_int ?z_isinstance ?z_len ?z_min ?z_range ?z_str ?z_sum ?z_tuple ?g_TWO ?l_TWO ?g_DICE ?l_DICE ?g_DEEPEST ?g_MOST_DICE ?g_SIGNS ?l_SIGNS ?y_SIGNS ?g_CALLS ?l_CALLS ?y_CALLS ?g_SUMS ?l_SUMS ?y_SUMS ?g_FIGURES ?g_MOST_DEEP
    (case g_NoFaces => k_is)
    (case g_NoNote => k_is)
    (case g_NoText => k_is)
    (case g_NoWorth => k_is)
    (case g_Reader => k_is)
    (case g_ThrowError => k_is)
    (case pg_Reader => k_is)
    (case hd_Reader => k_is)
    (case po_Reader => k_is)
    (case sa_Reader => k_is)
    (case mk_Reader => k_is)
    (case kc_Reader => k_is)
    (case n_Reader_text => k_is)
    (case n_Reader_place => k_is)
    (case x_NoText => k_exc)
    (case k_NoText => k_is)
    (case s_NoText => k_is)
    (case y_NoText => k_is)
    (case e_ThrowError_NoText => kts_exm)
    (case xc_hn => k_is)
    (case xc_ht => k_is)
    (case xc_hg_NoText => k_is)
    (case xc_hk_NoText => k_is)
    (case xc_hs_NoText => k_is)
    (case xc_hd_NoText => k_is)
    (case xc_ha_NoText => k_is)
    (case xc_hm_NoText => k_is)
    (case xi_NoFaces_NoText => kit_is)
    (case xi_NoNote_NoText => kit_is)
    (case xi_NoText_NoText => kit_is)
    (case xi_NoWorth_NoText => kit_is)
    (case xi_ValueError_NoText => kit_is)
    (case a_f_Reader_init => k_is)
    (case l_f_Reader_init => k_is)
    (case c_f_Reader_init => k_is)
    (case k_f_Reader_init => k_is)
    (case i_f_Reader_init => k_is)
    (case a_f_is_whole => k_is)
    (case l_f_is_whole => k_is)
    (case c_f_is_whole => k_is)
    (case k_f_is_whole => k_is)
    (case a_f_is_last => k_is)
    (case l_f_is_last => k_is)
    (case c_f_is_last => k_is)
    (case k_f_is_last => k_is)
    (case a_f_is_dice => k_is)
    (case l_f_is_dice => k_is)
    (case c_f_is_dice => k_is)
    (case k_f_is_dice => k_is)
    (case a_f_is_saying_in => k_is)
    (case l_f_is_saying_in => k_is)
    (case c_f_is_saying_in => k_is)
    (case k_f_is_saying_in => k_is)
    (case a_f_dice_in => k_is)
    (case l_f_dice_in => k_is)
    (case c_f_dice_in => k_is)
    (case k_f_dice_in => k_is)
    (case a_f_is_saying => k_is)
    (case l_f_is_saying => k_is)
    (case c_f_is_saying => k_is)
    (case k_f_is_saying => k_is)
    (case a_f_in_brackets => k_is)
    (case l_f_in_brackets => k_is)
    (case c_f_in_brackets => k_is)
    (case k_f_in_brackets => k_is)
    (case a_f_written => k_is)
    (case l_f_written => k_is)
    (case c_f_written => k_is)
    (case k_f_written => k_is)
    (case a_f_Reader_has => k_is)
    (case l_f_Reader_has => k_is)
    (case c_f_Reader_has => k_is)
    (case k_f_Reader_has => k_is)
    (case i_f_Reader_has => k_is)
    (case a_f_Reader_must => k_is)
    (case l_f_Reader_must => k_is)
    (case c_f_Reader_must => k_is)
    (case k_f_Reader_must => k_is)
    (case i_f_Reader_must => k_is)
    (case a_f_Reader_figure => k_is)
    (case l_f_Reader_figure => k_is)
    (case c_f_Reader_figure => k_is)
    (case k_f_Reader_figure => k_is)
    (case i_f_Reader_figure => k_is)
    (case a_f_Reader_call => k_is)
    (case l_f_Reader_call => k_is)
    (case c_f_Reader_call => k_is)
    (case k_f_Reader_call => k_is)
    (case i_f_Reader_call => k_is)
    (case a_f_Reader_part => k_is)
    (case l_f_Reader_part => k_is)
    (case c_f_Reader_part => k_is)
    (case k_f_Reader_part => k_is)
    (case i_f_Reader_part => k_is)
    (case a_f_Reader_saying => k_is)
    (case l_f_Reader_saying => k_is)
    (case c_f_Reader_saying => k_is)
    (case k_f_Reader_saying => k_is)
    (case i_f_Reader_saying => k_is)
    (case a_f_read => k_is)
    (case l_f_read => k_is)
    (case c_f_read => k_is)
    (case k_f_read => k_is)
    (case a_f_f_law_cell => k_is)
    (case l_f_f_law_cell => k_is)
    (case c_f_f_law_cell => k_is)
    (case k_f_f_law_cell => k_is)
    (case a_f_f_law_mix => k_is)
    (case l_f_f_law_mix => k_is)
    (case c_f_f_law_mix => k_is)
    (case k_f_f_law_mix => k_is)
    (case a_f_f_law_dice => k_is)
    (case l_f_f_law_dice => k_is)
    (case c_f_f_law_dice => k_is)
    (case k_f_f_law_dice => k_is)
    (case a_f_f_law_many => k_is)
    (case l_f_f_law_many => k_is)
    (case c_f_f_law_many => k_is)
    (case k_f_f_law_many => k_is)
    (case a_f_f_law_saying => k_is)
    (case l_f_f_law_saying => k_is)
    (case c_f_f_law_saying => k_is)
    (case k_f_f_law_saying => k_is)
    (case a_f_f_law_written => k_is)
    (case l_f_f_law_written => k_is)
    (case c_f_f_law_written => k_is)
    (case k_f_f_law_written => k_is)
    (case a_f_f_law_word => k_is)
    (case l_f_f_law_word => k_is)
    (case c_f_f_law_word => k_is)
    (case k_f_f_law_word => k_is)
    (case a_f_f_law_told => k_is)
    (case l_f_f_law_told => k_is)
    (case c_f_f_law_told => k_is)
    (case k_f_f_law_told => k_is)
    (case a_f_f_law_is_right => k_is)
    (case l_f_f_law_is_right => k_is)
    (case c_f_f_law_is_right => k_is)
    (case k_f_f_law_is_right => k_is)
    (case a_f_f_law_bad => k_is)
    (case l_f_f_law_bad => k_is)
    (case c_f_f_law_bad => k_is)
    (case k_f_f_law_bad => k_is)
    (case a_f_f_law_changed => k_is)
    (case l_f_f_law_changed => k_is)
    (case c_f_f_law_changed => k_is)
    (case k_f_f_law_changed => k_is)
    (case a_f_law => k_is)
    (case l_f_law => k_is)
    (case c_f_law => k_is)
    (case k_f_law => k_is)
    (case z_ValueError => k_is)
    (case z_all => k_is)
    (case z_any => k_is)
    (case z_bool => k_is)
    (case z_int => k_is)
    (case z_isinstance => k_is)
    (case z_len => k_is)
    (case z_min => k_is)
    (case z_range => k_is)
    (case z_str => k_is)
    (case z_sum => k_is)
    (case z_tuple => k_is)
    (case g_TWO => k_is)
    (case l_TWO => k_is)
    (case g_DICE => k_is)
    (case l_DICE => k_is)
    (case g_DEEPEST => k_is)
    (case g_MOST_DICE => k_is)
    (case g_SIGNS => k_is)
    (case l_SIGNS => k_is)
    (case y_SIGNS => rfl)
    (case g_CALLS => k_is)
    (case l_CALLS => k_is)
    (case y_CALLS => rfl)
    (case g_SUMS => k_is)
    (case l_SUMS => k_is)
    (case y_SUMS => rfl)
    (case g_FIGURES => k_is)
    (case g_MOST_DEEP => k_is)
#print axioms PySem.Challenge.cw_diespeech_k13_whole_no_other_texts_holds
