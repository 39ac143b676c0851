import PyProof.Rows.All
import Wide.All
import OpenK.AllK
import Wide.FinOn
import HandS.ForMost
import HandS.SortInts
import HandS.TupAny
import HandS.IsInst
import HandS.Wide
import HandS.Flow
import HandS.More
import HandS.Zip
import HandS.ExcValue
import HandS.Style
import HandS.Conv
import KE.KTupSum
import KE.KDictDisplayH
import KE.KRevSl
import HandS.Deep
import KE.GoesMore
import HandS.Exc
import HandS.TryOnly
import HandS.ExcOwn
import HandS.WordsExc
import HandS.Text
import HandS.ExcIs
import HandS.SetFor
import HandS.Strs
import PyProof.SetRoads
import HandS.NamedTupSort
import HandS.SortKw
import KE.DatumOrd
import PySem.Challenge.RW_diespeech_k17_whole_tallies
set_option Elab.async false
set_option linter.all false
set_option autoImplicit false
set_option maxRecDepth 100000
set_option maxHeartbeats 8000000
/-! Ml: a small functional reading of the program's Python over data without addresses (D), a store of mutable things (Sto);
    tE, tT, tA, tS turn a reading into one of the hand layer's. -/
namespace Ml
open PySem L2

inductive D where
  | non | bl (b : Bool) | int (i : Int) | str (x : Str) | tup (ds : List D) | ref (i : Nat) | ro (ds : List D)
inductive Ob where
  | ro (ds : List D) | lst (ds : List D) | dK (lk : Bool) (kvs : List (Key × D)) | dT (lk : Bool) (kvs : List (List Key × D)) | ins (c : Str) (fs : List (Str × D)) | exc (c : Str)
abbrev Ev := List (Option D)
abbrev Sto := List Ob
inductive Rs (α : Type) where
  | bad | ok (a : α) (st : Sto) | exc (c : Str) (ev : Ev) (st : Sto)
abbrev Mo (α : Type) := Ev → Sto → Rs α
def Rs.bind {α β : Type} (r : Rs α) (f : α → Sto → Rs β) : Rs β := match r with
  | .bad => .bad
  | .ok a st => f a st
  | .exc c e s => .exc c e s
@[simp] theorem Rs.bind_ok {α β : Type} (a : α) (st : Sto) (f : α → Sto → Rs β) : (Rs.ok a st).bind f = f a st := rfl
@[simp] theorem Rs.bind_bad {α β : Type} (f : α → Sto → Rs β) : (Rs.bad : Rs α).bind f = .bad := rfl
@[simp] theorem Rs.bind_exc {α β : Type} (c : Str) (e : Ev) (s : Sto) (f : α → Sto → Rs β) : (Rs.exc c e s : Rs α).bind f = .exc c e s := rfl

/-! ### what stands for what -/
def TupAt (K : PySem.W.Frag) (H : Hp) (a : Addr) (vs : List V) : Prop :=
  H a = some (.tup vs) ∨ ((∃ x, V.str x ∈ vs) ∧ ∃ (o : Obj) (its : Array Value) (n : Nat), K.lookup a = some o ∧ o.cls = .type "tuple" ∧ o.data = .seq its n ∧ its.size ≤ sizeLine ∧ Vals vs its.toList)
theorem TupAt.sq {K : PySem.W.Frag} {H : Hp} {a : Addr} {vs : List V} (h : TupAt K H a vs) : SqT K H a vs := h.imp (fun q => .inl q) (·.2)
/-- a list that nobody changes (the script) -/
def RoAt (K : PySem.W.Frag) (H : Hp) (mu : List Addr) (a : Addr) (vs : List V) : Prop :=
  (∃ o, H a = some (.frz o (.lst vs)) ∧ a ∉ mu) ∨ ∃ (o : Obj) (its : Array Value) (n : Nat), K.lookup a = some o ∧ o.cls = .type "list" ∧ o.dict = none ∧ o.data = .seq its n ∧ its.size ≤ sizeLine ∧ Vals vs its.toList
theorem RoAt.sq {K : PySem.W.Frag} {H : Hp} {mu : List Addr} {a : Addr} {vs : List V} (h : RoAt K H mu a vs) : SqL K H a vs := h.imp (fun ⟨o, q, _⟩ => .inr ⟨o, q⟩) id
mutual
inductive Rp (K : PySem.W.Frag) (H : Hp) (mu : List Addr) : V → D → Prop
  | non : Rp K H mu .non .non
  | bl (b : Bool) : Rp K H mu (.bl b) (.bl b)
  | int (i : Int) : Rp K H mu (.int i) (.int i)
  | str (x : Str) : Rp K H mu (.str x) (.str x)
  | tup {a : Addr} {vs : List V} {ds : List D} (h : TupAt K H a vs) (hs : Rps K H mu vs ds) : Rp K H mu (.ref a) (.tup ds)
  | ref {i : Nat} {a : Addr} (h : mu[i]? = some a) : Rp K H mu (.ref a) (.ref i)
  | ro {a : Addr} {vs : List V} {ds : List D} (h : RoAt K H mu a vs) (hs : Rps K H mu vs ds) : Rp K H mu (.ref a) (.ro ds)
inductive Rps (K : PySem.W.Frag) (H : Hp) (mu : List Addr) : List V → List D → Prop
  | nil : Rps K H mu [] []
  | cons {v : V} {d : D} {vs : List V} {ds : List D} (h : Rp K H mu v d) (hs : Rps K H mu vs ds) : Rps K H mu (v :: vs) (d :: ds)
end
/-- from (mu, H) on: new things may have come, the store's own things may have changed, all else stands -/
structure Ext (mu : List Addr) (H : Hp) (mu' : List Addr) (H' : Hp) : Prop where
  pre : ∃ r, mu' = mu ++ r
  tup : ∀ a vs, H a = some (.tup vs) → H' a = some (.tup vs)
  keep : ∀ a o, H a = some o → a ∉ mu → H' a = some o ∧ a ∉ mu'
  dom : ∀ a, H' a = none → H a = none
  frz : ∀ a o u, H a = some (.frz o u) → H' a = some (.frz o u)
theorem Ext.refl {mu : List Addr} {H : Hp} : Ext mu H mu H := ⟨⟨[], by simp⟩, fun _ _ h => h, fun _ _ h n => ⟨h, n⟩, fun _ h => h, fun _ _ _ h => h⟩
theorem upd_dom {H : Hp} {p : Addr} {o : HO} (a : Addr) (h : upd H p o a = none) : H a = none := by
  unfold upd at h
  split at h
  · cases h
  · exact h
theorem Ext.trans {mu mu1 mu2 : List Addr} {H H1 H2 : Hp} (a : Ext mu H mu1 H1) (b : Ext mu1 H1 mu2 H2) : Ext mu H mu2 H2 := by
  obtain ⟨r, e⟩ := a.pre
  obtain ⟨r', e'⟩ := b.pre
  refine ⟨⟨r ++ r', by rw [e', e, List.append_assoc]⟩, fun c vs h => b.tup c vs (a.tup c vs h), fun c o h n => ?_, fun c h => a.dom c (b.dom c h), fun c o u h => b.frz c o u (a.frz c o u h)⟩
  obtain ⟨h1, n1⟩ := a.keep c o h n
  exact b.keep c o h1 n1
structure Ext0 (mu : List Addr) (H : Hp) (mu' : List Addr) (H' : Hp) : Prop where
  pre : ∃ r, mu' = mu ++ r
  tup : ∀ a vs, H a = some (.tup vs) → H' a = some (.tup vs)
  ro : ∀ a o vs, H a = some (.frz o (.lst vs)) → a ∉ mu → H' a = some (.frz o (.lst vs)) ∧ a ∉ mu'
theorem Ext.e0 {mu mu' : List Addr} {H H' : Hp} (e : Ext mu H mu' H') : Ext0 mu H mu' H' := ⟨e.pre, e.tup, fun a o vs h n => e.keep a _ h n⟩
theorem Ext0.roAt {K : PySem.W.Frag} {mu mu' : List Addr} {H H' : Hp} (e : Ext0 mu H mu' H') {a : Addr} {vs : List V} (h : RoAt K H mu a vs) : RoAt K H' mu' a vs := h.imp (fun ⟨o, h, n⟩ => ⟨o, e.ro a o vs h n⟩) id
theorem Ext0.at {mu mu' : List Addr} {H H' : Hp} (e : Ext0 mu H mu' H') {i : Nat} {a : Addr} (h : mu[i]? = some a) : mu'[i]? = some a := by
  obtain ⟨r, q⟩ := e.pre
  rw [q, List.getElem?_append_left (List.getElem?_eq_some_iff.mp h).1]
  exact h
theorem Ext.at {mu mu' : List Addr} {H H' : Hp} (e : Ext mu H mu' H') {i : Nat} {a : Addr} (h : mu[i]? = some a) : mu'[i]? = some a := e.e0.at h
theorem Ext0.tupAt {K : PySem.W.Frag} {mu mu' : List Addr} {H H' : Hp} (e : Ext0 mu H mu' H') {a : Addr} {vs : List V} (h : TupAt K H a vs) : TupAt K H' a vs := h.imp (e.tup a vs) id
theorem Ext.tupAt {K : PySem.W.Frag} {mu mu' : List Addr} {H H' : Hp} (e : Ext mu H mu' H') {a : Addr} {vs : List V} (h : TupAt K H a vs) : TupAt K H' a vs := e.e0.tupAt h
mutual
theorem Rp.mono0 {K : PySem.W.Frag} {mu mu' : List Addr} {H H' : Hp} (e : Ext0 mu H mu' H') : ∀ {v : V} {d : D}, Rp K H mu v d → Rp K H' mu' v d
  | _, _, .non => .non
  | _, _, .bl b => .bl b
  | _, _, .int i => .int i
  | _, _, .str x => .str x
  | _, _, .tup h hs => .tup (e.tupAt h) (Rps.mono0 e hs)
  | _, _, .ref h => .ref (e.at h)
  | _, _, .ro h hs => .ro (e.roAt h) (Rps.mono0 e hs)
theorem Rps.mono0 {K : PySem.W.Frag} {mu mu' : List Addr} {H H' : Hp} (e : Ext0 mu H mu' H') : ∀ {vs : List V} {ds : List D}, Rps K H mu vs ds → Rps K H' mu' vs ds
  | _, _, .nil => .nil
  | _, _, .cons h hs => .cons (Rp.mono0 e h) (Rps.mono0 e hs)
end
theorem Rp.mono {K : PySem.W.Frag} {mu mu' : List Addr} {H H' : Hp} (e : Ext mu H mu' H') {v : V} {d : D} (h : Rp K H mu v d) : Rp K H' mu' v d := h.mono0 e.e0
theorem Rps.mono {K : PySem.W.Frag} {mu mu' : List Addr} {H H' : Hp} (e : Ext mu H mu' H') {vs : List V} {ds : List D} (h : Rps K H mu vs ds) : Rps K H' mu' vs ds := h.mono0 e.e0
theorem Rps.length {K : PySem.W.Frag} {H : Hp} {mu : List Addr} : ∀ {vs : List V} {ds : List D}, Rps K H mu vs ds → vs.length = ds.length
  | _, _, .nil => rfl
  | _, _, .cons _ hs => by simp [Rps.length hs]
theorem Rps.get {K : PySem.W.Frag} {H : Hp} {mu : List Addr} : ∀ {vs : List V} {ds : List D} {i : Nat} {d : D}, Rps K H mu vs ds → ds[i]? = some d → ∃ v, vs[i]? = some v ∧ Rp K H mu v d
  | _, _, i, _, .nil, e => by simp at e
  | _, _, 0, _, .cons h _, e => by simp at e; subst e; exact ⟨_, by simp, h⟩
  | _, _, i + 1, _, .cons _ hs, e => by
    obtain ⟨v, h1, h2⟩ := Rps.get (i := i) hs (by simpa using e)
    exact ⟨v, by simpa using h1, h2⟩
theorem Rps.getV {K : PySem.W.Frag} {H : Hp} {mu : List Addr} : ∀ {vs : List V} {ds : List D} {i : Nat} {v : V}, Rps K H mu vs ds → vs[i]? = some v → ∃ d, ds[i]? = some d ∧ Rp K H mu v d
  | _, _, i, _, .nil, e => by simp at e
  | _, _, 0, _, .cons h _, e => by simp at e; subst e; exact ⟨_, by simp, h⟩
  | _, _, i + 1, _, .cons _ hs, e => by
    obtain ⟨v, h1, h2⟩ := Rps.getV (i := i) hs (by simpa using e)
    exact ⟨v, by simpa using h1, h2⟩
theorem Rps.append {K : PySem.W.Frag} {H : Hp} {mu : List Addr} : ∀ {vs ws : List V} {ds es : List D}, Rps K H mu vs ds → Rps K H mu ws es → Rps K H mu (vs ++ ws) (ds ++ es)
  | _, _, _, _, .nil, h => h
  | _, _, _, _, .cons h hs, q => .cons h (Rps.append hs q)
theorem Rps.take {K : PySem.W.Frag} {H : Hp} {mu : List Addr} : ∀ {vs : List V} {ds : List D} (n : Nat), Rps K H mu vs ds → Rps K H mu (vs.take n) (ds.take n)
  | _, _, 0, _ => .nil
  | _, _, _ + 1, .nil => .nil
  | _, _, n + 1, .cons h hs => .cons h (Rps.take n hs)
theorem Rps.drop {K : PySem.W.Frag} {H : Hp} {mu : List Addr} : ∀ {vs : List V} {ds : List D} (n : Nat), Rps K H mu vs ds → Rps K H mu (vs.drop n) (ds.drop n)
  | _, _, 0, h => h
  | _, _, _ + 1, .nil => .nil
  | _, _, n + 1, .cons _ hs => Rps.drop n hs
theorem Rps.set {K : PySem.W.Frag} {H : Hp} {mu : List Addr} {v : V} {d : D} (q : Rp K H mu v d) : ∀ {vs : List V} {ds : List D} (n : Nat), Rps K H mu vs ds → Rps K H mu (vs.set n v) (ds.set n d)
  | _, _, _, .nil => .nil
  | _, _, 0, .cons _ hs => .cons q hs
  | _, _, n + 1, .cons h hs => .cons h (Rps.set q n hs)
theorem Rps.reverse {K : PySem.W.Frag} {H : Hp} {mu : List Addr} : ∀ {vs : List V} {ds : List D}, Rps K H mu vs ds → Rps K H mu vs.reverse ds.reverse
  | _, _, .nil => .nil
  | _, _, .cons h hs => by
    rw [List.reverse_cons, List.reverse_cons]
    exact (Rps.reverse hs).append (.cons h .nil)
/-- pairs of a dict -/
def KD {κ : Type} (K : PySem.W.Frag) (H : Hp) (mu : List Addr) : List (κ × V) → List (κ × D) → Prop := Paired fun p q => p.1 = q.1 ∧ Rp K H mu p.2 q.2
theorem KD.mono0 {κ : Type} {K : PySem.W.Frag} {mu mu' : List Addr} {H H' : Hp} (e : Ext0 mu H mu' H') {ps : List (κ × V)} {qs : List (κ × D)} (h : KD K H mu ps qs) : KD K H' mu' ps qs :=
  Paired.mapP h fun _ _ ⟨a, b⟩ => ⟨a, b.mono0 e⟩
theorem KD.mono {κ : Type} {K : PySem.W.Frag} {mu mu' : List Addr} {H H' : Hp} (e : Ext mu H mu' H') {ps : List (κ × V)} {qs : List (κ × D)} (h : KD K H mu ps qs) : KD K H' mu' ps qs := h.mono0 e.e0
/-- the module's class of that name -/
def clsIn (K : PySem.W.Frag) (c : Str) (C : Addr) : Prop := PySem.W.nsIn K mainGlobals c = some (some (.ref C))
/-- an exception object of the class cls at a, held as a value -/
def ExK (cls : Value) (a : Addr) : HO := .ext fun h => ∃ (oe : Obj) (vs : Array Value), h.get? a = some oe ∧ Zc cls none oe ∧ oe.data = .fields vs
/-- one thing of the store -/
def ObOk (K : PySem.W.Frag) (H : Hp) (mu : List Addr) (a : Addr) : Ob → Prop
  | .ro ds => ∃ o vs, H a = some (.frz o (.lst vs)) ∧ Rps K H mu vs ds
  | .lst ds => ∃ vs, H a = some (.lst vs) ∧ Rps K H mu vs ds
  | .dK true kvs => ∃ o ws, H a = some (.frz o (.dK ws)) ∧ KD K H mu ws kvs
  | .dK false kvs => ∃ ws, H a = some (.dK ws) ∧ KD K H mu ws kvs
  | .dT true kvs => ∃ o ws, H a = some (.frz o (.dT ws)) ∧ KD K H mu ws kvs
  | .dT false kvs => ∃ ws, H a = some (.dT ws) ∧ KD K H mu ws kvs
  | .ins c fs => ∃ C dx vs, clsIn K c C ∧ H a = some (.ins C dx vs) ∧ KD K H mu vs fs
  | .exc c => ∃ C, clsIn K c C ∧ H a = some (ExK (.ref C) a)
theorem ObOk.some {K : PySem.W.Frag} {H : Hp} {mu : List Addr} {a : Addr} {o : Ob} (h : ObOk K H mu a o) : ∃ u, H a = some u ∧ ∀ vs, u ≠ .tup vs := by
  cases o with
  | ro ds =>
    obtain ⟨o, vs, h, _⟩ := h
    exact ⟨_, h, fun _ z => by cases z⟩
  | lst ds => obtain ⟨vs, h, _⟩ := h; exact ⟨_, h, fun _ z => by cases z⟩
  | dK lk kvs => cases lk with
    | true => obtain ⟨o, ws, h, _⟩ := h; exact ⟨_, h, fun _ z => by cases z⟩
    | false => obtain ⟨ws, h, _⟩ := h; exact ⟨_, h, fun _ z => by cases z⟩
  | dT lk kvs => cases lk with
    | true => obtain ⟨o, ws, h, _⟩ := h; exact ⟨_, h, fun _ z => by cases z⟩
    | false => obtain ⟨ws, h, _⟩ := h; exact ⟨_, h, fun _ z => by cases z⟩
  | ins c fs => obtain ⟨C, dx, vs, _, h, _⟩ := h; exact ⟨_, h, fun _ z => by cases z⟩
  | exc c => obtain ⟨C, _, h⟩ := h; exact ⟨_, h, fun _ z => by cases z⟩
/-- its own object stands, the rest by Ext -/
theorem ObOk.mono0 {K : PySem.W.Frag} {mu mu' : List Addr} {H H' : Hp} (e : Ext0 mu H mu' H') {a : Addr} (ha : H' a = H a) {o : Ob} (h : ObOk K H mu a o) : ObOk K H' mu' a o := by
  cases o with
  | ro ds =>
    obtain ⟨o, vs, h, r⟩ := h
    exact ⟨o, vs, ha.trans h, r.mono0 e⟩
  | lst ds => obtain ⟨vs, h, r⟩ := h; exact ⟨vs, ha.trans h, r.mono0 e⟩
  | dK lk kvs => cases lk with
    | true => obtain ⟨o, ws, h, r⟩ := h; exact ⟨o, ws, ha.trans h, r.mono0 e⟩
    | false => obtain ⟨ws, h, r⟩ := h; exact ⟨ws, ha.trans h, r.mono0 e⟩
  | dT lk kvs => cases lk with
    | true => obtain ⟨o, ws, h, r⟩ := h; exact ⟨o, ws, ha.trans h, r.mono0 e⟩
    | false => obtain ⟨ws, h, r⟩ := h; exact ⟨ws, ha.trans h, r.mono0 e⟩
  | ins c fs => obtain ⟨C, dx, vs, k, h, r⟩ := h; exact ⟨C, dx, vs, k, ha.trans h, r.mono0 e⟩
  | exc c => obtain ⟨C, k, h⟩ := h; exact ⟨C, k, ha.trans h⟩
theorem ObOk.mono {K : PySem.W.Frag} {mu mu' : List Addr} {H H' : Hp} (e : Ext mu H mu' H') {a : Addr} (ha : H' a = H a) {o : Ob} (h : ObOk K H mu a o) : ObOk K H' mu' a o := h.mono0 e.e0 ha
structure RelSt (K : PySem.W.Frag) (H : Hp) (mu : List Addr) (st : Sto) : Prop where
  len : mu.length = st.length
  nd : mu.Nodup
  ob : ∀ (i : Nat) (a : Addr) (o : Ob), mu[i]? = some a → st[i]? = some o → ObOk K H mu a o
theorem RelSt.at {K : PySem.W.Frag} {H : Hp} {mu : List Addr} {st : Sto} (r : RelSt K H mu st) {i : Nat} {a : Addr} (h : mu[i]? = some a) : ∃ o, st[i]? = some o ∧ ObOk K H mu a o := by
  have hi : i < st.length := by rw [← r.len]; exact (List.getElem?_eq_some_iff.mp h).1
  exact ⟨st[i], List.getElem?_eq_getElem hi, r.ob i a _ h (List.getElem?_eq_getElem hi)⟩
theorem RelSt.notup {K : PySem.W.Frag} {H : Hp} {mu : List Addr} {st : Sto} (r : RelSt K H mu st) {a : Addr} (h : a ∈ mu) : ∃ u, H a = some u ∧ ∀ vs, u ≠ .tup vs := by
  obtain ⟨i, hi⟩ := List.getElem?_of_mem h
  obtain ⟨o, _, ok⟩ := r.at hi
  exact ok.some
theorem nodup_at {mu : List Addr} (hN : mu.Nodup) {i j : Nat} {x : Addr} (a : mu[i]? = some x) (b : mu[j]? = some x) : i = j := by
  obtain ⟨h1, e1⟩ := List.getElem?_eq_some_iff.mp a
  obtain ⟨h2, e2⟩ := List.getElem?_eq_some_iff.mp b
  exact (List.getElem_inj hN).mp (e1.trans e2.symm)
/-- a new thing that is not the store's -/
theorem ext_new {mu : List Addr} {H : Hp} {p : Addr} (hp : H p = none) (o : HO) : Ext mu H mu (upd H p o) :=
  ⟨⟨[], by simp⟩, fun a vs h => by rw [upd_ne (ne_of_none h hp)]; exact h, fun a u h n => ⟨by rw [upd_ne (ne_of_none h hp)]; exact h, n⟩, upd_dom, fun a o u h => by rw [upd_ne (ne_of_none h hp)]; exact h⟩
theorem RelSt.new {K : PySem.W.Frag} {H : Hp} {mu : List Addr} {st : Sto} (r : RelSt K H mu st) {p : Addr} (hp : H p = none) (o : HO) : RelSt K (upd H p o) mu st :=
  ⟨r.len, r.nd, fun i a ob h1 h2 => by
    have k := r.ob i a ob h1 h2
    obtain ⟨u, hu, _⟩ := k.some
    exact k.mono (ext_new hp o) (upd_ne (ne_of_none hu hp))⟩
/-- a thing that stands becomes the store's -/
theorem ext_push {mu : List Addr} {H : Hp} {p : Addr} (hp : H p = none) (o : HO) : Ext mu H (mu ++ [p]) (upd H p o) :=
  ⟨⟨[p], rfl⟩, fun a vs h => by rw [upd_ne (ne_of_none h hp)]; exact h, fun a u h n => ⟨by rw [upd_ne (ne_of_none h hp)]; exact h, by simp only [List.mem_append, List.mem_singleton, not_or]; exact ⟨n, ne_of_none h hp⟩⟩, upd_dom, fun a o u h => by rw [upd_ne (ne_of_none h hp)]; exact h⟩
theorem RelSt.fresh {K : PySem.W.Frag} {H : Hp} {mu : List Addr} {st : Sto} (r : RelSt K H mu st) {p : Addr} (hp : H p = none) : p ∉ mu := fun h => by
  obtain ⟨u, hu, _⟩ := r.notup h
  rw [hp] at hu; cases hu
theorem RelSt.push {K : PySem.W.Frag} {H : Hp} {mu : List Addr} {st : Sto} (r : RelSt K H mu st) {p : Addr} (hp : H p = none) {o : HO} {ob : Ob} (h : ObOk K (upd H p o) (mu ++ [p]) p ob) : RelSt K (upd H p o) (mu ++ [p]) (st ++ [ob]) := by
  refine ⟨by simp [r.len], ?_, fun i a u h1 h2 => ?_⟩
  · rw [List.nodup_append]
    refine ⟨r.nd, by simp, fun a ha b hb => ?_⟩
    simp only [List.mem_singleton] at hb
    subst hb
    intro e; subst e
    exact r.fresh hp ha
  · by_cases hi : i < mu.length
    · rw [List.getElem?_append_left hi] at h1
      rw [List.getElem?_append_left (by rw [← r.len]; exact hi)] at h2
      have k := r.ob i a u h1 h2
      obtain ⟨w, hw, _⟩ := k.some
      exact k.mono (ext_push hp o) (upd_ne (ne_of_none hw hp))
    · have hl := (List.getElem?_eq_some_iff.mp h1).1
      simp at hl
      have e : i = mu.length := by omega
      subst e
      rw [List.getElem?_append_right (Nat.le_refl _)] at h1
      rw [r.len, List.getElem?_append_right (Nat.le_refl _)] at h2
      simp at h1 h2
      subst h1; subst h2
      exact h
/-- an untracked (temporary) thing that stands becomes the store's -/
theorem ext_adopt {mu mu1 : List Addr} {H H' : Hp} {p : Addr} (e : Ext mu H mu1 H') (hp : H p = none) : Ext mu H (mu1 ++ [p]) H' := by
  obtain ⟨r, er⟩ := e.pre
  exact ⟨⟨r ++ [p], by rw [er, List.append_assoc]⟩, e.tup, fun a u h n => ⟨(e.keep a u h n).1, by simp only [List.mem_append, List.mem_singleton, not_or]; exact ⟨(e.keep a u h n).2, ne_of_none h hp⟩⟩, e.dom, e.frz⟩
/-- a thing of the store changes -/
theorem ext_write {K : PySem.W.Frag} {H : Hp} {mu : List Addr} {st : Sto} (r : RelSt K H mu st) {p : Addr} (hp : p ∈ mu) (hf : ∀ ob w, H p ≠ some (.frz ob w)) (o : HO) : Ext mu H mu (upd H p o) := by
  obtain ⟨u, hu, nt⟩ := r.notup hp
  exact ⟨⟨[], by simp⟩, fun a vs h => by
      rw [upd_ne]; exact h
      intro e; subst e; rw [h] at hu; cases hu; exact nt _ rfl,
    fun a w h n => ⟨by rw [upd_ne]; exact h; intro e; subst e; exact n hp, n⟩, upd_dom, fun a ob w h => by rw [upd_ne]; exact h; intro e; subst e; exact hf _ _ h⟩
theorem RelSt.write {K : PySem.W.Frag} {H : Hp} {mu : List Addr} {st : Sto} (r : RelSt K H mu st) {i : Nat} {p : Addr} (hi : mu[i]? = some p) {o : HO} {ob : Ob} (h : ObOk K (upd H p o) mu p ob) : RelSt K (upd H p o) mu (st.set i ob) := by
  have e0 : Ext0 mu H mu (upd H p o) := by
    obtain ⟨u, hu, nt⟩ := r.notup (List.mem_of_getElem? hi)
    exact ⟨⟨[], by simp⟩, fun a vs h' => by
      rw [upd_ne]; exact h'
      intro e; subst e; rw [h'] at hu; cases hu; exact nt _ rfl,
      fun a ob vs h' n => ⟨by rw [upd_ne]; exact h'; intro e; subst e; exact n (List.mem_of_getElem? hi), n⟩⟩
  refine ⟨by simp [r.len], r.nd, fun j a u h1 h2 => ?_⟩
  by_cases hj : j = i
  · subst hj
    rw [hi] at h1; cases h1
    rw [List.getElem?_set_self (by rw [← r.len]; exact (List.getElem?_eq_some_iff.mp hi).1)] at h2
    cases h2
    exact h
  · rw [List.getElem?_set_ne (Ne.symm hj)] at h2
    refine (r.ob j a u h1 h2).mono0 e0 (upd_ne ?_)
    intro e; subst e
    exact hj (nodup_at r.nd h1 hi)
/-- the frame's slots -/
def RelEv (K : PySem.W.Frag) (H : Hp) (mu : List Addr) (σ : L2.St) (ev : Ev) : Prop := σ.length = ev.length ∧ ∀ (i : Nat) (d : D), ev[i]? = some (some d) → ∃ v, σ[i]? = some (some v) ∧ Rp K H mu v d
theorem RelEv.mono {K : PySem.W.Frag} {mu mu' : List Addr} {H H' : Hp} {σ : L2.St} {ev : Ev} (r : RelEv K H mu σ ev) (e : Ext mu H mu' H') : RelEv K H' mu' σ ev :=
  ⟨r.1, fun i d h => let ⟨v, a, b⟩ := r.2 i d h; ⟨v, a, b.mono e⟩⟩
theorem RelEv.set {K : PySem.W.Frag} {mu : List Addr} {H : Hp} {σ : L2.St} {ev : Ev} (r : RelEv K H mu σ ev) {v : V} {d : D} (h : Rp K H mu v d) (i : Nat) : RelEv K H mu (σ.set i (some v)) (ev.set i (some d)) := by
  refine ⟨by simp [r.1], fun j e q => ?_⟩
  by_cases hj : i = j
  · subst hj
    have hl : i < ev.length := by
      have := (List.getElem?_eq_some_iff.mp q).1
      simpa using this
    rw [List.getElem?_set_self hl] at q
    cases q
    exact ⟨v, List.getElem?_set_self (by rw [r.1]; exact hl), h⟩
  · rw [List.getElem?_set_ne hj] at q ⊢
    exact r.2 j e q

/-! ### readings -/
abbrev Wx := Str → L2.St → Hp → Prop
/-- how what an expression gives stands for what its reading gives; H: where it began -/
structure RR (ξ α : Type) where
  r : Hp → Hp → List Addr → Sto → ξ → α → Prop
  anti : ∀ {mu mu1 mu2 : List Addr} {H H1 H2 : Hp} {st : Sto} {x : ξ} {a : α}, Ext mu H mu1 H1 → r H1 H2 mu2 st x a → r H H2 mu2 st x a
def Post {ξ α : Type} (K : PySem.W.Frag) (W : Wx) (R : RR ξ α) (mu : List Addr) (H : Hp) (r : Rs α) (Q : ξ → Hp → Prop) : Prop := match r with
  | .bad => False
  | .ok a st' => ∀ mu' x H', Ext mu H mu' H' → R.r H H' mu' st' x a → RelSt K H' mu' st' → Q x H'
  | .exc c ev' st' => ∀ mu' σ' H', Ext mu H mu' H' → RelEv K H' mu' σ' ev' → RelSt K H' mu' st' → W c σ' H'
theorem Post.from {ξ α : Type} {K : PySem.W.Frag} {W : Wx} {R : RR ξ α} {mu mu1 : List Addr} {H H1 : Hp} {r : Rs α} {Q : ξ → Hp → Prop} (h : Post K W R mu H r Q) (e : Ext mu H mu1 H1) : Post K W R mu1 H1 r Q := by
  cases r with
  | bad => exact h
  | ok a st => exact fun mu' x H' e' q => h mu' x H' (e.trans e') (R.anti e q)
  | exc c ev st => exact fun mu' σ' H' e' => h mu' σ' H' (e.trans e')
theorem Post.bind {ξ ζ α β : Type} {K : PySem.W.Frag} {W : Wx} {R : RR ξ α} {S : RR ζ β} {mu : List Addr} {H : Hp} {r : Rs α} {f : α → Sto → Rs β} {Q : ζ → Hp → Prop} {Q1 : ξ → Hp → Prop}
    (h : Post K W S mu H (r.bind f) Q)
    (k : ∀ a st1 mu1 x H1, r = .ok a st1 → Ext mu H mu1 H1 → R.r H H1 mu1 st1 x a → RelSt K H1 mu1 st1 → Post K W S mu1 H1 (f a st1) Q → Q1 x H1) : Post K W R mu H r Q1 := by
  cases r with
  | bad => exact h
  | ok a st => exact fun mu1 x H1 e r1 s1 => k a st mu1 x H1 rfl e r1 s1 (Post.from h e)
  | exc c ev st => exact h
def tG {ξ α : Type} (K : PySem.W.Frag) (W : Wx) (R : RR ξ α) (m : Mo α) : L2.St → Hp → (ξ → Hp → Prop) → Prop := fun σ H Q =>
  ∃ mu ev st, RelEv K H mu σ ev ∧ RelSt K H mu st ∧ Post K W R mu H (m ev st) Q
def RE (K : PySem.W.Frag) : RR V D := ⟨fun _ H mu _ v d => Rp K H mu v d, fun _ h => h⟩
def RB : RR Bool Bool := ⟨fun _ _ _ _ v d => v = d, fun _ h => h⟩
def RA (K : PySem.W.Frag) : RR (List V) (List D) := ⟨fun _ H mu _ v d => Rps K H mu v d, fun _ h => h⟩
/-- a new list that nobody holds yet -/
def RL (K : PySem.W.Frag) : RR V (List D) := ⟨fun H0 H mu _ v ds => ∃ p vs, v = .ref p ∧ H0 p = none ∧ H p = some (.lst vs) ∧ p ∉ mu ∧ Rps K H mu vs ds, fun e ⟨p, vs, a, b, c⟩ => ⟨p, vs, a, e.dom p b, c⟩⟩
abbrev tE (K : PySem.W.Frag) (W : Wx) (m : Mo D) : TE := tG K W (RE K) m
abbrev tT (K : PySem.W.Frag) (W : Wx) (m : Mo Bool) : TT := tG K W RB m
abbrev tA (K : PySem.W.Frag) (W : Wx) (m : Mo (List D)) : TA := tG K W (RA K) m
abbrev tL (K : PySem.W.Frag) (W : Wx) (m : Mo (List D)) : TE := tG K W (RL K) m
inductive Fl where
  | nx | rt (d : D) | bk | ct
abbrev Ms := Ev → Sto → Rs (Fl × Ev)
def PostS (K : PySem.W.Frag) (W : Wx) (mu : List Addr) (H : Hp) (r : Rs (Fl × Ev)) (D : Ends) : Prop := match r with
  | .bad => False
  | .ok (fl, ev') st' => ∀ mu' σ' H', Ext mu H mu' H' → RelEv K H' mu' σ' ev' → RelSt K H' mu' st' → (match fl with
    | .nx => D.nx σ' H'
    | .bk => D.bk σ' H'
    | .ct => D.ct σ' H'
    | .rt d => ∀ v, Rp K H' mu' v d → D.rt v H')
  | .exc c ev' st' => ∀ mu' σ' H', Ext mu H mu' H' → RelEv K H' mu' σ' ev' → RelSt K H' mu' st' → W c σ' H'
theorem PostS.from {K : PySem.W.Frag} {W : Wx} {mu mu1 : List Addr} {H H1 : Hp} {r : Rs (Fl × Ev)} {D : Ends} (h : PostS K W mu H r D) (e : Ext mu H mu1 H1) : PostS K W mu1 H1 r D := by
  cases r with
  | bad => exact h
  | ok a st => exact fun mu' x H' e' => h mu' x H' (e.trans e')
  | exc c ev st => exact fun mu' σ' H' e' => h mu' σ' H' (e.trans e')
def tS (K : PySem.W.Frag) (W : Wx) (m : Ms) : TS := fun D σ H => ∃ mu ev st, RelEv K H mu σ ev ∧ RelSt K H mu st ∧ PostS K W mu H (m ev st) D
/-- an expression first, then the rest of a statement -/
theorem PostS.bind {ξ α : Type} {K : PySem.W.Frag} {W : Wx} {R : RR ξ α} {mu : List Addr} {H : Hp} {r : Rs α} {f : α → Sto → Rs (Fl × Ev)} {D : Ends} {Q1 : ξ → Hp → Prop}
    (h : PostS K W mu H (r.bind f) D)
    (k : ∀ a st1 mu1 x H1, r = .ok a st1 → Ext mu H mu1 H1 → R.r H H1 mu1 st1 x a → RelSt K H1 mu1 st1 → PostS K W mu1 H1 (f a st1) D → Q1 x H1) : Post K W R mu H r Q1 := by
  cases r with
  | bad => exact h
  | ok a st => exact fun mu1 x H1 e r1 s1 => k a st mu1 x H1 rfl e r1 s1 (PostS.from h e)
  | exc c ev st => exact h
theorem PE.imp {X : Cx} {e : Expr} {t t' : TE} (h : PE X e t) (k : ∀ σ H Q, t' σ H Q → t σ H Q) : PE X e t' := ⟨fun pins s σ H Q I hw => h.run pins s σ H Q I (k σ H Q hw)⟩
theorem PT.imp {X : Cx} {e : Expr} {t t' : TT} (h : PT X e t) (k : ∀ σ H Q, t' σ H Q → t σ H Q) : PT X e t' := ⟨fun pins s σ H Q I hw => h.run pins s σ H Q I (k σ H Q hw)⟩
theorem PW.imp {X : Cx} {e : Expr} {t t' : TT} (h : PW X e t) (k : ∀ σ H Q, t' σ H Q → t σ H Q) : PW X e t' := ⟨fun wh pins s σ H Q I hw => h.run wh pins s σ H Q I (k σ H Q hw)⟩
theorem PA.imp {X : Cx} {e : List Expr} {t t' : TA} (h : PA X e t) (k : ∀ σ H Q, t' σ H Q → t σ H Q) : PA X e t' := ⟨fun pos pins s σ H Q I hw => h.run pos pins s σ H Q I (k σ H Q hw)⟩
theorem PS.imp {X : Cx} {e : Stmt} {t t' : TS} (h : PS X e t) (k : ∀ D σ H, t' D σ H → t D σ H) : PS X e t' := ⟨fun pins s σ H D I hw => h.run pins s σ H D I (k D σ H hw)⟩
theorem PSs.imp {X : Cx} {e : List Stmt} {t t' : TS} (h : PSs X e t) (k : ∀ D σ H, t' D σ H → t D σ H) : PSs X e t' := ⟨fun pins s σ H D I hw => h.run pins s σ H D I (k D σ H hw)⟩
end Ml

namespace Ml
open PySem L2
/-- the most items of a row, signs of a text -/
def lim : Nat := 1000000
theorem lim_le {n : Nat} (h : n ≤ lim) : n ≤ sizeLine := Nat.le_trans h (by rw [sizeLine_eq]; decide)
theorem lim_lt {n : Nat} (h : n ≤ lim) : n < sizeLine := Nat.lt_of_le_of_lt h (by rw [sizeLine_eq]; decide)

/-! ### names, constants, rows of expressions -/
def mC (d : D) : Mo D := fun _ st => .ok d st
def mVar (i : Nat) : Mo D := fun ev st => match ev[i]? with
  | some (some d) => .ok d st
  | _ => .bad
def mNil : Mo (List D) := fun _ st => .ok [] st
def mCons (m : Mo D) (r : Mo (List D)) : Mo (List D) := fun ev st => (m ev st).bind fun d st1 => (r ev st1).bind fun ds st2 => .ok (d :: ds) st2
def mTup (r : Mo (List D)) : Mo D := fun ev st => (r ev st).bind fun ds st1 => if ds.length ≤ lim then .ok (.tup ds) st1 else .bad
def mDisp (r : Mo (List D)) : Mo (List D) := fun ev st => (r ev st).bind fun ds st1 => if ds.length ≤ lim then .ok ds st1 else .bad
/-- a new list goes to the store -/
def mKeep (m : Mo (List D)) : Mo D := fun ev st => (m ev st).bind fun ds st1 => .ok (.ref st1.length) (st1 ++ [.lst ds])

variable {X : Cx} {W : Wx} {a b c e : Expr} {es rest : List Expr} {pos : Pos} {ma mb mc : Mo D} {mr : Mo (List D)} {ta tb : Mo Bool}
theorem me_var {i : Nat} {x : Str} (h : PE X (.Name x pos) (tVar i)) : PE X (.Name x pos) (tE X.K W (mVar i)) := by
  refine PE.imp h fun σ H Q ⟨mu, ev, st, he, hs, hp⟩ => ?_
  unfold mVar at hp
  split at hp
  · rename_i d q
    obtain ⟨v, hv, r⟩ := he.2 i d q
    exact ⟨v, hv, hp _ _ _ .refl r hs⟩
  · exact hp.elim
theorem me_int {i : Int} {j : Nat} : PE X (.Constant (.int i) j pos) (tE X.K W (mC (.int i))) := PE.imp pe_int fun σ H Q ⟨mu, ev, st, he, hs, hp⟩ => hp _ _ _ .refl (.int i) hs
theorem me_bl {i : Bool} {j : Nat} : PE X (.Constant (.bool i) j pos) (tE X.K W (mC (.bl i))) := PE.imp pe_bl fun σ H Q ⟨mu, ev, st, he, hs, hp⟩ => hp _ _ _ .refl (.bl i) hs
theorem me_non {j : Nat} : PE X (.Constant .none j pos) (tE X.K W (mC .non)) := PE.imp pe_non fun σ H Q ⟨mu, ev, st, he, hs, hp⟩ => hp _ _ _ .refl .non hs
theorem me_str {i : Str} {j : Nat} : PE X (.Constant (.str i) j pos) (tE X.K W (mC (.str i))) := PE.imp pe_str fun σ H Q ⟨mu, ev, st, he, hs, hp⟩ => hp _ _ _ .refl (.str i) hs
/-- a constant of the module: v stands for d wherever one is -/
theorem me_glob {x : Str} {v : V} {d : D} (h : PE X (.Name x pos) (tC v)) (r : ∀ H mu, Rp X.K H mu v d) : PE X (.Name x pos) (tE X.K W (mC d)) := PE.imp h fun σ H Q ⟨mu, ev, st, he, hs, hp⟩ => hp _ _ _ .refl (r _ _) hs
theorem ma_nil : PA X [] (tA X.K W mNil) := PA.imp pa_nil fun σ H Q ⟨mu, ev, st, he, hs, hp⟩ => hp _ _ _ .refl .nil hs
theorem ma_cons (ha : PE X e (tE X.K W ma)) (hr : PA X es (tA X.K W mr)) (hs : starEach (e :: es) X.env = (false, eval e X.env) :: starEach es X.env := by rfl) : PA X (e :: es) (tA X.K W (mCons ma mr)) := by
  refine PA.imp (pa_cons ha hr hs) fun σ H Q ⟨mu, ev, st, he, hst, hp⟩ => ?_
  refine ⟨mu, ev, st, he, hst, hp.bind fun d st1 mu1 x H1 _ e1 r1 s1 hp1 => ?_⟩
  refine ⟨mu1, ev, st1, he.mono e1, s1, hp1.bind fun ds st2 mu2 xs H2 _ e2 r2 s2 hp2 => ?_⟩
  exact hp2 _ _ _ .refl (.cons (Rp.mono e2 r1) r2) s2
theorem Rps.ctx {K : PySem.W.Frag} {H : Hp} {mu : List Addr} {p : Addr} {o : HO} (hp : H p = none) {vs : List V} {ds : List D} (h : Rps K H mu vs ds) : Rps K (upd H p o) mu vs ds := h.mono (ext_new hp o)
theorem me_tup {k : Nat} (h : PA X es (tA X.K W mr)) : PE X (.Tuple es k pos) (tE X.K W (mTup mr)) := by
  refine PE.imp (pe_tup h) fun σ H Q ⟨mu, ev, st, he, hst, hp⟩ => ?_
  refine ⟨mu, ev, st, he, hst, hp.bind fun ds st1 mu1 xs H1 _ e1 r1 s1 hp1 => ?_⟩
  split at hp1
  · rename_i hl
    refine ⟨by rw [Rps.length r1]; exact lim_le hl, fun p hn => ?_⟩
    exact hp1 _ _ _ (ext_new hn _) (.tup (.inl upd_same) (Rps.ctx hn r1)) (s1.new hn _)
  · exact hp1.elim
theorem ml_lst (h : PA X es (tA X.K W mr)) : PE X (.List es pos) (tL X.K W (mDisp mr)) := by
  refine PE.imp (pe_lst h) fun σ H Q ⟨mu, ev, st, he, hst, hp⟩ => ?_
  refine ⟨mu, ev, st, he, hst, hp.bind fun ds st1 mu1 xs H1 _ e1 r1 s1 hp1 => ?_⟩
  split at hp1
  · rename_i hl
    refine ⟨by rw [Rps.length r1]; exact lim_le hl, fun p hn => ?_⟩
    exact hp1 _ _ _ (ext_new hn _) ⟨p, xs, rfl, hn, upd_same, s1.fresh hn, Rps.ctx hn r1⟩ (s1.new hn _)
  · exact hp1.elim
theorem adopt {K : PySem.W.Frag} {H : Hp} {mu : List Addr} {st : Sto} (r : RelSt K H mu st) {p : Addr} {vs : List V} {ds : List D} (hp : H p = some (.lst vs)) (hn : p ∉ mu) (hr : Rps K H mu vs ds) :
    Rp K H (mu ++ [p]) (.ref p) (.ref st.length) ∧ RelSt K H (mu ++ [p]) (st ++ [.lst ds]) := by
  have q : mu.length = st.length := r.len
  have e0 : Ext0 mu H (mu ++ [p]) H := ⟨⟨[p], rfl⟩, fun _ _ h => h, fun a o vs h n => ⟨h, by simp only [List.mem_append, List.mem_singleton, not_or]; exact ⟨n, fun e => by subst e; rw [hp] at h; cases h⟩⟩⟩
  refine ⟨.ref (by rw [← q]; simp), ⟨by simp [q], ?_, fun i a u h1 h2 => ?_⟩⟩
  · rw [List.nodup_append]
    refine ⟨r.nd, by simp, fun a ha b hb => ?_⟩
    simp only [List.mem_singleton] at hb
    subst hb
    intro e; subst e
    exact hn ha
  · by_cases hi : i < mu.length
    · rw [List.getElem?_append_left hi] at h1
      rw [List.getElem?_append_left (by rw [← q]; exact hi)] at h2
      have k := r.ob i a u h1 h2
      exact k.mono0 e0 rfl
    · have hl := (List.getElem?_eq_some_iff.mp h1).1
      simp at hl
      have e : i = mu.length := by omega
      subst e
      rw [List.getElem?_append_right (Nat.le_refl _)] at h1
      rw [q, List.getElem?_append_right (Nat.le_refl _)] at h2
      simp at h1 h2
      subst h1; subst h2
      exact ⟨vs, hp, hr.mono0 e0⟩
theorem me_keep (h : PE X e (tL X.K W mr)) : PE X e (tE X.K W (mKeep mr)) := by
  refine PE.imp h fun σ H Q ⟨mu, ev, st, he, hst, hp⟩ => ?_
  refine ⟨mu, ev, st, he, hst, ?_⟩
  unfold mKeep at hp
  cases hr : mr ev st with
  | bad => rw [hr] at hp; exact hp
  | exc c e s => rw [hr] at hp; exact hp
  | ok ds st1 =>
    rw [hr] at hp
    intro mu1 x H1 e1 ⟨p, vs, ex, h0, hpp, hn, rs⟩ s1
    subst ex
    obtain ⟨k1, k2⟩ := adopt s1 hpp hn rs
    exact hp (mu1 ++ [p]) (.ref p) H1 (ext_adopt e1 h0) k1 k2
end Ml

namespace Ml
open PySem L2
/-! ### operators by values -/
abbrev G2 := D → D → Sto → Option (D × Sto)
abbrev G1 := D → Sto → Option (D × Sto)
abbrev GA := List D → Sto → Option (D × Sto)
def Rs.of {α : Type} : Option (α × Sto) → Rs α
  | some (d, st) => .ok d st
  | none => .bad
def mOp (g : G2) (ma mb : Mo D) : Mo D := fun ev st => (ma ev st).bind fun a st1 => (mb ev st1).bind fun b st2 => Rs.of (g a b st2)
def mUn (g : G1) (ma : Mo D) : Mo D := fun ev st => (ma ev st).bind fun a st1 => Rs.of (g a st1)
def mCB (g : GA) (mr : Mo (List D)) : Mo D := fun ev st => (mr ev st).bind fun ds st1 => Rs.of (g ds st1)
/-- the reading r of two values does what g does of two data -/
def OpS (K : PySem.W.Frag) (r : R2) (g : G2) : Prop := ∀ (mu : List Addr) (H : Hp) (st st' : Sto) (x y : V) (a b d : D) (Q : VK), RelSt K H mu st → Rp K H mu x a → Rp K H mu y b → g a b st = some (d, st') →
  (∀ mu' v H', Ext mu H mu' H' → Rp K H' mu' v d → RelSt K H' mu' st' → Q v H') → r x y H Q
def UnS (K : PySem.W.Frag) (r : V → Hp → VK → Prop) (g : G1) : Prop := ∀ (mu : List Addr) (H : Hp) (st st' : Sto) (x : V) (a d : D) (Q : VK), RelSt K H mu st → Rp K H mu x a → g a st = some (d, st') →
  (∀ mu' v H', Ext mu H mu' H' → Rp K H' mu' v d → RelSt K H' mu' st' → Q v H') → r x H Q
def CallS (K : PySem.W.Frag) (r : List V → Hp → VK → Prop) (g : GA) : Prop := ∀ (mu : List Addr) (H : Hp) (st st' : Sto) (xs : List V) (as : List D) (d : D) (Q : VK), RelSt K H mu st → Rps K H mu xs as → g as st = some (d, st') →
  (∀ mu' v H', Ext mu H mu' H' → Rp K H' mu' v d → RelSt K H' mu' st' → Q v H') → r xs H Q
variable {X : Cx} {W : Wx} {a b c e : Expr} {es rest : List Expr} {pos p : Pos} {ma mb mc : Mo D} {mr : Mo (List D)} {ta tb : Mo Bool}
theorem post_of {K : PySem.W.Frag} {mu : List Addr} {H : Hp} {o : Option (D × Sto)} {Q : VK} (h : Post K W (RE K) mu H (Rs.of o) Q) :
    ∃ d st', o = some (d, st') ∧ ∀ mu' v H', Ext mu H mu' H' → Rp K H' mu' v d → RelSt K H' mu' st' → Q v H' := by
  cases o with
  | none => exact h.elim
  | some p => obtain ⟨d, st'⟩ := p; exact ⟨d, st', rfl, h⟩
theorem opS_go {r : R2} {g : G2} (hs : OpS X.K r g) {σ : L2.St} {H : Hp} {Q : VK} (h : tE X.K W (mOp g ma mb) σ H Q) : tOp r (tE X.K W ma) (tE X.K W mb) σ H Q := by
  obtain ⟨mu, ev, st, he, hst, hp⟩ := h
  refine ⟨mu, ev, st, he, hst, hp.bind fun d st1 mu1 x H1 _ e1 r1 s1 hp1 => ?_⟩
  refine ⟨mu1, ev, st1, he.mono e1, s1, hp1.bind fun d2 st2 mu2 y H2 _ e2 r2 s2 hp2 => ?_⟩
  obtain ⟨d, st', eq, k⟩ := post_of hp2
  exact hs mu2 H2 st2 st' x y _ _ d Q s2 (Rp.mono e2 r1) r2 eq k
theorem me_op {op : Operator} {r : R2} {g : G2} (ho : OpR X (binaryOp op) r) (hs : OpS X.K r g) (ha : PE X a (tE X.K W ma)) (hb : PE X b (tE X.K W mb)) : PE X (.BinOp a op b pos) (tE X.K W (mOp g ma mb)) :=
  PE.imp (pe_op ho ha hb) fun _ _ _ h => opS_go hs h
theorem me_un {op : UnaryOp} {r : V → Hp → VK → Prop} {g : G1} (ho : UnR X (unaryOp op) r) (hs : UnS X.K r g) (ha : PE X a (tE X.K W ma)) : PE X (.UnaryOp op a pos) (tE X.K W (mUn g ma)) := by
  refine PE.imp (pe_un ho ha) fun σ H Q ⟨mu, ev, st, he, hst, hp⟩ => ?_
  refine ⟨mu, ev, st, he, hst, hp.bind fun d st1 mu1 x H1 _ e1 r1 s1 hp1 => ?_⟩
  obtain ⟨d, st', eq, k⟩ := post_of hp1
  exact hs mu1 H1 st1 st' x _ d Q s1 r1 eq k
theorem me_cmp {op : CmpOp} {r : R2} {g : G2} (ho : OpR X (compareOp op) r) (hs : OpS X.K r g) (ha : PE X a (tE X.K W ma)) (hb : PE X b (tE X.K W mb)) (hm : behindInMarks op b = false) : PE X (.Compare a [op] [b] pos) (tE X.K W (mOp g ma mb)) :=
  PE.imp (pe_cmpR ho ha hb hm) fun _ _ _ h => opS_go hs h
theorem me_ix {r : R2} {g : G2} (ho : IxR X r) (hs : OpS X.K r g) (ha : PE X a (tE X.K W ma)) (hb : PE X b (tE X.K W mb)) (hx : PlainIx b) : PE X (.Subscript a b pos) (tE X.K W (mOp g ma mb)) :=
  PE.imp (pe_ix ho ha hb hx) fun _ _ _ h => opS_go hs h
theorem callS_go {r : List V → Hp → VK → Prop} {g : GA} (hs : CallS X.K r g) {σ : L2.St} {H : Hp} {Q : VK} (h : tE X.K W (mCB g mr) σ H Q) : tCB r (tA X.K W mr) σ H Q := by
  obtain ⟨mu, ev, st, he, hst, hp⟩ := h
  refine ⟨mu, ev, st, he, hst, hp.bind fun d st1 mu1 x H1 _ e1 r1 s1 hp1 => ?_⟩
  obtain ⟨d, st', eq, k⟩ := post_of hp1
  exact hs mu1 H1 st1 st' x _ d Q s1 r1 eq k
theorem me_callB {id : String} {x : Str} {r : List V → Hp → VK → Prop} {g : GA} (hc : CallR X (.builtin id) r) (hs : CallS X.K r g) (hg : Gl X x) (hm : X.mg x = none) (hv : bootBuiltins x = some (.builtin id)) (ha : PA X (e :: es) (tA X.K W mr)) (hn : x ≠ "__name__" := by decide) (hdb : (x == ("__debug__" : Str)) = false := by decide)
    (he : starEach (e :: es) X.env = (false, eval e X.env) :: starEach es X.env := by rfl) (hpl : (backTo pos (starEach es X.env)).any (·.1) = false := by rfl) : PE X (.Call (.Name x p) (e :: es) [] pos) (tE X.K W (mCB g mr)) :=
  PE.imp (pe_callB hc hg hm hv ha hn hdb he hpl) fun _ _ _ h => callS_go hs h
theorem me_callTy {id : String} {x : Str} {r : List V → Hp → VK → Prop} {g : GA} (hc : CallR X (.type id) r) (hs : CallS X.K r g) (hg : Gl X x) (hm : X.mg x = none) (hv : bootBuiltins x = some (.type id)) (ha : PA X (e :: es) (tA X.K W mr)) (hn : x ≠ "__name__" := by decide) (hdb : (x == ("__debug__" : Str)) = false := by decide)
    (he : starEach (e :: es) X.env = (false, eval e X.env) :: starEach es X.env := by rfl) (hpl : (backTo pos (starEach es X.env)).any (·.1) = false := by rfl) : PE X (.Call (.Name x p) (e :: es) [] pos) (tE X.K W (mCB g mr)) :=
  PE.imp (pe_callTy hc hg hm hv ha hn hdb he hpl) fun _ _ _ h => callS_go hs h
theorem OpS.or {K : PySem.W.Frag} {r r' : R2} {g g' : G2} (h : OpS K r g) (h' : OpS K r' g') : OpS K (fun x y H Q => r x y H Q ∨ r' x y H Q) (fun a b st => match g a b st with | some z => some z | none => g' a b st) := by
  intro mu H st st' x y a b d Q hs hx hy e k
  simp only at e
  split at e
  · rename_i z q
    cases e
    exact .inl (h mu H st st' x y a b d Q hs hx hy q k)
  · exact .inr (h' mu H st st' x y a b d Q hs hx hy e k)
/-! ### whole numbers, texts, tuples -/
def gI (f : Int → Int → D) : G2 := fun a b st => match a, b with
  | .int i, .int j => some (f i j, st)
  | _, _ => none
def gIc (C : Int → Int → Bool) (f : Int → Int → D) : G2 := fun a b st => match a, b with
  | .int i, .int j => if C i j = true then some (f i j, st) else none
  | _, _ => none
/-- a value without address stands for itself -/
def vD : V → D
  | .bl b => .bl b
  | .int i => .int i
  | .str x => .str x
  | _ => .non
def plainV : V → Bool
  | .bl _ => true
  | .int _ => true
  | .str _ => true
  | .non => true
  | _ => false
theorem rp_plain {K : PySem.W.Frag} {H : Hp} {mu : List Addr} {v : V} (h : plainV v = true) : Rp K H mu v (vD v) := by
  cases v <;> first | exact .non | exact .bl _ | exact .int _ | exact .str _ | cases h
theorem opS_I0 {K : PySem.W.Frag} {f : Int → Int → V} (hf : ∀ i j, plainV (f i j) = true) : OpS K (rI0 f) (gI fun i j => vD (f i j)) := by
  intro mu H st st' x y a b d Q hs hx hy e k
  unfold gI at e
  split at e
  · cases e; cases hx; cases hy
    exact ⟨_, _, rfl, rfl, k _ _ _ .refl (rp_plain (hf _ _)) hs⟩
  · cases e
theorem opS_I {K : PySem.W.Frag} {C : Int → Int → Prop} {Cb : Int → Int → Bool} {f : Int → Int → V} (hC : ∀ i j, Cb i j = true → C i j) (hf : ∀ i j, plainV (f i j) = true) : OpS K (rI C f) (gIc Cb fun i j => vD (f i j)) := by
  intro mu H st st' x y a b d Q hs hx hy e k
  unfold gIc at e
  split at e
  · split at e
    · rename_i hc
      cases e; cases hx; cases hy
      exact ⟨_, _, rfl, rfl, hC _ _ hc, k _ _ _ .refl (rp_plain (hf _ _)) hs⟩
    · cases e
  · cases e
def gAddS : G2 := fun a b st => match a, b with
  | .str x, .str y => if x.length + y.length ≤ lim then some (.str (x ++ y), st) else none
  | _, _ => none
def gCatT : G2 := fun a b st => match a, b with
  | .tup xs, .tup ys => if xs.length + ys.length ≤ lim then some (.tup (xs ++ ys), st) else none
  | _, _ => none
theorem opS_addS {K : PySem.W.Frag} : OpS K (fun x y H Q => ∃ i j, x = .str i ∧ y = .str j ∧ i.length + j.length ≤ sizeLine ∧ Q (.str (i ++ j)) H) gAddS := by
  intro mu H st st' x y a b d Q hs hx hy e k
  unfold gAddS at e
  split at e
  · split at e
    · rename_i hc
      cases e; cases hx; cases hy
      exact ⟨_, _, rfl, rfl, lim_le hc, k _ _ _ .refl (.str _) hs⟩
    · cases e
  · cases e
theorem Rps.nil_iff {K : PySem.W.Frag} {H : Hp} {mu : List Addr} {vs : List V} {ds : List D} (h : Rps K H mu vs ds) : vs = [] ↔ ds = [] := by
  cases h <;> simp
theorem opS_catT {K : PySem.W.Frag} : OpS K (rCatA K) gCatT := by
  intro mu H st st' x y a b d Q hs hx hy e k
  unfold gCatT at e
  split at e
  · split at e
    · rename_i xs ys hc
      cases e
      cases hx with
      | tup h1 r1 =>
        cases hy with
        | tup h2 r2 =>
          rename_i p1 vs q1 ws
          refine ⟨p1, q1, vs, ws, rfl, rfl, h1.sq, h2.sq, by rw [Rps.length r1, Rps.length r2]; exact lim_le hc, fun e0 => ?_, fun e0 e1 => ?_, fun _ _ p hp => ?_⟩
          · have e1 := (Rps.nil_iff r1).mp e0
            subst e1
            exact k _ _ _ .refl (.tup h2 (by simpa using r2)) hs
          · have e2 := (Rps.nil_iff r2).mp e1
            subst e2
            exact k _ _ _ .refl (.tup h1 (by simpa using r1)) hs
          · exact k _ _ _ (ext_new hp _) (.tup (.inl upd_same) ((r1.append r2).ctx hp)) (hs.new hp _)
    · cases e
  · cases e
/-- + -/
def gAdd : G2 := fun a b st => match gI (fun i j => .int (i + j)) a b st with
  | some z => some z
  | none => match gAddS a b st with
    | some z => some z
    | none => gCatT a b st
def rAddA (K : PySem.W.Frag) : R2 := fun x y H Q => rI0 (fun i j => .int (i + j)) x y H Q ∨ (∃ i j, x = .str i ∧ y = .str j ∧ i.length + j.length ≤ sizeLine ∧ Q (.str (i ++ j)) H) ∨ rCatA K x y H Q
theorem op_addA : OpR X (binaryOp .Add) (rAddA X.K) := op_add.or (op_add_str.or op_catA)
theorem opS_add {K : PySem.W.Frag} : OpS K (rAddA K) gAdd := (opS_I0 (f := fun i j => .int (i + j)) (fun _ _ => rfl)).or (opS_addS.or opS_catT)
theorem me_add (ha : PE X a (tE X.K W ma)) (hb : PE X b (tE X.K W mb)) : PE X (.BinOp a .Add b pos) (tE X.K W (mOp gAdd ma mb)) := me_op op_addA opS_add ha hb
def gSub : G2 := gI fun i j => .int (i - j)
theorem me_sub (ha : PE X a (tE X.K W ma)) (hb : PE X b (tE X.K W mb)) : PE X (.BinOp a .Sub b pos) (tE X.K W (mOp gSub ma mb)) := me_op op_sub (opS_I0 (f := fun i j => .int (i - j)) (fun _ _ => rfl)) ha hb
def small64 (i : Int) : Bool := decide (i.natAbs < 18446744073709551616)
def w250 (i : Int) : Bool := decide (i.natAbs < 2 ^ 250)
def gMul : G2 := gIc (fun i j => small64 i || small64 j || (w250 i && w250 j)) fun i j => .int (i * j)
theorem cmul_of {i j : Int} (h : (small64 i || small64 j || (w250 i && w250 j)) = true) : IntMulOk i j := by
  rw [Bool.or_eq_true] at h
  rcases h with h | h
  · have h : CMul i j := by
      unfold small64 at h
      rw [Bool.or_eq_true] at h
      unfold CMul
      rcases h with h | h
      · have h := of_decide_eq_true h
        left; constructor <;> omega
      · have h := of_decide_eq_true h
        right; constructor <;> omega
    exact h.ok
  · rw [Bool.and_eq_true] at h
    exact (wide_mul (a := 250) (b := 250) (of_decide_eq_true h.1) (of_decide_eq_true h.2) (by decide) (by decide) (by decide)).ok
open PySem.Spec PyProof.Rows in
theorem op_mulK : OpR X (binaryOp .Mult) (rI IntMulOk fun i j => .int (i * j)) := opI fun _ _ _ _ _ _ _ hc q => mul_int q hc
theorem me_mul (ha : PE X a (tE X.K W ma)) (hb : PE X b (tE X.K W mb)) : PE X (.BinOp a .Mult b pos) (tE X.K W (mOp gMul ma mb)) := me_op op_mulK (opS_I (Cb := fun i j => small64 i || small64 j || (w250 i && w250 j)) (f := fun i j => .int (i * j)) (fun _ _ => cmul_of) (fun _ _ => rfl)) ha hb
def gMod : G2 := gIc (fun _ j => decide (0 < j)) fun i j => .int (i % j)
theorem me_mod (ha : PE X a (tE X.K W ma)) (hb : PE X b (tE X.K W mb)) : PE X (.BinOp a .Mod b pos) (tE X.K W (mOp gMod ma mb)) := me_op op_mod (opS_I (Cb := fun _ j => decide (0 < j)) (f := fun i j => .int (i % j)) (fun _ _ h => of_decide_eq_true h) (fun _ _ => rfl)) ha hb
/-- a divisor of at most 200 bits -/
def gDiv : G2 := gIc (fun _ j => decide (0 < j) && decide (j.natAbs < 2 ^ 200)) fun i j => .int (i / j)
theorem me_div (ha : PE X a (tE X.K W ma)) (hb : PE X b (tE X.K W mb)) : PE X (.BinOp a .FloorDiv b pos) (tE X.K W (mOp gDiv ma mb)) :=
  me_op op_fdivW (opS_I (Cb := fun _ j => decide (0 < j) && decide (j.natAbs < 2 ^ 200)) (f := fun i j => .int (i / j)) (fun _ _ h => by
    rw [Bool.and_eq_true] at h
    exact wide_div (b := 200) (of_decide_eq_true h.1) (of_decide_eq_true h.2) (by decide) (by decide)) (fun _ _ => rfl)) ha hb
def gNeg : G1 := fun a st => match a with
  | .int i => some (.int (-i), st)
  | _ => none
theorem me_neg (ha : PE X a (tE X.K W ma)) : PE X (.UnaryOp .USub a pos) (tE X.K W (mUn gNeg ma)) := by
  refine me_un un_neg ?_ ha
  intro mu H st st' x a d Q hs hx e k
  unfold gNeg at e
  split at e
  · cases e; cases hx; exact ⟨_, rfl, k _ _ _ .refl (.int _) hs⟩
  · cases e
def gLt : G2 := gI fun i j => .bl (decide (i < j))
def gLe : G2 := gI fun i j => .bl (decide (i ≤ j))
def gGt : G2 := gI fun i j => .bl (decide (j < i))
def gGe : G2 := gI fun i j => .bl (decide (j ≤ i))
theorem opS_lt {K : PySem.W.Frag} : OpS K (rI0 fun i j => .bl (decide (i < j))) gLt := opS_I0 (f := fun i j => .bl (decide (i < j))) fun _ _ => rfl
theorem opS_le {K : PySem.W.Frag} : OpS K (rI0 fun i j => .bl (decide (i ≤ j))) gLe := opS_I0 (f := fun i j => .bl (decide (i ≤ j))) fun _ _ => rfl
theorem opS_gt {K : PySem.W.Frag} : OpS K (rI0 fun i j => .bl (decide (j < i))) gGt := opS_I0 (f := fun i j => .bl (decide (j < i))) fun _ _ => rfl
theorem opS_ge {K : PySem.W.Frag} : OpS K (rI0 fun i j => .bl (decide (j ≤ i))) gGe := opS_I0 (f := fun i j => .bl (decide (j ≤ i))) fun _ _ => rfl

/-! ### == of data -/
mutual
def D.pd : D → PyData
  | .non => .none
  | .bl b => .bool b
  | .int i => .int i
  | .str x => .str x
  | .tup ds => .tuple (pds ds)
  | .ref _ => .none
  | .ro _ => .none
def pds : List D → List PyData
  | [] => []
  | d :: ds => d.pd :: pds ds
end
mutual
/-- no list within, at most n deep -/
def D.dok (n : Nat) : D → Bool
  | .non => true
  | .bl _ => true
  | .int _ => true
  | .str x => PyData.strOk x
  | .tup ds => match n with
    | 0 => false
    | k + 1 => doks k ds
  | .ref _ => false
  | .ro _ => false
def doks (n : Nat) : List D → Bool
  | [] => true
  | d :: ds => d.dok n && doks n ds
end
mutual
theorem Rp.dp {K : PySem.W.Frag} {H : Hp} {mu : List Addr} : ∀ {v : V} {d : D} {n : Nat}, Rp K H mu v d → d.dok n = true → Dp K H v d.pd
  | _, _, _, .non, _ => .non
  | _, _, _, .bl b, _ => .bl b
  | _, _, _, .int i, _ => .int i
  | _, _, _, .str x, _ => .str x
  | _, _, 0, .tup _ _, q => by simp [D.dok] at q
  | _, _, n + 1, .tup h hs, q => .tup h.sq (Rps.dp hs (by simpa [D.dok] using q))
  | _, _, _, .ref _, q => by simp [D.dok] at q
  | _, _, _, .ro _ _, q => by simp [D.dok] at q
theorem Rps.dp {K : PySem.W.Frag} {H : Hp} {mu : List Addr} : ∀ {vs : List V} {ds : List D} {n : Nat}, Rps K H mu vs ds → doks n ds = true → DpAll K H vs (pds ds)
  | _, _, _, .nil, _ => .nil
  | _, _, n, .cons h hs, q => by
    simp only [doks, Bool.and_eq_true] at q
    exact .cons (Rp.dp h q.1) (Rps.dp hs q.2)
end
mutual
theorem dok_can : ∀ {d : D} {n : Nat}, d.dok n = true → d.pd.canLay0 = true ∧ d.pd.depth ≤ n + 1
  | .non, n, _ => ⟨by simp [D.pd, PyData.canLay0], by simp [D.pd, PyData.depth]⟩
  | .bl b, n, _ => ⟨by simp [D.pd, PyData.canLay0], by simp [D.pd, PyData.depth]⟩
  | .int i, n, _ => ⟨by simp [D.pd, PyData.canLay0], by simp [D.pd, PyData.depth]⟩
  | .str x, n, q => ⟨by simpa [D.pd, PyData.canLay0, D.dok] using q, by simp [D.pd, PyData.depth]⟩
  | .tup ds, 0, q => by simp [D.dok] at q
  | .tup ds, n + 1, q => by
    have h := doks_can (ds := ds) (n := n) (by simpa [D.dok] using q)
    refine ⟨by simpa [D.pd, PyData.canLay0] using h.1, ?_⟩
    simp only [D.pd, PyData.depth]
    have := h.2
    omega
  | .ref _, _, q => by simp [D.dok] at q
  | .ro _, _, q => by simp [D.dok] at q
theorem doks_can : ∀ {ds : List D} {n : Nat}, doks n ds = true → PyData.canLayAll0 (pds ds) = true ∧ PyData.depthAll (pds ds) ≤ n + 1
  | [], n, _ => ⟨by simp [pds, PyData.canLayAll0], by simp [pds, PyData.depthAll]⟩
  | d :: ds, n, q => by
    simp only [doks, Bool.and_eq_true] at q
    have h1 := dok_can q.1
    have h2 := doks_can q.2
    refine ⟨by simp [pds, PyData.canLayAll0, h1.1, h2.1], ?_⟩
    simp only [pds, PyData.depthAll]
    have := h1.2; have := h2.2
    omega
end
theorem dok_shaped {d : D} (h : d.dok 60 = true) : SeqAt.shaped d.pd = true := by
  obtain ⟨h1, h2⟩ := dok_can h
  unfold SeqAt.shaped
  rw [h1, Bool.true_and]
  exact decide_eq_true (by omega)
def deq (a b : D) : Bool := PyData.eqv a.pd b.pd
/-- two texts, two whole numbers, two truths -/
def scalD : D → D → Bool
  | .str _, .str _ => true
  | .int _, .int _ => true
  | .bl _, .bl _ => true
  | _, _ => false
def gEq : G2 := fun a b st => if scalD a b then some (.bl (deq a b), st) else if a.dok 60 && b.dok 60 then some (.bl (deq a b), st) else none
def gNe : G2 := fun a b st => if scalD a b then some (.bl (!deq a b), st) else if a.dok 60 && b.dok 60 then some (.bl (!deq a b), st) else none
def rEqA (K : PySem.W.Frag) : R2 := fun x y H Q => rEq x y H Q ∨ rEqD K x y H Q
def rNeA (K : PySem.W.Frag) : R2 := fun x y H Q => rNe x y H Q ∨ rNeD K x y H Q
theorem op_eqA (hu : X.A.units + 64 < cLine) : OpR X (compareOp .Eq) (rEqA X.K) := op_eq.or (op_eqD hu)
theorem op_neA (hu : X.A.units + 64 < cLine) : OpR X (compareOp .NotEq) (rNeA X.K) := op_ne.or (op_neD hu)
theorem dec_bool {i j : Bool} : decide (V.bl i = V.bl j) = (i == j) := dec_bl
theorem scal_of {K : PySem.W.Frag} {H : Hp} {mu : List Addr} {x y : V} {a b : D} (h : scalD a b = true) (hx : Rp K H mu x a) (hy : Rp K H mu y b) : scal x y = true ∧ decide (x = y) = deq a b := by
  unfold scalD at h
  split at h
  · cases hx; cases hy
    exact ⟨rfl, dec_str⟩
  · cases hx; cases hy
    exact ⟨rfl, dec_int⟩
  · cases hx; cases hy
    exact ⟨rfl, dec_bl⟩
  · cases h
theorem opS_eq {K : PySem.W.Frag} : OpS K (rEqA K) gEq := by
  intro mu H st st' x y a b d Q hs hx hy e k
  unfold gEq at e
  split at e
  · rename_i hc
    obtain ⟨h1, h2⟩ := scal_of hc hx hy
    cases e
    refine .inl ⟨h1, ?_⟩
    rw [h2]
    exact k _ _ _ .refl (.bl _) hs
  · split at e
    · rename_i hc
      rw [Bool.and_eq_true] at hc
      cases e
      exact .inr ⟨_, _, hx.dp hc.1, hy.dp hc.2, dok_shaped hc.1, dok_shaped hc.2, k _ _ _ .refl (.bl _) hs⟩
    · cases e
theorem opS_ne {K : PySem.W.Frag} : OpS K (rNeA K) gNe := by
  intro mu H st st' x y a b d Q hs hx hy e k
  unfold gNe at e
  split at e
  · rename_i hc
    obtain ⟨h1, h2⟩ := scal_of hc hx hy
    cases e
    refine .inl ⟨h1, ?_⟩
    rw [h2]
    exact k _ _ _ .refl (.bl _) hs
  · split at e
    · rename_i hc
      rw [Bool.and_eq_true] at hc
      cases e
      exact .inr ⟨_, _, hx.dp hc.1, hy.dp hc.2, dok_shaped hc.1, dok_shaped hc.2, k _ _ _ .refl (.bl _) hs⟩
    · cases e
/-! ### is -/
def gIsN : G2 := fun a b st => match b with
  | .non => some (.bl (match a with | .non => true | _ => false), st)
  | .bl y => (match a with | .bl x => some (.bl (decide (x = y)), st) | _ => none)
  | _ => none
def gNotN : G2 := fun a b st => match b with
  | .non => some (.bl (match a with | .non => false | _ => true), st)
  | .bl y => (match a with | .bl x => some (.bl (!decide (x = y)), st) | _ => none)
  | _ => none
def rIsA : R2 := fun x y H Q => (y = .non ∧ Q (.bl (decide (x = .non))) H) ∨ rIsB x y H Q
def rNotA : R2 := fun x y H Q => (y = .non ∧ Q (.bl (!decide (x = .non))) H) ∨ rNotB x y H Q
theorem op_isA : OpR X (compareOp .Is) rIsA := op_isN.or op_isBl
theorem op_notA : OpR X (compareOp .IsNot) rNotA := op_notN.or op_notBl
theorem opS_is {K : PySem.W.Frag} : OpS K rIsA gIsN := by
  intro mu H st st' x y a b d Q hs hx hy e k
  unfold gIsN at e
  split at e
  · cases e; cases hy
    refine .inl ⟨rfl, k _ _ _ .refl ?_ hs⟩
    cases hx <;> exact .bl _
  · split at e
    · cases e; cases hx; cases hy
      exact .inr ⟨_, _, rfl, rfl, k _ _ _ .refl (.bl _) hs⟩
    · cases e
  · cases e
theorem opS_not {K : PySem.W.Frag} : OpS K rNotA gNotN := by
  intro mu H st st' x y a b d Q hs hx hy e k
  unfold gNotN at e
  split at e
  · cases e; cases hy
    refine .inl ⟨rfl, k _ _ _ .refl ?_ hs⟩
    cases hx <;> exact .bl _
  · split at e
    · cases e; cases hx; cases hy
      exact .inr ⟨_, _, rfl, rfl, k _ _ _ .refl (.bl _) hs⟩
    · cases e
  · cases e
end Ml

namespace Ml
open PySem L2
variable {X : Cx} {W : Wx} {a b c e : Expr} {es rest : List Expr} {pos p : Pos} {ma mb mc : Mo D} {mr : Mo (List D)} {ta tb : Mo Bool}
/-! ### in -/
def flatD : D → Bool
  | .non => true
  | .bl _ => true
  | .int _ => true
  | .str _ => true
  | _ => false
def vOf : D → V
  | .non => .non
  | .bl b => .bl b
  | .int i => .int i
  | .str x => .str x
  | _ => .non
/-- what a list or tuple holds -/
def seqOf (st : Sto) : D → Option (List D)
  | .tup ds => some ds
  | .ref i => match st[i]? with
    | some (.lst ds) => some ds
    | some (.ro ds) => some ds
    | _ => none
  | .ro ds => some ds
  | _ => none
def eqD (y x : D) : Bool := eqV (vOf y) (vOf x)
def inD (x : D) (ds : List D) : Bool := ds.any fun y => eqD y x
def gIn (neg : Bool) : G2 := fun a b st => match seqOf st b with
  | some ds => if flatD a && ds.all flatD then some (.bl (if neg then !inD a ds else inD a ds), st) else none
  | none => none
theorem Rp.flat {K : PySem.W.Frag} {H : Hp} {mu : List Addr} {v : V} {d : D} (h : Rp K H mu v d) (f : flatD d = true) : v = vOf d ∧ flatV v = true := by
  cases h <;> first | exact ⟨rfl, rfl⟩ | cases f
theorem Rps.flat {K : PySem.W.Frag} {H : Hp} {mu : List Addr} : ∀ {vs : List V} {ds : List D}, Rps K H mu vs ds → ds.all flatD = true → vs = ds.map vOf ∧ vs.all flatV = true
  | _, _, .nil, _ => ⟨rfl, rfl⟩
  | _, _, .cons h hs, f => by
    simp only [List.all_cons, Bool.and_eq_true] at f
    obtain ⟨e1, f1⟩ := h.flat f.1
    obtain ⟨e2, f2⟩ := Rps.flat hs f.2
    refine ⟨by rw [List.map_cons, ← e1, ← e2], ?_⟩
    rw [List.all_cons, f1, f2]; rfl
theorem inV_map (x : D) (ds : List D) : inV (vOf x) (ds.map vOf) = inD x ds := by
  unfold inV inD eqD
  rw [List.any_map]; rfl
/-- a list or tuple, as it is read -/
theorem seq_rel {K : PySem.W.Frag} {H : Hp} {mu : List Addr} {st : Sto} (hs : RelSt K H mu st) {v : V} {d : D} {ds : List D} (h : Rp K H mu v d) (e : seqOf st d = some ds) : ∃ q vs, v = .ref q ∧ (SqL K H q vs ∨ SqT K H q vs) ∧ Rps K H mu vs ds := by
  cases h with
  | tup h hs => cases e; exact ⟨_, _, rfl, .inr h.sq, hs⟩
  | ro h hs => cases e; exact ⟨_, _, rfl, .inl h.sq, hs⟩
  | ref h =>
    rename_i i q
    unfold seqOf at e
    simp only at e
    obtain ⟨o, ho, ok⟩ := hs.at h
    rw [ho] at e
    split at e
    · rename_i eq; cases e; cases eq
      obtain ⟨vs, h1, r⟩ := ok
      exact ⟨q, vs, rfl, .inl (.inl (.inl h1)), r⟩
    · rename_i eq; cases e; cases eq
      obtain ⟨od, vs, h1, r⟩ := ok
      exact ⟨q, vs, rfl, .inl (.inl (.inr ⟨od, h1⟩)), r⟩
    · cases e
  | _ => cases e
theorem opS_in {K : PySem.W.Frag} {neg : Bool} : OpS K (rIn K neg) (gIn neg) := by
  intro mu H st st' x y a b d Q hs hx hy e k
  unfold gIn at e
  split at e
  · rename_i ds hd
    split at e
    · rename_i hc
      rw [Bool.and_eq_true] at hc
      cases e
      obtain ⟨q, vs, rfl, sq, r⟩ := seq_rel hs hy hd
      obtain ⟨e1, f1⟩ := hx.flat hc.1
      obtain ⟨e2, f2⟩ := r.flat hc.2
      refine ⟨q, vs, rfl, sq, f1, f2, ?_⟩
      rw [e1, e2, inV_map]
      exact k _ _ _ .refl (.bl _) hs
    · cases e
  · cases e
/-! ### tests -/
def mTest (m : Mo D) : Mo Bool := fun ev st => (m ev st).bind fun d st1 => match d with
  | .bl b => .ok b st1
  | _ => .bad
/-- truth of any value -/
def truD (st : Sto) : D → Option Bool
  | .non => some false
  | .bl b => some b
  | .int i => some (i != 0)
  | .str x => if x.length ≤ lim then some ((x.length : Int) != 0) else none
  | .tup ds => some (!ds.isEmpty)
  | .ref i => match st[i]? with
    | some (.lst ds) => some (!ds.isEmpty)
    | some (.ro ds) => some (!ds.isEmpty)
    | _ => none
  | .ro ds => some (!ds.isEmpty)
def mTru (m : Mo D) : Mo Bool := fun ev st => (m ev st).bind fun d st1 => match truD st1 d with
  | some b => .ok b st1
  | none => .bad
def mTAnd (ta tb : Mo Bool) : Mo Bool := fun ev st => (ta ev st).bind fun b st1 => if b = true then tb ev st1 else .ok false st1
def mTOr (ta tb : Mo Bool) : Mo Bool := fun ev st => (ta ev st).bind fun b st1 => if b = true then .ok true st1 else tb ev st1
def mTNot (ta : Mo Bool) : Mo Bool := fun ev st => (ta ev st).bind fun b st1 => .ok (!b) st1
theorem tst_go {σ : L2.St} {H : Hp} {Q : Bool → Hp → Prop} {m : Mo D} (h : tT X.K W (mTest m) σ H Q) : tTest (tE X.K W m) σ H Q := by
  obtain ⟨mu, ev, st, he, hst, hp⟩ := h
  refine ⟨mu, ev, st, he, hst, hp.bind fun d st1 mu1 x H1 _ e1 r1 s1 hp1 => ?_⟩
  cases d <;> simp only at hp1 <;> first | exact hp1.elim | skip
  cases r1
  exact ⟨_, rfl, hp1 _ _ _ .refl rfl s1⟩
theorem mt_cmp {op : CmpOp} {r : R2} {g : G2} (ho : OpR X (compareOp op) r) (hs : OpS X.K r g) (ha : PE X a (tE X.K W ma)) (hb : PE X b (tE X.K W mb)) (hm : behindInMarks op b = false) : PT X (.Compare a [op] [b] pos) (tT X.K W (mTest (mOp g ma mb))) :=
  PT.imp (pt_cmpR ho ha hb hm) fun _ _ _ h => opS_go hs (tst_go h)
theorem tru_rel {K : PySem.W.Frag} {H : Hp} {mu : List Addr} {st : Sto} (s1 : RelSt K H mu st) {x : V} {d : D} {k : Bool} (r1 : Rp K H mu x d) (hk : truD st d = some k) : TruV K x H k := by
  cases r1 with
  | non => cases hk; rfl
  | bl b => cases hk; rfl
  | int i => cases hk; rfl
  | str x =>
    simp only [truD] at hk
    split at hk
    · rename_i hl
      cases hk; exact ⟨lim_le hl, rfl⟩
    · cases hk
  | tup h hs =>
    cases hk
    refine .inr (.inl ⟨_, h.sq, ?_⟩)
    cases hs <;> rfl
  | ro h hs =>
    cases hk
    refine .inl ⟨_, h.sq, ?_⟩
    cases hs <;> rfl
  | ref h =>
    simp only [truD] at hk
    obtain ⟨o, ho, ok⟩ := s1.at h
    rw [ho] at hk
    split at hk
    · rename_i eq; cases eq; cases hk
      obtain ⟨vs, h1, r⟩ := ok
      refine .inl ⟨vs, .inl (.inl h1), ?_⟩
      cases r <;> rfl
    · rename_i eq; cases eq; cases hk
      obtain ⟨od, vs, h1, r⟩ := ok
      refine .inl ⟨vs, .inl (.inr ⟨od, h1⟩), ?_⟩
      cases r <;> rfl
    · cases hk
theorem mt_tru (ha : PE X a (tE X.K W ma)) (he : ∀ whole, isTrue a X.env whole = (do let v ← whole; standAt a.pos; holding [v] (truthy v)) := by intro _; rfl) : PT X a (tT X.K W (mTru ma)) := by
  refine PT.imp (pt_truth ha he) fun σ H Q ⟨mu, ev, st, he, hst, hp⟩ => ?_
  refine ⟨mu, ev, st, he, hst, hp.bind fun d st1 mu1 x H1 _ e1 r1 s1 hp1 => ?_⟩
  split at hp1
  · rename_i k hk
    exact ⟨k, tru_rel s1 r1 hk, hp1 _ _ _ .refl rfl s1⟩
  · exact hp1.elim
theorem and_go {t u : Mo Bool} {σ : L2.St} {H : Hp} {Q : Bool → Hp → Prop} (h : tT X.K W (mTAnd t u) σ H Q) : tAnd (tT X.K W t) (tT X.K W u) σ H Q := by
  obtain ⟨mu, ev, st, he, hst, hp⟩ := h
  refine ⟨mu, ev, st, he, hst, hp.bind fun d st1 mu1 x H1 _ e1 r1 s1 hp1 => ?_⟩
  obtain rfl : x = d := r1
  cases x with
  | true => exact ⟨mu1, ev, st1, he.mono e1, s1, hp1⟩
  | false => exact hp1 _ _ _ .refl rfl s1
theorem or_go {t u : Mo Bool} {σ : L2.St} {H : Hp} {Q : Bool → Hp → Prop} (h : tT X.K W (mTOr t u) σ H Q) : tOr (tT X.K W t) (tT X.K W u) σ H Q := by
  obtain ⟨mu, ev, st, he, hst, hp⟩ := h
  refine ⟨mu, ev, st, he, hst, hp.bind fun d st1 mu1 x H1 _ e1 r1 s1 hp1 => ?_⟩
  obtain rfl : x = d := r1
  cases x with
  | true => exact hp1 _ _ _ .refl rfl s1
  | false => exact ⟨mu1, ev, st1, he.mono e1, s1, hp1⟩
theorem mw_and1 (ha : PT X a (tT X.K W ta)) : PW X (.BoolOp .And [a] pos) (tT X.K W ta) := pw_and1 ha
theorem mw_or1 (ha : PT X a (tT X.K W ta)) : PW X (.BoolOp .Or [a] pos) (tT X.K W ta) := pw_or1 ha
theorem mw_and (ha : PT X a (tT X.K W ta)) (hb : PW X (.BoolOp .And (b :: rest) pos) (tT X.K W tb)) : PW X (.BoolOp .And (a :: b :: rest) pos) (tT X.K W (mTAnd ta tb)) := PW.imp (pw_and ha hb) fun _ _ _ h => and_go h
theorem mw_or (ha : PT X a (tT X.K W ta)) (hb : PW X (.BoolOp .Or (b :: rest) pos) (tT X.K W tb)) : PW X (.BoolOp .Or (a :: b :: rest) pos) (tT X.K W (mTOr ta tb)) := PW.imp (pw_or ha hb) fun _ _ _ h => or_go h
theorem mt_w (h : PW X e (tT X.K W ta)) : PT X e (tT X.K W ta) := h.pt
theorem mt_not (ha : PT X a (tT X.K W ta)) : PT X (.UnaryOp .Not a pos) (tT X.K W (mTNot ta)) := by
  refine PT.imp (pt_not ha) fun σ H Q ⟨mu, ev, st, he, hst, hp⟩ => ?_
  refine ⟨mu, ev, st, he, hst, hp.bind fun d st1 mu1 x H1 _ e1 r1 s1 hp1 => ?_⟩
  obtain rfl : x = d := r1
  exact hp1 _ _ _ .refl rfl s1
/-! ### and, or, not as values (of truths); a if t else b; a < b < c -/
def mAnd (ma mb : Mo D) : Mo D := fun ev st => (ma ev st).bind fun d st1 => match d with
  | .bl true => mb ev st1
  | .bl false => .ok (.bl false) st1
  | _ => .bad
def mOr (ma mb : Mo D) : Mo D := fun ev st => (ma ev st).bind fun d st1 => match d with
  | .bl true => .ok (.bl true) st1
  | .bl false => mb ev st1
  | _ => .bad
def mNot (ma : Mo D) : Mo D := fun ev st => (ma ev st).bind fun d st1 => match truD st1 d with
  | some b => .ok (.bl (!b)) st1
  | none => .bad
def mIf (t : Mo Bool) (ma mb : Mo D) : Mo D := fun ev st => (t ev st).bind fun b st1 => if b = true then ma ev st1 else mb ev st1
def mChain (g g' : G2) (ma mb mc : Mo D) : Mo D := fun ev st => (ma ev st).bind fun x st1 => (mb ev st1).bind fun y st2 => (Rs.of (g x y st2)).bind fun z st3 => match z with
  | .bl true => (mc ev st3).bind fun w st4 => Rs.of (g' y w st4)
  | .bl false => .ok (.bl false) st3
  | _ => .bad
theorem me_one {op : BoolOp} (h : PE X a (tE X.K W ma)) : PE X (.BoolOp op [a] pos) (tE X.K W ma) := pe_one h
theorem me_and (ha : PE X a (tE X.K W ma)) (hb : PE X (.BoolOp .And (b :: rest) pos) (tE X.K W mb)) : PE X (.BoolOp .And (a :: b :: rest) pos) (tE X.K W (mAnd ma mb)) := by
  refine PE.imp (pe_and ha hb) fun σ H Q ⟨mu, ev, st, he, hst, hp⟩ => ?_
  refine ⟨mu, ev, st, he, hst, hp.bind fun d st1 mu1 x H1 _ e1 r1 s1 hp1 => ?_⟩
  split at hp1
  · cases r1; exact ⟨true, rfl, ⟨mu1, ev, st1, he.mono e1, s1, hp1⟩⟩
  · cases r1; exact ⟨false, rfl, hp1 _ _ _ .refl (.bl _) s1⟩
  · exact hp1.elim
theorem me_or (ha : PE X a (tE X.K W ma)) (hb : PE X (.BoolOp .Or (b :: rest) pos) (tE X.K W mb)) : PE X (.BoolOp .Or (a :: b :: rest) pos) (tE X.K W (mOr ma mb)) := by
  refine PE.imp (pe_or ha hb) fun σ H Q ⟨mu, ev, st, he, hst, hp⟩ => ?_
  refine ⟨mu, ev, st, he, hst, hp.bind fun d st1 mu1 x H1 _ e1 r1 s1 hp1 => ?_⟩
  split at hp1
  · cases r1; exact ⟨true, rfl, hp1 _ _ _ .refl (.bl _) s1⟩
  · cases r1; exact ⟨false, rfl, ⟨mu1, ev, st1, he.mono e1, s1, hp1⟩⟩
  · exact hp1.elim
theorem me_not (ha : PE X a (tE X.K W ma)) : PE X (.UnaryOp .Not a pos) (tE X.K W (mNot ma)) := by
  refine PE.imp (pe_notT ha) fun σ H Q ⟨mu, ev, st, he, hst, hp⟩ => ?_
  refine ⟨mu, ev, st, he, hst, hp.bind fun d st1 mu1 x H1 _ e1 r1 s1 hp1 => ?_⟩
  split at hp1
  · rename_i k hk
    exact ⟨k, tru_rel s1 r1 hk, hp1 _ _ _ .refl (.bl _) s1⟩
  · exact hp1.elim
theorem me_ifExp (hc : PT X c (tT X.K W ta)) (ha : PE X a (tE X.K W ma)) (hb : PE X b (tE X.K W mb)) : PE X (.IfExp c a b pos) (tE X.K W (mIf ta ma mb)) := by
  refine PE.imp (pe_ifExp hc ha hb) fun σ H Q ⟨mu, ev, st, he, hst, hp⟩ => ?_
  refine ⟨mu, ev, st, he, hst, hp.bind fun d st1 mu1 x H1 _ e1 r1 s1 hp1 => ?_⟩
  obtain rfl : x = d := r1
  cases x with
  | true => exact ⟨mu1, ev, st1, he.mono e1, s1, hp1⟩
  | false => exact ⟨mu1, ev, st1, he.mono e1, s1, hp1⟩
theorem chain_go {r r' : R2} {g g' : G2} (hs : OpS X.K r g) (hs' : OpS X.K r' g') {σ : L2.St} {H : Hp} {Q : VK} (h : tE X.K W (mChain g g' ma mb mc) σ H Q) : tChain r r' (tE X.K W ma) (tE X.K W mb) (tE X.K W mc) σ H Q := by
  obtain ⟨mu, ev, st, he, hst, hp⟩ := h
  refine ⟨mu, ev, st, he, hst, hp.bind fun d st1 mu1 x H1 _ e1 r1 s1 hp1 => ?_⟩
  refine ⟨mu1, ev, st1, he.mono e1, s1, hp1.bind fun d2 st2 mu2 y H2 _ e2 r2 s2 hp2 => ?_⟩
  cases eg : g d d2 st2 with
  | none => rw [eg] at hp2; exact hp2.elim
  | some z =>
    obtain ⟨d3, st3⟩ := z
    rw [eg] at hp2
    refine hs mu2 H2 st2 st3 x y _ _ d3 _ s2 (Rp.mono e2 r1) r2 eg fun mu3 v H3 e3 r3 s3 => ?_
    have hp3 := Post.from hp2 e3
    simp only [Rs.of, Rs.bind_ok] at hp3
    split at hp3
    · cases r3
      refine ⟨true, rfl, iteT ⟨mu3, ev, st3, (he.mono e1).mono (e2.trans e3), s3, hp3.bind fun d4 st4 mu4 w H4 _ e4 r4 s4 hp4 => ?_⟩⟩
      obtain ⟨d5, st5, eq, k⟩ := post_of hp4
      exact hs' mu4 H4 st4 st5 y w _ _ d5 Q s4 (Rp.mono (e3.trans e4) r2) r4 eq k
    · cases r3
      exact ⟨false, rfl, iteF (hp3 _ _ _ .refl (.bl _) s3)⟩
    · exact hp3.elim
theorem me_chain {op op' : CmpOp} {r r' : R2} {g g' : G2} (ho : OpR X (compareOp op) r) (hs : OpS X.K r g) (ho' : OpR X (compareOp op') r') (hs' : OpS X.K r' g') (ha : PE X a (tE X.K W ma)) (hb : PE X b (tE X.K W mb)) (hc : PE X c (tE X.K W mc))
    (hm : lastMarks [op, op'] [b, c] = false := by with_unfolding_all rfl) : PE X (.Compare a [op, op'] [b, c] pos) (tE X.K W (mChain g g' ma mb mc)) :=
  PE.imp (pe_chain ho ho' ha hb hc hm) fun _ _ _ h => chain_go hs hs' h
theorem mt_chain {op op' : CmpOp} {r r' : R2} {g g' : G2} (ho : OpR X (compareOp op) r) (hs : OpS X.K r g) (ho' : OpR X (compareOp op') r') (hs' : OpS X.K r' g') (ha : PE X a (tE X.K W ma)) (hb : PE X b (tE X.K W mb)) (hc : PE X c (tE X.K W mc))
    (hm : lastMarks [op, op'] [b, c] = false := by with_unfolding_all rfl) : PT X (.Compare a [op, op'] [b, c] pos) (tT X.K W (mTest (mChain g g' ma mb mc))) :=
  PT.imp (pt_chain ho ho' ha hb hc hm) fun _ _ _ h => chain_go hs hs' (tst_go h)
end Ml

namespace Ml
open PySem L2
variable {X : Cx} {W : Wx} {a b c e : Expr} {es rest : List Expr} {pos p q : Pos} {ma mb mc : Mo D} {mr : Mo (List D)} {ta tb : Mo Bool}
/-! ### an item -/
theorem Rps.atI {K : PySem.W.Frag} {H : Hp} {mu : List Addr} {vs : List V} {ds : List D} (h : Rps K H mu vs ds) {i : Int} {d : D} (e : L2.atI ds i = some d) : ∃ v, L2.atI vs i = some v ∧ Rp K H mu v d := by
  unfold L2.atI at e ⊢
  rw [Rps.length h]
  cases hx : ixN ds.length i with
  | none => rw [hx] at e; cases e
  | some j =>
    rw [hx] at e
    exact h.get e
def gIx : G2 := fun a b st => match b with
  | .int i => (match a with
    | .str z => if z.length ≤ lim then (match L2.atI z.cps.toList i with
      | some c => some (.str ⟨#[c]⟩, st)
      | none => none) else none
    | _ => match seqOf st a with
      | some ds => (match L2.atI ds i with
        | some d => some (d, st)
        | none => none)
      | none => none)
  | _ => none
theorem opS_ix {K : PySem.W.Frag} : OpS K (rIx K) gIx := by
  intro mu H st st' x y a b d Q hs hx hy e k
  unfold gIx at e
  split at e
  · cases hy
    split at e
    · cases hx
      split at e
      · rename_i hl
        split at e
        · rename_i c hc
          cases e
          exact .inr (.inr ⟨_, _, c, rfl, rfl, lim_le hl, hc, k _ _ _ .refl (.str _) hs⟩)
        · cases e
      · cases e
    · split at e
      · rename_i ds hd
        split at e
        · rename_i d' hd'
          cases e
          obtain ⟨q, vs, rfl, sq, r⟩ := seq_rel hs hx hd
          obtain ⟨v, hv, rv⟩ := r.atI hd'
          rcases sq with sq | sq
          · exact .inl ⟨q, vs, _, v, rfl, rfl, sq, hv, k _ _ _ .refl rv hs⟩
          · exact .inr (.inl ⟨q, vs, _, v, rfl, rfl, sq, hv, k _ _ _ .refl rv hs⟩)
        · cases e
      · cases e
  · cases e
theorem me_item (ha : PE X a (tE X.K W ma)) (hb : PE X b (tE X.K W mb)) (hx : PlainIx b := by exact fun _ _ => rfl) : PE X (.Subscript a b pos) (tE X.K W (mOp gIx ma mb)) := me_ix ix_seq opS_ix ha hb hx
/-! ### slices -/
abbrev MoO := Mo (Option Int)
def mNoPart : MoO := fun _ st => .ok none st
def mPart (m : Mo D) : MoO := fun ev st => (m ev st).bind fun d st1 => match d with
  | .int i => .ok (some i) st1
  | _ => .bad
def RO : RR (Option Int) (Option Int) := ⟨fun _ _ _ _ v d => v = d, fun _ h => h⟩
abbrev tO (K : PySem.W.Frag) (W : Wx) (m : MoO) : TO := tG K W RO m
theorem PO.imp {e : Option Expr} {t t' : TO} (h : PO X e t) (k : ∀ σ H Q, t' σ H Q → t σ H Q) : PO X e t' := ⟨fun pins s σ H Q I hw => h.run pins s σ H Q I (k σ H Q hw)⟩
theorem mo_none : PO X none (tO X.K W mNoPart) := PO.imp po_none fun σ H Q ⟨mu, ev, st, he, hs, hp⟩ => hp _ _ _ .refl rfl hs
theorem mo_some (h : PE X e (tE X.K W ma)) : PO X (some e) (tO X.K W (mPart ma)) := by
  refine PO.imp (po_some h) fun σ H Q ⟨mu, ev, st, he, hst, hp⟩ => ?_
  refine ⟨mu, ev, st, he, hst, hp.bind fun d st1 mu1 x H1 _ e1 r1 s1 hp1 => ?_⟩
  cases d <;> simp only at hp1 <;> first | exact hp1.elim | skip
  cases r1
  exact ⟨_, rfl, hp1 _ _ _ .refl rfl s1⟩
def cutD {α : Type} (ds : List α) (lo hi : Option Int) : List α := (ds.drop (HT.sIx ds.length 0 lo)).take (HT.sIx ds.length ds.length hi - HT.sIx ds.length 0 lo)
def gSl (a : D) (lo hi : Option Int) : Option D := match a with
  | .tup ds => some (.tup (cutD ds lo hi))
  | .str z => if z.length ≤ lim then some (.str (cutS z lo hi)) else none
  | _ => none
def mSl (ma : Mo D) (ml mh : MoO) : Mo D := fun ev st => (ma ev st).bind fun d st1 => (ml ev st1).bind fun lo st2 => (mh ev st2).bind fun hi st3 => match gSl d lo hi with
  | some d' => .ok d' st3
  | none => .bad
theorem cut_whole {α : Type} (ds : List α) (lo hi : Option Int) (h : HT.sIx ds.length 0 lo = 0 ∧ HT.sIx ds.length ds.length hi = ds.length) : cutD ds lo hi = ds := by
  unfold cutD
  rw [h.1, h.2]; simp
theorem Rps.cut {K : PySem.W.Frag} {H : Hp} {mu : List Addr} {vs : List V} {ds : List D} (h : Rps K H mu vs ds) (lo hi : Option Int) : Rps K H mu (cutV vs lo hi) (cutD ds lo hi) := by
  unfold cutV cutD
  rw [Rps.length h]
  exact (h.drop _).take _
theorem me_slice {lo hi : Option Expr} {ml mh : MoO} {p2 : Pos} (ha : PE X e (tE X.K W ma)) (hl : PO X lo (tO X.K W ml)) (hu : PO X hi (tO X.K W mh)) : PE X (.Subscript e (.Slice lo hi none p2) pos) (tE X.K W (mSl ma ml mh)) := by
  refine PE.imp (pe_slice (sl_tupA.or sl_str) ha hl hu) fun σ H Q ⟨mu, ev, st, he, hst, hp⟩ => ?_
  refine ⟨mu, ev, st, he, hst, hp.bind fun d st1 mu1 x H1 _ e1 r1 s1 hp1 => ?_⟩
  refine ⟨mu1, ev, st1, he.mono e1, s1, hp1.bind fun lo st2 mu2 l H2 _ e2 r2 s2 hp2 => ?_⟩
  refine ⟨mu2, ev, st2, (he.mono e1).mono e2, s2, hp2.bind fun hi st3 mu3 u H3 _ e3 r3 s3 hp3 => ?_⟩
  obtain rfl : l = lo := r2
  obtain rfl : u = hi := r3
  have r1 := Rp.mono (e2.trans e3) r1
  split at hp3
  · rename_i d' hd
    unfold gSl at hd
    split at hd
    · cases hd
      cases r1 with
      | tup ht hs =>
        rename_i q vs ds
        refine .inl ⟨_, _, rfl, ht.sq, fun hw => ?_, fun hw p hp => ?_⟩
        · refine hp3 _ _ _ .refl (.tup ht ?_) s3
          rw [cut_whole]; exact hs
          rw [← Rps.length hs]; exact hw
        · exact hp3 _ _ _ (ext_new hp _) (.tup (.inl upd_same) ((hs.cut l u).ctx hp)) (s3.new hp _)
    · split at hd
      · rename_i hz
        cases hd; cases r1
        exact .inr ⟨_, rfl, lim_le hz, hp3 _ _ _ .refl (.str _) s3⟩
      · cases hd
    · cases hd
  · exact hp3.elim
/-! ### len, int, abs, min, max, str, isinstance -/
def lenD (st : Sto) : D → Option Nat
  | .str x => if x.length ≤ lim then some x.length else none
  | d => (seqOf st d).map (·.length)
def gLen : GA := fun ds st => match ds with
  | [d] => (lenD st d).map fun n => (.int n, st)
  | _ => none
theorem callS_len {K : PySem.W.Frag} : CallS K (fun xs H Q => ∃ x n, xs = [x] ∧ LenV K x H n ∧ Q (.int n) H) gLen := by
  intro mu H st st' xs as d Q hs hx e k
  unfold gLen at e
  split at e
  · cases hx with
    | cons h1 h2 =>
      cases h2
      rename_i d0 v
      cases hn : lenD st d0 with
      | none => rw [hn] at e; cases e
      | some n =>
        rw [hn] at e
        cases e
        refine ⟨_, n, rfl, ?_, k _ _ _ .refl (.int _) hs⟩
        unfold lenD at hn
        split at hn
        · cases h1
          split at hn
          · rename_i hl; cases hn; exact ⟨lim_le hl, rfl⟩
          · cases hn
        · cases hq : seqOf st d0 with
          | none => rw [hq] at hn; cases hn
          | some ds =>
            rw [hq] at hn
            cases hn
            obtain ⟨q, vs, rfl, sq, r⟩ := seq_rel hs h1 hq
            rcases sq with sq | sq
            · exact .inl ⟨vs, sq, (Rps.length r).symm⟩
            · exact .inr ⟨vs, sq, (Rps.length r).symm⟩
  · cases e
def gInt : GA := fun ds st => match ds with
  | [.int i] => some (.int i, st)
  | [.bl b] => some (.int (if b then 1 else 0), st)
  | _ => none
theorem callS_int {K : PySem.W.Frag} : CallS K (fun xs H Q => (∃ i, xs = [.int i] ∧ Q (.int i) H) ∨ ∃ k, xs = [.bl k] ∧ Q (.int (if k then 1 else 0)) H) gInt := by
  intro mu H st st' xs as d Q hs hx e k
  unfold gInt at e
  split at e
  · cases e; cases hx with | cons h1 h2 => cases h2; cases h1; exact .inl ⟨_, rfl, k _ _ _ .refl (.int _) hs⟩
  · cases e; cases hx with | cons h1 h2 => cases h2; cases h1; exact .inr ⟨_, rfl, k _ _ _ .refl (.int _) hs⟩
  · cases e
def gAbs : GA := fun ds st => match ds with
  | [.int i] => some (.int (if i < 0 then -i else i), st)
  | _ => none
theorem callS_abs {K : PySem.W.Frag} : CallS K (fun xs H Q => ∃ i, xs = [.int i] ∧ Q (.int (if i < 0 then -i else i)) H) gAbs := by
  intro mu H st st' xs as d Q hs hx e k
  unfold gAbs at e
  split at e
  · cases e; cases hx with | cons h1 h2 => cases h2; cases h1; exact ⟨_, rfl, k _ _ _ .refl (.int _) hs⟩
  · cases e
def gMax : GA := fun ds st => match ds with
  | [.int i, .int j] => some (.int (if j > i then j else i), st)
  | _ => none
def gMin : GA := fun ds st => match ds with
  | [.int i, .int j] => some (.int (if j < i then j else i), st)
  | _ => none
theorem callS_max {K : PySem.W.Frag} : CallS K (fun xs H Q => ∃ i j, xs = [.int i, .int j] ∧ Q (.int (if j > i then j else i)) H) gMax := by
  intro mu H st st' xs as d Q hs hx e k
  unfold gMax at e
  split at e
  · cases e; cases hx with | cons h1 h2 => cases h2 with | cons h2 h3 => cases h3; cases h1; cases h2; exact ⟨_, _, rfl, k _ _ _ .refl (.int _) hs⟩
  · cases e
theorem callS_min {K : PySem.W.Frag} : CallS K (fun xs H Q => ∃ i j, xs = [.int i, .int j] ∧ Q (.int (if j < i then j else i)) H) gMin := by
  intro mu H st st' xs as d Q hs hx e k
  unfold gMin at e
  split at e
  · cases e; cases hx with | cons h1 h2 => cases h2 with | cons h2 h3 => cases h3; cases h1; cases h2; exact ⟨_, _, rfl, k _ _ _ .refl (.int _) hs⟩
  · cases e
def gStr : GA := fun ds st => match ds with
  | [.int i] => if i.natAbs < 1000000 then some (.str (toString i), st) else none
  | _ => none
theorem callS_str {K : PySem.W.Frag} : CallS K (fun xs H Q => ∃ i : Int, xs = [.int i] ∧ i.natAbs.log2 < 1920 ∧ Q (.str (toString i)) H) gStr := by
  intro mu H st st' xs as d Q hs hx e k
  unfold gStr at e
  split at e
  · split at e
    · rename_i hl
      cases e; cases hx with
      | cons h1 h2 =>
        cases h2; cases h1
        refine ⟨_, rfl, ?_, k _ _ _ .refl (.str _) hs⟩
        refine Nat.lt_of_le_of_lt (m := 20) ?_ (by decide)
        rename_i i
        by_cases h0 : i.natAbs = 0
        · rw [h0]; decide
        · exact Nat.le_of_lt ((Nat.log2_lt h0).mpr (Nat.lt_trans hl (by decide)))
    · cases e
  · cases e
def tyD (st : Sto) : D → Option String
  | .non => some "NoneType"
  | .bl _ => some "bool"
  | .int _ => some "int"
  | .str _ => some "str"
  | .tup _ => some "tuple"
  | .ref i => match st[i]? with
    | some (.lst _) => some "list"
    | some (.ro _) => some "list"
    | some (.dK _ _) => some "dict"
    | some (.dT false _) => some "dict"
    | _ => none
  | .ro _ => some "list"
def isiB (t c : String) : Bool := t == c || (t == "bool" && c == "int")
def okCls (c : String) : Bool := c == "int" || c == "bool" || c == "str" || c == "tuple" || c == "list"
def okTy (c : String) : Bool := c == "int" || c == "bool" || c == "str" || c == "tuple" || c == "list" || c == "NoneType" || c == "dict"
theorem kit_all {t c : String} (h : okTy t = true) (h' : okCls c = true) : kitB t c = some (isiB t c) := by
  simp only [okTy, okCls, Bool.or_eq_true, beq_iff_eq] at h h'
  rcases h' with (((h' | h') | h') | h') | h' <;> subst h' <;> rcases h with (((((h | h) | h) | h) | h) | h) | h <;> subst h <;> decide +kernel
theorem tyX_of {K : PySem.W.Frag} {H : Hp} {mu : List Addr} {st : Sto} (hs : RelSt K H mu st) {v : V} {d : D} {t : String} (h : Rp K H mu v d) (e : tyD st d = some t) : TyX K H v (.type t) ∧ okTy t = true := by
  cases h with
  | non => cases e; exact ⟨.base .non, by decide⟩
  | bl b => cases e; exact ⟨.base (.bl b), by decide⟩
  | int b => cases e; exact ⟨.base (.int b), by decide⟩
  | str b => cases e; exact ⟨.base (.str b), by decide⟩
  | tup h r =>
    cases e
    refine ⟨?_, by decide⟩
    rcases h with h | ⟨_, o, its, n, h1, h2, _⟩
    · exact .base (.tup h)
    · exact .kTuple h1 h2
  | ro h r =>
    cases e
    refine ⟨?_, by decide⟩
    rcases h with ⟨o, h, _⟩ | ⟨o, its, n, h1, h2, _⟩
    · exact .base (.frz h)
    · exact .kList h1 h2
  | ref h =>
    simp only [tyD] at e
    obtain ⟨o, ho, ok⟩ := hs.at h
    rw [ho] at e
    split at e
    · rename_i eq; cases eq; cases e
      obtain ⟨vs, h1, _⟩ := ok
      exact ⟨.base (.lst h1), by decide⟩
    · rename_i eq; cases eq; cases e
      obtain ⟨o, vs, h1, _⟩ := ok
      exact ⟨.base (.frz h1), by decide⟩
    · rename_i lk kvs eq; cases eq; cases e
      cases lk with
      | true => obtain ⟨o, ws, h1, _⟩ := ok; exact ⟨.fDict h1, by decide⟩
      | false => obtain ⟨ws, h1, _⟩ := ok; exact ⟨.base (.dK h1), by decide⟩
    · rename_i eq; cases eq; cases e
      obtain ⟨ws, h1, _⟩ := ok
      exact ⟨.base (.dT h1), by decide⟩
    · cases e
def mIsi (c : String) (m : Mo D) : Mo D := fun ev st => (m ev st).bind fun d st1 => match tyD st1 d with
  | some t => .ok (.bl (isiB t c)) st1
  | none => .bad
theorem me_isi {x : Str} {T : String} {p2 : Pos} (hg : Gl X "isinstance") (hm : X.mg "isinstance" = none) (hg2 : Gl X x) (hm2 : X.mg x = none) (hv2 : bootBuiltins x = some (.type T)) (hT : okCls T = true) (ha : PE X a (tE X.K W ma)) (hn2 : x ≠ "__name__" := by decide) (hd2 : (x == ("__debug__" : Str)) = false := by decide)
    (hs0 : starEach [.Name x p2] X.env = (false, eval (.Name x p2) X.env) :: starEach [] X.env := by rfl) (he : starEach [a, .Name x p2] X.env = (false, eval a X.env) :: starEach [.Name x p2] X.env := by rfl) (hpl : (backTo pos (starEach [.Name x p2] X.env)).any (·.1) = false := by rfl) :
    PE X (.Call (.Name "isinstance" p) [a, .Name x p2] [] pos) (tE X.K W (mIsi T ma)) := by
  refine PE.imp (pe_callB call_isi hg hm (by decide +kernel) (pa_cons ha (pa_cons (pe_bltn (v := .ty T) hg2 hm2 hv2 rfl hn2 hd2) pa_nil hs0) he) (by decide) (by decide) he hpl) fun σ H Q ⟨mu, ev, st, he, hst, hp⟩ => ?_
  refine ⟨mu, ev, st, he, hst, hp.bind fun d st1 mu1 x H1 _ e1 r1 s1 hp1 => ?_⟩
  split at hp1
  · rename_i t ht
    obtain ⟨ty, ok⟩ := tyX_of s1 r1 ht
    exact ⟨x, .ty T, .type t, .type T, isiB t T, rfl, .ty T, ty, kit_ty (kit_all ok hT), hp1 _ _ _ .refl (.bl _) s1⟩
  · exact hp1.elim
def mIsi2 (c c' : String) (m : Mo D) : Mo D := fun ev st => (m ev st).bind fun d st1 => match tyD st1 d with
  | some t => .ok (.bl (isiB t c || isiB t c')) st1
  | none => .bad
theorem me_isi2 {x y : Str} {T T' : String} {p2 p3 p4 : Pos} {k : Nat} (hg : Gl X "isinstance") (hm : X.mg "isinstance" = none) (hg2 : Gl X x) (hm2 : X.mg x = none) (hv2 : bootBuiltins x = some (.type T)) (hT : okCls T = true) (hg3 : Gl X y) (hm3 : X.mg y = none) (hv3 : bootBuiltins y = some (.type T')) (hT' : okCls T' = true)
    (ha : PE X a (tE X.K W ma)) (hn2 : x ≠ "__name__" := by decide) (hd2 : (x == ("__debug__" : Str)) = false := by decide) (hn3 : y ≠ "__name__" := by decide) (hd3 : (y == ("__debug__" : Str)) = false := by decide)
    (hs0 : starEach [.Tuple [.Name x p2, .Name y p3] k p4] X.env = (false, eval (.Tuple [.Name x p2, .Name y p3] k p4) X.env) :: starEach [] X.env := by rfl) (hs1 : starEach [.Name x p2, .Name y p3] X.env = (false, eval (.Name x p2) X.env) :: starEach [.Name y p3] X.env := by rfl) (hs2 : starEach [.Name y p3] X.env = (false, eval (.Name y p3) X.env) :: starEach [] X.env := by rfl)
    (he : starEach [a, .Tuple [.Name x p2, .Name y p3] k p4] X.env = (false, eval a X.env) :: starEach [.Tuple [.Name x p2, .Name y p3] k p4] X.env := by rfl) (hpl : (backTo pos (starEach [.Tuple [.Name x p2, .Name y p3] k p4] X.env)).any (·.1) = false := by rfl) :
    PE X (.Call (.Name "isinstance" p) [a, .Tuple [.Name x p2, .Name y p3] k p4] [] pos) (tE X.K W (mIsi2 T T' ma)) := by
  refine PE.imp (pe_callB call_isiT hg hm (by decide +kernel) (pa_cons ha (pa_cons (pe_tup (pa_cons (pe_bltn (v := .ty T) hg2 hm2 hv2 rfl hn2 hd2) (pa_cons (pe_bltn (v := .ty T') hg3 hm3 hv3 rfl hn3 hd3) pa_nil hs2) hs1)) pa_nil hs0) he) (by decide) (by decide) he hpl) fun σ H Q ⟨mu, ev, st, he, hst, hp⟩ => ?_
  refine ⟨mu, ev, st, he, hst, hp.bind fun d st1 mu1 x H1 _ e1 r1 s1 hp1 => ?_⟩
  split at hp1
  · rename_i t ht
    refine ⟨by show 2 ≤ sizeLine; decide, fun p hp => ?_⟩
    have s2 := s1.new hp (.tup [.ty T, .ty T'])
    obtain ⟨ty, ok⟩ := tyX_of s2 (Rp.mono (ext_new hp _) r1) ht
    refine ⟨x, p, [.ty T, .ty T'], .type t, [.type T, .type T'], isiB t T || isiB t T', rfl, upd_same, .cons (.ty T) (.cons (.ty T') .nil), ty, ?_, hp1 _ _ _ (ext_new hp _) (.bl _) s2⟩
    refine kitAny_cons (kit_ty (kit_all ok hT)) (fun e1 => ?_) (fun e1 => by rw [e1]; rfl)
    refine kitAny_cons (kit_ty (kit_all ok hT')) (fun e2 => ?_) (fun e2 => by rw [e2]; simp)
    rw [e1, e2]; rfl
  · exact hp1.elim
/-! ### a list that is read: a new one, or one of the store's -/
def RQ (K : PySem.W.Frag) : RR V (List D) := ⟨fun _ H mu _ v ds => ∃ p vs, v = .ref p ∧ SqL K H p vs ∧ Rps K H mu vs ds, fun _ h => h⟩
abbrev tQ (K : PySem.W.Frag) (W : Wx) (m : Mo (List D)) : TE := tG K W (RQ K) m
def mLst (m : Mo D) : Mo (List D) := fun ev st => (m ev st).bind fun d st1 => match d with
  | .ref i => (match st1[i]? with
    | some (.lst ds) => .ok ds st1
    | some (.ro ds) => .ok ds st1
    | _ => .bad)
  | .ro ds => .ok ds st1
  | _ => .bad
theorem mq_new (h : PE X e (tL X.K W mr)) : PE X e (tQ X.K W mr) := by
  refine PE.imp h fun σ H Q ⟨mu, ev, st, he, hst, hp⟩ => ⟨mu, ev, st, he, hst, ?_⟩
  cases hr : mr ev st with
  | bad => rw [hr] at hp; exact hp
  | exc c e s => rw [hr] at hp; exact hp
  | ok ds st1 =>
    rw [hr] at hp
    exact fun mu1 x H1 e1 ⟨p, vs, ex, h0, hpp, hn, rs⟩ s1 => hp mu1 x H1 e1 ⟨p, vs, ex, .inl (.inl hpp), rs⟩ s1
theorem mq_ref (h : PE X e (tE X.K W ma)) : PE X e (tQ X.K W (mLst ma)) := by
  refine PE.imp h fun σ H Q ⟨mu, ev, st, he, hst, hp⟩ => ?_
  refine ⟨mu, ev, st, he, hst, hp.bind fun d st1 mu1 x H1 _ e1 r1 s1 hp1 => ?_⟩
  split at hp1
  · cases r1 with
    | ref hi =>
      obtain ⟨o, ho, ok⟩ := s1.at hi
      rw [ho] at hp1
      split at hp1
      · rename_i eq; cases eq
        obtain ⟨vs, h1, r⟩ := ok
        exact hp1 _ _ _ .refl ⟨_, vs, rfl, .inl (.inl h1), r⟩ s1
      · rename_i eq; cases eq
        obtain ⟨od, vs, h1, r⟩ := ok
        exact hp1 _ _ _ .refl ⟨_, vs, rfl, .inl (.inr ⟨od, h1⟩), r⟩ s1
      · exact hp1.elim
  · cases r1 with
    | ro h r => exact hp1 _ _ _ .refl ⟨_, _, rfl, h.sq, r⟩ s1
  · exact hp1.elim
/-- a call of one list -/
def QS (K : PySem.W.Frag) {ξ α : Type} (R : RR ξ α) (r : List V → Hp → (ξ → Hp → Prop) → Prop) (g : List D → Option α) : Prop := ∀ (mu : List Addr) (H : Hp) (st : Sto) (p : Addr) (vs : List V) (ds : List D) (d : α) (Q : ξ → Hp → Prop), RelSt K H mu st → SqL K H p vs → Rps K H mu vs ds → g ds = some d →
  (∀ mu' v H', Ext mu H mu' H' → R.r H H' mu' st v d → RelSt K H' mu' st → Q v H') → r [.ref p] H Q
def mQ {α : Type} (g : List D → Option α) (mr : Mo (List D)) : Mo α := fun ev st => (mr ev st).bind fun ds st1 => match g ds with
  | some d => .ok d st1
  | none => .bad
theorem qs_go {r : List V → Hp → VK → Prop} {α : Type} {R : RR V α} {g : List D → Option α} (hs : QS X.K R r g) {σ : L2.St} {H : Hp} {Q : VK} (h : tG X.K W R (mQ g mr) σ H Q) : tCB r (tCons (tQ X.K W mr) tNil) σ H Q := by
  obtain ⟨mu, ev, st, he, hst, hp⟩ := h
  refine ⟨mu, ev, st, he, hst, hp.bind fun ds st1 mu1 x H1 _ e1 r1 s1 hp1 => ?_⟩
  obtain ⟨p, vs, rfl, sq, rs⟩ := r1
  cases hg : g ds with
  | none => rw [hg] at hp1; exact hp1.elim
  | some d =>
    rw [hg] at hp1
    exact hs mu1 H1 st1 p vs ds d Q s1 sq rs hg hp1
theorem mq_callB {id : String} {x : Str} {α : Type} {R : RR V α} {r : List V → Hp → VK → Prop} {g : List D → Option α} (hc : CallR X (.builtin id) r) (hs : QS X.K R r g) (hg : Gl X x) (hm : X.mg x = none) (hv : bootBuiltins x = some (.builtin id)) (ha : PE X e (tQ X.K W mr)) (hn : x ≠ "__name__" := by decide) (hdb : (x == ("__debug__" : Str)) = false := by decide)
    (he : starEach [e] X.env = (false, eval e X.env) :: starEach [] X.env := by rfl) : PE X (.Call (.Name x p) [e] [] pos) (tG X.K W R (mQ g mr)) :=
  PE.imp (pe_callB hc hg hm hv (pa_cons ha pa_nil he) hn hdb he rfl) fun _ _ _ h => qs_go (R := R) hs h
theorem mq_callTy {id : String} {x : Str} {α : Type} {R : RR V α} {r : List V → Hp → VK → Prop} {g : List D → Option α} (hc : CallR X (.type id) r) (hs : QS X.K R r g) (hg : Gl X x) (hm : X.mg x = none) (hv : bootBuiltins x = some (.type id)) (ha : PE X e (tQ X.K W mr)) (hn : x ≠ "__name__" := by decide) (hdb : (x == ("__debug__" : Str)) = false := by decide)
    (he : starEach [e] X.env = (false, eval e X.env) :: starEach [] X.env := by rfl) : PE X (.Call (.Name x p) [e] [] pos) (tG X.K W R (mQ g mr)) :=
  PE.imp (pe_callTy hc hg hm hv (pa_cons ha pa_nil he) hn hdb he rfl) fun _ _ _ h => qs_go (R := R) hs h
def intsOf : List D → Option (List Int)
  | [] => some []
  | .int i :: ds => (intsOf ds).map (i :: ·)
  | _ => none
def blsOf : List D → Option (List Bool)
  | [] => some []
  | .bl i :: ds => (blsOf ds).map (i :: ·)
  | _ => none
theorem Rps.ints {K : PySem.W.Frag} {H : Hp} {mu : List Addr} : ∀ {vs : List V} {ds : List D} {ns : List Int}, Rps K H mu vs ds → intsOf ds = some ns → vs = ns.map V.int
  | _, _, _, .nil, e => by cases e; rfl
  | _, _, ns, .cons h hs, e => by
    cases h <;> simp only [intsOf] at e <;> try cases e
    cases hq : intsOf _ with
    | none => rw [hq] at e; cases e
    | some ms =>
      rw [hq] at e; cases e
      rw [Rps.ints hs hq]; rfl
theorem Rps.bls {K : PySem.W.Frag} {H : Hp} {mu : List Addr} : ∀ {vs : List V} {ds : List D} {ns : List Bool}, Rps K H mu vs ds → blsOf ds = some ns → vs = ns.map V.bl
  | _, _, _, .nil, e => by cases e; rfl
  | _, _, ns, .cons h hs, e => by
    cases h <;> simp only [blsOf] at e <;> try cases e
    cases hq : blsOf _ with
    | none => rw [hq] at e; cases e
    | some ms =>
      rw [hq] at e; cases e
      rw [Rps.bls hs hq]; rfl
theorem Rps.of_ints {K : PySem.W.Frag} {H : Hp} {mu : List Addr} : ∀ ns : List Int, Rps K H mu (ns.map V.int) (ns.map D.int)
  | [] => .nil
  | n :: ns => .cons (.int n) (Rps.of_ints ns)
def gSum (ds : List D) : Option D := (intsOf ds).map fun ns => .int ns.sum
def gAny (ds : List D) : Option D := (blsOf ds).map fun ns => .bl (ns.any id)
def gAll (ds : List D) : Option D := (blsOf ds).map fun ns => .bl (ns.all id)
theorem qs_sum {K : PySem.W.Frag} : QS K (RE K) (rSum K) gSum := by
  intro mu H st p vs ds d Q hs sq rs e k
  unfold gSum at e
  cases hq : intsOf ds with
  | none => rw [hq] at e; cases e
  | some ns =>
    rw [hq] at e; cases e
    exact ⟨p, ns, rfl, by rw [← Rps.ints rs hq]; exact sq, k _ _ _ .refl (.int _) hs⟩
theorem qs_any {K : PySem.W.Frag} : QS K (RE K) (rAny K) gAny := by
  intro mu H st p vs ds d Q hs sq rs e k
  unfold gAny at e
  cases hq : blsOf ds with
  | none => rw [hq] at e; cases e
  | some ns =>
    rw [hq] at e; cases e
    exact ⟨p, ns, rfl, by rw [← Rps.bls rs hq]; exact sq, k _ _ _ .refl (.bl _) hs⟩
theorem qs_all {K : PySem.W.Frag} : QS K (RE K) (rAll K) gAll := by
  intro mu H st p vs ds d Q hs sq rs e k
  unfold gAll at e
  cases hq : blsOf ds with
  | none => rw [hq] at e; cases e
  | some ns =>
    rw [hq] at e; cases e
    exact ⟨p, ns, rfl, by rw [← Rps.bls rs hq]; exact sq, k _ _ _ .refl (.bl _) hs⟩
/-- rising -/
def insI (x : Int) : List Int → List Int
  | [] => [x]
  | y :: ys => if x ≤ y then x :: y :: ys else y :: insI x ys
def sortI : List Int → List Int
  | [] => []
  | x :: xs => insI x (sortI xs)
theorem insI_perm (x : Int) : ∀ ys, (insI x ys).Perm (x :: ys)
  | [] => .refl _
  | y :: ys => by
    unfold insI
    split
    · exact .refl _
    · exact ((insI_perm x ys).cons y).trans (.swap x y ys)
theorem sortI_perm : ∀ xs, (sortI xs).Perm xs
  | [] => .refl _
  | x :: xs => (insI_perm x _).trans ((sortI_perm xs).cons x)
theorem insI_sorted (x : Int) : ∀ ys, ys.Pairwise (· ≤ ·) → (insI x ys).Pairwise (· ≤ ·)
  | [], _ => by simp [insI]
  | y :: ys, h => by
    unfold insI
    rw [List.pairwise_cons] at h
    split
    · rename_i hxy
      rw [List.pairwise_cons]
      refine ⟨fun z hz => ?_, by rw [List.pairwise_cons]; exact h⟩
      rcases List.mem_cons.mp hz with rfl | hz
      · exact hxy
      · exact Int.le_trans hxy (h.1 z hz)
    · rename_i hxy
      rw [List.pairwise_cons]
      refine ⟨fun z hz => ?_, insI_sorted x ys h.2⟩
      rcases List.mem_cons.mp ((insI_perm x ys).mem_iff.mp hz) with rfl | hz
      · omega
      · exact h.1 z hz
theorem sortI_sorted : ∀ xs, (sortI xs).Pairwise (· ≤ ·)
  | [] => by simp [sortI]
  | x :: xs => insI_sorted x _ (sortI_sorted xs)
theorem sorted_one : ∀ {xs ys : List Int}, xs.Perm ys → xs.Pairwise (· ≤ ·) → ys.Pairwise (· ≤ ·) → xs = ys := by
  intro xs ys hp h1 h2
  exact hp.eq_of_pairwise (fun a b _ _ h h' => Int.le_antisymm h h') h1 h2
def gSorted (ds : List D) : Option (List D) := (intsOf ds).map fun ns => (sortI ns).map D.int
theorem qs_sorted {K : PySem.W.Frag} : QS K (RL K) (rSortedI K) gSorted := by
  intro mu H st p vs ds d Q hs sq rs e k
  unfold gSorted at e
  cases hq : intsOf ds with
  | none => rw [hq] at e; cases e
  | some ns =>
    rw [hq] at e; cases e
    refine ⟨p, ns, rfl, by rw [← Rps.ints rs hq]; exact sq, fun ns' p' hp hsd hn => ?_⟩
    have e1 : ns' = sortI ns := sorted_one (hp.trans (sortI_perm ns).symm) hsd (sortI_sorted ns)
    subst e1
    exact k _ _ _ (ext_new hn _) ⟨p', _, rfl, hn, upd_same, hs.fresh hn, Rps.of_ints _⟩ (hs.new hn _)
def gTupOf (ds : List D) : Option D := some (.tup ds)
theorem qs_tup {K : PySem.W.Frag} : QS K (RE K) (fun xs H Q => ∃ p ys, xs = [.ref p] ∧ ((SqL K H p ys ∧ ∀ l, H l = none → Q (.ref l) (upd H l (.tup ys))) ∨ (SqT K H p ys ∧ Q (.ref p) H))) gTupOf := by
  intro mu H st p vs ds d Q hs sq rs e k
  cases e
  exact ⟨p, vs, rfl, .inl ⟨sq, fun l hl => k _ _ _ (ext_new hl _) (.tup (.inl upd_same) (rs.ctx hl)) (hs.new hl _)⟩⟩
/-- l[i] of a list that is read (a new one) -/
def mItemQ (mr : Mo (List D)) (mb : Mo D) : Mo D := fun ev st => (mr ev st).bind fun ds st1 => (mb ev st1).bind fun d st2 => match d with
  | .int i => (match L2.atI ds i with
    | some z => .ok z st2
    | none => .bad)
  | _ => .bad
end Ml

namespace Ml
open PySem L2
variable {X : Cx} {W : Wx} {a b c e : Expr} {es rest : List Expr} {pos p q : Pos} {ma mb mc : Mo D} {mr : Mo (List D)} {ta tb : Mo Bool} {s1 s2 : Ms}
/-! ### statements -/
def mSkip : Ms := fun ev st => .ok (.nx, ev) st
def mSeq (s1 s2 : Ms) : Ms := fun ev st => match s1 ev st with
  | .ok (.nx, ev1) st1 => s2 ev1 st1
  | r => r
def mRet (m : Mo D) : Ms := fun ev st => (m ev st).bind fun d st1 => .ok (.rt d, ev) st1
def mRetN : Ms := fun ev st => .ok (.rt .non, ev) st
def mBreak : Ms := fun ev st => .ok (.bk, ev) st
def mSet (i : Nat) (m : Mo D) : Ms := fun ev st => (m ev st).bind fun d st1 => .ok (.nx, ev.set i (some d)) st1
def mIfS (t : Mo Bool) (s1 s2 : Ms) : Ms := fun ev st => (t ev st).bind fun b st1 => if b = true then s1 ev st1 else s2 ev st1
def mDrop (m : Mo D) : Ms := fun ev st => (m ev st).bind fun _ st1 => .ok (.nx, ev) st1
theorem mss_nil : PSs X [] (tS X.K W mSkip) := PSs.imp pss_nil fun D σ H ⟨mu, ev, st, he, hs, hp⟩ => hp _ _ _ .refl he hs
theorem PostS.seq {K : PySem.W.Frag} {mu : List Addr} {H : Hp} {s1 s2 : Ms} {ev : Ev} {st : Sto} {D : Ends} (h : PostS K W mu H (mSeq s1 s2 ev st) D) : PostS K W mu H (s1 ev st) { D with nx := tS K W s2 D } := by
  unfold mSeq at h
  cases hr : s1 ev st with
  | bad => rw [hr] at h; exact h
  | exc c e s => rw [hr] at h; exact h
  | ok r st1 =>
    obtain ⟨fl, ev1⟩ := r
    rw [hr] at h
    cases fl with
    | nx => exact fun mu' σ' H' e he hs => ⟨mu', ev1, st1, he, hs, PostS.from h e⟩
    | rt d => exact h
    | bk => exact h
    | ct => exact h
theorem mss_cons {s : Stmt} {r : List Stmt} (h1 : PS X s (tS X.K W s1)) (h2 : PSs X r (tS X.K W s2)) : PSs X (s :: r) (tS X.K W (mSeq s1 s2)) :=
  PSs.imp (pss_cons h1 h2) fun D σ H ⟨mu, ev, st, he, hs, hp⟩ => ⟨mu, ev, st, he, hs, PostS.seq hp⟩
theorem mss_one {s : Stmt} (h1 : PS X s (tS X.K W s1)) : PSs X [s] (tS X.K W s1) := pss_one h1
theorem ms_ret (h : PE X e (tE X.K W ma)) : PS X (.Return (some e) pos) (tS X.K W (mRet ma)) := by
  refine PS.imp (ps_ret h) fun D σ H ⟨mu, ev, st, he, hs, hp⟩ => ?_
  refine ⟨mu, ev, st, he, hs, hp.bind fun d st1 mu1 x H1 _ e1 r1 s1 hp1 => ?_⟩
  exact hp1 _ _ _ .refl (he.mono e1) s1 x r1
theorem ms_retN : PS X (.Return none pos) (tS X.K W mRetN) := PS.imp ps_retN fun D σ H ⟨mu, ev, st, he, hs, hp⟩ => hp _ _ _ .refl he hs .non .non
theorem ms_pass : PS X (.Pass pos) (tS X.K W mSkip) := PS.imp ps_pass fun D σ H ⟨mu, ev, st, he, hs, hp⟩ => hp _ _ _ .refl he hs
theorem ms_break : PS X (.Break pos) (tS X.K W mBreak) := PS.imp ps_break fun D σ H ⟨mu, ev, st, he, hs, hp⟩ => hp _ _ _ .refl he hs
theorem ms_set {i : Nat} {x : Str} {pos' : Pos} (hN : X.N.Nodup) (hi : X.N[i]? = some x) (hx : Loc X.env.scope x) (h : PE X e (tE X.K W ma)) (hs : swapsWith e (some (.Name x pos')) pos.line X.env = pure false := by rfl) (hf : X.fn x = true ∨ X.env.scope.names.lookup x = some .local := by first | exact .inl rfl | exact .inr rfl) :
    PS X (.Assign [.Name x pos'] e pos) (tS X.K W (mSet i ma)) := by
  refine PS.imp (ps_set hN hi hx h hs hf) fun D σ H ⟨mu, ev, st, he, hs, hp⟩ => ?_
  refine ⟨mu, ev, st, he, hs, hp.bind fun d st1 mu1 x H1 _ e1 r1 s1 hp1 => ?_⟩
  exact hp1 _ _ _ .refl ((he.mono e1).set r1 i) s1
theorem ms_if {A B : List Stmt} (hc : PT X c (tT X.K W ta)) (ha : PSs X A (tS X.K W s1)) (hb : PSs X B (tS X.K W s2)) : PS X (.If c A B pos) (tS X.K W (mIfS ta s1 s2)) := by
  refine PS.imp (ps_if hc ha hb) fun D σ H ⟨mu, ev, st, he, hs, hp⟩ => ?_
  refine ⟨mu, ev, st, he, hs, hp.bind fun d st1 mu1 x H1 _ e1 r1 s1 hp1 => ?_⟩
  obtain rfl : x = d := r1
  cases x with
  | true => exact ⟨mu1, ev, st1, he.mono e1, s1, hp1⟩
  | false => exact ⟨mu1, ev, st1, he.mono e1, s1, hp1⟩
theorem ms_expr (h : PE X e (tE X.K W ma)) (hs : swapsWith e none pos.line X.env = pure false := by rfl) : PS X (.Expr e pos) (tS X.K W (mDrop ma)) := by
  refine PS.imp (ps_expr h hs) fun D σ H ⟨mu, ev, st, he, hs, hp⟩ => ?_
  refine ⟨mu, ev, st, he, hs, hp.bind fun d st1 mu1 x H1 _ e1 r1 s1 hp1 => ?_⟩
  exact hp1 _ _ _ .refl (he.mono e1) s1
/-! ### targets -/
abbrev Gt := D → Ev → Option Ev
/-- slots beyond ws stand -/
def Frm (ws : List Nat) (σ σ' : L2.St) : Prop := σ'.length = σ.length ∧ ∀ i, i ∉ ws → σ'[i]? = σ[i]?
theorem Frm.trans {ws ws' : List Nat} {σ σ1 σ2 : L2.St} (a : Frm ws σ σ1) (b : Frm ws' σ1 σ2) : Frm (ws ++ ws') σ σ2 :=
  ⟨b.1.trans a.1, fun i h => by simp only [List.mem_append, not_or] at h; exact (b.2 i h.2).trans (a.2 i h.1)⟩
theorem frm_set (σ : L2.St) (i : Nat) (v : Option V) : Frm [i] σ (σ.set i v) := ⟨by simp, fun j h => by simp at h; exact List.getElem?_set_ne (Ne.symm h)⟩
def tGt (K : PySem.W.Frag) (ws : List Nat) (g : Gt) : TG := fun v σ H Q => ∃ mu d ev ev', Rp K H mu v d ∧ RelEv K H mu σ ev ∧ g d ev = some ev' ∧ ∀ σ', RelEv K H mu σ' ev' → Frm ws σ σ' → Q σ' H
abbrev Gts := List D → Ev → Option Ev
def tGts (K : PySem.W.Frag) (ws : List Nat) (g : Gts) : TGs := fun vs σ H Q => ∃ mu ds ev ev', Rps K H mu vs ds ∧ RelEv K H mu σ ev ∧ g ds ev = some ev' ∧ ∀ σ', RelEv K H mu σ' ev' → Frm ws σ σ' → Q σ' H
theorem PG.imp {t t' : TG} (h : PG X e t) (k : ∀ v σ H Q, t' v σ H Q → t v σ H Q) : PG X e t' := ⟨fun pins s σ H v u Q I r hw => h.run pins s σ H v u Q I r (k v σ H Q hw)⟩
theorem PGs.imp {t t' : TGs} (h : PGs X es t) (k : ∀ v σ H Q, t' v σ H Q → t v σ H Q) : PGs X es t' := ⟨fun pins s σ H v u Q I r hw => h.run pins s σ H v u Q I r (k v σ H Q hw)⟩
def gtName (i : Nat) : Gt := fun d ev => some (ev.set i (some d))
def gtsNil : Gts := fun ds ev => match ds with
  | [] => some ev
  | _ => none
def gtsCons (g : Gt) (gs : Gts) : Gts := fun ds ev => match ds with
  | d :: ds => (g d ev).bind (gs ds)
  | [] => none
def gtTup (n : Nat) (gs : Gts) : Gt := fun d ev => match d with
  | .tup ds => if ds.length = n then gs ds ev else none
  | _ => none
theorem mg_name {i : Nat} {x : Str} (hN : X.N.Nodup) (hi : X.N[i]? = some x) (hx : Loc X.env.scope x) (hf : X.fn x = true ∨ X.env.scope.names.lookup x = some .local := by first | exact .inl rfl | exact .inr rfl) : PG X (.Name x pos) (tGt X.K [i] (gtName i)) := by
  refine PG.imp (pg_name hN hi hx hf) fun v σ H Q ⟨mu, d, ev, ev', r, he, hg, hq⟩ => ?_
  cases hg
  exact hq _ (he.set r i) (frm_set _ _ _)
theorem mgs_nil : PGs X [] (tGts X.K [] gtsNil) := by
  refine PGs.imp pgs_nil fun vs σ H Q ⟨mu, ds, ev, ev', r, he, hg, hq⟩ => ?_
  cases r with
  | nil => cases hg; exact ⟨rfl, hq _ he ⟨rfl, fun _ _ => rfl⟩⟩
  | cons _ _ => cases hg
theorem mgs_cons {g : Gt} {gs : Gts} {ws ws' : List Nat} (h1 : PG X e (tGt X.K ws g)) (h2 : PGs X es (tGts X.K ws' gs)) (hs : (assignEach (e :: es) X.env).map (·.2) = assign e X.env :: (assignEach es X.env).map (·.2) := by rfl) : PGs X (e :: es) (tGts X.K (ws ++ ws') (gtsCons g gs)) := by
  refine PGs.imp (pgs_cons h1 h2 hs) fun vs σ H Q ⟨mu, ds, ev, ev', r, he, hg, hq⟩ => ?_
  cases r with
  | nil => cases hg
  | cons h hs =>
    simp only [gtsCons] at hg
    cases hg1 : g _ ev with
    | none => rw [hg1] at hg; cases hg
    | some ev1 =>
      rw [hg1] at hg
      exact ⟨_, _, rfl, mu, _, ev, ev1, h, he, hg1, fun σ' he' f' => ⟨mu, _, ev1, ev', hs, he', hg, fun σ'' he'' f'' => hq σ'' he'' (f'.trans f'')⟩⟩
theorem mg_tup {k n : Nat} {gs : Gts} {ws : List Nat} (hc : X.calm = true) (h : PGs X es (tGts X.K ws gs)) (hn : (assignEach es X.env).length = n := by rfl) (hst : (assignEach es X.env).findIdx? (·.1) = none := by rfl) : PG X (.Tuple es k pos) (tGt X.K ws (gtTup n gs)) := by
  refine PG.imp (pg_tup hc h hn hst) fun v σ H Q ⟨mu, d, ev, ev', r, he, hg, hq⟩ => ?_
  unfold gtTup at hg
  split at hg
  · split at hg
    · rename_i hl
      cases r with
      | tup ht hs => exact ⟨_, _, rfl, ht.sq, (Rps.length hs).trans hl, mu, _, ev, ev', hs, he, hg, hq⟩
    · cases hg
  · cases hg
def mAsg (m : Mo D) (g : Gt) : Ms := fun ev st => (m ev st).bind fun d st1 => match g d ev with
  | some ev' => .ok (.nx, ev') st1
  | none => .bad
theorem ms_asg {tg : Expr} {g : Gt} {ws : List Nat} (he : PE X e (tE X.K W ma)) (hg : PG X tg (tGt X.K ws g)) (hs : swapsWithSole [tg] e pos.line X.env = pure false := by rfl) (hw : swappedStores [tg] e X.env = pure none := by rfl)
    (h1 : (assignEach [tg] X.env).map (·.2) = [assign tg X.env] := by rfl) : PS X (.Assign [tg] e pos) (tS X.K W (mAsg ma g)) := by
  refine PS.imp (ps_asg he hg hs hw h1) fun D σ H ⟨mu, ev, st, he, hs, hp⟩ => ?_
  refine ⟨mu, ev, st, he, hs, hp.bind fun d st1 mu1 x H1 _ e1 r1 s1 hp1 => ?_⟩
  cases hgd : g d ev with
  | none => rw [hgd] at hp1; exact hp1.elim
  | some ev' =>
    rw [hgd] at hp1
    exact ⟨mu1, d, ev, ev', r1, he.mono e1, hgd, fun σ' he' _ => hp1 _ _ _ .refl he' s1⟩
/-- a, b = x, y -/
def mPar (i j : Nat) (mr : Mo (List D)) : Ms := fun ev st => (mr ev st).bind fun ds st1 => match ds with
  | [x, y] => .ok (.nx, (ev.set i (some x)).set j (some y)) st1
  | _ => .bad
theorem ms_par {i j : Nat} {x y : Str} {px py pt : Pos} {kt k2 : Nat} {pt2 : Pos} (hc : X.calm = true) (hN : X.N.Nodup) (hi : X.N[i]? = some x) (hj : X.N[j]? = some y) (hij : i ≠ j)
    (hx : X.env.scope.names.lookup x = some .local) (hy : X.env.scope.names.lookup y = some .local) (ha : PA X [a, b] (tA X.K W mr))
    (hw : swappedStores [.Tuple [.Name x px, .Name y py] kt pt] (.Tuple [a, b] k2 pt2) X.env = pure (some [x, y]))
    (hs : swapsWithSole [.Tuple [.Name x px, .Name y py] kt pt] (.Tuple [a, b] k2 pt2) pos.line X.env = pure false := by rfl) :
    PS X (.Assign [.Tuple [.Name x px, .Name y py] kt pt] (.Tuple [a, b] k2 pt2) pos) (tS X.K W (mPar i j mr)) := by
  refine PS.imp (ps_par hc hN hi hj hij hx hy ha hw hs) fun D σ H ⟨mu, ev, st, he, hs, hp⟩ => ?_
  refine ⟨mu, ev, st, he, hs, hp.bind fun ds st1 mu1 xs H1 _ e1 r1 s1 hp1 => ?_⟩
  split at hp1
  · cases r1 with
    | cons h1 h2 =>
      cases h2 with
      | cons h2 h3 =>
        cases h3
        exact ⟨_, _, rfl, hp1 _ _ _ .refl (((he.mono e1).set h1 i).set h2 j) s1⟩
  · exact hp1.elim
/-! ### what a loop walks -/
/-- the items ds in J's order, while inv holds; H0: where the walk began -/
structure IterOk (K : PySem.W.Frag) (H0 : Hp) (J : It) (ds : List D) (inv : Hp → List Addr → Prop) : Prop where
  go : ∀ (H : Hp) (mu : List Addr) (i : Nat) (x : D), inv H mu → ds[i]? = some x → J.go i H
  yld : ∀ (H : Hp) (mu : List Addr) (st : Sto) (i : Nat) (x : D) (v : V) (H' : Hp), RelSt K H mu st → inv H mu → ds[i]? = some x → J.yld i H v H' → Ext mu H mu H' ∧ Rp K H' mu v x ∧ RelSt K H' mu st
  stop : ∀ (H : Hp) (mu : List Addr), inv H mu → J.stop ds.length H
  keep : ∀ (H : Hp) (mu : List Addr) (H' : Hp) (mu' : List Addr), inv H mu → Ext mu H mu' H' → inv H' mu'
  tmp : ∀ (H : Hp) (mu : List Addr) (q : Addr) (l l' : List V), inv H mu → H0 q = none → H q = some (.lst l) → q ∉ mu → inv (upd H q (.lst l')) mu
def RI (K : PySem.W.Frag) : RR It (List D) := ⟨fun _ H mu _ J ds => ds.length ≤ lim ∧ ∃ inv, IterOk K H J ds inv ∧ inv H mu, fun _ h => h⟩
abbrev tI (K : PySem.W.Frag) (W : Wx) (m : Mo (List D)) : TI := tG K W (RI K) m
theorem PI.imp {tg : Expr} {t t' : TI} (h : PI X tg e t) (k : ∀ σ H R, t' σ H R → t σ H R) : PI X tg e t' := ⟨fun pins s σ H R I hw => h.run pins s σ H R I (k σ H R hw)⟩
def loop (g : Gt) (body : Ms) : List D → Ms
  | [] => fun ev st => .ok (.nx, ev) st
  | d :: ds => fun ev st => match g d ev with
    | none => .bad
    | some ev1 => match body ev1 st with
      | .ok (.nx, ev2) st2 => loop g body ds ev2 st2
      | .ok (.ct, ev2) st2 => loop g body ds ev2 st2
      | .ok (.bk, ev2) st2 => .ok (.nx, ev2) st2
      | .ok (.rt d, ev2) st2 => .ok (.rt d, ev2) st2
      | .bad => .bad
      | .exc c e s => .exc c e s
def mFor (mi : Mo (List D)) (g : Gt) (body : Ms) : Ms := fun ev st => (mi ev st).bind fun it st1 => loop g body it ev st1
theorem ms_for {tg : Expr} {body : List Stmt} {mi : Mo (List D)} {g : Gt} {ws : List Nat} (hp : PassesOwn (model X.prog X.w) X.A X.env X.xe) (hc : X.calm = true) (hi : PI X tg e (tI X.K W mi)) (hg : PG X tg (tGt X.K ws g)) (hb : PSs X body (tS X.K W s1))
    (hs : ∀ x, foldedSetIterable e X.env x = pure x := by intro _; rfl) : PS X (.For tg e body [] pos) (tS X.K W (mFor mi g s1)) := by
  refine PS.imp (ps_for hp hc hi hg hb hs) fun D σ H ⟨mu, ev, st, he, hs, hp⟩ => ?_
  refine ⟨mu, ev, st, he, hs, hp.bind fun it st1 mu1 J H1 _ e1 r1 s1' hp1 => ?_⟩
  obtain ⟨hl, inv, ok, hinv⟩ := r1
  refine ⟨fun i m σ H => m = it.length - i ∧ i ≤ it.length ∧ ∃ mu ev st, RelEv X.K H mu σ ev ∧ RelSt X.K H mu st ∧ inv H mu ∧ PostS X.K W mu H (loop g s1 (it.drop i) ev st) D, ⟨_, rfl, Nat.zero_le _, mu1, ev, st1, he.mono e1, s1', hinv, by simpa using hp1⟩, ?_⟩
  rintro i m σ H ⟨rfl, hi, mu, ev, st, he, hs, hinv, hp⟩
  by_cases hlt : i < it.length
  · have hx : it[i]? = some it[i] := List.getElem?_eq_getElem hlt
    refine .inr ⟨ok.go H mu i _ hinv hx, fun σ' H' => i + 1 ≤ it.length ∧ ∃ mu ev st, RelEv X.K H' mu σ' ev ∧ RelSt X.K H' mu st ∧ inv H' mu ∧ PostS X.K W mu H' (loop g s1 (it.drop (i + 1)) ev st) D, fun σ' H' h => ⟨_, by omega, rfl, h⟩, fun v H' y => ?_⟩
    obtain ⟨k1, k2, k3⟩ := ok.yld H mu st i _ v H' hs hinv hx y
    have k4 := ok.keep _ _ _ _ hinv k1
    have hp := PostS.from hp k1
    rw [List.drop_eq_getElem_cons hlt] at hp
    simp only [loop] at hp
    cases hg : g it[i] ev with
    | none => rw [hg] at hp; exact hp.elim
    | some ev1 =>
      rw [hg] at hp
      simp only at hp
      refine ⟨mu, _, ev, ev1, k2, he.mono k1, hg, fun σ' he' _ => ⟨mu, ev1, st, he', k3, ?_⟩⟩
      cases hb : s1 ev1 st with
      | bad => rw [hb] at hp; exact hp
      | exc c e s => rw [hb] at hp; exact hp
      | ok r st2 =>
        obtain ⟨fl, ev2⟩ := r
        rw [hb] at hp
        cases fl with
        | nx => exact fun mu' σ' H'' e' he' hs' => ⟨hlt, mu', ev2, st2, he', hs', ok.keep _ _ _ _ k4 e', PostS.from hp e'⟩
        | ct => exact fun mu' σ' H'' e' he' hs' => ⟨hlt, mu', ev2, st2, he', hs', ok.keep _ _ _ _ k4 e', PostS.from hp e'⟩
        | bk => exact hp
        | rt d => exact hp
  · have e0 : i = it.length := by omega
    subst e0
    rw [List.drop_length] at hp
    exact .inl ⟨ok.stop H mu hinv, hp _ _ _ .refl he hs⟩
/-- a tuple; numbers -/
def mItT (m : Mo D) : Mo (List D) := fun ev st => (m ev st).bind fun d st1 => match d with
  | .tup ds => if ds.length ≤ lim then .ok ds st1 else .bad
  | _ => .bad
theorem ne_tmp {H : Hp} {q : Addr} {l : List V} {a : Addr} {vs : List V} (h : H q = some (.lst l)) (ha : H a = some (.tup vs)) : a ≠ q := by
  intro e; subst e; rw [h] at ha; cases ha
theorem ext0_tmp {H : Hp} {mu : List Addr} {q : Addr} {l l' : List V} (h : H q = some (.lst l)) : Ext0 mu H mu (upd H q (.lst l')) :=
  ⟨⟨[], by simp⟩, fun a vs ha => by rw [upd_ne (ne_tmp h ha)]; exact ha, fun a o vs ha n => ⟨by rw [upd_ne (fun e => by subst e; rw [h] at ha; cases ha)]; exact ha, n⟩⟩
theorem RelSt.tmp {K : PySem.W.Frag} {H : Hp} {mu : List Addr} {st : Sto} (r : RelSt K H mu st) {q : Addr} {l l' : List V} (h : H q = some (.lst l)) (hn : q ∉ mu) : RelSt K (upd H q (.lst l')) mu st :=
  ⟨r.len, r.nd, fun i a o h1 h2 => (r.ob i a o h1 h2).mono0 (ext0_tmp h) (upd_ne fun e => hn (e ▸ List.mem_of_getElem? h1))⟩
theorem iter_tup {K : PySem.W.Frag} {H0 : Hp} {q : Addr} {vs : List V} {ds : List D} : IterOk K H0 (Itt K q) ds (fun H mu => TupAt K H q vs ∧ Rps K H mu vs ds) := by
  refine ⟨?_, ?_, ?_, ?_, ?_⟩
  · rintro H mu i x ⟨h1, h2⟩ hx
    obtain ⟨v, hv, _⟩ := h2.get hx
    exact ⟨vs, v, h1.sq, hv⟩
  · rintro H mu st i x v H' hst ⟨h1, h2⟩ hx ⟨e, hy⟩
    subst e
    obtain ⟨w, hw, rw'⟩ := h2.get hx
    have := hy vs h1.sq
    rw [hw] at this
    cases this
    exact ⟨.refl, rw', hst⟩
  · rintro H mu ⟨h1, h2⟩
    exact ⟨vs, h1.sq, Nat.le_of_eq (Rps.length h2)⟩
  · rintro H mu H' mu' ⟨h1, h2⟩ e
    exact ⟨e.tupAt h1, h2.mono e⟩
  · rintro H mu q' l l' ⟨h1, h2⟩ _ hq _
    exact ⟨(ext0_tmp (mu := mu) hq).tupAt h1, h2.mono0 (ext0_tmp hq)⟩
theorem mi_tup {tg : Expr} (h : PE X e (tE X.K W ma)) : PI X tg e (tI X.K W (mItT ma)) := by
  refine PI.imp (pi_tup h) fun σ H Q ⟨mu, ev, st, he, hs, hp⟩ => ?_
  refine ⟨mu, ev, st, he, hs, hp.bind fun d st1 mu1 x H1 _ e1 r1 s1 hp1 => ?_⟩
  split at hp1
  · split at hp1
    · rename_i hl
      cases r1 with
      | tup ht hr =>
        exact ⟨_, rfl, ⟨_, ht.sq⟩, hp1 _ _ _ .refl ⟨hl, _, iter_tup, ht, hr⟩ s1⟩
    · exact hp1.elim
  · exact hp1.elim
def rngD (lo : Int) (n : Nat) : List D := (List.range n).map fun i => D.int (lo + (i : Nat))
theorem rngD_get {lo : Int} {n i : Nat} {x : D} (h : (rngD lo n)[i]? = some x) : i < n ∧ x = .int (lo + (i : Nat)) := by
  unfold rngD at h
  rw [List.getElem?_map] at h
  cases hr : (List.range n)[i]? with
  | none => rw [hr] at h; cases h
  | some j =>
    rw [hr] at h
    obtain ⟨h1, h2⟩ := List.getElem?_eq_some_iff.mp hr
    rw [List.getElem_range] at h2
    subst h2
    rw [List.length_range] at h1
    simp only [Option.map_some, Option.some.injEq] at h
    exact ⟨h1, h.symm⟩
theorem rngD_len {lo : Int} {n : Nat} : (rngD lo n).length = n := by unfold rngD; simp
def mItR (mr : Mo (List D)) : Mo (List D) := fun ev st => (mr ev st).bind fun ds st1 => match ds with
  | [.int j] => if j.toNat ≤ lim ∧ -1000000000 ≤ j then .ok (rngD 0 j.toNat) st1 else .bad
  | _ => .bad
def mItR2 (mr : Mo (List D)) : Mo (List D) := fun ev st => (mr ev st).bind fun ds st1 => match ds with
  | [.int i, .int j] => if (j - i).toNat ≤ lim ∧ -1000000000 ≤ i ∧ i ≤ 1000000000 ∧ -1000000000 ≤ j ∧ j ≤ 1000000000 then .ok (rngD i (j - i).toNat) st1 else .bad
  | _ => .bad
theorem iter_rng {K : PySem.W.Frag} {H0 : Hp} {lo : Int} {n : Nat} : IterOk K H0 (Itr lo n) (rngD lo n) (fun _ _ => True) :=
  ⟨fun H mu i x _ hx => (rngD_get hx).1, fun H mu st i x v H' hst _ hx ⟨e1, e2⟩ => by
    obtain ⟨_, rfl⟩ := rngD_get hx
    subst e1; subst e2
    exact ⟨.refl, .int _, hst⟩, fun H mu _ => by show n ≤ (rngD lo n).length; rw [rngD_len]; exact Nat.le_refl _, fun _ _ _ _ _ _ => trivial, fun _ _ _ _ _ _ _ _ _ => trivial⟩
theorem mi_rng1 {tg : Expr} (hg : Gl X "range") (hm : X.mg "range" = none) (ha : PA X [a] (tA X.K W mr)) (hs : starEach [a] X.env = [(false, eval a X.env)] := by rfl) : PI X tg (.Call (.Name "range" p) [a] [] pos) (tI X.K W (mItR mr)) := by
  refine PI.imp (pi_range1 hg hm ha hs) fun σ H Q ⟨mu, ev, st, he, hs, hp⟩ => ?_
  refine ⟨mu, ev, st, he, hs, hp.bind fun ds st1 mu1 xs H1 _ e1 r1 s1 hp1 => ?_⟩
  split at hp1
  · split at hp1
    · rename_i hl
      cases r1 with
      | cons h1 h2 =>
        cases h2; cases h1
        exact ⟨_, rfl, by omega, by have := hl.1; unfold lim at this; omega, hp1 _ _ _ .refl ⟨by rw [rngD_len]; exact hl.1, _, iter_rng, trivial⟩ s1⟩
    · exact hp1.elim
  · exact hp1.elim
theorem mi_rng2 {tg : Expr} (hg : Gl X "range") (hm : X.mg "range" = none) (ha : PA X [a, b] (tA X.K W mr)) (hs : starEach [a, b] X.env = [(false, eval a X.env), (false, eval b X.env)] := by rfl) (hs2 : starEach [b] X.env = [(false, eval b X.env)] := by rfl) : PI X tg (.Call (.Name "range" p) [a, b] [] pos) (tI X.K W (mItR2 mr)) := by
  refine PI.imp (pi_range2 hg hm ha hs hs2) fun σ H Q ⟨mu, ev, st, he, hs, hp⟩ => ?_
  refine ⟨mu, ev, st, he, hs, hp.bind fun ds st1 mu1 xs H1 _ e1 r1 s1 hp1 => ?_⟩
  split at hp1
  · split at hp1
    · rename_i hl
      cases r1 with
      | cons h1 h2 =>
        cases h2 with
        | cons h2 h3 =>
          cases h3; cases h1; cases h2
          exact ⟨_, _, rfl, by omega, hp1 _ _ _ .refl ⟨by rw [rngD_len]; exact hl.1, _, iter_rng, trivial⟩ s1⟩
    · exact hp1.elim
  · exact hp1.elim
end Ml

namespace Ml
open PySem L2
variable {X : Cx} {W : Wx} {a b c e : Expr} {es rest : List Expr} {pos p q : Pos} {ma mb mc : Mo D} {mr : Mo (List D)} {ta tb : Mo Bool} {s1 s2 : Ms}
/-! ### comprehensions -/
def wipeD (ev : Ev) : List Nat → Ev
  | [] => ev
  | v :: vs => (wipeD ev vs).set v none
theorem wipeD_length (ev : Ev) : ∀ vs : List Nat, (wipeD ev vs).length = ev.length
  | [] => rfl
  | v :: vs => by unfold wipeD; rw [List.length_set, wipeD_length ev vs]
theorem wipeD_some {ev : Ev} {i : Nat} {x : D} : ∀ {vs : List Nat}, (wipeD ev vs)[i]? = some (some x) → ev[i]? = some (some x) ∧ i ∉ vs
  | [], h => ⟨h, by simp⟩
  | v :: vs, h => by
    unfold wipeD at h
    by_cases hi : v = i
    · subst hi
      by_cases hv : v < (wipeD ev vs).length
      · rw [List.getElem?_set_self hv] at h; cases h
      · rw [List.getElem?_eq_none (by simpa using hv)] at h; cases h
    · rw [List.getElem?_set_ne hi] at h
      obtain ⟨h1, h2⟩ := wipeD_some h
      exact ⟨h1, by simp only [List.mem_cons, not_or]; exact ⟨fun e => hi e.symm, h2⟩⟩
theorem RelEv.wipe {K : PySem.W.Frag} {H : Hp} {mu : List Addr} {σ : L2.St} {ev : Ev} (r : RelEv K H mu σ ev) (vs : List Nat) : RelEv K H mu (wipe σ vs) (wipeD ev vs) := by
  refine ⟨by rw [wipe_length, wipeD_length, r.1], fun i d h => ?_⟩
  obtain ⟨h1, h2⟩ := wipeD_some h
  obtain ⟨v, hv, rv⟩ := r.2 i d h1
  exact ⟨v, by rw [wipe_out h2]; exact hv, rv⟩
theorem wipe_at {σ : L2.St} {i : Nat} : ∀ {vs : List Nat}, i ∈ vs → (wipe σ vs)[i]? = if i < σ.length then some none else none
  | [], h => by simp at h
  | v :: vs, h => by
    unfold L2.wipe
    by_cases hi : v = i
    · subst hi
      by_cases hv : v < σ.length
      · rw [List.getElem?_set_self (by rw [wipe_length]; exact hv), if_pos hv]
      · rw [List.getElem?_eq_none (by rw [List.length_set, wipe_length]; omega), if_neg hv]
    · rw [List.getElem?_set_ne hi]
      exact wipe_at (by rcases List.mem_cons.mp h with h | h; exact absurd h.symm hi; exact h)
theorem wipe_frm {ws vs : List Nat} {σ σ' : L2.St} (f : Frm ws σ σ') (h : ∀ i ∈ ws, i ∈ vs) : wipe σ' vs = wipe σ vs := by
  apply List.ext_getElem?
  intro i
  by_cases hi : i ∈ vs
  · rw [wipe_at hi, wipe_at hi, f.1]
  · rw [wipe_out hi, wipe_out hi]
    exact f.2 i fun z => hi (h i z)
theorem wipe_wipe {vs : List Nat} {σ : L2.St} : wipe (wipe σ vs) vs = wipe σ vs := by
  apply List.ext_getElem?
  intro i
  by_cases hi : i ∈ vs
  · rw [wipe_at hi, wipe_at hi, wipe_length]
  · rw [wipe_out hi]
def lcLoop (g : Gt) (t : Mo Bool) (m : Mo D) : List D → Ev → Sto → Rs (List D)
  | [], _, st => .ok [] st
  | d :: ds, ev, st => match g d ev with
    | none => .bad
    | some ev1 => match t ev1 st with
      | .ok true st1 => (match m ev1 st1 with
        | .ok y st2 => (match lcLoop g t m ds ev st2 with
          | .ok ys st3 => .ok (y :: ys) st3
          | _ => .bad)
        | _ => .bad)
      | .ok false st1 => lcLoop g t m ds ev st1
      | _ => .bad
def mLc (vs : List Nat) (mi : Mo (List D)) (g : Gt) (t : Mo Bool) (m : Mo D) : Mo (List D) := fun ev st => (mi ev st).bind fun it st1 => lcLoop g t m it (wipeD ev vs) st1
abbrev W0 : Wx := fun _ _ _ => False
def mYes : Mo Bool := fun _ st => .ok true st
theorem mts_nil : PTs X [] (tT X.K W0 mYes) := ⟨fun pins s σ H Q I ⟨mu, ev, st, he, hs, hp⟩ => pts_nil.run pins s σ H Q I (hp _ _ _ .refl rfl hs)⟩
theorem mts_one (h : PT X c (tT X.K W0 ta)) : PTs X [c] (tT X.K W0 ta) := pts_one h
theorem ext_tmp {mu0 mu : List Addr} {H0 H : Hp} {q : Addr} {o : HO} (e : Ext mu0 H0 mu H) (h : H0 q = none) : Ext mu0 H0 mu (upd H q o) :=
  ⟨e.pre, fun a vs ha => by rw [upd_ne (ne_of_none ha h)]; exact e.tup a vs ha, fun a u ha n => ⟨by rw [upd_ne (ne_of_none ha h)]; exact (e.keep a u ha n).1, (e.keep a u ha n).2⟩, fun a ha => e.dom a (upd_dom a ha), fun a ob u ha => by rw [upd_ne (ne_of_none ha h)]; exact e.frz a ob u ha⟩
theorem lc_go {own : List Nat} {mi : Mo (List D)} {g : Gt} {ws : List Nat} {σ : L2.St} {H : Hp} {Q : VK} {K : PySem.W.Frag} {ta : Mo Bool} {ma : Mo D} (hw : ∀ i ∈ ws, i ∈ own) (h : tL K W (mLc own mi g ta ma) σ H Q) : tLc (tI K W mi) (tGt K ws g) (tT K W0 ta) (tE K W0 ma) own σ H Q := by
  obtain ⟨mu, ev, st, he, hst, hp⟩ := h
  refine ⟨mu, ev, st, he, hst, hp.bind fun it st1 mu1 J H1 _ e1 r1 s1 hp1 => ?_⟩
  obtain ⟨hl, inv, ok, hinv⟩ := r1
  intro q hq
  -- the invariant of the turns
  let fin (acc : List D) (r : Rs (List D)) (mu' : List Addr) (H' : Hp) : Prop := match r with
    | .ok ys st' => ∀ mu2 vs H2, Ext mu1 H1 mu2 H2 → H2 q = some (.lst vs) → q ∉ mu2 → Rps K H2 mu2 vs (acc ++ ys) → RelSt K H2 mu2 st' → Q (.ref q) H2
    | _ => False
  have start : fin [] (lcLoop g ta ma it (wipeD ev own) st1) mu1 H1 := by
    show (match lcLoop g ta ma it (wipeD ev own) st1 with
    | .ok ys st' => ∀ mu2 vs H2, Ext mu1 H1 mu2 H2 → H2 q = some (.lst vs) → q ∉ mu2 → Rps K H2 mu2 vs ([] ++ ys) → RelSt K H2 mu2 st' → Q (.ref q) H2
    | _ => False)
    have noexc : ∀ (it : List D) (evw : Ev) (st : Sto) (c : Str) (e : Ev) (s : Sto), lcLoop g ta ma it evw st ≠ .exc c e s := by
      intro it
      induction it with
      | nil => intro evw st c e s h; cases h
      | cons d ds ih =>
        intro evw st c e s h
        simp only [lcLoop] at h
        split at h
        · cases h
        · split at h
          · split at h
            · split at h <;> cases h
            · cases h
          · exact ih _ _ _ _ _ h
          · cases h
    cases hr : lcLoop g ta ma it (wipeD ev own) st1 with
    | bad => rw [hr] at hp1; exact hp1
    | exc c e s => exact absurd hr (noexc _ _ _ _ _ _)
    | ok ys st' =>
      rw [hr] at hp1
      exact fun mu2 vs H2 e2 h2 n2 r2 s2 => hp1 mu2 (.ref q) H2 e2 ⟨q, vs, rfl, hq, h2, n2, r2⟩ s2
  refine ⟨fun i m H => m = it.length - i ∧ i ≤ it.length ∧ ∃ mu st acc vs, Ext mu1 H1 mu H ∧ RelSt K H mu st ∧ inv H mu ∧ H q = some (.lst vs) ∧ q ∉ mu ∧ Rps K H mu vs acc ∧ acc.length ≤ i ∧ fin acc (lcLoop g ta ma (it.drop i) (wipeD ev own) st) mu H,
    ⟨_, rfl, Nat.zero_le _, mu1, st1, [], [], ext_new hq _, s1.new hq _, ok.keep _ _ _ _ hinv (ext_new hq _), upd_same, s1.fresh hq, .nil, Nat.le_refl _, start⟩, ?_⟩
  rintro i m H ⟨rfl, hi, mu, st, acc, vs, eE, hs, hinv, hqv, hqn, hr, hal, hf⟩
  have heW : RelEv K H mu (wipe σ own) (wipeD ev own) := ((he.mono e1).mono eE).wipe own
  by_cases hlt : i < it.length
  · have hx : it[i]? = some it[i] := List.getElem?_eq_getElem hlt
    refine .inr ⟨ok.go H mu i _ hinv hx, fun H' => i + 1 ≤ it.length ∧ ∃ mu st acc vs, Ext mu1 H1 mu H' ∧ RelSt K H' mu st ∧ inv H' mu ∧ H' q = some (.lst vs) ∧ q ∉ mu ∧ Rps K H' mu vs acc ∧ acc.length ≤ i + 1 ∧ fin acc (lcLoop g ta ma (it.drop (i + 1)) (wipeD ev own) st) mu H', fun H' h => ⟨_, by omega, rfl, h⟩, fun v H' y => ?_⟩
    obtain ⟨k1, k2, k3⟩ := ok.yld H mu st i _ v H' hs hinv hx y
    have k4 := ok.keep _ _ _ _ hinv k1
    have hqv' := k1.keep q _ hqv hqn
    rw [List.drop_eq_getElem_cons hlt] at hf
    simp only [lcLoop] at hf
    cases hgd : g it[i] (wipeD ev own) with
    | none => rw [hgd] at hf; exact hf.elim
    | some ev1 =>
      rw [hgd] at hf
      simp only at hf
      refine ⟨mu, _, wipeD ev own, ev1, k2, heW.mono k1, hgd, fun σ' he' fr => ⟨by rw [wipe_frm fr hw, wipe_wipe], mu, ev1, st, he', k3, ?_⟩⟩
      cases ht : ta ev1 st with
      | bad => rw [ht] at hf; exact hf
      | exc c e s => rw [ht] at hf; exact hf.elim
      | ok bb st2 =>
        rw [ht] at hf
        intro mu2 b2 H2 e2 rb s2
        obtain rfl : b2 = bb := rb
        have q2 := e2.keep q _ hqv'.1 hqv'.2
        cases b2 with
        | false =>
          exact iteF ⟨hlt, mu2, st2, acc, vs, (eE.trans k1).trans e2, s2, ok.keep _ _ _ _ k4 e2, q2.1, q2.2, hr.mono (k1.trans e2), by omega, hf⟩
        | true =>
          refine iteT ⟨mu2, ev1, st2, he'.mono e2, s2, ?_⟩
          simp only at hf
          cases hm : ma ev1 st2 with
          | bad => rw [hm] at hf; exact hf
          | exc c e s => rw [hm] at hf; exact hf.elim
          | ok yd st3 =>
            rw [hm] at hf
            intro mu3 yv H3 e3 r3 s3
            have q3 := e3.keep q _ q2.1 q2.2
            have hr3 : Rps K H3 mu3 vs acc := hr.mono ((k1.trans e2).trans e3)
            refine ⟨vs, q3.1, by rw [Rps.length hr3]; exact lim_lt (by omega), hlt, mu3, st3, acc ++ [yd], vs ++ [yv], ext_tmp (((eE.trans k1).trans e2).trans e3) hq, s3.tmp q3.1 q3.2, ok.tmp _ _ _ _ _ (ok.keep _ _ _ _ k4 (e2.trans e3)) hq q3.1 q3.2, upd_same, q3.2, ?_, by simp; omega, ?_⟩
            · exact (hr3.append (.cons r3 .nil)).mono0 (ext0_tmp q3.1)
            · simp only at hf
              cases hL : lcLoop g ta ma (it.drop (i + 1)) (wipeD ev own) st3 with
              | bad => rw [hL] at hf; exact hf
              | exc c e s => rw [hL] at hf; exact hf.elim
              | ok ys st4 =>
                rw [hL] at hf
                intro mu4 ws H4 e4 h4 n4 r4 s4
                refine hf mu4 ws H4 e4 h4 n4 ?_ s4
                simpa using r4
  · have e0 : i = it.length := by omega
    subst e0
    rw [List.drop_length] at hf
    refine .inl ⟨ok.stop H mu hinv, hf mu vs H eE hqv hqn ?_ hs⟩
    simpa using hr
theorem ml_lc {elt tg iter : Expr} {ifs : List Expr} {scope : Scope} {own : List (Str × Nat)} {mi : Mo (List D)} {g : Gt} {ws : List Nat} (hc : X.calm = true) (hN : X.N.Nodup) (hi : PI X tg iter (tI X.K W mi)) (ok : BlkOk X.N X.env.scope scope own) (hw : ∀ i ∈ ws, i ∈ own.map (·.2))
    (hg : ∀ (s : Shared) (H : Hp) (C : Addr) (cl : List (Str × Addr)) (fp : List Addr), PG (X.blk s H scope (compEnvC scope cl C X.env) fp) tg (tGt X.K ws g)) (ht : ∀ (s : Shared) (H : Hp) (C : Addr) (cl : List (Str × Addr)) (fp : List Addr), PTs (X.blk s H scope (compEnvC scope cl C X.env) fp) ifs (tT X.K W0 ta))
    (he : ∀ (s : Shared) (H : Hp) (C : Addr) (cl : List (Str × Addr)) (fp : List Addr), PE (X.blk s H scope (compEnvC scope cl C X.env) fp) elt (tE X.K W0 ma)) (hs : ∀ x, foldedSetIterable iter X.env x = pure x := by intro _; rfl) :
    PE X (.ListComp elt [⟨tg, iter, ifs, 0⟩] scope pos) (tL X.K W (mLc (own.map (·.2)) mi g ta ma)) := by
  refine PE.imp (pe_lc hc hN hi ok hg ht he hs) fun σ H Q h => ?_
  exact lc_go hw h
/-! ### zip of two tuples -/
def zipD : List D → List D → List D
  | x :: xs, y :: ys => .tup [x, y] :: zipD xs ys
  | _, _ => []
theorem zipD_len : ∀ xs ys, (zipD xs ys).length = min xs.length ys.length
  | [], _ => by simp [zipD]
  | _ :: _, [] => by simp [zipD]
  | x :: xs, y :: ys => by simp [zipD, zipD_len xs ys]
theorem zipD_get : ∀ {xs ys : List D} {i : Nat} {z : D}, (zipD xs ys)[i]? = some z → ∃ x y, xs[i]? = some x ∧ ys[i]? = some y ∧ z = .tup [x, y]
  | [], ys, i, z, h => by simp [zipD] at h
  | _ :: _, [], i, z, h => by simp [zipD] at h
  | x :: xs, y :: ys, 0, z, h => by simp [zipD] at h; exact ⟨x, y, rfl, rfl, h.symm⟩
  | x :: xs, y :: ys, i + 1, z, h => by
    simp only [zipD, List.getElem?_cons_succ] at h
    obtain ⟨a, b, h1, h2, h3⟩ := zipD_get h
    exact ⟨a, b, by simpa using h1, by simpa using h2, h3⟩
def mZip (mr : Mo (List D)) : Mo (List D) := fun ev st => (mr ev st).bind fun ds st1 => match ds with
  | [.tup xs, .tup ys] => if (zipD xs ys).length ≤ lim then .ok (zipD xs ys) st1 else .bad
  | _ => .bad
theorem iter_zip {K : PySem.W.Frag} {H0 : Hp} {q r : Addr} {vs ws : List V} {xs ys : List D} : IterOk K H0 (RZ.ItzT K q r) (zipD xs ys) (fun H mu => TupAt K H q vs ∧ Rps K H mu vs xs ∧ TupAt K H r ws ∧ Rps K H mu ws ys) := by
  refine ⟨?_, ?_, ?_, ?_, ?_⟩
  · rintro H mu i z ⟨h1, h2, h3, h4⟩ hz
    obtain ⟨x, y, hx, hy, rfl⟩ := zipD_get hz
    obtain ⟨v, hv, _⟩ := h2.get hx
    obtain ⟨w, hw, _⟩ := h4.get hy
    exact ⟨vs, ws, v, w, h1.sq, h3.sq, hv, hw⟩
  · rintro H mu st i z v H' hst ⟨h1, h2, h3, h4⟩ hz ⟨T, x', y', rfl, hT, rfl, hx', hy'⟩
    obtain ⟨x, y, hx, hy, rfl⟩ := zipD_get hz
    obtain ⟨v, hv, rv⟩ := h2.get hx
    obtain ⟨w, hw, rw'⟩ := h4.get hy
    have e1 := hx' vs h1.sq
    rw [hv] at e1; cases e1
    have e2 := hy' ws h3.sq
    rw [hw] at e2; cases e2
    exact ⟨ext_new hT _, .tup (.inl upd_same) (.cons (rv.mono (ext_new hT _)) (.cons (rw'.mono (ext_new hT _)) .nil)), hst.new hT _⟩
  · rintro H mu ⟨h1, h2, h3, h4⟩
    refine ⟨vs, ws, h1.sq, h3.sq, ?_⟩
    rw [zipD_len, Rps.length h2, Rps.length h4]
    omega
  · rintro H mu H' mu' ⟨h1, h2, h3, h4⟩ e
    exact ⟨e.tupAt h1, h2.mono e, e.tupAt h3, h4.mono e⟩
  · rintro H mu q' l l' ⟨h1, h2, h3, h4⟩ _ hq _
    exact ⟨(ext0_tmp (mu := mu) hq).tupAt h1, h2.mono0 (ext0_tmp hq), (ext0_tmp (mu := mu) hq).tupAt h3, h4.mono0 (ext0_tmp hq)⟩
theorem mi_zip {e2 : Expr} {tpos : Pos} {elts : List Expr} {kk : Nat} (hg : Gl X "zip") (hm : X.mg "zip" = none) (ha : PA X [e, e2] (tA X.K W mr))
    (hs : starEach [e, e2] X.env = (false, eval e X.env) :: starEach [e2] X.env := by rfl) (hpl : (backTo pos (starEach [e2] X.env)).any (·.1) = false := by rfl) :
    PI X (.Tuple elts kk tpos) (.Call (.Name "zip" p) [e, e2] [] pos) (tI X.K W (mZip mr)) := by
  refine PI.imp (RZ.pi_zipA hg hm ha hs hpl) fun σ H Q ⟨mu, ev, st, he, hs, hp⟩ => ?_
  refine ⟨mu, ev, st, he, hs, hp.bind fun ds st1 mu1 xs H1 _ e1 r1 s1 hp1 => ?_⟩
  split at hp1
  · split at hp1
    · rename_i hl
      cases r1 with
      | cons h1 h2 =>
        cases h2 with
        | cons h2 h3 =>
          cases h3
          cases h1 with
          | tup t1 r1 =>
            cases h2 with
            | tup t2 r2 =>
              exact ⟨_, _, _, _, rfl, .inr ⟨t1.sq, t2.sq, hp1 _ _ _ .refl ⟨hl, _, iter_zip, t1, r1, t2, r2⟩ s1⟩⟩
    · exact hp1.elim
  · exact hp1.elim
/-! ### the call of a def -/
def PostV (K : PySem.W.Frag) (mu : List Addr) (H : Hp) (r : Rs D) (Q : VK) : Prop := match r with
  | .ok d st' => ∀ mu' v H', Ext mu H mu' H' → Rp K H' mu' v d → RelSt K H' mu' st' → Q v H'
  | _ => False
abbrev Fm := List D → Sto → Rs D
/-- what a def promises that does what c does of its arguments' data (and lets nothing out) -/
def spM (K : PySem.W.Frag) (n : Nat) (c : Fm) : Sp := fun vs H Q _ => vs.length = n ∧ ∃ mu ds st, Rps K H mu vs ds ∧ RelSt K H mu st ∧ PostV K mu H (c ds st) Q
def mCall (c : Fm) (mr : Mo (List D)) : Mo D := fun ev st => (mr ev st).bind fun ds st1 => match c ds st1 with
  | .ok d st2 => .ok d st2
  | _ => .bad
theorem call_go {n : Nat} {c : Fm} {σ : L2.St} {H : Hp} {Q : VK} {K : PySem.W.Frag} (hl : ∀ ds st d st', c ds st = .ok d st' → ds.length = n) (h : tE K W (mCall c mr) σ H Q) : tCall (spM K n c) [] E0 (tA K W mr) σ H Q := by
  obtain ⟨mu, ev, st, he, hst, hp⟩ := h
  refine ⟨mu, ev, st, he, hst, hp.bind fun ds st1 mu1 xs H1 _ e1 r1 s1 hp1 => ?_⟩
  rw [List.append_nil]
  cases hc : c ds st1 with
  | bad => rw [hc] at hp1; exact hp1.elim
  | exc _ _ _ => rw [hc] at hp1; exact hp1.elim
  | ok d st2 =>
    rw [hc] at hp1
    refine ⟨(Rps.length r1).trans (hl _ _ _ _ hc), mu1, ds, st1, r1, s1, ?_⟩
    rw [hc]
    exact hp1
theorem me_call {k n : Nat} {f : Addr} {fd : FuncData} {ps : List Str} {c : Fm} {x : Str} (hl : ∀ ds st d st', c ds st = .ok d st' → ds.length = n) (F : FnOk X.prog X.w X.K X.mg X.base CX0 k f fd ps (spM X.K n c)) (hr : Room k X.A) (hg : Gl X x) (hm : X.mg x = some (.ref f)) (hk : PySem.W.keepIn X.K (.ref f) = true) (hb : Binds X.K fd ps [])
    (ha : PA X (e :: es) (tA X.K W mr)) (hdb : (x == ("__debug__" : Str)) = false := by decide) (he : starEach (e :: es) X.env = (false, eval e X.env) :: starEach es X.env := by rfl) (hpl : (backTo pos (starEach es X.env)).any (·.1) = false := by rfl) :
    PE X (.Call (.Name x p) (e :: es) [] pos) (tE X.K W (mCall c mr)) :=
  PE.imp (pe_call F hr hg hm hk hb .nil pass0 ha hdb he hpl) fun _ _ _ h => call_go hl h
/-- f() -/
theorem me_call0 {k : Nat} {f : Addr} {fd : FuncData} {ps : List Str} {c : Fm} {x : Str} (hl : ∀ ds st d st', c ds st = .ok d st' → ds.length = 0) (F : FnOk X.prog X.w X.K X.mg X.base CX0 k f fd ps (spM X.K 0 c)) (hr : Room k X.A) (hg : Gl X x) (hm : X.mg x = some (.ref f)) (hk : PySem.W.keepIn X.K (.ref f) = true) (hb : Binds X.K fd ps [])
    (hdb : (x == ("__debug__" : Str)) = false := by decide) : PE X (.Call (.Name x p) [] [] pos) (tE X.K W (mCall c mNil)) := by
  refine PE.imp (pe_call0 F hr hg hm hk hb .nil pass0 hdb) fun σ H Q h => ?_
  have := call_go hl h
  obtain ⟨mu, ev, st, he, hst, hp⟩ := this
  exact hp _ _ _ .refl .nil hst
/-! ### a def's body -/
def fnM (n k : Nat) (body : Ms) : Fm := fun ds st => if ds.length = n then (match body (ds.map some ++ List.replicate (k - n) none) st with
  | .ok (.rt d, _) st' => .ok d st'
  | .ok (.nx, _) st' => .ok .non st'
  | _ => .bad) else .bad
theorem fnM_len {n k : Nat} {body : Ms} {ds : List D} {st : Sto} {d : D} {st' : Sto} (h : fnM n k body ds st = .ok d st') : ds.length = n := by
  unfold fnM at h
  split at h
  · assumption
  · cases h
theorem rel_start {K : PySem.W.Frag} {H : Hp} {mu : List Addr} {N : List Str} {vs : List V} {ds : List D} (h : Rps K H mu vs ds) : RelEv K H mu (start N vs) (ds.map some ++ List.replicate (N.length - ds.length) none) := by
  have hl := Rps.length h
  refine ⟨by unfold L2.start; simp [hl], fun i d q => ?_⟩
  by_cases hi : i < ds.length
  · rw [List.getElem?_append_left (by simpa using hi), List.getElem?_map] at q
    cases hd : ds[i]? with
    | none => rw [hd] at q; cases q
    | some d' =>
      rw [hd] at q
      simp only [Option.map_some, Option.some.injEq] at q
      subst q
      obtain ⟨v, hv, r⟩ := h.get hd
      refine ⟨v, ?_, r⟩
      unfold L2.start
      rw [List.getElem?_append_left (by rw [List.length_map, hl]; exact hi), List.getElem?_map, hv]
      rfl
  · rw [List.getElem?_append_right (by simpa using hi)] at q
    rw [List.getElem?_replicate] at q
    split at q <;> cases q
theorem fn_go {K : PySem.W.Frag} {N : List Str} {n k : Nat} {body : Ms} {vs : List V} {H : Hp} {Q : VK} {E : XK} (hk : N.length = k) (h : spM K n (fnM n k body) vs H Q E) : tS K W0 body { nx := fun _ H' => Q .non H', rt := Q } (start N vs) H := by
  obtain ⟨hl, mu, ds, st, hr, hs, hp⟩ := h
  have hd : ds.length = n := (Rps.length hr).symm.trans hl
  have hst := rel_start (N := N) hr
  rw [hk, hd] at hst
  refine ⟨mu, _, st, hst, hs, ?_⟩
  unfold fnM at hp
  rw [if_pos hd] at hp
  cases hb : body (ds.map some ++ List.replicate (k - n) none) st with
  | bad => rw [hb] at hp; exact hp
  | exc c e s => rw [hb] at hp; exact hp.elim
  | ok r st' =>
    obtain ⟨fl, ev'⟩ := r
    rw [hb] at hp
    cases fl with
    | nx => exact fun mu' σ' H' e he hs => hp mu' .non H' e .non hs
    | rt d => exact fun mu' σ' H' e he hs v rv => hp mu' v H' e rv hs
    | bk => exact hp.elim
    | ct => exact hp.elim
/-- a def of the text whose body reads as m keeps the promise of m -/
theorem fn_ok {P : Program} {w : World} {K : PySem.W.Frag} {mg : Str → Option Value} {base : Heap} {x qual : Str} {st : Stmt} {f : Addr} {fd : FuncData} {N ps : List Str} {k n : Nat} {body : Ms} (F : Fun K x qual st f fd) (S : FnScope N ps (defScope st)) (hn : ps.length = n)
    (hb : ∀ (cdv : Value) (A : Around) (outer : List Env) (s : Shared) (H : Hp) (E : XK), Room k (A.deeper (PyProof.Rows.envOfC qual (defScope st) s.heap.objs.size f cdv)) → PSs (cxOf CX0 P w K mg base N qual (defScope st) f cdv A outer s H E).nox (defBody st) (tS K W0 body)) :
    FnOk P w K mg base CX0 (k + 1) f fd ps (spM K n (fnM n N.length body)) := by
  refine F.ok S (fun vs H Q E h => h.1.trans hn.symm) (fun cdv A outer s H vs Q E hr h => ⟨_, hb cdv A outer s H E hr, fn_go rfl h⟩)
theorem fn_zero {P : Program} {w : World} {K : PySem.W.Frag} {mg : Str → Option Value} {base : Heap} {f : Addr} {fd : FuncData} {ps : List Str} {n : Nat} : FnOk P w K mg base CX0 0 f fd ps (spM K n fun _ _ => .bad) := by
  have no : ∀ vs H Q E, ¬ spM K n (fun _ _ => .bad) vs H Q E := fun vs H Q E ⟨_, _, _, _, _, _, h⟩ => h
  exact ⟨fun vs H Q E h => absurd h (no vs H Q E), fun A outer s H args us vs Q E _ _ _ _ h => absurd h (no vs H Q E)⟩
end Ml

namespace Ml
open PySem L2
variable {X : Cx} {W : Wx} {a b c e : Expr} {es rest : List Expr} {pos p q : Pos} {ma mb mc : Mo D} {mr : Mo (List D)} {ta tb : Mo Bool} {s1 s2 : Ms}
/-! ### dicts -/
section
variable {κ : Type} [DecidableEq κ]
def valD (kvs : List (κ × D)) (k : κ) : Option D := (kvs.find? fun kv => decide (kv.1 = k)).map (·.2)
def putD (kvs : List (κ × D)) (k : κ) (v : D) : List (κ × D) :=
  if kvs.any fun kv => decide (kv.1 = k) then kvs.map fun kv => if kv.1 = k then (kv.1, v) else kv else kvs ++ [(k, v)]
theorem KD.length {K : PySem.W.Frag} {H : Hp} {mu : List Addr} {ws : List (κ × V)} {kvs : List (κ × D)} (h : KD K H mu ws kvs) : ws.length = kvs.length := Paired.length h
theorem KD.val {K : PySem.W.Frag} {H : Hp} {mu : List Addr} {ws : List (κ × V)} {kvs : List (κ × D)} (h : KD K H mu ws kvs) (k : κ) : (∃ v d, valV ws k = some v ∧ valD kvs k = some d ∧ Rp K H mu v d) ∨ (valV ws k = none ∧ valD kvs k = none) := by
  unfold KD at h
  induction h with
  | nil => exact .inr ⟨rfl, rfl⟩
  | cons r t ih =>
    rename_i p q _ _
    obtain ⟨e, r⟩ := r
    unfold valV valD at ih ⊢
    by_cases hk : p.1 = k
    · have hq : q.1 = k := e ▸ hk
      rw [List.find?_cons_of_pos (by simpa using hk), List.find?_cons_of_pos (by simpa using hq)]
      exact .inl ⟨_, _, rfl, rfl, r⟩
    · have hq : ¬ q.1 = k := e ▸ hk
      rw [List.find?_cons_of_neg (by simpa using hk), List.find?_cons_of_neg (by simpa using hq)]
      exact ih
theorem KD.any {K : PySem.W.Frag} {H : Hp} {mu : List Addr} {ws : List (κ × V)} {kvs : List (κ × D)} (h : KD K H mu ws kvs) (k : κ) : (ws.any fun kv => decide (kv.1 = k)) = kvs.any fun kv => decide (kv.1 = k) := by
  unfold KD at h
  induction h with
  | nil => rfl
  | cons r t ih => rw [List.any_cons, List.any_cons, ih, r.1]
theorem paired_append {α β : Type} {R : α → β → Prop} : ∀ {xs : List α} {ys : List β} {xs' : List α} {ys' : List β}, Paired R xs ys → Paired R xs' ys' → Paired R (xs ++ xs') (ys ++ ys')
  | _, _, _, _, .nil, h => h
  | _, _, _, _, .cons r t, h => .cons r (paired_append t h)
theorem paired_map {α β γ δ : Type} {R : α → β → Prop} {S : γ → δ → Prop} {f : α → γ} {g : β → δ} : ∀ {xs : List α} {ys : List β}, Paired R xs ys → (∀ x y, R x y → S (f x) (g y)) → Paired S (xs.map f) (ys.map g)
  | _, _, .nil, _ => .nil
  | _, _, .cons r t, h => .cons (h _ _ r) (paired_map t h)
theorem KD.put {K : PySem.W.Frag} {H : Hp} {mu : List Addr} {ws : List (κ × V)} {kvs : List (κ × D)} (h : KD K H mu ws kvs) (k : κ) {v : V} {d : D} (r : Rp K H mu v d) : KD K H mu (putK ws k v) (putD kvs k d) := by
  unfold putK putD
  rw [h.any k]
  split
  · refine paired_map h fun p q r' => ?_
    by_cases hk : p.1 = k
    · have hq : q.1 = k := r'.1 ▸ hk
      rw [if_pos hk, if_pos hq]
      exact ⟨r'.1, r⟩
    · have hq : ¬ q.1 = k := r'.1 ▸ hk
      rw [if_neg hk, if_neg hq]
      exact r'
  · exact paired_append h (.cons ⟨rfl, r⟩ .nil)
end
def keyOf : D → Option Key
  | .int i => some (.inl i)
  | .str x => some (.inr x)
  | _ => none
theorem key_rel {K : PySem.W.Frag} {H : Hp} {mu : List Addr} {v : V} {d : D} {k : Key} (r : Rp K H mu v d) (e : keyOf d = some k) : v = kV k := by
  cases r <;> simp only [keyOf] at e <;> cases e <;> rfl
/-- a new dict that nobody holds yet -/
def RD (K : PySem.W.Frag) : RR V (List (Key × D)) := ⟨fun H0 H mu _ v kvs => ∃ p ws, v = .ref p ∧ H0 p = none ∧ H p = some (.dK ws) ∧ p ∉ mu ∧ KD K H mu ws kvs, fun e ⟨p, vs, a, b, c⟩ => ⟨p, vs, a, e.dom p b, c⟩⟩
abbrev tD (K : PySem.W.Frag) (W : Wx) (m : Mo (List (Key × D))) : TE := tG K W (RD K) m
def mPairs : List (Mo D × Mo D) → Mo (List (Key × D))
  | [], _, st => .ok [] st
  | (mk, mv) :: r, ev, st => (mk ev st).bind fun k st1 => (mv ev st1).bind fun v st2 => match keyOf k with
    | some kk => (mPairs r ev st2).bind fun ps st3 => .ok ((kk, v) :: ps) st3
    | none => .bad
def mergeD (kvs more : List (Key × D)) : List (Key × D) := more.foldl (fun acc kv => putD acc kv.1 kv.2) kvs
def mDictD (ps : List (Mo D × Mo D)) : Mo (List (Key × D)) := fun ev st => (mPairs ps ev st).bind fun kvs st1 => if kvs.length ≤ 15 then .ok (mergeD [] kvs) st1 else .bad
theorem KD.merge {K : PySem.W.Frag} {H : Hp} {mu : List Addr} : ∀ {more : List (Key × V)} {more' : List (Key × D)}, KD K H mu more more' → ∀ {ws : List (Key × V)} {kvs : List (Key × D)}, KD K H mu ws kvs → KD K H mu (mergeK ws more) (mergeD kvs more')
  | _, _, .nil, _, _, h => h
  | _, _, .cons r t, ws, kvs, h => by
    rename_i p q ps qs
    have e : p.1 = q.1 := r.1
    show KD K H mu (mergeK (putK ws p.1 p.2) ps) (mergeD (putD kvs q.1 q.2) qs)
    rw [← e]
    exact KD.merge t (h.put _ r.2)
abbrev trsOf (K : PySem.W.Frag) (W : Wx) (ps : List (Mo D × Mo D)) : List (TE × TE) := ps.map fun z => (tE K W z.1, tE K W z.2)
theorem mps_nil : PPs X pos [] [] (trsOf X.K W []) := pps_nil
theorem mps_cons {k v : Expr} {ks : List (Option Expr)} {vs : List Expr} {mk mv : Mo D} {ps : List (Mo D × Mo D)} (hk : PE X k (tE X.K W mk)) (hv : PE X v (tE X.K W mv)) (hr : PPs X pos ks vs (trsOf X.K W ps)) : PPs X pos (some k :: ks) (v :: vs) (trsOf X.K W ((mk, mv) :: ps)) := pps_cons hk hv hr
def RPs (K : PySem.W.Frag) : RR (List (V × V)) (List (Key × D)) := ⟨fun _ H mu _ xs kvs => ∃ ws : List (Key × V), xs = ws.map (fun kv => (kV kv.1, kv.2)) ∧ KD K H mu ws kvs, fun _ h => h⟩
theorem pairs_go {K : PySem.W.Frag} : ∀ {ps : List (Mo D × Mo D)} {σ : L2.St} {H : Hp} {Q : List (V × V) → Hp → Prop}, tG K W (RPs K) (mPairs ps) σ H Q → tPairs (trsOf K W ps) σ H Q
  | [], σ, H, Q, ⟨mu, ev, st, he, hst, hp⟩ => hp _ _ _ .refl ⟨[], rfl, .nil⟩ hst
  | (mk, mv) :: r, σ, H, Q, ⟨mu, ev, st, he, hst, hp⟩ => by
    refine ⟨mu, ev, st, he, hst, hp.bind fun k st1 mu1 x H1 _ e1 r1 s1 hp1 => ?_⟩
    refine ⟨mu1, ev, st1, he.mono e1, s1, hp1.bind fun v st2 mu2 y H2 _ e2 r2 s2 hp2 => ?_⟩
    cases hk : keyOf k with
    | none => rw [hk] at hp2; exact hp2.elim
    | some kk =>
      rw [hk] at hp2
      refine pairs_go ⟨mu2, ev, st2, (he.mono e1).mono e2, s2, hp2.bind fun kvs st3 mu3 xs H3 _ e3 r3 s3 hp3 => ?_⟩
      obtain ⟨ws, rfl, hw⟩ := r3
      refine hp3 _ _ _ .refl ⟨(kk, y) :: ws, ?_, .cons ⟨rfl, Rp.mono e3 r2⟩ hw⟩ s3
      rw [key_rel (Rp.mono (e2.trans e3) r1) hk]
      rfl
theorem ext0_tmpD {H : Hp} {mu : List Addr} {q : Addr} {l : List (Key × V)} {o : HO} (h : H q = some (.dK l)) : Ext0 mu H mu (upd H q o) :=
  ⟨⟨[], by simp⟩, fun a vs ha => by rw [upd_ne (fun e => by subst e; rw [h] at ha; cases ha)]; exact ha, fun a o vs ha n => ⟨by rw [upd_ne (fun e => by subst e; rw [h] at ha; cases ha)]; exact ha, n⟩⟩
theorem RelSt.tmpD {K : PySem.W.Frag} {H : Hp} {mu : List Addr} {st : Sto} (r : RelSt K H mu st) {q : Addr} {l : List (Key × V)} {o : HO} (h : H q = some (.dK l)) (hn : q ∉ mu) : RelSt K (upd H q o) mu st :=
  ⟨r.len, r.nd, fun i a ob h1 h2 => (r.ob i a ob h1 h2).mono0 (ext0_tmpD h) (upd_ne fun e => hn (e ▸ List.mem_of_getElem? h1))⟩
theorem md_disp {keys : List (Option Expr)} {values : List Expr} {ps : List (Mo D × Mo D)} (h : PPs X pos keys values (trsOf X.K W ps)) (hall : keys.all (·.isSome) = true := by rfl) (hl : keys.length = values.length := by rfl) (h0 : keys ≠ [] := by exact (fun z => by cases z)) (h15 : keys.length ≤ 15 := by decide) :
    PE X (.Dict keys values pos) (tD X.K W (mDictD ps)) := by
  refine PE.imp (pe_disp h hall hl h0 h15) fun σ H Q ⟨mu, ev, st, he, hst, hp⟩ => ?_
  intro q hq
  have e0 : Ext mu H mu (upd H q (.dK [])) := ext_new hq _
  unfold mDictD at hp
  refine pairs_go ⟨mu, ev, st, he.mono e0, hst.new hq _, ?_⟩
  cases hr : mPairs ps ev st with
  | bad => rw [hr] at hp; exact hp
  | exc c e s => rw [hr] at hp; exact fun mu' σ' H' e' => hp mu' σ' H' (e0.trans e')
  | ok kvs st1 =>
    rw [hr] at hp
    simp only [Rs.bind_ok] at hp
    intro mu1 xs H1 e1 ⟨ws, ex, hw⟩ s1
    subst ex
    have k1 := e1.keep q _ upd_same (hst.fresh hq)
    refine ⟨k1.1, ws, rfl, ?_⟩
    split at hp
    · rename_i hl
      refine ⟨by rw [hw.length]; exact hl, ?_⟩
      refine hp mu1 (.ref q) _ (ext_tmp (e0.trans e1) hq) ⟨q, _, rfl, hq, upd_same, k1.2, ?_⟩ (s1.tmpD k1.1 k1.2)
      exact (KD.merge hw .nil).mono0 (ext0_tmpD k1.1)
    · exact hp.elim
/-- {..}.get(k, x) of a new dict -/
def mGetN (md : Mo (List (Key × D))) (mk mx : Mo D) : Mo D := fun ev st => (md ev st).bind fun kvs st1 => (mk ev st1).bind fun k st2 => (mx ev st2).bind fun x st3 => match keyOf k with
  | some kk => .ok ((valD kvs kk).getD x) st3
  | none => .bad
theorem me_getN {apos cpos : Pos} {md : Mo (List (Key × D))} {o f : Expr} {mk mx : Mo D} (hu : X.A.units + 1 < cLine) (ho : PE X o (tD X.K W md)) (he : PE X e (tE X.K W mk)) (hf : PE X f (tE X.K W mx)) (m : M2 X o "get" apos e f cpos := by exact ⟨rfl, rfl, rfl, rfl⟩) : PE X (.Call (.Attribute o "get" apos) [e, f] [] cpos) (tE X.K W (mGetN md mk mx)) := by
  refine PE.imp (pe_dget2 hu ho he hf m) fun σ H Q ⟨mu, ev, st, he, hst, hp⟩ => ?_
  refine ⟨mu, ev, st, he, hst, hp.bind fun kvs st1 mu1 v H1 _ e1 r1 s1 hp1 => ?_⟩
  obtain ⟨q, ws, rfl, _, hq, hn, hk⟩ := r1
  refine ⟨q, rfl, .inl ⟨ws, .inl hq⟩, mu1, ev, st1, he.mono e1, s1, hp1.bind fun k st2 mu2 y H2 _ e2 r2 s2 hp2 => ?_⟩
  refine ⟨mu2, ev, st2, (he.mono e1).mono e2, s2, hp2.bind fun x st3 mu3 z H3 _ e3 r3 s3 hp3 => ?_⟩
  cases hkk : keyOf k with
  | none => rw [hkk] at hp3; exact hp3.elim
  | some kk =>
    rw [hkk] at hp3
    have q3 := (e2.trans e3).keep q _ hq hn
    refine ⟨valV ws kk, .inl ⟨ws, kk, .inl q3.1, key_rel (Rp.mono e3 r2) hkk, rfl⟩, hp3 _ _ _ .refl ?_ s3⟩
    rcases (hk.mono (e2.trans e3)).val kk with ⟨v, d, h1, h2, h3⟩ | ⟨h1, h2⟩
    · rw [h1, h2]; exact h3
    · rw [h1, h2]; exact r3
/-- {..}[k] of a new dict -/
def mAtN (md : Mo (List (Key × D))) (mk : Mo D) : Mo D := fun ev st => (md ev st).bind fun kvs st1 => (mk ev st1).bind fun k st2 => match keyOf k with
  | some kk => (match valD kvs kk with
    | some d => .ok d st2
    | none => .bad)
  | none => .bad
theorem me_atN {md : Mo (List (Key × D))} {o i : Expr} {mk : Mo D} (hu : X.A.units + 1 < cLine) (ho : PE X o (tD X.K W md)) (hi : PE X i (tE X.K W mk)) (hs : NoSl i := by exact fun _ _ => rfl) : PE X (.Subscript o i pos) (tE X.K W (mAtN md mk)) := by
  refine PE.imp (pe_dget hu ho hi hs) fun σ H Q ⟨mu, ev, st, he, hst, hp⟩ => ?_
  refine ⟨mu, ev, st, he, hst, hp.bind fun kvs st1 mu1 v H1 _ e1 r1 s1 hp1 => ?_⟩
  obtain ⟨q, ws, rfl, _, hq, hn, hk⟩ := r1
  refine ⟨mu1, ev, st1, he.mono e1, s1, hp1.bind fun k st2 mu2 y H2 _ e2 r2 s2 hp2 => ?_⟩
  cases hkk : keyOf k with
  | none => rw [hkk] at hp2; exact hp2.elim
  | some kk =>
    rw [hkk] at hp2
    simp only at hp2
    have q3 := e2.keep q _ hq hn
    rcases (hk.mono e2).val kk with ⟨v, d, h1, h2, h3⟩ | ⟨h1, h2⟩
    · rw [h2] at hp2
      exact ⟨q, v, rfl, .inl ⟨ws, kk, .inl q3.1, key_rel r2 hkk, h1.symm⟩, hp2 _ _ _ .refl h3 s2⟩
    · rw [h2] at hp2; exact hp2.elim
end Ml

namespace Ml
open PySem L2
variable {X : Cx} {W : Wx} {a b c e : Expr} {es rest : List Expr} {pos p q : Pos} {ma mb mc : Mo D} {mr : Mo (List D)} {ta tb : Mo Bool} {s1 s2 : Ms}
/-! ### name = [..] on one line -/
theorem ms_setLc {i : Nat} {y : Str} {py spos : Pos} {elt tg iter : Expr} {ifs : List Expr} {scope : Scope} {own : List (Str × Nat)} {mi : Mo (List D)} {g : Gt} {ws : List Nat} (hc : X.calm = true) (hN : X.N.Nodup) (hy : X.N[i]? = some y) (hyl : X.env.scope.names.lookup y = some .local)
    (hsw : swapsWith (.ListComp elt [⟨tg, iter, ifs, 0⟩] scope pos) (some (.Name y py)) spos.line X.env = pure true) (hi : PI X tg iter (tI X.K W mi)) (ok : BlkOk X.N X.env.scope scope own) (hw : ∀ i ∈ ws, i ∈ own.map (·.2))
    (hg : ∀ (s : Shared) (H : Hp) (C : Addr) (cl : List (Str × Addr)) (fp : List Addr), PG (X.blk s H scope (compEnvC scope cl C X.env) fp) tg (tGt X.K ws g)) (ht : ∀ (s : Shared) (H : Hp) (C : Addr) (cl : List (Str × Addr)) (fp : List Addr), PTs (X.blk s H scope (compEnvC scope cl C X.env) fp) ifs (tT X.K W0 ta))
    (he : ∀ (s : Shared) (H : Hp) (C : Addr) (cl : List (Str × Addr)) (fp : List Addr), PE (X.blk s H scope (compEnvC scope cl C X.env) fp) elt (tE X.K W0 ma)) (hs : ∀ x, foldedSetIterable iter X.env x = pure x := by intro _; rfl) :
    PS X (.Assign [.Name y py] (.ListComp elt [⟨tg, iter, ifs, 0⟩] scope pos) spos) (tS X.K W (mSet i (mKeep (mLc (own.map (·.2)) mi g ta ma)))) := by
  refine PS.imp (ps_setLc hc hN hy hyl hsw hi ok hg ht he hs) fun D σ H ⟨mu, ev, st, he, hs, hp⟩ => ?_
  refine lc_go (W := W) hw ⟨mu, ev, st, he, hs, ?_⟩
  unfold mSet mKeep at hp
  cases hr : mLc (own.map (·.2)) mi g ta ma ev st with
  | bad => rw [hr] at hp; exact hp
  | exc c e s => rw [hr] at hp; exact hp
  | ok ds st1 =>
    rw [hr] at hp
    intro mu1 x H1 e1 ⟨p, vs, ex, h0, hpp, hn, rs⟩ s1
    subst ex
    obtain ⟨k1, k2⟩ := adopt s1 hpp hn rs
    exact hp (mu1 ++ [p]) _ H1 (ext_adopt e1 h0) ((he.mono (ext_adopt e1 h0)).set k1 i) k2
/-! ### the built-ins' names -/
theorem bt_len : bootBuiltins "len" = some (.builtin "len") := by decide +kernel
theorem bt_abs : bootBuiltins "abs" = some (.builtin "abs") := by decide +kernel
theorem bt_min : bootBuiltins "min" = some (.builtin "min") := by decide +kernel
theorem bt_max : bootBuiltins "max" = some (.builtin "max") := by decide +kernel
theorem bt_sum : bootBuiltins "sum" = some (.builtin "sum") := by decide +kernel
theorem bt_any : bootBuiltins "any" = some (.builtin "any") := by decide +kernel
theorem bt_all : bootBuiltins "all" = some (.builtin "all") := by decide +kernel
theorem bt_sorted : bootBuiltins "sorted" = some (.builtin "sorted") := by decide +kernel
theorem bt_int : bootBuiltins "int" = some (.type "int") := by decide +kernel
theorem bt_str : bootBuiltins "str" = some (.type "str") := by decide +kernel
theorem bt_bool : bootBuiltins "bool" = some (.type "bool") := by decide +kernel
theorem bt_tuple : bootBuiltins "tuple" = some (.type "tuple") := by decide +kernel
theorem bt_list : bootBuiltins "list" = some (.type "list") := by decide +kernel
theorem bt_set : bootBuiltins "set" = some (.type "set") := by decide +kernel
theorem ok_int : okCls "int" = true := by decide
theorem ok_str : okCls "str" = true := by decide
theorem ok_bool : okCls "bool" = true := by decide
theorem ok_tuple : okCls "tuple" = true := by decide
theorem ok_list : okCls "list" = true := by decide
/-! ### the law's end -/
theorem rp_script {K : PySem.W.Frag} {H : Hp} {a : Addr} {ns : List Int} (hO : Only H) (hS : SqL K H a (ns.map V.int)) : Rp K H [] (.ref a) (.ro (ns.map D.int)) := by
  refine .ro (vs := ns.map V.int) ?_ (Rps.of_ints ns)
  rcases hS with (h | ⟨o, h⟩) | h
  · rcases hO a with q | ⟨o, xs, q⟩
    · rw [q] at h; cases h
    · rw [q] at h; cases h
  · exact .inl ⟨o, h, by simp⟩
  · exact .inr h
theorem walk_m {l : PySem.W.OpenLaw} {q : Program} {loose : List Str} {XP : (Str → Option Value) → Heap → Prop} {YP : World → Heap → Prop} {d : DefRec} {K : Params → PySem.W.Frag} {k : Nat} {c : Fm} (hn : l.most = some 63) (hdf : d.params.defaults = []) (hr : Room k callerA)
    (hY : ∀ (w : World) (h : Heap), YP w h → (K w.params).In h)
    (F : ∀ (w : World) (mg : Str → Option Value) (fa : Addr) (h : Heap), (K w.params).In h → h.Ns mainGlobals mg → mg d.name = some (.ref fa) →
      ∃ fd : FuncData, (∀ (s : Shared) (u : Value), BindsTo s fd ⟨[u], []⟩ [("script", u)]) ∧ ∀ base : Heap, (K w.params).In base → base.Ns mainGlobals mg → FnOk l.prog w (K w.params) mg base CX0 k fa fd ["script"] (spM (K w.params) 1 c))
    (hl : ∀ ns : List Int, ns.length ≤ 63 → ∃ st', c [.ro (ns.map D.int)] [] = .ok (.bl true) st') :
    PySem.W.WalkO q loose XP YP l.row.toRowW d [] (fun f vs => PySem.call f vs) := by
  refine L2.walk_of (n := 63) (k := k) (x := "script") (CX := fun _ => CX0) (sp := fun w => spM (K w.params) 1 c) hn (by decide) hdf hr hY F (fun w H a ns hlen hO hS => ?_) fun _ _ _ _ _ z => z
  obtain ⟨st', e⟩ := hl ns hlen
  refine ⟨rfl, [], [.ro (ns.map D.int)], [], .cons (rp_script hO hS) .nil, ⟨rfl, .nil, fun i a o h _ => by simp at h⟩, ?_⟩
  rw [e]
  intro mu' v H' _ r _
  cases r
  rfl
end Ml

namespace Ml
open PySem L2 PyProof.Rows
section
variable {X : Cx} {pins : List (Addr × Obj)} {σ : L2.St} {H : Hp} {s : Shared} {Q : VK} {r : Value} {ns : List Int}
/-- sorted(r), the items collected being whole numbers -/
theorem sort_behind (I : Inv X pins σ H s) (hz : ns.length ≤ sizeLine)
    (hcol : ∀ (R : List Value → Shared → Prop) (E : Value → Shared → Prop), (∀ (g : Heap) (tk : Nat) (acc : List Value), (∀ b o, s.heap.get? b = some o → g.get? b = some o) → IntsAre acc ns → R acc { s with heap := g, toks := tk }) → wpAny (model X.prog X.w) X.A.in1 (collect r) R E s)
    (q : ∀ (ms : List Int) (p : Addr), ms.Perm ns → ms.Pairwise (· ≤ ·) → H p = none → Q (.ref p) (upd H p (.lst (ms.map V.int)))) :
    wpAny (model X.prog X.w) X.A (call (.builtin "sorted") [r]) (EP X pins σ Q) X.xe s := by
  refine Calls.call_function_entry kind_sorted plain_sorted entry_sorted (args_sorted1 _) ?_
  unfold Builtin.«sorted»
  refine wpAny_bind (m := checkCount "sorted" 1 1 _) (wpAny_pure ?_)
  refine wpAny_bind (hcol _ _ fun g tk acc hk hI => ?_)
  have hzA : acc.length ≤ sizeLine := by rw [hI.length]; exact hz
  have I1 : Inv X pins σ H { s with heap := g, toks := tk } := I.kept hk
  refine wpAny_bind (wpAny_newList ?_ hzA)
  have hoL : (g.push (seqObj "list" acc.toArray 0)).get? g.objs.size = some (seqObj "list" acc.toArray 0) := Heap.get?_push_size _ rfl
  show wpAny _ _ _ _ _ { s with heap := g.push (seqObj "list" acc.toArray 0), toks := tk }
  refine wpAny_bind (wpAny_holding (wpAny_call_entry slot_list_sort ⟨_, hoL, rfl⟩ entry_list_sort
    (SrtO.list_sort_ord (s := { s with heap := g.push (seqObj "list" acc.toArray 0), toks := tk }) SrtO.swo_int hoL hzA (fun h2 => SrtO.ints_sortable hI h2) fun out hs hb => ⟨_, rfl, ?_⟩) (args_list_sort _)))
  obtain ⟨k1, k2, k3⟩ := SrtO.ints_out hI hs hb
  obtain ⟨ep, he⟩ := sortedHeap_at (vs := acc) (out := out.toArray) hoL
  have hlen : ((out.map SrtO.iv).map V.int).length ≤ sizeLine := by rw [List.length_map, k2.length_eq]; exact hz
  refine wpAny_pure ⟨_, rfl, .ref g.objs.size, upd H g.objs.size (.lst ((out.map SrtO.iv).map V.int)), I1.laid (t' := tk) (fun b u e => ?_) (Nat.le_refl _) ⟨hlen, out, ep, vals_of_ints k1, he⟩, rfl, q _ _ k2 k3 (I1.hok.fresh (Nat.le_refl _))⟩
  have hb : b < g.objs.size := Heap.lt_size e
  rw [sortedHeap_old (Nat.ne_of_lt hb) (by rw [size_push']; exact Nat.lt_succ_of_lt hb)]
  exact Heap.get?_push_of_some _ e
end
section
variable {X : Cx}
/-- sorted(t), t a tuple of whole numbers -/
def rSortedT (K : PySem.W.Frag) : List V → Hp → VK → Prop := fun vs H Q => ∃ (a : Addr) (ns : List Int), vs = [V.ref a] ∧ SqT K H a (ns.map V.int) ∧
  ∀ (ms : List Int) (p : Addr), ms.Perm ns → ms.Pairwise (· ≤ ·) → H p = none → Q (.ref p) (upd H p (.lst (ms.map V.int)))
theorem cr_sortedTup : CallR X (.builtin "sorted") (rSortedT X.K) := by
  intro pins s σ H vs us Q I r h
  obtain ⟨a, ns, rfl, hs, q⟩ := h
  rw [Vals.ref1 r]
  obtain ⟨its, rv, ⟨o, ho, hc, n, hd⟩, hz⟩ := I.tuple hs
  rw [List.length_map] at hz
  refine sort_behind I hz (fun R E k => ?_) q
  have hl := rv.length
  rw [List.length_map] at hl
  exact wpAny_collect_seq a (.inr rfl) ho hc hd (fun g hk => k g s.toks its hk rv.ints) (by rw [List.size_toArray]; omega)
/-- sorted(d), d a dict whose keys are whole numbers -/
def rSortedD : List V → Hp → VK → Prop := fun vs H Q => ∃ (a : Addr) (kvs : List (Key × V)) (ns : List Int), vs = [V.ref a] ∧ Rd H a (.dK kvs) ∧ kvs.map (·.1) = ns.map Sum.inl ∧
  ∀ (ms : List Int) (p : Addr), ms.Perm ns → ms.Pairwise (· ≤ ·) → H p = none → Q (.ref p) (upd H p (.lst (ms.map V.int)))
theorem cr_sortedDict (hcalm : X.calm = true) : CallR X (.builtin "sorted") rSortedD := by
  intro pins s σ H vs us Q I r h
  obtain ⟨a, kvs, ns, rfl, hd, hks, q⟩ := h
  rw [Vals.ref1 r]
  obtain ⟨z, lo, ws, rel, dd⟩ := dk_rd I.hok hd
  obtain ⟨ep, hat⟩ := dd.dictAt
  have hkeys : ws.map (·.1) = ns.map Sum.inl := rel.keys.symm.trans hks
  have hl : ws.length = ns.length := by
    have e := congrArg List.length hkeys
    rwa [List.length_map, List.length_map] at e
  have hz : ns.length ≤ sizeLine := by rw [← hl, ← rel.length]; exact z
  refine sort_behind I hz (fun R E k => ?_) q
  refine PySem.W.kdu_collect (A := X.A.in1) (PySem.W.kdl_dict (knd := mixKind X.prog X.w) (kvs := ws) (ep := ep) lo) (I.ok.hd hcalm) hat (by rw [hl]; exact hz) fun g tk acc hk hacc => k g tk acc.toList hk ?_
  have hv : Vals (ns.map V.int) acc.toList := by
    refine vals_of_at (by rw [List.length_map, show acc.toList.length = acc.size from Array.length_toList, hacc.1, hl]) fun j x u e1 e2 => ?_
    obtain ⟨kk, y, e3, e4⟩ := hacc.2 j u (by rw [← Array.getElem?_toList]; exact e2)
    have e5 : (ws.map (·.1))[j]? = some kk := by rw [List.getElem?_map, e3]; all_goals rfl
    rw [hkeys, List.getElem?_map] at e5
    rw [List.getElem?_map] at e1
    cases e6 : ns[j]? with
    | none => rw [e6] at e1; cases e1
    | some n =>
      rw [e6] at e1 e5
      have e7 : Sum.inl n = kk := Option.some.inj e5
      have e8 : V.int n = x := Option.some.inj e1
      subst e7; subst e8
      exact relV_key (k := Sum.inl n) e4
  exact hv.ints
/-- sum(t), t a tuple of whole numbers -/
def rSumT (K : PySem.W.Frag) : List V → Hp → VK → Prop := fun vs H Q => ∃ (a : Addr) (ns : List Int), vs = [V.ref a] ∧ SqT K H a (ns.map V.int) ∧ Q (.int ns.sum) H
theorem cr_sumT (hcalm : X.calm = true) : CallR X (.builtin "sum") (rSumT X.K) := by
  intro pins s σ H vs us Q I r h
  obtain ⟨a, ns, rfl, hs, q⟩ := h
  rw [Vals.ref1 r]
  obtain ⟨its, rv, ht, hz⟩ := I.tuple hs
  have hi := rv.ints
  obtain ⟨xs, hx⟩ := hi.allInts.items
  have hn : numsOf its.toArray.toList = ns := by rw [show its.toArray.toList = its from rfl, hi.numsOf]
  have ht' : s.heap.IsTuple a its.toArray := ht
  rw [hx] at ht' hn
  rw [nums_intItems] at hn
  refine PySem.W.ktm_sumG (I.ok.hd hcalm) ht' fun g tk t' hk => ?_
  rw [preSum_eq, List.take_of_length_le (by simp), hn]
  exact ⟨.int ns.sum, H, I.kept hk, ⟨t', rfl⟩, q⟩
end
end Ml

namespace Ml
open PySem L2
variable {X : Cx} {W : Wx} {a b c e o i : Expr} {es rest : List Expr} {pos p q apos cpos pos' : Pos} {ma mb mc mk mx : Mo D} {mr mq : Mo (List D)} {ta tb : Mo Bool} {s1 s2 : Ms}
/-! ### while -/
def whl (t : Mo Bool) (body : Ms) : Nat → Ms
  | 0 => fun _ _ => .bad
  | n + 1 => fun ev st => match t ev st with
    | .ok true st1 => (match body ev st1 with
      | .ok (.nx, ev2) st2 => whl t body n ev2 st2
      | .ok (.ct, ev2) st2 => whl t body n ev2 st2
      | .ok (.bk, ev2) st2 => .ok (.nx, ev2) st2
      | .ok (.rt d, ev2) st2 => .ok (.rt d, ev2) st2
      | .bad => .bad
      | .exc c e s => .exc c e s)
    | .ok false st1 => .ok (.nx, ev) st1
    | .bad => .bad
    | .exc c e s => .exc c e s
def mWhile (n : Nat) (t : Mo Bool) (body : Ms) : Ms := whl t body n
theorem ms_while {n : Nat} {body : List Stmt} (hp : PassesOwn (model X.prog X.w) X.A X.env X.xe) (hc : PT X c (tT X.K W ta)) (hb : PSs X body (tS X.K W s1)) : PS X (.While c body [] pos) (tS X.K W (mWhile n ta s1)) := by
  refine PS.imp (ps_while hp hc hb) fun D σ H ⟨mu, ev, st, he, hs, hp⟩ => ?_
  refine ⟨fun m σ H => ∃ mu ev st, RelEv X.K H mu σ ev ∧ RelSt X.K H mu st ∧ PostS X.K W mu H (whl ta s1 m ev st) D, ⟨n, mu, ev, st, he, hs, hp⟩, ?_⟩
  rintro m σ H ⟨mu, ev, st, he, hs, hp⟩
  cases m with
  | zero => exact hp.elim
  | succ m =>
    refine ⟨mu, ev, st, he, hs, ?_⟩
    simp only [whl] at hp
    cases ht : ta ev st with
    | bad => rw [ht] at hp; exact hp
    | exc c e s => rw [ht] at hp; exact hp
    | ok bb st1 =>
      rw [ht] at hp
      intro mu1 x H1 e1 rb s1'
      obtain rfl : x = bb := rb
      have hp := PostS.from hp e1
      cases x with
      | false => exact iteF (hp _ _ _ .refl (he.mono e1) s1')
      | true =>
        refine iteT ⟨fun σ' H' => ∃ mu ev st, RelEv X.K H' mu σ' ev ∧ RelSt X.K H' mu st ∧ PostS X.K W mu H' (whl ta s1 m ev st) D, fun σ' H' h => ⟨m, Nat.lt_succ_self _, h⟩, mu1, ev, st1, he.mono e1, s1', ?_⟩
        simp only at hp
        cases hb : s1 ev st1 with
        | bad => rw [hb] at hp; exact hp
        | exc c e s => rw [hb] at hp; exact hp
        | ok r st2 =>
          obtain ⟨fl, ev2⟩ := r
          rw [hb] at hp
          cases fl with
          | nx => exact fun mu' σ' H'' e' he' hs' => ⟨mu', ev2, st2, he', hs', PostS.from hp e'⟩
          | ct => exact fun mu' σ' H'' e' he' hs' => ⟨mu', ev2, st2, he', hs', PostS.from hp e'⟩
          | bk => exact hp
          | rt d => exact hp
/-! ### dicts of the store -/
def mDNew {κ : Type} : Mo (List (κ × D)) := fun _ st => .ok [] st
theorem md_newK : PE X (.Dict [] [] pos) (tD X.K W mDNew) :=
  PE.imp pe_dnewK fun σ H Q ⟨mu, ev, st, he, hs, hp⟩ => fun q hq => hp _ _ _ (ext_new hq _) ⟨q, [], rfl, hq, upd_same, hs.fresh hq, .nil⟩ (hs.new hq _)
/-- a new dict with tuple keys that nobody holds yet -/
def RDT (K : PySem.W.Frag) : RR V (List (List Key × D)) := ⟨fun H0 H mu _ v kvs => ∃ p ws, v = .ref p ∧ H0 p = none ∧ H p = some (.dT ws) ∧ p ∉ mu ∧ KD K H mu ws kvs, fun e ⟨p, vs, a, b, c⟩ => ⟨p, vs, a, e.dom p b, c⟩⟩
abbrev tDT (K : PySem.W.Frag) (W : Wx) (m : Mo (List (List Key × D))) : TE := tG K W (RDT K) m
theorem md_newT : PE X (.Dict [] [] pos) (tDT X.K W mDNew) :=
  PE.imp pe_dnewT fun σ H Q ⟨mu, ev, st, he, hs, hp⟩ => fun q hq => hp _ _ _ (ext_new hq _) ⟨q, [], rfl, hq, upd_same, hs.fresh hq, .nil⟩ (hs.new hq _)
def mKeepD (m : Mo (List (Key × D))) : Mo D := fun ev st => (m ev st).bind fun ds st1 => .ok (.ref st1.length) (st1 ++ [.dK false ds])
def mKeepT (m : Mo (List (List Key × D))) : Mo D := fun ev st => (m ev st).bind fun ds st1 => .ok (.ref st1.length) (st1 ++ [.dT false ds])
/-- what stands at p, nobody's, becomes the store's -/
theorem adopt_any {K : PySem.W.Frag} {H : Hp} {mu : List Addr} {st : Sto} (r : RelSt K H mu st) {p : Addr} {u : HO} {ob : Ob} (hp : H p = some u) (hf : ∀ o w, u ≠ .frz o w) (hn : p ∉ mu) (hr : ∀ mu', Ext0 mu H mu' H → ObOk K H mu' p ob) :
    Rp K H (mu ++ [p]) (.ref p) (.ref st.length) ∧ RelSt K H (mu ++ [p]) (st ++ [ob]) := by
  have q : mu.length = st.length := r.len
  have e0 : Ext0 mu H (mu ++ [p]) H := ⟨⟨[p], rfl⟩, fun _ _ h => h, fun a o vs h n => ⟨h, by simp only [List.mem_append, List.mem_singleton, not_or]; exact ⟨n, fun e => by subst e; rw [hp] at h; exact hf _ _ (Option.some.inj h)⟩⟩⟩
  refine ⟨.ref (by rw [← q]; simp), ⟨by simp [q], ?_, fun i a u h1 h2 => ?_⟩⟩
  · rw [List.nodup_append]
    refine ⟨r.nd, by simp, fun a ha b hb => ?_⟩
    simp only [List.mem_singleton] at hb
    subst hb
    intro e; subst e
    exact hn ha
  · by_cases hi : i < mu.length
    · rw [List.getElem?_append_left hi] at h1
      rw [List.getElem?_append_left (by rw [← q]; exact hi)] at h2
      exact (r.ob i a u h1 h2).mono0 e0 rfl
    · have hl := (List.getElem?_eq_some_iff.mp h1).1
      simp at hl
      have e : i = mu.length := by omega
      subst e
      rw [List.getElem?_append_right (Nat.le_refl _)] at h1
      rw [q, List.getElem?_append_right (Nat.le_refl _)] at h2
      simp at h1 h2
      subst h1; subst h2
      exact hr _ e0
theorem me_keepD {md : Mo (List (Key × D))} (h : PE X e (tD X.K W md)) : PE X e (tE X.K W (mKeepD md)) := by
  refine PE.imp h fun σ H Q ⟨mu, ev, st, he, hst, hp⟩ => ?_
  refine ⟨mu, ev, st, he, hst, ?_⟩
  unfold mKeepD at hp
  cases hr : md ev st with
  | bad => rw [hr] at hp; exact hp
  | exc c e s => rw [hr] at hp; exact hp
  | ok ds st1 =>
    rw [hr] at hp
    intro mu1 x H1 e1 ⟨p, ws, ex, h0, hpp, hn, rs⟩ s1
    subst ex
    obtain ⟨k1, k2⟩ := adopt_any (ob := .dK false ds) s1 hpp (fun _ _ z => by cases z) hn (fun mu' e0 => ⟨ws, hpp, rs.mono0 e0⟩)
    exact hp (mu1 ++ [p]) (.ref p) H1 (ext_adopt e1 h0) k1 k2
theorem me_keepT {md : Mo (List (List Key × D))} (h : PE X e (tDT X.K W md)) : PE X e (tE X.K W (mKeepT md)) := by
  refine PE.imp h fun σ H Q ⟨mu, ev, st, he, hst, hp⟩ => ?_
  refine ⟨mu, ev, st, he, hst, ?_⟩
  unfold mKeepT at hp
  cases hr : md ev st with
  | bad => rw [hr] at hp; exact hp
  | exc c e s => rw [hr] at hp; exact hp
  | ok ds st1 =>
    rw [hr] at hp
    intro mu1 x H1 e1 ⟨p, ws, ex, h0, hpp, hn, rs⟩ s1
    subst ex
    obtain ⟨k1, k2⟩ := adopt_any (ob := .dT false ds) s1 hpp (fun _ _ z => by cases z) hn (fun mu' e0 => ⟨ws, hpp, rs.mono0 e0⟩)
    exact hp (mu1 ++ [p]) (.ref p) H1 (ext_adopt e1 h0) k1 k2
/-- the whole numbers of a tuple, as a key -/
def keysOf (d : D) : Option (List Key) := match d with
  | .tup ds => (intsOf ds).map fun ns => ns.map Sum.inl
  | _ => none
theorem keys_rel {K : PySem.W.Frag} {H : Hp} {mu : List Addr} {v : V} {d : D} {k : List Key} (r : Rp K H mu v d) (e : keysOf d = some k) : ∃ b, v = .ref b ∧ H b = some (.tup (k.map kV)) := by
  unfold keysOf at e
  split at e
  · rename_i ds
    cases hq : intsOf ds with
    | none => rw [hq] at e; cases e
    | some ns =>
      rw [hq] at e; cases e
      cases r with
      | tup h hs =>
        have ev := Rps.ints hs hq
        subst ev
        have e2 : (ns.map Sum.inl).map kV = ns.map V.int := by rw [List.map_map]; rfl
        rw [e2]
        rcases h with h | ⟨⟨x, hx⟩, _⟩
        · exact ⟨_, rfl, h⟩
        · rw [List.mem_map] at hx
          obtain ⟨n, _, hn⟩ := hx
          cases hn
  · cases e
/-- what a dict of the store holds at a key -/
def getD1 (st : Sto) (d k : D) : Option (Option D) := match d with
  | .ref i => (match st[i]? with
    | some (.dK _ kvs) => (keyOf k).map fun kk => valD kvs kk
    | some (.dT _ kvs) => (keysOf k).map fun kk => valD kvs kk
    | _ => none)
  | _ => none
theorem get_rel {K : PySem.W.Frag} {H : Hp} {mu : List Addr} {st : Sto} (hs : RelSt K H mu st) {x y : V} {d k : D} {r : Option D} (hx : Rp K H mu x d) (hy : Rp K H mu y k) (e : getD1 st d k = some r) :
    ∃ a ov, x = .ref a ∧ DGet H a y ov ∧ IsD H a ∧ ((∃ v d', ov = some v ∧ r = some d' ∧ Rp K H mu v d') ∨ (ov = none ∧ r = none)) := by
  unfold getD1 at e
  split at e
  · cases hx with
    | ref hi =>
      obtain ⟨ob, ho, ok⟩ := hs.at hi
      rw [ho] at e
      split at e
      · rename_i lk kvs eq; cases eq
        cases hk : keyOf k with
        | none => rw [hk] at e; cases e
        | some kk =>
          rw [hk] at e; cases e
          obtain ⟨ws, hw, hkd⟩ : ∃ ws, Rd H _ (.dK ws) ∧ KD K H mu ws kvs := by
            cases lk with
            | true => obtain ⟨od, ws, h1, h2⟩ := ok; exact ⟨ws, .inr ⟨od, h1⟩, h2⟩
            | false => obtain ⟨ws, h1, h2⟩ := ok; exact ⟨ws, .inl h1, h2⟩
          refine ⟨_, valV ws kk, rfl, .inl ⟨ws, kk, hw, key_rel hy hk, rfl⟩, .inl ⟨ws, hw⟩, ?_⟩
          rcases hkd.val kk with ⟨v, d', h1, h2, h3⟩ | ⟨h1, h2⟩
          · exact .inl ⟨v, d', h1, h2, h3⟩
          · exact .inr ⟨h1, h2⟩
      · rename_i lk kvs eq; cases eq
        cases hk : keysOf k with
        | none => rw [hk] at e; cases e
        | some kk =>
          rw [hk] at e; cases e
          obtain ⟨ws, hw, hkd⟩ : ∃ ws, Rd H _ (.dT ws) ∧ KD K H mu ws kvs := by
            cases lk with
            | true => obtain ⟨od, ws, h1, h2⟩ := ok; exact ⟨ws, .inr ⟨od, h1⟩, h2⟩
            | false => obtain ⟨ws, h1, h2⟩ := ok; exact ⟨ws, .inl h1, h2⟩
          obtain ⟨b, rfl, hb⟩ := keys_rel hy hk
          refine ⟨_, valV ws kk, rfl, .inr ⟨ws, kk, b, hw, rfl, hb, rfl⟩, .inr ⟨ws, hw⟩, ?_⟩
          rcases hkd.val kk with ⟨v, d', h1, h2, h3⟩ | ⟨h1, h2⟩
          · exact .inl ⟨v, d', h1, h2, h3⟩
          · exact .inr ⟨h1, h2⟩
      · cases e
  · cases e
/-- d[k] -/
def mDAt (ma mk : Mo D) : Mo D := fun ev st => (ma ev st).bind fun d st1 => (mk ev st1).bind fun k st2 => match getD1 st2 d k with
  | some (some v) => .ok v st2
  | _ => .bad
theorem me_dat (hu : X.A.units + 1 < cLine) (ho : PE X o (tE X.K W ma)) (hi : PE X i (tE X.K W mk)) (hs : NoSl i := by exact fun _ _ => rfl) : PE X (.Subscript o i pos) (tE X.K W (mDAt ma mk)) := by
  refine PE.imp (pe_dget hu ho hi hs) fun σ H Q ⟨mu, ev, st, he, hst, hp⟩ => ?_
  refine ⟨mu, ev, st, he, hst, hp.bind fun d st1 mu1 x H1 _ e1 r1 s1 hp1 => ?_⟩
  refine ⟨mu1, ev, st1, he.mono e1, s1, hp1.bind fun k st2 mu2 y H2 _ e2 r2 s2 hp2 => ?_⟩
  split at hp2
  · rename_i v hg
    obtain ⟨a, ov, rfl, hd, _, h | ⟨_, h⟩⟩ := get_rel s2 (Rp.mono e2 r1) r2 hg
    · obtain ⟨v', d', rfl, e3, r3⟩ := h
      cases e3
      exact ⟨a, v', rfl, hd, hp2 _ _ _ .refl r3 s2⟩
    · cases h
  · exact hp2.elim
/-- d.get(k, x) -/
def isDct (st : Sto) : D → Bool
  | .ref i => (match st[i]? with
    | some (.dK _ _) => true
    | some (.dT _ _) => true
    | _ => false)
  | _ => false
def mDGet (ma mk mx : Mo D) : Mo D := fun ev st => (ma ev st).bind fun d st1 => if isDct st1 d = true then (mk ev st1).bind fun k st2 => (mx ev st2).bind fun x st3 => match getD1 st3 d k with
  | some r => .ok (r.getD x) st3
  | none => .bad else .bad
theorem isDct_rel {K : PySem.W.Frag} {H : Hp} {mu : List Addr} {st : Sto} (hs : RelSt K H mu st) {x : V} {d : D} (hx : Rp K H mu x d) (h : isDct st d = true) : ∃ a, x = .ref a ∧ IsD H a := by
  unfold isDct at h
  split at h
  · cases hx with
    | ref hi =>
      obtain ⟨ob, ho, ok⟩ := hs.at hi
      rw [ho] at h
      split at h
      · rename_i lk kvs eq; cases eq
        cases lk with
        | true => obtain ⟨od, ws, h1, h2⟩ := ok; exact ⟨_, rfl, .inl ⟨ws, .inr ⟨od, h1⟩⟩⟩
        | false => obtain ⟨ws, h1, h2⟩ := ok; exact ⟨_, rfl, .inl ⟨ws, .inl h1⟩⟩
      · rename_i lk kvs eq; cases eq
        cases lk with
        | true => obtain ⟨od, ws, h1, h2⟩ := ok; exact ⟨_, rfl, .inr ⟨ws, .inr ⟨od, h1⟩⟩⟩
        | false => obtain ⟨ws, h1, h2⟩ := ok; exact ⟨_, rfl, .inr ⟨ws, .inl h1⟩⟩
      · cases h
  · cases h
theorem me_dget {f : Expr} (hu : X.A.units + 1 < cLine) (ho : PE X o (tE X.K W ma)) (he : PE X e (tE X.K W mk)) (hf : PE X f (tE X.K W mx)) (m : M2 X o "get" apos e f cpos := by exact ⟨rfl, rfl, rfl, rfl⟩) : PE X (.Call (.Attribute o "get" apos) [e, f] [] cpos) (tE X.K W (mDGet ma mk mx)) := by
  refine PE.imp (pe_dget2 hu ho he hf m) fun σ H Q ⟨mu, ev, st, he, hst, hp⟩ => ?_
  refine ⟨mu, ev, st, he, hst, hp.bind fun d st1 mu1 v H1 _ e1 r1 s1 hp1 => ?_⟩
  split at hp1
  · rename_i hd
    obtain ⟨a, rfl, isd⟩ := isDct_rel s1 r1 hd
    refine ⟨a, rfl, isd, mu1, ev, st1, he.mono e1, s1, hp1.bind fun k st2 mu2 y H2 _ e2 r2 s2 hp2 => ?_⟩
    refine ⟨mu2, ev, st2, (he.mono e1).mono e2, s2, hp2.bind fun x st3 mu3 z H3 _ e3 r3 s3 hp3 => ?_⟩
    split at hp3
    · rename_i r hg
      obtain ⟨a', ov, ea, hd, _, h⟩ := get_rel s3 (Rp.mono (e2.trans e3) r1) (Rp.mono e3 r2) hg
      cases ea
      refine ⟨ov, hd, hp3 _ _ _ .refl ?_ s3⟩
      rcases h with ⟨v, d', rfl, rfl, rv⟩ | ⟨rfl, rfl⟩
      · exact rv
      · exact r3
    · exact hp3.elim
  · exact hp1.elim
/-- d[k] = v -/
def putD1 (st : Sto) (d k v : D) : Option Sto := match d with
  | .ref i => (match st[i]? with
    | some (.dK false kvs) => (match keyOf k with
      | some kk => if kvs.length ≤ lim then some (st.set i (.dK false (putD kvs kk v))) else none
      | none => none)
    | some (.dT false kvs) => (match keysOf k with
      | some kk => if kvs.length ≤ lim then some (st.set i (.dT false (putD kvs kk v))) else none
      | none => none)
    | some (.lst ds) => (match k with
      | .int j => (match ixN ds.length j with
        | some n => some (st.set i (.lst (ds.set n v)))
        | none => none)
      | _ => none)
    | _ => none)
  | _ => none
theorem put_rel {K : PySem.W.Frag} {H : Hp} {mu : List Addr} {st st' : Sto} (hs : RelSt K H mu st) {x y z : V} {d k v : D} (hx : Rp K H mu x d) (hy : Rp K H mu y k) (hz : Rp K H mu z v) (e : putD1 st d k v = some st') (hd : isDct st d = true) :
    ∃ a H', x = .ref a ∧ DPut H a y z H' ∧ Ext mu H mu H' ∧ RelSt K H' mu st' := by
  unfold putD1 at e
  split at e
  · cases hx with
    | ref hi =>
      obtain ⟨ob, ho, ok⟩ := hs.at hi
      rw [ho] at e
      split at e
      · rename_i kvs eq; cases eq
        split at e
        · rename_i kk hk
          split at e
          · rename_i hl
            cases e
            obtain ⟨ws, h1, h2⟩ := ok
            have ext := ext_write hs (List.mem_of_getElem? hi) (fun ob w z => by rw [h1] at z; cases z) (.dK (putK ws kk z))
            exact ⟨_, _, rfl, .inl ⟨ws, kk, h1, key_rel hy hk, by rw [h2.length]; exact lim_lt hl, rfl⟩, ext, hs.write hi ⟨_, upd_same, (h2.put kk hz).mono ext⟩⟩
          · cases e
        · cases e
      · rename_i kvs eq; cases eq
        split at e
        · rename_i kk hk
          split at e
          · rename_i hl
            cases e
            obtain ⟨ws, h1, h2⟩ := ok
            obtain ⟨b, rfl, hb⟩ := keys_rel hy hk
            have ext := ext_write hs (List.mem_of_getElem? hi) (fun ob w z => by rw [h1] at z; cases z) (.dT (putK ws kk z))
            exact ⟨_, _, rfl, .inr ⟨ws, kk, b, h1, rfl, hb, by rw [h2.length]; exact lim_lt hl, rfl⟩, ext, hs.write hi ⟨_, upd_same, (h2.put kk hz).mono ext⟩⟩
          · cases e
        · cases e
      · rename_i ds eq; cases eq
        simp only [isDct, ho] at hd
        cases hd
      · cases e
  · cases e
def mDPut (ma mk mv : Mo D) : Ms := fun ev st => (mv ev st).bind fun v st1 => (ma ev st1).bind fun d st2 => (mk ev st2).bind fun k st3 => if isDct st3 d = true then (match putD1 st3 d k v with
  | some st4 => .ok (.nx, ev) st4
  | none => .bad) else .bad
theorem ms_dput {v : Expr} {mv : Mo D} (hu : X.A.units + 1 < cLine) (ho : PE X o (tE X.K W ma)) (hi : PE X i (tE X.K W mk)) (hv : PE X v (tE X.K W mv)) (hs : swapsWith v (some (.Subscript o i pos')) pos.line X.env = pure false := by rfl) :
    PS X (.Assign [.Subscript o i pos'] v pos) (tS X.K W (mDPut ma mk mv)) := by
  refine PS.imp (ps_dput hu ho hi hv hs) fun D σ H ⟨mu, ev, st, he, hst, hp⟩ => ?_
  refine ⟨mu, ev, st, he, hst, hp.bind fun v st1 mu1 z H1 _ e1 r1 s1 hp1 => ?_⟩
  refine ⟨mu1, ev, st1, he.mono e1, s1, hp1.bind fun d st2 mu2 x H2 _ e2 r2 s2 hp2 => ?_⟩
  refine ⟨mu2, ev, st2, (he.mono e1).mono e2, s2, hp2.bind fun k st3 mu3 y H3 _ e3 r3 s3 hp3 => ?_⟩
  split at hp3
  · rename_i hd
    split at hp3
    · rename_i st4 hput
      obtain ⟨a, H4, rfl, dp, ext, s4⟩ := put_rel s3 (Rp.mono e3 r2) r3 (Rp.mono (e2.trans e3) r1) hput hd
      exact ⟨a, H4, rfl, dp, hp3 _ _ _ ext ((((he.mono e1).mono e2).mono e3).mono ext) s4⟩
    · exact hp3.elim
  · exact hp3.elim
/-- xs[i] = v, a list of the store's -/
def mLPut (ma mk mv : Mo D) : Ms := fun ev st => (mv ev st).bind fun v st1 => (ma ev st1).bind fun d st2 => (mk ev st2).bind fun k st3 => match d, k with
  | .ref i, .int j => (match st3[i]? with
    | some (.lst ds) => (match ixN ds.length j with
      | some n => .ok (.nx, ev) (st3.set i (.lst (ds.set n v)))
      | none => .bad)
    | _ => .bad)
  | _, _ => .bad
theorem ms_lput {v : Expr} {mv : Mo D} (ho : PE X o (tE X.K W ma)) (hi : PE X i (tE X.K W mk)) (hv : PE X v (tE X.K W mv)) (hg : PG X (.Subscript o i pos') (L2.gSub (tE X.K W ma) (tE X.K W mk) rSetL)) (hs : swapsWithSole [.Subscript o i pos'] v pos.line X.env = pure false := by rfl) (hw : swappedStores [.Subscript o i pos'] v X.env = pure none := by rfl)
    (h1 : (assignEach [.Subscript o i pos'] X.env).map (·.2) = [assign (.Subscript o i pos') X.env] := by rfl) : PS X (.Assign [.Subscript o i pos'] v pos) (tS X.K W (mLPut ma mk mv)) := by
  refine PS.imp (ps_asg hv hg hs hw h1) fun D σ H ⟨mu, ev, st, he, hst, hp⟩ => ?_
  refine ⟨mu, ev, st, he, hst, hp.bind fun v st1 mu1 z H1 _ e1 r1 s1 hp1 => ?_⟩
  refine ⟨mu1, ev, st1, he.mono e1, s1, hp1.bind fun d st2 mu2 x H2 _ e2 r2 s2 hp2 => ?_⟩
  refine ⟨mu2, ev, st2, (he.mono e1).mono e2, s2, hp2.bind fun k st3 mu3 y H3 _ e3 r3 s3 hp3 => ?_⟩
  split at hp3
  · have r2 := Rp.mono e3 r2
    cases r2 with
    | ref hi =>
      cases r3
      obtain ⟨ob, ho, ok⟩ := s3.at hi
      rw [ho] at hp3
      split at hp3
      · rename_i ds eq; cases eq
        obtain ⟨vs, hq, rs⟩ := ok
        split at hp3
        · rename_i n hn
          have ext := ext_write s3 (List.mem_of_getElem? hi) (fun ob w z => by rw [hq] at z; cases z) (.lst (vs.set n z))
          refine ⟨_, vs, _, n, rfl, rfl, hq, by rw [Rps.length rs]; exact hn, ?_⟩
          exact hp3 _ _ _ ext ((((he.mono e1).mono e2).mono e3).mono ext) (s3.write hi ⟨_, upd_same, (rs.set (Rp.mono (e2.trans e3) r1) n).mono ext⟩)
        · exact hp3.elim
      · exact hp3.elim
  · exact hp3.elim
theorem ms_lput' {v : Expr} {mv : Mo D} (ho : PE X o (tE X.K W ma)) (hi : PE X i (tE X.K W mk)) (hv : PE X v (tE X.K W mv)) (ha : ∀ v, assign (.Subscript o i pos') X.env v = (do
      let ov ← holding [v] (eval o X.env)
      let iv ← holding [v, ov] (eval i X.env)
      standAt pos'
      holding [v, ov, iv] (setItem ov iv v)
      release [v, ov, iv] []) := by intro _; rfl) (hs : swapsWithSole [.Subscript o i pos'] v pos.line X.env = pure false := by rfl) (hw : swappedStores [.Subscript o i pos'] v X.env = pure none := by rfl)
    (h1 : (assignEach [.Subscript o i pos'] X.env).map (·.2) = [assign (.Subscript o i pos') X.env] := by rfl) : PS X (.Assign [.Subscript o i pos'] v pos) (tS X.K W (mLPut ma mk mv)) :=
  ms_lput ho hi hv (pg_sub ho hi set_list ha) hs hw h1
end Ml

namespace Ml
open PySem L2
variable {X : Cx} {W : Wx} {a b c e o i : Expr} {es rest : List Expr} {pos p q apos cpos pos' : Pos} {ma mb mc mk mx : Mo D} {mr mq : Mo (List D)} {ta tb : Mo Bool} {s1 s2 : Ms}
/-! ### what is walked is locked meanwhile -/
def lockO : Ob → Option Ob
  | .lst ds => some (.ro ds)
  | .dK false kvs => some (.dK true kvs)
  | .dT false kvs => some (.dT true kvs)
  | _ => none
def unlockO : Ob → Option Ob
  | .ro ds => some (.lst ds)
  | .dK true kvs => some (.dK false kvs)
  | .dT true kvs => some (.dT false kvs)
  | _ => none
/-- the items of a locked thing -/
def itemsO : Ob → Option (List D)
  | .ro ds => if ds.length ≤ lim then some ds else none
  | .dK true kvs => if kvs.length ≤ lim then some (kvs.map fun z => match z.1 with | .inl i => D.int i | .inr x => D.str x) else none
  | .dT true kvs => if kvs.length ≤ lim then some (kvs.map fun z => D.tup (z.1.map fun w => match w with | .inl i => D.int i | .inr x => D.str x)) else none
  | _ => none
def keyD : Key → D
  | .inl i => .int i
  | .inr x => .str x
theorem lock_rel {K : PySem.W.Frag} {H : Hp} {mu : List Addr} {st : Sto} {n : Nat} {d : Addr} {ob ob' : Ob} (hs : RelSt K H mu st) (hi : mu[n]? = some d) (ho : st[n]? = some ob) (hl : lockO ob = some ob') :
    ∃ u, H d = some u ∧ Mut (some u) ∧ (∀ od, Ext0 mu H mu (upd H d (.frz od u)) ∧ RelSt K (upd H d (.frz od u)) mu (st.set n ob')) ∧ (∀ o w, u ≠ .frz o w) ∧ (∀ vs, u ≠ .tup vs) := by
  have hd : d ∈ mu := List.mem_of_getElem? hi
  have go : ∀ u, H d = some u → Mut (some u) → (∀ o w, u ≠ .frz o w) → (∀ vs, u ≠ .tup vs) → (∀ od, Ext0 mu H mu (upd H d (.frz od u)) → ObOk K (upd H d (.frz od u)) mu d ob') →
      ∃ u, H d = some u ∧ Mut (some u) ∧ (∀ od, Ext0 mu H mu (upd H d (.frz od u)) ∧ RelSt K (upd H d (.frz od u)) mu (st.set n ob')) ∧ (∀ o w, u ≠ .frz o w) ∧ (∀ vs, u ≠ .tup vs) := fun u hu mt nf nt h => by
    refine ⟨u, hu, mt, fun od => ?_, nf, nt⟩
    have e0 : Ext0 mu H mu (upd H d (.frz od u)) := ⟨⟨[], by simp⟩, fun a vs ha => by rw [upd_ne (fun e => by subst e; rw [hu] at ha; exact nt _ (Option.some.inj ha))]; exact ha, fun a ob vs ha na => ⟨by rw [upd_ne (fun e => by subst e; exact na hd)]; exact ha, na⟩⟩
    exact ⟨e0, hs.write hi (h od e0)⟩
  have ok := hs.ob n d ob hi ho
  cases ob with
  | ro ds => cases hl
  | lst ds =>
    cases hl
    obtain ⟨vs, h1, r⟩ := ok
    exact go _ h1 trivial (fun _ _ z => by cases z) (fun _ z => by cases z) fun od e0 => ⟨od, vs, upd_same, r.mono0 e0⟩
  | dK lk kvs =>
    cases lk with
    | true => cases hl
    | false =>
      cases hl
      obtain ⟨ws, h1, r⟩ := ok
      exact go _ h1 trivial (fun _ _ z => by cases z) (fun _ z => by cases z) fun od e0 => ⟨od, ws, upd_same, r.mono0 e0⟩
  | dT lk kvs =>
    cases lk with
    | true => cases hl
    | false =>
      cases hl
      obtain ⟨ws, h1, r⟩ := ok
      exact go _ h1 trivial (fun _ _ z => by cases z) (fun _ z => by cases z) fun od e0 => ⟨od, ws, upd_same, r.mono0 e0⟩
  | ins c fs => cases hl
  | exc c => cases hl
/-- from within the lock to behind it -/
theorem unlock_rel {K : PySem.W.Frag} {H H' : Hp} {mu mu' : List Addr} {st' : Sto} {n : Nat} {d : Addr} {od : Obj} {u : HO} {ob ob' : Ob} (hu : H d = some u) (nf : ∀ o w, u ≠ .frz o w) (nt : ∀ vs, u ≠ .tup vs) (hi : mu[n]? = some d) (e : Ext mu (upd H d (.frz od u)) mu' H') (hs : RelSt K H' mu' st')
    (ho : st'[n]? = some ob) (hl : unlockO ob = some ob') (hmt : (∃ vs, u = .lst vs) ∨ (∃ ws, u = .dK ws) ∨ ∃ ws, u = .dT ws) :
    H' d = some (.frz od u) ∧ Ext mu H mu' (upd H' d u) ∧ Ext0 mu' H' mu' (upd H' d u) ∧ RelSt K (upd H' d u) mu' (st'.set n ob') := by
  have hd : d ∈ mu := List.mem_of_getElem? hi
  have hi' : mu'[n]? = some d := e.at hi
  have hd' : d ∈ mu' := List.mem_of_getElem? hi'
  have h1 : H' d = some (.frz od u) := e.frz d od u upd_same
  have ext : Ext mu H mu' (upd H' d u) := by
    refine ⟨e.pre, fun a vs ha => ?_, fun a o ha na => ?_, fun a ha => ?_, fun a o w ha => ?_⟩
    · have ne : a ≠ d := fun z => by subst z; rw [hu] at ha; exact nt _ (Option.some.inj ha)
      rw [upd_ne ne]
      exact e.tup a vs (by rw [upd_ne ne]; exact ha)
    · have ne : a ≠ d := fun z => by subst z; exact na hd
      rw [upd_ne ne]
      exact e.keep a o (by rw [upd_ne ne]; exact ha) na
    · have ne : a ≠ d := fun z => by subst z; rw [upd_same] at ha; cases ha
      rw [upd_ne ne] at ha
      have := e.dom a ha
      rwa [upd_ne ne] at this
    · have ne : a ≠ d := fun z => by subst z; rw [hu] at ha; exact nf _ _ (Option.some.inj ha)
      rw [upd_ne ne]
      exact e.frz a o w (by rw [upd_ne ne]; exact ha)
  have e0 : Ext0 mu' H' mu' (upd H' d u) := ⟨⟨[], by simp⟩, fun a vs ha => by rw [upd_ne (fun z => by subst z; rw [h1] at ha; cases ha)]; exact ha, fun a ob vs ha na => ⟨by rw [upd_ne (fun z => by subst z; exact na hd')]; exact ha, na⟩⟩
  refine ⟨h1, ext, e0, hs.write hi' ?_⟩
  have ok := hs.ob n d ob hi' ho
  cases ob with
  | lst ds => cases hl
  | ro ds =>
    cases hl
    obtain ⟨o2, vs, h2, r⟩ := ok
    rw [h1] at h2; cases h2
    exact ⟨vs, upd_same, r.mono0 e0⟩
  | dK lk kvs =>
    cases lk with
    | false => cases hl
    | true =>
      cases hl
      obtain ⟨o2, ws, h2, r⟩ := ok
      rw [h1] at h2; cases h2
      exact ⟨ws, upd_same, r.mono0 e0⟩
  | dT lk kvs =>
    cases lk with
    | false => cases hl
    | true =>
      cases hl
      obtain ⟨o2, ws, h2, r⟩ := ok
      rw [h1] at h2; cases h2
      exact ⟨ws, upd_same, r.mono0 e0⟩
  | ins c fs => cases hl
  | exc c => cases hl
theorem RelEv.mono0 {K : PySem.W.Frag} {mu mu' : List Addr} {H H' : Hp} {σ : L2.St} {ev : Ev} (r : RelEv K H mu σ ev) (e : Ext0 mu H mu' H') : RelEv K H' mu' σ ev :=
  ⟨r.1, fun i d h => let ⟨v, a, b⟩ := r.2 i d h; ⟨v, a, b.mono0 e⟩⟩
/-! the iterators of locked things -/
theorem iter_ro {K : PySem.W.Frag} {H0 : Hp} {d : Addr} {od : Obj} {vs : List V} {ds : List D} : IterOk K H0 (Itl K d) ds (fun H mu => H d = some (.frz od (.lst vs)) ∧ Rps K H mu vs ds) := by
  refine ⟨?_, ?_, ?_, ?_, ?_⟩
  · rintro H mu i x ⟨h1, h2⟩ hx
    obtain ⟨v, hv, _⟩ := h2.get hx
    exact ⟨vs, v, .inl (.inr ⟨od, h1⟩), hv⟩
  · rintro H mu st i x v H' hst ⟨h1, h2⟩ hx ⟨e, hy⟩
    subst e
    obtain ⟨w, hw, rw'⟩ := h2.get hx
    have := hy vs (.inl (.inr ⟨od, h1⟩))
    rw [hw] at this
    cases this
    exact ⟨.refl, rw', hst⟩
  · rintro H mu ⟨h1, h2⟩
    exact ⟨vs, .inl (.inr ⟨od, h1⟩), Nat.le_of_eq (Rps.length h2)⟩
  · rintro H mu H' mu' ⟨h1, h2⟩ e
    exact ⟨e.frz _ _ _ h1, h2.mono e⟩
  · rintro H mu q' l l' ⟨h1, h2⟩ _ hq _
    exact ⟨by rw [upd_ne (fun e => by subst e; rw [hq] at h1; cases h1)]; exact h1, h2.mono0 (ext0_tmp hq)⟩
theorem iter_dK {K : PySem.W.Frag} {H0 : Hp} {d : Addr} {od : Obj} {ws : List (Key × V)} {ks : List Key} (hk : ws.map (·.1) = ks) : IterOk K H0 (Itk d od ws) (ks.map keyD) (fun H mu => H d = some (.frz od (.dK ws))) := by
  have hl : ws.length = ks.length := by rw [← hk, List.length_map]
  have get : ∀ {i x}, (ks.map keyD)[i]? = some x → ∃ k v, ws[i]? = some (k, v) ∧ x = keyD k := fun {i x} h => by
    rw [← hk, List.map_map, List.getElem?_map] at h
    cases e : ws[i]? with
    | none => rw [e] at h; cases h
    | some z =>
      rw [e] at h
      obtain ⟨k, v⟩ := z
      exact ⟨k, v, e, (Option.some.inj h).symm⟩
  refine ⟨?_, ?_, ?_, ?_, ?_⟩
  · rintro H mu i x h1 hx
    obtain ⟨k, v, e, _⟩ := get hx
    exact ⟨h1, (List.getElem?_eq_some_iff.mp e).1⟩
  · rintro H mu st i x v H' hst h1 hx ⟨e, k, v', hk', rfl⟩
    subst e
    obtain ⟨k2, v2, e2, rfl⟩ := get hx
    rw [hk'] at e2; cases e2
    refine ⟨.refl, ?_, hst⟩
    cases k with
    | inl i => exact .int i
    | inr x => exact .str x
  · rintro H mu h1
    exact ⟨h1, by rw [List.length_map, hl]; exact Nat.le_refl _⟩
  · rintro H mu H' mu' h1 e
    exact e.frz _ _ _ h1
  · rintro H mu q' l l' h1 _ hq _
    show upd H q' (.lst l') d = _
    rw [upd_ne (fun e => by subst e; rw [hq] at h1; cases h1)]
    exact h1
theorem iter_dT {K : PySem.W.Frag} {H0 : Hp} {d : Addr} {od : Obj} {ws : List (List Key × V)} {ks : List (List Key)} (hk : ws.map (·.1) = ks) : IterOk K H0 (Itkt d od ws) (ks.map fun (k : List Key) => D.tup (k.map keyD)) (fun H mu => H d = some (.frz od (.dT ws))) := by
  have hl : ws.length = ks.length := by rw [← hk, List.length_map]
  have get : ∀ {i x}, (ks.map fun (k : List Key) => D.tup (k.map keyD))[i]? = some x → ∃ (k : List Key) (v : V), ws[i]? = some (k, v) ∧ x = D.tup (k.map keyD) := fun {i x} h => by
    rw [← hk, List.map_map, List.getElem?_map] at h
    cases e : ws[i]? with
    | none => rw [e] at h; cases h
    | some z =>
      rw [e] at h
      obtain ⟨k, v⟩ := z
      exact ⟨k, v, e, (Option.some.inj h).symm⟩
  have rk : ∀ {K H mu} (k : List Key), Rps K H mu (k.map kV) (k.map keyD) := fun {K H mu} k => by
    induction k with
    | nil => exact .nil
    | cons x xs ih =>
      refine .cons ?_ ih
      cases x with
      | inl i => exact .int i
      | inr z => exact .str z
  refine ⟨?_, ?_, ?_, ?_, ?_⟩
  · rintro H mu i x h1 hx
    obtain ⟨k, v, e, _⟩ := get hx
    exact ⟨h1, (List.getElem?_eq_some_iff.mp e).1⟩
  · rintro H mu st i x v H' hst h1 hx ⟨e, k, v', q, hk', rfl, hq⟩
    subst e
    obtain ⟨k2, v2, e2, rfl⟩ := get hx
    rw [hk'] at e2; cases e2
    exact ⟨.refl, .tup (.inl hq) (rk k), hst⟩
  · rintro H mu h1
    exact ⟨h1, by rw [List.length_map, hl]; exact Nat.le_refl _⟩
  · rintro H mu H' mu' h1 e
    exact e.frz _ _ _ h1
  · rintro H mu q' l l' h1 _ hq _
    show upd H q' (.lst l') d = _
    rw [upd_ne (fun e => by subst e; rw [hq] at h1; cases h1)]
    exact h1
/-- a locked thing walked: the three kinds -/
inductive Kd where
  | lst | dK | dT
def itemsK (k : Kd) (ob : Ob) : Option (List D) := match k, ob with
  | .lst, .ro ds => if ds.length ≤ lim then some ds else none
  | .dK, .dK true kvs => if kvs.length ≤ lim then some ((kvs.map (·.1)).map keyD) else none
  | .dT, .dT true kvs => if kvs.length ≤ lim then some ((kvs.map (·.1)).map fun k => D.tup (k.map keyD)) else none
  | _, _ => none
def mItK (k : Kd) (ma : Mo D) : Mo (List D) := fun ev st => (ma ev st).bind fun d st1 => match d with
  | .ref j => (match st1[j]? with
    | some ob => (match itemsK k ob with
      | some ds => .ok ds st1
      | none => .bad)
    | none => .bad)
  | _ => .bad
theorem KD.keys {κ : Type} {K : PySem.W.Frag} {H : Hp} {mu : List Addr} {ws : List (κ × V)} {kvs : List (κ × D)} (h : KD K H mu ws kvs) : ws.map (·.1) = kvs.map (·.1) := by
  unfold KD at h
  induction h with
  | nil => rfl
  | cons r t ih => rw [List.map_cons, List.map_cons, ih, r.1]
theorem mi_lst {tg : Expr} (h : PE X e (tE X.K W ma)) : PI X tg e (tI X.K W (mItK .lst ma)) := by
  refine PI.imp (pi_list h) fun σ H Q ⟨mu, ev, st, he, hs, hp⟩ => ?_
  refine ⟨mu, ev, st, he, hs, hp.bind fun d st1 mu1 x H1 _ e1 r1 s1 hp1 => ?_⟩
  split at hp1
  · cases r1 with
    | ref hi =>
      obtain ⟨ob, ho, ok⟩ := s1.at hi
      rw [ho] at hp1
      simp only at hp1
      split at hp1
      · rename_i ds hds
        cases ob with
        | ro l =>
          simp only [itemsK] at hds
          split at hds
          · rename_i hl
            cases hds
            obtain ⟨od, vs, hv, rs⟩ := ok
            exact ⟨_, rfl, ⟨vs, .inl (.inr ⟨od, hv⟩)⟩, hp1 _ _ _ .refl ⟨hl, _, iter_ro, hv, rs⟩ s1⟩
          · cases hds
        | lst l => cases hds
        | dK lk l => cases hds
        | dT lk l => cases hds
        | ins c l => cases hds
        | exc c => cases hds
      · exact hp1.elim
  · exact hp1.elim
theorem mi_dK {tg : Expr} (h : PE X e (tE X.K W ma)) : PI X tg e (tI X.K W (mItK .dK ma)) := by
  refine PI.imp (pi_keys h) fun σ H Q ⟨mu, ev, st, he, hs, hp⟩ => ?_
  refine ⟨mu, ev, st, he, hs, hp.bind fun d st1 mu1 x H1 _ e1 r1 s1 hp1 => ?_⟩
  split at hp1
  · cases r1 with
    | ref hi =>
      obtain ⟨ob, ho, ok⟩ := s1.at hi
      rw [ho] at hp1
      simp only at hp1
      split at hp1
      · rename_i ds hds
        cases ob with
        | dK lk l =>
          cases lk with
          | false => cases hds
          | true =>
            simp only [itemsK] at hds
            split at hds
            · rename_i hl
              cases hds
              obtain ⟨od, ws, hv, rs⟩ := ok
              exact ⟨_, od, rfl, .inl ⟨ws, hv, hp1 _ _ _ .refl ⟨by rw [List.length_map, List.length_map]; exact hl, _, iter_dK rs.keys, hv⟩ s1⟩⟩
            · cases hds
        | lst l => cases hds
        | ro l => cases hds
        | dT lk l => cases hds
        | ins c l => cases hds
        | exc c => cases hds
      · exact hp1.elim
  · exact hp1.elim
theorem mi_dT {tg : Expr} (h : PE X e (tE X.K W ma)) : PI X tg e (tI X.K W (mItK .dT ma)) := by
  refine PI.imp (pi_keys h) fun σ H Q ⟨mu, ev, st, he, hs, hp⟩ => ?_
  refine ⟨mu, ev, st, he, hs, hp.bind fun d st1 mu1 x H1 _ e1 r1 s1 hp1 => ?_⟩
  split at hp1
  · cases r1 with
    | ref hi =>
      obtain ⟨ob, ho, ok⟩ := s1.at hi
      rw [ho] at hp1
      simp only at hp1
      split at hp1
      · rename_i ds hds
        cases ob with
        | dT lk l =>
          cases lk with
          | false => cases hds
          | true =>
            simp only [itemsK] at hds
            split at hds
            · rename_i hl
              cases hds
              obtain ⟨od, ws, hv, rs⟩ := ok
              exact ⟨_, od, rfl, .inr ⟨ws, hv, hp1 _ _ _ .refl ⟨by rw [List.length_map, List.length_map]; exact hl, _, iter_dT rs.keys, hv⟩ s1⟩⟩
            · cases hds
        | lst l => cases hds
        | ro l => cases hds
        | dK lk l => cases hds
        | ins c l => cases hds
        | exc c => cases hds
      · exact hp1.elim
  · exact hp1.elim
/-- a new list walked -/
theorem iter_new {K : PySem.W.Frag} {H0 : Hp} {q : Addr} {vs : List V} {ds : List D} (h0 : H0 q ≠ none) : IterOk K H0 (Itl K q) ds (fun H mu => H q = some (.lst vs) ∧ q ∉ mu ∧ Rps K H mu vs ds) := by
  refine ⟨?_, ?_, ?_, ?_, ?_⟩
  · rintro H mu i x ⟨h1, _, h2⟩ hx
    obtain ⟨v, hv, _⟩ := h2.get hx
    exact ⟨vs, v, .inl (.inl h1), hv⟩
  · rintro H mu st i x v H' hst ⟨h1, _, h2⟩ hx ⟨e, hy⟩
    subst e
    obtain ⟨w, hw, rw'⟩ := h2.get hx
    have := hy vs (.inl (.inl h1))
    rw [hw] at this
    cases this
    exact ⟨.refl, rw', hst⟩
  · rintro H mu ⟨h1, _, h2⟩
    exact ⟨vs, .inl (.inl h1), Nat.le_of_eq (Rps.length h2)⟩
  · rintro H mu H' mu' ⟨h1, hn, h2⟩ e
    have k := e.keep _ _ h1 hn
    exact ⟨k.1, k.2, h2.mono e⟩
  · rintro H mu q' l l' ⟨h1, hn, h2⟩ hq0 hq hqn
    exact ⟨by rw [upd_ne (fun e => by subst e; exact h0 hq0)]; exact h1, hn, h2.mono0 (ext0_tmp hq)⟩
def mItN (mr : Mo (List D)) : Mo (List D) := fun ev st => (mr ev st).bind fun ds st1 => if ds.length ≤ lim then .ok ds st1 else .bad
theorem mi_new {tg : Expr} (h : PE X e (tL X.K W mr)) : PI X tg e (tI X.K W (mItN mr)) := by
  refine PI.imp (pi_list h) fun σ H Q ⟨mu, ev, st, he, hs, hp⟩ => ?_
  refine ⟨mu, ev, st, he, hs, hp.bind fun ds st1 mu1 x H1 _ e1 r1 s1 hp1 => ?_⟩
  obtain ⟨q, vs, rfl, h0, hq, hn, rs⟩ := r1
  split at hp1
  · rename_i hl
    exact ⟨q, rfl, ⟨vs, .inl (.inl hq)⟩, hp1 _ _ _ .refl ⟨hl, _, iter_new (by rw [hq]; simp), hq, hn, rs⟩ s1⟩
  · exact hp1.elim
/-! locks -/
def unl {α : Type} (n : Nat) (r : Rs α) : Rs α := match r with
  | .ok z st' => (match st'[n]? with
    | some ob => (match unlockO ob with
      | some ob' => .ok z (st'.set n ob')
      | none => .bad)
    | none => .bad)
  | _ => .bad
def lockN {α : Type} (ma : Mo D) (m : Mo α) : Mo α := fun ev st => match ma ev st with
  | .ok (.ref n) _ => (match st[n]? with
    | some ob => (match lockO ob with
      | some ob' => unl n (m ev (st.set n ob'))
      | none => .bad)
    | none => .bad)
  | _ => .bad
theorem mut_kinds {K : PySem.W.Frag} {H : Hp} {mu : List Addr} {d : Addr} {ob ob' : Ob} {u : HO} (ok : ObOk K H mu d ob) (hl : lockO ob = some ob') (hu : H d = some u) : (∃ vs, u = .lst vs) ∨ (∃ ws, u = .dK ws) ∨ ∃ ws, u = .dT ws := by
  cases ob with
  | ro ds => cases hl
  | lst ds => obtain ⟨vs, h1, _⟩ := ok; rw [h1] at hu; cases hu; exact .inl ⟨_, rfl⟩
  | dK lk kvs =>
    cases lk with
    | true => cases hl
    | false => obtain ⟨ws, h1, _⟩ := ok; rw [h1] at hu; cases hu; exact .inr (.inl ⟨_, rfl⟩)
  | dT lk kvs =>
    cases lk with
    | true => cases hl
    | false => obtain ⟨ws, h1, _⟩ := ok; rw [h1] at hu; cases hu; exact .inr (.inr ⟨_, rfl⟩)
  | ins c fs => cases hl
  | exc c => cases hl
theorem lock_open {K : PySem.W.Frag} {H : Hp} {mu : List Addr} {ev : Ev} {st : Sto} {α : Type} {m : Mo α} (hs : RelSt K H mu st) {P : Rs α → Prop} (hbad : ¬ P .bad) (h : P (lockN ma m ev st)) :
    ∃ n d ob ob', mu[n]? = some d ∧ st[n]? = some ob ∧ lockO ob = some ob' ∧ P (unl n (m ev (st.set n ob'))) := by
  unfold lockN at h
  split at h
  · rename_i n _ _
    split at h
    · rename_i ob ho
      split at h
      · rename_i ob' hl
        have hn : n < mu.length := by rw [hs.len]; exact (List.getElem?_eq_some_iff.mp ho).1
        exact ⟨n, mu[n], ob, ob', List.getElem?_eq_getElem hn, ho, hl, h⟩
      · exact absurd h hbad
    · exact absurd h hbad
  · exact absurd h hbad
theorem ms_lock {st : Stmt} (h : PS X st (tS X.K W s1)) : PS X st (tS X.K W (lockN ma s1)) := by
  refine PS.imp (ps_lock h) fun D σ H ⟨mu, ev, st, he, hs, hp⟩ => ?_
  obtain ⟨n, d, ob, ob', hi, ho, hl, hp⟩ := lock_open (P := fun r => PostS X.K W mu H r D) hs (fun z => z) hp
  obtain ⟨u, hu, mt, hod, nf, nt⟩ := lock_rel hs hi ho hl
  have kd := mut_kinds (hs.ob n d ob hi ho) hl hu
  refine ⟨d, u, hu, mt, fun od => ⟨mu, ev, st.set n ob', he.mono0 (hod od).1, (hod od).2, ?_⟩⟩
  cases hr : s1 ev (st.set n ob') with
  | bad => rw [hr] at hp; exact hp
  | exc c e s => rw [hr] at hp; exact hp.elim
  | ok z st' =>
    obtain ⟨fl, ev'⟩ := z
    rw [hr] at hp
    unfold unl at hp
    simp only at hp
    split at hp
    · rename_i o2 ho2
      split at hp
      · rename_i o3 ho3
        intro mu' σ' H' e' he' hs'
        obtain ⟨k1, k2, k3, k4⟩ := unlock_rel hu nf nt hi e' hs' ho2 ho3 kd
        have fin := hp mu' σ' (upd H' d u) k2 (he'.mono0 k3) k4
        cases fl with
        | nx => exact ⟨k1, fin⟩
        | bk => exact ⟨k1, fin⟩
        | ct => exact ⟨k1, fin⟩
        | rt d0 => exact fun v rv => ⟨k1, fin v (rv.mono0 k3)⟩
      · exact hp.elim
    · exact hp.elim
theorem ml_lock (h : PE X e (tL X.K W mr)) : PE X e (tL X.K W (lockN ma mr)) := by
  refine PE.imp (pe_lock h) fun σ H Q ⟨mu, ev, st, he, hs, hp⟩ => ?_
  obtain ⟨n, d, ob, ob', hi, ho, hl, hp⟩ := lock_open (P := fun r => Post X.K W (RL X.K) mu H r Q) hs (fun z => z) hp
  obtain ⟨u, hu, mt, hod, nf, nt⟩ := lock_rel hs hi ho hl
  have kd := mut_kinds (hs.ob n d ob hi ho) hl hu
  refine ⟨d, u, hu, mt, fun od => ⟨mu, ev, st.set n ob', he.mono0 (hod od).1, (hod od).2, ?_⟩⟩
  cases hr : mr ev (st.set n ob') with
  | bad => rw [hr] at hp; exact hp
  | exc c e s => rw [hr] at hp; exact hp.elim
  | ok ds st' =>
    rw [hr] at hp
    unfold unl at hp
    simp only at hp
    split at hp
    · rename_i o2 ho2
      split at hp
      · rename_i o3 ho3
        intro mu' x H' e' ⟨q, vs, ex, h0, hq, hn, rs⟩ hs'
        obtain ⟨k1, k2, k3, k4⟩ := unlock_rel hu nf nt hi e' hs' ho2 ho3 kd
        have ne : q ≠ d := fun z => by subst z; rw [k1] at hq; cases hq
        refine ⟨k1, hp mu' x (upd H' d u) k2 ⟨q, vs, ex, by rwa [upd_ne ne] at h0, by rw [upd_ne ne]; exact hq, hn, rs.mono0 k3⟩ k4⟩
      · exact hp.elim
    · exact hp.elim
/-! sorted(d), sorted(t), sum(t) -/
def RQT (K : PySem.W.Frag) : RR V (List D) := ⟨fun _ H mu _ v ds => ∃ p vs, v = .ref p ∧ SqT K H p vs ∧ Rps K H mu vs ds, fun _ h => h⟩
abbrev tQT (K : PySem.W.Frag) (W : Wx) (m : Mo (List D)) : TE := tG K W (RQT K) m
def mTupOf (m : Mo D) : Mo (List D) := fun ev st => (m ev st).bind fun d st1 => match d with
  | .tup ds => .ok ds st1
  | _ => .bad
theorem mqt_of (h : PE X e (tE X.K W ma)) : PE X e (tQT X.K W (mTupOf ma)) := by
  refine PE.imp h fun σ H Q ⟨mu, ev, st, he, hst, hp⟩ => ?_
  refine ⟨mu, ev, st, he, hst, hp.bind fun d st1 mu1 x H1 _ e1 r1 s1 hp1 => ?_⟩
  split at hp1
  · cases r1 with
    | tup h hs => exact hp1 _ _ _ .refl ⟨_, _, rfl, h.sq, hs⟩ s1
  · exact hp1.elim
theorem me_sumT (hg : Gl X "sum") (hm : X.mg "sum" = none) (hc : X.calm = true) (ha : PE X e (tE X.K W ma)) (he : starEach [e] X.env = (false, eval e X.env) :: starEach [] X.env := by rfl) : PE X (.Call (.Name "sum" p) [e] [] pos) (tE X.K W (mQ gSum (mTupOf ma))) := by
  refine PE.imp (pe_callB (cr_sumT hc) hg hm bt_sum (pa_cons (mqt_of ha) pa_nil he) (by decide) (by decide) he rfl) fun σ H Q ⟨mu, ev, st, he, hst, hp⟩ => ?_
  refine ⟨mu, ev, st, he, hst, hp.bind fun ds st1 mu1 x H1 _ e1 r1 s1 hp1 => ?_⟩
  obtain ⟨q, vs, rfl, sq, rs⟩ := r1
  unfold gSum at hp1
  cases hq : intsOf ds with
  | none => rw [hq] at hp1; exact hp1.elim
  | some ns =>
    rw [hq] at hp1
    exact ⟨q, ns, rfl, by rw [← Rps.ints rs hq]; exact sq, hp1 _ _ _ .refl (.int _) s1⟩
theorem ml_sortedT (hg : Gl X "sorted") (hm : X.mg "sorted" = none) (ha : PE X e (tE X.K W ma)) (he : starEach [e] X.env = (false, eval e X.env) :: starEach [] X.env := by rfl) : PE X (.Call (.Name "sorted" p) [e] [] pos) (tL X.K W (mQ gSorted (mTupOf ma))) := by
  refine PE.imp (pe_callB cr_sortedTup hg hm bt_sorted (pa_cons (mqt_of ha) pa_nil he) (by decide) (by decide) he rfl) fun σ H Q ⟨mu, ev, st, he, hst, hp⟩ => ?_
  refine ⟨mu, ev, st, he, hst, hp.bind fun ds st1 mu1 x H1 _ e1 r1 s1 hp1 => ?_⟩
  obtain ⟨q, vs, rfl, sq, rs⟩ := r1
  unfold gSorted at hp1
  cases hq : intsOf ds with
  | none => rw [hq] at hp1; exact hp1.elim
  | some ns =>
    rw [hq] at hp1
    refine ⟨q, ns, rfl, by rw [← Rps.ints rs hq]; exact sq, fun ns' p' hp hsd hn => ?_⟩
    have e1 : ns' = sortI ns := sorted_one (hp.trans (sortI_perm ns).symm) hsd (sortI_sorted ns)
    subst e1
    exact hp1 _ _ _ (ext_new hn _) ⟨p', _, rfl, hn, upd_same, s1.fresh hn, Rps.of_ints _⟩ (s1.new hn _)
/-- the keys of a dict, whole numbers -/
def keyInts : List Key → Option (List Int)
  | [] => some []
  | .inl i :: ks => (keyInts ks).map (i :: ·)
  | _ => none
theorem keyInts_eq : ∀ {ks : List Key} {ns : List Int}, keyInts ks = some ns → ks = ns.map Sum.inl
  | [], ns, h => by cases h; rfl
  | .inl i :: ks, ns, h => by
    simp only [keyInts] at h
    cases hq : keyInts ks with
    | none => rw [hq] at h; cases h
    | some ms => rw [hq] at h; cases h; rw [keyInts_eq hq]; rfl
  | .inr x :: ks, ns, h => by cases h
def mSortedD (ma : Mo D) : Mo (List D) := fun ev st => (ma ev st).bind fun d st1 => match d with
  | .ref j => (match st1[j]? with
    | some (.dK _ kvs) => (match keyInts (kvs.map (·.1)) with
      | some ns => .ok ((sortI ns).map D.int) st1
      | none => .bad)
    | _ => .bad)
  | _ => .bad
theorem ml_sortedD (hg : Gl X "sorted") (hm : X.mg "sorted" = none) (hc : X.calm = true) (ha : PE X e (tE X.K W ma)) (he : starEach [e] X.env = (false, eval e X.env) :: starEach [] X.env := by rfl) : PE X (.Call (.Name "sorted" p) [e] [] pos) (tL X.K W (mSortedD ma)) := by
  refine PE.imp (pe_callB (cr_sortedDict hc) hg hm bt_sorted (pa_cons ha pa_nil he) (by decide) (by decide) he rfl) fun σ H Q ⟨mu, ev, st, he, hst, hp⟩ => ?_
  refine ⟨mu, ev, st, he, hst, hp.bind fun d st1 mu1 x H1 _ e1 r1 s1 hp1 => ?_⟩
  split at hp1
  · cases r1 with
    | ref hi =>
      obtain ⟨ob, ho, ok⟩ := s1.at hi
      rw [ho] at hp1
      split at hp1
      · rename_i lk kvs eq; cases eq
        obtain ⟨ws, hw, hkd⟩ : ∃ ws, Rd H1 _ (.dK ws) ∧ KD X.K H1 mu1 ws kvs := by
          cases lk with
          | true => obtain ⟨od, ws, h1, h2⟩ := ok; exact ⟨ws, .inr ⟨od, h1⟩, h2⟩
          | false => obtain ⟨ws, h1, h2⟩ := ok; exact ⟨ws, .inl h1, h2⟩
        split at hp1
        · rename_i ns hns
          refine ⟨_, ws, ns, rfl, hw, hkd.keys.trans (keyInts_eq hns), fun ns' p' hp hsd hn => ?_⟩
          have e1 : ns' = sortI ns := sorted_one (hp.trans (sortI_perm ns).symm) hsd (sortI_sorted ns)
          subst e1
          exact hp1 _ _ _ (ext_new hn _) ⟨p', _, rfl, hn, upd_same, s1.fresh hn, Rps.of_ints _⟩ (s1.new hn _)
        · exact hp1.elim
      · exact hp1.elim
  · exact hp1.elim
end Ml

namespace Ml
open PySem L2
variable {X : Cx} {W : Wx} {a b c e o i : Expr} {es rest : List Expr} {pos p q apos cpos pos' : Pos} {ma mb mc mk mx mv : Mo D} {mr mq : Mo (List D)} {ta tb : Mo Bool} {s1 s2 : Ms}
/-! ### a dict display of one pair, the key a tuple of whole numbers -/
def tDisp1T (tk tv : TE) : TE := fun σ H Q => ∀ p, H p = none → tPairs [(tk, tv)] σ (upd H p (.dT [])) fun ps H2 => H2 p = some (.dT []) ∧ ∃ (ks : List Key) (b : Addr) (v : V), ps = [(.ref b, v)] ∧ H2 b = some (.tup (ks.map kV)) ∧ Q (.ref p) (upd H2 p (.dT [(ks, v)]))
theorem pe_disp1T {k v : Expr} {tk tv : TE} (hu : X.A.units + 1 < cLine) (hk : PE X k tk) (hv : PE X v tv) : PE X (.Dict [some k] [v] pos) (tDisp1T tk tv) := by
  refine ⟨fun pins s σ H Q I q => ?_⟩
  have hn := I.hok.fresh (Nat.le_refl s.heap.objs.size)
  have I1 := I.laid (a := s.heap.objs.size) (o := .dT []) (h' := s.heap.push { cls := .type "dict", data := .dict #[] }) (t' := s.toks) (fun _ _ q => Heap.get?_push_of_some _ q) (Nat.le_refl _) (dt_empty s.heap I.big)
  have h : PPs X pos [some k] [v] [(tk, tv)] := pps_cons hk hv pps_nil
  rw [arm_eval_Dict, zip_pairTrees [some k] [v] X.env pos rfl rfl, dictDisplay_pairs (pairTrees [some k] [v] X.env pos) (by intro z; cases z) (by show 1 < 17; decide)]
  refine wpAny_bind (wpAny_standAt (wpAny_bind (wpAny_subDictH (knd := tupleKind (mixKind X.prog X.w)) (show X.A.units < cLine by omega) (by show 1 ≤ 15; decide)
    (thn (h.run pins _ σ _ _ I1 (q _ hn)) fun ws s2 ⟨ps, H2, I2, rel, e, ks, b, v', ep, eb, q2⟩ => ?_))))
  subst ep
  cases rel with
  | @cons p w ps ws h1 h2 =>
  cases h2
  obtain ⟨w1, w2⟩ := w
  cases (show w1 = Value.ref b from h1.1)
  obtain ⟨z, hd, xs0, r0, dd⟩ := dt_of I2.hok e
  cases r0
  refine ⟨[(ks, b, w2)], ⟨rfl, rfl, key_of I2.hok eb, True.intro⟩, dd, fun h' tk dd' hs => wpAny_pure ⟨.ref s.heap.objs.size, _, ?_, rfl, q2⟩⟩
  obtain ⟨q, es, ep, hq, g2, g3, g4, _, g5⟩ := dd'
  refine d_write I2 (by rw [e]; exact True.intro) hs ⟨q, hq⟩ ⟨by rw [sizeLine_eq, List.length_singleton]; decide, hd, [(ks, b, w2)], .cons ⟨rfl, ?_, h1.2⟩ .nil, q, es, ep, hq, g2, g3, g4, g5⟩
  rw [upd_ne (ne_of eb e (fun z => nomatch z))]
  exact eb
theorem ext0_tmpT {H : Hp} {mu : List Addr} {q : Addr} {l : List (List Key × V)} {o : HO} (h : H q = some (.dT l)) : Ext0 mu H mu (upd H q o) :=
  ⟨⟨[], by simp⟩, fun a vs ha => by rw [upd_ne (fun e => by subst e; rw [h] at ha; cases ha)]; exact ha, fun a o vs ha n => ⟨by rw [upd_ne (fun e => by subst e; rw [h] at ha; cases ha)]; exact ha, n⟩⟩
theorem RelSt.tmpT {K : PySem.W.Frag} {H : Hp} {mu : List Addr} {st : Sto} (r : RelSt K H mu st) {q : Addr} {l : List (List Key × V)} {o : HO} (h : H q = some (.dT l)) (hn : q ∉ mu) : RelSt K (upd H q o) mu st :=
  ⟨r.len, r.nd, fun i a ob h1 h2 => (r.ob i a ob h1 h2).mono0 (ext0_tmpT h) (upd_ne fun e => hn (e ▸ List.mem_of_getElem? h1))⟩
def mDict1T (mk mv : Mo D) : Mo (List (List Key × D)) := fun ev st => (mk ev st).bind fun k st1 => (mv ev st1).bind fun v st2 => match keysOf k with
  | some ks => .ok [(ks, v)] st2
  | none => .bad
theorem md_disp1T {k v : Expr} (hu : X.A.units + 1 < cLine) (hk : PE X k (tE X.K W mk)) (hv : PE X v (tE X.K W mv)) : PE X (.Dict [some k] [v] pos) (tDT X.K W (mDict1T mk mv)) := by
  refine PE.imp (pe_disp1T hu hk hv) fun σ H Q ⟨mu, ev, st, he, hst, hp⟩ => ?_
  intro q hq
  have e0 : Ext mu H mu (upd H q (.dT [])) := ext_new hq _
  unfold mDict1T at hp
  refine ⟨mu, ev, st, he.mono e0, hst.new hq _, ?_⟩
  cases hr : mk ev st with
  | bad => rw [hr] at hp; exact hp
  | exc c e s => rw [hr] at hp; exact fun mu' σ' H' e' => hp mu' σ' H' (e0.trans e')
  | ok k1 st1 =>
    rw [hr] at hp
    intro mu1 x H1 e1 r1 s1
    refine ⟨mu1, ev, st1, (he.mono e0).mono e1, s1, ?_⟩
    simp only [Rs.bind_ok] at hp
    cases hr2 : mv ev st1 with
    | bad => rw [hr2] at hp; exact hp
    | exc c e s => rw [hr2] at hp; exact fun mu' σ' H' e' => hp mu' σ' H' (e0.trans (e1.trans e'))
    | ok v1 st2 =>
      rw [hr2] at hp
      simp only [Rs.bind_ok] at hp
      intro mu2 y H2 e2 r2 s2
      have k2 := (e1.trans e2).keep q _ upd_same (hst.fresh hq)
      refine ⟨k2.1, ?_⟩
      split at hp
      · rename_i ks hks
        obtain ⟨b, rfl, hb⟩ := keys_rel (Rp.mono e2 r1) hks
        refine ⟨ks, b, y, rfl, hb, ?_⟩
        refine hp mu2 (.ref q) _ (ext_tmp (e0.trans (e1.trans e2)) hq) ⟨q, _, rfl, hq, upd_same, k2.2, ?_⟩ (s2.tmpT k2.1 k2.2)
        exact .cons ⟨rfl, r2.mono0 (ext0_tmpT k2.1)⟩ .nil
      · exact hp.elim
/-! ### lists as operands: new ones, or those of the store -/
inductive Lo where
  | r (d : D) | n (ds : List D)
def loR (K : PySem.W.Frag) (H0 H : Hp) (mu : List Addr) (st : Sto) (v : V) : Lo → Prop
  | .r d => Rp K H mu v d
  | .n ds => (RL K).r H0 H mu st v ds
def RX (K : PySem.W.Frag) : RR V Lo := ⟨fun H0 H mu st v z => loR K H0 H mu st v z, fun {_ _ _ _ _ _ _ _ z} e h => by
    cases z with
    | r d => exact h
    | n ds => exact (RL K).anti e h⟩
abbrev tX (K : PySem.W.Frag) (W : Wx) (m : Mo Lo) : TE := tG K W (RX K) m
def mLoR (m : Mo D) : Mo Lo := fun ev st => (m ev st).bind fun d st1 => .ok (.r d) st1
def mLoN (m : Mo (List D)) : Mo Lo := fun ev st => (m ev st).bind fun d st1 => .ok (.n d) st1
theorem mx_ref (h : PE X e (tE X.K W ma)) : PE X e (tX X.K W (mLoR ma)) := by
  refine PE.imp h fun σ H Q ⟨mu, ev, st, he, hst, hp⟩ => ?_
  exact ⟨mu, ev, st, he, hst, hp.bind fun d st1 mu1 x H1 _ e1 r1 s1 hp1 => hp1 _ _ _ .refl r1 s1⟩
theorem mx_new (h : PE X e (tL X.K W mr)) : PE X e (tX X.K W (mLoN mr)) := by
  refine PE.imp h fun σ H Q ⟨mu, ev, st, he, hst, hp⟩ => ?_
  unfold mLoN at hp
  refine ⟨mu, ev, st, he, hst, ?_⟩
  cases hr : mr ev st with
  | bad => rw [hr] at hp; exact hp
  | exc c e s => rw [hr] at hp; exact hp
  | ok ds st1 =>
    rw [hr] at hp
    exact fun mu1 x H1 e1 r1 s1 => hp mu1 x H1 e1 r1 s1
/-- what the operand holds, at the end -/
def loAt (st : Sto) : Lo → Option (List D)
  | .r (.ref i) => (match st[i]? with
    | some (.lst ds) => some ds
    | _ => none)
  | .r _ => none
  | .n ds => some ds
theorem lo_rel {K : PySem.W.Frag} {H0 H1 H2 : Hp} {mu1 mu2 : List Addr} {st1 st2 : Sto} {v : V} {z : Lo} {ds : List D} (h : loR K H0 H1 mu1 st1 v z) (e : Ext mu1 H1 mu2 H2) (hs : RelSt K H2 mu2 st2) (hz : loAt st2 z = some ds) :
    ∃ p vs, v = .ref p ∧ H2 p = some (.lst vs) ∧ Rps K H2 mu2 vs ds := by
  cases z with
  | n ds' =>
    cases hz
    obtain ⟨p, vs, rfl, _, hp, hn, rs⟩ := h
    have k := e.keep p _ hp hn
    exact ⟨p, vs, rfl, k.1, rs.mono e⟩
  | r d =>
    unfold loAt at hz
    split at hz
    · rename_i i eq
      cases eq
      have h := Rp.mono e h
      cases h with
      | ref hi =>
        obtain ⟨ob, ho, ok⟩ := hs.at hi
        rw [ho] at hz
        split at hz
        · rename_i ds' eq; cases eq; cases hz
          obtain ⟨vs, h1, h2⟩ := ok
          exact ⟨_, vs, rfl, h1, h2⟩
        · cases hz
    · cases hz
    · rename_i eq; cases eq
variable {xa xb : Mo Lo}
def mCat (xa xb : Mo Lo) : Mo (List D) := fun ev st => (xa ev st).bind fun u st1 => (xb ev st1).bind fun v st2 => match loAt st2 u, loAt st2 v with
  | some ds, some es => if ds.length + es.length ≤ lim then .ok (ds ++ es) st2 else .bad
  | _, _ => .bad
theorem ml_cat (ha : PE X a (tX X.K W xa)) (hb : PE X b (tX X.K W xb)) : PE X (.BinOp a .Add b pos) (tL X.K W (mCat xa xb)) := by
  refine PE.imp (pe_op op_cat ha hb) fun σ H Q ⟨mu, ev, st, he, hst, hp⟩ => ?_
  refine ⟨mu, ev, st, he, hst, hp.bind fun u st1 mu1 x H1 _ e1 r1 s1 hp1 => ?_⟩
  refine ⟨mu1, ev, st1, he.mono e1, s1, hp1.bind fun v st2 mu2 y H2 _ e2 r2 s2 hp2 => ?_⟩
  split at hp2
  · rename_i ds es h1 h2
    obtain ⟨p1, vs, rfl, k1, k2⟩ := lo_rel r1 e2 s2 h1
    obtain ⟨p2, ws, rfl, k3, k4⟩ := lo_rel r2 .refl s2 h2
    split at hp2
    · rename_i hl
      refine ⟨p1, p2, vs, ws, rfl, rfl, k1, k3, ?_, fun p hp => hp2 _ _ _ (ext_new hp _) ⟨p, _, rfl, hp, upd_same, s2.fresh hp, (k2.append k4).mono (ext_new hp _)⟩ (s2.new hp _)⟩
      rw [k2.length, k4.length]; exact lim_le hl
    · exact hp2.elim
  · exact hp2.elim
theorem Rps.rep {K : PySem.W.Frag} {H : Hp} {mu : List Addr} {vs : List V} {ds : List D} (h : Rps K H mu vs ds) : ∀ n, Rps K H mu (List.replicate n vs).flatten (List.replicate n ds).flatten
  | 0 => .nil
  | n + 1 => by
    rw [List.replicate_succ, List.replicate_succ, List.flatten_cons, List.flatten_cons]
    exact h.append (h.rep n)
def mRep (xa : Mo Lo) (mb : Mo D) : Mo (List D) := fun ev st => (xa ev st).bind fun u st1 => (mb ev st1).bind fun v st2 => match loAt st2 u, v with
  | some ds, .int k => if -(2 ^ 63) ≤ k ∧ k < 2 ^ 63 ∧ ds.length * k.toNat ≤ lim then .ok (List.replicate k.toNat ds).flatten st2 else .bad
  | _, _ => .bad
theorem ml_rep (ha : PE X a (tX X.K W xa)) (hb : PE X b (tE X.K W mb)) : PE X (.BinOp a .Mult b pos) (tL X.K W (mRep xa mb)) := by
  refine PE.imp (pe_op op_rep ha hb) fun σ H Q ⟨mu, ev, st, he, hst, hp⟩ => ?_
  refine ⟨mu, ev, st, he, hst, hp.bind fun u st1 mu1 x H1 _ e1 r1 s1 hp1 => ?_⟩
  refine ⟨mu1, ev, st1, he.mono e1, s1, hp1.bind fun v st2 mu2 y H2 _ e2 r2 s2 hp2 => ?_⟩
  split at hp2
  · rename_i ds k h1 _
    obtain ⟨p1, vs, rfl, k1, k2⟩ := lo_rel r1 e2 s2 h1
    cases r2
    split at hp2
    · rename_i hl
      refine ⟨p1, k, vs, rfl, rfl, k1, hl.1, hl.2.1, ?_, fun p hp => hp2 _ _ _ (ext_new hp _) ⟨p, _, rfl, hp, upd_same, s2.fresh hp, (k2.rep _).mono (ext_new hp _)⟩ (s2.new hp _)⟩
      rw [k2.length]; exact lim_le hl.2.2
    · exact hp2.elim
  · exact hp2.elim
/-! list == list -/
theorem lst_shaped {ds : List D} (h : doks 59 ds = true) : SeqAt.shaped (.list (pds ds)) = true := by
  obtain ⟨h1, h2⟩ := doks_can h
  unfold SeqAt.shaped
  rw [show PyData.canLay0 (.list (pds ds)) = true by simpa [PyData.canLay0] using h1, Bool.true_and]
  refine decide_eq_true ?_
  simp only [PyData.depth]
  omega
def leq (ds es : List D) : Bool := PyData.eqv (.list (pds ds)) (.list (pds es))
def mCmpL (f : Bool → Bool) (xa xb : Mo Lo) : Mo D := fun ev st => (xa ev st).bind fun u st1 => (xb ev st1).bind fun v st2 => match loAt st2 u, loAt st2 v with
  | some ds, some es => if doks 59 ds && doks 59 es then .ok (.bl (f (leq ds es))) st2 else .bad
  | _, _ => .bad
theorem cmpL_go (f : Bool → Bool) {σ : L2.St} {H : Hp} {Q : VK} (h : tE X.K W (mCmpL f xa xb) σ H Q) :
    tOp (fun x y H Q => ∃ d e, Dp X.K H x d ∧ Dp X.K H y e ∧ SeqAt.shaped d = true ∧ SeqAt.shaped e = true ∧ Q (.bl (f (PyData.eqv d e))) H) (tX X.K W xa) (tX X.K W xb) σ H Q := by
  obtain ⟨mu, ev, st, he, hst, hp⟩ := h
  refine ⟨mu, ev, st, he, hst, hp.bind fun u st1 mu1 x H1 _ e1 r1 s1 hp1 => ?_⟩
  refine ⟨mu1, ev, st1, he.mono e1, s1, hp1.bind fun v st2 mu2 y H2 _ e2 r2 s2 hp2 => ?_⟩
  split at hp2
  · rename_i ds es h1 h2
    obtain ⟨p1, vs, rfl, k1, k2⟩ := lo_rel r1 e2 s2 h1
    obtain ⟨p2, ws, rfl, k3, k4⟩ := lo_rel r2 .refl s2 h2
    split at hp2
    · rename_i hl
      rw [Bool.and_eq_true] at hl
      exact ⟨_, _, .lst (.inl (.inl k1)) (k2.dp hl.1), .lst (.inl (.inl k3)) (k4.dp hl.2), lst_shaped hl.1, lst_shaped hl.2, hp2 _ _ _ .refl (.bl _) s2⟩
    · exact hp2.elim
  · exact hp2.elim
theorem me_eqL (hu : X.A.units + 64 < cLine) (ha : PE X a (tX X.K W xa)) (hb : PE X b (tX X.K W xb)) : PE X (.Compare a [.Eq] [b] pos) (tE X.K W (mCmpL id xa xb)) :=
  PE.imp (pe_cmpR (op_eqD hu) ha hb (nomark _)) fun _ _ _ h => cmpL_go id h
theorem me_neL (hu : X.A.units + 64 < cLine) (ha : PE X a (tX X.K W xa)) (hb : PE X b (tX X.K W xb)) : PE X (.Compare a [.NotEq] [b] pos) (tE X.K W (mCmpL (!·) xa xb)) :=
  PE.imp (pe_cmpR (op_neD hu) ha hb (nomark _)) fun _ _ _ h => cmpL_go (!·) h
theorem mt_eqL (hu : X.A.units + 64 < cLine) (ha : PE X a (tX X.K W xa)) (hb : PE X b (tX X.K W xb)) : PT X (.Compare a [.Eq] [b] pos) (tT X.K W (mTest (mCmpL id xa xb))) :=
  PT.imp (pt_cmpR (op_eqD hu) ha hb (nomark _)) fun _ _ _ h => cmpL_go id (tst_go h)
theorem mt_neL (hu : X.A.units + 64 < cLine) (ha : PE X a (tX X.K W xa)) (hb : PE X b (tX X.K W xb)) : PT X (.Compare a [.NotEq] [b] pos) (tT X.K W (mTest (mCmpL (!·) xa xb))) :=
  PT.imp (pt_cmpR (op_neD hu) ha hb (nomark _)) fun _ _ _ h => cmpL_go (!·) (tst_go h)
/-! list(t) -/
theorem qs_list {K : PySem.W.Frag} : QS K (RL K) (fun xs H Q => ∃ p ys, xs = [.ref p] ∧ (SqL K H p ys ∨ SqT K H p ys) ∧ ∀ l, H l = none → Q (.ref l) (upd H l (.lst ys))) some := by
  intro mu H st p vs ds d Q hs sq rs e k
  cases e
  exact ⟨p, vs, rfl, .inl sq, fun l hl => k _ _ _ (ext_new hl _) ⟨l, _, rfl, hl, upd_same, hs.fresh hl, rs.mono (ext_new hl _)⟩ (hs.new hl _)⟩
theorem ml_listT (hg : Gl X "list") (hm : X.mg "list" = none) (ha : PE X e (tE X.K W ma)) (he : starEach [e] X.env = (false, eval e X.env) :: starEach [] X.env := by rfl) : PE X (.Call (.Name "list" p) [e] [] pos) (tL X.K W (mTupOf ma)) := by
  refine PE.imp (pe_callTy call_list_of hg hm bt_list (pa_cons (mqt_of ha) pa_nil he) (by decide) (by decide) he rfl) fun σ H Q ⟨mu, ev, st, he, hst, hp⟩ => ?_
  refine ⟨mu, ev, st, he, hst, ?_⟩
  cases hr : mTupOf ma ev st with
  | bad => rw [hr] at hp; exact hp
  | exc c e s => rw [hr] at hp; exact hp
  | ok ds st1 =>
  rw [hr] at hp
  intro mu1 x H1 e1 r1 s1
  have hp1 := Post.from hp e1
  obtain ⟨q, vs, rfl, sq, rs⟩ := r1
  exact ⟨q, vs, rfl, .inr sq, fun l hl => hp1 _ _ _ (ext_new hl _) ⟨l, _, rfl, hl, upd_same, s1.fresh hl, rs.mono (ext_new hl _)⟩ (s1.new hl _)⟩
/-! xs.append(v), xs.extend(ys) of a list of the store -/
def isLst (st : Sto) : D → Bool
  | .ref i => (match st[i]? with
    | some (.lst _) => true
    | _ => false)
  | _ => false
theorem isLst_rel {K : PySem.W.Frag} {H : Hp} {mu : List Addr} {st : Sto} (hs : RelSt K H mu st) {x : V} {d : D} (hx : Rp K H mu x d) (h : isLst st d = true) : tyV K "list" x H := by
  unfold isLst at h
  split at h
  · cases hx with
    | ref hi =>
      obtain ⟨ob, ho, ok⟩ := hs.at hi
      rw [ho] at h
      split at h
      · rename_i ds eq; cases eq
        obtain ⟨vs, h1, h2⟩ := ok
        exact .inl ⟨rfl, _, .inl (.inl h1)⟩
      · cases h
  · cases h
def mAppend (ma mv : Mo D) : Mo D := fun ev st => (ma ev st).bind fun d st1 => if isLst st1 d = true then (mv ev st1).bind fun v st2 => match d with
  | .ref i => (match st2[i]? with
    | some (.lst ds) => if ds.length + 1 ≤ lim then .ok .non (st2.set i (.lst (ds ++ [v]))) else .bad
    | _ => .bad)
  | _ => .bad else .bad
theorem me_append (ho : PE X o (tE X.K W ma)) (hv : PE X e (tE X.K W mv)) (hbase : attributeBase o "append" X.env (eval o X.env) = eval o X.env := by rfl)
    (hfew : ((backTo cpos (starEach [e] X.env)).all (fun x => !x.1) && (backToKw cpos (keywordEach [] X.env)).all (fun x => x.1.isSome)
      && decide ([e].length + ([] : List Keyword).length + (if ([] : List Keyword).isEmpty then 0 else 1) < 30)) = true := by rfl)
    (hline : (apos.endLine == cpos.line) = true := by rfl) (hs : starEach [e] X.env = (false, eval e X.env) :: starEach [] X.env := by rfl) :
    PE X (.Call (.Attribute o "append" apos) [e] [] cpos) (tE X.K W (mAppend ma mv)) := by
  refine PE.imp (pe_bm PySem.F.plainAttrs_list PySem.F.slot_list_append PySem.F.type_list_append mt_append ho (pa_cons hv pa_nil hs) hbase hfew hline hs rfl) fun σ H Q ⟨mu, ev, st, he, hst, hp⟩ => ?_
  refine ⟨mu, ev, st, he, hst, hp.bind fun d st1 mu1 x H1 _ e1 r1 s1 hp1 => ?_⟩
  split at hp1
  · rename_i hl
    refine ⟨isLst_rel s1 r1 hl, ?_⟩
    refine ⟨mu1, ev, st1, he.mono e1, s1, hp1.bind fun v st2 mu2 y H2 _ e2 r2 s2 hp2 => ?_⟩
    have r1 := Rp.mono e2 r1
    split at hp2
    · cases r1 with
      | ref hi =>
        obtain ⟨ob, ho, ok⟩ := s2.at hi
        rw [ho] at hp2
        split at hp2
        · rename_i ds eq; cases eq
          obtain ⟨vs, h1, h2⟩ := ok
          split at hp2
          · rename_i hz
            have e0 : Ext mu2 H2 mu2 (upd H2 _ (.lst (vs ++ [y]))) := ext_write s2 (List.mem_of_getElem? hi) (fun ob w z => by rw [h1] at z; cases z) _
            refine ⟨_, vs, y, rfl, rfl, h1, by rw [h2.length]; exact lim_lt (by omega), ?_⟩
            exact hp2 _ _ _ e0 .non (s2.write hi ⟨_, upd_same, (h2.append (.cons r2 .nil)).mono e0⟩)
          · exact hp2.elim
        · exact hp2.elim
    · exact hp2.elim
  · exact hp1.elim
/-! a list or dict just told by a call is locked for good -/
theorem pe_frz {t : TE} (h : PE X e t) : PE X e (fun σ H Q => t σ H fun x H1 => ∃ d u, H1 d = some u ∧ Mut (some u) ∧ ∀ od, Q x (upd H1 d (.frz od u))) := by
  refine ⟨fun pins s σ H Q I hw => ?_⟩
  refine thn (h.run pins s σ H _ I hw) fun v s1 ⟨x, H1, I1, r, d, u, hd, mu, q⟩ => ?_
  obtain ⟨od, I2⟩ := I1.lock hd mu
  exact ⟨x, _, I2, r, q od⟩
def mFrz (ma : Mo D) : Mo D := fun ev st => (ma ev st).bind fun d st1 => match d with
  | .ref n => (match st1[n]? with
    | some ob => (match lockO ob with
      | some ob' => .ok (.ref n) (st1.set n ob')
      | none => .bad)
    | none => .bad)
  | _ => .bad
theorem me_frz (h : PE X e (tE X.K W ma)) : PE X e (tE X.K W (mFrz ma)) := by
  refine PE.imp (pe_frz h) fun σ H Q ⟨mu, ev, st, he, hst, hp⟩ => ?_
  refine ⟨mu, ev, st, he, hst, hp.bind fun d st1 mu1 x H1 _ e1 r1 s1 hp1 => ?_⟩
  split at hp1
  · cases r1 with
    | ref hi =>
      obtain ⟨ob, ho, ok⟩ := s1.at hi
      rw [ho] at hp1
      simp only at hp1
      split at hp1
      · rename_i ob' hl
        obtain ⟨u, hu, mt, hod, nf, nt⟩ := lock_rel s1 hi ho hl
        refine ⟨_, u, hu, mt, fun od => hp1 mu1 _ _ (ext_write s1 (List.mem_of_getElem? hi) (fun ob w z => by rw [hu] at z; exact nf _ _ (Option.some.inj z)) _) (.ref hi) (hod od).2⟩
      · exact hp1.elim
  · exact hp1.elim
end Ml

namespace Ml
open PySem L2 HT PyProof.Rows
section
variable {prog : Program} {w : World} {A : Around} {E : Value → Shared → Prop} {s : Shared}
/-! ### t[::-1] of a tuple -/
theorem fm_congr {α β : Type} {f g : α → Option β} : ∀ (l : List α), (∀ x ∈ l, f x = g x) → l.filterMap f = l.filterMap g
  | [], _ => rfl
  | x :: l, h => by
    rw [List.filterMap_cons, List.filterMap_cons, h x (List.mem_cons_self ..), fm_congr l fun y hy => h y (List.mem_cons_of_mem _ hy)]
theorem rev_pick (xs : Array Value) : ((List.range xs.size).filterMap fun (m : Nat) => xs[(((xs.size : Int) - 1) + (m : Int) * (-1)).toNat]?).toArray = xs.toList.reverse.toArray := by
  congr 1
  refine List.ext_getElem? fun i => ?_
  have e : (List.range xs.size).filterMap (fun (m : Nat) => xs[(((xs.size : Int) - 1) + (m : Int) * (-1)).toNat]?) = (List.range xs.size).map fun m => xs.toList[xs.size - 1 - m]?.getD .none := by
    rw [← List.filterMap_eq_map]
    refine fm_congr _ fun m hm => ?_
    have hm := List.mem_range.mp hm
    have e1 : (((xs.size : Int) - 1) + (m : Int) * (-1)).toNat = xs.size - 1 - m := by omega
    rw [e1]
    have h2 : xs.size - 1 - m < xs.size := by omega
    simp [h2]
  rw [e]
  by_cases hi : i < xs.size
  · have h2 : xs.size - 1 - i < xs.size := by omega
    simp [hi, h2]
  · simp [hi]
theorem sliceApplied_rev {sl : Addr} {vl vu vs : Value} {n : Nat} {Q : Int × Int × Nat → Shared → Prop} (hs : s.heap.IsSliceOf sl vl vu vs) (pl : IsPart vl none) (pu : IsPart vu none) (ps : IsPart vs (some (-1)))
    (h : Q (((n : Int) - 1), -1, n) s) : wpAny (model prog w) A (Builtin.Slice.sliceApplied (.ref sl) (pure (n : Int))) Q E s := by
  obtain ⟨os, hos, hcs, hds⟩ := id hs
  unfold Builtin.Slice.sliceApplied Builtin.Slice.sliceFields
  refine wpAny_bind (wpAny_bind (wpAny_field hos hds (x := vl) rfl (wpAny_bind (wpAny_field hos hds (x := vu) rfl (wpAny_bind (wpAny_field hos hds (x := vs) rfl (wpAny_pure ?_)))))))
  refine wpAny_bind (slicePart_ ps ?_)
  show wpAny _ _ (if ((-1 : Int) == 0) = true then _ else _) _ _ s
  rw [if_neg (by decide)]
  refine wpAny_bind (slicePart_ pl (wpAny_bind (slicePart_ pu (wpAny_bind (wpAny_pure ?_)))))
  show wpAny _ _ (match Builtin.Slice.sliceAdjust none none (-1) (n : Int) with | (lo, hi) => pure (lo, (-1 : Int), Builtin.Slice.slicePlaces lo hi (-1))) _ _ s
  have e1 : Builtin.Slice.sliceAdjust none none (-1) (n : Int) = ((n : Int) - 1, -1) := by
    unfold Builtin.Slice.sliceAdjust
    simp
  have e2 : Builtin.Slice.slicePlaces ((n : Int) - 1) (-1) (-1) = n := by
    unfold Builtin.Slice.slicePlaces
    have h1 : ¬ ((-1 : Int) > 0) := by decide
    rw [if_neg h1, show (- -1 : Int) = 1 by decide, Int.ediv_one]
    split <;> omega
  rw [e1]
  show wpAny _ _ (pure ((n : Int) - 1, (-1 : Int), Builtin.Slice.slicePlaces ((n : Int) - 1) (-1) (-1))) _ _ s
  rw [e2]
  exact wpAny_pure h
theorem getItem_tuple_rev {t sl : Addr} {items : Array Value} {vl vu vs : Value} {Q : Value → Shared → Prop} (ht : IsTup s.heap t items) (hs : s.heap.IsSliceOf sl vl vu vs) (pl : IsPart vl none) (pu : IsPart vu none) (ps : IsPart vs (some (-1)))
    (h : Q (.ref s.heap.objs.size) { s with heap := s.heap.push { cls := .type "tuple", data := .seq items.toList.reverse.toArray } })
    (hsz : items.size ≤ sizeLine) : wpAny (model prog w) A (getItem (.ref t) (.ref sl)) Q E s := by
  have htake : sizeOk (.seq items.toList.reverse.toArray) := by
    show items.toList.reverse.toArray.size ≤ sizeLine
    rw [List.size_toArray, List.length_reverse, Array.length_toList]
    omega
  obtain ⟨os, hos, hcs, hds⟩ := id hs
  have hTs : s.TypeIs (.ref sl) "slice" := ⟨os, hos, hcs⟩
  unfold getItem
  try with_reducible refine wpAny_holding ?_
  first | refine wpAny_bind (wpAny_pure ?_) | skip
  refine wpAny_bind (wpAny_sequenceKey ht.typeIs (by decide) ?_)
  refine wpAny_bind (wpAny_callSpecial?_slot (name := Str.ofString "__getitem__") ht.typeIs PyProof.Rows.slot_tuple_getitem
    (wpAny_call_entry PyProof.Rows.slot_tuple_getitem ht.typeIs entry_tuple_getitem ?_ (args_tuple_getitem _ _)))
  show wpAny _ _ (Builtin.Tuple.tupleItemsOf (.ref t) >>= _) _ _ s
  refine wpAny_bind (tupleItemsOf_ ht ?_)
  refine wpAny_bind (wpAny_typeOf hTs ?_)
  rw [if_pos (by decide)]
  refine wpAny_bind (sliceApplied_rev hs pl pu ps ?_)
  have hno : ¬ ((((items.size : Int) - 1) == 0 && (-1 : Int) == 1 && items.size == items.size) = true) := by
    intro q
    rw [Bool.and_eq_true, Bool.and_eq_true] at q
    exact absurd q.1.2 (by decide)
  show wpAny _ _ (if (((items.size : Int) - 1) == 0 && (-1 : Int) == 1 && items.size == items.size) = true then _ else _) _ _ s
  rw [if_neg hno, rev_pick]
  first
    | exact wpAny_bind (m := Builtin.Tuple.tupleExact _) (wpAny_newObj_type (wpAny_pure ⟨_, rfl, wpAny_pure h⟩) htake)
    | exact wpAny_bind (m := Builtin.Tuple.tupleExact _) (wpAny_newObj_type (wpAny_bind (wpAny_pure (wpAny_pure ⟨_, rfl, wpAny_pure h⟩))) htake)
    | exact wpAny_bind (wpAny_bind (m := Builtin.Tuple.tupleExact _) (wpAny_newObj_type (wpAny_pure (wpAny_pure ⟨_, rfl, wpAny_pure h⟩)) htake))
    | exact wpAny_bind (wpAny_bind (m := Builtin.Tuple.tupleExact _) (wpAny_newObj_type (wpAny_pure ⟨_, rfl, wpAny_pure h⟩) htake))
end
variable {X : Cx} {W : Wx} {a b c e o i : Expr} {es rest : List Expr} {pos p q apos cpos pos' : Pos} {ma mb mc mk mx mv : Mo D} {mr mq : Mo (List D)} {ta tb : Mo Bool} {s1 s2 : Ms}
def tRevT (K : PySem.W.Frag) (te : TE) : TE := fun σ H Q => te σ H fun x H1 => ∃ a xs, x = .ref a ∧ SqT K H1 a xs ∧ ∀ p, H1 p = none → Q (.ref p) (upd H1 p (.tup xs.reverse))
theorem pe_revT {te : TE} {k : Nat} {p1 p2 p3 : Pos} (he : PE X e te) : PE X (.Subscript e (.Slice none none (some (.UnaryOp .USub (.Constant (.int 1) k p1) p2)) p3) pos) (tRevT X.K te) := by
  refine ⟨fun pins s σ H Q I h => ?_⟩
  refine Subscript_ (thn (he.run pins s σ H _ I h) fun v s1 ⟨x, H1, I1, r1, q1⟩ => ?_)
  obtain ⟨a, xs, ex, hx, q⟩ := q1
  subst ex
  cases r1
  have hst : PO X (some (.UnaryOp .USub (.Constant (.int 1) k p1) p2)) (tPart (tUn (rU fun i => .int (-i)) (tC (.int 1)))) := po_some (pe_un un_neg pe_int)
  refine wpAny_Slice (thn (po_none.run pins s1 σ H1 (fun o H2 => o = none ∧ H2 = H1) I1 ⟨rfl, rfl⟩) fun vl s2 ⟨l, H2, I2, pl, el, e2⟩ => ?_)
  subst el e2
  refine thn (po_none.run pins s2 σ H2 (fun o H3 => o = none ∧ H3 = H2) I2 ⟨rfl, rfl⟩) fun vu s3 ⟨u, H3, I3, pu, eu, e3⟩ => ?_
  subst eu e3
  refine thn (hst.run pins s3 σ H3 (fun o H4 => o = some (-1) ∧ H4 = H3) I3 ⟨1, rfl, -1, rfl, rfl, rfl⟩) fun vs s4 ⟨o, H4, I4, ps, eo, e4⟩ => ?_
  subst eo e4
  have I5 : Inv X pins σ H4 { s4 with heap := s4.heap.push { cls := .type "slice", data := .fields #[vl, vu, vs] } } := I4.kept (t' := s4.toks) fun b ob q => Heap.get?_push_of_some _ q
  obtain ⟨its, r, ht, hz⟩ := I5.tuple hx
  have hlen := r.length
  show wpAny (model X.prog X.w) X.A (subscriptTail e (.Slice none none (some (.UnaryOp .USub (.Constant (.int 1) k p1) p2)) p3) (.ref a) (.ref s4.heap.objs.size)) (EP X pins σ Q) X.xe { s4 with heap := s4.heap.push { cls := .type "slice", data := .fields #[vl, vu, vs] } }
  refine tail_any (ops := [.ref a, .ref s4.heap.objs.size]) ht.typeIs (PyProof.Rows.slot_tuple_getitem.lookup) ?_ (by with_unfolding_all rfl)
  refine getItem_tuple_rev ht (Heap.IsSliceOf.new _ vl vu vs) pl pu ps ?_ (by rw [List.size_toArray]; omega)
  refine ⟨.ref _, _, I5.laid (t' := s4.toks) (o := .tup xs.reverse) (fun b ob q => Heap.get?_push_of_some _ q) (Nat.le_refl _) ?_, rfl, q _ (I5.hok.fresh (Nat.le_refl _))⟩
  exact ⟨by rw [List.length_reverse]; exact hz, _, r.reverse, IsTup.new _ _⟩
def mRevT (ma : Mo D) : Mo D := fun ev st => (ma ev st).bind fun d st1 => match d with
  | .tup ds => .ok (.tup ds.reverse) st1
  | _ => .bad
theorem me_revT {k : Nat} {p1 p2 p3 : Pos} (h : PE X e (tE X.K W ma)) : PE X (.Subscript e (.Slice none none (some (.UnaryOp .USub (.Constant (.int 1) k p1) p2)) p3) pos) (tE X.K W (mRevT ma)) := by
  refine PE.imp (pe_revT h) fun σ H Q ⟨mu, ev, st, he, hst, hp⟩ => ?_
  refine ⟨mu, ev, st, he, hst, hp.bind fun d st1 mu1 x H1 _ e1 r1 s1 hp1 => ?_⟩
  split at hp1
  · cases r1 with
    | tup h hs => exact ⟨_, _, rfl, h.sq, fun p hp => hp1 _ _ _ (ext_new hp _) (.tup (.inl upd_same) (hs.reverse.mono (ext_new hp _))) (s1.new hp _)⟩
  · exact hp1.elim
/-! ### s.upper(), s * k -/
def mUpper (ma : Mo D) : Mo D := fun ev st => (ma ev st).bind fun d st1 => match d with
  | .str x => if x.length ≤ lim then .ok (.str (Txt.upper x)) st1 else .bad
  | _ => .bad
theorem me_upper (h : PE X o (tE X.K W ma)) (hbase : attributeBase o "upper" X.env (eval o X.env) = eval o X.env := by rfl) (hline : (apos.endLine == pos.line) = true := by rfl) : PE X (.Call (.Attribute o "upper" apos) [] [] pos) (tE X.K W (mUpper ma)) := by
  refine PE.imp (pe_upper h hbase hline) fun σ H Q ⟨mu, ev, st, he, hst, hp⟩ => ?_
  refine ⟨mu, ev, st, he, hst, hp.bind fun d st1 mu1 x H1 _ e1 r1 s1 hp1 => ?_⟩
  split at hp1
  · split at hp1
    · rename_i hl
      cases r1
      exact ⟨⟨_, rfl⟩, _, rfl, rfl, Nat.le_trans hl (by decide), hp1 _ _ _ .refl (.str _) s1⟩
    · exact hp1.elim
  · exact hp1.elim
def mul2Ok (x : Str) (n : Int) : Bool := decide (2 ≤ n) && decide (n ≤ 1000) && decide (x.length ≤ 1000)
theorem mulOk_of {x : Str} {n : Int} (h : mul2Ok x n = true) : MulOk x n := by
  unfold mul2Ok at h
  simp only [Bool.and_eq_true, decide_eq_true_eq] at h
  obtain ⟨⟨h1, h2⟩, h3⟩ := h
  refine ⟨by simp; omega, fun _ _ => ?_, fun _ _ => ?_⟩
  · have : (1000 : Int) ≤ (2 ^ 63 - 1) / n := by
      rw [Int.le_ediv_iff_mul_le (by omega)]
      omega
    omega
  · unfold PySem.Builtin.Str.tooLong
    refine decide_eq_false ?_
    have : x.length * n.toNat ≤ 1000 * 1000 := Nat.mul_le_mul h3 (by omega)
    rw [sizeLine_eq]
    omega
def gMulS : G2 := fun a b st => match a, b with
  | .str x, .int n => if mul2Ok x n then some (.str (Txt.mul x n), st) else none
  | _, _ => none
def rMulS : R2 := fun x y H Q => ∃ a n, x = .str a ∧ y = .int n ∧ MulOk a n ∧ Q (.str (Txt.mul a n)) H
theorem op_mulS : OpR X (binaryOp .Mult) rMulS := by
  intro pins s σ H x y v u Q I rx ry h
  obtain ⟨a, n, rfl, rfl, hok, q⟩ := h
  obtain ⟨t, rfl⟩ := rx
  obtain ⟨t', rfl⟩ := ry
  exact SB.mul hok fun t2 k => ⟨.str _, H, I.tok _, ⟨_, rfl⟩, q⟩
theorem opS_mulS {K : PySem.W.Frag} : OpS K rMulS gMulS := by
  intro mu H st st' x y a b d Q hs hx hy e k
  unfold gMulS at e
  split at e
  · split at e
    · rename_i hc
      cases e; cases hx; cases hy
      exact ⟨_, _, rfl, rfl, mulOk_of hc, k _ _ _ .refl (.str _) hs⟩
    · cases e
  · cases e
theorem me_mulS (ha : PE X a (tE X.K W ma)) (hb : PE X b (tE X.K W mb)) : PE X (.BinOp a .Mult b pos) (tE X.K W (mOp gMulS ma mb)) := me_op op_mulS opS_mulS ha hb
end Ml

namespace Ml
open PySem L2
variable {X : Cx} {W : Wx} {a b c e o i : Expr} {es rest : List Expr} {pos p q apos cpos pos' : Pos} {ma mb mc mk mx mv : Mo D} {mr mq : Mo (List D)} {ta tb : Mo Bool} {s1 s2 : Ms} {xa xb : Mo Lo}
theorem u65 {k : Nat} {A : Around} (r : Room k A) : A.units + 65 < cLine := by have := r.un; omega
/-! x in l, the items being data of any depth -/
theorem pds_any (d : D) : ∀ ds : List D, (pds ds).any (fun z => PyData.eqv z d.pd) = ds.any fun z => deq z d
  | [] => by simp [pds]
  | x :: ds => by simp [pds, List.any_cons, pds_any d ds, deq]
def mInL (f : Bool → Bool) (ma : Mo D) (xb : Mo Lo) : Mo D := fun ev st => (ma ev st).bind fun d st1 => (xb ev st1).bind fun v st2 => match loAt st2 v with
  | some es => if d.dok 60 && doks 59 es then .ok (.bl (f (es.any fun z => deq z d))) st2 else .bad
  | none => .bad
theorem inL_go (f : Bool → Bool) {σ : L2.St} {H : Hp} {Q : VK} (h : tE X.K W (mInL f ma xb) σ H Q) :
    tOp (fun x y H Q => ∃ d ds, Dp X.K H x d ∧ Dp X.K H y (.list ds) ∧ SeqAt.shaped d = true ∧ SeqAt.shaped (.list ds) = true ∧ Q (.bl (f (ds.any fun z => PyData.eqv z d))) H) (tE X.K W ma) (tX X.K W xb) σ H Q := by
  obtain ⟨mu, ev, st, he, hst, hp⟩ := h
  refine ⟨mu, ev, st, he, hst, hp.bind fun u st1 mu1 x H1 _ e1 r1 s1 hp1 => ?_⟩
  refine ⟨mu1, ev, st1, he.mono e1, s1, hp1.bind fun v st2 mu2 y H2 _ e2 r2 s2 hp2 => ?_⟩
  split at hp2
  · rename_i es h2
    obtain ⟨p2, ws, rfl, k3, k4⟩ := lo_rel r2 .refl s2 h2
    split at hp2
    · rename_i hl
      rw [Bool.and_eq_true] at hl
      refine ⟨u.pd, pds es, (Rp.mono e2 r1).dp hl.1, .lst (.inl (.inl k3)) (k4.dp hl.2), dok_shaped hl.1, lst_shaped hl.2, ?_⟩
      rw [pds_any]
      exact hp2 _ _ _ .refl (.bl _) s2
    · exact hp2.elim
  · exact hp2.elim
theorem me_inL (hu : X.A.units + 65 < cLine) (ha : PE X a (tE X.K W ma)) (hb : PE X b (tX X.K W xb)) (hm : behindInMarks .In b = false := by rfl) : PE X (.Compare a [.In] [b] pos) (tE X.K W (mInL id ma xb)) :=
  PE.imp (pe_cmpR (op_inD hu) ha hb hm) fun _ _ _ h => inL_go id h
theorem mt_inL (hu : X.A.units + 65 < cLine) (ha : PE X a (tE X.K W ma)) (hb : PE X b (tX X.K W xb)) (hm : behindInMarks .In b = false := by rfl) : PT X (.Compare a [.In] [b] pos) (tT X.K W (mTest (mInL id ma xb))) :=
  PT.imp (pt_cmpR (op_inD hu) ha hb hm) fun _ _ _ h => inL_go id (tst_go h)
theorem me_ninL (hu : X.A.units + 65 < cLine) (ha : PE X a (tE X.K W ma)) (hb : PE X b (tX X.K W xb)) (hm : behindInMarks .NotIn b = false := by rfl) : PE X (.Compare a [.NotIn] [b] pos) (tE X.K W (mInL (!·) ma xb)) :=
  PE.imp (pe_cmpR (op_notInD hu) ha hb hm) fun _ _ _ h => inL_go (!·) h
theorem mt_ninL (hu : X.A.units + 65 < cLine) (ha : PE X a (tE X.K W ma)) (hb : PE X b (tX X.K W xb)) (hm : behindInMarks .NotIn b = false := by rfl) : PT X (.Compare a [.NotIn] [b] pos) (tT X.K W (mTest (mInL (!·) ma xb))) :=
  PT.imp (pt_cmpR (op_notInD hu) ha hb hm) fun _ _ _ h => inL_go (!·) (tst_go h)
end Ml

namespace Ml
open PySem L2
variable {X : Cx} {W : Wx} {a b c e o i : Expr} {es rest : List Expr} {pos p q apos cpos pos' : Pos} {ma mb mc mk mx mv : Mo D} {mr mq : Mo (List D)} {ta tb : Mo Bool} {s1 s2 : Ms} {xa xb : Mo Lo}
/-! l.extend(x) -/
def mExtend (ma : Mo D) (xb : Mo Lo) : Mo D := fun ev st => (ma ev st).bind fun d st1 => if isLst st1 d = true then (xb ev st1).bind fun v st2 => match d with
  | .ref i => (match st2[i]?, loAt st2 v with
    | some (.lst ds), some es => if ds.length + es.length ≤ lim then .ok .non (st2.set i (.lst (ds ++ es))) else .bad
    | _, _ => .bad)
  | _ => .bad else .bad
theorem me_extend (ho : PE X o (tE X.K W ma)) (hv : PE X e (tX X.K W xb)) (hbase : attributeBase o "extend" X.env (eval o X.env) = eval o X.env := by rfl)
    (hfew : ((backTo cpos (starEach [e] X.env)).all (fun x => !x.1) && (backToKw cpos (keywordEach [] X.env)).all (fun x => x.1.isSome)
      && decide ([e].length + ([] : List Keyword).length + (if ([] : List Keyword).isEmpty then 0 else 1) < 30)) = true := by rfl)
    (hline : (apos.endLine == cpos.line) = true := by rfl) (hs : starEach [e] X.env = (false, eval e X.env) :: starEach [] X.env := by rfl) :
    PE X (.Call (.Attribute o "extend" apos) [e] [] cpos) (tE X.K W (mExtend ma xb)) := by
  refine PE.imp (pe_bm PySem.F.plainAttrs_list PySem.F.slot_list_extend PySem.F.type_list_extend mt_extend ho (pa_cons hv pa_nil hs) hbase hfew hline hs rfl) fun σ H Q ⟨mu, ev, st, he, hst, hp⟩ => ?_
  refine ⟨mu, ev, st, he, hst, hp.bind fun d st1 mu1 x H1 _ e1 r1 s1 hp1 => ?_⟩
  split at hp1
  · rename_i hl
    refine ⟨isLst_rel s1 r1 hl, ?_⟩
    refine ⟨mu1, ev, st1, he.mono e1, s1, hp1.bind fun v st2 mu2 y H2 _ e2 r2 s2 hp2 => ?_⟩
    have r1 := Rp.mono e2 r1
    split at hp2
    · cases r1 with
      | ref hi =>
        obtain ⟨ob, ho, ok⟩ := s2.at hi
        rw [ho] at hp2
        split at hp2
        · rename_i ds es eq h2
          cases eq
          obtain ⟨vs, h1, h3⟩ := ok
          obtain ⟨p2, ws, rfl, k3, k4⟩ := lo_rel r2 .refl s2 h2
          split at hp2
          · rename_i hz
            have e0 : Ext mu2 H2 mu2 (upd H2 _ (.lst (vs ++ ws))) := ext_write s2 (List.mem_of_getElem? hi) (fun ob w z => by rw [h1] at z; cases z) _
            refine ⟨_, p2, vs, ws, rfl, rfl, h1, k3, by rw [h3.length, k4.length]; exact lim_le hz, ?_⟩
            exact hp2 _ _ _ e0 .non (s2.write hi ⟨_, upd_same, (h3.append k4).mono e0⟩)
          · exact hp2.elim
        · exact hp2.elim
    · exact hp2.elim
  · exact hp1.elim
/-! l[lo:hi] of a list: a new one -/
def mSlL (xa : Mo Lo) (ml mh : MoO) : Mo (List D) := fun ev st => (xa ev st).bind fun v st1 => (ml ev st1).bind fun lo st2 => (mh ev st2).bind fun hi st3 => match loAt st3 v with
  | some ds => .ok (cutD ds lo hi) st3
  | none => .bad
theorem ml_slice {lo hi : Option Expr} {ml mh : MoO} {p2 : Pos} (ha : PE X e (tX X.K W xa)) (hl : PO X lo (tO X.K W ml)) (hu : PO X hi (tO X.K W mh)) : PE X (.Subscript e (.Slice lo hi none p2) pos) (tL X.K W (mSlL xa ml mh)) := by
  refine PE.imp (pe_slice sl_list ha hl hu) fun σ H Q ⟨mu, ev, st, he, hst, hp⟩ => ?_
  refine ⟨mu, ev, st, he, hst, hp.bind fun v st1 mu1 x H1 _ e1 r1 s1 hp1 => ?_⟩
  refine ⟨mu1, ev, st1, he.mono e1, s1, hp1.bind fun lo st2 mu2 y H2 _ e2 r2 s2 hp2 => ?_⟩
  refine ⟨mu2, ev, st2, (he.mono e1).mono e2, s2, hp2.bind fun hi st3 mu3 z H3 _ e3 r3 s3 hp3 => ?_⟩
  split at hp3
  · rename_i ds h3
    obtain ⟨p2, ws, rfl, k3, k4⟩ := lo_rel r1 (e2.trans e3) s3 h3
    refine ⟨p2, ws, rfl, .inl (.inl k3), fun p hn => ?_⟩
    cases r2; cases r3
    exact hp3 _ _ _ (ext_new hn _) ⟨p, _, rfl, hn, upd_same, s3.fresh hn, Rps.ctx hn (k4.cut _ _)⟩ (s3.new hn _)
  · exact hp3.elim
/-! max(l) of a list of whole numbers -/
def maxI : List Int → Int
  | [] => 0
  | [n] => n
  | n :: ns => if maxI ns ≤ n then n else maxI ns
theorem maxI_mem : ∀ (ns : List Int), ns ≠ [] → maxI ns ∈ ns ∧ ∀ y ∈ ns, y ≤ maxI ns
  | [], h => absurd rfl h
  | [n], _ => by simp [maxI]
  | n :: m :: ns, _ => by
    obtain ⟨h1, h2⟩ := maxI_mem (m :: ns) (by simp)
    rw [maxI]
    · split
      · refine ⟨List.mem_cons_self, fun y hy => ?_⟩
        rcases List.mem_cons.mp hy with rfl | hy
        · exact Int.le_refl _
        · have := h2 y hy; omega
      · refine ⟨List.mem_cons_of_mem _ h1, fun y hy => ?_⟩
        rcases List.mem_cons.mp hy with rfl | hy
        · omega
        · exact h2 y hy
    · simp
def gMaxL (ds : List D) : Option D := match intsOf ds with
  | some (n :: ns) => some (.int (maxI (n :: ns)))
  | _ => none
theorem qs_max {K : PySem.W.Frag} : QS K (RE K) (rMax K) gMaxL := by
  intro mu H st p vs ds d Q hs sq rs e k
  unfold gMaxL at e
  cases hq : intsOf ds with
  | none => rw [hq] at e; cases e
  | some ns =>
    rw [hq] at e
    cases ns with
    | nil => cases e
    | cons n ns =>
      cases e
      refine ⟨p, n :: ns, rfl, by rw [← Rps.ints rs hq]; exact sq, by simp, fun m hm hle => ?_⟩
      obtain ⟨h1, h2⟩ := maxI_mem (n :: ns) (by simp)
      have : m = maxI (n :: ns) := by
        have := hle _ h1
        have := h2 _ hm
        omega
      subst this
      exact k _ _ _ .refl (.int _) hs
/-! enumerate of a locked list -/
def enumD : Nat → List D → List D
  | _, [] => []
  | i, d :: ds => .tup [.int i, d] :: enumD (i + 1) ds
theorem enumD_len : ∀ (i : Nat) (ds : List D), (enumD i ds).length = ds.length
  | _, [] => rfl
  | i, d :: ds => by simp [enumD, enumD_len (i + 1) ds]
theorem enumD_get : ∀ {k : Nat} {ds : List D} {j : Nat} {z : D}, (enumD k ds)[j]? = some z → ∃ x, ds[j]? = some x ∧ z = .tup [.int ((k + j : Nat) : Int), x]
  | k, [], j, z, h => by simp [enumD] at h
  | k, d :: ds, 0, z, h => by simp [enumD] at h; exact ⟨d, rfl, h.symm⟩
  | k, d :: ds, j + 1, z, h => by
    obtain ⟨x, h1, h2⟩ := enumD_get (k := k + 1) (ds := ds) (j := j) (by simpa [enumD] using h)
    exact ⟨x, by simpa using h1, by rw [h2, show k + 1 + j = k + (j + 1) by omega]⟩
def mEnum (ma : Mo D) : Mo (List D) := fun ev st => (ma ev st).bind fun d st1 => match d with
  | .ref j => (match st1[j]? with
    | some ob => (match itemsK .lst ob with
      | some ds => .ok (enumD 0 ds) st1
      | none => .bad)
    | none => .bad)
  | _ => .bad
theorem iter_enum {K : PySem.W.Frag} {H0 : Hp} {d : Addr} {od : Obj} {vs : List V} {ds : List D} : IterOk K H0 (Ite K d) (enumD 0 ds) (fun H mu => H d = some (.frz od (.lst vs)) ∧ Rps K H mu vs ds) := by
  refine ⟨?_, ?_, ?_, ?_, ?_⟩
  · rintro H mu i x ⟨h1, h2⟩ hx
    obtain ⟨y, hy, rfl⟩ := enumD_get hx
    obtain ⟨v, hv, _⟩ := h2.get hy
    exact ⟨vs, v, .inl (.inr ⟨od, h1⟩), hv⟩
  · rintro H mu st i x v H' hst ⟨h1, h2⟩ hx ⟨T, z, rfl, hT, rfl, hz⟩
    obtain ⟨y, hy, rfl⟩ := enumD_get hx
    obtain ⟨w, hw, rw'⟩ := h2.get hy
    have := hz vs (.inl (.inr ⟨od, h1⟩))
    rw [hw] at this
    cases this
    rw [Nat.zero_add]
    exact ⟨ext_new hT _, .tup (.inl upd_same) (.cons (.int _) (.cons (rw'.mono (ext_new hT _)) .nil)), hst.new hT _⟩
  · rintro H mu ⟨h1, h2⟩
    exact ⟨vs, .inl (.inr ⟨od, h1⟩), Nat.le_of_eq (by rw [Rps.length h2, enumD_len])⟩
  · rintro H mu H' mu' ⟨h1, h2⟩ e
    exact ⟨e.frz _ _ _ h1, h2.mono e⟩
  · rintro H mu q' l l' ⟨h1, h2⟩ _ hq _
    exact ⟨by rw [upd_ne (fun e => by subst e; rw [hq] at h1; cases h1)]; exact h1, h2.mono0 (ext0_tmp hq)⟩
theorem mi_enum {tpos : Pos} {elts : List Expr} {kk : Nat} (hg : Gl X "enumerate") (hm : X.mg "enumerate" = none) (h : PE X e (tE X.K W ma)) (hs : starEach [e] X.env = [(false, eval e X.env)] := by rfl) :
    PI X (.Tuple elts kk tpos) (.Call (.Name "enumerate" p) [e] [] pos) (tI X.K W (mEnum ma)) := by
  refine PI.imp (pi_enum hg hm (pa_cons h pa_nil hs) hs) fun σ H Q ⟨mu, ev, st, he, hst, hp⟩ => ?_
  refine ⟨mu, ev, st, he, hst, hp.bind fun d st1 mu1 x H1 _ e1 r1 s1 hp1 => ?_⟩
  split at hp1
  · cases r1 with
    | ref hi =>
      obtain ⟨ob, ho, ok⟩ := s1.at hi
      rw [ho] at hp1
      simp only at hp1
      split at hp1
      · rename_i ds hds
        cases ob with
        | ro l =>
          simp only [itemsK] at hds
          split at hds
          · rename_i hl
            cases hds
            obtain ⟨od, vs, hv, rs⟩ := ok
            exact ⟨_, vs, rfl, .inl (.inr ⟨od, hv⟩), hp1 _ _ _ .refl ⟨by rw [enumD_len]; exact hl, _, iter_enum, hv, rs⟩ s1⟩
          · cases hds
        | lst l => cases hds
        | dK lk l => cases hds
        | dT lk l => cases hds
        | ins c l => cases hds
        | exc c => cases hds
      · exact hp1.elim
  · exact hp1.elim
/-! list(d) of a dict: its keys -/
def mListD (ma : Mo D) : Mo (List D) := fun ev st => (ma ev st).bind fun d st1 => match d with
  | .ref i => (match st1[i]? with
    | some (.dK _ kvs) => .ok (kvs.map fun kv => keyD kv.1) st1
    | _ => .bad)
  | _ => .bad
theorem keyRp {K : PySem.W.Frag} {H : Hp} {mu : List Addr} (k : Key) : Rp K H mu (kV k) (keyD k) := by
  cases k with
  | inl i => exact .int i
  | inr x => exact .str x
theorem keyRps {K : PySem.W.Frag} {H : Hp} {mu : List Addr} : ∀ {ws : List (Key × V)} {kvs : List (Key × D)}, ws.map (·.1) = kvs.map (·.1) → Rps K H mu (ws.map fun kv => kV kv.1) (kvs.map fun kv => keyD kv.1)
  | [], [], _ => .nil
  | [], _ :: _, h => by simp at h
  | _ :: _, [], h => by simp at h
  | w :: ws, v :: vs, h => by
    simp only [List.map_cons, List.cons.injEq] at h
    simp only [List.map_cons]
    rw [h.1]
    exact .cons (keyRp _) (keyRps h.2)
theorem ml_listD (hg : Gl X "list") (hm : X.mg "list" = none) (hc : X.calm = true) (ha : PE X e (tE X.K W ma)) (he : starEach [e] X.env = (false, eval e X.env) :: starEach [] X.env := by rfl) : PE X (.Call (.Name "list" p) [e] [] pos) (tL X.K W (mListD ma)) := by
  refine PE.imp (pe_callTy (call_listD hc) hg hm bt_list (pa_cons ha pa_nil he) (by decide) (by decide) he rfl) fun σ H Q ⟨mu, ev, st, he, hst, hp⟩ => ?_
  refine ⟨mu, ev, st, he, hst, hp.bind fun d st1 mu1 x H1 _ e1 r1 s1 hp1 => ?_⟩
  split at hp1
  · cases r1 with
    | ref hi =>
      obtain ⟨ob, ho, ok⟩ := s1.at hi
      rw [ho] at hp1
      split at hp1
      · rename_i lk kvs heq
        cases heq
        cases lk with
        | false =>
          obtain ⟨ws, hv, rs⟩ := ok
          exact ⟨_, ws, rfl, .inl hv, fun l hl => hp1 _ _ _ (ext_new hl _) ⟨l, _, rfl, hl, upd_same, s1.fresh hl, keyRps rs.keys⟩ (s1.new hl _)⟩
        | true =>
          obtain ⟨od, ws, hv, rs⟩ := ok
          exact ⟨_, ws, rfl, .inr ⟨od, hv⟩, fun l hl => hp1 _ _ _ (ext_new hl _) ⟨l, _, rfl, hl, upd_same, s1.fresh hl, keyRps rs.keys⟩ (s1.new hl _)⟩
      · exact hp1.elim
  · exact hp1.elim
end Ml

/-! enumerate of a tuple -/
namespace PySem
open AutoSeq1 (wpAny_loadPart')
set_option maxHeartbeats 1000000 in
theorem meets_enumT (t : Addr) (xs : Array Value) (n : Nat) (dct : Option Addr) (sl : Array (Option Value)) :
    Meets (Builtin.«enumerate.__new__» ⟨[.type "enumerate", .ref t], []⟩) (fun _ R s => s.heap.get? t = some { cls := .type "tuple", dict := dct, data := .seq xs n, slots := sl } ∧
      R (.ok (.ret (.ref (s.heap.push { cls := .type "tuple_iterator", data := .fields #[.ref t, .int 0 0] }).objs.size))) { s with heap := (s.heap.push { cls := .type "tuple_iterator", data := .fields #[.ref t, .int 0 0] }).push { cls := .type "enumerate", data := .fields #[.none, .bool false, .ref s.heap.objs.size, rawInt 0, .none, .none] } }) :=
  .of_wp fun prog w A R s h => by
    obtain ⟨hp, g, d, tk, os⟩ := s; obtain ⟨ht, h⟩ := h
    have hsub := sub_enumerate
    have hT : Heap.IsTuple (Shared.heap ⟨hp, g, d, tk, os⟩) t xs := ⟨_, ht, rfl, n, rfl⟩
    wp_walk using wpAny_loadPart' ht
    refine wpAny_stack_any fun st => wpAny_pure ?_
    split
    · rename_i c _ _ _ _ _
      cases (c == Value.type "enumerate")
      · wp_walk using wpAny_loadPart' ht, wpAny_pyIter_tuple hT
        exact ⟨_, rfl, h⟩
      · wp_walk using wpAny_loadPart' ht, wpAny_pyIter_tuple hT
        exact ⟨_, rfl, h⟩
    · wp_walk using wpAny_loadPart' ht, wpAny_pyIter_tuple hT
      exact ⟨_, rfl, h⟩
section
variable {prog : Program} {w : World} {A : Around} {E : Value → Shared → Prop} {s : Shared}
theorem call_enumT {t : Addr} {xs : Array Value} {Q : Value → Shared → Prop} (hT : s.heap.IsTuple t xs)
    (h : ∀ h', IsEnum h' (s.heap.objs.size + 1) s.heap.objs.size 0 .none → h'.IsTupleIter s.heap.objs.size t 0 → h'.objs.size = s.heap.objs.size + 2 → (∀ b o, s.heap.get? b = some o → h'.get? b = some o) → Q (.ref (s.heap.objs.size + 1)) { s with heap := h' }) :
    wpAny (model prog w) A (call (.type "enumerate") [.ref t]) Q E s := by
  obtain ⟨⟨c, dct, dt, sl⟩, hl, hc, n, hd⟩ := hT
  replace hc : c = .type "tuple" := hc
  replace hd : dt = .seq xs n := hd
  subst hc hd
  refine callType_new F.called_enumerate (by decide) (F.typeCall_enumerate_1 _) (F.newCall_enumerate_1 _) (fun obj => F.args_object_init_2 obj _) F.entry_enumerate_new (meets_enumT t xs n dct sl) ⟨hl, ?_⟩
  have hz : (s.heap.push { cls := .type "tuple_iterator", data := .fields #[.ref t, .int 0 0] }).objs.size = s.heap.objs.size + 1 := Heap.size_push ..
  show _ ∧ _
  rw [hz]
  have he : IsEnum ((s.heap.push { cls := .type "tuple_iterator", data := .fields #[.ref t, .int 0 0] }).push { cls := .type "enumerate", data := .fields #[.none, .bool false, .ref s.heap.objs.size, rawInt 0, .none, .none] }) (s.heap.objs.size + 1) s.heap.objs.size 0 .none := by
    have q := Heap.get?_push_size (s.heap.push { cls := .type "tuple_iterator", data := .fields #[.ref t, .int 0 0] }) (o := { cls := .type "enumerate", data := .fields #[.none, .bool false, .ref s.heap.objs.size, rawInt 0, .none, .none] }) rfl
    rw [hz] at q; exact q
  exact ⟨⟨_, he, rfl⟩, h _ he ⟨_, Heap.get?_push_of_some _ (Heap.get?_push_size _ rfl), rfl, rfl⟩ (by rw [Heap.size_push, hz]) fun b o x => Heap.get?_push_of_some _ (Heap.get?_push_of_some _ x)⟩
theorem next_enumT_end {e it l : Addr} {i : Nat} {xs : Array Value} {old : Value} {Q : Option Value → Shared → Prop} (hh : A.handled = none) (he : IsEnum s.heap e it i old) (hit : s.heap.IsTupleIter it l i) (hl : s.heap.IsTuple l xs) (hx : xs[i]? = none)
    (hQ : ∀ h', Heap.ExtBut it s.heap h' → Q none { s with heap := h' }) : wpAny (model prog w) A (pyNext (.ref e)) Q E s := by
  have hT : s.TypeIs (.ref e) "enumerate" := ⟨_, he, rfl⟩
  unfold pyNext
  refine wpAny_bind (wpAny_attempt (wpAny_callSpecial?_slot (name := Str.ofString "__next__") hT F.slot_enumerate_next (wpAny_call_entry F.slot_enumerate_next hT F.entry_enumerate_next ?_ (F.args_enumerate_next_1 _))))
  show wpAny _ _ (field (.ref e) 2 >>= _) _ _ _
  refine wpAny_bind (wpAny_field he rfl (x := .ref it) rfl (wpAny_bind (wpAny_nextOf_tuple_end hh hit hl hx fun h' x he' hx' => ?_)))
  obtain ⟨o, ho, hc⟩ := hx'
  exact wpAny_bind (wpAny_isInstance (T := "StopIteration") (b := true) ⟨o, ho, hc⟩ isSubtype_stop (wpAny_pure (hQ _ he')))
end
end PySem
namespace Ml
open PySem L2
def IteT (K : PySem.W.Frag) (a : Addr) : It :=
  ⟨fun i H => ∃ (xs : List V) (x : V), SqT K H a xs ∧ xs[i]? = some x, fun i H v H' => ∃ T x, v = .ref T ∧ H T = none ∧ H' = upd H T (.tup [.int (i : Nat), x]) ∧ ∀ xs, SqT K H a xs → xs[i]? = some x, fun i H => ∃ xs : List V, SqT K H a xs ∧ xs.length ≤ i⟩
theorem turn_enumT {P : Program} {w : World} {K : PySem.W.Frag} {elts : List Expr} {kk : Nat} {tpos : Pos} (a e it : Addr) (hai : a ≠ it) (hea : e ≠ a) :
    Turn P w K (.Tuple elts kk tpos) (IteT K a) [e, it] e (fun i h => (∃ old, IsEnum h e it ((i : Nat) : Int) old) ∧ h.IsTupleIter it a i ∧ e ≠ it) where
  mem := by simp
  obj := fun i h st b hb => by
    obtain ⟨⟨old, he⟩, ⟨o, ho, hc, hd⟩, _⟩ := st
    rcases (by simpa using hb : b = e ∨ b = it) with z | z
    · rw [z]; exact ⟨_, he, fun v q => nomatch q⟩
    · rw [z]; exact ⟨o, ho, fun v q => by rw [hd] at q; cases q⟩
  keep := fun i h h' st k => let ⟨⟨old, he⟩, hi, hne⟩ := st; ⟨⟨old, k e (by simp) _ he⟩, hi.at fun o q => k it (by simp) o q, hne⟩
  item := by
    intro X hP hw hK hc i pins s σ H E I hf st hg
    subst hP hw hK
    obtain ⟨⟨old, he⟩, hit, hne⟩ := st
    obtain ⟨xs, x, hq, hx⟩ := hg
    obtain ⟨its, rv, p, hz⟩ := I.tuple hq
    obtain ⟨u, hu, ru⟩ := rv.get hx
    have hel : e < s.heap.objs.size := Heap.lt_size he
    have hil : it < s.heap.objs.size := by obtain ⟨_, q, _⟩ := hit; exact Heap.lt_size q
    have pT : s.heap.IsTuple a its.toArray := p
    have hlt : i < its.toArray.size := by
      have := (List.getElem?_eq_some_iff.mp hu).1
      simpa using this
    have D : Draws X.prog X.w X.A.in1 it [it, a] its.toArray.size (fun i v => its.toArray[i]? = some v) (fun i h => h.IsTupleIter it a i ∧ h.IsTuple a its.toArray) := Draws.tuple (A := X.A.in1) (show X.A.in1.handled = none from I.ok.hd hc) it a hai its.toArray
    refine wpAny_pyNext_enum_itemD D he ⟨hit, pT⟩ hlt hne (by simp; exact ⟨hne, hea⟩) fun x' h' tk hPx ho hst' hT hsz hk => ?_
    have ex : x' = u := by
      have : its.toArray[i]? = some u := by simpa using hu
      rw [this] at hPx; cases hPx; rfl
    subst ex
    refine ⟨_, rfl, wpAny_letOwnedTupleGo_enum (s := { s with heap := h', toks := tk + 1 }) ho fun h'' he' sb => ?_⟩
    have hT2 : h''.get? s.heap.objs.size = some { cls := .type "tuple", data := .seq #[.int i tk, x'] } := (sb.2 _ (Nat.ne_of_gt hel)).trans hT
    have new : ObjOk X.prog X.w (upd H s.heap.objs.size (.tup [.int (i : Nat), x])) h'' s.heap.objs.size (.tup [.int (i : Nat), x]) := ⟨by show 2 ≤ sizeLine; decide, [.int i tk, x'], .cons ⟨_, rfl⟩ (.cons ru .nil), ⟨_, hT2, rfl, _, rfl⟩⟩
    have I1 : Inv X pins σ (upd H s.heap.objs.size (.tup [.int (i : Nat), x])) { s with heap := h'', toks := tk + 1 } := I.turnedNew (ch := [e, it]) (fun b ob hb q => (sb.2 b (fun z => hb (by simp [z]))).trans (hk b ob (fun z => hb (by simp [z])) (fun z => hb (by simp [z])) q)) hf (Nat.le_refl _) new
    refine ⟨.ref s.heap.objs.size, _, I1, rfl, ⟨_, x, rfl, I.hok.fresh (Nat.le_refl _), rfl, fun ys hy => by rw [I.tuple_inj hy hq]; exact hx⟩, ⟨⟨x', ?_⟩, hst'.1.at fun o q => (sb.2 it (Ne.symm hne)).trans q, hne⟩, fun b hb => ?_⟩
    · have e1 : ((i + 1 : Nat) : Int) = (i : Int) + 1 := by omega
      rw [e1]; exact he'
    · have hb' : b < s.heap.objs.size := by
        rcases (by simpa using hb : b = e ∨ b = it) with z | z
        · rw [z]; exact hel
        · rw [z]; exact hil
      rw [upd_ne (Nat.ne_of_lt hb')]
      exact (hf b hb).1
  done := by
    intro X hP hw hK hc i pins s σ H E I hf st hg
    subst hP hw hK
    obtain ⟨⟨old, he⟩, hit, hne⟩ := st
    obtain ⟨xs, hq, hx⟩ := hg
    obtain ⟨its, rv, p, hz⟩ := I.tuple hq
    obtain ⟨f0, f1, f2, f3, f4, f5⟩ := hf it (by simp)
    have hl := rv.length
    have pT : s.heap.IsTuple a its.toArray := p
    exact next_enumT_end (I.ok.hd hc) he hit pT (by simp; omega) fun h' eb => ⟨rfl, I.turned (t' := s.toks) (fun b o hb q => eb b o hb q) f0 f1 f3 f4 f5⟩
  self := fun A i s Q E st h => let ⟨⟨_, he⟩, _⟩ := st; wpAny_pyIter_enum he h
variable {X : Cx} {W : Wx} {e : Expr} {pos p : Pos} {ma : Mo D}
theorem pi_enumT {ta : TA} {tpos : Pos} {elts : List Expr} {kk : Nat} (hg : Gl X "enumerate") (hm : X.mg "enumerate" = none) (ha : PA X [e] ta) (hs : starEach [e] X.env = [(false, eval e X.env)] := by rfl) :
    PI X (.Tuple elts kk tpos) (.Call (.Name "enumerate" p) [e] [] pos) (fun σ H R => ta σ H fun vs H1 => ∃ a xs, vs = [.ref a] ∧ SqT X.K H1 a xs ∧ R (IteT X.K a) H1) := by
  refine ⟨fun pins s σ H R I h => ?_⟩
  refine PyProof.Rows.Call_ (ld_blt I hg hm PyProof.Rows.boot_enumerate (PyProof.Rows.callWith_type1 (thn (ha.run pos pins s σ H _ I h) fun us s1 ⟨vs, H1, I1, r1, q1⟩ => ?_) hs rfl))
  obtain ⟨a, xs, ex, hq, q⟩ := q1
  subst ex
  cases r1 with
  | cons r rr =>
    cases rr
    cases r
    obtain ⟨its, rv, p', hz⟩ := I1.tuple hq
    have pT : s1.heap.IsTuple a its.toArray := p'
    have hla : a < s1.heap.objs.size := by obtain ⟨o, q, _⟩ := pT; exact Heap.lt_size q
    refine call_enumT pT fun h' he hit hsz hk => wpAny_pyIter_enum he ?_
    have I2 : Inv X pins σ H1 { s1 with heap := h' } := I1.kept (t' := s1.toks) hk
    refine ⟨s1.heap.objs.size + 1, [s1.heap.objs.size + 1, s1.heap.objs.size], _, _, H1, rfl, I2, turn_enumT a (s1.heap.objs.size + 1) s1.heap.objs.size (Nat.ne_of_lt hla) (Nat.ne_of_gt (Nat.lt_succ_of_lt hla)), ⟨⟨.none, he⟩, hit, Nat.succ_ne_self _⟩, fun b hb => ?_, q⟩
    have hle : s1.heap.objs.size ≤ b := by
      rcases (by simpa using hb : b = s1.heap.objs.size + 1 ∨ b = s1.heap.objs.size) with z | z
      · rw [z]; exact Nat.le_add_right _ _
      · rw [z]; exact Nat.le_refl _
    exact I1.fpOk hle (I1.hok.fresh hle)
def mEnumT (ma : Mo D) : Mo (List D) := fun ev st => (ma ev st).bind fun d st1 => match d with
  | .tup ds => if ds.length ≤ lim then .ok (enumD 0 ds) st1 else .bad
  | _ => .bad
theorem iter_enumT {K : PySem.W.Frag} {H0 : Hp} {d : Addr} {vs : List V} {ds : List D} : IterOk K H0 (IteT K d) (enumD 0 ds) (fun H mu => TupAt K H d vs ∧ Rps K H mu vs ds) := by
  refine ⟨?_, ?_, ?_, ?_, ?_⟩
  · rintro H mu i x ⟨h1, h2⟩ hx
    obtain ⟨y, hy, rfl⟩ := enumD_get hx
    obtain ⟨v, hv, _⟩ := h2.get hy
    exact ⟨vs, v, h1.sq, hv⟩
  · rintro H mu st i x v H' hst ⟨h1, h2⟩ hx ⟨T, z, rfl, hT, rfl, hz⟩
    obtain ⟨y, hy, rfl⟩ := enumD_get hx
    obtain ⟨w, hw, rw'⟩ := h2.get hy
    have := hz vs h1.sq
    rw [hw] at this
    cases this
    rw [Nat.zero_add]
    exact ⟨ext_new hT _, .tup (.inl upd_same) (.cons (.int _) (.cons (rw'.mono (ext_new hT _)) .nil)), hst.new hT _⟩
  · rintro H mu ⟨h1, h2⟩
    exact ⟨vs, h1.sq, Nat.le_of_eq (by rw [Rps.length h2, enumD_len])⟩
  · rintro H mu H' mu' ⟨h1, h2⟩ e
    exact ⟨e.tupAt h1, h2.mono e⟩
  · rintro H mu q' l l' ⟨h1, h2⟩ _ hq _
    exact ⟨(ext0_tmp (mu := mu) hq).tupAt h1, h2.mono0 (ext0_tmp hq)⟩
theorem mi_enumT {tpos : Pos} {elts : List Expr} {kk : Nat} (hg : Gl X "enumerate") (hm : X.mg "enumerate" = none) (h : PE X e (tE X.K W ma)) (hs : starEach [e] X.env = [(false, eval e X.env)] := by rfl) :
    PI X (.Tuple elts kk tpos) (.Call (.Name "enumerate" p) [e] [] pos) (tI X.K W (mEnumT ma)) := by
  refine PI.imp (pi_enumT hg hm (pa_cons h pa_nil hs) hs) fun σ H Q ⟨mu, ev, st, he, hst, hp⟩ => ?_
  refine ⟨mu, ev, st, he, hst, hp.bind fun d st1 mu1 x H1 _ e1 r1 s1 hp1 => ?_⟩
  split at hp1
  · split at hp1
    · rename_i hl
      cases r1 with
      | tup t1 r1 => exact ⟨_, _, rfl, t1.sq, hp1 _ _ _ .refl ⟨by rw [enumD_len]; exact hl, _, iter_enumT, t1, r1⟩ s1⟩
    · exact hp1.elim
  · exact hp1.elim
end Ml

/-! a table of texts at the top of the module -/
namespace Ml
open PySem L2
variable {X : Cx} {W : Wx} {a b c e o i : Expr} {pos p q : Pos} {ma mb : Mo D}
def tabAt (tab : List (String × String)) (z : Str) : Option String := (tab.find? fun p => Str.ofString p.1 == z).map (·.2)
def tabE (P : Params) : List (String × String) → List DictEntry → Prop
  | [], [] => True
  | p :: ps, e :: es => (∃ t u, e = ⟨PyData.keyHash P (Str.ofString p.1), .str (Str.ofString p.1) t, .str (Str.ofString p.2) u⟩) ∧ tabE P ps es
  | _, _ => False
structure Tab (K : PySem.W.Frag) (w : World) (d : Addr) (tab : List (String × String)) : Prop where
  low : (d == sysModules) = false
  at_ : ∃ es n, K.lookup d = some ⟨.type "dict", none, .dict es n, #[]⟩ ∧ tabE w.params tab es.toList
theorem tabE_lit {P : Params} : ∀ {tab : List (String × String)} {es : List DictEntry}, tabE P tab es → PySem.W.KeysLit P es
  | [], [], _ => trivial
  | p :: ps, e :: es, ⟨⟨t, u, q⟩, h⟩ => ⟨⟨Str.ofString p.1, t, by rw [q], by rw [q]⟩, tabE_lit h⟩
  | [], _ :: _, h => h.elim
  | _ :: _, [], h => h.elim
theorem tabE_find {P : Params} (z : Str) : ∀ {tab : List (String × String)} {es : List DictEntry}, tabE P tab es → (match tabAt tab z with
    | some v => ∃ e t, es.find? (·.key.isStr z) = some e ∧ e.val = .str (Str.ofString v) t
    | none => es.find? (·.key.isStr z) = none) ∧ es.any (·.refKey) = false
  | [], [], _ => ⟨rfl, rfl⟩
  | p :: ps, e :: es, ⟨⟨t, u, q⟩, h⟩ => by
    obtain ⟨h1, h2⟩ := tabE_find z h
    subst q
    refine ⟨?_, by rw [List.any_cons, h2]; rfl⟩
    unfold tabAt at h1 ⊢
    rw [List.find?_cons, List.find?_cons]
    have es' : Value.isStr (.str (Str.ofString p.1) t) z = (Str.ofString p.1 == z) := rfl
    rw [es']
    cases hb : (Str.ofString p.1 == z) with
    | true => exact ⟨_, u, rfl, rfl⟩
    | false => exact h1
  | [], _ :: _, h => h.elim
  | _ :: _, [], h => h.elim
theorem Tab.ns {K : PySem.W.Frag} {w : World} {d : Addr} {tab : List (String × String)} (T : Tab K w d tab) (z : Str) : match tabAt tab z with
    | some v => ∃ t, PySem.W.nsIn K d z = some (some (.str (Str.ofString v) t))
    | none => PySem.W.nsIn K d z = some none := by
  obtain ⟨es, n, h1, h2⟩ := T.at_
  obtain ⟨h3, h4⟩ := tabE_find z h2
  unfold PySem.W.nsIn
  rw [h1]
  cases ht : tabAt tab z with
  | some v =>
    rw [ht] at h3
    obtain ⟨e, t, q1, q2⟩ := h3
    exact ⟨t, by simp only [q1, q2]⟩
  | none =>
    rw [ht] at h3
    simp only at h3
    simp only [h3, h4]
    rfl
theorem Tab.kd {K : PySem.W.Frag} {w : World} {d : Addr} {tab : List (String × String)} (T : Tab K w d tab) : ∃ es n, KDict K w d es n := by
  obtain ⟨es, n, h1, h2⟩ := T.at_
  exact ⟨es, n, h1, tabE_lit h2, T.low⟩
/-! x in TAB, TAB[x] -/
def mInTab (f : Bool → Bool) (tab : List (String × String)) (ma : Mo D) : Mo D := fun ev st => (ma ev st).bind fun d st1 => match d with
  | .str z => .ok (.bl (f (tabAt tab z).isSome)) st1
  | _ => .bad
def mAtTab (tab : List (String × String)) (ma : Mo D) : Mo D := fun ev st => (ma ev st).bind fun d st1 => match d with
  | .str z => (match tabAt tab z with
    | some v => .ok (.str (Str.ofString v)) st1
    | none => .bad)
  | _ => .bad
theorem inTab_go {d : Addr} {tab : List (String × String)} (T : Tab X.K X.w d tab) (f : Bool → Bool) {σ : L2.St} {H : Hp} {Q : VK} (h : tE X.K W (mInTab f tab ma) σ H Q) :
    tOp (fun x y H Q => ∃ (z : Str) (r : Option Value), x = .str z ∧ y = .ref d ∧ PySem.W.nsIn X.K d z = some r ∧ Q (.bl (f r.isSome)) H) (tE X.K W ma) (tC (.ref d)) σ H Q := by
  obtain ⟨mu, ev, st, he, hst, hp⟩ := h
  refine ⟨mu, ev, st, he, hst, hp.bind fun u st1 mu1 x H1 _ e1 r1 s1 hp1 => ?_⟩
  cases u with
  | str z =>
    cases r1
    have hn := T.ns z
    simp only at hp1
    cases ht : tabAt tab z with
    | some v =>
      rw [ht] at hn hp1
      obtain ⟨t, q⟩ := hn
      exact ⟨z, _, rfl, rfl, q, hp1 _ _ _ .refl (.bl _) s1⟩
    | none =>
      rw [ht] at hn hp1
      exact ⟨z, _, rfl, rfl, hn, hp1 _ _ _ .refl (.bl _) s1⟩
  | _ => exact hp1.elim
theorem me_inTab {d : Addr} {tab : List (String × String)} (T : Tab X.K X.w d tab) (ha : PE X a (tE X.K W ma)) (hb : PE X b (tC (.ref d))) (hm : behindInMarks .In b = false := by rfl) : PE X (.Compare a [.In] [b] pos) (tE X.K W (mInTab id tab ma)) := by
  obtain ⟨es, n, D⟩ := T.kd
  exact PE.imp (pe_cmpR (op_in_kd D) ha hb hm) fun _ _ _ h => inTab_go T id h
theorem mt_inTab {d : Addr} {tab : List (String × String)} (T : Tab X.K X.w d tab) (ha : PE X a (tE X.K W ma)) (hb : PE X b (tC (.ref d))) (hm : behindInMarks .In b = false := by rfl) : PT X (.Compare a [.In] [b] pos) (tT X.K W (mTest (mInTab id tab ma))) := by
  obtain ⟨es, n, D⟩ := T.kd
  exact PT.imp (pt_cmpR (op_in_kd D) ha hb hm) fun _ _ _ h => inTab_go T id (tst_go h)
theorem ix_kd {d : Addr} {es : Array DictEntry} {n : Nat} (D : KDict X.K X.w d es n) : IxR X (fun x y H Q => ∃ (z : Str) (u0 : Value) (v0 : V), x = .ref d ∧ y = .str z ∧ PySem.W.nsIn X.K d z = some (some u0) ∧ RelV v0 u0 ∧ Q v0 H) := by
  intro value slice pins s σ H x y v u Q I rx ry h hs
  have hT := kd_type D I
  obtain ⟨z, u0, v0, ex, ey, hh⟩ := id h
  subst ex
  cases rx
  exact PyProof.Rows.tail_any hT F.slot_dict_getitem.lookup (op_item_kd D pins s σ H (.ref d) y (.ref d) u Q I (rfl : RelV (.ref d) (.ref d)) ry h) hs
theorem me_atTab {d : Addr} {tab : List (String × String)} (T : Tab X.K X.w d tab) (hb : PE X b (tC (.ref d))) (ha : PE X a (tE X.K W ma)) (hx : PlainIx a := by exact fun _ _ => rfl) : PE X (.Subscript b a pos) (tE X.K W (mAtTab tab ma)) := by
  obtain ⟨es, n, D⟩ := T.kd
  refine PE.imp (pe_ix (ix_kd D) hb ha hx) fun σ H Q ⟨mu, ev, st, he, hst, hp⟩ => ?_
  refine ⟨mu, ev, st, he, hst, hp.bind fun u st1 mu1 x H1 _ e1 r1 s1 hp1 => ?_⟩
  cases u with
  | str z =>
    cases r1
    have hn := T.ns z
    simp only at hp1
    cases ht : tabAt tab z with
    | some v =>
      rw [ht] at hn hp1
      obtain ⟨t, q⟩ := hn
      exact ⟨z, _, .str (Str.ofString v), rfl, rfl, q, ⟨t, rfl⟩, hp1 _ _ _ .refl (.str _) s1⟩
    | none =>
      rw [ht] at hp1
      exact hp1.elim
  | _ => exact hp1.elim
end Ml

/-! exceptions of own classes: raise, calls that may raise, try .. except; instances of own classes: fields, methods, making -/
namespace Ml
open PySem L2
variable {X : Cx} {W : Wx} {a b c e o i : Expr} {es rest : List Expr} {pos p q apos cpos pos' : Pos} {ma mb mv : Mo D} {mr mq : Mo (List D)} {s1 s2 : Ms}
/-- a wish about the class's name, as one about the class -/
def wX (K : PySem.W.Frag) (W : Wx) : WX := fun cls d σ H => d = none ∧ ∃ c, PySem.W.nsIn K mainGlobals c = some (some cls) ∧ W c σ H
/-- .. and back -/
def dn (K : PySem.W.Frag) (W : WX) : Wx := fun c σ H => ∀ cls, PySem.W.nsIn K mainGlobals c = some (some cls) → W cls none σ H
theorem wX_dn {K : PySem.W.Frag} {W : WX} (cls : Value) (d : Option Addr) (σ : L2.St) (H : Hp) (h : wX K (dn K W) cls d σ H) : W cls d σ H := by
  obtain ⟨rfl, c, hc, h⟩ := h
  exact h cls hc
def PostX (K : PySem.W.Frag) (mu : List Addr) (H : Hp) (r : Rs D) (Q : VK) (E : XK) : Prop := match r with
  | .bad => False
  | .ok d st' => ∀ mu' v H', Ext mu H mu' H' → Rp K H' mu' v d → RelSt K H' mu' st' → Q v H'
  | .exc c _ st' => ∀ mu' H' cls, PySem.W.nsIn K mainGlobals c = some (some cls) → Ext mu H mu' H' → RelSt K H' mu' st' → E cls none H'
/-- the promise of a def that may raise -/
def spX (K : PySem.W.Frag) (n : Nat) (c : Fm) : Sp := fun vs H Q E => vs.length = n ∧ ∃ mu ds st, Rps K H mu vs ds ∧ RelSt K H mu st ∧ PostX K mu H (c ds st) Q E
def cCall (c : Fm) (ev : Ev) (ds : List D) (st : Sto) : Rs D := match c ds st with
  | .ok d st2 => .ok d st2
  | .exc cn _ st2 => .exc cn ev st2
  | .bad => .bad
theorem spX_go {n : Nat} {c : Fm} {K : PySem.W.Frag} {σ : L2.St} {H : Hp} {Q : VK} {mu : List Addr} {ev : Ev} {st : Sto} {ds : List D} {vs : List V} (hl : ∀ ds st, c ds st ≠ .bad → ds.length = n) (he : RelEv K H mu σ ev) (hr : Rps K H mu vs ds) (hs : RelSt K H mu st)
    (hp : Post K W (RE K) mu H (cCall c ev ds st) Q) : spX K n c vs H Q (WE (wX K W) σ) := by
  unfold cCall at hp
  cases hc : c ds st with
  | bad => rw [hc] at hp; exact hp.elim
  | ok d st2 =>
    rw [hc] at hp
    refine ⟨(Rps.length hr).trans (hl ds st (by rw [hc]; intro z; cases z)), mu, ds, st, hr, hs, ?_⟩
    rw [hc]
    exact hp
  | exc cn ev' st2 =>
    rw [hc] at hp
    refine ⟨(Rps.length hr).trans (hl ds st (by rw [hc]; intro z; cases z)), mu, ds, st, hr, hs, ?_⟩
    rw [hc]
    exact fun mu' H' cls hcl e' s' => ⟨rfl, cn, hcl, hp mu' σ H' e' (he.mono e') s'⟩
/-- as spX_go, for a callee that lets nothing out -/
theorem spM_go {n : Nat} {c : Fm} {K : PySem.W.Frag} {H : Hp} {Q : VK} {E : XK} {mu : List Addr} {ev : Ev} {st : Sto} {ds : List D} {vs : List V} (hl : ∀ ds st d st', c ds st = .ok d st' → ds.length = n) (hr : Rps K H mu vs ds) (hs : RelSt K H mu st)
    (hp : Post K W (RE K) mu H (match c ds st with
      | .ok d st2 => .ok d st2
      | _ => .bad) Q) : spM K n c vs H Q E := by
  cases hc : c ds st with
  | bad => rw [hc] at hp; exact hp.elim
  | exc _ _ _ => rw [hc] at hp; exact hp.elim
  | ok d st2 =>
    rw [hc] at hp
    refine ⟨(Rps.length hr).trans (hl _ _ _ _ hc), mu, ds, st, hr, hs, ?_⟩
    rw [hc]
    exact hp
def mCallX (c : Fm) (mr : Mo (List D)) : Mo D := fun ev st => (mr ev st).bind fun ds st1 => cCall c ev ds st1
theorem me_callX {k n : Nat} {f : Addr} {fd : FuncData} {ps : List Str} {c : Fm} {x : Str} (tk : Takes X (wX X.K W)) (hl : ∀ ds st, c ds st ≠ .bad → ds.length = n) (F : FnOk X.prog X.w X.K X.mg X.base (L2.CX X.prog X.w) k f fd ps (spX X.K n c)) (hr : Room k X.A) (hg : Gl X x) (hm : X.mg x = some (.ref f)) (hk : PySem.W.keepIn X.K (.ref f) = true) (hb : Binds X.K fd ps [])
    (ha : PA X (e :: es) (tA X.K W mr)) (hdb : (x == ("__debug__" : Str)) = false := by decide) (he : starEach (e :: es) X.env = (false, eval e X.env) :: starEach es X.env := by rfl) (hpl : (backTo pos (starEach es X.env)).any (·.1) = false := by rfl) :
    PE X (.Call (.Name x p) (e :: es) [] pos) (tE X.K W (mCallX c mr)) := by
  refine PE.imp (pe_callS F hr hg hm hk hb (fun σ => passAt tk σ) ha hdb he hpl) fun σ H Q ⟨mu, ev, st, he, hst, hp⟩ => ?_
  exact ⟨mu, ev, st, he, hst, hp.bind fun ds st1 mu1 xs H1 _ e1 r1 s1 hp1 => spX_go hl (he.mono e1) r1 s1 hp1⟩
/-! ### a def that may raise -/
def fnX (n k : Nat) (body : Ms) : Fm := fun ds st => if ds.length = n then (match body (ds.map some ++ List.replicate (k - n) none) st with
  | .ok (.rt d, _) st' => .ok d st'
  | .ok (.nx, _) st' => .ok .non st'
  | .exc c _ st' => .exc c [] st'
  | _ => .bad) else .bad
theorem fnX_len {n k : Nat} {body : Ms} (ds : List D) (st : Sto) (h : fnX n k body ds st ≠ .bad) : ds.length = n := by
  unfold fnX at h
  split at h
  · assumption
  · exact absurd rfl h
theorem fnX_go {K : PySem.W.Frag} {N : List Str} {n k : Nat} {body : Ms} {vs : List V} {H : Hp} {Q : VK} {E : XK} (hk : N.length = k) (h : spX K n (fnX n k body) vs H Q E) : tS K (dn K fun cls d _ H => E cls d H) body { nx := fun _ H' => Q .non H', rt := Q } (start N vs) H := by
  obtain ⟨hl, mu, ds, st, hr, hs, hp⟩ := h
  have hd : ds.length = n := (Rps.length hr).symm.trans hl
  have hst := rel_start (N := N) hr
  rw [hk, hd] at hst
  refine ⟨mu, _, st, hst, hs, ?_⟩
  unfold fnX at hp
  rw [if_pos hd] at hp
  cases hb : body (ds.map some ++ List.replicate (k - n) none) st with
  | bad => rw [hb] at hp; exact hp
  | exc c e s =>
    rw [hb] at hp
    exact fun mu' σ' H' e' _ hs' cls hcl => hp mu' H' cls hcl e' hs'
  | ok r st' =>
    obtain ⟨fl, ev'⟩ := r
    rw [hb] at hp
    cases fl with
    | nx => exact fun mu' σ' H' e _ hs => hp mu' .non H' e .non hs
    | rt d => exact fun mu' σ' H' e _ hs v rv => hp mu' v H' e rv hs
    | bk => exact hp.elim
    | ct => exact hp.elim
theorem fn_okX {P : Program} {w : World} {K : PySem.W.Frag} {mg : Str → Option Value} {base : Heap} {x qual : Str} {st : Stmt} {f : Addr} {fd : FuncData} {N ps : List Str} {k n : Nat} {body : Ms} (F : Fun K x qual st f fd) (S : FnScope N ps (defScope st)) (hn : ps.length = n)
    (hb : ∀ (cdv : Value) (A : Around) (outer : List Env) (s : Shared) (H : Hp) (E : XK) (W : Wx), Room k (A.deeper (PyProof.Rows.envOfC qual (defScope st) s.heap.objs.size f cdv)) →
      Takes (cxOf (L2.CX P w) P w K mg base N qual (defScope st) f cdv A outer s H E) (wX K W) → PSs (cxOf (L2.CX P w) P w K mg base N qual (defScope st) f cdv A outer s H E) (defBody st) (tS K W body)) :
    FnOk P w K mg base (L2.CX P w) (k + 1) f fd ps (spX K n (fnX n N.length body)) := by
  refine F.okX S (fun vs H Q E h => h.1.trans hn.symm) (fun cdv A outer s H vs Q E hr h => ⟨_, hb cdv A outer s H E _ hr ?_, fnX_go rfl h⟩)
  exact (takes_of rfl rfl rfl rfl).imp wX_dn
theorem fn_zeroX {P : Program} {w : World} {K : PySem.W.Frag} {mg : Str → Option Value} {base : Heap} {f : Addr} {fd : FuncData} {ps : List Str} {n : Nat} : FnOk P w K mg base (L2.CX P w) 0 f fd ps (spX K n fun _ _ => .bad) := by
  have no : ∀ vs H Q E, ¬ spX K n (fun _ _ => .bad) vs H Q E := fun vs H Q E ⟨_, _, _, _, _, _, h⟩ => h
  exact ⟨fun vs H Q E h => absurd h (no vs H Q E), fun A outer s H args us vs Q E _ _ _ _ h => absurd h (no vs H Q E)⟩
/-! ### raise C('..') -/
def mRaise (c : Str) : Ms := fun ev st => .exc c ev st
theorem ms_raise {x m : Str} {C : Addr} {j : Nat} {p2 spos : Pos} {bmB : List Value} {B newId initId : String} (hc : X.calm = true) (tk : Takes X (wX X.K W)) (F : ExcBaseFacts B newId initId bmB) (hq : PySem.W.excIn X.K C bmB newId = true) (gC : X.mg x = some (.ref C)) (hC : clsIn X.K x C) (kC : PySem.W.keepIn X.K (.ref C) = true)
    (h1 : PySem.W.subIn X.K (.ref C) (.type "BaseException") = some true) (h2 : PySem.W.typeIn X.K (.ref C) = some (.type "type")) (hg : Gl X x) (hdb : (x == ("__debug__" : Str)) = false := by decide) :
    PS X (.Raise (some (.Call (.Name x p) [.Constant (.str m) j p2] [] pos)) none spos) (tS X.K W (mRaise x)) :=
  PS.imp (ps_raise hc tk (pmk_own F hq gC kC (raises_own h1 h2) hg hdb)) fun D σ H ⟨mu, ev, st, he, hs, hp⟩ => ⟨rfl, x, hC, hp mu σ H .refl he hs⟩
/-! ### try: .. except C: .. -/
def mTry (cat : Str → Option Bool) (body suite : Ms) : Ms := fun ev st => match body ev st with
  | .exc c ev1 st1 => (match cat c with
    | some true => (match suite ev1 st1 with
      | .ok r st2 => .ok r st2
      | _ => .bad)
    | some false => .exc c ev1 st1
    | none => .bad)
  | .ok r st1 => .ok r st1
  | .bad => .bad
theorem ms_try {x : Str} {cv : Value} {body suite : List Stmt} {b₀ : Stmt} {np : Pos} {cat : Str → Option Bool} (hs : X.stack = X.env :: X.outer) (hf : X.env.frame = some X.env.locals) (hn : Names X x cv) (tk : Takes X (wX X.K W))
    (hcat : ∀ c b cls, cat c = some b → PySem.W.nsIn X.K mainGlobals c = some (some cls) → PySem.W.exmOne X.K cls cv = some b)
    (hb : ∀ (W' : Wx) (pn : List (Addr × Obj)) (xe : Value → Shared → Prop), Takes (X.tr pn xe) (wX X.K W') → PassesOwn (model X.prog X.w) X.A X.env xe → PSs (X.tr pn xe) body (tS X.K W' s1))
    (hsu : ∀ (a : Addr) (pn : List (Addr × Obj)), PSs (X.suite a pn) (b₀ :: suite) (tS X.K W0 s2)) :
    PS X (.Try body [.ExceptHandler (some (.Name x np)) none (b₀ :: suite) pos'] [] [] pos) (tS X.K W (mTry cat s1 s2)) := by
  refine PS.imp (ps_try_only (tb := fun W => tS X.K (dn X.K W) s1) (ts := fun _ _ _ => tS X.K W0 s2) (Wout := wX X.K W) hs hf hn tk (fun W pn xe t po => hb _ pn xe (t.imp wX_dn) po) fun a oe cls d pn _ _ => hsu a _) fun D σ H ⟨mu, ev, st, he, hst, hp⟩ => ?_
  refine ⟨mu, ev, st, he, hst, ?_⟩
  unfold mTry at hp
  cases hr : s1 ev st with
  | bad => rw [hr] at hp; exact hp
  | ok r st1 => rw [hr] at hp; exact hp
  | exc c ev1 st1 =>
    rw [hr] at hp
    simp only at hp
    intro mu' σ' H' e' he' hs' cls hcl
    cases hct : cat c with
    | none => rw [hct] at hp; exact hp.elim
    | some bb =>
      rw [hct] at hp
      refine ⟨bb, hcat c bb cls hct hcl, fun eb _ _ => ?_, fun eb => ?_⟩
      · subst eb
        refine ⟨mu', ev1, st1, he', hs', ?_⟩
        simp only at hp
        cases hu : s2 ev1 st1 with
        | bad => rw [hu] at hp; exact hp
        | exc _ _ _ => rw [hu] at hp; exact hp.elim
        | ok r st2 => rw [hu] at hp; exact PostS.from hp e'
      · subst eb
        exact ⟨rfl, c, hcl, hp mu' σ' H' e' he' hs'⟩
/-! ### instances -/
theorem clsIn_one {K : PySem.W.Frag} {c : Str} {C C' : Addr} (h : clsIn K c C) (h' : clsIn K c C') : C' = C := by
  unfold clsIn at h h'
  rw [h] at h'
  cases h'
  rfl
theorem KD.look {K : PySem.W.Frag} {H : Hp} {mu : List Addr} {ws : List (Str × V)} {fs : List (Str × D)} (h : KD K H mu ws fs) (f : Str) : (∃ v d, ws.lookup f = some v ∧ fs.lookup f = some d ∧ Rp K H mu v d) ∨ (ws.lookup f = none ∧ fs.lookup f = none) := by
  unfold KD at h
  induction h with
  | nil => exact .inr ⟨rfl, rfl⟩
  | cons r t ih =>
    rename_i p q _ _
    obtain ⟨p1, p2⟩ := p
    obtain ⟨q1, q2⟩ := q
    obtain ⟨e, r⟩ := r
    simp only at e r
    subst e
    rw [List.lookup_cons, List.lookup_cons]
    cases hk : (f == p1) with
    | true => exact .inl ⟨_, _, rfl, rfl, r⟩
    | false => exact ih
def putFD (f : Str) (d : D) : List (Str × D) → List (Str × D)
  | [] => [(f, d)]
  | (g, x) :: r => if g = f then (g, d) :: r else (g, x) :: putFD f d r
theorem KD.putF {K : PySem.W.Frag} {H : Hp} {mu : List Addr} {v : V} {d : D} (q : Rp K H mu v d) (f : Str) : ∀ {ws : List (Str × V)} {fs : List (Str × D)}, KD K H mu ws fs → KD K H mu (L2.putF f v ws) (putFD f d fs)
  | _, _, .nil => .cons ⟨rfl, q⟩ .nil
  | _, _, .cons (a := (g, x)) (b := (g', x')) r t => by
    obtain ⟨e, r⟩ := r
    simp only at e r
    subst e
    unfold L2.putF putFD
    split
    · exact .cons ⟨rfl, q⟩ t
    · exact .cons ⟨rfl, r⟩ (KD.putF q f t)
def insAt (st : Sto) (cn : Str) (d : D) : Option (Nat × List (Str × D)) := match d with
  | .ref i => (match st[i]? with
    | some (.ins c fs) => if c = cn then some (i, fs) else none
    | _ => none)
  | _ => none
theorem insAt_ok {K : PySem.W.Frag} {H : Hp} {mu : List Addr} {st : Sto} {cn : Str} {C : Addr} {d : D} {v : V} {i : Nat} {fs : List (Str × D)} (hC : clsIn K cn C) (h : insAt st cn d = some (i, fs)) (r : Rp K H mu v d) (s : RelSt K H mu st) :
    ∃ a dx vs, v = .ref a ∧ mu[i]? = some a ∧ st[i]? = some (.ins cn fs) ∧ H a = some (.ins C dx vs) ∧ KD K H mu vs fs := by
  unfold insAt at h
  cases r with
  | ref q =>
    rename_i j a
    simp only at h
    obtain ⟨o, ho, ok⟩ := s.at q
    rw [ho] at h
    cases o with
    | ins c fs' =>
      simp only at h
      split at h
      · rename_i e
        subst e
        cases h
        obtain ⟨C', dx, vs, k, hh, kd⟩ := ok
        cases clsIn_one hC k
        exact ⟨a, dx, vs, rfl, q, ho, hh, kd⟩
      · cases h
    | _ => cases h
  | _ => cases h
/-- e.f -/
def mFld (cn f : Str) (ma : Mo D) : Mo D := fun ev st => (ma ev st).bind fun d st1 => match insAt st1 cn d with
  | some (_, fs) => (match fs.lookup f with
    | some v => .ok v st1
    | none => .bad)
  | none => .bad
theorem me_fld {cn f : Str} {C : Addr} (hC : clsIn X.K cn C) (cl : Cls X.K C) (na : NoAttr X.K C f) (ha : PE X e (tE X.K W ma)) (hb : attributeBase e f X.env (eval e X.env) = eval e X.env := by rfl) : PE X (.Attribute e f pos) (tE X.K W (mFld cn f ma)) := by
  refine PE.imp (pe_fld ha hb) fun σ H Q ⟨mu, ev, st, he, hst, hp⟩ => ?_
  refine ⟨mu, ev, st, he, hst, hp.bind fun u st1 mu1 x H1 _ e1 r1 s1 hp1 => ?_⟩
  cases hi : insAt st1 cn u with
  | none => rw [hi] at hp1; exact hp1.elim
  | some t =>
    obtain ⟨i, fs⟩ := t
    rw [hi] at hp1
    simp only at hp1
    obtain ⟨a, dx, vs, ev', hmu, hsi, hh, kd⟩ := insAt_ok hC hi r1 s1
    rcases kd.look f with ⟨v, d, q1, q2, r⟩ | ⟨_, q2⟩
    · rw [q2] at hp1
      exact ⟨a, C, dx, vs, v, ev', hh, cl, na, q1, hp1 _ _ _ .refl r s1⟩
    · rw [q2] at hp1
      exact hp1.elim
/-- e.f = v -/
def mFldSet (cn f : Str) (ma mv : Mo D) : Ms := fun ev st => (mv ev st).bind fun y st1 => (ma ev st1).bind fun d st2 => match insAt st2 cn d with
  | some (i, fs) => if fs.length < 1000 then .ok (.nx, ev) (st2.set i (.ins cn (putFD f y fs))) else .bad
  | none => .bad
theorem ms_fld {cn f : Str} {C : Addr} (hC : clsIn X.K cn C) (cl : Cls X.K C) (na : NoAttr X.K C f) (ha : PE X o (tE X.K W ma)) (hv : PE X e (tE X.K W mv)) (hs : swapsWith e (some (.Attribute o f pos')) pos.line X.env = pure false := by rfl) : PS X (.Assign [.Attribute o f pos'] e pos) (tS X.K W (mFldSet cn f ma mv)) := by
  refine PS.imp (ps_fld ha hv hs) fun D σ H ⟨mu, ev, st, he, hst, hp⟩ => ?_
  refine ⟨mu, ev, st, he, hst, hp.bind fun y st1 mu1 yv H1 _ e1 ry s1 hp1 => ?_⟩
  refine ⟨mu1, ev, st1, he.mono e1, s1, hp1.bind fun u st2 mu2 x H2 _ e2 rx s2 hp2 => ?_⟩
  cases hi : insAt st2 cn u with
  | none => rw [hi] at hp2; exact hp2.elim
  | some t =>
    obtain ⟨i, fs⟩ := t
    rw [hi] at hp2
    simp only at hp2
    split at hp2
    · rename_i hl
      obtain ⟨a, dx, vs, ev', hmu, hsi, hh, kd⟩ := insAt_ok hC hi rx s2
      have xt := ext_write s2 (List.mem_of_getElem? hmu) (fun ob w z => by rw [hh] at z; cases z) (.ins C dx (L2.putF f yv vs))
      refine ⟨a, C, dx, vs, ev', hh, cl, na, by rw [Paired.length kd]; exact hl, hp2 mu2 σ _ xt ((he.mono e1).mono e2 |>.mono xt) (s2.write hmu ⟨C, dx, _, hC, upd_same, ?_⟩)⟩
      exact KD.putF ((ry.mono e2).mono xt) f (kd.mono xt)
    · exact hp2.elim
/-! ### methods -/
/-- o.m(..), a method that may raise -/
def mMethX (cn m : Str) (c : Fm) (ma : Mo D) (mr : Mo (List D)) : Mo D := fun ev st => (ma ev st).bind fun d st1 => match insAt st1 cn d with
  | some (_, fs) => (match fs.lookup m with
    | none => (mr ev st1).bind fun ds st2 => cCall c ev (d :: ds) st2
    | some _ => .bad)
  | none => .bad
def mMeth (cn m : Str) (c : Fm) (ma : Mo D) (mr : Mo (List D)) : Mo D := fun ev st => (ma ev st).bind fun d st1 => match insAt st1 cn d with
  | some (_, fs) => (match fs.lookup m with
    | none => (mr ev st1).bind fun ds st2 => (match c (d :: ds) st2 with
      | .ok d st3 => .ok d st3
      | _ => .bad)
    | some _ => .bad)
  | none => .bad
def tMx (C : Addr) (m : Str) (sp : Sp) (E : L2.St → XK) (ta : TE) (t : TA) : TE := fun σ H Q => ta σ H fun x H1 => ∃ a dx fs, x = .ref a ∧ H1 a = some (.ins C dx fs) ∧ fs.lookup m = none ∧ t σ H1 fun vs H2 => sp (x :: vs) H2 Q (E σ)
section
variable {CX : CXT} {k n : Nat} {f C : Addr} {fd : FuncData} {ps : List Str} {sp : Sp} {E : L2.St → XK} {m : Str} {ta : TE} {t : TA}
theorem pe_mx {pl : Sem Bool} (ho : PE X o ta) (cl : Cls X.K C) (hm : Meth X.K C m f) (F : FnOk X.prog X.w X.K X.mg X.base CX k f fd ps sp) (hr : Room k X.A) (hb : Binds X.K fd ps []) (hx : ∀ σ, PassesAt CX X σ (E σ)) (ha : PA X (e :: es) t)
    (hst : starEach (e :: es) X.env = (false, eval e X.env) :: starEach es X.env := by rfl) (hpl : (backTo pos (starEach es X.env)).any (·.1) = false := by rfl)
    (ht : eval (.Call (.Attribute o m apos) (e :: es) [] pos) X.env = (do
      let u ← eval o X.env
      standAt apos.atName
      let (g, fst) ← holding [u] (getMethod u m pl)
      callWith pos g fst (backTo pos (starEach (e :: es) X.env)) (backToKw pos (keywordEach [] X.env))) := by rfl) :
    PE X (.Call (.Attribute o m apos) (e :: es) [] pos) (tMx C m sp E ta t) := by
  constructor
  intro pins s σ H Q I h
  refine PySem.W.methodCall_KW (pl := pl) (thn (ho.run pins s σ H _ I h) fun u sA ⟨x, HA, IA, rx, adr, dx, fl, ex, hA, lk, qA⟩ => ?_) ht
  subst ex
  cases rx
  refine getmeth_ok IA hA cl hm lk (PySem.W.callWith_K (first := [.ref adr]) (h₀ := X.base) I.ok.mod.kin hm.kp (thn (ha.run pos pins sA σ HA _ IA qA) fun us sB ⟨vs, HB, IB, rB, qB⟩ => ⟨IB.kIn, ?_⟩) hst hpl)
  exact run_fnS (us := .ref adr :: us) (vs := .ref adr :: vs) F hr hb (hx σ) IB (.cons rfl rB) qB
theorem pe_mx0 {pl : Sem Bool} (ho : PE X o ta) (cl : Cls X.K C) (hm : Meth X.K C m f) (F : FnOk X.prog X.w X.K X.mg X.base CX k f fd ps sp) (hr : Room k X.A) (hb : Binds X.K fd ps []) (hx : ∀ σ, PassesAt CX X σ (E σ))
    (ht : eval (.Call (.Attribute o m apos) [] [] pos) X.env = (do
      let u ← eval o X.env
      standAt apos.atName
      let (g, fst) ← holding [u] (getMethod u m pl)
      callWith pos g fst (backTo pos (starEach [] X.env)) (backToKw pos (keywordEach [] X.env))) := by rfl) :
    PE X (.Call (.Attribute o m apos) [] [] pos) (tMx C m sp E ta tNil) := by
  constructor
  intro pins s σ H Q I h
  refine PySem.W.methodCall_KW (pl := pl) (thn (ho.run pins s σ H _ I h) fun u sA ⟨x, HA, IA, rx, adr, dx, fl, ex, hA, lk, qA⟩ => ?_) ht
  subst ex
  cases rx
  refine getmeth_ok IA hA cl hm lk ?_
  exact PySem.W.callWith_K0 (first := [.ref adr]) IA.kIn hm.kp (run_fnS (us := [.ref adr]) (vs := [.ref adr]) F hr hb (hx σ) IA (.cons rfl .nil) qA)
end
end Ml

/-! methods and the making of instances -/
namespace Ml
open PySem L2
variable {X : Cx} {W : Wx} {a b c e o i : Expr} {es rest : List Expr} {pos p q apos cpos pos' : Pos} {ma mb mv : Mo D} {mr mq : Mo (List D)} {s1 s2 : Ms}
theorem pass0At {X : Cx} {σ : L2.St} {E : XK} : PassesAt CX0 X σ E := fun _ _ _ _ _ _ z => z.elim
section
variable {k n : Nat} {f C : Addr} {fd : FuncData} {ps : List Str} {cn m : Str} {g : Fm}
theorem methX_go {σ : L2.St} {H : Hp} {Q : VK} (hC : clsIn X.K cn C) (hl : ∀ ds st, g ds st ≠ .bad → ds.length = n) (h : tE X.K W (mMethX cn m g ma mr) σ H Q) : tMx C m (spX X.K n g) (WE (wX X.K W)) (tE X.K W ma) (tA X.K W mr) σ H Q := by
  obtain ⟨mu, ev, st, he, hst, hp⟩ := h
  refine ⟨mu, ev, st, he, hst, hp.bind fun u st1 mu1 x H1 _ e1 r1 s1 hp1 => ?_⟩
  cases hi : insAt st1 cn u with
  | none => rw [hi] at hp1; exact hp1.elim
  | some t =>
    obtain ⟨i, fs⟩ := t
    rw [hi] at hp1
    simp only at hp1
    obtain ⟨a, dx, vs, ev', hmu, hsi, hh, kd⟩ := insAt_ok hC hi r1 s1
    rcases kd.look m with ⟨v, d, q1, q2, r⟩ | ⟨q1, q2⟩
    · rw [q2] at hp1
      exact hp1.elim
    · rw [q2] at hp1
      refine ⟨a, dx, vs, ev', hh, q1, mu1, ev, st1, he.mono e1, s1, hp1.bind fun ds st2 mu2 xs H2 _ e2 r2 s2 hp2 => ?_⟩
      exact spX_go hl ((he.mono e1).mono e2) (.cons (r1.mono e2) r2) s2 hp2
theorem meth_go {σ : L2.St} {H : Hp} {Q : VK} {E : L2.St → XK} (hC : clsIn X.K cn C) (hl : ∀ ds st d st', g ds st = .ok d st' → ds.length = n) (h : tE X.K W (mMeth cn m g ma mr) σ H Q) : tMx C m (spM X.K n g) E (tE X.K W ma) (tA X.K W mr) σ H Q := by
  obtain ⟨mu, ev, st, he, hst, hp⟩ := h
  refine ⟨mu, ev, st, he, hst, hp.bind fun u st1 mu1 x H1 _ e1 r1 s1 hp1 => ?_⟩
  cases hi : insAt st1 cn u with
  | none => rw [hi] at hp1; exact hp1.elim
  | some t =>
    obtain ⟨i, fs⟩ := t
    rw [hi] at hp1
    simp only at hp1
    obtain ⟨a, dx, vs, ev', hmu, hsi, hh, kd⟩ := insAt_ok hC hi r1 s1
    rcases kd.look m with ⟨v, d, q1, q2, r⟩ | ⟨q1, q2⟩
    · rw [q2] at hp1
      exact hp1.elim
    · rw [q2] at hp1
      refine ⟨a, dx, vs, ev', hh, q1, mu1, ev, st1, he.mono e1, s1, hp1.bind fun ds st2 mu2 xs H2 _ e2 r2 s2 hp2 => ?_⟩
      exact spM_go (ev := ev) hl (.cons (r1.mono e2) r2) s2 hp2
theorem nil_go {σ : L2.St} {H : Hp} {Q : List V → Hp → Prop} (h : tA X.K W mNil σ H Q) : tNil σ H Q := by
  obtain ⟨mu, ev, st, he, hst, hp⟩ := h
  exact hp _ _ _ .refl .nil hst
/-- o.m(e, ..) -/
theorem me_methX {pl : Sem Bool} (tk : Takes X (wX X.K W)) (hC : clsIn X.K cn C) (cl : Cls X.K C) (hm : Meth X.K C m f) (hl : ∀ ds st, g ds st ≠ .bad → ds.length = n) (F : FnOk X.prog X.w X.K X.mg X.base (L2.CX X.prog X.w) k f fd ps (spX X.K n g)) (hr : Room k X.A) (hb : Binds X.K fd ps []) (ho : PE X o (tE X.K W ma)) (ha : PA X (e :: es) (tA X.K W mr))
    (hst : starEach (e :: es) X.env = (false, eval e X.env) :: starEach es X.env := by rfl) (hpl : (backTo pos (starEach es X.env)).any (·.1) = false := by rfl)
    (ht : eval (.Call (.Attribute o m apos) (e :: es) [] pos) X.env = (do
      let u ← eval o X.env
      standAt apos.atName
      let (g, fst) ← holding [u] (getMethod u m pl)
      callWith pos g fst (backTo pos (starEach (e :: es) X.env)) (backToKw pos (keywordEach [] X.env))) := by rfl) :
    PE X (.Call (.Attribute o m apos) (e :: es) [] pos) (tE X.K W (mMethX cn m g ma mr)) :=
  PE.imp (pe_mx (pl := pl) ho cl hm F hr hb (fun σ => passAt tk σ) ha hst hpl ht) fun _ _ _ h => methX_go hC hl h
theorem me_methX0 {pl : Sem Bool} (tk : Takes X (wX X.K W)) (hC : clsIn X.K cn C) (cl : Cls X.K C) (hm : Meth X.K C m f) (hl : ∀ ds st, g ds st ≠ .bad → ds.length = n) (F : FnOk X.prog X.w X.K X.mg X.base (L2.CX X.prog X.w) k f fd ps (spX X.K n g)) (hr : Room k X.A) (hb : Binds X.K fd ps []) (ho : PE X o (tE X.K W ma))
    (ht : eval (.Call (.Attribute o m apos) [] [] pos) X.env = (do
      let u ← eval o X.env
      standAt apos.atName
      let (g, fst) ← holding [u] (getMethod u m pl)
      callWith pos g fst (backTo pos (starEach [] X.env)) (backToKw pos (keywordEach [] X.env))) := by rfl) :
    PE X (.Call (.Attribute o m apos) [] [] pos) (tE X.K W (mMethX cn m g ma mNil)) := by
  refine PE.imp (pe_mx0 (pl := pl) ho cl hm F hr hb (fun σ => passAt tk σ) ht) fun σ H Q h => ?_
  obtain ⟨mu, ev, st, he, hst, hp⟩ := methX_go hC hl h
  refine ⟨mu, ev, st, he, hst, ?_⟩
  revert hp
  cases ma ev st with
  | bad => exact id
  | exc _ _ _ => exact id
  | ok d st1 => exact fun hp mu1 x H1 e1 r1 s1 => let ⟨a, dx, fs, q1, q2, q3, q4⟩ := hp mu1 x H1 e1 r1 s1; ⟨a, dx, fs, q1, q2, q3, nil_go q4⟩
theorem me_meth {pl : Sem Bool} (hC : clsIn X.K cn C) (cl : Cls X.K C) (hm : Meth X.K C m f) (hl : ∀ ds st d st', g ds st = .ok d st' → ds.length = n) (F : FnOk X.prog X.w X.K X.mg X.base CX0 k f fd ps (spM X.K n g)) (hr : Room k X.A) (hb : Binds X.K fd ps []) (ho : PE X o (tE X.K W ma)) (ha : PA X (e :: es) (tA X.K W mr))
    (hst : starEach (e :: es) X.env = (false, eval e X.env) :: starEach es X.env := by rfl) (hpl : (backTo pos (starEach es X.env)).any (·.1) = false := by rfl)
    (ht : eval (.Call (.Attribute o m apos) (e :: es) [] pos) X.env = (do
      let u ← eval o X.env
      standAt apos.atName
      let (g, fst) ← holding [u] (getMethod u m pl)
      callWith pos g fst (backTo pos (starEach (e :: es) X.env)) (backToKw pos (keywordEach [] X.env))) := by rfl) :
    PE X (.Call (.Attribute o m apos) (e :: es) [] pos) (tE X.K W (mMeth cn m g ma mr)) :=
  PE.imp (pe_mx (E := fun _ => E0) (pl := pl) ho cl hm F hr hb (fun σ => pass0At) ha hst hpl ht) fun _ _ _ h => meth_go hC hl h
theorem me_meth0 {pl : Sem Bool} (hC : clsIn X.K cn C) (cl : Cls X.K C) (hm : Meth X.K C m f) (hl : ∀ ds st d st', g ds st = .ok d st' → ds.length = n) (F : FnOk X.prog X.w X.K X.mg X.base CX0 k f fd ps (spM X.K n g)) (hr : Room k X.A) (hb : Binds X.K fd ps []) (ho : PE X o (tE X.K W ma))
    (ht : eval (.Call (.Attribute o m apos) [] [] pos) X.env = (do
      let u ← eval o X.env
      standAt apos.atName
      let (g, fst) ← holding [u] (getMethod u m pl)
      callWith pos g fst (backTo pos (starEach [] X.env)) (backToKw pos (keywordEach [] X.env))) := by rfl) :
    PE X (.Call (.Attribute o m apos) [] [] pos) (tE X.K W (mMeth cn m g ma mNil)) := by
  refine PE.imp (pe_mx0 (E := fun _ => E0) (pl := pl) ho cl hm F hr hb (fun σ => pass0At) ht) fun σ H Q h => ?_
  obtain ⟨mu, ev, st, he, hst, hp⟩ := meth_go (E := fun _ => E0) hC hl h
  refine ⟨mu, ev, st, he, hst, ?_⟩
  revert hp
  cases ma ev st with
  | bad => exact id
  | exc _ _ _ => exact id
  | ok d st1 => exact fun hp mu1 x H1 e1 r1 s1 => let ⟨a, dx, fs, q1, q2, q3, q4⟩ := hp mu1 x H1 e1 r1 s1; ⟨a, dx, fs, q1, q2, q3, nil_go q4⟩
/-- C(e, ..), whose __init__ lets nothing out -/
def mNew (cn : Str) (c : Fm) (mr : Mo (List D)) : Mo D := fun ev st => (mr ev st).bind fun ds st1 => match c (.ref st1.length :: ds) (st1 ++ [.ins cn []]) with
  | .ok .non st2 => .ok (.ref st1.length) st2
  | _ => .bad
theorem me_new {x : Str} (M : Mk X.K C f) (hC : clsIn X.K x C) (hl : ∀ ds st d st', g ds st = .ok d st' → ds.length = n) (F : FnOk X.prog X.w X.K X.mg X.base CX0 k f fd ps (spM X.K n g)) (hr : Room (k + 1) X.A) (hg : Gl X x) (hm : X.mg x = some (.ref C)) (hb : Binds X.K fd ps [])
    (ha : PA X (e :: es) (tA X.K W mr)) (hdb : (x == ("__debug__" : Str)) = false := by decide) (he : starEach (e :: es) X.env = (false, eval e X.env) :: starEach es X.env := by rfl) (hpl : (backTo pos (starEach es X.env)).any (·.1) = false := by rfl) :
    PE X (.Call (.Name x p) (e :: es) [] pos) (tE X.K W (mNew x g mr)) := by
  refine PE.imp (pe_make M F hr hg hm hb .nil pass0 ha hdb he hpl) fun σ H Q ⟨mu, ev, st, he, hst, hp⟩ => ?_
  refine ⟨mu, ev, st, he, hst, hp.bind fun ds st1 mu1 xs H1 _ e1 r1 s1 hp1 => ?_⟩
  intro y dx hy hdx ne
  rw [List.append_nil]
  have hy1 : upd H1 dx (.own y) y = none := by rw [upd_ne (Ne.symm ne)]; exact hy
  have x1 : Ext mu1 H1 mu1 (upd H1 dx (.own y)) := ext_new hdx _
  have x2 := ext_push (mu := mu1) hy1 (.ins C dx [])
  have s2 := (s1.new hdx (.own y)).push hy1 (o := .ins C dx []) (ob := .ins x []) ⟨C, dx, [], hC, upd_same, .nil⟩
  have ry : Rp X.K (upd (upd H1 dx (.own y)) y (.ins C dx [])) (mu1 ++ [y]) (.ref y) (.ref st1.length) := .ref (by rw [← s1.len, List.getElem?_append_right (Nat.le_refl _)]; simp)
  cases hc : g (.ref st1.length :: ds) (st1 ++ [.ins x []]) with
  | bad => rw [hc] at hp1; exact hp1.elim
  | exc _ _ _ => rw [hc] at hp1; exact hp1.elim
  | ok d st2 =>
    rw [hc] at hp1
    have rs := Rps.cons ry ((r1.mono x1).mono x2)
    refine ⟨(Rps.length rs).trans (hl _ _ _ _ hc), _, _, _, rs, s2, ?_⟩
    rw [hc]
    cases d with
    | non =>
      intro mu3 v H3 e3 rv s3
      cases rv
      exact ⟨rfl, hp1 mu3 _ H3 ((x1.trans x2).trans e3) (ry.mono e3) s3⟩
    | _ => exact hp1.elim
end
end Ml

/-! for word in TAB -/
namespace Ml
open PySem L2
variable {X : Cx} {W : Wx}
theorem tabE_at {P : Params} : ∀ {tab : List (String × String)} {es : List DictEntry}, tabE P tab es → es.length = tab.length ∧ ∀ (i : Nat) (p : String × String), tab[i]? = some p → ∃ en t, es[i]? = some en ∧ en.key = .str (Str.ofString p.1) t
  | [], [], _ => ⟨rfl, fun i p e => by simp at e⟩
  | r :: ps, e :: es, ⟨⟨t, u, q⟩, h⟩ => by
    obtain ⟨h1, h2⟩ := tabE_at h
    refine ⟨by simp [h1], fun i p e' => ?_⟩
    cases i with
    | zero =>
      simp only [List.getElem?_cons_zero, Option.some.injEq] at e'
      subst e'
      exact ⟨e, t, rfl, by rw [q]⟩
    | succ j =>
      simp only [List.getElem?_cons_succ] at e' ⊢
      exact h2 j p e'
  | [], _ :: _, h => h.elim
  | _ :: _, [], h => h.elim
/-- the words of a table, in their order -/
def Itab (tab : List (String × String)) : It := ⟨fun j _ => j < tab.length, fun j H x H' => H' = H ∧ ∃ pr, tab[j]? = some pr ∧ x = .str (Str.ofString pr.1), fun j _ => tab.length ≤ j⟩
theorem turn_tab {P : Program} {w : World} {K : PySem.W.Frag} {tg : Expr} {d it : Addr} {tab : List (String × String)} {es : Array DictEntry} {n : Nat} (hl : K.lookup d = some ⟨.type "dict", none, .dict es n, #[]⟩) (ht : tabE w.params tab es.toList) :
    Turn P w K tg (Itab tab) [it] it (fun j h => h.IsKeyIter it d j tab.length n) where
  mem := by simp
  obj := fun j h st b hb => by
    cases (show b = it by simpa using hb)
    obtain ⟨oi, hget, _, dat⟩ := st
    exact ⟨oi, hget, fun v z => by rw [dat] at z; cases z⟩
  keep := fun j h h' st kp => st.at fun oi hget => kp it (by simp) oi hget
  item := by
    intro Y eP ew eK calm j pins s σ H E I fp st lt
    subst eP ew eK
    obtain ⟨g0, g1, g2, g3, g4, g5⟩ := fp it (by simp)
    obtain ⟨len, at_⟩ := tabE_at ht
    have lt : j < tab.length := lt
    obtain ⟨en, t, hen, hkey⟩ := at_ j _ (List.getElem?_eq_getElem lt)
    refine next_key_item st (I.kIn _ _ hl) rfl (by rw [← Array.length_toList]; exact len) (by rw [← Array.getElem?_toList]; exact hen) fun h' st' same => ?_
    have J : Inv Y pins σ H { s with heap := h' } := I.turned (t' := s.toks) (fun b ob nb hget => (same.2 b nb).trans hget) g0 g1 g3 g4 g5
    obtain ⟨oi, hget, hcl, dat⟩ := id st'
    exact ⟨en.key, rfl, go_of (s := { s with heap := h' }) hget hcl dat (by decide) ⟨.str (Str.ofString tab[j].1), H, J, ⟨t, hkey⟩, ⟨rfl, _, List.getElem?_eq_getElem lt, rfl⟩, st', fun b hb => (fp b hb).1⟩⟩
  done := by
    intro Y eP ew eK calm j pins s σ H E I fp st ge
    subst eP ew eK
    obtain ⟨g0, g1, g2, g3, g4, g5⟩ := fp it (by simp)
    obtain ⟨len, _⟩ := tabE_at ht
    exact next_key_end (I.ok.hd calm) st (I.kIn _ _ hl) rfl (by rw [← Array.length_toList]; exact len) ge fun h' but => ⟨rfl, I.turned (t' := s.toks) (fun b ob nb hget => but b ob nb hget) g0 g1 g3 g4 g5⟩
  self := fun A j s Q E st h => wpAny_pyIter_keyiter st h
def iTab (d : Addr) (tab : List (String × String)) (td : TE) : TI := fun σ H R => td σ H fun x H1 => x = .ref d ∧ R (Itab tab) H1
theorem pi_tab {tg e : Expr} {td : TE} {d : Addr} {tab : List (String × String)} (T : Tab X.K X.w d tab) (he : PE X e td) : PI X tg e (iTab d tab td) := by
  constructor
  intro pins s σ H R I h
  refine thn (he.run pins s σ H _ I h) fun u sA ⟨x, HA, IA, rx, ex, qA⟩ => ?_
  subst ex
  cases rx
  obtain ⟨es, n, hl, ht⟩ := T.at_
  refine iter_keys T.low (IA.kIn _ _ hl) ⟨rfl, rfl, rfl⟩ rfl (pi_one (tk := sA.toks) IA _ (turn_tab hl ht) ⟨_, Heap.get?_push_size _ rfl, rfl, ?_⟩ qA)
  have := (tabE_at ht).1
  rw [Array.length_toList] at this
  rw [this] <;> rfl
def mTabI (tab : List (String × String)) : Mo (List D) := fun _ st => .ok (tab.map fun pr => D.str (Str.ofString pr.1)) st
theorem iter_tab {K : PySem.W.Frag} {H0 : Hp} {tab : List (String × String)} : IterOk K H0 (Itab tab) (tab.map fun pr => D.str (Str.ofString pr.1)) (fun _ _ => True) where
  go := fun H mu i x _ e => by
    have := (List.getElem?_eq_some_iff.mp e).1
    show i < tab.length
    simpa using this
  yld := fun H mu st i x v H' s _ e ⟨eH, pr, h1, h2⟩ => by
    subst eH h2
    rw [List.getElem?_map, h1] at e
    cases e
    exact ⟨.refl, .str _, s⟩
  stop := fun H mu _ => by show tab.length ≤ _; simp
  keep := fun _ _ _ _ _ _ => trivial
  tmp := fun _ _ _ _ _ _ _ _ _ => trivial
theorem mi_tab {tg e : Expr} {d : Addr} {tab : List (String × String)} (T : Tab X.K X.w d tab) (hl : tab.length ≤ lim) (he : PE X e (tC (.ref d))) : PI X tg e (tI X.K W (mTabI tab)) :=
  PI.imp (pi_tab T he) fun σ H R ⟨mu, ev, st, he, hst, hp⟩ => ⟨rfl, hp mu _ H .refl ⟨by simpa using hl, _, iter_tab, trivial⟩ hst⟩
end Ml

/-! a sign in a text, int(text) -/
namespace Ml
open PySem L2
variable {X : Cx} {W : Wx}
def gNinS : G2 := fun a b st => match a, b with
  | .str x, .str z => (match x.cps.toList with
    | [c] => some (.bl (!decide (c ∈ z.cps.toList)), st)
    | _ => none)
  | _, _ => none
theorem opS_ninS {K : PySem.W.Frag} : OpS K (fun x y H Q => ∃ (c : Nat) (z : Str), x = .str ⟨#[c]⟩ ∧ y = .str z ∧ Q (.bl (!decide (c ∈ z.cps.toList))) H) gNinS := by
  intro mu H st st' x y a b d Q hs hx hy e k
  unfold gNinS at e
  split at e
  · rename_i xs z
    cases hx
    cases hy
    split at e
    · rename_i c hc
      cases e
      have ex : xs = ⟨#[c]⟩ := by
        obtain ⟨⟨l⟩⟩ := xs
        simp only at hc
        rw [hc]
      exact ⟨c, z, by rw [ex], rfl, k _ _ _ .refl (.bl _) hs⟩
    · cases e
  · cases e
def gIntS : GA := fun ds st => match ds with
  | [.str x] => if x.length ≤ 640 then (match PySem.intText? x with
    | some n => some (.int n, st)
    | none => none) else none
  | _ => none
theorem callS_intS {K : PySem.W.Frag} : CallS K (fun xs H Q => ∃ a n, xs = [.str a] ∧ PySem.intText? a = some n ∧ a.length ≤ 640 ∧ Q (.int n) H) gIntS := by
  intro mu H st st' xs as d Q hs hx e k
  unfold gIntS at e
  split at e
  · rename_i x
    split at e
    · rename_i hl
      split at e
      · rename_i n hn
        cases e
        cases hx with
        | cons h1 h2 =>
          cases h2
          cases h1
          exact ⟨x, n, rfl, hn, hl, k _ _ _ .refl (.int _) hs⟩
      · cases e
    · cases e
  · cases e
end Ml

/-! C(..) at a level: two levels of room are needed -/
namespace Ml
open PySem L2
variable {X : Cx} {W : Wx} {e : Expr} {es : List Expr} {pos p : Pos} {mr : Mo (List D)}
def mNewG (lv : Nat) (cn : Str) (c : Fm) (mr : Mo (List D)) : Mo D := fun ev st => if 2 ≤ lv then mNew cn c mr ev st else .bad
theorem me_newG {lv n : Nat} {f C : Addr} {fd : FuncData} {ps : List Str} {g : Fm} {x : Str} (M : Mk X.K C f) (hC : clsIn X.K x C) (hl : ∀ ds st d st', g ds st = .ok d st' → ds.length = n) (F : FnOk X.prog X.w X.K X.mg X.base CX0 1 f fd ps (spM X.K n g)) (hr : Room lv X.A) (hg : Gl X x) (hm : X.mg x = some (.ref C)) (hb : Binds X.K fd ps [])
    (ha : PA X (e :: es) (tA X.K W mr)) (hdb : (x == ("__debug__" : Str)) = false := by decide) (he : starEach (e :: es) X.env = (false, eval e X.env) :: starEach es X.env := by rfl) (hpl : (backTo pos (starEach es X.env)).any (·.1) = false := by rfl) :
    PE X (.Call (.Name x p) (e :: es) [] pos) (tE X.K W (mNewG lv x g mr)) := by
  by_cases h : 2 ≤ lv
  · refine PE.imp (me_new M hC hl F (hr.mono h) hg hm hb ha hdb he hpl) fun σ H Q ⟨mu, ev, st, k1, k2, hp⟩ => ⟨mu, ev, st, k1, k2, ?_⟩
    unfold mNewG at hp
    rw [if_pos h] at hp
    exact hp
  · constructor
    intro pins s σ H Q I hw
    obtain ⟨mu, ev, st, k1, k2, hp⟩ := hw
    unfold mNewG at hp
    rw [if_neg h] at hp
    exact hp.elim
end Ml
namespace Ml
open PySem L2
theorem fnM_ne {n k : Nat} {body : Ms} (ds : List D) (st : Sto) (h : fnM n k body ds st ≠ .bad) : ds.length = n := by
  unfold fnM at h
  split at h
  · assumption
  · exact absurd rfl h
theorem takesNone {X : Cx} : Takes X (wX X.K W0) := takes0.imp fun _ _ _ _ ⟨_, _, _, z⟩ => z
end Ml

/-! an exception that a clause keeps: try .. except C as e: kept = e; isinstance of it -/
namespace Ml
open PySem L2 PySem.Spec PyProof.Rows
variable {X : Cx} {W : Wx} {pins : List (Addr × Obj)} {σ : L2.St} {H : Hp} {s : Shared}
/-- a new object that stands untracked is tracked from here on -/
theorem track {a : Addr} {oe : Obj} {vs : Array Value} {cls : Value} (I : Inv X pins σ H s) (ho : s.heap.get? a = some oe) (hz : Zc cls none oe) (hd : oe.data = .fields vs) (hn : H a = none) (h0 : X.s_0.heap.get? a = none) (nL : a ≠ X.env.locals) (np : ∀ p ∈ X.pn ++ pins, p.1 ≠ a) : Inv X pins σ (upd H a (ExK cls a)) s := by
  have b0 : ∀ b o, X.s_0.heap.get? b = some o → b ≠ a := fun b o e z => by rw [z, h0] at e; cases e
  have nw : ObjOk X.prog X.w (upd H a (ExK cls a)) s.heap a (ExK cls a) := ⟨⟨oe, vs, ho, hz, hd⟩, ⟨oe, ho⟩, fun _ _ ⟨o, v, q, r⟩ k => ⟨o, v, k o q, r⟩⟩
  have hH : ∀ b u, H b = some u → upd H a (ExK cls a) b = some u := fun b u e => by rw [upd_ne (ne_of_none e hn)]; exact e
  refine ⟨I.ok, I.os, I.bare, ⟨I.base.keep, I.base.slot, fun b o e n q => ?_, I.base.there, fun b xs e => hH b _ (I.base.tups b xs e), fun b o u e => hH b _ (I.base.frzs b o u e), fun b ps e => ?_⟩, I.loc, I.cell, ?_, fun x c e => ?_, fun p hp => ?_, I.hok.laidN (fun _ _ q => q) hn nw, I.len⟩
  · rw [upd_ne (b0 b o e)]; exact I.base.free b o e n q
  · obtain ⟨m, q⟩ := I.base.tbls b ps e
    exact ⟨m, hH b _ q⟩
  · rw [upd_ne (Ne.symm nL)]; exact I.free
  · obtain ⟨v, oc, hoc, hcd⟩ := I.cell x c e
    have nc : c ≠ a := fun z => by
      rw [z, ho] at hoc
      cases hoc
      rw [hd] at hcd; cases hcd
    rw [upd_ne nc]; exact I.freeC x c e
  · obtain ⟨k1, k2, k3⟩ := I.pin p hp
    exact ⟨k1, by rw [upd_ne (np p hp)]; exact k2, k3⟩
/-- what a clause «except x as n» that keeps its exception wishes -/
def wKp (K : PySem.W.Frag) (c : Value) (i : Nat) (ts : Addr → TS) (Wo : WX) (D : Ends) : WX := fun cls d σ H => ∃ b, PySem.W.exmOne K cls c = some b ∧
  (b = true → d = none ∧ ∀ a, H a = none → ts a { nx := fun σ' H' => D.nx (σ'.set i none) (upd H' a (ExK cls a)), rt := fun _ _ => False } (σ.set i (some (.ref a))) H) ∧ (b = false → Wo cls d σ H)
section
variable {x n : Str} {c : Value} {i : Nat} {body suite : List Stmt} {b₀ : Stmt} {np pos pos' : Pos} {tb : WX → TS} {ts : Addr → TS} {Wo : WX}
theorem ps_keep (hx : X.ex = []) (hs : X.stack = X.env :: X.outer) (hf : X.env.frame = some X.env.locals) (hN : X.N.Nodup) (hi : X.N[i]? = some n) (hln : X.env.kindOf n = some .local) (hc : Names X x c) (tk : Takes X Wo)
    (hb : ∀ (V : WX) (pn : List (Addr × Obj)) (xe : Value → Shared → Prop), Takes (X.tr pn xe) V → PassesOwn (model X.prog X.w) X.A X.env xe → PSs (X.tr pn xe) body (tb V))
    (hsu : ∀ (a : Addr) (oe : Obj) (pn : List (Addr × Obj)), PSs (X.suite a ((a, oe) :: pn)) (b₀ :: suite) (ts a)) :
    PS X (.Try body [.ExceptHandler (some (.Name x np)) (some n) (b₀ :: suite) pos'] [] [] pos) (fun D σ H => tb (wKp X.K c i ts Wo D) D σ H) := by
  constructor
  intro pins s σ H D I h
  have ok := I.ok
  have frm : X.A.frames = some (X.env :: X.outer) := by rw [ok.frames, hs]
  have lcl : Loc X.env.scope n := .inl hln
  refine wpAny_Try_except (wpAny_mono ((hb (wKp X.K c i ts Wo D) (X.pn ++ pins) (fun e t1 => wpAny (model X.prog X.w) X.A (noteFrame e X.env) (fun _ t2 => wpAny (model X.prog X.w) X.A (setFlight e none) (fun _ t3 => wpAny (model X.prog X.w) X.A (handleBy e X.env [.ExceptHandler (some (.Name x np)) (some n) (b₀ :: suite) pos']) (SP X pins D) X.xe t3) X.xe t2) X.xe t1) (fun u s' air => ?_) PassesOwn.looking).run [] s σ H D (I.toTry _) h) (fun f s1 e1 => ?_) (fun e s1 he => he))
  · obtain ⟨a, B, sI, pins', τ, G, cls, d, rfl, J0, nb, up, sky, na, os, ag, b, exb, yes, no⟩ := air
    have J : Inv X pins τ G sI := J0.ofTry ok
    have sky1 : Sky B (X.env :: X.outer) a (Zc cls d) X.env.locals s'.heap := by rw [← hs]; exact sky
    have gr : B.get? a = none := by rcases sky1 with q | q | q; exact q.2.1; exact q.2.1; exact q.2.1
    show wpAny (model X.prog X.w) X.A (noteFrame (.ref a) X.env) _ _ _
    refine Sky.land Zc.steady frm hf sky1 fun h3 f3 up3 => ?_
    have J3 : Inv X pins τ G { s' with heap := h3 } := J.landed nb f3.1 (up.trans up3) os ag
    obtain ⟨o3, v3, g3, z3, d3⟩ := f3.there
    have nfr : a ∉ frs (X.env :: X.outer) := fun hm => by
      obtain ⟨_, o', e', hnf⟩ := f3.2.2.1.mem hm
      rw [g3] at e'; cases e'; exact hnf _ d3
    have nL : a ≠ X.env.locals := fun z => nfr (List.mem_filterMap.mpr ⟨X.env, List.mem_cons_self, by rw [hf, z]⟩)
    have nF : a ∉ X.fs := fun hm => by
      obtain ⟨e, he, q⟩ := List.mem_filterMap.mp hm
      exact nfr (List.mem_filterMap.mpr ⟨e, List.mem_cons_of_mem _ he, q⟩)
    have nI : sI.heap.get? a = none := by
      cases e : sI.heap.get? a with
      | none => rfl
      | some o =>
        have := nb a o e (by rw [hs]; exact nfr)
        rw [gr] at this; cases this
    have n0 : X.s_0.heap.get? a = none := by
      cases e : X.s_0.heap.get? a with
      | none => rfl
      | some o =>
        obtain ⟨o', q⟩ := J.base.there a o e (by rw [hx]; exact fun z => nomatch z)
        rw [nI] at q; cases q
    have npn : ∀ p ∈ X.pn ++ pins, p.1 ≠ a := fun p hp z => by
      have := (J.pin p hp).1
      rw [z, nI] at this; cases this
    have S3 := J3.suite g3 d3 na nL nF
    refine wpAny_handleBy_cons (codeAny_handlers_test ?_) (by intro q; cases q)
    have LM := PySem.W.exm_one (M := model X.prog X.w) (J3.kIn) (fun A Q E s k q => wpAny_typeOf_ref (k _ _ g3) (by rw [z3.1]; exact q)) exb
    have test : ∀ {Q : Value → Shared → Prop} {E : Value → Shared → Prop}, Q c { s' with heap := h3 } → wpAny (model X.prog X.w) (X.A.mark (some (.ref a))) (eval (.Name x np) X.env) Q E { s' with heap := h3 } := fun {Q E} q => by
      obtain ⟨k1, k2, k3 | ⟨k3, k4, k5⟩⟩ := hc
      · exact ld_glob (X := X.suite a ((a, o3) :: (X.pn ++ pins))) S3 k1 k3 q k2
      · exact ld_blt (X := X.suite a ((a, o3) :: (X.pn ++ pins))) S3 k1 k3 k4 q k5 k2
    refine test (LM.here ?_)
    cases b with
    | true =>
      obtain ⟨ed, ye2⟩ := yes rfl
      subst ed
      refine codeAny_handlers_suite_as (HandSPX.lands_againZ f3 fun h4 f4 up4 => ?_)
      have J4 : Inv X pins τ G { s' with heap := h4 } := J.landed nb f4.1 ((up.trans up3).trans up4) os ag
      obtain ⟨o4, v4, g4, z4, d4⟩ := f4.there
      refine store_ok (X := X.suite a ((a, o4) :: (X.pn ++ pins))) (v := .ref a) (J4.suite g4 d4 na nL nF) hN hi lcl rfl (fun s5 S5 => ?_) (.inr hln)
      refine wpAny_mono ((hsu a o4 (X.pn ++ pins)).run [] s5 _ G _ S5 (ye2 a na)) (fun f s6 e6 => ?_) (fun _ _ z => False.elim z)
      cases f with
      | next =>
        obtain ⟨τ6, G6, S6, q6⟩ := e6
        obtain ⟨k1, k2, _⟩ := S6.pin (a, o4) (List.mem_append.mpr (.inl List.mem_cons_self))
        exact gone_ok (track (S6.unsuite ok) k1 z4 d4 k2 n0 nL npn) hN hi hln fun s7 J7 => ⟨_, _, J7, q6⟩
      | brk => obtain ⟨_, _, _, q6⟩ := e6; exact q6.elim
      | cont => obtain ⟨_, _, _, q6⟩ := e6; exact q6.elim
      | ret u => obtain ⟨_, _, _, _, _, q6⟩ := e6; exact q6.elim
    | false =>
      show wpAny _ X.A (handleBy (.ref a) X.env []) _ _ _
      obtain ⟨k1, k2, k3, oe, vs, T, oT, tt, he, hz, hd, h1, hr⟩ := id f3
      refine wpAny_handleBy_nil ?_
      unfold PySem.passOn
      refine wpAny_bind (wpAny_field he hd h1 ?_)
      rw [if_neg (show ¬ ((Value.ref T == Value.none) = true) from by simp)]
      have fin : wpAny (model X.prog X.w) X.A (setFlight (.ref a) X.env.frame) (fun _ t4 => wpAny (model X.prog X.w) X.A (throw (.ref a) : Sem Flow) (SP X pins D) X.xe t4) X.xe { s' with heap := h3 } := by
        rw [hf]
        exact HandSPX.setFlight_upZ f3 fun h4 hh4 up4 => wpAny_throw (tk _ _ ⟨a, B, sI, pins, τ, G, cls, d, rfl, J, nb, (up.trans up3).trans up4, .inr (.inr (by rw [hs]; exact hh4)), na, os, ag, no rfl⟩)
      first
        | exact wpAny_bind (wpAny_pure (wpAny_bind fin))
        | exact wpAny_bind fin
  · cases f with
    | next => obtain ⟨τ, G, J0, q⟩ := e1; exact wpAny_execs_nil ⟨τ, G, J0.ofTry ok, q⟩
    | brk => obtain ⟨τ, G, J0, q⟩ := e1; exact ⟨τ, G, J0.ofTry ok, q⟩
    | cont => obtain ⟨τ, G, J0, q⟩ := e1; exact ⟨τ, G, J0.ofTry ok, q⟩
    | ret u => obtain ⟨v, τ, G, J0, r, q⟩ := e1; exact ⟨v, τ, G, J0.ofTry ok, r, q⟩
end
/-! ### try: .. except C as e: kept = e -/
def mTryK (cat : Str → Option Bool) (i j : Nat) (body : Ms) : Ms := fun ev st => match body ev st with
  | .exc c ev1 st1 => (match cat c with
    | some true => if i < ev1.length then .ok (.nx, (ev1.set j (some (.ref st1.length))).set i none) (st1 ++ [.exc c]) else .bad
    | some false => .exc c ev1 st1
    | none => .bad)
  | .ok r st1 => .ok r st1
  | .bad => .bad
theorem relEv_none {K : PySem.W.Frag} {mu : List Addr} {H : Hp} {σ : L2.St} {ev : Ev} (r : RelEv K H mu σ ev) (i : Nat) : RelEv K H mu (σ.set i none) (ev.set i none) := by
  refine ⟨by simp [r.1], fun j e q => ?_⟩
  by_cases hj : i = j
  · subst hj
    by_cases hl : i < ev.length
    · rw [List.getElem?_set_self hl] at q; cases q
    · rw [List.getElem?_eq_none (by simpa using hl)] at q; cases q
  · rw [List.getElem?_set_ne hj] at q ⊢
    exact r.2 j e q
theorem ms_tryK {x n y : Str} {C : Addr} {body : List Stmt} {i j : Nat} {np pos pos' p1 p2 p3 : Pos} {cat : Str → Option Bool} {s1 : Ms} (hx : X.ex = []) (hs : X.stack = X.env :: X.outer) (hf : X.env.frame = some X.env.locals) (hN : X.N.Nodup) (hi : X.N[i]? = some n) (hln : X.env.kindOf n = some .local) (hj : X.N[j]? = some y) (hly : Loc X.env.scope y) (hij : i ≠ j)
    (hn : Names X x (.ref C)) (tk : Takes X (wX X.K W))
    (hcat : ∀ c b cls, cat c = some b → PySem.W.nsIn X.K mainGlobals c = some (some cls) → PySem.W.exmOne X.K cls (.ref C) = some b) (hcr : ∀ c, cat c = some true → ∃ D, clsIn X.K c D)
    (hb : ∀ (W' : Wx) (pn : List (Addr × Obj)) (xe : Value → Shared → Prop), Takes (X.tr pn xe) (wX X.K W') → PassesOwn (model X.prog X.w) X.A X.env xe → PSs (X.tr pn xe) body (tS X.K W' s1))
    (hvn : ∀ a pn, PE (X.suite a pn) (.Name n p2) (tVar i))
    (hsw : ∀ a pn, swapsWith (.Name n p2) (some (.Name y p1)) p3.line (X.suite a pn).env = pure false := by intro _ _; rfl) (hfy : X.fn y = true ∨ X.env.scope.names.lookup y = some .local := by first | exact .inl rfl | exact .inr rfl) :
    PS X (.Try body [.ExceptHandler (some (.Name x np)) (some n) [.Assign [.Name y p1] (.Name n p2) p3] pos'] [] [] pos) (tS X.K W (mTryK cat i j s1)) := by
  refine PS.imp (ps_keep (tb := fun V => tS X.K (dn X.K V) s1) (ts := fun _ => tAsg (tVar i) (gName j)) (Wo := wX X.K W) hx hs hf hN hi hln hn tk (fun V pn xe t po => hb _ pn xe (t.imp wX_dn) po) fun a oe pn => pss_one (ps_set (X := X.suite a ((a, oe) :: pn)) hN hj hly (hvn a _) (hsw a _) hfy)) fun D σ H ⟨mu, ev, st, he, hst, hp⟩ => ?_
  refine ⟨mu, ev, st, he, hst, ?_⟩
  unfold mTryK at hp
  cases hr : s1 ev st with
  | bad => rw [hr] at hp; exact hp
  | ok r st1 => rw [hr] at hp; exact hp
  | exc c ev1 st1 =>
    rw [hr] at hp
    simp only at hp
    intro mu' σ' H' e' he' hs' cls hcl
    cases hct : cat c with
    | none => rw [hct] at hp; exact hp.elim
    | some bb =>
      rw [hct] at hp
      refine ⟨bb, hcat c bb cls hct hcl, fun eb => ⟨rfl, fun a na => ?_⟩, fun eb => ?_⟩
      · subst eb
        simp only at hp
        obtain ⟨C', hC'⟩ := hcr c hct
        have ec : cls = .ref C' := by
          unfold clsIn at hC'
          rw [hC'] at hcl; cases hcl; rfl
        subst ec
        split at hp
        · rename_i il
          refine ⟨.ref a, List.getElem?_set_self (by rw [he'.1]; exact il), ?_⟩
          have x2 := ext_push (mu := mu') na (ExK (.ref C') a)
          have s2 := hs'.push na (o := ExK (.ref C') a) (ob := .exc c) ⟨C', hC', upd_same⟩
          have ra : Rp X.K (upd H' a (ExK (.ref C') a)) (mu' ++ [a]) (.ref a) (.ref st1.length) := .ref (by rw [← hs'.len, List.getElem?_append_right (Nat.le_refl _)]; simp)
          have es : (((σ'.set i (some (.ref a))).set j (some (.ref a))).set i none) = (σ'.set j (some (.ref a))).set i none := by
            rw [List.set_comm _ _ hij, List.set_set]
          show D.nx (((σ'.set i (some (.ref a))).set j (some (.ref a))).set i none) _
          rw [es]
          exact hp _ _ _ (e'.trans x2) (relEv_none ((he'.mono x2).set ra j) i) s2
        · exact hp.elim
      · subst eb
        exact ⟨rfl, c, hcl, hp mu' σ' H' e' he' hs'⟩
end Ml

/-! isinstance of a kept exception; count, index, pop of a list -/
namespace Ml
open PySem L2 PySem.Spec PyProof.Rows
variable {X : Cx} {W : Wx} {a b c e o i : Expr} {es rest : List Expr} {pos p q apos cpos pos' : Pos} {ma mb mc mk mx mv : Mo D} {mr mq : Mo (List D)} {s1 s2 : Ms}
def rIsK (K : PySem.W.Frag) : List V → Hp → VK → Prop := fun xs H Q => ∃ (y A : Addr) (c : V) (cv : Value) (b : Bool), xs = [.ref y, c] ∧ H y = some (ExK (.ref A) y) ∧ ExcC K A ∧ (∀ u, RelV c u → u = cv) ∧ PySem.W.kitOne K (.ref A) cv = some b ∧ Q (.bl b) H
theorem call_isK : CallR X (.builtin "isinstance") (rIsK X.K) := by
  intro pins s σ H xs us Q I r h
  obtain ⟨y, A, c, cv, b, rfl, hy, C, hcv, e, q⟩ := h
  cases r with
  | cons rx rr => cases rr with
    | cons rt rz =>
      cases rz
      cases rx
      have ec := hcv _ rt
      subst ec
      obtain ⟨⟨oe, vs, hget, hz, hv⟩, _, _⟩ := I.hok y _ hy
      have J : PySem.W.InstAt s.heap y oe A none := by
        obtain ⟨oc, od, oda, osl⟩ := oe
        obtain ⟨h1, h2⟩ := hz
        dsimp only at h1 h2 hv
        subst h1 h2 hv
        exact ⟨hget, rfl, rfl, trivial⟩
      exact PySem.W.kia_one (PySem.W.handS_kitx_exc C.hg C.hk C.hs C.hd C.ha C.hn C.ht C.hm) I.kIn J e (fun z => nomatch z) fun tk => ⟨.bl b, H, I.kept (t' := tk) fun _ _ z => z, rfl, q⟩
/-- isinstance(e, C), e a kept exception -/
def mIsE (tab : Str → Option Bool) (ma : Mo D) : Mo D := fun ev st => (ma ev st).bind fun d st1 => match d with
  | .ref i => (match st1[i]? with
    | some (.exc c) => (match tab c with
      | some b => .ok (.bl b) st1
      | none => .bad)
    | _ => .bad)
  | _ => .bad
theorem me_isE {tab : Str → Option Bool} {v : V} {cv : Value} {e2 : Expr} (hg : Gl X "isinstance") (hm : X.mg "isinstance" = none) (h2 : PE X e2 (tC v)) (hcv : ∀ u, RelV v u → u = cv) (htab : ∀ c b A, tab c = some b → clsIn X.K c A → PySem.W.kitOne X.K (.ref A) cv = some b ∧ ExcC X.K A) (ha : PE X a (tE X.K W ma))
    (hs0 : starEach [e2] X.env = (false, eval e2 X.env) :: starEach [] X.env := by rfl) (he : starEach [a, e2] X.env = (false, eval a X.env) :: starEach [e2] X.env := by rfl) (hpl : (backTo pos (starEach [e2] X.env)).any (·.1) = false := by rfl) :
    PE X (.Call (.Name "isinstance" p) [a, e2] [] pos) (tE X.K W (mIsE tab ma)) := by
  refine PE.imp (pe_callB call_isK hg hm (by decide +kernel) (pa_cons ha (pa_cons h2 pa_nil hs0) he) (by decide) (by decide) he hpl) fun σ H Q ⟨mu, ev, st, he, hst, hp⟩ => ?_
  refine ⟨mu, ev, st, he, hst, hp.bind fun d st1 mu1 x H1 _ e1 r1 s1 hp1 => ?_⟩
  split at hp1
  · cases r1 with
    | ref hi =>
      obtain ⟨ob, ho, ok⟩ := s1.at hi
      rw [ho] at hp1
      split at hp1
      · rename_i eq; cases eq
        split at hp1
        · rename_i b hb
          obtain ⟨C, hC, hh⟩ := ok
          obtain ⟨k1, k2⟩ := htab _ _ C hb hC
          exact ⟨_, C, v, cv, b, rfl, hh, k2, hcv, k1, hp1 _ _ _ .refl (.bl _) s1⟩
        · exact hp1.elim
      · exact hp1.elim
  · exact hp1.elim
/-! l.count(x), l.index(x), the items being flat -/
def rCntF (K : PySem.W.Frag) : V → List V → Hp → VK → Prop := fun x xs H Q => ∃ (p : Addr) (ys : List V) (y : V), x = .ref p ∧ xs = [y] ∧ SqL K H p ys ∧ flatV y = true ∧ ys.all flatV = true ∧ Q (.int (ys.countP (fun z => eqV z y) : Nat)) H
theorem cntF {y : V} : ∀ {ys : List V} {us : List Value}, Vals ys us → ys.all flatV = true → us.countP (eqU y) = ys.countP fun z => eqV z y
  | _, _, .nil, _ => rfl
  | z :: ys, u :: us, .cons r t, f => by
    rw [List.all_cons, Bool.and_eq_true] at f
    rw [List.countP_cons, List.countP_cons, cntF t f.2, eqU_of r f.1]
theorem mt_cntF : MtR X "list.count" (rCntF X.K) := by
  intro pins s σ H x xs v us Q I rx rxs h
  obtain ⟨p, ys, y, rfl, rfl, hs, fy, fys, q⟩ := h
  cases rx
  obtain ⟨u, rfl, ru⟩ := rxs.one
  obtain ⟨its, rv, ⟨⟨cls, dd, data, sl⟩, n, ho, hc, hdn, hd⟩, hlen⟩ := I.list hs
  simp only at hc hd
  subst hc hd
  refine call_meets PySem.F.slot_list_count ⟨_, ho, rfl⟩ PySem.F.entry_list_count (PySem.F.args_list_count_2 _ _) (SeqAt.list_countAt p its.toArray n dd sl u (eqU y)) ⟨ho, fun u' hu' => mem_eqAt ru fy rv fys u' (by simpa using hu'), ?_⟩
  refine ⟨.int (ys.countP (fun z => eqV z y) : Nat), H, I.tok _, ⟨s.toks, ?_⟩, q⟩
  rw [← cntF rv fys]
def lstD (st : Sto) : D → Option (List D)
  | .ref i => (match st[i]? with
    | some (.lst ds) => some ds
    | some (.ro ds) => some ds
    | _ => none)
  | .ro ds => some ds
  | _ => none
theorem lstD_rel {K : PySem.W.Frag} {H : Hp} {mu : List Addr} {st : Sto} {v : V} {d : D} {ds : List D} (h : lstD st d = some ds) (r : Rp K H mu v d) (s : RelSt K H mu st) : ∃ p vs, v = .ref p ∧ SqL K H p vs ∧ Rps K H mu vs ds := by
  cases r with
  | ref hi =>
    obtain ⟨ob, ho, ok⟩ := s.at hi
    simp only [lstD] at h
    rw [ho] at h
    split at h
    · rename_i eq; cases eq; cases h
      obtain ⟨vs, h1, r⟩ := ok
      exact ⟨_, vs, rfl, .inl (.inl h1), r⟩
    · rename_i eq; cases eq; cases h
      obtain ⟨od, vs, h1, r⟩ := ok
      exact ⟨_, vs, rfl, .inl (.inr ⟨od, h1⟩), r⟩
    · cases h
  | ro hr rs => cases h; exact ⟨_, _, rfl, hr.sq, rs⟩
  | _ => cases h
theorem countP_vOf (y : D) : ∀ ds : List D, (ds.map vOf).countP (fun z => eqV z (vOf y)) = ds.countP fun z => eqD z y
  | [] => rfl
  | d :: ds => by
    rw [List.map_cons, List.countP_cons, List.countP_cons, countP_vOf y ds]
    rfl
def mCnt (ma mb : Mo D) : Mo D := fun ev st => (ma ev st).bind fun d st1 => match lstD st1 d with
  | some _ => (mb ev st1).bind fun y st2 => (match lstD st2 d with
    | some ds => if flatD y && ds.all flatD then .ok (.int (ds.countP (fun z => eqD z y) : Nat)) st2 else .bad
    | none => .bad)
  | none => .bad
section
variable (hfew : ((backTo cpos (starEach [e] X.env)).all (fun x => !x.1) && (backToKw cpos (keywordEach [] X.env)).all (fun x => x.1.isSome) && decide ([e].length + ([] : List Keyword).length + (if ([] : List Keyword).isEmpty then 0 else 1) < 30)) = true)
include hfew
theorem me_cnt0 (ho : PE X o (tE X.K W ma)) (hv : PE X e (tE X.K W mb)) (hbase : attributeBase o "count" X.env (eval o X.env) = eval o X.env) (hline : (apos.endLine == cpos.line) = true) (hs : starEach [e] X.env = (false, eval e X.env) :: starEach [] X.env) :
    PE X (.Call (.Attribute o "count" apos) [e] [] cpos) (tE X.K W (mCnt ma mb)) := by
  refine PE.imp (pe_bm PySem.F.plainAttrs_list PySem.F.slot_list_count PySem.F.type_list_count mt_cntF ho (pa_cons hv pa_nil hs) hbase hfew hline hs rfl) fun σ H Q ⟨mu, ev, st, he, hst, hp⟩ => ?_
  refine ⟨mu, ev, st, he, hst, hp.bind fun d st1 mu1 x H1 _ e1 r1 s1 hp1 => ?_⟩
  split at hp1
  · rename_i ds0 h0
    obtain ⟨p0, vs0, ex, sq0, _⟩ := lstD_rel h0 r1 s1
    subst ex
    refine ⟨.inl ⟨rfl, _, sq0⟩, mu1, ev, st1, he.mono e1, s1, hp1.bind fun y st2 mu2 yv H2 _ e2 r2 s2 hp2 => ?_⟩
    have r1 := Rp.mono e2 r1
    split at hp2
    · rename_i ds h2
      obtain ⟨p2, vs, ex2, sq, rs⟩ := lstD_rel h2 r1 s2
      split at hp2
      · rename_i hf
        rw [Bool.and_eq_true] at hf
        obtain ⟨ey, fy⟩ := r2.flat hf.1
        obtain ⟨ev', fv⟩ := rs.flat hf.2
        refine ⟨p2, vs, yv, ex2, rfl, sq, fy, fv, ?_⟩
        rw [ev', ey, countP_vOf]
        exact hp2 _ _ _ .refl (.int _) s2
      · exact hp2.elim
    · exact hp2.elim
  · exact hp1.elim
def mIdx (ma mb : Mo D) : Mo D := fun ev st => (ma ev st).bind fun d st1 => match lstD st1 d with
  | some _ => (mb ev st1).bind fun y st2 => (match lstD st2 d with
    | some ds => if flatD y && ds.all flatD then (match ds.findIdx? (fun z => eqD z y) with
      | some j => .ok (.int (j : Nat)) st2
      | none => .bad) else .bad
    | none => .bad)
  | none => .bad
theorem me_idx0 (ho : PE X o (tE X.K W ma)) (hv : PE X e (tE X.K W mb)) (hbase : attributeBase o "index" X.env (eval o X.env) = eval o X.env) (hline : (apos.endLine == cpos.line) = true) (hs : starEach [e] X.env = (false, eval e X.env) :: starEach [] X.env) :
    PE X (.Call (.Attribute o "index" apos) [e] [] cpos) (tE X.K W (mIdx ma mb)) := by
  refine PE.imp (pe_bm PySem.F.plainAttrs_list PySem.F.slot_list_index PySem.F.type_list_index mt_index ho (pa_cons hv pa_nil hs) hbase hfew hline hs rfl) fun σ H Q ⟨mu, ev, st, he, hst, hp⟩ => ?_
  refine ⟨mu, ev, st, he, hst, hp.bind fun d st1 mu1 x H1 _ e1 r1 s1 hp1 => ?_⟩
  split at hp1
  · rename_i ds0 h0
    obtain ⟨p0, vs0, ex, sq0, _⟩ := lstD_rel h0 r1 s1
    subst ex
    refine ⟨.inl ⟨rfl, _, sq0⟩, mu1, ev, st1, he.mono e1, s1, hp1.bind fun y st2 mu2 yv H2 _ e2 r2 s2 hp2 => ?_⟩
    have r1 := Rp.mono e2 r1
    split at hp2
    · rename_i ds h2
      obtain ⟨p2, vs, ex2, sq, rs⟩ := lstD_rel h2 r1 s2
      split at hp2
      · rename_i hf
        rw [Bool.and_eq_true] at hf
        obtain ⟨ey, fy⟩ := r2.flat hf.1
        obtain ⟨ev', fv⟩ := rs.flat hf.2
        split at hp2
        · rename_i j hj
          obtain ⟨hjl, hj1, hj2⟩ := List.findIdx?_eq_some_iff_getElem.mp hj
          refine ⟨p2, vs, yv, j, vOf ds[j], ex2, rfl, sq, fy, fv, ?_, ?_, fun m z' hm hz => ?_, hp2 _ _ _ .refl (.int _) s2⟩
          · rw [ev', List.getElem?_map, List.getElem?_eq_getElem hjl]; rfl
          · rw [ey]; exact hj1
          · rw [ev', List.getElem?_map, List.getElem?_eq_getElem (Nat.lt_trans hm hjl)] at hz
            cases hz
            rw [ey]
            have := hj2 m hm
            simpa [eqD] using this
        · exact hp2.elim
      · exact hp2.elim
    · exact hp2.elim
  · exact hp1.elim
end
theorem me_cnt (ho : PE X o (tE X.K W ma)) (hv : PE X e (tE X.K W mb)) (hbase : attributeBase o "count" X.env (eval o X.env) = eval o X.env := by rfl)
    (hfew : ((backTo cpos (starEach [e] X.env)).all (fun x => !x.1) && (backToKw cpos (keywordEach [] X.env)).all (fun x => x.1.isSome) && decide ([e].length + ([] : List Keyword).length + (if ([] : List Keyword).isEmpty then 0 else 1) < 30)) = true := by rfl)
    (hline : (apos.endLine == cpos.line) = true := by rfl) (hs : starEach [e] X.env = (false, eval e X.env) :: starEach [] X.env := by rfl) : PE X (.Call (.Attribute o "count" apos) [e] [] cpos) (tE X.K W (mCnt ma mb)) := me_cnt0 hfew ho hv hbase hline hs
theorem me_idx (ho : PE X o (tE X.K W ma)) (hv : PE X e (tE X.K W mb)) (hbase : attributeBase o "index" X.env (eval o X.env) = eval o X.env := by rfl)
    (hfew : ((backTo cpos (starEach [e] X.env)).all (fun x => !x.1) && (backToKw cpos (keywordEach [] X.env)).all (fun x => x.1.isSome) && decide ([e].length + ([] : List Keyword).length + (if ([] : List Keyword).isEmpty then 0 else 1) < 30)) = true := by rfl)
    (hline : (apos.endLine == cpos.line) = true := by rfl) (hs : starEach [e] X.env = (false, eval e X.env) :: starEach [] X.env := by rfl) : PE X (.Call (.Attribute o "index" apos) [e] [] cpos) (tE X.K W (mIdx ma mb)) := me_idx0 hfew ho hv hbase hline hs
theorem bt_ValueError : bootBuiltins "ValueError" = some (.type "ValueError") := by decide +kernel
/-! l.pop() -/
def mPop (ma : Mo D) : Mo D := fun ev st => (ma ev st).bind fun d st1 => match d with
  | .ref i => (match st1[i]? with
    | some (.lst ds) => (match ds[ds.length - 1]? with
      | some y => .ok y (st1.set i (.lst ds.dropLast))
      | none => .bad)
    | _ => .bad)
  | _ => .bad
theorem Rps.dropLast' {K : PySem.W.Frag} {H : Hp} {mu : List Addr} {vs : List V} {ds : List D} (h : Rps K H mu vs ds) : Rps K H mu vs.dropLast ds.dropLast := by
  rw [List.dropLast_eq_take, List.dropLast_eq_take, Rps.length h]
  exact h.take _
theorem me_pop (ho : PE X o (tE X.K W ma)) (hbase : attributeBase o "pop" X.env (eval o X.env) = eval o X.env := by rfl) (hline : (apos.endLine == cpos.line) = true := by rfl) : PE X (.Call (.Attribute o "pop" apos) [] [] cpos) (tE X.K W (mPop ma)) := by
  refine PE.imp (pe_bm0 PySem.F.plainAttrs_list PySem.F.slot_list_pop PySem.F.type_list_pop mt_pop ho hbase hline) fun σ H Q ⟨mu, ev, st, he, hst, hp⟩ => ?_
  refine ⟨mu, ev, st, he, hst, hp.bind fun d st1 mu1 x H1 _ e1 r1 s1 hp1 => ?_⟩
  split at hp1
  · cases r1 with
    | ref hi =>
      obtain ⟨ob, hob, ok⟩ := s1.at hi
      rw [hob] at hp1
      split at hp1
      · rename_i eq; cases eq
        split at hp1
        · rename_i y hy
          obtain ⟨vs, h1, r⟩ := ok
          obtain ⟨yv, hyv, ry⟩ := r.get hy
          rw [← Rps.length r] at hyv
          have e0 : Ext mu1 H1 mu1 (upd H1 _ (.lst vs.dropLast)) := ext_write s1 (List.mem_of_getElem? hi) (fun ob w z => by rw [h1] at z; cases z) _
          refine ⟨.inl ⟨rfl, vs, .inl (.inl h1)⟩, _, vs, yv, rfl, rfl, h1, hyv, ?_⟩
          exact hp1 _ _ _ e0 (ry.mono e0) (s1.write hi ⟨_, upd_same, (Rps.dropLast' r).mono e0⟩)
        · exact hp1.elim
      · exact hp1.elim
  · exact hp1.elim
end Ml

/-! sorted(set(l)), len(set(l)) of a list of whole numbers, of any size -/
namespace Ml
open PySem PySem.Spec L2 PyProof.Rows
/-- a new set's object -/
abbrev oS0 (w : World) : Obj := { cls := .type "set", dict := none, data := .set #[] 0 (.fresh 0 0 (!w.params.followText "set-order")) }
section
variable {P : Program} {w : World} {A : Around} {E : Value → Shared → Prop} {s : Shared}
theorem set_of_list {l : Addr} {items : Array Value} (ns : List Int) {Q : Value → Shared → Prop} (hh : A.handled = none) (hl : s.heap.IsList l items) (hit : IntsAre items.toList ns) (hb : ns.length + 1 < scanBound)
    (h : ∀ (h' : Heap) (tk c : Nat), SetR w h' s.heap.objs.size (fun j => decide (j ∈ ns)) c → c ≤ ns.length → (∀ b o, s.heap.get? b = some o → h'.get? b = some o) → Q (.ref s.heap.objs.size) { s with heap := h', toks := tk }) : wpAny (model P w) A (call (.type "set") [.ref l]) Q E s := by
  have hisz : items.size = ns.length := by have q := IntsAre.length hit; rw [Array.length_toList] at q; exact q
  obtain ⟨c, tl, hmro⟩ := F.called_set.mro
  have hmade := F.called_set.made; have hsub := F.called_set.sub
  refine wpAny_call (codeAny_of_tree ?_); show wpAny _ _ (callAny (.type "set") _) _ _ _
  refine wpAny_pure ⟨Code.quiet_builtin _ (by decide +kernel), codeAny_builtin F.entry_type_call ?_⟩; rw [Around.under_plain (weight_type_call_type "set" [.ref l] []) rfl]
  have h1 := F.called_set.notType; have h2 := F.called_set.canCreate; have hct := F.typeCall_set_1 (.ref l)
  (repeat (any_goals (first | assumption | wp_step)))
  refine codeAny_mono (code_set_led1 (.ref l) (E := E) (Q₁ := fun obj s₁ => obj = .ref s.heap.objs.size ∧ s₁ = { s with heap := s.heap.push (oS0 w) }) ⟨rfl, rfl⟩) fun r s₁ hr => ?_
  cases r with
  | error e => exact hr
  | ok fl => cases fl with
    | ret obj =>
      obtain ⟨rfl, rfl⟩ := hr
      have hS : (s.heap.push (oS0 w)).get? s.heap.objs.size = some (oS0 w) := Heap.get?_push_size _ rfl
      have hT : Shared.TypeIs { s with heap := s.heap.push (oS0 w) } (.ref s.heap.objs.size) "set" := ⟨_, hS, rfl⟩
      have hli := F.called_set.init.lookup; have hbi := F.called_set.init.bind (.ref s.heap.objs.size)
      (repeat (any_goals (first | assumption | wp_step)))
      refine codeAny_mono (codeAny_call_builtin (R := wants (fun r s₂ => r = .none ∧ ∃ h' tk c, s₂ = { s with heap := h', toks := tk } ∧ SetR w h' s.heap.objs.size (fun j => decide (j ∈ ns)) c ∧ c ≤ ns.length ∧ (∀ b o, s.heap.get? b = some o → h'.get? b = some o)) E) F.called_set.init.plain F.entry_set_init (check_set_init_1 hT ?_)) fun r₂ s₂ hr₂ => ?_
      · obtain ⟨⟨ocls, odict, odata, oslots⟩, hol, hcl, nl, hdl⟩ := hl
        simp only at hcl hdl
        subst hcl; subst hdl
        have hol' : (s.heap.push (oS0 w)).get? l = some { cls := .type "list", dict := odict, data := .seq items nl, slots := oslots } := Heap.get?_push_of_some _ hol
        have hsls := F.sub_list_set; have hslf := F.sub_list_frozenset
        have hne : (Value.type "list" == Value.type "dict") = false := by decide
        have hl1 : (s.heap.push (oS0 w)).IsList l items := ⟨_, hol', rfl, nl, rfl⟩
        unfold Builtin.«set.__init__» noKeywords Builtin.Frozenset.updateFrom; generalize hPI : pyIter = PI
        wp_walk
        subst hPI
        refine wpAny_pyIter_list hl1 (wpAny_bind (wpAny_runValue ?_))
        have hlS : l < s.heap.objs.size := Heap.lt_size hol
        have hh3 : A.in1.in1.in1.handled = none := by simp [hh]
        have hneI : l ≠ (s.heap.push (oS0 w)).objs.size := by rw [Heap.size_push]; exact Nat.ne_of_lt (Nat.lt_succ_of_lt hlS)
        have hSf : s.heap.objs.size ∉ [(s.heap.push (oS0 w)).objs.size, l] := by
          rw [Heap.size_push]; simp only [List.mem_cons, List.mem_singleton, List.not_mem_nil, or_false, not_or]; exact ⟨Nat.ne_of_lt (Nat.lt_succ_self _), Nat.ne_of_gt hlS⟩
        have hval : ∀ (i : Nat) (v : Value), items[i]? = some v → ∃ k t, ns[i]? = some k ∧ v = .int k t := fun i v hv => by
          have hi : i < ns.length := by rw [← hisz]; exact (Array.getElem?_eq_some_iff.mp hv).1
          obtain ⟨t, e⟩ := PyProof.Rows.IntsAre.int_at hit i v (by rw [Array.getElem?_toList]; exact hv)
          exact ⟨ns[i], t, List.getElem?_eq_getElem hi, by rw [e, List.getD_eq_getElem?_getD, List.getElem?_eq_getElem hi] <;> rfl⟩
        refine set_update_ints ((Walks.list hh3 _ l hneI items).toS) s.heap.objs.size hSf ns hisz hb hval (items.size - 0) 0 _ (by omega) (Nat.zero_le _) ⟨⟨_, Heap.get?_push_size _ rfl, rfl, rfl⟩, (hl1.push _)⟩ ⟨0, Nat.le_refl 0, setR_new_at (Heap.get?_push_of_some _ hS)⟩ fun s' c' hm hc' hS' => ?_
        obtain ⟨h', g2, d', tk', os'⟩ := s'
        have eg : g2 = s.gens := hm.gens
        have ed : d' = s.drawn := hm.drawn
        have eo : os' = s.os := hm.os
        subst eg; subst ed; subst eo
        show wpAny _ _ _ _ _ _
        refine wpAny_pure ?_
        show wpAny _ _ (ret Value.none) _ _ _
        rw [hisz] at hc'
        refine wpAny_pure ⟨rfl, h', tk', c', rfl, hS', hc', fun b o e => ?_⟩
        have hb0 : b < s.heap.objs.size := Heap.lt_size e
        have hb2 : b ≠ (s.heap.push (oS0 w)).objs.size := by rw [Heap.size_push]; exact Nat.ne_of_lt (Nat.lt_succ_of_lt hb0)
        exact hm.heap b o (by simp only [List.mem_cons, List.mem_singleton, List.not_mem_nil, or_false, not_or]; exact ⟨Nat.ne_of_lt hb0, hb2⟩) (Heap.get?_push_of_some _ (Heap.get?_push_of_some _ e))
      · cases r₂ with
        | error e => exact hr₂
        | ok fl₂ => cases fl₂ with
          | ret r =>
            obtain ⟨rfl, h', tk, c', rfl, hS', hc', hk'⟩ := hr₂
            (repeat (any_goals (first | assumption | wp_step)))
            exact h _ _ _ hS' hc' hk'
          | _ => exact hr₂.elim
    | _ => exact hr.elim
/-- sorted(x), x a set of whole numbers -/
theorem sort_set {a : Addr} {S : Int → Bool} {n : Nat} {Q : Value → Shared → Prop} (R : SetR w s.heap a S n) (hh : A.handled = none)
    (hQ : ∀ s' p (out : Array Value) (c : Nat) (ns : List Int), (∀ b o, s.heap.get? b = some o → s'.heap.get? b = some o) → s'.gens = s.gens → s'.os = s.os → s.heap.objs.size ≤ p → s'.heap.get? p = some (seqObj "list" out c) → IntsAre out.toList ns → ns.Pairwise (· < ·) → (∀ k, k ∈ ns ↔ S k = true) → ns.length = n → Q (.ref p) s') :
    wpAny (model P w) A (call (.builtin "sorted") [.ref a]) Q E s := by
  obtain ⟨o, es, ep, t, ho, hex, hd, g, nd, hm, hb, hf, hn, hr, hl⟩ := R
  refine Calls.call_function_entry kind_sorted plain_sorted entry_sorted (args_sorted1 _) ?_
  unfold Builtin.«sorted»; refine wpAny_bind (m := checkCount "sorted" 1 1 _) (wpAny_pure ?_)
  refine wpAny_bind (collect_set (A := A.in1) hh ⟨o, ho, hex.1, hd⟩ hf hb hr hl fun s1 vs k1 hz g1 o1 pm => ?_)
  have hvl : vs.length = n := by rw [pm.length_eq, List.length_map, Array.length_toList]; exact hn
  have hI : IntsAre vs (vs.map Builtin.Re.reRawOf) := ints_of vs fun v hv => by
    obtain ⟨e, he, q⟩ := List.mem_map.mp (pm.mem_iff.mp hv)
    obtain ⟨k, tk, h1, _⟩ := g e he
    exact ⟨k, tk, by rw [← q]; exact h1⟩
  have pk : (vs.map Builtin.Re.reRawOf).Perm (es.toList.map L2.keyOf) := by have q := pm.map Builtin.Re.reRawOf; rw [List.map_map] at q; exact q
  have hzA : vs.length ≤ sizeLine := by rw [hvl, ← hn]; exact fits_of_scanBound hb
  refine wpAny_bind (wpAny_newList ?_ hzA)
  have hoL : (s1.heap.push (seqObj "list" vs.toArray 0)).get? s1.heap.objs.size = some (seqObj "list" vs.toArray 0) := Heap.get?_push_size _ rfl
  refine wpAny_bind (wpAny_holding (wpAny_call_entry slot_list_sort ⟨_, hoL, rfl⟩ entry_list_sort (SrtO.list_sort_ord (s := { s1 with heap := s1.heap.push (seqObj "list" vs.toArray 0) }) SrtO.swo_int hoL hzA (fun h2 => SrtO.ints_sortable hI h2) fun out hs hb2 => ⟨_, rfl, ?_⟩) (args_list_sort _)))
  obtain ⟨q1, q2, q3⟩ := SrtO.ints_out hI hs hb2
  obtain ⟨c, hc⟩ := sortedHeap_at (vs := vs) (out := out.toArray) hoL
  have pn : (out.map SrtO.iv).Perm (es.toList.map L2.keyOf) := q2.trans pk
  refine wpAny_pure ⟨_, rfl, hQ _ s1.heap.objs.size out.toArray c (out.map SrtO.iv) (fun b u e => ?_) g1 o1 hz hc (by simpa using q1) (lt_of_le_nodup _ q3 (pn.nodup_iff.mpr nd)) (fun k => by rw [pn.mem_iff, ← hm k]) ?_⟩
  · have q := k1 b u e
    have hlt := Heap.lt_size q
    show (sortedHeap (s1.heap.push (seqObj "list" vs.toArray 0)) s1.heap.objs.size vs out.toArray).get? b = some u
    rw [sortedHeap_old (Nat.ne_of_lt hlt) (by rw [size_push']; exact Nat.lt_succ_of_lt hlt)]; exact Heap.get?_push_of_some _ q
  · rw [pn.length_eq, List.length_map, Array.length_toList]; exact hn
end
def tSrtSet (K : PySem.W.Frag) (ta : TE) : TE := fun σ H Q => ta σ H fun x H1 => ∃ (l : Addr) (ns : List Int), x = .ref l ∧ SqL K H1 l (ns.map V.int) ∧ ns.length ≤ 4000 ∧
  ∀ (ms : List Int) (p : Addr), ms.Pairwise (· < ·) → (∀ k : Int, k ∈ ms ↔ k ∈ ns) → H1 p = none → Q (.ref p) (upd H1 p (.lst (ms.map V.int)))
theorem pe_sortedSet {X : Cx} {a : Expr} {ta : TE} {p p2 q pos : Pos} (hg : Gl X "sorted") (hm : X.mg "sorted" = none) (hg2 : Gl X "set") (hm2 : X.mg "set" = none) (ha : PE X a ta) (hc : X.calm = true := by rfl)
    (na : starEach [a] X.env = (false, eval a X.env) :: starEach [] X.env := by rfl) : PE X (.Call (.Name "sorted" p) [.Call (.Name "set" p2) [a] [] q] [] pos) (tSrtSet X.K ta) := by
  constructor
  intro pins s σ H Q I h
  refine Call_ (ld_blt I hg hm boot_sorted (PyProof.Rows.callWith_builtin1 (PyProof.Rows.args_cons ?_ rfl) rfl rfl))
  refine Call_ (ld_blt I hg2 hm2 boot_set ?_)
  refine PyProof.Rows.callWith_type1 (PyProof.Rows.args_cons (thn (ha.run pins s σ H _ I h) fun v s1 ⟨x, H1, I1, r1, q1⟩ => PyProof.Rows.args_nil ?_) na) na rfl
  obtain ⟨l, ns, rfl, hq, hl, q1⟩ := q1
  cases r1
  obtain ⟨its, r, pl, hz⟩ := I1.list hq
  refine set_of_list ns (I1.ok.hd hc) pl.isList (by simpa using r.ints) (by unfold scanBound; omega) fun h' tk c R hcn k => PyProof.Rows.args_nil ?_
  have I2 : Inv X pins σ H1 { s1 with heap := h', toks := tk } := I1.kept k
  refine sort_set R (I1.ok.hd hc) fun s' p0 out c0 ms k2 g o hp hgt hi hs hmm hlen => ?_
  have hcb : ms.length ≤ ns.length := by rw [hlen]; exact hcn
  have hz2 : (ms.map V.int).length ≤ sizeLine := by rw [List.length_map, sizeLine_eq]; omega
  have hn : H1 p0 = none := I2.hok.fresh hp
  have J : Inv X pins σ (upd H1 p0 (.lst (ms.map V.int))) { s1 with heap := s'.heap, gens := s'.gens, drawn := s'.drawn, toks := s'.toks } :=
    Inv.call (s := { s1 with heap := h', toks := tk }) (ch := []) I2 (Un.laid k2 hp hn) (I2.hok.laid k2 hp ⟨hz2, out.toList, c0, vals_of_ints hi, hgt⟩) (by rw [g]; exact I2.bare) (fun _ z => nomatch z)
  have e : s' = { s1 with heap := s'.heap, gens := s'.gens, drawn := s'.drawn, toks := s'.toks } := by
    cases s'; cases s1; cases o; rfl
  rw [e]
  exact ⟨.ref p0, _, J, rfl, q1 ms p0 hs (fun j => by rw [hmm j]; simp) hn⟩
/-! as a reading -/
def ddI : List Int → List Int
  | [] => []
  | x :: xs => if x ∈ ddI xs then ddI xs else x :: ddI xs
theorem mem_ddI {k : Int} : ∀ {xs : List Int}, k ∈ ddI xs ↔ k ∈ xs
  | [] => Iff.rfl
  | x :: xs => by
    have ih := mem_ddI (k := k) (xs := xs)
    unfold ddI
    split
    · rename_i h
      rw [List.mem_cons, ih]
      exact ⟨.inr, fun z => z.elim (fun e => by rw [e]; exact mem_ddI.mp h) id⟩
    · rw [List.mem_cons, List.mem_cons, ih]
theorem nd_ddI : ∀ xs : List Int, (ddI xs).Nodup
  | [] => List.nodup_nil
  | x :: xs => by
    unfold ddI
    split
    · exact nd_ddI xs
    · rename_i h
      exact List.nodup_cons.mpr ⟨h, nd_ddI xs⟩
/-- the members, rising -/
def ssort (ns : List Int) : List Int := sortI (ddI ns)
theorem ssort_mem {ns : List Int} {k : Int} : k ∈ ssort ns ↔ k ∈ ns := by rw [ssort, (sortI_perm _).mem_iff, mem_ddI]
theorem ssort_nd (ns : List Int) : (ssort ns).Nodup := (sortI_perm _).nodup_iff.mpr (nd_ddI ns)
theorem ssort_le (ns : List Int) : (ssort ns).Pairwise (· ≤ ·) := sortI_sorted _
theorem rise_one {ms ms' : List Int} (h : ms.Pairwise (· < ·)) (n' : ms'.Nodup) (h' : ms'.Pairwise (· ≤ ·)) (e : ∀ k, k ∈ ms ↔ k ∈ ms') : ms = ms' := by
  have n : ms.Nodup := h.imp fun z => Int.ne_of_lt z
  exact sorted_one ((List.perm_ext_iff_of_nodup n n').mpr e) (h.imp Int.le_of_lt) h'
def mSrtSet (mr : Mo (List D)) : Mo (List D) := fun ev st => (mr ev st).bind fun ds st1 => match intsOf ds with
  | some ns => if ns.length ≤ 4000 then .ok ((ssort ns).map D.int) st1 else .bad
  | none => .bad
theorem ml_srtSet {X : Cx} {W : Wx} {e : Expr} {mr : Mo (List D)} {p p2 q pos : Pos} (hg : Gl X "sorted") (hm : X.mg "sorted" = none) (hg2 : Gl X "set") (hm2 : X.mg "set" = none) (h : PE X e (tQ X.K W mr)) (hc : X.calm = true := by rfl)
    (na : starEach [e] X.env = (false, eval e X.env) :: starEach [] X.env := by rfl) : PE X (.Call (.Name "sorted" p) [.Call (.Name "set" p2) [e] [] q] [] pos) (tL X.K W (mSrtSet mr)) := by
  refine PE.imp (pe_sortedSet hg hm hg2 hm2 h hc na) fun σ H Q ⟨mu, ev, st, he, hst, hp⟩ => ?_
  refine ⟨mu, ev, st, he, hst, hp.bind fun ds st1 mu1 x H1 _ e1 r1 s1 hp1 => ?_⟩
  obtain ⟨l, vs, rfl, sq, rs⟩ := r1
  split at hp1
  · rename_i ns hn
    split at hp1
    · rename_i hl
      refine ⟨l, ns, rfl, by rw [← Rps.ints rs hn]; exact sq, hl, fun ms p' hs hk hp' => ?_⟩
      have em : ms = ssort ns := rise_one hs (ssort_nd ns) (ssort_le ns) fun k => by rw [hk, ssort_mem]
      subst em
      exact hp1 _ _ _ (ext_new hp' _) ⟨p', _, rfl, hp', upd_same, s1.fresh hp', Rps.of_ints _⟩ (s1.new hp' _)
    · exact hp1.elim
  · exact hp1.elim
end Ml

/-! len(set(l)) of a list of whole numbers -/
namespace Ml
open PySem PySem.Spec L2 PyProof.Rows
theorem nd_len {xs ys : List Int} (h1 : xs.Nodup) (h2 : ys.Nodup) (h : ∀ k, k ∈ xs ↔ k ∈ ys) : xs.length = ys.length := ((List.perm_ext_iff_of_nodup h1 h2).mpr h).length_eq
def tLenSetA (K : PySem.W.Frag) (ta : TE) : TE := fun σ H Q => ta σ H fun x H1 => ∃ (l : Addr) (ns : List Int), x = .ref l ∧ SqL K H1 l (ns.map V.int) ∧ ns.length ≤ 4000 ∧ Q (.int ((ddI ns).length : Nat)) H1
theorem pe_lenSetA {X : Cx} {a : Expr} {ta : TE} {p p2 q pos : Pos} (hg : Gl X "len") (hm : X.mg "len" = none) (hg2 : Gl X "set") (hm2 : X.mg "set" = none) (ha : PE X a ta) (hc : X.calm = true := by rfl)
    (na : starEach [a] X.env = (false, eval a X.env) :: starEach [] X.env := by rfl) : PE X (.Call (.Name "len" p) [.Call (.Name "set" p2) [a] [] q] [] pos) (tLenSetA X.K ta) := by
  constructor
  intro pins s σ H Q I h
  refine Call_ (ld_blt I hg hm boot_len (PyProof.Rows.callWith_builtin1 (PyProof.Rows.args_cons ?_ rfl) rfl rfl))
  refine Call_ (ld_blt I hg2 hm2 boot_set ?_)
  refine PyProof.Rows.callWith_type1 (PyProof.Rows.args_cons (thn (ha.run pins s σ H _ I h) fun v s1 ⟨x, H1, I1, r1, q1⟩ => PyProof.Rows.args_nil ?_) na) na rfl
  obtain ⟨l, ns, rfl, hq, hl, q1⟩ := q1
  cases r1
  obtain ⟨its, r, pl, hz⟩ := I1.list hq
  refine set_of_list ns (I1.ok.hd hc) pl.isList (by simpa using r.ints) (by unfold scanBound; omega) fun h' tk c R hcn k => PyProof.Rows.args_nil ?_
  have I2 : Inv X pins σ H1 { s1 with heap := h', toks := tk } := I1.kept k
  obtain ⟨o, es, ep, t, ho, hex, hd, gd, nd, hmem, hb, hf, hn, _⟩ := R
  have e : es.size = (ddI ns).length := by
    have h1 := nd_len nd (nd_ddI ns) fun j => by rw [← hmem j, mem_ddI, decide_eq_true_iff]
    rw [List.length_map, Array.length_toList] at h1
    exact h1
  exact call_len_set ho hex hd hf (by rw [hn]; omega) ⟨.int ((ddI ns).length : Nat), H1, I2.tok _, ⟨_, by rw [e]⟩, q1⟩
def mLenSet (mr : Mo (List D)) : Mo D := fun ev st => (mr ev st).bind fun ds st1 => match intsOf ds with
  | some ns => if ns.length ≤ 4000 then .ok (.int ((ddI ns).length : Nat)) st1 else .bad
  | none => .bad
theorem me_lenSet {X : Cx} {W : Wx} {e : Expr} {mr : Mo (List D)} {p p2 q pos : Pos} (hg : Gl X "len") (hm : X.mg "len" = none) (hg2 : Gl X "set") (hm2 : X.mg "set" = none) (h : PE X e (tQ X.K W mr)) (hc : X.calm = true := by rfl)
    (na : starEach [e] X.env = (false, eval e X.env) :: starEach [] X.env := by rfl) : PE X (.Call (.Name "len" p) [.Call (.Name "set" p2) [e] [] q] [] pos) (tE X.K W (mLenSet mr)) := by
  refine PE.imp (pe_lenSetA hg hm hg2 hm2 h hc na) fun σ H Q ⟨mu, ev, st, he, hst, hp⟩ => ?_
  refine ⟨mu, ev, st, he, hst, hp.bind fun ds st1 mu1 x H1 _ e1 r1 s1 hp1 => ?_⟩
  obtain ⟨l, vs, rfl, sq, rs⟩ := r1
  split at hp1
  · rename_i ns hn
    split at hp1
    · rename_i hl
      exact ⟨l, ns, rfl, by rw [← Rps.ints rs hn]; exact sq, hl, hp1 _ _ _ .refl (.int _) s1⟩
    · exact hp1.elim
  · exact hp1.elim
theorem e_LenSet (mr : Mo (List D)) (ev : Ev) (st : Sto) : mLenSet mr ev st = (mr ev st).bind fun ds st1 => match intsOf ds with
  | some ns => if ns.length ≤ 4000 then .ok (.int ((ddI ns).length : Nat)) st1 else .bad
  | none => .bad := rfl
end Ml

/-! a comprehension whose element is a call that may raise -/
namespace Ml
open PySem L2 PySem.Spec PyProof.Rows
/-- what is wished behind a comprehension's block, whose env is ce -/
def cPX (M : Model) (A : Around) (E : Value → Shared → Prop) (Q : Value → Shared → Prop) (acc : Value) (ce : Env) (r : Result) (s' : Shared) : Prop := match r with
  | .ok _ => ∃ m, s'.heap.Ns ce.locals m ∧ ∀ h', Heap.SameBut ce.locals s'.heap h' → Q acc { s' with heap := h' }
  | .error x => ∃ m, s'.heap.Ns ce.locals m ∧ ∀ h', Heap.SameBut ce.locals s'.heap h' → wpAny M A (passOn "comprehension.variables-let-go" x ce : Sem Value) (fun _ _ => False) E { s' with heap := h' }
theorem comp_X {M : Model} {A : Around} {E : Value → Shared → Prop} {s : Shared} {env : Env} {e : Expr} {scope : Scope} {pos : Pos} {newAcc first : Sem Value} {g : Comprehension} {gs : List Comprehension} {cl : List (Str × Addr)} {Q : Value → Shared → Prop}
    (hcl : clausesOf e = g :: gs) (hs : ∀ x, foldedSetIterable g.iter env x = pure x) (hclos : closureFor scope env = pure cl) (hkind : scope.kind = .function) (hnames : ∀ x ∈ scope.names, x.2 = .local → scope.names.lookup x.1 = some .local)
    (h : wpAny M A first (fun x s₁ => wpAny M A (pyIter x) (fun it s₂ => wpAny M A newAcc (fun acc s₃ => wpAny M A (newFunctionEnv scope env.globals cl [] env.qual none .none (some env)) (fun cenv s₄ => codeAny M A (.compStart e 0 it acc { cenv with scope := relabel scope env }) (cPX M A E Q acc { cenv with scope := relabel scope env }) s₄) E s₃) E s₂) E s₁) E s) :
    wpAny M A (comprehension e scope env pos newAcc false first none) Q E s := by
  unfold comprehension; rw [hclos, hcl]
  refine wpAny_bind (wpAny_mono h (fun x s₁ h₁ => wpAny_bind (wpAny_standAt (wpAny_bind (wpAny_of_eq (hs x) (wpAny_bind (wpAny_holding (wpAny_mono h₁ (fun it s₂ h₂ => wpAny_standIf (wpAny_bind (wpAny_mono h₂ (fun acc s₃ h₃ => wpAny_bind (wpAny_pure (wpAny_bind (wpAny_mono h₃ (fun cenv s₄ h₄ => ?_) fun _ _ h' => h')))) fun _ _ h' => h'))) fun _ _ h' => h'))))))) fun _ _ h' => h')
  dsimp only
  have hv : ∀ x ∈ (scope.names.filter fun x => (x.2 == .local || x.2 == .cell) && x.1 != (".0" : Str)).reverse, x.2 = .local → Env.kindOf { cenv with scope := relabel scope env } x.1 = some .local := fun x hx hl => lookup_relabel_local (hnames x (List.mem_filter.mp (List.mem_reverse.mp hx)).1 hl)
  refine wpAny_holding (wpAny_bind (wpAny_attempt (wpAny_holding (wpAny_run (codeAny_mono h₄ fun r s' hr => ?_)))))
  cases r with
  | ok f =>
    obtain ⟨m, hn, hr⟩ := hr
    exact wpAny_bind (wpAny_holding (wpAny_comp_letGo (cenv := { cenv with scope := relabel scope env }) hkind _ s' m hv hn fun h' m' _ hs' => wpAny_pure (hr h' hs')))
  | error x =>
    obtain ⟨m, hn, hr⟩ := hr
    exact wpAny_bind (wpAny_holding (wpAny_comp_letGo (cenv := { cenv with scope := relabel scope env }) hkind _ s' m hv hn fun h' m' _ hs' => wpAny_mono (hr h' hs') (fun _ _ f => f.elim) fun _ _ y => y))
variable {X : Cx} {pins : List (Addr × Obj)} {σ : L2.St} {H : Hp} {s s' : Shared} {V : WX}
theorem frames_on {h h' B B' : Heap} : ∀ {l : List Env}, h.FunFrames B l → (∀ L ∈ frs l, h'.get? L = h.get? L ∧ B'.get? L = none) → h'.FunFrames B' l
  | [], _, _ => trivial
  | env :: l, ⟨hk, ⟨L, o, hf, _, ho, hd⟩, hr⟩, k => by
    have hm : L ∈ frs (env :: l) := List.mem_filterMap.mpr ⟨env, List.mem_cons_self, hf⟩
    refine ⟨hk, ⟨L, o, hf, (k L hm).2, by rw [(k L hm).1]; exact ho, hd⟩, frames_on hr fun b hb => ?_⟩
    obtain ⟨e, he, q⟩ := List.mem_filterMap.mp hb
    exact k b (List.mem_filterMap.mpr ⟨e, List.mem_cons_of_mem _ he, q⟩)
/-- a call's exception, noted in the block, its names let go, and passed on -/
theorem fly_comp (I : Inv X pins σ H s) (hs : X.stack = X.env :: X.outer) (hf : X.env.frame = some X.env.locals) (tk : Takes X V) {C : Addr} (fC : FpOk X pins H C) {m : Str → Option Value} (hn : s.heap.Ns C m) {ce : Env} (hce : ce.locals = C) (hcf : ce.frame = X.env.frame)
    {E : XK} (hE : ∀ cls d H', E cls d H' → V cls d σ H') {Qf : Value → Shared → Prop} {acc u : Value} (c : L2.CX X.prog X.w X.stack H s E u s') : notedBy (model X.prog X.w) X.A ce (fun e s2 => cPX (model X.prog X.w) X.A X.xe Qf acc ce (.error e) s2) u s' := by
  obtain ⟨a, B, H', cls, d, rfl, fl, hok, ub, na, os, ag, hE'⟩ := c
  obtain ⟨oC, es, ep, hoC, rC⟩ := id hn
  have nfC : C ∉ frs X.stack := fun z => by
    rcases List.mem_cons.mp (I.stkSub C z) with z | z
    · exact fC.2.1 z
    · exact fC.2.2.1 z
  have bC : B.get? C = some oC := ub.keep C oC hoC fC.1 nfC
  have st : B.StaysIn s'.heap := fl.1
  have same : noteFrame (.ref a) ce = noteFrame (.ref a) X.env := by unfold noteFrame PySem.frameOf; rw [hcf]
  show wpAny _ X.A (noteFrame (.ref a) ce) _ _ _
  rw [same]
  refine HandSPX.looks_onZ (outer := X.outer) (L := X.env.locals) Zc.steady (by rw [I.ok.frames, hs]) hf (by rw [← hs]; exact fl) fun h1 hh1 up1 => ?_
  have kC1 : h1.get? C = some oC := hh1.1 C oC bC
  refine ⟨m, by rw [hce]; exact ⟨oC, es, ep, kC1, rC⟩, fun h2 sb => ?_⟩
  rw [hce] at sb
  obtain ⟨g1, g2, g3, oe, vs, T, oT, ts, he, hz, hd, hv1, nT, neT, hT, hdT, h3⟩ := id hh1
  have aC : a ≠ C := fun z => by rw [z, bC] at g2; cases g2
  have TC : T ≠ C := fun z => by rw [z, bC] at nT; cases nT
  have s2 : ∀ b, b ≠ C → h2.get? b = h1.get? b := fun b hb => sb.2 b hb
  obtain ⟨B', b1, b2⟩ := restrict B fun b => decide (b ≠ C)
  have bk : ∀ b o, B'.get? b = some o → B.get? b = some o ∧ b ≠ C := fun b o e => by
    by_cases hb : b = C
    · rw [b2 b (by simp [hb])] at e; cases e
    · rw [b1 b (by simp [hb])] at e; exact ⟨e, hb⟩
  have bn : ∀ b, B.get? b = none → B'.get? b = none := fun b e => by
    cases q : B'.get? b with
    | none => rfl
    | some o => have := (bk b o q).1; rw [e] at this; cases this
  -- the world below, without the block's names
  obtain ⟨G, q1, q2⟩ := restrict s'.heap fun b => decide (b ≠ C) && ((B.get? b).isSome || decide (b ∈ frs X.stack))
  have gB : ∀ b o, B.get? b = some o → b ≠ C → G.get? b = some o := fun b o e hb => by rw [q1 b (by simp [e, hb])]; exact st b o e
  have gF : ∀ b, b ∈ frs X.stack → G.get? b = s'.heap.get? b := fun b hb => q1 b (by
    have : b ≠ C := fun z => nfC (z ▸ hb)
    simp [hb, this])
  have og : ∀ b o, G.get? b = some o → s'.heap.get? b = some o ∧ b ≠ C ∧ ((B.get? b).isSome = true ∨ b ∈ frs X.stack) := fun b o e => by
    cases q : (decide (b ≠ C) && ((B.get? b).isSome || decide (b ∈ frs X.stack))) with
    | false => rw [q2 b q] at e; cases e
    | true =>
      rw [q1 b q] at e
      simp only [Bool.and_eq_true, decide_eq_true_eq, Bool.or_eq_true] at q
      exact ⟨e, q.1, q.2⟩
  have hC' : H' C = none := ub.free C oC hoC fC.1
  have J : Inv X pins σ H' { s with heap := G, gens := s'.gens, drawn := s'.drawn, toks := s'.toks } := by
    refine I.call (ch := [C]) ⟨fun b o e n hb hc => gB b o (ub.keep b o e n hb) (by simpa using hc), fun b o e n hb _ => ?_, fun b o e n _ => ub.free b o e n, fun b o e hc => ?_, ub.tups, ub.frzs, ub.tbls⟩ (fun b o e => ?_) ag (fun b hb => ?_)
    · obtain ⟨sl, q⟩ := ub.slot b o e hb
      exact ⟨sl, by rw [gF b hb]; exact q⟩
    · by_cases hb : b ∈ frs X.stack
      · obtain ⟨sl, q⟩ := ub.slot b o e hb
        exact ⟨_, by rw [gF b hb]; exact q⟩
      · obtain ⟨o', q⟩ := ub.there b o e hb
        exact ⟨o', gB b o' q (by simpa using hc)⟩
    · refine (hok b o e).stay (fun k u hk q => gB k u q fun z => ?_) (fun _ q => q) fun _ _ q => q
      subst z
      rcases hk with hk | hk
      · rw [← hk, hC'] at e; cases e
      · rw [hC'] at hk; cases hk
    · have := List.mem_singleton.mp hb
      subst this
      exact ⟨fC.2.2.2.1, fC.2.1, fC.2.2.2.2.1, fC.2.2.2.2.2⟩
  have fr2 : h2.FunFrames B' X.stack := by
    rw [hs]
    refine frames_on g3 fun L hL => ⟨s2 L fun z => nfC (by rw [hs, ← z]; exact hL), ?_⟩
    obtain ⟨hnL, _⟩ := g3.mem hL
    exact bn L hnL
  have tr2 : HandSPX.TracedZ h2 B' a (Zc cls d) (rawInt X.env.locals) := ⟨oe, vs, T, oT, ts, by rw [s2 a aC]; exact he, hz, hd, hv1, bn T nT, neT, by rw [s2 T TC]; exact hT, hdT, h3⟩
  have st2 : B'.StaysIn h2 := fun b o e => by rw [s2 b (bk b o e).2]; exact g1 b o (bk b o e).1
  unfold PySem.passOn
  refine wpAny_bind (wpAny_field (by rw [s2 a aC]; exact he) hd hv1 ?_)
  rw [if_neg (show ¬ ((Value.ref T == Value.none) = true) from by simp), hcf, hf]
  have fin : wpAny (model X.prog X.w) X.A (setFlight (.ref a) (some X.env.locals)) (fun _ t4 => wpAny (model X.prog X.w) X.A (throw (.ref a) : Sem Value) (fun _ _ => False) X.xe t4) X.xe { s' with heap := h2 } := by
    refine HandSPX.setFlight_anyZ (s := { s' with heap := h2 }) st2 fr2 tr2 fun h4 k1 k2 k3 k4 => wpAny_throw (tk _ _ ⟨a, B', _, pins, σ, H', cls, d, rfl, J, fun b o e hb => ?_, fun b o e hnf => ?_, .inr (.inr ⟨k1, bn a g2, k2, k3⟩), na, os, ag, hE _ _ _ hE'⟩)
    · obtain ⟨e1, hbC, e2 | e2⟩ := og b o e
      · obtain ⟨o', q⟩ := Option.isSome_iff_exists.mp e2
        have z := st b o' q
        rw [e1] at z; cases z
        rw [b1 b (by simp [hbC])]; exact q
      · exact absurd e2 hb
    · obtain ⟨e1, hbC, _⟩ := og b o e
      obtain ⟨sl, e2⟩ := up1 b o e1 hnf
      rw [← s2 b hbC] at e2
      obtain ⟨sl2, e3⟩ := k4 b { o with slots := sl } e2 hnf
      exact ⟨sl2, e3⟩
  first
    | exact wpAny_bind (wpAny_pure (wpAny_bind fin))
    | exact wpAny_bind fin
/-- the context of the block, with a wish about what leaves it -/
abbrev blkX (X : Cx) (s : Shared) (H : Hp) (scope : Scope) (ce : Env) (fp : List Addr) (xe : Value → Shared → Prop) : Cx := (X.blk s H scope ce fp).wish xe
section
variable {elt tg iter : Expr} {ifs : List Expr} {scope : Scope} {own : List (Str × Nat)} {pos pos' : Pos} {wi : TI} {g : TG} {tt : TT} {te : TE} {Q : VK} {Qf : Value → Shared → Prop}
theorem lc_X (hc : X.calm = true) (hN : X.N.Nodup) (I : Inv X pins σ H s) (hst : X.stack = X.env :: X.outer) (hfr : X.env.frame = some X.env.locals) (tk : Takes X V) (hV : ∀ cls d σ σ' H, V cls d σ H → V cls d σ' H) (hi : PI X tg iter wi) (ok : BlkOk X.N X.env.scope scope own)
    (hg : ∀ s H C cl fp xe, PG (blkX X s H scope (compEnvC scope cl C X.env) fp xe) tg g) (ht : ∀ s H C cl fp xe, PTs (blkX X s H scope (compEnvC scope cl C X.env) fp xe) ifs tt)
    (he : ∀ s H C cl fp xe, (∀ τ, PassesAt (L2.CX X.prog X.w) (blkX X s H scope (compEnvC scope cl C X.env) fp xe) τ (WE V τ)) → PE (blkX X s H scope (compEnvC scope cl C X.env) fp xe) elt te) (hs : ∀ x, foldedSetIterable iter X.env x = pure x) (h : tLc wi g tt te (own.map (·.2)) σ H Q)
    (hQ : ∀ D C s' m H', Inv X pins σ H' s' → Q (.ref D) H' → s'.heap.Ns C m → FpOk X pins H' C → ∃ m, s'.heap.Ns C m ∧ ∀ h', Heap.SameBut C s'.heap h' → Qf (.ref D) { s' with heap := h' }) :
    wpAny (model X.prog X.w) X.A (comprehension (.ListComp elt [⟨tg, iter, ifs, 0⟩] scope pos) scope X.env pos' (newList []) false (eval iter X.env) none) Qf X.xe s := by
  have hfree : ∀ y ∈ scope.names, y.2 = .free → ∃ c, X.env.cells.lookup y.1 = some c := fun y hy e => (ok.free y hy e).elim (fun k => I.ok.has _ (.inl k)) fun k => I.ok.has _ (.inr k)
  refine comp_X rfl hs (closure_ok hfree) ok.kind (fun y hy e => by rw [ok.uniq y hy, e]) (thn (hi.run pins s σ H _ I h) fun xv s1 hx => thn hx fun itv s2 h2 => ?_)
  obtain ⟨it, fp, tn, J, H2, rfl, I2, T, st2, f2, q⟩ := h2
  refine wpAny_newObj_type (newEnv_comp ?_) (by show 0 ≤ sizeLine; decide)
  generalize hD : s2.heap.objs.size = D; have hDn : H2 D = none := I2.hok.fresh (Nat.le_of_eq hD)
  obtain ⟨Wm, ⟨m0, w0⟩, turn⟩ := q D hDn
  generalize hs3 : ({ s2 with heap := s2.heap.push { cls := .type "list", data := .seq ([] : List Value).toArray } } : Shared) = s3; have h3 : s3.heap = s2.heap.push { cls := .type "list", data := .seq ([] : List Value).toArray } := by rw [← hs3]
  have I3 : Inv X pins σ (upd H2 D (.lst [])) s3 := by
    rw [← hs3]; exact I2.laid (t' := s2.toks) (fun b o e => Heap.get?_push_of_some _ e) (Nat.le_of_eq hD) ⟨Nat.zero_le _, [], 0, .nil, by rw [← hD]; exact Heap.get?_push_size _ rfl⟩
  have sz : ∀ b ∈ fp, b < s2.heap.objs.size := fun b hb => by obtain ⟨o, e, _⟩ := T.obj _ _ st2 b hb; exact Heap.lt_size e
  have f3 : ∀ b ∈ fp, FpOk X pins (upd H2 D (.lst [])) b ∧ b < s3.heap.objs.size := fun b hb => by
    have hlt := sz b hb
    exact ⟨⟨by rw [upd_ne (by rw [← hD]; exact Nat.ne_of_lt hlt)]; exact (f2 b hb).1, (f2 b hb).2⟩, by rw [h3, Heap.size_push]; exact Nat.lt_succ_of_lt hlt⟩
  have st3 : tn 0 s3.heap := T.keep _ _ _ st2 fun b _ o e => (by rw [h3]; exact Heap.get?_push_of_some _ e)
  have I4 := block_start I3 ok hN f3
  generalize hcl : cellsFrom (s3.heap.objs.size + 1) scope.names (cloFrom X.env.cells scope.names []) = cl at I4
  generalize hC : s3.heap.objs.size = C at I4
  have pg := fun xe => hg s3 (upd H2 D (.lst [])) C cl fp xe
  have pt := fun xe => ht s3 (upd H2 D (.lst [])) C cl fp xe
  have pe := fun xe => he s3 (upd H2 D (.lst [])) C cl fp xe
  have gl : codeAny (model X.prog X.w) X.A (.compStart (.ListComp elt [⟨tg, iter, ifs, 0⟩] scope pos) 0 (.ref it) (.ref D) (compEnvC scope cl C X.env)) (cPX (model X.prog X.w) X.A X.xe Qf (.ref D) (compEnvC scope cl C X.env)) { s3 with heap := pushCells (s3.heap.push { cls := .type "dict", data := .dict #[] }) scope.names } := by
    have cL : (compEnvC scope cl C X.env).locals = C := rfl
    have cF : (compEnvC scope cl C X.env).frame = X.env.frame := rfl
    generalize compEnvC scope cl C X.env = ce at I4 pg pt pe cL cF ⊢
    generalize hH3 : upd H2 D (.lst []) = H3 at I3 I4 pg pt pe w0 f3
    generalize hs4 : ({ s3 with heap := pushCells (s3.heap.push { cls := .type "dict", data := .dict #[] }) scope.names } : Shared) = s4 at I4 ⊢
    have st4 : tn 0 s4.heap := T.keep _ _ _ st3 fun b _ o e => (by rw [← hs4]; exact pushCells_keeps _ _ _ _ (Heap.get?_push_of_some _ e))
    have nfp : ∀ b ∈ fp, H3 b = none := fun b hb => (f3 b hb).1.1
    generalize hxe : (notedBy (model X.prog X.w) X.A ce fun e t => cPX (model X.prog X.w) X.A X.xe Qf (.ref D) ce (.error e) t) = xe
    have pg := pg xe; have pt := pt xe
    have back : ∀ {pn τ H' s'}, Inv (blkX X s3 H3 scope ce fp xe) pn τ H' s' → Inv X pins σ H' s' := fun {pn τ H' s'} I' =>
      I3.call' (ch := fp) I'.os I'.base I'.hok I'.bare fun b hb => ⟨(f3 b hb).1.2.2.2.1, (f3 b hb).1.2.1, (f3 b hb).1.2.2.2.2.1, (f3 b hb).1.2.2.2.2.2⟩
    have atC : ∀ {pn τ H' s'}, Inv (blkX X s3 H3 scope ce fp xe) pn τ H' s' → FpOk X pins H' C ∧ ∃ m, s'.heap.Ns C m := fun {pn τ H' s'} I' => by
      have nC : H' C = none := by have z : H' ce.locals = none := I'.free; rw [cL] at z; exact z
      obtain ⟨m, hn, _⟩ := I'.loc
      have hn : s'.heap.Ns ce.locals m := hn
      rw [cL] at hn
      exact ⟨I3.fpOk (Nat.le_of_eq hC) nC, m, hn⟩
    have pe := pe xe fun τ pn H' sB e s' IB c => by
      obtain ⟨k1, m, k2⟩ := atC IB
      show xe e s'
      rw [← hxe]
      exact fly_comp (back IB) hst hfr tk k1 k2 cL cF (fun cls d H' z => hV cls d _ _ H' z) c
    have hIY : Inv (blkX X s3 H3 scope ce fp xe) [] (wipe σ (own.map (·.2))) H3 s4 := I4.wish xe
    have stat : ∀ {τ H' s'}, Inv (blkX X s3 H3 scope ce fp xe) [] τ H' s' → (∀ b ∈ fp, H' b = none) → ∀ b ∈ fp, FpOk (blkX X s3 H3 scope ce fp xe) [] H' b := fun {τ H' s'} I' hn b hb =>
      ⟨hn b hb, (I'.ok.exf b hb).1, I'.ok.exfs b hb, .inl hb, (I'.ok.exf b hb).2, fun p hp => absurd (show p ∈ ([] : List (Addr × Obj)) ++ [] from hp) (by simp)⟩
    have loop : codeAny (model X.prog X.w) X.A (.compLoop (.ListComp elt [⟨tg, iter, ifs, 0⟩] scope pos) 0 (.ref it) (.ref D) ce) (cPX (model X.prog X.w) X.A X.xe Qf (.ref D) ce) s4 := by
      refine compLoop_any (fun n t => ∃ i H', Inv (blkX X s3 H3 scope ce fp xe) [] (wipe σ (own.map (·.2))) H' t ∧ tn i t.heap ∧ (∀ b ∈ fp, H' b = none) ∧ Wm i n H') ?_ m0 ⟨0, H3, hIY, st4, nfp, w0⟩
      rw [hxe]
      rintro n s5 ⟨i, H5, I5, st5, n5, w5⟩
      rcases turn i n H5 w5 with ⟨stop, qq⟩ | ⟨go, Nx, hNx, step⟩
      · refine thn (T.done (blkX X s3 H3 scope ce fp xe) rfl rfl rfl hc i [] s5 _ H5 xe I5 (stat I5 n5) st5 stop) fun r s6 ⟨hr, I6⟩ => ?_
        subst hr
        obtain ⟨k1, m, k2⟩ := atC I6
        have := hQ D C s6 m H5 (back I6) qq k2 k1
        rw [← cL] at this
        exact this
      · refine thn (T.item (blkX X s3 H3 scope ce fp xe) rfl rfl rfl hc i [] s5 _ H5 xe I5 (stat I5 n5) st5 go) fun r s6 ⟨u, hr, h6⟩ => ?_
        subst hr
        refine thn h6 fun _ s7 ⟨x, H7, I7, r7, y7, st7, n7⟩ => ?_
        have I7' := I7.pinned (stat I7 n7) (T.obj _ _ st7)
        refine thn (pg.run _ s7 _ H7 x u _ I7' r7 (step x H7 y7)) fun _ s8 ⟨σ8, H8, I8, hw8, q8⟩ => thn (pt.run _ s8 σ8 H8 _ I8 q8) fun b s9 ⟨H9, I9, q9⟩ => ?_
        have fin : ∀ {s' : Shared} {H' : Hp}, Inv (blkX X s3 H3 scope ce fp xe) ([] ++ pinsAt fp s7.heap) σ8 H' s' → Nx H' → ∃ m, m < n ∧ ∃ i H', Inv (blkX X s3 H3 scope ce fp xe) [] (wipe σ (own.map (·.2))) H' s' ∧ tn i s'.heap ∧ (∀ b ∈ fp, H' b = none) ∧ Wm i m H' := fun {s' H'} I' nx => by
          obtain ⟨m', hm, w'⟩ := hNx H' nx
          have pin' : ∀ b ∈ fp, ∀ o, s7.heap.get? b = some o → s'.heap.get? b = some o ∧ H' b = none := fun b hb o e => by
            obtain ⟨z1, z2, _⟩ := I'.pin (b, o) (List.mem_append_right _ (List.mem_append_right _ (mem_pinsAt hb e)))
            exact ⟨z1, z2⟩
          refine ⟨m', hm, i + 1, H', (I'.unpinned (pins := [])).weak (by rw [← hw8, wipe_length]) (fun j v e => by rw [← hw8] at e; exact (wipe_some e).1), T.keep _ _ _ st7 fun b hb o e => (pin' b hb o e).1, fun b hb => ?_, w'⟩
          obtain ⟨o, e, _⟩ := T.obj _ _ st7 b hb
          exact (pin' b hb o e).2
        cases b with
        | false =>
          simp only [Bool.false_eq_true, if_false] at q9 ⊢; exact fin I9 q9
        | true =>
          simp only [if_true] at q9 ⊢
          exact thn (pe.run _ s9 σ8 H9 _ I9 q9) fun z s10 ⟨yv, H10, I10, r10, acc, hD10, hz10, nx⟩ => app_ok (X := blkX X s3 H3 scope ce fp xe) I10 hD10 hz10 r10 fun s11 I11 => fin I11 nx
    exact codeAny_compStart_list loop (T.self X.A 0 _ _ _ st4 loop)
  subst hcl hC
  exact gl
/-- [elt for target in iter], the element a call that may raise -/
theorem pe_lcX (hc : X.calm = true) (hN : X.N.Nodup) (hst : X.stack = X.env :: X.outer) (hfr : X.env.frame = some X.env.locals) (tk : Takes X V) (hV : ∀ cls d σ σ' H, V cls d σ H → V cls d σ' H) (hi : PI X tg iter wi) (ok : BlkOk X.N X.env.scope scope own)
    (hg : ∀ s H C cl fp xe, PG (blkX X s H scope (compEnvC scope cl C X.env) fp xe) tg g) (ht : ∀ s H C cl fp xe, PTs (blkX X s H scope (compEnvC scope cl C X.env) fp xe) ifs tt)
    (he : ∀ s H C cl fp xe, (∀ τ, PassesAt (L2.CX X.prog X.w) (blkX X s H scope (compEnvC scope cl C X.env) fp xe) τ (WE V τ)) → PE (blkX X s H scope (compEnvC scope cl C X.env) fp xe) elt te) (hs : ∀ x, foldedSetIterable iter X.env x = pure x := by intro _; rfl) :
    PE X (.ListComp elt [⟨tg, iter, ifs, 0⟩] scope pos) (tLc wi g tt te (own.map (·.2))) := by
  constructor
  intro pins s σ H Q I h
  rw [eval_ListComp]
  refine lc_X hc hN I hst hfr tk hV hi ok hg ht he hs h fun D C s' m H' I' q hn f => ⟨m, hn, fun h'' sb => ?_⟩
  obtain ⟨f0, f1, f2, f3, f4, f5⟩ := f
  exact ⟨.ref D, H', I'.turned (t' := s'.toks) (fun b o hb e => (sb.2 b hb).trans e) f0 f1 f3 f4 f5, rfl, q⟩
end
end Ml

/-! a comprehension whose element may raise: its reading -/
namespace Ml
open PySem L2
variable {X : Cx} {W : Wx} {e : Expr} {es : List Expr} {pos p : Pos} {ma : Mo D} {mr : Mo (List D)} {ta : Mo Bool}
def lcLoopX (g : Gt) (t : Mo Bool) (m : Mo D) : List D → Ev → Sto → Rs (List D)
  | [], _, st => .ok [] st
  | d :: ds, ev, st => match g d ev with
    | none => .bad
    | some ev1 => match t ev1 st with
      | .ok true st1 => (match m ev1 st1 with
        | .ok y st2 => (match lcLoopX g t m ds ev st2 with
          | .ok ys st3 => .ok (y :: ys) st3
          | .exc c e s => .exc c e s
          | .bad => .bad)
        | .exc c e s => .exc c e s
        | .bad => .bad)
      | .ok false st1 => lcLoopX g t m ds ev st1
      | _ => .bad
def mLcX (vs : List Nat) (mi : Mo (List D)) (g : Gt) (t : Mo Bool) (m : Mo D) : Mo (List D) := fun ev st => (mi ev st).bind fun it st1 => match lcLoopX g t m it (wipeD ev vs) st1 with
  | .ok ys s => .ok ys s
  | .exc c _ s => .exc c ev s
  | .bad => .bad
theorem lc_goX {own : List Nat} {mi : Mo (List D)} {g : Gt} {ws : List Nat} {σ : L2.St} {H : Hp} {Q : VK} {K : PySem.W.Frag} {ta : Mo Bool} {ma : Mo D} (hW : ∀ c σ σ' H, W c σ H → W c σ' H) (hw : ∀ i ∈ ws, i ∈ own) (h : tL K W (mLcX own mi g ta ma) σ H Q) : tLc (tI K W mi) (tGt K ws g) (tT K W0 ta) (tE K W ma) own σ H Q := by
  obtain ⟨mu, ev, st, he, hst, hp⟩ := h
  refine ⟨mu, ev, st, he, hst, hp.bind fun it st1 mu1 J H1 _ e1 r1 s1 hp1 => ?_⟩
  obtain ⟨hl, inv, ok, hinv⟩ := r1
  intro q hq
  let fin (acc : List D) (r : Rs (List D)) : Prop := match r with
    | .ok ys st' => ∀ mu2 vs H2, Ext mu1 H1 mu2 H2 → H2 q = some (.lst vs) → q ∉ mu2 → Rps K H2 mu2 vs (acc ++ ys) → RelSt K H2 mu2 st' → Q (.ref q) H2
    | .exc c _ s => ∀ mu2 H2, Ext mu1 H1 mu2 H2 → RelSt K H2 mu2 s → W c σ H2
    | .bad => False
  have start : fin [] (lcLoopX g ta ma it (wipeD ev own) st1) := by
    show (match lcLoopX g ta ma it (wipeD ev own) st1 with
    | .ok ys st' => ∀ mu2 vs H2, Ext mu1 H1 mu2 H2 → H2 q = some (.lst vs) → q ∉ mu2 → Rps K H2 mu2 vs ([] ++ ys) → RelSt K H2 mu2 st' → Q (.ref q) H2
    | .exc c _ s => ∀ mu2 H2, Ext mu1 H1 mu2 H2 → RelSt K H2 mu2 s → W c σ H2
    | .bad => False)
    cases hr : lcLoopX g ta ma it (wipeD ev own) st1 with
    | bad => rw [hr] at hp1; exact hp1
    | exc c e s =>
      rw [hr] at hp1
      exact fun mu2 H2 e2 s2 => hp1 mu2 σ H2 e2 ((he.mono e1).mono e2) s2
    | ok ys st' =>
      rw [hr] at hp1
      exact fun mu2 vs H2 e2 h2 n2 r2 s2 => hp1 mu2 (.ref q) H2 e2 ⟨q, vs, rfl, hq, h2, n2, r2⟩ s2
  refine ⟨fun i m H => m = it.length - i ∧ i ≤ it.length ∧ ∃ mu st acc vs, Ext mu1 H1 mu H ∧ RelSt K H mu st ∧ inv H mu ∧ H q = some (.lst vs) ∧ q ∉ mu ∧ Rps K H mu vs acc ∧ acc.length ≤ i ∧ fin acc (lcLoopX g ta ma (it.drop i) (wipeD ev own) st),
    ⟨_, rfl, Nat.zero_le _, mu1, st1, [], [], ext_new hq _, s1.new hq _, ok.keep _ _ _ _ hinv (ext_new hq _), upd_same, s1.fresh hq, .nil, Nat.le_refl _, start⟩, ?_⟩
  rintro i m H ⟨rfl, hi, mu, st, acc, vs, eE, hs, hinv, hqv, hqn, hr, hal, hf⟩
  have heW : RelEv K H mu (wipe σ own) (wipeD ev own) := ((he.mono e1).mono eE).wipe own
  by_cases hlt : i < it.length
  · have hx : it[i]? = some it[i] := List.getElem?_eq_getElem hlt
    refine .inr ⟨ok.go H mu i _ hinv hx, fun H' => i + 1 ≤ it.length ∧ ∃ mu st acc vs, Ext mu1 H1 mu H' ∧ RelSt K H' mu st ∧ inv H' mu ∧ H' q = some (.lst vs) ∧ q ∉ mu ∧ Rps K H' mu vs acc ∧ acc.length ≤ i + 1 ∧ fin acc (lcLoopX g ta ma (it.drop (i + 1)) (wipeD ev own) st), fun H' h => ⟨_, by omega, rfl, h⟩, fun v H' y => ?_⟩
    obtain ⟨k1, k2, k3⟩ := ok.yld H mu st i _ v H' hs hinv hx y
    have k4 := ok.keep _ _ _ _ hinv k1
    have hqv' := k1.keep q _ hqv hqn
    rw [List.drop_eq_getElem_cons hlt] at hf
    simp only [lcLoopX] at hf
    cases hgd : g it[i] (wipeD ev own) with
    | none => rw [hgd] at hf; exact hf.elim
    | some ev1 =>
      rw [hgd] at hf
      simp only at hf
      refine ⟨mu, _, wipeD ev own, ev1, k2, heW.mono k1, hgd, fun σ' he' fr => ⟨by rw [wipe_frm fr hw, wipe_wipe], mu, ev1, st, he', k3, ?_⟩⟩
      cases ht : ta ev1 st with
      | bad => rw [ht] at hf; exact hf
      | exc c e s => rw [ht] at hf; exact hf.elim
      | ok bb st2 =>
        rw [ht] at hf
        intro mu2 b2 H2 e2 rb s2
        obtain rfl : b2 = bb := rb
        have q2 := e2.keep q _ hqv'.1 hqv'.2
        cases b2 with
        | false =>
          exact iteF ⟨hlt, mu2, st2, acc, vs, (eE.trans k1).trans e2, s2, ok.keep _ _ _ _ k4 e2, q2.1, q2.2, hr.mono (k1.trans e2), by omega, hf⟩
        | true =>
          refine iteT ⟨mu2, ev1, st2, he'.mono e2, s2, ?_⟩
          simp only at hf
          cases hm : ma ev1 st2 with
          | bad => rw [hm] at hf; exact hf
          | exc c e s =>
            rw [hm] at hf
            exact fun mu3 σ3 H3 e3 _ s3 => hW _ _ _ _ (hf mu3 H3 (((eE.trans k1).trans e2).trans e3) s3)
          | ok yd st3 =>
            rw [hm] at hf
            intro mu3 yv H3 e3 r3 s3
            have q3 := e3.keep q _ q2.1 q2.2
            have hr3 : Rps K H3 mu3 vs acc := hr.mono ((k1.trans e2).trans e3)
            refine ⟨vs, q3.1, by rw [Rps.length hr3]; exact lim_lt (by omega), hlt, mu3, st3, acc ++ [yd], vs ++ [yv], ext_tmp (((eE.trans k1).trans e2).trans e3) hq, s3.tmp q3.1 q3.2, ok.tmp _ _ _ _ _ (ok.keep _ _ _ _ k4 (e2.trans e3)) hq q3.1 q3.2, upd_same, q3.2, ?_, by simp; omega, ?_⟩
            · exact (hr3.append (.cons r3 .nil)).mono0 (ext0_tmp q3.1)
            · simp only at hf
              cases hL : lcLoopX g ta ma (it.drop (i + 1)) (wipeD ev own) st3 with
              | bad => rw [hL] at hf; exact hf
              | exc c e s => rw [hL] at hf; exact hf
              | ok ys st4 =>
                rw [hL] at hf
                intro mu4 ws H4 e4 h4 n4 r4 s4
                refine hf mu4 ws H4 e4 h4 n4 ?_ s4
                simpa using r4
  · have e0 : i = it.length := by omega
    subst e0
    rw [List.drop_length] at hf
    refine .inl ⟨ok.stop H mu hinv, hf mu vs H eE hqv hqn ?_ hs⟩
    simpa using hr
theorem ml_lcX {elt tg iter : Expr} {ifs : List Expr} {scope : Scope} {own : List (Str × Nat)} {mi : Mo (List D)} {g : Gt} {ws : List Nat} (hc : X.calm = true) (hN : X.N.Nodup) (hst : X.stack = X.env :: X.outer) (hfr : X.env.frame = some X.env.locals) (tk : Takes X (wX X.K W)) (hW : ∀ c σ σ' H, W c σ H → W c σ' H)
    (hi : PI X tg iter (tI X.K W mi)) (ok : BlkOk X.N X.env.scope scope own) (hw : ∀ i ∈ ws, i ∈ own.map (·.2))
    (hg : ∀ s H C cl fp xe, PG (blkX X s H scope (compEnvC scope cl C X.env) fp xe) tg (tGt X.K ws g)) (ht : ∀ s H C cl fp xe, PTs (blkX X s H scope (compEnvC scope cl C X.env) fp xe) ifs (tT X.K W0 ta))
    (he : ∀ s H C cl fp xe, (∀ τ, PassesAt (L2.CX X.prog X.w) (blkX X s H scope (compEnvC scope cl C X.env) fp xe) τ (WE (wX X.K W) τ)) → PE (blkX X s H scope (compEnvC scope cl C X.env) fp xe) elt (tE X.K W ma)) (hs : ∀ x, foldedSetIterable iter X.env x = pure x := by intro _; rfl) :
    PE X (.ListComp elt [⟨tg, iter, ifs, 0⟩] scope pos) (tL X.K W (mLcX (own.map (·.2)) mi g ta ma)) := by
  refine PE.imp (pe_lcX hc hN hst hfr tk (fun cls d σ σ' H ⟨h1, c, h2, h3⟩ => ⟨h1, c, h2, hW c _ _ H h3⟩) hi ok hg ht he hs) fun σ H Q h => ?_
  exact lc_goX hW hw h
/-- f(..), by what a call lets out -/
theorem me_callXp {k n : Nat} {f : Addr} {fd : FuncData} {ps : List Str} {c : Fm} {x : Str} (hx : ∀ τ, PassesAt (L2.CX X.prog X.w) X τ (WE (wX X.K W) τ)) (hl : ∀ ds st, c ds st ≠ .bad → ds.length = n) (F : FnOk X.prog X.w X.K X.mg X.base (L2.CX X.prog X.w) k f fd ps (spX X.K n c)) (hr : Room k X.A) (hg : Gl X x) (hm : X.mg x = some (.ref f)) (hk : PySem.W.keepIn X.K (.ref f) = true) (hb : Binds X.K fd ps [])
    (ha : PA X (e :: es) (tA X.K W mr)) (hdb : (x == ("__debug__" : Str)) = false := by decide) (he : starEach (e :: es) X.env = (false, eval e X.env) :: starEach es X.env := by rfl) (hpl : (backTo pos (starEach es X.env)).any (·.1) = false := by rfl) :
    PE X (.Call (.Name x p) (e :: es) [] pos) (tE X.K W (mCallX c mr)) := by
  refine PE.imp (pe_callS F hr hg hm hk hb hx ha hdb he hpl) fun σ H Q ⟨mu, ev, st, he, hst, hp⟩ => ?_
  exact ⟨mu, ev, st, he, hst, hp.bind fun ds st1 mu1 xs H1 _ e1 r1 s1 hp1 => spX_go hl (he.mono e1) r1 s1 hp1⟩
/-- a def that may raise out of a comprehension -/
theorem fn_okXi {P : Program} {w : World} {K : PySem.W.Frag} {mg : Str → Option Value} {base : Heap} {x qual : Str} {st : Stmt} {f : Addr} {fd : FuncData} {N ps : List Str} {k n : Nat} {body : Ms} (F : Fun K x qual st f fd) (S : FnScope N ps (defScope st)) (hn : ps.length = n)
    (hb : ∀ (cdv : Value) (A : Around) (outer : List Env) (s : Shared) (H : Hp) (E : XK) (W : Wx), Room k (A.deeper (PyProof.Rows.envOfC qual (defScope st) s.heap.objs.size f cdv)) →
      Takes (cxOf (L2.CX P w) P w K mg base N qual (defScope st) f cdv A outer s H E) (wX K W) → (∀ c σ σ' H, W c σ H → W c σ' H) → PSs (cxOf (L2.CX P w) P w K mg base N qual (defScope st) f cdv A outer s H E) (defBody st) (tS K W body)) :
    FnOk P w K mg base (L2.CX P w) (k + 1) f fd ps (spX K n (fnX n N.length body)) := by
  refine F.okX S (fun vs H Q E h => h.1.trans hn.symm) (fun cdv A outer s H vs Q E hr h => ⟨_, hb cdv A outer s H E _ hr ?_ (fun _ _ _ _ z => z), fnX_go rfl h⟩)
  exact (takes_of rfl rfl rfl rfl).imp wX_dn
/-- a def that may raise, where it does not -/
theorem fn_calm {P : Program} {w : World} {K : PySem.W.Frag} {mg : Str → Option Value} {base : Heap} {k n : Nat} {f : Addr} {fd : FuncData} {ps : List Str} {c : Fm} (F : FnOk P w K mg base (L2.CX P w) k f fd ps (spX K n c)) : FnOk P w K mg base CX0 k f fd ps (spM K n c) := by
  have im : ∀ vs H Q E, spM K n c vs H Q E → spX K n c vs H Q (fun _ _ _ => False) := fun vs H Q E ⟨h1, mu, ds, st, h2, h3, h4⟩ => by
    refine ⟨h1, mu, ds, st, h2, h3, ?_⟩
    cases hc : c ds st with
    | bad => rw [hc] at h4; exact h4
    | exc _ _ _ => rw [hc] at h4; exact h4.elim
    | ok d st' => rw [hc] at h4; exact h4
  refine ⟨fun vs H Q E h => F.len vs H Q _ (im vs H Q E h), fun A outer s H args us vs Q E hr he hb hv hs => codeAny_mono (F.run A outer s H args us vs Q (fun _ _ _ => False) hr he hb hv (im vs H Q E hs)) fun r s' hq => ?_⟩
  cases r with
  | error e =>
    obtain ⟨a, B, H', cls, d, _, _, _, _, _, _, _, z⟩ := hq
    exact z.elim
  | ok fl => cases fl <;> exact hq
end Ml

/-! sorted(l), l a list of tuples of whole numbers, of whatever lengths -/
namespace Ml
open PySem L2 PyProof.Rows
section
variable {prog : Program} {w : World} {A : Around} {s : Shared}
theorem lexI {Q : Bool → Shared → Prop} {b : Bool} {xs : List Value} {ns : List Int} (hx : IntsAre xs ns) : ∀ {ys : List Value} {ms : List Int} (i : Nat), IntsAre ys ms → ∀ fin, fin = decide (ns.length < ms.length) → Q (HT.lexLt ns ms) s → PySem.W.KatLex prog w A b fin Q (xs.zip ys) i s := by
  induction hx with
  | nil =>
    intro ys ms i hy fin hf h
    cases hy with
    | nil => subst hf; exact PySem.W.kat_nil h
    | cons q u hy => subst hf; exact PySem.W.kat_nil (by simpa [HT.lexLt] using h)
  | @cons p t xs ns hx ih =>
    intro ys ms i hy fin hf h
    cases hy with
    | nil => subst hf; exact PySem.W.kat_nil (by simpa [HT.lexLt] using h)
    | @cons q u ys ms hy =>
      refine PySem.W.kat_cons (p := .int p t) (q := .int q u) (r := xs.zip ys) (wpAny_eqBool_int ?_)
      rw [HT.lexLt_cons] at h
      by_cases hpq : p = q
      · rw [if_pos hpq] at h
        rw [beq_iff_eq.mpr hpq]
        exact PySem.W.kat_yes (ih (i + 1) hy fin (by rw [hf]; simp) h)
      · rw [if_neg hpq] at h
        rw [beq_eq_false_iff_ne.mpr hpq]
        exact PySem.W.kat_no (TS.oneLt_ints _ h)
/-- the first face of each -/
theorem firstI {h : Heap} {k : Value → List Int} : ∀ vs : List Value, (∀ v ∈ vs, TS.TupInts h v (k v) ∧ k v ≠ []) → ∃ fs, PySem.W.KatTups h vs fs ∧ fs.length = vs.length ∧ ∀ f ∈ fs, ∃ n t, f = Value.int n t
  | [], _ => ⟨[], .nil, rfl, fun f hf => by cases hf⟩
  | v :: vs, x => by
    obtain ⟨fs, kk, hl, hi⟩ := firstI vs fun u hu => x u (List.mem_cons_of_mem _ hu)
    obtain ⟨⟨a, xs, ev, ⟨o, ho, hc, n, hdt⟩, i⟩, hn⟩ := x v List.mem_cons_self
    subst ev
    cases q : xs.toList with
    | nil =>
      rw [q] at i
      have l := i.length
      exact absurd (List.eq_nil_of_length_eq_zero l.symm) hn
    | cons y ys =>
      obtain ⟨m, t, hy⟩ := i.all y (by rw [q]; exact List.mem_cons_self)
      refine ⟨y :: fs, .cons ho hc hdt (by have z := congrArg (fun l : List Value => l[0]?) q; simpa using z) kk, by simp [hl], fun f hf => ?_⟩
      cases hf with
      | head => exact ⟨m, t, hy⟩
      | tail _ hf => exact hi f hf
theorem tupI_sortable {a : Addr} {vs : List Value} {k : Value → List Int} (h2 : 2 ≤ vs.length) (hv : ∀ v ∈ vs, TS.TupInts s.heap v (k v) ∧ k v ≠ []) (ha : ∀ o, s.heap.get? a = some o → o.cls ≠ .type "tuple") : SrtO.SortableO prog w A s a vs fun v u => HT.lexLt (k v) (k u) := by
  intro h' keep
  have hv' : ∀ v ∈ vs, TS.TupInts h' v (k v) ∧ k v ≠ [] := fun v hm => ⟨(hv v hm).1.keeps fun b o e c => keep b o (fun z => by subst z; exact ha o e c) e, (hv v hm).2⟩
  obtain ⟨fs, h1, hl, h3⟩ := firstI vs hv'
  refine ⟨tuples' true, fun Q E hq => ?_, ?_⟩
  · refine PySem.W.kat_kind (T := .type "int") h1 (by omega) (fun f hm => ?_) (by rfl) ?_
    · obtain ⟨x, t, rfl⟩ := h3 f hm
      exact PySem.W.Looks.now
    · have e : (Value.type "int" != Value.type "tuple") = true := by decide +kernel
      rw [e]
      exact hq
  · intro p q hm hm'
    obtain ⟨⟨a1, xs, e1, ⟨o, ho, hc, n, hd⟩, i1⟩, _⟩ := hv' _ hm
    obtain ⟨⟨a2, ys, e2, ⟨o', ho', hc', n', hd'⟩, i2⟩, _⟩ := hv' _ hm'
    show wpAny (model prog w) A (keyLt' (tuples' true) p.1 q.1) (fun r s' => s' = { s with heap := h' } ∧ r = HT.lexLt (k p.1) (k q.1)) (fun _ _ => False) { s with heap := h' }
    generalize hk1 : k p.1 = ns at *
    generalize hk2 : k q.1 = ms at *
    rw [e1, e2]
    refine PySem.W.kat_lt (s := { s with heap := h' }) ho hd ho' hd' (lexI i1 0 i2 _ ?_ ⟨rfl, rfl⟩)
    have l1 := i1.length
    have l2 := i2.length
    rw [← l1, ← l2]
    rfl
end
section
variable {X : Cx}
/-- sorted(l) of tuples of whole numbers; if there are two or more, none is empty -/
def rSortedTI (K : PySem.W.Frag) : List V → Hp → VK → Prop := fun vs H Q => ∃ (a : Addr) (ts : List Addr) (k : Addr → List Int), vs = [V.ref a] ∧ SqL K H a (ts.map V.ref) ∧ (∀ t ∈ ts, SqT K H t ((k t).map V.int)) ∧ (2 ≤ ts.length → ∀ t ∈ ts, k t ≠ []) ∧
  ∀ (ts' : List Addr) (p : Addr), ts'.Perm ts → ts'.Pairwise (fun p q => HT.lexLt (k q) (k p) = false) → H p = none → Q (.ref p) (upd H p (.lst (ts'.map V.ref)))
theorem cr_sortedTI : CallR X (.builtin "sorted") (rSortedTI X.K) := by
  intro pins s σ H vs us Q I r h
  obtain ⟨a, ts, k, rfl, hs, ht, hne, q⟩ := h
  obtain ⟨its, rv, hl, hz⟩ := I.list hs
  rw [Vals.ref1 r]
  have ei : its = ts.map Value.ref := nts_of rv
  have hv : ∀ v ∈ its, TS.TupInts s.heap v (k (adO v)) := fun v hm => by
    rw [ei] at hm
    obtain ⟨t, htm, rfl⟩ := List.mem_map.mp hm
    obtain ⟨its2, r2, ⟨o, ho, hc, n, hd⟩, _⟩ := I.tuple (ht t htm)
    exact ⟨t, its2.toArray, rfl, ⟨o, ho, hc, n, hd⟩, by simpa [adO] using r2.ints⟩
  have hlen0 : its.length = ts.length := by rw [ei, List.length_map]
  have hn2 : 2 ≤ its.length → ∀ v ∈ its, k (adO v) ≠ [] := fun h2 v hm => by
    rw [ei] at hm
    obtain ⟨t, htm, rfl⟩ := List.mem_map.mp hm
    exact hne (by omega) t htm
  refine SrtO.sorted_ord (NtL.swo_lexL fun u => k (adO u)) hl.isList (by rw [← rv.length]; exact hz) (fun h2 h₁ a' ha' kk => ?_) fun out h1 h2 => ?_
  · refine tupI_sortable (s := { s with heap := h₁ }) h2 (fun v hm => ⟨(hv v hm).keeps fun b o e _ => (kk b o e).2, hn2 h2 v hm⟩) fun o e => ?_
    have e' : some o = some (seqObj "list" its.toArray 0) := e.symm.trans ha'
    cases e'
    intro c
    exact absurd (Value.type.inj c) (by decide)
  · have eo : out = (out.map adO).map Value.ref := ref_map fun u hm => by
      have hm' : u ∈ its := h2.perm.mem_iff.mp hm
      rw [ei] at hm'
      obtain ⟨t, _, e⟩ := List.mem_map.mp hm'
      exact ⟨t, e.symm⟩
    have hp : (out.map adO).Perm ts := by
      have p1 := h2.perm.map adO
      rw [ei, ad_map] at p1
      exact p1
    have hpw : (out.map adO).Pairwise (fun p q => HT.lexLt (k q) (k p) = false) := List.pairwise_map.mpr (h1.imp fun {x y} z => z)
    obtain ⟨ep, he'⟩ := sortedAll_at s.heap its out.toArray
    have hlen : ((out.map adO).map V.ref).length ≤ sizeLine := by
      rw [List.length_map, hp.length_eq]
      rw [List.length_map] at hz
      exact hz
    have hvv : Vals ((out.map adO).map V.ref) out := by
      have := of_nts (out.map adO)
      rw [← eo] at this
      exact this
    exact ⟨.ref _, upd H (s.heap.objs.size + 1) (.lst ((out.map adO).map V.ref)), I.laid (t' := s.toks) (fun _ _ => sortedAll_old) (Nat.le_succ _) ⟨hlen, out, ep, hvv, he'⟩, rfl, q _ _ hp hpw (I.hok.fresh (Nat.le_succ _))⟩
end
end Ml

/-! sorted(l) of tuples of whole numbers: its reading -/
namespace Ml
open PySem L2
def rowsI : List D → Option (List (List Int))
  | [] => some []
  | .tup ds :: r => match intsOf ds, rowsI r with
    | some ns, some rs => some (ns :: rs)
    | _, _ => none
  | _ => none
def insT (x : List Int) : List (List Int) → List (List Int)
  | [] => [x]
  | y :: ys => if HT.lexLt y x = true then y :: insT x ys else x :: y :: ys
def sortT : List (List Int) → List (List Int)
  | [] => []
  | x :: xs => insT x (sortT xs)
def LeT (p q : List Int) : Prop := HT.lexLt q p = false
theorem leT_refl : ∀ p, LeT p p
  | [] => rfl
  | x :: xs => by unfold LeT; rw [HT.lexLt_cons, if_pos rfl]; exact leT_refl xs
theorem leT_trans {p q r : List Int} (h1 : LeT p q) (h2 : LeT q r) : LeT p r := NtL.lex_tr p q r h1 h2
theorem leT_anti : ∀ p q : List Int, LeT p q → LeT q p → p = q
  | [], [], _, _ => rfl
  | [], y :: ys, _, h => by cases h
  | x :: xs, [], h, _ => by cases h
  | x :: xs, y :: ys, h1, h2 => by
    unfold LeT at h1 h2
    rw [HT.lexLt_cons] at h1 h2
    by_cases e : x = y
    · subst e
      rw [if_pos rfl] at h1 h2
      rw [leT_anti xs ys h1 h2]
    · rw [if_neg (fun z => e z.symm)] at h1
      rw [if_neg e] at h2
      have := of_decide_eq_false h1
      have := of_decide_eq_false h2
      omega
theorem leT_of_lt {p q : List Int} (h : HT.lexLt p q = true) : LeT p q := NtL.lex_asym p q h
theorem insT_perm (x : List Int) : ∀ ys, (insT x ys).Perm (x :: ys)
  | [] => .refl _
  | y :: ys => by
    unfold insT
    split
    · exact ((insT_perm x ys).cons y).trans (.swap x y ys)
    · exact .refl _
theorem sortT_perm : ∀ xs, (sortT xs).Perm xs
  | [] => .refl _
  | x :: xs => (insT_perm x _).trans ((sortT_perm xs).cons x)
theorem insT_sorted (x : List Int) : ∀ ys : List (List Int), ys.Pairwise LeT → (insT x ys).Pairwise LeT
  | [], _ => by simp [insT]
  | y :: ys, h => by
    rw [List.pairwise_cons] at h
    unfold insT
    split
    · rename_i hy
      rw [List.pairwise_cons]
      refine ⟨fun z hz => ?_, insT_sorted x ys h.2⟩
      rcases List.mem_cons.mp ((insT_perm x ys).mem_iff.mp hz) with rfl | hz
      · exact leT_of_lt hy
      · exact h.1 z hz
    · rename_i hy
      have hxy : LeT x y := by unfold LeT; simpa using hy
      rw [List.pairwise_cons]
      refine ⟨fun z hz => ?_, by rw [List.pairwise_cons]; exact h⟩
      rcases List.mem_cons.mp hz with rfl | hz
      · exact hxy
      · exact leT_trans hxy (h.1 z hz)
theorem sortT_sorted : ∀ xs, (sortT xs).Pairwise LeT
  | [] => by simp [sortT]
  | x :: xs => insT_sorted x _ (sortT_sorted xs)
theorem sortT_one {xs ys : List (List Int)} (hp : xs.Perm ys) (h1 : xs.Pairwise LeT) (h2 : ys.Pairwise LeT) : xs = ys := hp.eq_of_pairwise (fun a b _ _ h h' => leT_anti a b h h') h1 h2
theorem sortT_of_perm {xs ys : List (List Int)} (hp : xs.Perm ys) : sortT xs = sortT ys := sortT_one ((sortT_perm xs).trans (hp.trans (sortT_perm ys).symm)) (sortT_sorted xs) (sortT_sorted ys)
def tupR (ns : List Int) : D := .tup (ns.map D.int)
def gSortedT (ds : List D) : Option (List D) := match rowsI ds with
  | some rs => if rs.length < 2 ∨ rs.all (fun r => !r.isEmpty) = true then some ((sortT rs).map tupR) else none
  | none => none
/-- the whole numbers of a tuple -/
def kT (H : Hp) (t : Addr) : List Int := match H t with
  | some (.tup vs) => vs.filterMap fun v => match v with | .int i => some i | _ => none
  | _ => []
theorem kT_eq {H : Hp} {t : Addr} {ns : List Int} (h : H t = some (.tup (ns.map V.int))) : kT H t = ns := by
  unfold kT
  rw [h]
  show (ns.map V.int).filterMap _ = ns
  rw [List.filterMap_map]
  exact List.filterMap_some
theorem rows_rep {K : PySem.W.Frag} {H : Hp} {mu : List Addr} : ∀ {vs : List V} {ds : List D} {rs : List (List Int)}, Rps K H mu vs ds → rowsI ds = some rs → ∃ ts : List Addr, vs = ts.map V.ref ∧ ts.map (kT H) = rs ∧ ∀ t ∈ ts, H t = some (.tup ((kT H t).map V.int))
  | _, _, _, .nil, e => by cases e; exact ⟨[], rfl, rfl, fun t h => by cases h⟩
  | _, _, rs, .cons h hs, e => by
    cases h with
    | tup ht hr =>
      rename_i a vs' ds'
      simp only [rowsI] at e
      cases hq : intsOf ds' with
      | none => rw [hq] at e; cases e
      | some ns =>
        cases hq2 : rowsI _ with
        | none => rw [hq, hq2] at e; cases e
        | some rs' =>
          rw [hq, hq2] at e
          cases e
          obtain ⟨ts, rfl, e1, e2⟩ := rows_rep hs hq2
          have ev := Rps.ints hr hq
          have hH : H a = some (.tup (ns.map V.int)) := by
            rcases ht with h | ⟨⟨x, hx⟩, _⟩
            · rw [← ev]; exact h
            · rw [ev] at hx
              obtain ⟨i, _, hi⟩ := List.mem_map.mp hx
              cases hi
          have hk := kT_eq hH
          refine ⟨a :: ts, rfl, by rw [List.map_cons, hk, e1], fun t h => ?_⟩
          cases h with
          | head => rw [hk]; exact hH
          | tail _ h => exact e2 t h
    | non => simp [rowsI] at e
    | bl b => simp [rowsI] at e
    | int i => simp [rowsI] at e
    | str x => simp [rowsI] at e
    | ref h => simp [rowsI] at e
    | ro h1 h2 => simp [rowsI] at e
theorem rep_rows {K : PySem.W.Frag} {H : Hp} {mu : List Addr} : ∀ ts : List Addr, (∀ t ∈ ts, H t = some (.tup ((kT H t).map V.int))) → Rps K H mu (ts.map V.ref) ((ts.map (kT H)).map tupR)
  | [], _ => .nil
  | t :: ts, h => .cons (.tup (.inl (h t List.mem_cons_self)) (Rps.of_ints _)) (rep_rows ts fun u hu => h u (List.mem_cons_of_mem _ hu))
theorem qs_sortedT {K : PySem.W.Frag} : QS K (RL K) (rSortedTI K) gSortedT := by
  intro mu H st p vs ds d Q hs sq rs e k
  unfold gSortedT at e
  cases hq : rowsI ds with
  | none => rw [hq] at e; cases e
  | some rows =>
    rw [hq] at e
    simp only at e
    split at e
    · rename_i hok
      cases e
      obtain ⟨ts, rfl, e1, e2⟩ := rows_rep rs hq
      have hl : ts.length = rows.length := by rw [← e1, List.length_map]
      refine ⟨p, ts, kT H, rfl, sq, fun t ht => .inl (.inl (e2 t ht)), fun h2 t ht => ?_, fun ts' p' hp hsd hn => ?_⟩
      · rcases hok with hok | hok
        · omega
        · have := List.all_eq_true.mp hok (kT H t) (by rw [← e1]; exact List.mem_map_of_mem ht)
          intro z
          rw [z] at this
          cases this
      · have e3 : ts'.map (kT H) = sortT rows := by
          refine sortT_one ((hp.map (kT H)).trans (by rw [e1]; exact (sortT_perm rows).symm)) (List.pairwise_map.mpr hsd) (sortT_sorted rows)
        refine k _ _ _ (ext_new hn _) ⟨p', _, rfl, hn, upd_same, hs.fresh hn, ?_⟩ (hs.new hn _)
        rw [← e3]
        exact (rep_rows ts' fun t ht => e2 t (hp.mem_iff.mp ht)).ctx hn
    · cases e
end Ml

/-! max(l, default=d), l a list of whole numbers -/
namespace Ml
open PySem L2
theorem maxOf_fold (x : Int) : ∀ xs : List Int, PySem.W.maxOf x xs ∈ x :: xs ∧ ∀ y ∈ x :: xs, y ≤ PySem.W.maxOf x xs := fun xs => by
  unfold PySem.W.maxOf
  induction xs generalizing x with
  | nil => simp
  | cons z zs ih =>
    rw [List.foldl_cons]
    have hlt : PySem.W.DatumOrd.lt x z = decide (x < z) := rfl
    rw [hlt]
    by_cases h : x < z
    · rw [if_pos (decide_eq_true h)]
      obtain ⟨h1, h2⟩ := ih z
      refine ⟨List.mem_cons_of_mem _ h1, fun y hy => ?_⟩
      rcases List.mem_cons.mp hy with rfl | hy
      · have := h2 z List.mem_cons_self; omega
      · exact h2 y hy
    · rw [if_neg (by rw [decide_eq_false h]; decide)]
      obtain ⟨h1, h2⟩ := ih x
      refine ⟨?_, fun y hy => ?_⟩
      · rcases List.mem_cons.mp h1 with h1 | h1
        · rw [h1]; exact List.mem_cons_self
        · exact List.mem_cons_of_mem _ (List.mem_cons_of_mem _ h1)
      · rcases List.mem_cons.mp hy with rfl | hy
        · exact h2 _ List.mem_cons_self
        · rcases List.mem_cons.mp hy with rfl | hy
          · have := h2 x List.mem_cons_self; omega
          · exact h2 y (List.mem_cons_of_mem _ hy)
section
variable {X : Cx}
def rMaxD (K : PySem.W.Frag) : List V → List V → Hp → VK → Prop := fun vs zs H Q => ∃ (a : Addr) (ns : List Int) (d : V), vs = [V.ref a] ∧ zs = [d] ∧ SqL K H a (ns.map V.int) ∧ (ns = [] → Q d H) ∧ ∀ m ∈ ns, (∀ y ∈ ns, y ≤ m) → Q (.int m) H
theorem cr_maxD (hc : X.calm = true) (hu : X.A.units + 64 < cLine) : CallRK X (.builtin "max") [Str.ofString "default"] (rMaxD X.K) := by
  intro pins s σ H vs zs us ws Q I r rz h
  obtain ⟨a, ns, d, rfl, rfl, hs, q0, q⟩ := h
  obtain rfl := Vals.ref1 r
  obtain ⟨w1, rfl, e1⟩ := vals1 rz
  obtain ⟨its, rv, hl, _⟩ := I.list hs
  refine PySem.W.max_list_datum_default (α := Int) (xs := ns) (I.ok.hd hc) hl.isList (PySem.W.HoldAll.of_ints rv.ints) ?_ (fun hz h' tk hk => ?_) fun y ys i v h' tk hx hi hv hk => ?_
  · show X.A.units + 1 + 0 < cLine
    omega
  · exact ⟨d, H, I.kept hk, e1, q0 hz⟩
  · have hm := maxOf_fold y ys
    obtain ⟨t, rfl⟩ := PySem.W.int_of_holds hv
    rw [hx] at q
    exact ⟨.int _, H, I.kept hk, ⟨t, rfl⟩, q _ hm.1 hm.2⟩
variable {W : Wx} {e : Expr} {pos p kpos cpos : Pos} {mr : Mo (List D)}
/-- max(l, default=d), d a whole number that stands in the text -/
def mMaxD (d : Int) (mr : Mo (List D)) : Mo D := fun ev st => (mr ev st).bind fun ds st1 => match intsOf ds with
  | some [] => .ok (.int d) st1
  | some (n :: ns) => .ok (.int (maxI (n :: ns))) st1
  | none => .bad
theorem me_maxD {x : Str} {d : Int} {kws : List Keyword} (hcm : X.calm = true) (hu : X.A.units + 64 < cLine) (hg : Gl X x) (hm : X.mg x = none) (hv : bootBuiltins x = some (.builtin "max")) (ha : PE X e (tQ X.K W mr)) (hk : PK X kws (fun _ H Q => Q [.int d] H)) (hn : x ≠ "__name__" := by decide) (hdb : (x == ("__debug__" : Str)) = false := by decide)
    (he0 : starEach [e] X.env = (false, eval e X.env) :: starEach [] X.env := by rfl)
    (he : backTo pos (starEach [e] X.env) = (false, eval e X.env) :: backTo pos (starEach [] X.env) := by rfl) (hpl : (backTo pos (starEach [e] X.env)).any (·.1) = false := by rfl)
    (hall : (backToKw pos (keywordEach kws X.env)).all (·.1.isSome) = true := by rfl) (hnone : (backToKw pos (keywordEach kws X.env)).any (·.1.isNone) = false := by rfl) (hks : (backToKw pos (keywordEach kws X.env)).filterMap (·.1) = [Str.ofString "default"] := by rfl) :
    PE X (.Call (.Name x p) [e] kws pos) (tE X.K W (mMaxD d mr)) := by
  refine PE.imp (pe_callBK (cr_maxD hcm hu) hg hm hv (pa_cons ha pa_nil he0) hk hn hdb he hpl hall hnone hks) fun σ H Q ⟨mu, ev, st, hev, hst, hp⟩ => ?_
  refine ⟨mu, ev, st, hev, hst, hp.bind fun ds st1 mu1 z H1 _ e1 r1 s1 hp1 => ?_⟩
  obtain ⟨q, vs, rfl, sq, rs⟩ := r1
  cases hq : intsOf ds with
  | none => rw [hq] at hp1; exact hp1.elim
  | some ns =>
    rw [hq] at hp1
    have ev := Rps.ints rs hq
    subst ev
    cases ns with
    | nil => exact ⟨q, [], .int d, rfl, rfl, sq, fun _ => hp1 _ _ _ .refl (.int d) s1, fun m hm => by cases hm⟩
    | cons n ns =>
      refine ⟨q, n :: ns, .int d, rfl, rfl, sq, (fun z => by cases z), fun m hm hle => ?_⟩
      obtain ⟨h1, h2⟩ := maxI_mem (n :: ns) (by simp)
      have em : m = maxI (n :: ns) := by
        have := hle _ h1
        have := h2 _ hm
        omega
      subst em
      exact hp1 _ _ _ .refl (.int _) s1
end
end Ml

/-! powers of whole numbers -/
namespace Ml
open PySem L2
variable {X : Cx} {W : Wx} {a b : Expr} {pos : Pos} {ma mb : Mo D}
def gPow : G2 := gIc (fun i j => decide (0 ≤ j) && decide (j ≤ 1000000) && decide (i.natAbs < 2 ^ 64)) fun i j => .int (i ^ j.toNat)
theorem me_pow (ha : PE X a (tE X.K W ma)) (hb : PE X b (tE X.K W mb)) : PE X (.BinOp a .Pow b pos) (tE X.K W (mOp gPow ma mb)) :=
  me_op op_pow (opS_I (Cb := fun i j => decide (0 ≤ j) && decide (j ≤ 1000000) && decide (i.natAbs < 2 ^ 64)) (f := fun i j => .int (i ^ j.toNat)) (fun _ _ h => by
    rw [Bool.and_eq_true, Bool.and_eq_true] at h
    exact ⟨of_decide_eq_true h.1.1, of_decide_eq_true h.1.2, of_decide_eq_true h.2⟩) (fun _ _ => rfl)) ha hb
theorem e_pow {st : Sto} (i j : Int) : gPow (.int i) (.int j) st = if (decide (0 ≤ j) && decide (j ≤ 1000000) && decide (i.natAbs < 2 ^ 64)) = true then some (.int (i ^ j.toNat), st) else none := rfl
end Ml

/-! The readings of the program's defs and of the law's (printed by gen.py). -/
namespace Ml
open PySem L2
def d_DICE : D := .tup [.str "dice", .str "high", .str "low", .str "again", .str "burst", .str "count"]
def cat_NoFaces (x : Str) : Option Bool := if x = "NoFaces" then some true else if x = "NoNote" then some false else if x = "NoWorth" then some false else none
def m_Tally_init : Ms :=
  (mSeq (mFldSet "Tally" "said" (mVar 0) (mVar 1)) (mFldSet "Tally" "fell" (mVar 0) (mKeep (mDisp mNil))))
def m_Faces_init : Ms :=
  (mSeq (mFldSet "Faces" "row" (mVar 0) (mVar 1)) (mSeq (mFldSet "Faces" "count" (mVar 0) (mC (.int 0))) (mFldSet "Faces" "of" (mVar 0) (mC (.int 1)))))
def m_divisor_b1 : Ms :=
  (mPar 0 1 (mCons (mVar 1) (mCons (mOp gMod (mVar 0) (mVar 1)) mNil)))
def m_divisor : Ms :=
  (mSeq (mWhile 1000 (mTest (mOp gNe (mVar 1) (mC (.int 0)))) (m_divisor_b1)) (mRet (mVar 0)))
def m_fraction (c_divisor : Fm) : Ms :=
  (mSeq (mSet 2 (mCall c_divisor (mCons (mCB gAbs (mCons (mVar 0) mNil)) (mCons (mVar 1) mNil)))) (mRet (mTup (mCons (mOp gDiv (mVar 0) (mVar 2)) (mCons (mOp gDiv (mVar 1) (mVar 2)) mNil)))))
def m_sum_of (c_fraction : Fm) : Ms :=
  (mRet (mCall c_fraction (mCons (mOp gAdd (mOp gMul (mOp gIx (mVar 0) (mC (.int 0))) (mOp gIx (mVar 1) (mC (.int 1)))) (mOp gMul (mOp gIx (mVar 1) (mC (.int 0))) (mOp gIx (mVar 0) (mC (.int 1))))) (mCons (mOp gMul (mOp gIx (mVar 0) (mC (.int 1))) (mOp gIx (mVar 1) (mC (.int 1)))) mNil))))
def m_product (c_fraction : Fm) : Ms :=
  (mRet (mCall c_fraction (mCons (mOp gMul (mOp gIx (mVar 0) (mC (.int 0))) (mOp gIx (mVar 1) (mC (.int 0)))) (mCons (mOp gMul (mOp gIx (mVar 0) (mC (.int 1))) (mOp gIx (mVar 1) (mC (.int 1)))) mNil))))
def m_added (c_sum_of : Fm) : Ms :=
  (mDPut (mVar 0) (mVar 1) (mCall c_sum_of (mCons (mDGet (mVar 0) (mVar 1) (mTup (mCons (mC (.int 0)) (mCons (mC (.int 1)) mNil)))) (mCons (mVar 2) mNil))))
def m_put_together_b1 (c_added c_of_two c_product : Fm) : Ms :=
  (mDrop (mCall c_added (mCons (mVar 3) (mCons (mCall c_of_two (mCons (mVar 2) (mCons (mVar 4) (mCons (mVar 5) mNil)))) (mCons (mCall c_product (mCons (mDAt (mVar 0) (mVar 4)) (mCons (mDAt (mVar 1) (mVar 5)) mNil))) mNil)))))
def m_put_together_b2 (c_added c_of_two c_product : Fm) : Ms :=
  (lockN (mVar 1) (mFor (mItK .dK (mVar 1)) (gtName 5) (m_put_together_b1 c_added c_of_two c_product)))
def m_put_together (c_added c_of_two c_product : Fm) : Ms :=
  (mSeq (mSet 3 (mKeepD mDNew)) (mSeq (lockN (mVar 0) (mFor (mItK .dK (mVar 0)) (gtName 4) (m_put_together_b2 c_added c_of_two c_product))) (mRet (mVar 3))))
def m_of_two : Ms :=
  (mSeq (mIfS (mTest (mOp gEq (mVar 0) (mC (.str "plus")))) (mRet (mOp gAdd (mVar 1) (mVar 2))) mSkip) (mSeq (mIfS (mTest (mOp gEq (mVar 0) (mC (.str "less")))) (mRet (mOp gSub (mVar 1) (mVar 2))) mSkip) (mSeq (mIfS (mTest (mOp gEq (mVar 0) (mC (.str "most")))) (mRet (mCB gMax (mCons (mVar 1) (mCons (mVar 2) mNil)))) mSkip) (mSeq (mIfS (mTest (mOp gEq (mVar 0) (mC (.str "least")))) (mRet (mCB gMin (mCons (mVar 1) (mCons (mVar 2) mNil)))) mSkip) (mRet (mCB gInt (mCons (mOp gGt (mVar 1) (mVar 2)) mNil)))))))
def m_one_die_b1 (c_added c_one_die c_product : Fm) : Ms :=
  (mDrop (mCall c_added (mCons (mVar 3) (mCons (mOp gAdd (mVar 6) (mOp gMul (mVar 4) (mCB gInt (mCons (mOp gEq (mVar 0) (mC (.str "burst"))) mNil)))) (mCons (mCall c_product (mCons (mDAt (mVar 5) (mVar 6)) (mCons (mTup (mCons (mC (.int 1)) (mCons (mVar 1) mNil))) mNil))) mNil)))))
def m_one_die_b2 (c_added c_one_die c_product : Fm) : Ms :=
  (mIfS (mTest (mOp gEq (mVar 0) (mC (.str "count")))) (mDrop (mCall c_added (mCons (mVar 3) (mCons (mCB gInt (mCons (mOp gGe (mVar 4) (mVar 2)) mNil)) (mCons (mTup (mCons (mC (.int 1)) (mCons (mVar 1) mNil))) mNil))))) (mIfS (mTOr (mTAnd (mTest (mOp gEq (mVar 0) (mC (.str "again")))) (mTest (mOp gLe (mVar 4) (mVar 2)))) (mTAnd (mTest (mOp gEq (mVar 0) (mC (.str "burst")))) (mTAnd (mTest (mOp gEq (mVar 4) (mVar 1))) (mTest (mOp gGt (mVar 2) (mC (.int 0))))))) (mSeq (mSet 5 (mCall c_one_die (mCons (mOp gIx (mTup (mCons (mC (.str "dice")) (mCons (mC (.str "burst")) mNil))) (mCB gInt (mCons (mOp gEq (mVar 0) (mC (.str "burst"))) mNil))) (mCons (mVar 1) (mCons (mOp gSub (mVar 2) (mC (.int 1))) mNil))))) (lockN (mVar 5) (mFor (mItK .dK (mVar 5)) (gtName 6) (m_one_die_b1 c_added c_one_die c_product)))) (mDrop (mCall c_added (mCons (mVar 3) (mCons (mVar 4) (mCons (mTup (mCons (mC (.int 1)) (mCons (mVar 1) mNil))) mNil)))))))
def m_one_die (c_added c_one_die c_product : Fm) : Ms :=
  (mSeq (mSet 3 (mKeepD mDNew)) (mSeq (mFor (mItR2 (mCons (mC (.int 1)) (mCons (mOp gAdd (mVar 1) (mC (.int 1))) mNil))) (gtName 4) (m_one_die_b2 c_added c_one_die c_product)) (mRet (mVar 3))))
def m_kept_shares_b1 (c_added c_product : Fm) : Ms :=
  (mSeq (mSet 10 (mSl (mVar 7) mNoPart (mPart (mVar 3)))) (mSeq (mIfS (mTest (mOp gEq (mVar 0) (mC (.str "high")))) (mSet 10 (mSl (mVar 7) (mPart (mOp gSub (mVar 1) (mVar 3))) mNoPart)) mSkip) (mDrop (mCall c_added (mCons (mVar 9) (mCons (mQ gSum (mTupOf (mVar 10))) (mCons (mDAt (mVar 4) (mVar 7)) mNil)))))))
def m_kept_shares_b2 (c_added c_product : Fm) : Ms :=
  (mDrop (mCall c_added (mCons (mVar 6) (mCons (mQ gTupOf (mQ gSorted (mTupOf (mOp gAdd (mVar 7) (mTup (mCons (mVar 8) mNil)))))) (mCons (mCall c_product (mCons (mDAt (mVar 4) (mVar 7)) (mCons (mTup (mCons (mC (.int 1)) (mCons (mVar 2) mNil))) mNil))) mNil)))))
def m_kept_shares_b3 (c_added c_product : Fm) : Ms :=
  (mFor (mItR2 (mCons (mC (.int 1)) (mCons (mOp gAdd (mVar 2) (mC (.int 1))) mNil))) (gtName 8) (m_kept_shares_b2 c_added c_product))
def m_kept_shares_b4 (c_added c_product : Fm) : Ms :=
  (mSeq (mSet 6 (mKeepT mDNew)) (mSeq (lockN (mVar 4) (mFor (mItK .dT (mVar 4)) (gtName 7) (m_kept_shares_b3 c_added c_product))) (mSet 4 (mVar 6))))
def m_kept_shares (c_added c_product : Fm) : Ms :=
  (mSeq (mSet 4 (mKeepT (mDict1T (mTup mNil) (mTup (mCons (mC (.int 1)) (mCons (mC (.int 1)) mNil)))))) (mSeq (mFor (mItR (mCons (mVar 1) mNil)) (gtName 5) (m_kept_shares_b4 c_added c_product)) (mSeq (mSet 9 (mKeepD mDNew)) (mSeq (lockN (mVar 4) (mFor (mItK .dT (mVar 4)) (gtName 7) (m_kept_shares_b1 c_added c_product))) (mRet (mVar 9))))))
def m_book_of_b1 (c_added c_book_of c_kept_shares c_one_die c_put_together : Fm) : Ms :=
  (mDrop (mCall c_added (mCons (mVar 3) (mCons (mOp gMul (mVar 6) (mOp gIx (mVar 0) (mC (.int 1)))) (mCons (mDAt (mVar 5) (mVar 6)) mNil)))))
def m_book_of_b2 (c_added c_book_of c_kept_shares c_one_die c_put_together : Fm) : Ms :=
  (mSet 3 (mCall c_put_together (mCons (mVar 3) (mCons (mVar 2) (mCons (mC (.str "plus")) mNil)))))
def m_book_of (c_added c_book_of c_kept_shares c_one_die c_put_together : Fm) : Ms :=
  (mSeq (mSet 1 (mOp gIx (mVar 0) (mC (.int 0)))) (mSeq (mIfS (mTest (mOp gEq (mVar 1) (mC (.str "number")))) (mRet (mKeepD (mDictD [((mOp gIx (mVar 0) (mC (.int 1))), (mTup (mCons (mC (.int 1)) (mCons (mC (.int 1)) mNil))))]))) mSkip) (mSeq (mIfS (mTest (mOp (gIn false) (mVar 1) (mTup (mCons (mC (.str "high")) (mCons (mC (.str "low")) mNil))))) (mRet (mCall c_kept_shares (mCons (mVar 1) (mCons (mOp gIx (mVar 0) (mC (.int 1))) (mCons (mOp gIx (mVar 0) (mC (.int 2))) (mCons (mOp gIx (mVar 0) (mC (.int 3))) mNil)))))) mSkip) (mSeq (mIfS (mTest (mOp (gIn false) (mVar 1) (mC d_DICE))) (mSeq (mSet 2 (mCall c_one_die (mCons (mVar 1) (mCons (mOp gIx (mVar 0) (mC (.int 2))) (mCons (mOp gIx (mOp gAdd (mVar 0) (mTup (mCons (mC (.int 0)) mNil))) (mC (.int 3))) mNil))))) (mSeq (mSet 3 (mKeepD (mDictD [((mC (.int 0)), (mTup (mCons (mC (.int 1)) (mCons (mC (.int 1)) mNil))))]))) (mSeq (mFor (mItR (mCons (mOp gIx (mVar 0) (mC (.int 1))) mNil)) (gtName 4) (m_book_of_b2 c_added c_book_of c_kept_shares c_one_die c_put_together)) (mRet (mVar 3))))) mSkip) (mSeq (mIfS (mTest (mOp gEq (mVar 1) (mC (.str "times")))) (mSeq (mSet 3 (mKeepD mDNew)) (mSeq (mSet 5 (mCall c_book_of (mCons (mOp gIx (mVar 0) (mC (.int 2))) mNil))) (mSeq (lockN (mVar 5) (mFor (mItK .dK (mVar 5)) (gtName 6) (m_book_of_b1 c_added c_book_of c_kept_shares c_one_die c_put_together))) (mRet (mVar 3))))) mSkip) (mRet (mCall c_put_together (mCons (mCall c_book_of (mCons (mOp gIx (mVar 0) (mC (.int 1))) mNil)) (mCons (mCall c_book_of (mCons (mOp gIx (mVar 0) (mC (.int 2))) mNil)) (mCons (mVar 1) mNil))))))))))
def m_shares (c_book_of : Fm) : Ms :=
  (mSeq (mSet 1 (mCall c_book_of (mCons (mVar 0) mNil))) (mRet (mQ gTupOf (mLc [2] (mItN (mSortedD (mVar 1))) (gtName 2) mYes (mTup (mCons (mVar 2) (mCons (mDAt (mVar 1) (mVar 2)) mNil)))))))
def m_share_of (c_book_of : Fm) : Ms :=
  (mRet (mDGet (mCall c_book_of (mCons (mVar 0) mNil)) (mVar 1) (mTup (mCons (mC (.int 0)) (mCons (mC (.int 1)) mNil)))))
def m_Tally_note (c_share_of : Fm) : Ms :=
  (mSeq (mIfS (mTest (mOp gEq (mCall c_share_of (mCons (mFld "Tally" "said" (mVar 0)) (mCons (mVar 1) mNil))) (mTup (mCons (mC (.int 0)) (mCons (mC (.int 1)) mNil))))) (mRaise "NoWorth") mSkip) (mDrop (mAppend (mFld "Tally" "fell" (mVar 0)) (mVar 1))))
def m_Tally_many : Ms :=
  (mRet (mCB gLen (mCons (mFld "Tally" "fell" (mVar 0)) mNil)))
def m_Tally_counts : Ms :=
  (mRet (mQ gTupOf (mLc [1] (mItN (mSrtSet (mLst (mFld "Tally" "fell" (mVar 0))))) (gtName 1) mYes (mTup (mCons (mVar 1) (mCons (mCnt (mFld "Tally" "fell" (mVar 0)) (mVar 1)) mNil))))))
def m_Tally_due (c_fraction c_product c_shares : Fm) : Ms :=
  (mRet (mQ gTupOf (mLc [1, 2] (mItT (mCall c_shares (mCons (mFld "Tally" "said" (mVar 0)) mNil))) (gtTup 2 (gtsCons (gtName 1) (gtsCons (gtName 2) gtsNil))) mYes (mTup (mCons (mVar 1) (mCons (mCall c_product (mCons (mVar 2) (mCons (mCall c_fraction (mCons (mCB gLen (mCons (mFld "Tally" "fell" (mVar 0)) mNil)) (mCons (mC (.int 1)) mNil))) mNil))) mNil))))))
def m_Tally_lacking (c_shares : Fm) : Ms :=
  (mRet (mQ gTupOf (mLc [1, 2] (mItT (mCall c_shares (mCons (mFld "Tally" "said" (mVar 0)) mNil))) (gtTup 2 (gtsCons (gtName 1) (gtsCons (gtName 2) gtsNil))) (mTest (mInL (!·) (mVar 1) (mLoR (mFld "Tally" "fell" (mVar 0))))) (mVar 1))))
def m_Tally_undo : Ms :=
  (mSeq (mIfS (mTNot (mTru (mFld "Tally" "fell" (mVar 0)))) (mRaise "NoNote") mSkip) (mDrop (mPop (mFld "Tally" "fell" (mVar 0)))))
def m_Faces_take : Ms :=
  (mSeq (mIfS (mTOr (mTest (mOp gEq (mFld "Faces" "count" (mVar 0)) (mCB gLen (mCons (mFld "Faces" "row" (mVar 0)) mNil)))) (mTNot (mTest (mChain gLe gLe (mC (.int 1)) (mOp gIx (mFld "Faces" "row" (mVar 0)) (mFld "Faces" "count" (mVar 0))) (mVar 1))))) (mRaise "NoFaces") mSkip) (mSeq (mFldSet "Faces" "count" (mVar 0) (mOp gAdd (mFld "Faces" "count" (mVar 0)) (mC (.int 1)))) (mSeq (mFldSet "Faces" "of" (mVar 0) (mOp gMul (mFld "Faces" "of" (mVar 0)) (mVar 1))) (mRet (mOp gIx (mFld "Faces" "row" (mVar 0)) (mOp gSub (mFld "Faces" "count" (mVar 0)) (mC (.int 1))))))))
def m_die_worth_b1 (c_Faces_take : Fm) : Ms :=
  (mIfS (mTest (mOp gEq (mVar 5) (mVar 4))) (mSeq (mSet 5 (mMethX "Faces" "take" c_Faces_take (mVar 0) (mCons (mVar 4) mNil))) (mSet 6 (mOp gAdd (mVar 6) (mVar 5)))) mSkip)
def m_die_worth (c_Faces_take : Fm) : Ms :=
  (mSeq (mAsg (mSl (mVar 1) mNoPart (mPart (mC (.int 3)))) (gtTup 3 (gtsCons (gtName 2) (gtsCons (gtName 3) (gtsCons (gtName 4) gtsNil))))) (mSeq (mSet 5 (mMethX "Faces" "take" c_Faces_take (mVar 0) (mCons (mVar 4) mNil))) (mSeq (mIfS (mTAnd (mTest (mOp gEq (mVar 2) (mC (.str "again")))) (mTest (mOp gLe (mVar 5) (mOp gIx (mVar 1) (mC (.int 3)))))) (mRet (mMethX "Faces" "take" c_Faces_take (mVar 0) (mCons (mVar 4) mNil))) mSkip) (mSeq (mIfS (mTest (mOp gEq (mVar 2) (mC (.str "count")))) (mRet (mCB gInt (mCons (mOp gGe (mVar 5) (mOp gIx (mVar 1) (mC (.int 3)))) mNil))) mSkip) (mSeq (mIfS (mTest (mOp gEq (mVar 2) (mC (.str "burst")))) (mSeq (mSet 6 (mVar 5)) (mSeq (mFor (mItR (mCons (mOp gIx (mVar 1) (mC (.int 3))) mNil)) (gtName 7) (m_die_worth_b1 c_Faces_take)) (mRet (mVar 6)))) mSkip) (mRet (mVar 5)))))))
def m_worth_of (c_die_worth c_of_two c_worth_of : Fm) : Ms :=
  (mSeq (mSet 2 (mOp gIx (mVar 1) (mC (.int 0)))) (mSeq (mIfS (mTest (mOp gEq (mVar 2) (mC (.str "number")))) (mRet (mOp gIx (mVar 1) (mC (.int 1)))) mSkip) (mSeq (mIfS (mTest (mOp (gIn false) (mVar 2) (mC d_DICE))) (mSeq (mSet 3 (mKeep (mQ gSorted (mLcX [5] (mItR (mCons (mOp gIx (mVar 1) (mC (.int 1))) mNil)) (gtName 5) mYes (mCallX c_die_worth (mCons (mVar 0) (mCons (mVar 1) mNil))))))) (mSeq (mIfS (mTest (mOp gEq (mVar 2) (mC (.str "high")))) (mSet 3 (mKeep (mSlL (mLoR (mVar 3)) (mPart (mOp gSub (mOp gIx (mVar 1) (mC (.int 1))) (mOp gIx (mVar 1) (mC (.int 3))))) mNoPart))) mSkip) (mSeq (mIfS (mTest (mOp gEq (mVar 2) (mC (.str "low")))) (mSet 3 (mKeep (mSlL (mLoR (mVar 3)) mNoPart (mPart (mOp gIx (mVar 1) (mC (.int 3))))))) mSkip) (mRet (mQ gSum (mLst (mVar 3))))))) mSkip) (mSeq (mIfS (mTest (mOp gEq (mVar 2) (mC (.str "times")))) (mRet (mOp gMul (mOp gIx (mVar 1) (mC (.int 1))) (mCallX c_worth_of (mCons (mVar 0) (mCons (mOp gIx (mVar 1) (mC (.int 2))) mNil))))) mSkip) (mSeq (mSet 4 (mCallX c_worth_of (mCons (mVar 0) (mCons (mOp gIx (mVar 1) (mC (.int 1))) mNil)))) (mRet (mCall c_of_two (mCons (mVar 2) (mCons (mVar 4) (mCons (mCallX c_worth_of (mCons (mVar 0) (mCons (mOp gIx (mVar 1) (mC (.int 2))) mNil))) mNil))))))))))
def m_read_faces (lv : Nat) (c_worth_of : Fm) : Ms :=
  (mSeq (mSet 2 (mNewG lv "Faces" (fnM 2 2 m_Faces_init) (mCons (mVar 1) mNil))) (mSeq (mSet 3 (mCallX c_worth_of (mCons (mVar 2) (mCons (mVar 0) mNil)))) (mSeq (mIfS (mTest (mOp gLt (mFld "Faces" "count" (mVar 2)) (mCB gLen (mCons (mVar 1) mNil)))) (mRaise "NoFaces") mSkip) (mRet (mTup (mCons (mVar 2) (mCons (mVar 3) mNil)))))))
def m_fall (c_read_faces : Fm) : Ms :=
  (mRet (mOp gIx (mCallX c_read_faces (mCons (mVar 0) (mCons (mVar 1) mNil))) (mC (.int 1))))
def m_sides_in (c_sides_in : Fm) : Ms :=
  (mSeq (mIfS (mTest (mOp (gIn false) (mOp gIx (mVar 0) (mC (.int 0))) (mC d_DICE))) (mRet (mOp gIx (mVar 0) (mC (.int 2)))) mSkip) (mRet (mMaxD 0 (mLc [1] (mItT (mSl (mVar 0) (mPart (mC (.int 1))) mNoPart)) (gtName 1) (mTru (mIsi "tuple" (mVar 1))) (mCall c_sides_in (mCons (mVar 1) mNil))))))
def m_state_of (lv : Nat) (c_worth_of : Fm) : Ms :=
  (mSeq (mSet 2 (mNewG lv "Faces" (fnM 2 2 m_Faces_init) (mCons (mVar 1) mNil))) (mSeq (mTry cat_NoFaces (mDrop (mCallX c_worth_of (mCons (mVar 2) (mCons (mVar 0) mNil)))) (mRet (mOp gAdd (mUn gNeg (mC (.int 1))) (mCB gInt (mCons (mOp gEq (mFld "Faces" "count" (mVar 2)) (mCB gLen (mCons (mVar 1) mNil))) mNil))))) (mRet (mIf (mTest (mOp gEq (mFld "Faces" "count" (mVar 2)) (mCB gLen (mCons (mVar 1) mNil)))) (mC (.int 1)) (mUn gNeg (mC (.int 1)))))))
def m_all_faces_b1 (c_sides_in c_state_of : Fm) : Ms :=
  (mSeq (mSet 5 (mCall c_state_of (mCons (mVar 0) (mCons (mVar 4) mNil)))) (mSeq (mIfS (mTest (mOp gEq (mVar 5) (mC (.int 1)))) (mDrop (mAppend (mVar 1) (mVar 4))) mSkip) (mIfS (mTest (mOp gEq (mVar 5) (mC (.int 0)))) (mDrop (mExtend (mVar 3) (mLoN (mLc [6] (mItR2 (mCons (mC (.int 1)) (mCons (mOp gAdd (mCall c_sides_in (mCons (mVar 0) mNil)) (mC (.int 1))) mNil))) (gtName 6) mYes (mOp gAdd (mVar 4) (mTup (mCons (mVar 6) mNil))))))) mSkip)))
def m_all_faces_b2 (c_sides_in c_state_of : Fm) : Ms :=
  (mSeq (mSet 3 (mKeep (mDisp mNil))) (mSeq (lockN (mVar 2) (mFor (mItK .lst (mVar 2)) (gtName 4) (m_all_faces_b1 c_sides_in c_state_of))) (mSet 2 (mVar 3))))
def m_all_faces (c_sides_in c_state_of : Fm) : Ms :=
  (mSeq (mSet 1 (mKeep (mDisp mNil))) (mSeq (mSet 2 (mKeep (mDisp (mCons (mTup mNil) mNil)))) (mSeq (mWhile 1000 (mTru (mVar 2)) (m_all_faces_b2 c_sides_in c_state_of)) (mRet (mQ gTupOf (mQ gSortedT (mLst (mVar 1))))))))
def m_f_law_cell : Ms :=
  (mSeq (mIfS (mTest (mOp gLt (mVar 1) (mCB gLen (mCons (mVar 0) mNil)))) (mRet (mOp gIx (mVar 0) (mVar 1))) mSkip) (mRet (mC (.int 0))))
def m_f_law_mix : Ms :=
  (mSeq (mSet 3 (mOp gMod (mOp gMul (mVar 0) (mC (.int 48271))) (mVar 1))) (mRet (mOp gMod (mOp gMod (mOp gMul (mVar 3) (mOp gAdd (mVar 3) (mC (.int 7)))) (mVar 1)) (mVar 2))))
def m_f_law_dice (c_f_law_mix : Fm) : Ms :=
  (mSeq (mSet 2 (mOp gIx (mTup (mCons (mC (.str "dice")) (mCons (mC (.str "high")) (mCons (mC (.str "low")) (mCons (mC (.str "again")) (mCons (mC (.str "burst")) (mCons (mC (.str "count")) mNil))))))) (mCall c_f_law_mix (mCons (mVar 0) (mCons (mC (.int 9973)) (mCons (mC (.int 6)) mNil)))))) (mSeq (mSet 3 (mOp gAdd (mC (.int 1)) (mCall c_f_law_mix (mCons (mVar 0) (mCons (mC (.int 9967)) (mCons (mCB gMin (mCons (mC (.int 3)) (mCons (mVar 1) mNil))) mNil)))))) (mSeq (mSet 4 (mOp gAdd (mC (.int 2)) (mCall c_f_law_mix (mCons (mVar 0) (mCons (mC (.int 9949)) (mCons (mC (.int 5)) mNil)))))) (mSeq (mIfS (mTest (mOp gEq (mVar 2) (mC (.str "dice")))) (mRet (mTup (mCons (mVar 2) (mCons (mVar 3) (mCons (mVar 4) mNil))))) mSkip) (mSeq (mAsg (mGetN (mDictD [((mC (.str "again")), (mTup (mCons (mC (.int 1)) (mCons (mOp gSub (mVar 4) (mC (.int 1))) mNil)))), ((mC (.str "burst")), (mTup (mCons (mC (.int 1)) (mCons (mC (.int 2)) mNil)))), ((mC (.str "count")), (mTup (mCons (mC (.int 2)) (mCons (mVar 4) mNil))))]) (mVar 2) (mTup (mCons (mC (.int 1)) (mCons (mVar 3) mNil)))) (gtTup 2 (gtsCons (gtName 5) (gtsCons (gtName 6) gtsNil)))) (mRet (mTup (mCons (mVar 2) (mCons (mVar 3) (mCons (mVar 4) (mCons (mOp gAdd (mVar 5) (mCall c_f_law_mix (mCons (mVar 0) (mCons (mC (.int 9941)) (mCons (mOp gAdd (mOp gSub (mVar 6) (mVar 5)) (mC (.int 1))) mNil))))) mNil)))))))))))
def m_f_law_many (c_f_law_many : Fm) : Ms :=
  (mSeq (mIfS (mTest (mOp gEq (mOp gIx (mVar 0) (mC (.int 0))) (mC (.str "number")))) (mRet (mC (.int 0))) mSkip) (mSeq (mIfS (mTru (mIsi "tuple" (mOp gIx (mVar 0) (mUn gNeg (mC (.int 1)))))) (mRet (mQ gSum (mLc [1] (mItT (mSl (mVar 0) (mPart (mC (.int 1))) mNoPart)) (gtName 1) (mTru (mIsi "tuple" (mVar 1))) (mCall c_f_law_many (mCons (mVar 1) mNil))))) mSkip) (mRet (mOp gIx (mVar 0) (mC (.int 1))))))
def m_f_law_saying (c_f_law_dice c_f_law_many c_f_law_mix c_f_law_saying : Fm) : Ms :=
  (mSeq (mSet 3 (mCall c_f_law_mix (mCons (mVar 0) (mCons (mC (.int 9931)) (mCons (mC (.int 12)) mNil))))) (mSeq (mIfS (mTOr (mTest (mOp gLt (mVar 3) (mC (.int 2)))) (mTest (mOp gEq (mVar 2) (mC (.int 0))))) (mRet (mTup (mCons (mC (.str "number")) (mCons (mCall c_f_law_mix (mCons (mVar 0) (mCons (mC (.int 9929)) (mCons (mC (.int 10)) mNil)))) mNil)))) mSkip) (mSeq (mIfS (mTOr (mTest (mOp gLt (mVar 3) (mC (.int 5)))) (mTest (mOp gEq (mVar 1) (mC (.int 1))))) (mRet (mCall c_f_law_dice (mCons (mOp gAdd (mVar 0) (mC (.int 1))) (mCons (mVar 2) mNil)))) mSkip) (mSeq (mIfS (mTest (mOp gEq (mVar 3) (mC (.int 11)))) (mRet (mTup (mCons (mC (.str "times")) (mCons (mCall c_f_law_mix (mCons (mVar 0) (mCons (mC (.int 9923)) (mCons (mC (.int 4)) mNil)))) (mCons (mCall c_f_law_saying (mCons (mOp gAdd (mVar 0) (mC (.int 2))) (mCons (mOp gSub (mVar 1) (mC (.int 1))) (mCons (mVar 2) mNil)))) mNil))))) mSkip) (mSeq (mSet 4 (mCall c_f_law_saying (mCons (mOp gAdd (mVar 0) (mC (.int 3))) (mCons (mOp gSub (mVar 1) (mC (.int 1))) (mCons (mVar 2) mNil))))) (mSeq (mSet 5 (mCall c_f_law_saying (mCons (mOp gAdd (mVar 0) (mC (.int 5))) (mCons (mOp gSub (mVar 1) (mC (.int 1))) (mCons (mOp gSub (mVar 2) (mCall c_f_law_many (mCons (mVar 4) mNil))) mNil))))) (mSeq (mIfS (mTest (mOp gEq (mOp gMod (mVar 0) (mC (.int 2))) (mC (.int 0)))) (mPar 4 5 (mCons (mVar 5) (mCons (mVar 4) mNil))) mSkip) (mRet (mTup (mCons (mOp gIx (mTup (mCons (mC (.str "plus")) (mCons (mC (.str "less")) (mCons (mC (.str "most")) (mCons (mC (.str "least")) (mCons (mC (.str "beats")) mNil)))))) (mCall c_f_law_mix (mCons (mVar 0) (mCons (mC (.int 9907)) (mCons (mC (.int 5)) mNil))))) (mCons (mVar 4) (mCons (mVar 5) mNil))))))))))))
def m_law_b1 (lv : Nat) (c_Tally_counts c_Tally_due c_Tally_lacking c_Tally_many c_Tally_note c_Tally_undo c_f_law_cell c_f_law_saying c_all_faces c_fall : Fm) : Ms :=
  (mDrop (mMethX "Tally" "undo" c_Tally_undo (mVar 4) mNil))
def m_law_b2 (lv : Nat) (c_Tally_counts c_Tally_due c_Tally_lacking c_Tally_many c_Tally_note c_Tally_undo c_f_law_cell c_f_law_saying c_all_faces c_fall : Fm) : Ms :=
  (mSet 7 (mOp gMul (mVar 7) (mOp gIx (mVar 9) (mC (.int 1)))))
def m_law_b3 (lv : Nat) (c_Tally_counts c_Tally_due c_Tally_lacking c_Tally_many c_Tally_note c_Tally_undo c_f_law_cell c_f_law_saying c_all_faces c_fall : Fm) : Ms :=
  (mDrop (mMethX "Tally" "note" c_Tally_note (mVar 5) (mCons (mCallX c_fall (mCons (mVar 2) (mCons (mVar 6) mNil))) mNil)))
def m_law_b4 (lv : Nat) (c_Tally_counts c_Tally_due c_Tally_lacking c_Tally_many c_Tally_note c_Tally_undo c_f_law_cell c_f_law_saying c_all_faces c_fall : Fm) : Ms :=
  (mDrop (mMethX "Tally" "note" c_Tally_note (mVar 4) (mCons (mCallX c_fall (mCons (mVar 2) (mCons (mVar 6) mNil))) mNil)))
def m_law_b5 (lv : Nat) (c_Tally_counts c_Tally_due c_Tally_lacking c_Tally_many c_Tally_note c_Tally_undo c_f_law_cell c_f_law_saying c_all_faces c_fall : Fm) : Ms :=
  (mSeq (mSet 2 (mCall c_f_law_saying (mCons (mOp gAdd (mCall c_f_law_cell (mCons (mVar 0) (mCons (mVar 1) mNil))) (mOp gMul (mC (.int 3)) (mVar 1))) (mCons (mC (.int 3)) (mCons (mC (.int 2)) mNil))))) (mSeq (mSet 3 (mCall c_all_faces (mCons (mVar 2) mNil))) (mSeq (mPar 4 5 (mCons (mNewG lv "Tally" (fnM 2 2 m_Tally_init) (mCons (mVar 2) mNil)) (mCons (mNewG lv "Tally" (fnM 2 2 m_Tally_init) (mCons (mVar 2) mNil)) mNil))) (mSeq (mFor (mItT (mVar 3)) (gtName 6) (m_law_b4 lv c_Tally_counts c_Tally_due c_Tally_lacking c_Tally_many c_Tally_note c_Tally_undo c_f_law_cell c_f_law_saying c_all_faces c_fall)) (mSeq (mFor (mItT (mRevT (mVar 3))) (gtName 6) (m_law_b3 lv c_Tally_counts c_Tally_due c_Tally_lacking c_Tally_many c_Tally_note c_Tally_undo c_f_law_cell c_f_law_saying c_all_faces c_fall)) (mSeq (mIfS (mTOr (mTest (mOp gNe (mMeth "Tally" "many" c_Tally_many (mVar 4) mNil) (mCB gLen (mCons (mVar 3) mNil)))) (mTOr (mTest (mOp gNe (mMeth "Tally" "lacking" c_Tally_lacking (mVar 4) mNil) (mTup mNil))) (mTest (mOp gNe (mQ gSum (mLc [8, 11] (mItT (mMeth "Tally" "counts" c_Tally_counts (mVar 4) mNil)) (gtTup 2 (gtsCons (gtName 8) (gtsCons (gtName 11) gtsNil))) mYes (mVar 11))) (mCB gLen (mCons (mVar 3) mNil)))))) (mRet (mC (.bl false))) mSkip) (mSeq (mIfS (mTest (mOp gNe (mTup (mCons (mMeth "Tally" "counts" c_Tally_counts (mVar 4) mNil) (mCons (mMeth "Tally" "due" c_Tally_due (mVar 4) mNil) mNil))) (mTup (mCons (mMeth "Tally" "counts" c_Tally_counts (mVar 5) mNil) (mCons (mMeth "Tally" "due" c_Tally_due (mVar 5) mNil) mNil))))) (mRet (mC (.bl false))) mSkip) (mSeq (mSet 7 (mC (.int 1))) (mSeq (mFor (mItT (mMeth "Tally" "due" c_Tally_due (mVar 4) mNil)) (gtTup 2 (gtsCons (gtName 8) (gtsCons (gtName 9) gtsNil))) (m_law_b2 lv c_Tally_counts c_Tally_due c_Tally_lacking c_Tally_many c_Tally_note c_Tally_undo c_f_law_cell c_f_law_saying c_all_faces c_fall)) (mSeq (mIfS (mTest (mOp gNe (mQ gSum (mLc [8, 9] (mItT (mMeth "Tally" "due" c_Tally_due (mVar 4) mNil)) (gtTup 2 (gtsCons (gtName 8) (gtsCons (gtName 9) gtsNil))) mYes (mOp gMul (mOp gIx (mVar 9) (mC (.int 0))) (mOp gDiv (mVar 7) (mOp gIx (mVar 9) (mC (.int 1))))))) (mOp gMul (mVar 7) (mCB gLen (mCons (mVar 3) mNil))))) (mRet (mC (.bl false))) mSkip) (mSeq (mSet 10 (mQ gTupOf (mLc [8, 11] (mItT (mMeth "Tally" "counts" c_Tally_counts (mVar 4) mNil)) (gtTup 2 (gtsCons (gtName 8) (gtsCons (gtName 11) gtsNil))) mYes (mTup (mCons (mVar 8) (mCons (mTup (mCons (mVar 11) (mCons (mC (.int 1)) mNil))) mNil)))))) (mSeq (mIfS (mTAnd (mTest (mOp gEq (mLenSet (mLc [6] (mItT (mVar 3)) (gtName 6) mYes (mCB gLen (mCons (mVar 6) mNil)))) (mC (.int 1)))) (mTest (mOp gNe (mMeth "Tally" "due" c_Tally_due (mVar 4) mNil) (mVar 10)))) (mRet (mC (.bl false))) mSkip) (mSeq (mFor (mItT (mVar 3)) (gtName 6) (m_law_b1 lv c_Tally_counts c_Tally_due c_Tally_lacking c_Tally_many c_Tally_note c_Tally_undo c_f_law_cell c_f_law_saying c_all_faces c_fall)) (mIfS (mTOr (mTest (mOp gNe (mMeth "Tally" "many" c_Tally_many (mVar 4) mNil) (mC (.int 0)))) (mTOr (mTest (mOp gNe (mMeth "Tally" "counts" c_Tally_counts (mVar 4) mNil) (mTup mNil))) (mTest (mCmpL (!·) (mLoN (mLc [8, 9] (mItT (mMeth "Tally" "due" c_Tally_due (mVar 4) mNil)) (gtTup 2 (gtsCons (gtName 8) (gtsCons (gtName 9) gtsNil))) (mTest (mOp gNe (mVar 9) (mTup (mCons (mC (.int 0)) (mCons (mC (.int 1)) mNil))))) (mVar 9))) (mLoN (mDisp mNil)))))) (mRet (mC (.bl false))) mSkip))))))))))))))
def m_law (lv : Nat) (c_Tally_counts c_Tally_due c_Tally_lacking c_Tally_many c_Tally_note c_Tally_undo c_f_law_cell c_f_law_saying c_all_faces c_fall : Fm) : Ms :=
  (mSeq (mFor (mItR (mCons (mC (.int 6)) mNil)) (gtName 1) (m_law_b5 lv c_Tally_counts c_Tally_due c_Tally_lacking c_Tally_many c_Tally_note c_Tally_undo c_f_law_cell c_f_law_saying c_all_faces c_fall)) (mRet (mC (.bl true))))
end Ml
namespace L17
open PySem L2 Ml
inductive Fn where
  | Tally_init | Faces_init | divisor | fraction | sum_of | product | added | put_together | of_two | one_die | kept_shares | book_of | shares | share_of | Tally_note | Tally_many | Tally_counts | Tally_due | Tally_lacking | Tally_undo | Faces_take | die_worth | worth_of | read_faces | fall | sides_in | state_of | all_faces | f_law_cell | f_law_mix | f_law_dice | f_law_many | f_law_saying | law
def tbl (n : Nat) (C : Fn → Fm) : Fn → Fm
  | .Tally_init => fnM 2 2 (m_Tally_init )
  | .Faces_init => fnM 2 2 (m_Faces_init )
  | .divisor => fnM 2 2 (m_divisor )
  | .fraction => fnM 2 3 (m_fraction (C .divisor))
  | .sum_of => fnM 2 2 (m_sum_of (C .fraction))
  | .product => fnM 2 2 (m_product (C .fraction))
  | .added => fnM 3 3 (m_added (C .sum_of))
  | .put_together => fnM 3 6 (m_put_together (C .added) (C .of_two) (C .product))
  | .of_two => fnM 3 3 (m_of_two )
  | .one_die => fnM 3 7 (m_one_die (C .added) (C .one_die) (C .product))
  | .kept_shares => fnM 4 11 (m_kept_shares (C .added) (C .product))
  | .book_of => fnM 1 7 (m_book_of (C .added) (C .book_of) (C .kept_shares) (C .one_die) (C .put_together))
  | .shares => fnM 1 3 (m_shares (C .book_of))
  | .share_of => fnM 2 2 (m_share_of (C .book_of))
  | .Tally_note => fnX 2 2 (m_Tally_note (C .share_of))
  | .Tally_many => fnM 1 1 (m_Tally_many )
  | .Tally_counts => fnM 1 2 (m_Tally_counts )
  | .Tally_due => fnM 1 3 (m_Tally_due (C .fraction) (C .product) (C .shares))
  | .Tally_lacking => fnM 1 3 (m_Tally_lacking (C .shares))
  | .Tally_undo => fnX 1 1 (m_Tally_undo )
  | .Faces_take => fnX 2 2 (m_Faces_take )
  | .die_worth => fnX 2 8 (m_die_worth (C .Faces_take))
  | .worth_of => fnX 2 6 (m_worth_of (C .die_worth) (C .of_two) (C .worth_of))
  | .read_faces => fnX 2 4 (m_read_faces n (C .worth_of))
  | .fall => fnX 2 2 (m_fall (C .read_faces))
  | .sides_in => fnM 1 2 (m_sides_in (C .sides_in))
  | .state_of => fnM 2 3 (m_state_of n (C .worth_of))
  | .all_faces => fnM 1 7 (m_all_faces (C .sides_in) (C .state_of))
  | .f_law_cell => fnM 2 2 (m_f_law_cell )
  | .f_law_mix => fnM 3 4 (m_f_law_mix )
  | .f_law_dice => fnM 2 7 (m_f_law_dice (C .f_law_mix))
  | .f_law_many => fnM 1 2 (m_f_law_many (C .f_law_many))
  | .f_law_saying => fnM 3 6 (m_f_law_saying (C .f_law_dice) (C .f_law_many) (C .f_law_mix) (C .f_law_saying))
  | .law => fnX 1 12 (m_law n (C .Tally_counts) (C .Tally_due) (C .Tally_lacking) (C .Tally_many) (C .Tally_note) (C .Tally_undo) (C .f_law_cell) (C .f_law_saying) (C .all_faces) (C .fall))
def callN : Nat → Fn → Fm
  | 0 => fun _ _ _ => .bad
  | n + 1 => tbl n (callN n)
def ar : Fn → Nat
  | .Tally_init => 2
  | .Faces_init => 2
  | .divisor => 2
  | .fraction => 2
  | .sum_of => 2
  | .product => 2
  | .added => 3
  | .put_together => 3
  | .of_two => 3
  | .one_die => 3
  | .kept_shares => 4
  | .book_of => 1
  | .shares => 1
  | .share_of => 2
  | .Tally_note => 2
  | .Tally_many => 1
  | .Tally_counts => 1
  | .Tally_due => 1
  | .Tally_lacking => 1
  | .Tally_undo => 1
  | .Faces_take => 2
  | .die_worth => 2
  | .worth_of => 2
  | .read_faces => 2
  | .fall => 2
  | .sides_in => 1
  | .state_of => 2
  | .all_faces => 1
  | .f_law_cell => 2
  | .f_law_mix => 3
  | .f_law_dice => 2
  | .f_law_many => 1
  | .f_law_saying => 3
  | .law => 1
theorem callN_ne : ∀ (n : Nat) (f : Fn) (ds : List D) (st : Sto), callN n f ds st ≠ .bad → ds.length = ar f
  | 0, _, _, _, h => absurd rfl h
  | n + 1, f, ds, st, h => by cases f <;> first | exact fnX_len ds st h | exact fnM_ne ds st h
theorem callN_len (n : Nat) (f : Fn) (ds : List D) (st : Sto) (d : D) (st' : Sto) (h : callN n f ds st = .ok d st') : ds.length = ar f := callN_ne n f ds st (by rw [h]; intro z; cases z)
end L17

/-! Each def of the text does what its reading does (printed by gen2.py). -/
namespace L17
open PySem L2 Ml
def top (i : Nat) : Stmt := PySem.Challenge.pw_diespeech_k17_whole_tallies.main.body.getD i (.Pass ⟨0, 0, 0, 0⟩)
def inCls (s : Stmt) (j : Nat) : Stmt := match s with
  | .ClassDef (body := b) .. => b.getD j (.Pass ⟨0, 0, 0, 0⟩)
  | s => s
abbrev s_Tally_init : Stmt := inCls (top 21) 0
abbrev s_Faces_init : Stmt := inCls (top 23) 0
abbrev s_divisor : Stmt := top 6
abbrev s_fraction : Stmt := top 7
abbrev s_sum_of : Stmt := top 8
abbrev s_product : Stmt := top 9
abbrev s_added : Stmt := top 12
abbrev s_put_together : Stmt := top 13
abbrev s_of_two : Stmt := top 14
abbrev s_one_die : Stmt := top 15
abbrev s_kept_shares : Stmt := top 16
abbrev s_book_of : Stmt := top 17
abbrev s_shares : Stmt := top 18
abbrev s_share_of : Stmt := top 19
abbrev s_Tally_note : Stmt := inCls (top 21) 1
abbrev s_Tally_many : Stmt := inCls (top 21) 2
abbrev s_Tally_counts : Stmt := inCls (top 21) 3
abbrev s_Tally_due : Stmt := inCls (top 21) 4
abbrev s_Tally_lacking : Stmt := inCls (top 21) 5
abbrev s_Tally_undo : Stmt := inCls (top 21) 6
abbrev s_Faces_take : Stmt := inCls (top 23) 1
abbrev s_die_worth : Stmt := top 24
abbrev s_worth_of : Stmt := top 25
abbrev s_read_faces : Stmt := top 26
abbrev s_fall : Stmt := top 27
abbrev s_sides_in : Stmt := top 28
abbrev s_state_of : Stmt := top 29
abbrev s_all_faces : Stmt := top 30
abbrev s_f_law_cell : Stmt := top 32
abbrev s_f_law_mix : Stmt := top 33
abbrev s_f_law_dice : Stmt := top 34
abbrev s_f_law_many : Stmt := top 35
abbrev s_f_law_saying : Stmt := top 36
abbrev s_law : Stmt := top 37
def st : Fn → Stmt
  | .Tally_init => s_Tally_init
  | .Faces_init => s_Faces_init
  | .divisor => s_divisor
  | .fraction => s_fraction
  | .sum_of => s_sum_of
  | .product => s_product
  | .added => s_added
  | .put_together => s_put_together
  | .of_two => s_of_two
  | .one_die => s_one_die
  | .kept_shares => s_kept_shares
  | .book_of => s_book_of
  | .shares => s_shares
  | .share_of => s_share_of
  | .Tally_note => s_Tally_note
  | .Tally_many => s_Tally_many
  | .Tally_counts => s_Tally_counts
  | .Tally_due => s_Tally_due
  | .Tally_lacking => s_Tally_lacking
  | .Tally_undo => s_Tally_undo
  | .Faces_take => s_Faces_take
  | .die_worth => s_die_worth
  | .worth_of => s_worth_of
  | .read_faces => s_read_faces
  | .fall => s_fall
  | .sides_in => s_sides_in
  | .state_of => s_state_of
  | .all_faces => s_all_faces
  | .f_law_cell => s_f_law_cell
  | .f_law_mix => s_f_law_mix
  | .f_law_dice => s_f_law_dice
  | .f_law_many => s_f_law_many
  | .f_law_saying => s_f_law_saying
  | .law => s_law
def nm : Fn → Str
  | .Tally_init => "__init__"
  | .Faces_init => "__init__"
  | .divisor => "divisor"
  | .fraction => "fraction"
  | .sum_of => "sum_of"
  | .product => "product"
  | .added => "added"
  | .put_together => "put_together"
  | .of_two => "of_two"
  | .one_die => "one_die"
  | .kept_shares => "kept_shares"
  | .book_of => "book_of"
  | .shares => "shares"
  | .share_of => "share_of"
  | .Tally_note => "note"
  | .Tally_many => "many"
  | .Tally_counts => "counts"
  | .Tally_due => "due"
  | .Tally_lacking => "lacking"
  | .Tally_undo => "undo"
  | .Faces_take => "take"
  | .die_worth => "die_worth"
  | .worth_of => "worth_of"
  | .read_faces => "read_faces"
  | .fall => "fall"
  | .sides_in => "sides_in"
  | .state_of => "state_of"
  | .all_faces => "all_faces"
  | .f_law_cell => "_law_cell"
  | .f_law_mix => "_law_mix"
  | .f_law_dice => "_law_dice"
  | .f_law_many => "_law_many"
  | .f_law_saying => "_law_saying"
  | .law => "law"
def ql : Fn → Str
  | .Tally_init => "Tally.__init__"
  | .Faces_init => "Faces.__init__"
  | .divisor => "divisor"
  | .fraction => "fraction"
  | .sum_of => "sum_of"
  | .product => "product"
  | .added => "added"
  | .put_together => "put_together"
  | .of_two => "of_two"
  | .one_die => "one_die"
  | .kept_shares => "kept_shares"
  | .book_of => "book_of"
  | .shares => "shares"
  | .share_of => "share_of"
  | .Tally_note => "Tally.note"
  | .Tally_many => "Tally.many"
  | .Tally_counts => "Tally.counts"
  | .Tally_due => "Tally.due"
  | .Tally_lacking => "Tally.lacking"
  | .Tally_undo => "Tally.undo"
  | .Faces_take => "Faces.take"
  | .die_worth => "die_worth"
  | .worth_of => "worth_of"
  | .read_faces => "read_faces"
  | .fall => "fall"
  | .sides_in => "sides_in"
  | .state_of => "state_of"
  | .all_faces => "all_faces"
  | .f_law_cell => "_law_cell"
  | .f_law_mix => "_law_mix"
  | .f_law_dice => "_law_dice"
  | .f_law_many => "_law_many"
  | .f_law_saying => "_law_saying"
  | .law => "law"
def isM : Fn → Bool
  | .Tally_init => true
  | .Faces_init => true
  | .divisor => false
  | .fraction => false
  | .sum_of => false
  | .product => false
  | .added => false
  | .put_together => false
  | .of_two => false
  | .one_die => false
  | .kept_shares => false
  | .book_of => false
  | .shares => false
  | .share_of => false
  | .Tally_note => true
  | .Tally_many => true
  | .Tally_counts => true
  | .Tally_due => true
  | .Tally_lacking => true
  | .Tally_undo => true
  | .Faces_take => true
  | .die_worth => false
  | .worth_of => false
  | .read_faces => false
  | .fall => false
  | .sides_in => false
  | .state_of => false
  | .all_faces => false
  | .f_law_cell => false
  | .f_law_mix => false
  | .f_law_dice => false
  | .f_law_many => false
  | .f_law_saying => false
  | .law => false
def rz : Fn → Bool
  | .Tally_init => false
  | .Faces_init => false
  | .divisor => false
  | .fraction => false
  | .sum_of => false
  | .product => false
  | .added => false
  | .put_together => false
  | .of_two => false
  | .one_die => false
  | .kept_shares => false
  | .book_of => false
  | .shares => false
  | .share_of => false
  | .Tally_note => true
  | .Tally_many => false
  | .Tally_counts => false
  | .Tally_due => false
  | .Tally_lacking => false
  | .Tally_undo => true
  | .Faces_take => true
  | .die_worth => true
  | .worth_of => true
  | .read_faces => true
  | .fall => true
  | .sides_in => false
  | .state_of => false
  | .all_faces => false
  | .f_law_cell => false
  | .f_law_mix => false
  | .f_law_dice => false
  | .f_law_many => false
  | .f_law_saying => false
  | .law => true
def ps : Fn → List Str
  | .Tally_init => ["self", "saying"]
  | .Faces_init => ["self", "row"]
  | .divisor => ["one", "other"]
  | .fraction => ["upper", "lower"]
  | .sum_of => ["one", "other"]
  | .product => ["one", "other"]
  | .added => ["book", "worth", "share"]
  | .put_together => ["one", "other", "word"]
  | .of_two => ["word", "mine", "yours"]
  | .one_die => ["word", "sides", "last"]
  | .kept_shares => ["word", "many", "sides", "kept"]
  | .book_of => ["saying"]
  | .shares => ["saying"]
  | .share_of => ["saying", "worth"]
  | .Tally_note => ["self", "worth"]
  | .Tally_many => ["self"]
  | .Tally_counts => ["self"]
  | .Tally_due => ["self"]
  | .Tally_lacking => ["self"]
  | .Tally_undo => ["self"]
  | .Faces_take => ["self", "sides"]
  | .die_worth => ["faces", "saying"]
  | .worth_of => ["faces", "saying"]
  | .read_faces => ["saying", "row"]
  | .fall => ["saying", "faces"]
  | .sides_in => ["saying"]
  | .state_of => ["saying", "row"]
  | .all_faces => ["saying"]
  | .f_law_cell => ["script", "k"]
  | .f_law_mix => ["cell", "prime", "many"]
  | .f_law_dice => ["cell", "most"]
  | .f_law_many => ["saying"]
  | .f_law_saying => ["cell", "deep", "most"]
  | .law => ["script"]
/-- what the top has written -/
structure Tx (w : World) (K : PySem.W.Frag) (mg : Str → Option Value) (ad : Fn → Addr) (fd : Fn → FuncData) (a_DICE : Addr) (A_Faces : Addr) (A_NoFaces : Addr) (A_NoNote : Addr) (A_NoWorth : Addr) (A_Tally : Addr) : Prop where
  f : ∀ f, Fun K (nm f) (ql f) (st f) (ad f) (fd f)
  m : ∀ f, isM f = false → mg (nm f) = some (.ref (ad f))
  k : ∀ f, PySem.W.keepIn K (.ref (ad f)) = true
  b : ∀ f, Binds K (fd f) (ps f) []
  b_abs : mg "abs" = none
  b_int : mg "int" = none
  b_isinstance : mg "isinstance" = none
  b_len : mg "len" = none
  b_max : mg "max" = none
  b_min : mg "min" = none
  b_range : mg "range" = none
  b_set : mg "set" = none
  b_sorted : mg "sorted" = none
  b_sum : mg "sum" = none
  b_tuple : mg "tuple" = none
  g_DICE : mg "DICE" = some (.ref a_DICE)
  r_DICE : ∀ H mu, Rp K H mu (.ref a_DICE) d_DICE
  g_Faces : mg "Faces" = some (.ref A_Faces)
  c_Faces : clsIn K "Faces" A_Faces
  g_NoFaces : mg "NoFaces" = some (.ref A_NoFaces)
  c_NoFaces : clsIn K "NoFaces" A_NoFaces
  g_NoNote : mg "NoNote" = some (.ref A_NoNote)
  c_NoNote : clsIn K "NoNote" A_NoNote
  g_NoWorth : mg "NoWorth" = some (.ref A_NoWorth)
  c_NoWorth : clsIn K "NoWorth" A_NoWorth
  g_Tally : mg "Tally" = some (.ref A_Tally)
  c_Tally : clsIn K "Tally" A_Tally
  C_Faces : Cls K A_Faces
  M_Faces : Mk K A_Faces (ad .Faces_init)
  n_Faces_row : NoAttr K A_Faces "row"
  n_Faces_count : NoAttr K A_Faces "count"
  n_Faces_of : NoAttr K A_Faces "of"
  h_Faces_take : Meth K A_Faces "take" (ad .Faces_take)
  C_Tally : Cls K A_Tally
  M_Tally : Mk K A_Tally (ad .Tally_init)
  n_Tally_said : NoAttr K A_Tally "said"
  n_Tally_fell : NoAttr K A_Tally "fell"
  h_Tally_note : Meth K A_Tally "note" (ad .Tally_note)
  h_Tally_many : Meth K A_Tally "many" (ad .Tally_many)
  h_Tally_counts : Meth K A_Tally "counts" (ad .Tally_counts)
  h_Tally_due : Meth K A_Tally "due" (ad .Tally_due)
  h_Tally_lacking : Meth K A_Tally "lacking" (ad .Tally_lacking)
  h_Tally_undo : Meth K A_Tally "undo" (ad .Tally_undo)
  x_NoFaces : PySem.W.excIn K A_NoFaces [.type "ValueError", .type "Exception", .type "BaseException", .type "object"] "ValueError.__new__" = true
  k_NoFaces : PySem.W.keepIn K (.ref A_NoFaces) = true
  s_NoFaces : PySem.W.subIn K (.ref A_NoFaces) (.type "BaseException") = some true
  y_NoFaces : PySem.W.typeIn K (.ref A_NoFaces) = some (.type "type")
  x_NoNote : PySem.W.excIn K A_NoNote [.type "ValueError", .type "Exception", .type "BaseException", .type "object"] "ValueError.__new__" = true
  k_NoNote : PySem.W.keepIn K (.ref A_NoNote) = true
  s_NoNote : PySem.W.subIn K (.ref A_NoNote) (.type "BaseException") = some true
  y_NoNote : PySem.W.typeIn K (.ref A_NoNote) = some (.type "type")
  x_NoWorth : PySem.W.excIn K A_NoWorth [.type "ValueError", .type "Exception", .type "BaseException", .type "object"] "ValueError.__new__" = true
  k_NoWorth : PySem.W.keepIn K (.ref A_NoWorth) = true
  s_NoWorth : PySem.W.subIn K (.ref A_NoWorth) (.type "BaseException") = some true
  y_NoWorth : PySem.W.typeIn K (.ref A_NoWorth) = some (.type "type")
  cat_NoFaces : ∀ c b cls, cat_NoFaces c = some b → PySem.W.nsIn K mainGlobals c = some (some cls) → PySem.W.exmOne K cls (.ref A_NoFaces) = some b
  cr_NoFaces : ∀ c, Ml.cat_NoFaces c = some true → ∃ D, clsIn K c D
section
variable {P : Program} {w : World} {K : PySem.W.Frag} {mg : Str → Option Value} {base : Heap} {ad : Fn → Addr} {fd : Fn → FuncData} {a_DICE : Addr} {A_Faces : Addr} {A_NoFaces : Addr} {A_NoNote : Addr} {A_NoWorth : Addr} {A_Tally : Addr}
/-- g keeps its promise at level n -/
@[reducible] def Good (P : Program) (w : World) (K : PySem.W.Frag) (mg : Str → Option Value) (base : Heap) (ad : Fn → Addr) (fd : Fn → FuncData) (n : Nat) (g : Fn) : Prop := match rz g with
  | true => FnOk P w K mg base (L2.CX P w) n (ad g) (fd g) (ps g) (spX K (ar g) (callN n g))
  | false => FnOk P w K mg base CX0 n (ad g) (fd g) (ps g) (spM K (ar g) (callN n g))
theorem sc_Tally_init : FnScope ["self", "saying"] (ps .Tally_init) (defScope s_Tally_init) := ⟨rfl, rfl, rfl, by decide +kernel, rfl, by decide +kernel, by decide +kernel⟩
theorem ok0_Tally_init (T : Tx w K mg ad fd a_DICE A_Faces A_NoFaces A_NoNote A_NoWorth A_Tally) : FnOk P w K mg base CX0 1 (ad .Tally_init) (fd .Tally_init) (ps .Tally_init) (spM K 2 (fnM 2 2 m_Tally_init)) :=
  have S := sc_Tally_init
  fn_ok (T.f .Tally_init) sc_Tally_init rfl fun cdv A outer s H E hr =>
  (mss_cons (ms_fld T.c_Tally T.C_Tally T.n_Tally_said (me_var (pv 0)) (me_var (pv 1))) (mss_one (ms_fld T.c_Tally T.C_Tally T.n_Tally_fell (me_var (pv 0)) (me_keep (ml_lst ma_nil)))))
theorem ok_Tally_init {n : Nat} (T : Tx w K mg ad fd a_DICE A_Faces A_NoFaces A_NoNote A_NoWorth A_Tally) (IH : ∀ g, Good P w K mg base ad fd n g) : FnOk P w K mg base CX0 (n + 1) (ad .Tally_init) (fd .Tally_init) (ps .Tally_init) (spM K (ar .Tally_init) (callN (n + 1) .Tally_init)) :=
  have S := sc_Tally_init
  fn_ok (T.f .Tally_init) sc_Tally_init rfl fun cdv A outer s H E hr =>
  (mss_cons (ms_fld T.c_Tally T.C_Tally T.n_Tally_said (me_var (pv 0)) (me_var (pv 1))) (mss_one (ms_fld T.c_Tally T.C_Tally T.n_Tally_fell (me_var (pv 0)) (me_keep (ml_lst ma_nil)))))
theorem sc_Faces_init : FnScope ["self", "row"] (ps .Faces_init) (defScope s_Faces_init) := ⟨rfl, rfl, rfl, by decide +kernel, rfl, by decide +kernel, by decide +kernel⟩
theorem ok0_Faces_init (T : Tx w K mg ad fd a_DICE A_Faces A_NoFaces A_NoNote A_NoWorth A_Tally) : FnOk P w K mg base CX0 1 (ad .Faces_init) (fd .Faces_init) (ps .Faces_init) (spM K 2 (fnM 2 2 m_Faces_init)) :=
  have S := sc_Faces_init
  fn_ok (T.f .Faces_init) sc_Faces_init rfl fun cdv A outer s H E hr =>
  (mss_cons (ms_fld T.c_Faces T.C_Faces T.n_Faces_row (me_var (pv 0)) (me_var (pv 1))) (mss_cons (ms_fld T.c_Faces T.C_Faces T.n_Faces_count (me_var (pv 0)) me_int) (mss_one (ms_fld T.c_Faces T.C_Faces T.n_Faces_of (me_var (pv 0)) me_int))))
theorem ok_Faces_init {n : Nat} (T : Tx w K mg ad fd a_DICE A_Faces A_NoFaces A_NoNote A_NoWorth A_Tally) (IH : ∀ g, Good P w K mg base ad fd n g) : FnOk P w K mg base CX0 (n + 1) (ad .Faces_init) (fd .Faces_init) (ps .Faces_init) (spM K (ar .Faces_init) (callN (n + 1) .Faces_init)) :=
  have S := sc_Faces_init
  fn_ok (T.f .Faces_init) sc_Faces_init rfl fun cdv A outer s H E hr =>
  (mss_cons (ms_fld T.c_Faces T.C_Faces T.n_Faces_row (me_var (pv 0)) (me_var (pv 1))) (mss_cons (ms_fld T.c_Faces T.C_Faces T.n_Faces_count (me_var (pv 0)) me_int) (mss_one (ms_fld T.c_Faces T.C_Faces T.n_Faces_of (me_var (pv 0)) me_int))))
theorem sc_divisor : FnScope ["one", "other"] (ps .divisor) (defScope s_divisor) := ⟨rfl, rfl, rfl, by decide +kernel, rfl, by decide +kernel, by decide +kernel⟩
theorem ok_divisor {n : Nat} (T : Tx w K mg ad fd a_DICE A_Faces A_NoFaces A_NoNote A_NoWorth A_Tally) (IH : ∀ g, Good P w K mg base ad fd n g) : FnOk P w K mg base CX0 (n + 1) (ad .divisor) (fd .divisor) (ps .divisor) (spM K (ar .divisor) (callN (n + 1) .divisor)) :=
  have S := sc_divisor
  fn_ok (T.f .divisor) sc_divisor rfl fun cdv A outer s H E hr =>
  (mss_cons (ms_while PassesOwn.never (mt_cmp (op_neA hr.units) opS_ne (me_var (pv 1)) me_int (nomark _)) (mss_one (ms_par (i := 0) (j := 1) rfl S.nd rfl rfl (by decide) rfl rfl (ma_cons (me_var (pv 1)) (ma_cons (me_mod (me_var (pv 0)) (me_var (pv 1))) ma_nil)) (by rfl)))) (mss_one (ms_ret (me_var (pv 0)))))
theorem sc_fraction : FnScope ["upper", "lower", "by"] (ps .fraction) (defScope s_fraction) := ⟨rfl, rfl, rfl, by decide +kernel, rfl, by decide +kernel, by decide +kernel⟩
theorem ok_fraction {n : Nat} (T : Tx w K mg ad fd a_DICE A_Faces A_NoFaces A_NoNote A_NoWorth A_Tally) (IH : ∀ g, Good P w K mg base ad fd n g) : FnOk P w K mg base CX0 (n + 1) (ad .fraction) (fd .fraction) (ps .fraction) (spM K (ar .fraction) (callN (n + 1) .fraction)) :=
  have S := sc_fraction
  fn_ok (T.f .fraction) sc_fraction rfl fun cdv A outer s H E hr =>
  (mss_cons (ms_set (i := 2) S.nd rfl (by first | exact Or.inl rfl | exact Or.inr rfl) (me_call (callN_len _ _) (IH .divisor) hr rfl (T.m .divisor rfl) (T.k .divisor) (T.b .divisor) (ma_cons (me_callB call_abs callS_abs rfl T.b_abs bt_abs (ma_cons (me_var (pv 0)) ma_nil)) (ma_cons (me_var (pv 1)) ma_nil)))) (mss_one (ms_ret (me_tup (ma_cons (me_div (me_var (pv 0)) (me_var (pv 2))) (ma_cons (me_div (me_var (pv 1)) (me_var (pv 2))) ma_nil))))))
theorem sc_sum_of : FnScope ["one", "other"] (ps .sum_of) (defScope s_sum_of) := ⟨rfl, rfl, rfl, by decide +kernel, rfl, by decide +kernel, by decide +kernel⟩
theorem ok_sum_of {n : Nat} (T : Tx w K mg ad fd a_DICE A_Faces A_NoFaces A_NoNote A_NoWorth A_Tally) (IH : ∀ g, Good P w K mg base ad fd n g) : FnOk P w K mg base CX0 (n + 1) (ad .sum_of) (fd .sum_of) (ps .sum_of) (spM K (ar .sum_of) (callN (n + 1) .sum_of)) :=
  have S := sc_sum_of
  fn_ok (T.f .sum_of) sc_sum_of rfl fun cdv A outer s H E hr =>
  (mss_one (ms_ret (me_call (callN_len _ _) (IH .fraction) hr rfl (T.m .fraction rfl) (T.k .fraction) (T.b .fraction) (ma_cons (me_add (me_mul (me_item (me_var (pv 0)) me_int) (me_item (me_var (pv 1)) me_int)) (me_mul (me_item (me_var (pv 1)) me_int) (me_item (me_var (pv 0)) me_int))) (ma_cons (me_mul (me_item (me_var (pv 0)) me_int) (me_item (me_var (pv 1)) me_int)) ma_nil)))))
theorem sc_product : FnScope ["one", "other"] (ps .product) (defScope s_product) := ⟨rfl, rfl, rfl, by decide +kernel, rfl, by decide +kernel, by decide +kernel⟩
theorem ok_product {n : Nat} (T : Tx w K mg ad fd a_DICE A_Faces A_NoFaces A_NoNote A_NoWorth A_Tally) (IH : ∀ g, Good P w K mg base ad fd n g) : FnOk P w K mg base CX0 (n + 1) (ad .product) (fd .product) (ps .product) (spM K (ar .product) (callN (n + 1) .product)) :=
  have S := sc_product
  fn_ok (T.f .product) sc_product rfl fun cdv A outer s H E hr =>
  (mss_one (ms_ret (me_call (callN_len _ _) (IH .fraction) hr rfl (T.m .fraction rfl) (T.k .fraction) (T.b .fraction) (ma_cons (me_mul (me_item (me_var (pv 0)) me_int) (me_item (me_var (pv 1)) me_int)) (ma_cons (me_mul (me_item (me_var (pv 0)) me_int) (me_item (me_var (pv 1)) me_int)) ma_nil)))))
theorem sc_added : FnScope ["book", "worth", "share"] (ps .added) (defScope s_added) := ⟨rfl, rfl, rfl, by decide +kernel, rfl, by decide +kernel, by decide +kernel⟩
theorem ok_added {n : Nat} (T : Tx w K mg ad fd a_DICE A_Faces A_NoFaces A_NoNote A_NoWorth A_Tally) (IH : ∀ g, Good P w K mg base ad fd n g) : FnOk P w K mg base CX0 (n + 1) (ad .added) (fd .added) (ps .added) (spM K (ar .added) (callN (n + 1) .added)) :=
  have S := sc_added
  fn_ok (T.f .added) sc_added rfl fun cdv A outer s H E hr =>
  (mss_one (ms_dput (hu_of hr) (me_var (pv 0)) (me_var (pv 1)) (me_call (callN_len _ _) (IH .sum_of) hr rfl (T.m .sum_of rfl) (T.k .sum_of) (T.b .sum_of) (ma_cons (me_dget (hu_of hr) (me_var (pv 0)) (me_var (pv 1)) (me_tup (ma_cons me_int (ma_cons me_int ma_nil)))) (ma_cons (me_var (pv 2)) ma_nil)))))
theorem sc_put_together : FnScope ["one", "other", "word", "found", "mine", "yours"] (ps .put_together) (defScope s_put_together) := ⟨rfl, rfl, rfl, by decide +kernel, rfl, by decide +kernel, by decide +kernel⟩
theorem ok_put_together {n : Nat} (T : Tx w K mg ad fd a_DICE A_Faces A_NoFaces A_NoNote A_NoWorth A_Tally) (IH : ∀ g, Good P w K mg base ad fd n g) : FnOk P w K mg base CX0 (n + 1) (ad .put_together) (fd .put_together) (ps .put_together) (spM K (ar .put_together) (callN (n + 1) .put_together)) :=
  have S := sc_put_together
  fn_ok (T.f .put_together) sc_put_together rfl fun cdv A outer s H E hr =>
  (mss_cons (ms_set (i := 3) S.nd rfl (by first | exact Or.inl rfl | exact Or.inr rfl) (me_keepD md_newK)) (mss_cons (ms_lock (ma := (mVar 0)) (ms_for PassesOwn.never rfl (mi_dK (me_var (pv 0))) (mg_name (i := 4) S.nd rfl (by first | exact Or.inl rfl | exact Or.inr rfl)) (mss_one (ms_lock (ma := (mVar 1)) (ms_for PassesOwn.never rfl (mi_dK (me_var (pv 1))) (mg_name (i := 5) S.nd rfl (by first | exact Or.inl rfl | exact Or.inr rfl)) (mss_one (ms_expr (me_call (callN_len _ _) (IH .added) hr rfl (T.m .added rfl) (T.k .added) (T.b .added) (ma_cons (me_var (pv 3)) (ma_cons (me_call (callN_len _ _) (IH .of_two) hr rfl (T.m .of_two rfl) (T.k .of_two) (T.b .of_two) (ma_cons (me_var (pv 2)) (ma_cons (me_var (pv 4)) (ma_cons (me_var (pv 5)) ma_nil)))) (ma_cons (me_call (callN_len _ _) (IH .product) hr rfl (T.m .product rfl) (T.k .product) (T.b .product) (ma_cons (me_dat (hu_of hr) (me_var (pv 0)) (me_var (pv 4))) (ma_cons (me_dat (hu_of hr) (me_var (pv 1)) (me_var (pv 5))) ma_nil))) ma_nil))))))))))) (mss_one (ms_ret (me_var (pv 3))))))
theorem sc_of_two : FnScope ["word", "mine", "yours"] (ps .of_two) (defScope s_of_two) := ⟨rfl, rfl, rfl, by decide +kernel, rfl, by decide +kernel, by decide +kernel⟩
theorem ok_of_two {n : Nat} (T : Tx w K mg ad fd a_DICE A_Faces A_NoFaces A_NoNote A_NoWorth A_Tally) (IH : ∀ g, Good P w K mg base ad fd n g) : FnOk P w K mg base CX0 (n + 1) (ad .of_two) (fd .of_two) (ps .of_two) (spM K (ar .of_two) (callN (n + 1) .of_two)) :=
  have S := sc_of_two
  fn_ok (T.f .of_two) sc_of_two rfl fun cdv A outer s H E hr =>
  (mss_cons (ms_if (mt_cmp (op_eqA hr.units) opS_eq (me_var (pv 0)) me_str (nomark _)) (mss_one (ms_ret (me_add (me_var (pv 1)) (me_var (pv 2))))) mss_nil) (mss_cons (ms_if (mt_cmp (op_eqA hr.units) opS_eq (me_var (pv 0)) me_str (nomark _)) (mss_one (ms_ret (me_sub (me_var (pv 1)) (me_var (pv 2))))) mss_nil) (mss_cons (ms_if (mt_cmp (op_eqA hr.units) opS_eq (me_var (pv 0)) me_str (nomark _)) (mss_one (ms_ret (me_callB (call_max2 rfl) callS_max rfl T.b_max bt_max (ma_cons (me_var (pv 1)) (ma_cons (me_var (pv 2)) ma_nil))))) mss_nil) (mss_cons (ms_if (mt_cmp (op_eqA hr.units) opS_eq (me_var (pv 0)) me_str (nomark _)) (mss_one (ms_ret (me_callB (call_min2 rfl) callS_min rfl T.b_min bt_min (ma_cons (me_var (pv 1)) (ma_cons (me_var (pv 2)) ma_nil))))) mss_nil) (mss_one (ms_ret (me_callTy call_int1 callS_int rfl T.b_int bt_int (ma_cons (me_cmp op_gt opS_gt (me_var (pv 1)) (me_var (pv 2)) (nomark _)) ma_nil))))))))
theorem sc_one_die : FnScope ["word", "sides", "last", "found", "face", "more", "worth"] (ps .one_die) (defScope s_one_die) := ⟨rfl, rfl, rfl, by decide +kernel, rfl, by decide +kernel, by decide +kernel⟩
theorem ok_one_die {n : Nat} (T : Tx w K mg ad fd a_DICE A_Faces A_NoFaces A_NoNote A_NoWorth A_Tally) (IH : ∀ g, Good P w K mg base ad fd n g) : FnOk P w K mg base CX0 (n + 1) (ad .one_die) (fd .one_die) (ps .one_die) (spM K (ar .one_die) (callN (n + 1) .one_die)) :=
  have S := sc_one_die
  fn_ok (T.f .one_die) sc_one_die rfl fun cdv A outer s H E hr =>
  (mss_cons (ms_set (i := 3) S.nd rfl (by first | exact Or.inl rfl | exact Or.inr rfl) (me_keepD md_newK)) (mss_cons (ms_for PassesOwn.never rfl (mi_rng2 rfl T.b_range (ma_cons me_int (ma_cons (me_add (me_var (pv 1)) me_int) ma_nil))) (mg_name (i := 4) S.nd rfl (by first | exact Or.inl rfl | exact Or.inr rfl)) (mss_one (ms_if (mt_cmp (op_eqA hr.units) opS_eq (me_var (pv 0)) me_str (nomark _)) (mss_one (ms_expr (me_call (callN_len _ _) (IH .added) hr rfl (T.m .added rfl) (T.k .added) (T.b .added) (ma_cons (me_var (pv 3)) (ma_cons (me_callTy call_int1 callS_int rfl T.b_int bt_int (ma_cons (me_cmp op_ge opS_ge (me_var (pv 4)) (me_var (pv 2)) (nomark _)) ma_nil)) (ma_cons (me_tup (ma_cons me_int (ma_cons (me_var (pv 1)) ma_nil))) ma_nil)))))) (mss_one (ms_if (mt_w (mw_or (mt_w (mw_and (mt_cmp (op_eqA hr.units) opS_eq (me_var (pv 0)) me_str (nomark _)) (mw_and1 (mt_cmp op_le opS_le (me_var (pv 4)) (me_var (pv 2)) (nomark _))))) (mw_or1 (mt_w (mw_and (mt_cmp (op_eqA hr.units) opS_eq (me_var (pv 0)) me_str (nomark _)) (mw_and (mt_cmp (op_eqA hr.units) opS_eq (me_var (pv 4)) (me_var (pv 1)) (nomark _)) (mw_and1 (mt_cmp op_gt opS_gt (me_var (pv 2)) me_int (nomark _))))))))) (mss_cons (ms_set (i := 5) S.nd rfl (by first | exact Or.inl rfl | exact Or.inr rfl) (me_call (callN_len _ _) (IH .one_die) hr rfl (T.m .one_die rfl) (T.k .one_die) (T.b .one_die) (ma_cons (me_item (me_tup (ma_cons me_str (ma_cons me_str ma_nil))) (me_callTy call_int1 callS_int rfl T.b_int bt_int (ma_cons (me_cmp (op_eqA hr.units) opS_eq (me_var (pv 0)) me_str (nomark _)) ma_nil))) (ma_cons (me_var (pv 1)) (ma_cons (me_sub (me_var (pv 2)) me_int) ma_nil))))) (mss_one (ms_lock (ma := (mVar 5)) (ms_for PassesOwn.never rfl (mi_dK (me_var (pv 5))) (mg_name (i := 6) S.nd rfl (by first | exact Or.inl rfl | exact Or.inr rfl)) (mss_one (ms_expr (me_call (callN_len _ _) (IH .added) hr rfl (T.m .added rfl) (T.k .added) (T.b .added) (ma_cons (me_var (pv 3)) (ma_cons (me_add (me_var (pv 6)) (me_mul (me_var (pv 4)) (me_callTy call_int1 callS_int rfl T.b_int bt_int (ma_cons (me_cmp (op_eqA hr.units) opS_eq (me_var (pv 0)) me_str (nomark _)) ma_nil)))) (ma_cons (me_call (callN_len _ _) (IH .product) hr rfl (T.m .product rfl) (T.k .product) (T.b .product) (ma_cons (me_dat (hu_of hr) (me_var (pv 5)) (me_var (pv 6))) (ma_cons (me_tup (ma_cons me_int (ma_cons (me_var (pv 1)) ma_nil))) ma_nil))) ma_nil)))))))))) (mss_one (ms_expr (me_call (callN_len _ _) (IH .added) hr rfl (T.m .added rfl) (T.k .added) (T.b .added) (ma_cons (me_var (pv 3)) (ma_cons (me_var (pv 4)) (ma_cons (me_tup (ma_cons me_int (ma_cons (me_var (pv 1)) ma_nil))) ma_nil))))))))))) (mss_one (ms_ret (me_var (pv 3))))))
theorem sc_kept_shares : FnScope ["word", "many", "sides", "kept", "rows", "turn", "longer", "row", "face", "found", "some"] (ps .kept_shares) (defScope s_kept_shares) := ⟨rfl, rfl, rfl, by decide +kernel, rfl, by decide +kernel, by decide +kernel⟩
theorem ok_kept_shares {n : Nat} (T : Tx w K mg ad fd a_DICE A_Faces A_NoFaces A_NoNote A_NoWorth A_Tally) (IH : ∀ g, Good P w K mg base ad fd n g) : FnOk P w K mg base CX0 (n + 1) (ad .kept_shares) (fd .kept_shares) (ps .kept_shares) (spM K (ar .kept_shares) (callN (n + 1) .kept_shares)) :=
  have S := sc_kept_shares
  fn_ok (T.f .kept_shares) sc_kept_shares rfl fun cdv A outer s H E hr =>
  (mss_cons (ms_set (i := 4) S.nd rfl (by first | exact Or.inl rfl | exact Or.inr rfl) (me_keepT (md_disp1T (hu_of hr) (me_tup ma_nil) (me_tup (ma_cons me_int (ma_cons me_int ma_nil)))))) (mss_cons (ms_for PassesOwn.never rfl (mi_rng1 rfl T.b_range (ma_cons (me_var (pv 1)) ma_nil)) (mg_name (i := 5) S.nd rfl (by first | exact Or.inl rfl | exact Or.inr rfl)) (mss_cons (ms_set (i := 6) S.nd rfl (by first | exact Or.inl rfl | exact Or.inr rfl) (me_keepT md_newT)) (mss_cons (ms_lock (ma := (mVar 4)) (ms_for PassesOwn.never rfl (mi_dT (me_var (pv 4))) (mg_name (i := 7) S.nd rfl (by first | exact Or.inl rfl | exact Or.inr rfl)) (mss_one (ms_for PassesOwn.never rfl (mi_rng2 rfl T.b_range (ma_cons me_int (ma_cons (me_add (me_var (pv 2)) me_int) ma_nil))) (mg_name (i := 8) S.nd rfl (by first | exact Or.inl rfl | exact Or.inr rfl)) (mss_one (ms_expr (me_call (callN_len _ _) (IH .added) hr rfl (T.m .added rfl) (T.k .added) (T.b .added) (ma_cons (me_var (pv 6)) (ma_cons (mq_callTy call_tuple_of qs_tup rfl T.b_tuple bt_tuple (mq_new (ml_sortedT rfl T.b_sorted (me_add (me_var (pv 7)) (me_tup (ma_cons (me_var (pv 8)) ma_nil)))))) (ma_cons (me_call (callN_len _ _) (IH .product) hr rfl (T.m .product rfl) (T.k .product) (T.b .product) (ma_cons (me_dat (hu_of hr) (me_var (pv 4)) (me_var (pv 7))) (ma_cons (me_tup (ma_cons me_int (ma_cons (me_var (pv 2)) ma_nil))) ma_nil))) ma_nil)))))))))) (mss_one (ms_set (i := 4) S.nd rfl (by first | exact Or.inl rfl | exact Or.inr rfl) (me_var (pv 6))))))) (mss_cons (ms_set (i := 9) S.nd rfl (by first | exact Or.inl rfl | exact Or.inr rfl) (me_keepD md_newK)) (mss_cons (ms_lock (ma := (mVar 4)) (ms_for PassesOwn.never rfl (mi_dT (me_var (pv 4))) (mg_name (i := 7) S.nd rfl (by first | exact Or.inl rfl | exact Or.inr rfl)) (mss_cons (ms_set (i := 10) S.nd rfl (by first | exact Or.inl rfl | exact Or.inr rfl) (me_slice (me_var (pv 7)) mo_none (mo_some (me_var (pv 3))))) (mss_cons (ms_if (mt_cmp (op_eqA hr.units) opS_eq (me_var (pv 0)) me_str (nomark _)) (mss_one (ms_set (i := 10) S.nd rfl (by first | exact Or.inl rfl | exact Or.inr rfl) (me_slice (me_var (pv 7)) (mo_some (me_sub (me_var (pv 1)) (me_var (pv 3)))) mo_none))) mss_nil) (mss_one (ms_expr (me_call (callN_len _ _) (IH .added) hr rfl (T.m .added rfl) (T.k .added) (T.b .added) (ma_cons (me_var (pv 9)) (ma_cons (me_sumT rfl T.b_sum rfl (me_var (pv 10))) (ma_cons (me_dat (hu_of hr) (me_var (pv 4)) (me_var (pv 7))) ma_nil)))))))))) (mss_one (ms_ret (me_var (pv 9))))))))
theorem sc_book_of : FnScope ["saying", "word", "die", "found", "turn", "book", "worth"] (ps .book_of) (defScope s_book_of) := ⟨rfl, rfl, rfl, by decide +kernel, rfl, by decide +kernel, by decide +kernel⟩
theorem ok_book_of {n : Nat} (T : Tx w K mg ad fd a_DICE A_Faces A_NoFaces A_NoNote A_NoWorth A_Tally) (IH : ∀ g, Good P w K mg base ad fd n g) : FnOk P w K mg base CX0 (n + 1) (ad .book_of) (fd .book_of) (ps .book_of) (spM K (ar .book_of) (callN (n + 1) .book_of)) :=
  have S := sc_book_of
  fn_ok (T.f .book_of) sc_book_of rfl fun cdv A outer s H E hr =>
  (mss_cons (ms_set (i := 1) S.nd rfl (by first | exact Or.inl rfl | exact Or.inr rfl) (me_item (me_var (pv 0)) me_int)) (mss_cons (ms_if (mt_cmp (op_eqA hr.units) opS_eq (me_var (pv 1)) me_str (nomark _)) (mss_one (ms_ret (me_keepD (md_disp (mps_cons (me_item (me_var (pv 0)) me_int) (me_tup (ma_cons me_int (ma_cons me_int ma_nil))) mps_nil))))) mss_nil) (mss_cons (ms_if (mt_cmp op_in_seq opS_in (me_var (pv 1)) (me_tup (ma_cons me_str (ma_cons me_str ma_nil))) (by rfl)) (mss_one (ms_ret (me_call (callN_len _ _) (IH .kept_shares) hr rfl (T.m .kept_shares rfl) (T.k .kept_shares) (T.b .kept_shares) (ma_cons (me_var (pv 1)) (ma_cons (me_item (me_var (pv 0)) me_int) (ma_cons (me_item (me_var (pv 0)) me_int) (ma_cons (me_item (me_var (pv 0)) me_int) ma_nil))))))) mss_nil) (mss_cons (ms_if (mt_cmp op_in_seq opS_in (me_var (pv 1)) (me_glob (pe_glob (v := .ref a_DICE) rfl T.g_DICE rfl) T.r_DICE) (by rfl)) (mss_cons (ms_set (i := 2) S.nd rfl (by first | exact Or.inl rfl | exact Or.inr rfl) (me_call (callN_len _ _) (IH .one_die) hr rfl (T.m .one_die rfl) (T.k .one_die) (T.b .one_die) (ma_cons (me_var (pv 1)) (ma_cons (me_item (me_var (pv 0)) me_int) (ma_cons (me_item (me_add (me_var (pv 0)) (me_tup (ma_cons me_int ma_nil))) me_int) ma_nil))))) (mss_cons (ms_set (i := 3) S.nd rfl (by first | exact Or.inl rfl | exact Or.inr rfl) (me_keepD (md_disp (mps_cons me_int (me_tup (ma_cons me_int (ma_cons me_int ma_nil))) mps_nil)))) (mss_cons (ms_for PassesOwn.never rfl (mi_rng1 rfl T.b_range (ma_cons (me_item (me_var (pv 0)) me_int) ma_nil)) (mg_name (i := 4) S.nd rfl (by first | exact Or.inl rfl | exact Or.inr rfl)) (mss_one (ms_set (i := 3) S.nd rfl (by first | exact Or.inl rfl | exact Or.inr rfl) (me_call (callN_len _ _) (IH .put_together) hr rfl (T.m .put_together rfl) (T.k .put_together) (T.b .put_together) (ma_cons (me_var (pv 3)) (ma_cons (me_var (pv 2)) (ma_cons me_str ma_nil))))))) (mss_one (ms_ret (me_var (pv 3))))))) mss_nil) (mss_cons (ms_if (mt_cmp (op_eqA hr.units) opS_eq (me_var (pv 1)) me_str (nomark _)) (mss_cons (ms_set (i := 3) S.nd rfl (by first | exact Or.inl rfl | exact Or.inr rfl) (me_keepD md_newK)) (mss_cons (ms_set (i := 5) S.nd rfl (by first | exact Or.inl rfl | exact Or.inr rfl) (me_call (callN_len _ _) (IH .book_of) hr rfl (T.m .book_of rfl) (T.k .book_of) (T.b .book_of) (ma_cons (me_item (me_var (pv 0)) me_int) ma_nil))) (mss_cons (ms_lock (ma := (mVar 5)) (ms_for PassesOwn.never rfl (mi_dK (me_var (pv 5))) (mg_name (i := 6) S.nd rfl (by first | exact Or.inl rfl | exact Or.inr rfl)) (mss_one (ms_expr (me_call (callN_len _ _) (IH .added) hr rfl (T.m .added rfl) (T.k .added) (T.b .added) (ma_cons (me_var (pv 3)) (ma_cons (me_mul (me_var (pv 6)) (me_item (me_var (pv 0)) me_int)) (ma_cons (me_dat (hu_of hr) (me_var (pv 5)) (me_var (pv 6))) ma_nil)))))))) (mss_one (ms_ret (me_var (pv 3))))))) mss_nil) (mss_one (ms_ret (me_call (callN_len _ _) (IH .put_together) hr rfl (T.m .put_together rfl) (T.k .put_together) (T.b .put_together) (ma_cons (me_call (callN_len _ _) (IH .book_of) hr rfl (T.m .book_of rfl) (T.k .book_of) (T.b .book_of) (ma_cons (me_item (me_var (pv 0)) me_int) ma_nil)) (ma_cons (me_call (callN_len _ _) (IH .book_of) hr rfl (T.m .book_of rfl) (T.k .book_of) (T.b .book_of) (ma_cons (me_item (me_var (pv 0)) me_int) ma_nil)) (ma_cons (me_var (pv 1)) ma_nil)))))))))))
theorem sc_shares : FnScope ["saying", "book", "worth"] (ps .shares) (defScope s_shares) := ⟨rfl, rfl, rfl, by decide +kernel, rfl, by decide +kernel, by decide +kernel⟩
theorem ok_shares {n : Nat} (T : Tx w K mg ad fd a_DICE A_Faces A_NoFaces A_NoNote A_NoWorth A_Tally) (IH : ∀ g, Good P w K mg base ad fd n g) : FnOk P w K mg base CX0 (n + 1) (ad .shares) (fd .shares) (ps .shares) (spM K (ar .shares) (callN (n + 1) .shares)) :=
  have S := sc_shares
  fn_ok (T.f .shares) sc_shares rfl fun cdv A outer s H E hr =>
  (mss_cons (ms_set (i := 1) S.nd rfl (by first | exact Or.inl rfl | exact Or.inr rfl) (me_call (callN_len _ _) (IH .book_of) hr rfl (T.m .book_of rfl) (T.k .book_of) (T.b .book_of) (ma_cons (me_var (pv 0)) ma_nil))) (mss_one (ms_ret (mq_callTy call_tuple_of qs_tup rfl T.b_tuple bt_tuple (mq_new (ml_lc rfl S.nd (own := [("worth", 2)]) (mi_new (ml_sortedD rfl T.b_sorted rfl (me_var (pv 1)))) (blkOk_by (own := [("worth", 2)]) (N := ["saying", "book", "worth"]) (sc := defScope s_shares) (by decide +kernel)) (by decide) (fun _ _ _ _ _ => (mg_name (i := 2) S.nd rfl (by first | exact Or.inl rfl | exact Or.inr rfl))) (fun _ _ _ _ _ => mts_nil) (fun _ _ _ _ _ => (me_tup (ma_cons (me_var (pv 2)) (ma_cons (me_dat (hu_of hr) (me_var (pv 1)) (me_var (pv 2))) ma_nil))))))))))
theorem sc_share_of : FnScope ["saying", "worth"] (ps .share_of) (defScope s_share_of) := ⟨rfl, rfl, rfl, by decide +kernel, rfl, by decide +kernel, by decide +kernel⟩
theorem ok_share_of {n : Nat} (T : Tx w K mg ad fd a_DICE A_Faces A_NoFaces A_NoNote A_NoWorth A_Tally) (IH : ∀ g, Good P w K mg base ad fd n g) : FnOk P w K mg base CX0 (n + 1) (ad .share_of) (fd .share_of) (ps .share_of) (spM K (ar .share_of) (callN (n + 1) .share_of)) :=
  have S := sc_share_of
  fn_ok (T.f .share_of) sc_share_of rfl fun cdv A outer s H E hr =>
  (mss_one (ms_ret (me_dget (hu_of hr) (me_call (callN_len _ _) (IH .book_of) hr rfl (T.m .book_of rfl) (T.k .book_of) (T.b .book_of) (ma_cons (me_var (pv 0)) ma_nil)) (me_var (pv 1)) (me_tup (ma_cons me_int (ma_cons me_int ma_nil))))))
theorem sc_Tally_note : FnScope ["self", "worth"] (ps .Tally_note) (defScope s_Tally_note) := ⟨rfl, rfl, rfl, by decide +kernel, rfl, by decide +kernel, by decide +kernel⟩
theorem ok_Tally_note {n : Nat} (T : Tx w K mg ad fd a_DICE A_Faces A_NoFaces A_NoNote A_NoWorth A_Tally) (IH : ∀ g, Good P w K mg base ad fd n g) : FnOk P w K mg base (L2.CX P w) (n + 1) (ad .Tally_note) (fd .Tally_note) (ps .Tally_note) (spX K (ar .Tally_note) (callN (n + 1) .Tally_note)) :=
  have S := sc_Tally_note
  fn_okX (T.f .Tally_note) sc_Tally_note rfl fun cdv A outer s H E W hr tk =>
  (mss_cons (ms_if (mt_cmp (op_eqA hr.units) opS_eq (me_call (callN_len _ _) (IH .share_of) hr rfl (T.m .share_of rfl) (T.k .share_of) (T.b .share_of) (ma_cons (me_fld T.c_Tally T.C_Tally T.n_Tally_said (me_var (pv 0))) (ma_cons (me_var (pv 1)) ma_nil))) (me_tup (ma_cons me_int (ma_cons me_int ma_nil))) (nomark _)) (mss_one (ms_raise rfl tk PySem.F.excBase_ValueError T.x_NoWorth T.g_NoWorth T.c_NoWorth T.k_NoWorth T.s_NoWorth T.y_NoWorth rfl)) mss_nil) (mss_one (ms_expr (me_append (me_fld T.c_Tally T.C_Tally T.n_Tally_fell (me_var (pv 0))) (me_var (pv 1))))))
theorem sc_Tally_many : FnScope ["self"] (ps .Tally_many) (defScope s_Tally_many) := ⟨rfl, rfl, rfl, by decide +kernel, rfl, by decide +kernel, by decide +kernel⟩
theorem ok_Tally_many {n : Nat} (T : Tx w K mg ad fd a_DICE A_Faces A_NoFaces A_NoNote A_NoWorth A_Tally) (IH : ∀ g, Good P w K mg base ad fd n g) : FnOk P w K mg base CX0 (n + 1) (ad .Tally_many) (fd .Tally_many) (ps .Tally_many) (spM K (ar .Tally_many) (callN (n + 1) .Tally_many)) :=
  have S := sc_Tally_many
  fn_ok (T.f .Tally_many) sc_Tally_many rfl fun cdv A outer s H E hr =>
  (mss_one (ms_ret (me_callB call_len callS_len rfl T.b_len bt_len (ma_cons (me_fld T.c_Tally T.C_Tally T.n_Tally_fell (me_var (pv 0))) ma_nil))))
theorem sc_Tally_counts : FnScope ["self", "worth"] (ps .Tally_counts) (defScope s_Tally_counts) := ⟨rfl, rfl, rfl, by decide +kernel, rfl, by decide +kernel, by decide +kernel⟩
theorem ok_Tally_counts {n : Nat} (T : Tx w K mg ad fd a_DICE A_Faces A_NoFaces A_NoNote A_NoWorth A_Tally) (IH : ∀ g, Good P w K mg base ad fd n g) : FnOk P w K mg base CX0 (n + 1) (ad .Tally_counts) (fd .Tally_counts) (ps .Tally_counts) (spM K (ar .Tally_counts) (callN (n + 1) .Tally_counts)) :=
  have S := sc_Tally_counts
  fn_ok (T.f .Tally_counts) sc_Tally_counts rfl fun cdv A outer s H E hr =>
  (mss_one (ms_ret (mq_callTy call_tuple_of qs_tup rfl T.b_tuple bt_tuple (mq_new (ml_lc rfl S.nd (own := [("worth", 1)]) (mi_new (ml_srtSet rfl T.b_sorted rfl T.b_set (mq_ref (me_fld T.c_Tally T.C_Tally T.n_Tally_fell (me_var (pv 0)))))) (blkOk_by (own := [("worth", 1)]) (N := ["self", "worth"]) (sc := defScope s_Tally_counts) (by decide +kernel)) (by decide) (fun _ _ _ _ _ => (mg_name (i := 1) S.nd rfl (by first | exact Or.inl rfl | exact Or.inr rfl))) (fun _ _ _ _ _ => mts_nil) (fun _ _ _ _ _ => (me_tup (ma_cons (me_var (pv 1)) (ma_cons (me_cnt (me_fld T.c_Tally T.C_Tally T.n_Tally_fell (me_var (pv 0))) (me_var (pv 1))) ma_nil)))))))))
theorem sc_Tally_due : FnScope ["self", "worth", "share"] (ps .Tally_due) (defScope s_Tally_due) := ⟨rfl, rfl, rfl, by decide +kernel, rfl, by decide +kernel, by decide +kernel⟩
theorem ok_Tally_due {n : Nat} (T : Tx w K mg ad fd a_DICE A_Faces A_NoFaces A_NoNote A_NoWorth A_Tally) (IH : ∀ g, Good P w K mg base ad fd n g) : FnOk P w K mg base CX0 (n + 1) (ad .Tally_due) (fd .Tally_due) (ps .Tally_due) (spM K (ar .Tally_due) (callN (n + 1) .Tally_due)) :=
  have S := sc_Tally_due
  fn_ok (T.f .Tally_due) sc_Tally_due rfl fun cdv A outer s H E hr =>
  (mss_one (ms_ret (mq_callTy call_tuple_of qs_tup rfl T.b_tuple bt_tuple (mq_new (ml_lc rfl S.nd (own := [("worth", 1), ("share", 2)]) (mi_tup (me_call (callN_len _ _) (IH .shares) hr rfl (T.m .shares rfl) (T.k .shares) (T.b .shares) (ma_cons (me_fld T.c_Tally T.C_Tally T.n_Tally_said (me_var (pv 0))) ma_nil))) (blkOk_by (own := [("worth", 1), ("share", 2)]) (N := ["self", "worth", "share"]) (sc := defScope s_Tally_due) (by decide +kernel)) (by decide) (fun _ _ _ _ _ => (mg_tup rfl (mgs_cons (mg_name (i := 1) S.nd rfl (by first | exact Or.inl rfl | exact Or.inr rfl)) (mgs_cons (mg_name (i := 2) S.nd rfl (by first | exact Or.inl rfl | exact Or.inr rfl)) mgs_nil)))) (fun _ _ _ _ _ => mts_nil) (fun _ _ _ _ _ => (me_tup (ma_cons (me_var (pv 1)) (ma_cons (me_call (callN_len _ _) (IH .product) hr rfl (T.m .product rfl) (T.k .product) (T.b .product) (ma_cons (me_var (pv 2)) (ma_cons (me_call (callN_len _ _) (IH .fraction) hr rfl (T.m .fraction rfl) (T.k .fraction) (T.b .fraction) (ma_cons (me_callB call_len callS_len rfl T.b_len bt_len (ma_cons (me_fld T.c_Tally T.C_Tally T.n_Tally_fell (me_var (pv 0))) ma_nil)) (ma_cons me_int ma_nil))) ma_nil))) ma_nil)))))))))
theorem sc_Tally_lacking : FnScope ["self", "worth", "share"] (ps .Tally_lacking) (defScope s_Tally_lacking) := ⟨rfl, rfl, rfl, by decide +kernel, rfl, by decide +kernel, by decide +kernel⟩
theorem ok_Tally_lacking {n : Nat} (T : Tx w K mg ad fd a_DICE A_Faces A_NoFaces A_NoNote A_NoWorth A_Tally) (IH : ∀ g, Good P w K mg base ad fd n g) : FnOk P w K mg base CX0 (n + 1) (ad .Tally_lacking) (fd .Tally_lacking) (ps .Tally_lacking) (spM K (ar .Tally_lacking) (callN (n + 1) .Tally_lacking)) :=
  have S := sc_Tally_lacking
  fn_ok (T.f .Tally_lacking) sc_Tally_lacking rfl fun cdv A outer s H E hr =>
  (mss_one (ms_ret (mq_callTy call_tuple_of qs_tup rfl T.b_tuple bt_tuple (mq_new (ml_lc rfl S.nd (own := [("worth", 1), ("share", 2)]) (mi_tup (me_call (callN_len _ _) (IH .shares) hr rfl (T.m .shares rfl) (T.k .shares) (T.b .shares) (ma_cons (me_fld T.c_Tally T.C_Tally T.n_Tally_said (me_var (pv 0))) ma_nil))) (blkOk_by (own := [("worth", 1), ("share", 2)]) (N := ["self", "worth", "share"]) (sc := defScope s_Tally_lacking) (by decide +kernel)) (by decide) (fun _ _ _ _ _ => (mg_tup rfl (mgs_cons (mg_name (i := 1) S.nd rfl (by first | exact Or.inl rfl | exact Or.inr rfl)) (mgs_cons (mg_name (i := 2) S.nd rfl (by first | exact Or.inl rfl | exact Or.inr rfl)) mgs_nil)))) (fun _ _ _ _ _ => (mts_one (mt_ninL (u65 hr) (me_var (pv 1)) (mx_ref (me_fld T.c_Tally T.C_Tally T.n_Tally_fell (me_var (pv 0))))))) (fun _ _ _ _ _ => (me_var (pv 1))))))))
theorem sc_Tally_undo : FnScope ["self"] (ps .Tally_undo) (defScope s_Tally_undo) := ⟨rfl, rfl, rfl, by decide +kernel, rfl, by decide +kernel, by decide +kernel⟩
theorem ok_Tally_undo {n : Nat} (T : Tx w K mg ad fd a_DICE A_Faces A_NoFaces A_NoNote A_NoWorth A_Tally) (IH : ∀ g, Good P w K mg base ad fd n g) : FnOk P w K mg base (L2.CX P w) (n + 1) (ad .Tally_undo) (fd .Tally_undo) (ps .Tally_undo) (spX K (ar .Tally_undo) (callN (n + 1) .Tally_undo)) :=
  have S := sc_Tally_undo
  fn_okX (T.f .Tally_undo) sc_Tally_undo rfl fun cdv A outer s H E W hr tk =>
  (mss_cons (ms_if (mt_not (mt_tru (me_fld T.c_Tally T.C_Tally T.n_Tally_fell (me_var (pv 0))))) (mss_one (ms_raise rfl tk PySem.F.excBase_ValueError T.x_NoNote T.g_NoNote T.c_NoNote T.k_NoNote T.s_NoNote T.y_NoNote rfl)) mss_nil) (mss_one (ms_expr (me_pop (me_fld T.c_Tally T.C_Tally T.n_Tally_fell (me_var (pv 0)))))))
theorem sc_Faces_take : FnScope ["self", "sides"] (ps .Faces_take) (defScope s_Faces_take) := ⟨rfl, rfl, rfl, by decide +kernel, rfl, by decide +kernel, by decide +kernel⟩
theorem ok_Faces_take {n : Nat} (T : Tx w K mg ad fd a_DICE A_Faces A_NoFaces A_NoNote A_NoWorth A_Tally) (IH : ∀ g, Good P w K mg base ad fd n g) : FnOk P w K mg base (L2.CX P w) (n + 1) (ad .Faces_take) (fd .Faces_take) (ps .Faces_take) (spX K (ar .Faces_take) (callN (n + 1) .Faces_take)) :=
  have S := sc_Faces_take
  fn_okX (T.f .Faces_take) sc_Faces_take rfl fun cdv A outer s H E W hr tk =>
  (mss_cons (ms_if (mt_w (mw_or (mt_cmp (op_eqA hr.units) opS_eq (me_fld T.c_Faces T.C_Faces T.n_Faces_count (me_var (pv 0))) (me_callB call_len callS_len rfl T.b_len bt_len (ma_cons (me_fld T.c_Faces T.C_Faces T.n_Faces_row (me_var (pv 0))) ma_nil)) (nomark _)) (mw_or1 (mt_not (mt_chain op_le opS_le op_le opS_le me_int (me_item (me_fld T.c_Faces T.C_Faces T.n_Faces_row (me_var (pv 0))) (me_fld T.c_Faces T.C_Faces T.n_Faces_count (me_var (pv 0)))) (me_var (pv 1))))))) (mss_one (ms_raise rfl tk PySem.F.excBase_ValueError T.x_NoFaces T.g_NoFaces T.c_NoFaces T.k_NoFaces T.s_NoFaces T.y_NoFaces rfl)) mss_nil) (mss_cons (ms_fld T.c_Faces T.C_Faces T.n_Faces_count (me_var (pv 0)) (me_add (me_fld T.c_Faces T.C_Faces T.n_Faces_count (me_var (pv 0))) me_int)) (mss_cons (ms_fld T.c_Faces T.C_Faces T.n_Faces_of (me_var (pv 0)) (me_mul (me_fld T.c_Faces T.C_Faces T.n_Faces_of (me_var (pv 0))) (me_var (pv 1)))) (mss_one (ms_ret (me_item (me_fld T.c_Faces T.C_Faces T.n_Faces_row (me_var (pv 0))) (me_sub (me_fld T.c_Faces T.C_Faces T.n_Faces_count (me_var (pv 0))) me_int)))))))
theorem sc_die_worth : FnScope ["faces", "saying", "word", "many", "sides", "face", "total", "turn"] (ps .die_worth) (defScope s_die_worth) := ⟨rfl, rfl, rfl, by decide +kernel, rfl, by decide +kernel, by decide +kernel⟩
theorem ok_die_worth {n : Nat} (T : Tx w K mg ad fd a_DICE A_Faces A_NoFaces A_NoNote A_NoWorth A_Tally) (IH : ∀ g, Good P w K mg base ad fd n g) : FnOk P w K mg base (L2.CX P w) (n + 1) (ad .die_worth) (fd .die_worth) (ps .die_worth) (spX K (ar .die_worth) (callN (n + 1) .die_worth)) :=
  have S := sc_die_worth
  fn_okX (T.f .die_worth) sc_die_worth rfl fun cdv A outer s H E W hr tk =>
  (mss_cons (ms_asg (me_slice (me_var (pv 1)) mo_none (mo_some me_int)) (mg_tup rfl (mgs_cons (mg_name (i := 2) S.nd rfl (by first | exact Or.inl rfl | exact Or.inr rfl)) (mgs_cons (mg_name (i := 3) S.nd rfl (by first | exact Or.inl rfl | exact Or.inr rfl)) (mgs_cons (mg_name (i := 4) S.nd rfl (by first | exact Or.inl rfl | exact Or.inr rfl)) mgs_nil))))) (mss_cons (ms_set (i := 5) S.nd rfl (by first | exact Or.inl rfl | exact Or.inr rfl) (me_methX tk T.c_Faces T.C_Faces T.h_Faces_take (callN_ne _ _) (IH .Faces_take) hr (T.b .Faces_take) (me_var (pv 0)) (ma_cons (me_var (pv 4)) ma_nil))) (mss_cons (ms_if (mt_w (mw_and (mt_cmp (op_eqA hr.units) opS_eq (me_var (pv 2)) me_str (nomark _)) (mw_and1 (mt_cmp op_le opS_le (me_var (pv 5)) (me_item (me_var (pv 1)) me_int) (nomark _))))) (mss_one (ms_ret (me_methX tk T.c_Faces T.C_Faces T.h_Faces_take (callN_ne _ _) (IH .Faces_take) hr (T.b .Faces_take) (me_var (pv 0)) (ma_cons (me_var (pv 4)) ma_nil)))) mss_nil) (mss_cons (ms_if (mt_cmp (op_eqA hr.units) opS_eq (me_var (pv 2)) me_str (nomark _)) (mss_one (ms_ret (me_callTy call_int1 callS_int rfl T.b_int bt_int (ma_cons (me_cmp op_ge opS_ge (me_var (pv 5)) (me_item (me_var (pv 1)) me_int) (nomark _)) ma_nil)))) mss_nil) (mss_cons (ms_if (mt_cmp (op_eqA hr.units) opS_eq (me_var (pv 2)) me_str (nomark _)) (mss_cons (ms_set (i := 6) S.nd rfl (by first | exact Or.inl rfl | exact Or.inr rfl) (me_var (pv 5))) (mss_cons (ms_for (passes_of rfl) rfl (mi_rng1 rfl T.b_range (ma_cons (me_item (me_var (pv 1)) me_int) ma_nil)) (mg_name (i := 7) S.nd rfl (by first | exact Or.inl rfl | exact Or.inr rfl)) (mss_one (ms_if (mt_cmp (op_eqA hr.units) opS_eq (me_var (pv 5)) (me_var (pv 4)) (nomark _)) (mss_cons (ms_set (i := 5) S.nd rfl (by first | exact Or.inl rfl | exact Or.inr rfl) (me_methX tk T.c_Faces T.C_Faces T.h_Faces_take (callN_ne _ _) (IH .Faces_take) hr (T.b .Faces_take) (me_var (pv 0)) (ma_cons (me_var (pv 4)) ma_nil))) (mss_one (ms_set (i := 6) S.nd rfl (by first | exact Or.inl rfl | exact Or.inr rfl) (me_add (me_var (pv 6)) (me_var (pv 5)))))) mss_nil))) (mss_one (ms_ret (me_var (pv 6)))))) mss_nil) (mss_one (ms_ret (me_var (pv 5)))))))))
theorem sc_worth_of : FnScope ["faces", "saying", "word", "some", "mine", "turn"] (ps .worth_of) (defScope s_worth_of) := ⟨rfl, rfl, rfl, by decide +kernel, rfl, by decide +kernel, by decide +kernel⟩
theorem ok_worth_of {n : Nat} (T : Tx w K mg ad fd a_DICE A_Faces A_NoFaces A_NoNote A_NoWorth A_Tally) (IH : ∀ g, Good P w K mg base ad fd n g) : FnOk P w K mg base (L2.CX P w) (n + 1) (ad .worth_of) (fd .worth_of) (ps .worth_of) (spX K (ar .worth_of) (callN (n + 1) .worth_of)) :=
  have S := sc_worth_of
  fn_okXi (T.f .worth_of) sc_worth_of rfl fun cdv A outer s H E W hr tk hW =>
  (mss_cons (ms_set (i := 2) S.nd rfl (by first | exact Or.inl rfl | exact Or.inr rfl) (me_item (me_var (pv 1)) me_int)) (mss_cons (ms_if (mt_cmp (op_eqA hr.units) opS_eq (me_var (pv 2)) me_str (nomark _)) (mss_one (ms_ret (me_item (me_var (pv 1)) me_int))) mss_nil) (mss_cons (ms_if (mt_cmp op_in_seq opS_in (me_var (pv 2)) (me_glob (pe_glob (v := .ref a_DICE) rfl T.g_DICE rfl) T.r_DICE) (by rfl)) (mss_cons (ms_set (i := 3) S.nd rfl (by first | exact Or.inl rfl | exact Or.inr rfl) (me_keep (mq_callB cr_sortedI qs_sorted rfl T.b_sorted bt_sorted (mq_new (ml_lcX rfl S.nd rfl rfl tk hW (own := [("turn", 5)]) (mi_rng1 rfl T.b_range (ma_cons (me_item (me_var (pv 1)) me_int) ma_nil)) (blkOk_by (own := [("turn", 5)]) (N := ["faces", "saying", "word", "some", "mine", "turn"]) (sc := defScope s_worth_of) (by decide +kernel)) (by decide) (fun _ _ _ _ _ _ => (mg_name (i := 5) S.nd rfl (by first | exact Or.inl rfl | exact Or.inr rfl))) (fun _ _ _ _ _ _ => mts_nil) (fun _ _ _ _ _ _ hx => (me_callXp hx (callN_ne _ _) (IH .die_worth) hr rfl (T.m .die_worth rfl) (T.k .die_worth) (T.b .die_worth) (ma_cons (me_var (pv 0)) (ma_cons (me_var (pv 1)) ma_nil))))))))) (mss_cons (ms_if (mt_cmp (op_eqA hr.units) opS_eq (me_var (pv 2)) me_str (nomark _)) (mss_one (ms_set (i := 3) S.nd rfl (by first | exact Or.inl rfl | exact Or.inr rfl) (me_keep (ml_slice (mx_ref (me_var (pv 3))) (mo_some (me_sub (me_item (me_var (pv 1)) me_int) (me_item (me_var (pv 1)) me_int))) mo_none)))) mss_nil) (mss_cons (ms_if (mt_cmp (op_eqA hr.units) opS_eq (me_var (pv 2)) me_str (nomark _)) (mss_one (ms_set (i := 3) S.nd rfl (by first | exact Or.inl rfl | exact Or.inr rfl) (me_keep (ml_slice (mx_ref (me_var (pv 3))) mo_none (mo_some (me_item (me_var (pv 1)) me_int)))))) mss_nil) (mss_one (ms_ret (mq_callB (cr_sum rfl) qs_sum rfl T.b_sum bt_sum (mq_ref (me_var (pv 3))))))))) mss_nil) (mss_cons (ms_if (mt_cmp (op_eqA hr.units) opS_eq (me_var (pv 2)) me_str (nomark _)) (mss_one (ms_ret (me_mul (me_item (me_var (pv 1)) me_int) (me_callX tk (callN_ne _ _) (IH .worth_of) hr rfl (T.m .worth_of rfl) (T.k .worth_of) (T.b .worth_of) (ma_cons (me_var (pv 0)) (ma_cons (me_item (me_var (pv 1)) me_int) ma_nil)))))) mss_nil) (mss_cons (ms_set (i := 4) S.nd rfl (by first | exact Or.inl rfl | exact Or.inr rfl) (me_callX tk (callN_ne _ _) (IH .worth_of) hr rfl (T.m .worth_of rfl) (T.k .worth_of) (T.b .worth_of) (ma_cons (me_var (pv 0)) (ma_cons (me_item (me_var (pv 1)) me_int) ma_nil)))) (mss_one (ms_ret (me_call (callN_len _ _) (IH .of_two) hr rfl (T.m .of_two rfl) (T.k .of_two) (T.b .of_two) (ma_cons (me_var (pv 2)) (ma_cons (me_var (pv 4)) (ma_cons (me_callX tk (callN_ne _ _) (IH .worth_of) hr rfl (T.m .worth_of rfl) (T.k .worth_of) (T.b .worth_of) (ma_cons (me_var (pv 0)) (ma_cons (me_item (me_var (pv 1)) me_int) ma_nil))) ma_nil)))))))))))
theorem sc_read_faces : FnScope ["saying", "row", "faces", "worth"] (ps .read_faces) (defScope s_read_faces) := ⟨rfl, rfl, rfl, by decide +kernel, rfl, by decide +kernel, by decide +kernel⟩
theorem ok_read_faces {n : Nat} (T : Tx w K mg ad fd a_DICE A_Faces A_NoFaces A_NoNote A_NoWorth A_Tally) (IH : ∀ g, Good P w K mg base ad fd n g) : FnOk P w K mg base (L2.CX P w) (n + 1) (ad .read_faces) (fd .read_faces) (ps .read_faces) (spX K (ar .read_faces) (callN (n + 1) .read_faces)) :=
  have S := sc_read_faces
  fn_okX (T.f .read_faces) sc_read_faces rfl fun cdv A outer s H E W hr tk =>
  (mss_cons (ms_set (i := 2) S.nd rfl (by first | exact Or.inl rfl | exact Or.inr rfl) (me_newG T.M_Faces T.c_Faces (fun _ _ _ _ h => fnM_len h) (ok0_Faces_init T) hr rfl T.g_Faces (T.b .Faces_init) (ma_cons (me_var (pv 1)) ma_nil))) (mss_cons (ms_set (i := 3) S.nd rfl (by first | exact Or.inl rfl | exact Or.inr rfl) (me_callX tk (callN_ne _ _) (IH .worth_of) hr rfl (T.m .worth_of rfl) (T.k .worth_of) (T.b .worth_of) (ma_cons (me_var (pv 2)) (ma_cons (me_var (pv 0)) ma_nil)))) (mss_cons (ms_if (mt_cmp op_lt opS_lt (me_fld T.c_Faces T.C_Faces T.n_Faces_count (me_var (pv 2))) (me_callB call_len callS_len rfl T.b_len bt_len (ma_cons (me_var (pv 1)) ma_nil)) (nomark _)) (mss_one (ms_raise rfl tk PySem.F.excBase_ValueError T.x_NoFaces T.g_NoFaces T.c_NoFaces T.k_NoFaces T.s_NoFaces T.y_NoFaces rfl)) mss_nil) (mss_one (ms_ret (me_tup (ma_cons (me_var (pv 2)) (ma_cons (me_var (pv 3)) ma_nil))))))))
theorem sc_fall : FnScope ["saying", "faces"] (ps .fall) (defScope s_fall) := ⟨rfl, rfl, rfl, by decide +kernel, rfl, by decide +kernel, by decide +kernel⟩
theorem ok_fall {n : Nat} (T : Tx w K mg ad fd a_DICE A_Faces A_NoFaces A_NoNote A_NoWorth A_Tally) (IH : ∀ g, Good P w K mg base ad fd n g) : FnOk P w K mg base (L2.CX P w) (n + 1) (ad .fall) (fd .fall) (ps .fall) (spX K (ar .fall) (callN (n + 1) .fall)) :=
  have S := sc_fall
  fn_okX (T.f .fall) sc_fall rfl fun cdv A outer s H E W hr tk =>
  (mss_one (ms_ret (me_item (me_callX tk (callN_ne _ _) (IH .read_faces) hr rfl (T.m .read_faces rfl) (T.k .read_faces) (T.b .read_faces) (ma_cons (me_var (pv 0)) (ma_cons (me_var (pv 1)) ma_nil))) me_int)))
theorem sc_sides_in : FnScope ["saying", "part"] (ps .sides_in) (defScope s_sides_in) := ⟨rfl, rfl, rfl, by decide +kernel, rfl, by decide +kernel, by decide +kernel⟩
theorem ok_sides_in {n : Nat} (T : Tx w K mg ad fd a_DICE A_Faces A_NoFaces A_NoNote A_NoWorth A_Tally) (IH : ∀ g, Good P w K mg base ad fd n g) : FnOk P w K mg base CX0 (n + 1) (ad .sides_in) (fd .sides_in) (ps .sides_in) (spM K (ar .sides_in) (callN (n + 1) .sides_in)) :=
  have S := sc_sides_in
  fn_ok (T.f .sides_in) sc_sides_in rfl fun cdv A outer s H E hr =>
  (mss_cons (ms_if (mt_cmp op_in_seq opS_in (me_item (me_var (pv 0)) me_int) (me_glob (pe_glob (v := .ref a_DICE) rfl T.g_DICE rfl) T.r_DICE) (by rfl)) (mss_one (ms_ret (me_item (me_var (pv 0)) me_int))) mss_nil) (mss_one (ms_ret (me_maxD (d := 0) rfl hr.units rfl T.b_max bt_max (mq_new (ml_lc rfl S.nd (own := [("part", 1)]) (mi_tup (me_slice (me_var (pv 0)) (mo_some me_int) mo_none)) (blkOk_by (own := [("part", 1)]) (N := ["saying", "part"]) (sc := defScope s_sides_in) (by decide +kernel)) (by decide) (fun _ _ _ _ _ => (mg_name (i := 1) S.nd rfl (by first | exact Or.inl rfl | exact Or.inr rfl))) (fun _ _ _ _ _ => (mts_one (mt_tru (me_isi rfl T.b_isinstance rfl T.b_tuple bt_tuple ok_tuple (me_var (pv 1)))))) (fun _ _ _ _ _ => (me_call (callN_len _ _) (IH .sides_in) hr rfl (T.m .sides_in rfl) (T.k .sides_in) (T.b .sides_in) (ma_cons (me_var (pv 1)) ma_nil))))) (pk_cons pe_int pk_nil)))))
theorem sc_state_of : FnScope ["saying", "row", "faces"] (ps .state_of) (defScope s_state_of) := ⟨rfl, rfl, rfl, by decide +kernel, rfl, by decide +kernel, by decide +kernel⟩
theorem ok_state_of {n : Nat} (T : Tx w K mg ad fd a_DICE A_Faces A_NoFaces A_NoNote A_NoWorth A_Tally) (IH : ∀ g, Good P w K mg base ad fd n g) : FnOk P w K mg base CX0 (n + 1) (ad .state_of) (fd .state_of) (ps .state_of) (spM K (ar .state_of) (callN (n + 1) .state_of)) :=
  have S := sc_state_of
  fn_ok (T.f .state_of) sc_state_of rfl fun cdv A outer s H E hr =>
  (mss_cons (ms_set (i := 2) S.nd rfl (by first | exact Or.inl rfl | exact Or.inr rfl) (me_newG T.M_Faces T.c_Faces (fun _ _ _ _ h => fnM_len h) (ok0_Faces_init T) hr rfl T.g_Faces (T.b .Faces_init) (ma_cons (me_var (pv 1)) ma_nil))) (mss_cons (ms_try (cat := cat_NoFaces) rfl rfl ⟨rfl, by decide, .inl T.g_NoFaces⟩ takesNone T.cat_NoFaces (fun W' pn xe tk po => (mss_one (ms_expr (me_callX tk (callN_ne _ _) (IH .worth_of) hr rfl (T.m .worth_of rfl) (T.k .worth_of) (T.b .worth_of) (ma_cons (me_var (pv 2)) (ma_cons (me_var (pv 0)) ma_nil)))))) (fun a pn => (mss_one (ms_ret (me_add (me_neg me_int) (me_callTy call_int1 callS_int rfl T.b_int bt_int (ma_cons (me_cmp (op_eqA hr.units) opS_eq (me_fld T.c_Faces T.C_Faces T.n_Faces_count (me_var (pv 2))) (me_callB call_len callS_len rfl T.b_len bt_len (ma_cons (me_var (pv 1)) ma_nil)) (nomark _)) ma_nil))))))) (mss_one (ms_ret (me_ifExp (mt_cmp (op_eqA hr.units) opS_eq (me_fld T.c_Faces T.C_Faces T.n_Faces_count (me_var (pv 2))) (me_callB call_len callS_len rfl T.b_len bt_len (ma_cons (me_var (pv 1)) ma_nil)) (nomark _)) me_int (me_neg me_int))))))
theorem sc_all_faces : FnScope ["saying", "found", "rows", "longer", "row", "state", "face"] (ps .all_faces) (defScope s_all_faces) := ⟨rfl, rfl, rfl, by decide +kernel, rfl, by decide +kernel, by decide +kernel⟩
theorem ok_all_faces {n : Nat} (T : Tx w K mg ad fd a_DICE A_Faces A_NoFaces A_NoNote A_NoWorth A_Tally) (IH : ∀ g, Good P w K mg base ad fd n g) : FnOk P w K mg base CX0 (n + 1) (ad .all_faces) (fd .all_faces) (ps .all_faces) (spM K (ar .all_faces) (callN (n + 1) .all_faces)) :=
  have S := sc_all_faces
  fn_ok (T.f .all_faces) sc_all_faces rfl fun cdv A outer s H E hr =>
  (mss_cons (ms_set (i := 1) S.nd rfl (by first | exact Or.inl rfl | exact Or.inr rfl) (me_keep (ml_lst ma_nil))) (mss_cons (ms_set (i := 2) S.nd rfl (by first | exact Or.inl rfl | exact Or.inr rfl) (me_keep (ml_lst (ma_cons (me_tup ma_nil) ma_nil)))) (mss_cons (ms_while PassesOwn.never (mt_tru (me_var (pv 2))) (mss_cons (ms_set (i := 3) S.nd rfl (by first | exact Or.inl rfl | exact Or.inr rfl) (me_keep (ml_lst ma_nil))) (mss_cons (ms_lock (ma := (mVar 2)) (ms_for PassesOwn.never rfl (mi_lst (me_var (pv 2))) (mg_name (i := 4) S.nd rfl (by first | exact Or.inl rfl | exact Or.inr rfl)) (mss_cons (ms_set (i := 5) S.nd rfl (by first | exact Or.inl rfl | exact Or.inr rfl) (me_call (callN_len _ _) (IH .state_of) hr rfl (T.m .state_of rfl) (T.k .state_of) (T.b .state_of) (ma_cons (me_var (pv 0)) (ma_cons (me_var (pv 4)) ma_nil)))) (mss_cons (ms_if (mt_cmp (op_eqA hr.units) opS_eq (me_var (pv 5)) me_int (nomark _)) (mss_one (ms_expr (me_append (me_var (pv 1)) (me_var (pv 4))))) mss_nil) (mss_one (ms_if (mt_cmp (op_eqA hr.units) opS_eq (me_var (pv 5)) me_int (nomark _)) (mss_one (ms_expr (me_extend (me_var (pv 3)) (mx_new (ml_lc rfl S.nd (own := [("face", 6)]) (mi_rng2 rfl T.b_range (ma_cons me_int (ma_cons (me_add (me_call (callN_len _ _) (IH .sides_in) hr rfl (T.m .sides_in rfl) (T.k .sides_in) (T.b .sides_in) (ma_cons (me_var (pv 0)) ma_nil)) me_int) ma_nil))) (blkOk_by (own := [("face", 6)]) (N := ["saying", "found", "rows", "longer", "row", "state", "face"]) (sc := defScope s_all_faces) (by decide +kernel)) (by decide) (fun _ _ _ _ _ => (mg_name (i := 6) S.nd rfl (by first | exact Or.inl rfl | exact Or.inr rfl))) (fun _ _ _ _ _ => mts_nil) (fun _ _ _ _ _ => (me_add (me_var (pv 4)) (me_tup (ma_cons (me_var (pv 6)) ma_nil))))))))) mss_nil)))))) (mss_one (ms_set (i := 2) S.nd rfl (by first | exact Or.inl rfl | exact Or.inr rfl) (me_var (pv 3))))))) (mss_one (ms_ret (mq_callTy call_tuple_of qs_tup rfl T.b_tuple bt_tuple (mq_new (mq_callB cr_sortedTI qs_sortedT rfl T.b_sorted bt_sorted (mq_ref (me_var (pv 1)))))))))))
theorem sc_f_law_cell : FnScope ["script", "k"] (ps .f_law_cell) (defScope s_f_law_cell) := ⟨rfl, rfl, rfl, by decide +kernel, rfl, by decide +kernel, by decide +kernel⟩
theorem ok_f_law_cell {n : Nat} (T : Tx w K mg ad fd a_DICE A_Faces A_NoFaces A_NoNote A_NoWorth A_Tally) (IH : ∀ g, Good P w K mg base ad fd n g) : FnOk P w K mg base CX0 (n + 1) (ad .f_law_cell) (fd .f_law_cell) (ps .f_law_cell) (spM K (ar .f_law_cell) (callN (n + 1) .f_law_cell)) :=
  have S := sc_f_law_cell
  fn_ok (T.f .f_law_cell) sc_f_law_cell rfl fun cdv A outer s H E hr =>
  (mss_cons (ms_if (mt_cmp op_lt opS_lt (me_var (pv 1)) (me_callB call_len callS_len rfl T.b_len bt_len (ma_cons (me_var (pv 0)) ma_nil)) (nomark _)) (mss_one (ms_ret (me_item (me_var (pv 0)) (me_var (pv 1))))) mss_nil) (mss_one (ms_ret me_int)))
theorem sc_f_law_mix : FnScope ["cell", "prime", "many", "blend"] (ps .f_law_mix) (defScope s_f_law_mix) := ⟨rfl, rfl, rfl, by decide +kernel, rfl, by decide +kernel, by decide +kernel⟩
theorem ok_f_law_mix {n : Nat} (T : Tx w K mg ad fd a_DICE A_Faces A_NoFaces A_NoNote A_NoWorth A_Tally) (IH : ∀ g, Good P w K mg base ad fd n g) : FnOk P w K mg base CX0 (n + 1) (ad .f_law_mix) (fd .f_law_mix) (ps .f_law_mix) (spM K (ar .f_law_mix) (callN (n + 1) .f_law_mix)) :=
  have S := sc_f_law_mix
  fn_ok (T.f .f_law_mix) sc_f_law_mix rfl fun cdv A outer s H E hr =>
  (mss_cons (ms_set (i := 3) S.nd rfl (by first | exact Or.inl rfl | exact Or.inr rfl) (me_mod (me_mul (me_var (pv 0)) me_int) (me_var (pv 1)))) (mss_one (ms_ret (me_mod (me_mod (me_mul (me_var (pv 3)) (me_add (me_var (pv 3)) me_int)) (me_var (pv 1))) (me_var (pv 2))))))
theorem sc_f_law_dice : FnScope ["cell", "most", "word", "many", "sides", "low", "high"] (ps .f_law_dice) (defScope s_f_law_dice) := ⟨rfl, rfl, rfl, by decide +kernel, rfl, by decide +kernel, by decide +kernel⟩
theorem ok_f_law_dice {n : Nat} (T : Tx w K mg ad fd a_DICE A_Faces A_NoFaces A_NoNote A_NoWorth A_Tally) (IH : ∀ g, Good P w K mg base ad fd n g) : FnOk P w K mg base CX0 (n + 1) (ad .f_law_dice) (fd .f_law_dice) (ps .f_law_dice) (spM K (ar .f_law_dice) (callN (n + 1) .f_law_dice)) :=
  have S := sc_f_law_dice
  fn_ok (T.f .f_law_dice) sc_f_law_dice rfl fun cdv A outer s H E hr =>
  (mss_cons (ms_set (i := 2) S.nd rfl (by first | exact Or.inl rfl | exact Or.inr rfl) (me_item (me_tup (ma_cons me_str (ma_cons me_str (ma_cons me_str (ma_cons me_str (ma_cons me_str (ma_cons me_str ma_nil))))))) (me_call (callN_len _ _) (IH .f_law_mix) hr rfl (T.m .f_law_mix rfl) (T.k .f_law_mix) (T.b .f_law_mix) (ma_cons (me_var (pv 0)) (ma_cons me_int (ma_cons me_int ma_nil)))))) (mss_cons (ms_set (i := 3) S.nd rfl (by first | exact Or.inl rfl | exact Or.inr rfl) (me_add me_int (me_call (callN_len _ _) (IH .f_law_mix) hr rfl (T.m .f_law_mix rfl) (T.k .f_law_mix) (T.b .f_law_mix) (ma_cons (me_var (pv 0)) (ma_cons me_int (ma_cons (me_callB (call_min2 rfl) callS_min rfl T.b_min bt_min (ma_cons me_int (ma_cons (me_var (pv 1)) ma_nil))) ma_nil)))))) (mss_cons (ms_set (i := 4) S.nd rfl (by first | exact Or.inl rfl | exact Or.inr rfl) (me_add me_int (me_call (callN_len _ _) (IH .f_law_mix) hr rfl (T.m .f_law_mix rfl) (T.k .f_law_mix) (T.b .f_law_mix) (ma_cons (me_var (pv 0)) (ma_cons me_int (ma_cons me_int ma_nil)))))) (mss_cons (ms_if (mt_cmp (op_eqA hr.units) opS_eq (me_var (pv 2)) me_str (nomark _)) (mss_one (ms_ret (me_tup (ma_cons (me_var (pv 2)) (ma_cons (me_var (pv 3)) (ma_cons (me_var (pv 4)) ma_nil)))))) mss_nil) (mss_cons (ms_asg (me_getN (hu_of hr) (md_disp (mps_cons me_str (me_tup (ma_cons me_int (ma_cons (me_sub (me_var (pv 4)) me_int) ma_nil))) (mps_cons me_str (me_tup (ma_cons me_int (ma_cons me_int ma_nil))) (mps_cons me_str (me_tup (ma_cons me_int (ma_cons (me_var (pv 4)) ma_nil))) mps_nil)))) (me_var (pv 2)) (me_tup (ma_cons me_int (ma_cons (me_var (pv 3)) ma_nil)))) (mg_tup rfl (mgs_cons (mg_name (i := 5) S.nd rfl (by first | exact Or.inl rfl | exact Or.inr rfl)) (mgs_cons (mg_name (i := 6) S.nd rfl (by first | exact Or.inl rfl | exact Or.inr rfl)) mgs_nil)))) (mss_one (ms_ret (me_tup (ma_cons (me_var (pv 2)) (ma_cons (me_var (pv 3)) (ma_cons (me_var (pv 4)) (ma_cons (me_add (me_var (pv 5)) (me_call (callN_len _ _) (IH .f_law_mix) hr rfl (T.m .f_law_mix rfl) (T.k .f_law_mix) (T.b .f_law_mix) (ma_cons (me_var (pv 0)) (ma_cons me_int (ma_cons (me_add (me_sub (me_var (pv 6)) (me_var (pv 5))) me_int) ma_nil))))) ma_nil))))))))))))
theorem sc_f_law_many : FnScope ["saying", "part"] (ps .f_law_many) (defScope s_f_law_many) := ⟨rfl, rfl, rfl, by decide +kernel, rfl, by decide +kernel, by decide +kernel⟩
theorem ok_f_law_many {n : Nat} (T : Tx w K mg ad fd a_DICE A_Faces A_NoFaces A_NoNote A_NoWorth A_Tally) (IH : ∀ g, Good P w K mg base ad fd n g) : FnOk P w K mg base CX0 (n + 1) (ad .f_law_many) (fd .f_law_many) (ps .f_law_many) (spM K (ar .f_law_many) (callN (n + 1) .f_law_many)) :=
  have S := sc_f_law_many
  fn_ok (T.f .f_law_many) sc_f_law_many rfl fun cdv A outer s H E hr =>
  (mss_cons (ms_if (mt_cmp (op_eqA hr.units) opS_eq (me_item (me_var (pv 0)) me_int) me_str (nomark _)) (mss_one (ms_ret me_int)) mss_nil) (mss_cons (ms_if (mt_tru (me_isi rfl T.b_isinstance rfl T.b_tuple bt_tuple ok_tuple (me_item (me_var (pv 0)) (me_neg me_int)))) (mss_one (ms_ret (mq_callB (cr_sum rfl) qs_sum rfl T.b_sum bt_sum (mq_new (ml_lc rfl S.nd (own := [("part", 1)]) (mi_tup (me_slice (me_var (pv 0)) (mo_some me_int) mo_none)) (blkOk_by (own := [("part", 1)]) (N := ["saying", "part"]) (sc := defScope s_f_law_many) (by decide +kernel)) (by decide) (fun _ _ _ _ _ => (mg_name (i := 1) S.nd rfl (by first | exact Or.inl rfl | exact Or.inr rfl))) (fun _ _ _ _ _ => (mts_one (mt_tru (me_isi rfl T.b_isinstance rfl T.b_tuple bt_tuple ok_tuple (me_var (pv 1)))))) (fun _ _ _ _ _ => (me_call (callN_len _ _) (IH .f_law_many) hr rfl (T.m .f_law_many rfl) (T.k .f_law_many) (T.b .f_law_many) (ma_cons (me_var (pv 1)) ma_nil)))))))) mss_nil) (mss_one (ms_ret (me_item (me_var (pv 0)) me_int)))))
theorem sc_f_law_saying : FnScope ["cell", "deep", "most", "way", "one", "other"] (ps .f_law_saying) (defScope s_f_law_saying) := ⟨rfl, rfl, rfl, by decide +kernel, rfl, by decide +kernel, by decide +kernel⟩
theorem ok_f_law_saying {n : Nat} (T : Tx w K mg ad fd a_DICE A_Faces A_NoFaces A_NoNote A_NoWorth A_Tally) (IH : ∀ g, Good P w K mg base ad fd n g) : FnOk P w K mg base CX0 (n + 1) (ad .f_law_saying) (fd .f_law_saying) (ps .f_law_saying) (spM K (ar .f_law_saying) (callN (n + 1) .f_law_saying)) :=
  have S := sc_f_law_saying
  fn_ok (T.f .f_law_saying) sc_f_law_saying rfl fun cdv A outer s H E hr =>
  (mss_cons (ms_set (i := 3) S.nd rfl (by first | exact Or.inl rfl | exact Or.inr rfl) (me_call (callN_len _ _) (IH .f_law_mix) hr rfl (T.m .f_law_mix rfl) (T.k .f_law_mix) (T.b .f_law_mix) (ma_cons (me_var (pv 0)) (ma_cons me_int (ma_cons me_int ma_nil))))) (mss_cons (ms_if (mt_w (mw_or (mt_cmp op_lt opS_lt (me_var (pv 3)) me_int (nomark _)) (mw_or1 (mt_cmp (op_eqA hr.units) opS_eq (me_var (pv 2)) me_int (nomark _))))) (mss_one (ms_ret (me_tup (ma_cons me_str (ma_cons (me_call (callN_len _ _) (IH .f_law_mix) hr rfl (T.m .f_law_mix rfl) (T.k .f_law_mix) (T.b .f_law_mix) (ma_cons (me_var (pv 0)) (ma_cons me_int (ma_cons me_int ma_nil)))) ma_nil))))) mss_nil) (mss_cons (ms_if (mt_w (mw_or (mt_cmp op_lt opS_lt (me_var (pv 3)) me_int (nomark _)) (mw_or1 (mt_cmp (op_eqA hr.units) opS_eq (me_var (pv 1)) me_int (nomark _))))) (mss_one (ms_ret (me_call (callN_len _ _) (IH .f_law_dice) hr rfl (T.m .f_law_dice rfl) (T.k .f_law_dice) (T.b .f_law_dice) (ma_cons (me_add (me_var (pv 0)) me_int) (ma_cons (me_var (pv 2)) ma_nil))))) mss_nil) (mss_cons (ms_if (mt_cmp (op_eqA hr.units) opS_eq (me_var (pv 3)) me_int (nomark _)) (mss_one (ms_ret (me_tup (ma_cons me_str (ma_cons (me_call (callN_len _ _) (IH .f_law_mix) hr rfl (T.m .f_law_mix rfl) (T.k .f_law_mix) (T.b .f_law_mix) (ma_cons (me_var (pv 0)) (ma_cons me_int (ma_cons me_int ma_nil)))) (ma_cons (me_call (callN_len _ _) (IH .f_law_saying) hr rfl (T.m .f_law_saying rfl) (T.k .f_law_saying) (T.b .f_law_saying) (ma_cons (me_add (me_var (pv 0)) me_int) (ma_cons (me_sub (me_var (pv 1)) me_int) (ma_cons (me_var (pv 2)) ma_nil)))) ma_nil)))))) mss_nil) (mss_cons (ms_set (i := 4) S.nd rfl (by first | exact Or.inl rfl | exact Or.inr rfl) (me_call (callN_len _ _) (IH .f_law_saying) hr rfl (T.m .f_law_saying rfl) (T.k .f_law_saying) (T.b .f_law_saying) (ma_cons (me_add (me_var (pv 0)) me_int) (ma_cons (me_sub (me_var (pv 1)) me_int) (ma_cons (me_var (pv 2)) ma_nil))))) (mss_cons (ms_set (i := 5) S.nd rfl (by first | exact Or.inl rfl | exact Or.inr rfl) (me_call (callN_len _ _) (IH .f_law_saying) hr rfl (T.m .f_law_saying rfl) (T.k .f_law_saying) (T.b .f_law_saying) (ma_cons (me_add (me_var (pv 0)) me_int) (ma_cons (me_sub (me_var (pv 1)) me_int) (ma_cons (me_sub (me_var (pv 2)) (me_call (callN_len _ _) (IH .f_law_many) hr rfl (T.m .f_law_many rfl) (T.k .f_law_many) (T.b .f_law_many) (ma_cons (me_var (pv 4)) ma_nil))) ma_nil))))) (mss_cons (ms_if (mt_cmp (op_eqA hr.units) opS_eq (me_mod (me_var (pv 0)) me_int) me_int (nomark _)) (mss_one (ms_par (i := 4) (j := 5) rfl S.nd rfl rfl (by decide) rfl rfl (ma_cons (me_var (pv 5)) (ma_cons (me_var (pv 4)) ma_nil)) (by rfl))) mss_nil) (mss_one (ms_ret (me_tup (ma_cons (me_item (me_tup (ma_cons me_str (ma_cons me_str (ma_cons me_str (ma_cons me_str (ma_cons me_str ma_nil)))))) (me_call (callN_len _ _) (IH .f_law_mix) hr rfl (T.m .f_law_mix rfl) (T.k .f_law_mix) (T.b .f_law_mix) (ma_cons (me_var (pv 0)) (ma_cons me_int (ma_cons me_int ma_nil))))) (ma_cons (me_var (pv 4)) (ma_cons (me_var (pv 5)) ma_nil)))))))))))))
theorem sc_law : FnScope ["script", "k", "saying", "rows", "one", "other", "row", "lower", "worth", "share", "plain", "often"] (ps .law) (defScope s_law) := ⟨rfl, rfl, rfl, by decide +kernel, rfl, by decide +kernel, by decide +kernel⟩
theorem ok_law {n : Nat} (T : Tx w K mg ad fd a_DICE A_Faces A_NoFaces A_NoNote A_NoWorth A_Tally) (IH : ∀ g, Good P w K mg base ad fd n g) : FnOk P w K mg base (L2.CX P w) (n + 1) (ad .law) (fd .law) (ps .law) (spX K (ar .law) (callN (n + 1) .law)) :=
  have S := sc_law
  fn_okX (T.f .law) sc_law rfl fun cdv A outer s H E W hr tk =>
  (mss_cons (ms_for (passes_of rfl) rfl (mi_rng1 rfl T.b_range (ma_cons me_int ma_nil)) (mg_name (i := 1) S.nd rfl (by first | exact Or.inl rfl | exact Or.inr rfl)) (mss_cons (ms_set (i := 2) S.nd rfl (by first | exact Or.inl rfl | exact Or.inr rfl) (me_call (callN_len _ _) (IH .f_law_saying) hr rfl (T.m .f_law_saying rfl) (T.k .f_law_saying) (T.b .f_law_saying) (ma_cons (me_add (me_call (callN_len _ _) (IH .f_law_cell) hr rfl (T.m .f_law_cell rfl) (T.k .f_law_cell) (T.b .f_law_cell) (ma_cons (me_var (pv 0)) (ma_cons (me_var (pv 1)) ma_nil))) (me_mul me_int (me_var (pv 1)))) (ma_cons me_int (ma_cons me_int ma_nil))))) (mss_cons (ms_set (i := 3) S.nd rfl (by first | exact Or.inl rfl | exact Or.inr rfl) (me_call (callN_len _ _) (IH .all_faces) hr rfl (T.m .all_faces rfl) (T.k .all_faces) (T.b .all_faces) (ma_cons (me_var (pv 2)) ma_nil))) (mss_cons (ms_par (i := 4) (j := 5) rfl S.nd rfl rfl (by decide) rfl rfl (ma_cons (me_newG T.M_Tally T.c_Tally (fun _ _ _ _ h => fnM_len h) (ok0_Tally_init T) hr rfl T.g_Tally (T.b .Tally_init) (ma_cons (me_var (pv 2)) ma_nil)) (ma_cons (me_newG T.M_Tally T.c_Tally (fun _ _ _ _ h => fnM_len h) (ok0_Tally_init T) hr rfl T.g_Tally (T.b .Tally_init) (ma_cons (me_var (pv 2)) ma_nil)) ma_nil)) (by rfl)) (mss_cons (ms_for (passes_of rfl) rfl (mi_tup (me_var (pv 3))) (mg_name (i := 6) S.nd rfl (by first | exact Or.inl rfl | exact Or.inr rfl)) (mss_one (ms_expr (me_methX tk T.c_Tally T.C_Tally T.h_Tally_note (callN_ne _ _) (IH .Tally_note) hr (T.b .Tally_note) (me_var (pv 4)) (ma_cons (me_callX tk (callN_ne _ _) (IH .fall) hr rfl (T.m .fall rfl) (T.k .fall) (T.b .fall) (ma_cons (me_var (pv 2)) (ma_cons (me_var (pv 6)) ma_nil))) ma_nil))))) (mss_cons (ms_for (passes_of rfl) rfl (mi_tup (me_revT (me_var (pv 3)))) (mg_name (i := 6) S.nd rfl (by first | exact Or.inl rfl | exact Or.inr rfl)) (mss_one (ms_expr (me_methX tk T.c_Tally T.C_Tally T.h_Tally_note (callN_ne _ _) (IH .Tally_note) hr (T.b .Tally_note) (me_var (pv 5)) (ma_cons (me_callX tk (callN_ne _ _) (IH .fall) hr rfl (T.m .fall rfl) (T.k .fall) (T.b .fall) (ma_cons (me_var (pv 2)) (ma_cons (me_var (pv 6)) ma_nil))) ma_nil))))) (mss_cons (ms_if (mt_w (mw_or (mt_cmp (op_neA hr.units) opS_ne (me_meth0 T.c_Tally T.C_Tally T.h_Tally_many (callN_len _ _) (IH .Tally_many) hr (T.b .Tally_many) (me_var (pv 4))) (me_callB call_len callS_len rfl T.b_len bt_len (ma_cons (me_var (pv 3)) ma_nil)) (nomark _)) (mw_or (mt_cmp (op_neA hr.units) opS_ne (me_meth0 T.c_Tally T.C_Tally T.h_Tally_lacking (callN_len _ _) (IH .Tally_lacking) hr (T.b .Tally_lacking) (me_var (pv 4))) (me_tup ma_nil) (nomark _)) (mw_or1 (mt_cmp (op_neA hr.units) opS_ne (mq_callB (cr_sum rfl) qs_sum rfl T.b_sum bt_sum (mq_new (ml_lc rfl S.nd (own := [("worth", 8), ("often", 11)]) (mi_tup (me_meth0 T.c_Tally T.C_Tally T.h_Tally_counts (callN_len _ _) (IH .Tally_counts) hr (T.b .Tally_counts) (me_var (pv 4)))) (blkOk_by (own := [("worth", 8), ("often", 11)]) (N := ["script", "k", "saying", "rows", "one", "other", "row", "lower", "worth", "share", "plain", "often"]) (sc := defScope s_law) (by decide +kernel)) (by decide) (fun _ _ _ _ _ => (mg_tup rfl (mgs_cons (mg_name (i := 8) S.nd rfl (by first | exact Or.inl rfl | exact Or.inr rfl)) (mgs_cons (mg_name (i := 11) S.nd rfl (by first | exact Or.inl rfl | exact Or.inr rfl)) mgs_nil)))) (fun _ _ _ _ _ => mts_nil) (fun _ _ _ _ _ => (me_var (pv 11)))))) (me_callB call_len callS_len rfl T.b_len bt_len (ma_cons (me_var (pv 3)) ma_nil)) (nomark _)))))) (mss_one (ms_ret me_bl)) mss_nil) (mss_cons (ms_if (mt_cmp (op_neA hr.units) opS_ne (me_tup (ma_cons (me_meth0 T.c_Tally T.C_Tally T.h_Tally_counts (callN_len _ _) (IH .Tally_counts) hr (T.b .Tally_counts) (me_var (pv 4))) (ma_cons (me_meth0 T.c_Tally T.C_Tally T.h_Tally_due (callN_len _ _) (IH .Tally_due) hr (T.b .Tally_due) (me_var (pv 4))) ma_nil))) (me_tup (ma_cons (me_meth0 T.c_Tally T.C_Tally T.h_Tally_counts (callN_len _ _) (IH .Tally_counts) hr (T.b .Tally_counts) (me_var (pv 5))) (ma_cons (me_meth0 T.c_Tally T.C_Tally T.h_Tally_due (callN_len _ _) (IH .Tally_due) hr (T.b .Tally_due) (me_var (pv 5))) ma_nil))) (nomark _)) (mss_one (ms_ret me_bl)) mss_nil) (mss_cons (ms_set (i := 7) S.nd rfl (by first | exact Or.inl rfl | exact Or.inr rfl) me_int) (mss_cons (ms_for (passes_of rfl) rfl (mi_tup (me_meth0 T.c_Tally T.C_Tally T.h_Tally_due (callN_len _ _) (IH .Tally_due) hr (T.b .Tally_due) (me_var (pv 4)))) (mg_tup rfl (mgs_cons (mg_name (i := 8) S.nd rfl (by first | exact Or.inl rfl | exact Or.inr rfl)) (mgs_cons (mg_name (i := 9) S.nd rfl (by first | exact Or.inl rfl | exact Or.inr rfl)) mgs_nil))) (mss_one (ms_set (i := 7) S.nd rfl (by first | exact Or.inl rfl | exact Or.inr rfl) (me_mul (me_var (pv 7)) (me_item (me_var (pv 9)) me_int))))) (mss_cons (ms_if (mt_cmp (op_neA hr.units) opS_ne (mq_callB (cr_sum rfl) qs_sum rfl T.b_sum bt_sum (mq_new (ml_lc rfl S.nd (own := [("worth", 8), ("share", 9)]) (mi_tup (me_meth0 T.c_Tally T.C_Tally T.h_Tally_due (callN_len _ _) (IH .Tally_due) hr (T.b .Tally_due) (me_var (pv 4)))) (blkOk_by (own := [("worth", 8), ("share", 9)]) (N := ["script", "k", "saying", "rows", "one", "other", "row", "lower", "worth", "share", "plain", "often"]) (sc := defScope s_law) (by decide +kernel)) (by decide) (fun _ _ _ _ _ => (mg_tup rfl (mgs_cons (mg_name (i := 8) S.nd rfl (by first | exact Or.inl rfl | exact Or.inr rfl)) (mgs_cons (mg_name (i := 9) S.nd rfl (by first | exact Or.inl rfl | exact Or.inr rfl)) mgs_nil)))) (fun _ _ _ _ _ => mts_nil) (fun _ _ _ _ _ => (me_mul (me_item (me_var (pv 9)) me_int) (me_div (me_var (pv 7)) (me_item (me_var (pv 9)) me_int))))))) (me_mul (me_var (pv 7)) (me_callB call_len callS_len rfl T.b_len bt_len (ma_cons (me_var (pv 3)) ma_nil))) (nomark _)) (mss_one (ms_ret me_bl)) mss_nil) (mss_cons (ms_set (i := 10) S.nd rfl (by first | exact Or.inl rfl | exact Or.inr rfl) (mq_callTy call_tuple_of qs_tup rfl T.b_tuple bt_tuple (mq_new (ml_lc rfl S.nd (own := [("worth", 8), ("often", 11)]) (mi_tup (me_meth0 T.c_Tally T.C_Tally T.h_Tally_counts (callN_len _ _) (IH .Tally_counts) hr (T.b .Tally_counts) (me_var (pv 4)))) (blkOk_by (own := [("worth", 8), ("often", 11)]) (N := ["script", "k", "saying", "rows", "one", "other", "row", "lower", "worth", "share", "plain", "often"]) (sc := defScope s_law) (by decide +kernel)) (by decide) (fun _ _ _ _ _ => (mg_tup rfl (mgs_cons (mg_name (i := 8) S.nd rfl (by first | exact Or.inl rfl | exact Or.inr rfl)) (mgs_cons (mg_name (i := 11) S.nd rfl (by first | exact Or.inl rfl | exact Or.inr rfl)) mgs_nil)))) (fun _ _ _ _ _ => mts_nil) (fun _ _ _ _ _ => (me_tup (ma_cons (me_var (pv 8)) (ma_cons (me_tup (ma_cons (me_var (pv 11)) (ma_cons me_int ma_nil))) ma_nil)))))))) (mss_cons (ms_if (mt_w (mw_and (mt_cmp (op_eqA hr.units) opS_eq (me_lenSet rfl T.b_len rfl T.b_set (mq_new (ml_lc rfl S.nd (own := [("row", 6)]) (mi_tup (me_var (pv 3))) (blkOk_by (own := [("row", 6)]) (N := ["script", "k", "saying", "rows", "one", "other", "row", "lower", "worth", "share", "plain", "often"]) (sc := defScope s_law) (by decide +kernel)) (by decide) (fun _ _ _ _ _ => (mg_name (i := 6) S.nd rfl (by first | exact Or.inl rfl | exact Or.inr rfl))) (fun _ _ _ _ _ => mts_nil) (fun _ _ _ _ _ => (me_callB call_len callS_len rfl T.b_len bt_len (ma_cons (me_var (pv 6)) ma_nil)))))) me_int (nomark _)) (mw_and1 (mt_cmp (op_neA hr.units) opS_ne (me_meth0 T.c_Tally T.C_Tally T.h_Tally_due (callN_len _ _) (IH .Tally_due) hr (T.b .Tally_due) (me_var (pv 4))) (me_var (pv 10)) (nomark _))))) (mss_one (ms_ret me_bl)) mss_nil) (mss_cons (ms_for (passes_of rfl) rfl (mi_tup (me_var (pv 3))) (mg_name (i := 6) S.nd rfl (by first | exact Or.inl rfl | exact Or.inr rfl)) (mss_one (ms_expr (me_methX0 tk T.c_Tally T.C_Tally T.h_Tally_undo (callN_ne _ _) (IH .Tally_undo) hr (T.b .Tally_undo) (me_var (pv 4)))))) (mss_one (ms_if (mt_w (mw_or (mt_cmp (op_neA hr.units) opS_ne (me_meth0 T.c_Tally T.C_Tally T.h_Tally_many (callN_len _ _) (IH .Tally_many) hr (T.b .Tally_many) (me_var (pv 4))) me_int (nomark _)) (mw_or (mt_cmp (op_neA hr.units) opS_ne (me_meth0 T.c_Tally T.C_Tally T.h_Tally_counts (callN_len _ _) (IH .Tally_counts) hr (T.b .Tally_counts) (me_var (pv 4))) (me_tup ma_nil) (nomark _)) (mw_or1 (mt_neL hr.units (mx_new (ml_lc rfl S.nd (own := [("worth", 8), ("share", 9)]) (mi_tup (me_meth0 T.c_Tally T.C_Tally T.h_Tally_due (callN_len _ _) (IH .Tally_due) hr (T.b .Tally_due) (me_var (pv 4)))) (blkOk_by (own := [("worth", 8), ("share", 9)]) (N := ["script", "k", "saying", "rows", "one", "other", "row", "lower", "worth", "share", "plain", "often"]) (sc := defScope s_law) (by decide +kernel)) (by decide) (fun _ _ _ _ _ => (mg_tup rfl (mgs_cons (mg_name (i := 8) S.nd rfl (by first | exact Or.inl rfl | exact Or.inr rfl)) (mgs_cons (mg_name (i := 9) S.nd rfl (by first | exact Or.inl rfl | exact Or.inr rfl)) mgs_nil)))) (fun _ _ _ _ _ => (mts_one (mt_cmp (op_neA hr.units) opS_ne (me_var (pv 9)) (me_tup (ma_cons me_int (ma_cons me_int ma_nil))) (nomark _)))) (fun _ _ _ _ _ => (me_var (pv 9))))) (mx_new (ml_lst ma_nil))))))) (mss_one (ms_ret me_bl)) mss_nil)))))))))))))))) (mss_one (ms_ret me_bl)))
theorem all_ok (T : Tx w K mg ad fd a_DICE A_Faces A_NoFaces A_NoNote A_NoWorth A_Tally) : ∀ n f, Good P w K mg base ad fd n f
  | 0, f => by cases f <;> first | exact fn_zero | exact fn_zeroX
  | n + 1, f => by
    have IH := all_ok T n
    cases f
    · exact ok_Tally_init T IH
    · exact ok_Faces_init T IH
    · exact ok_divisor T IH
    · exact ok_fraction T IH
    · exact ok_sum_of T IH
    · exact ok_product T IH
    · exact ok_added T IH
    · exact ok_put_together T IH
    · exact ok_of_two T IH
    · exact ok_one_die T IH
    · exact ok_kept_shares T IH
    · exact ok_book_of T IH
    · exact ok_shares T IH
    · exact ok_share_of T IH
    · exact ok_Tally_note T IH
    · exact ok_Tally_many T IH
    · exact ok_Tally_counts T IH
    · exact ok_Tally_due T IH
    · exact ok_Tally_lacking T IH
    · exact ok_Tally_undo T IH
    · exact ok_Faces_take T IH
    · exact ok_die_worth T IH
    · exact ok_worth_of T IH
    · exact ok_read_faces T IH
    · exact ok_fall T IH
    · exact ok_sides_in T IH
    · exact ok_state_of T IH
    · exact ok_all_faces T IH
    · exact ok_f_law_cell T IH
    · exact ok_f_law_mix T IH
    · exact ok_f_law_dice T IH
    · exact ok_f_law_many T IH
    · exact ok_f_law_saying T IH
    · exact ok_law T IH
end
theorem all_mk {P : Program} {w : World} {K : PySem.W.Frag} {h : Heap} {mg : Str → Option Value} {fa : Addr} (lv : Nat) (X : K.In h) (G : h.Ns mainGlobals mg) (hfa : mg "law" = some (.ref fa))
    {A_Faces : Addr}
    {A_NoFaces : Addr}
    {A_NoNote : Addr}
    {A_NoWorth : Addr}
    {A_Tally : Addr}
    {f_Tally_init : Addr} {oc_Tally_init kV_Tally_init dc_Tally_init pm_Tally_init cd_Tally_init ct_Tally_init : Value} {od_Tally_init an_Tally_init : Option Addr} {sl_Tally_init : Array (Option Value)}
    {f_Faces_init : Addr} {oc_Faces_init kV_Faces_init dc_Faces_init pm_Faces_init cd_Faces_init ct_Faces_init : Value} {od_Faces_init an_Faces_init : Option Addr} {sl_Faces_init : Array (Option Value)}
    {f_divisor : Addr} {oc_divisor kV_divisor dc_divisor pm_divisor cd_divisor ct_divisor : Value} {od_divisor an_divisor : Option Addr} {sl_divisor : Array (Option Value)}
    {f_fraction : Addr} {oc_fraction kV_fraction dc_fraction pm_fraction cd_fraction ct_fraction : Value} {od_fraction an_fraction : Option Addr} {sl_fraction : Array (Option Value)}
    {f_sum_of : Addr} {oc_sum_of kV_sum_of dc_sum_of pm_sum_of cd_sum_of ct_sum_of : Value} {od_sum_of an_sum_of : Option Addr} {sl_sum_of : Array (Option Value)}
    {f_product : Addr} {oc_product kV_product dc_product pm_product cd_product ct_product : Value} {od_product an_product : Option Addr} {sl_product : Array (Option Value)}
    {f_added : Addr} {oc_added kV_added dc_added pm_added cd_added ct_added : Value} {od_added an_added : Option Addr} {sl_added : Array (Option Value)}
    {f_put_together : Addr} {oc_put_together kV_put_together dc_put_together pm_put_together cd_put_together ct_put_together : Value} {od_put_together an_put_together : Option Addr} {sl_put_together : Array (Option Value)}
    {f_of_two : Addr} {oc_of_two kV_of_two dc_of_two pm_of_two cd_of_two ct_of_two : Value} {od_of_two an_of_two : Option Addr} {sl_of_two : Array (Option Value)}
    {f_one_die : Addr} {oc_one_die kV_one_die dc_one_die pm_one_die cd_one_die ct_one_die : Value} {od_one_die an_one_die : Option Addr} {sl_one_die : Array (Option Value)}
    {f_kept_shares : Addr} {oc_kept_shares kV_kept_shares dc_kept_shares pm_kept_shares cd_kept_shares ct_kept_shares : Value} {od_kept_shares an_kept_shares : Option Addr} {sl_kept_shares : Array (Option Value)}
    {f_book_of : Addr} {oc_book_of kV_book_of dc_book_of pm_book_of cd_book_of ct_book_of : Value} {od_book_of an_book_of : Option Addr} {sl_book_of : Array (Option Value)}
    {f_shares : Addr} {oc_shares kV_shares dc_shares pm_shares cd_shares ct_shares : Value} {od_shares an_shares : Option Addr} {sl_shares : Array (Option Value)}
    {f_share_of : Addr} {oc_share_of kV_share_of dc_share_of pm_share_of cd_share_of ct_share_of : Value} {od_share_of an_share_of : Option Addr} {sl_share_of : Array (Option Value)}
    {f_Tally_note : Addr} {oc_Tally_note kV_Tally_note dc_Tally_note pm_Tally_note cd_Tally_note ct_Tally_note : Value} {od_Tally_note an_Tally_note : Option Addr} {sl_Tally_note : Array (Option Value)}
    {f_Tally_many : Addr} {oc_Tally_many kV_Tally_many dc_Tally_many pm_Tally_many cd_Tally_many ct_Tally_many : Value} {od_Tally_many an_Tally_many : Option Addr} {sl_Tally_many : Array (Option Value)}
    {f_Tally_counts : Addr} {oc_Tally_counts kV_Tally_counts dc_Tally_counts pm_Tally_counts cd_Tally_counts ct_Tally_counts : Value} {od_Tally_counts an_Tally_counts : Option Addr} {sl_Tally_counts : Array (Option Value)}
    {f_Tally_due : Addr} {oc_Tally_due kV_Tally_due dc_Tally_due pm_Tally_due cd_Tally_due ct_Tally_due : Value} {od_Tally_due an_Tally_due : Option Addr} {sl_Tally_due : Array (Option Value)}
    {f_Tally_lacking : Addr} {oc_Tally_lacking kV_Tally_lacking dc_Tally_lacking pm_Tally_lacking cd_Tally_lacking ct_Tally_lacking : Value} {od_Tally_lacking an_Tally_lacking : Option Addr} {sl_Tally_lacking : Array (Option Value)}
    {f_Tally_undo : Addr} {oc_Tally_undo kV_Tally_undo dc_Tally_undo pm_Tally_undo cd_Tally_undo ct_Tally_undo : Value} {od_Tally_undo an_Tally_undo : Option Addr} {sl_Tally_undo : Array (Option Value)}
    {f_Faces_take : Addr} {oc_Faces_take kV_Faces_take dc_Faces_take pm_Faces_take cd_Faces_take ct_Faces_take : Value} {od_Faces_take an_Faces_take : Option Addr} {sl_Faces_take : Array (Option Value)}
    {f_die_worth : Addr} {oc_die_worth kV_die_worth dc_die_worth pm_die_worth cd_die_worth ct_die_worth : Value} {od_die_worth an_die_worth : Option Addr} {sl_die_worth : Array (Option Value)}
    {f_worth_of : Addr} {oc_worth_of kV_worth_of dc_worth_of pm_worth_of cd_worth_of ct_worth_of : Value} {od_worth_of an_worth_of : Option Addr} {sl_worth_of : Array (Option Value)}
    {f_read_faces : Addr} {oc_read_faces kV_read_faces dc_read_faces pm_read_faces cd_read_faces ct_read_faces : Value} {od_read_faces an_read_faces : Option Addr} {sl_read_faces : Array (Option Value)}
    {f_fall : Addr} {oc_fall kV_fall dc_fall pm_fall cd_fall ct_fall : Value} {od_fall an_fall : Option Addr} {sl_fall : Array (Option Value)}
    {f_sides_in : Addr} {oc_sides_in kV_sides_in dc_sides_in pm_sides_in cd_sides_in ct_sides_in : Value} {od_sides_in an_sides_in : Option Addr} {sl_sides_in : Array (Option Value)}
    {f_state_of : Addr} {oc_state_of kV_state_of dc_state_of pm_state_of cd_state_of ct_state_of : Value} {od_state_of an_state_of : Option Addr} {sl_state_of : Array (Option Value)}
    {f_all_faces : Addr} {oc_all_faces kV_all_faces dc_all_faces pm_all_faces cd_all_faces ct_all_faces : Value} {od_all_faces an_all_faces : Option Addr} {sl_all_faces : Array (Option Value)}
    {f_f_law_cell : Addr} {oc_f_law_cell kV_f_law_cell dc_f_law_cell pm_f_law_cell cd_f_law_cell ct_f_law_cell : Value} {od_f_law_cell an_f_law_cell : Option Addr} {sl_f_law_cell : Array (Option Value)}
    {f_f_law_mix : Addr} {oc_f_law_mix kV_f_law_mix dc_f_law_mix pm_f_law_mix cd_f_law_mix ct_f_law_mix : Value} {od_f_law_mix an_f_law_mix : Option Addr} {sl_f_law_mix : Array (Option Value)}
    {f_f_law_dice : Addr} {oc_f_law_dice kV_f_law_dice dc_f_law_dice pm_f_law_dice cd_f_law_dice ct_f_law_dice : Value} {od_f_law_dice an_f_law_dice : Option Addr} {sl_f_law_dice : Array (Option Value)}
    {f_f_law_many : Addr} {oc_f_law_many kV_f_law_many dc_f_law_many pm_f_law_many cd_f_law_many ct_f_law_many : Value} {od_f_law_many an_f_law_many : Option Addr} {sl_f_law_many : Array (Option Value)}
    {f_f_law_saying : Addr} {oc_f_law_saying kV_f_law_saying dc_f_law_saying pm_f_law_saying cd_f_law_saying ct_f_law_saying : Value} {od_f_law_saying an_f_law_saying : Option Addr} {sl_f_law_saying : Array (Option Value)}
    {f_law : Addr} {oc_law kV_law dc_law pm_law cd_law ct_law : Value} {od_law an_law : Option Addr} {sl_law : Array (Option Value)}
    {a_DICE : Addr} {u0_DICE u1_DICE u2_DICE u3_DICE u4_DICE u5_DICE : Tok} {q_DICE : Option Addr} {n_DICE : Nat} {w_DICE : Array (Option Value)}
    (g_Faces : PySem.W.nsIn K mainGlobals "Faces" = some (some (.ref A_Faces)))
    (g_NoFaces : PySem.W.nsIn K mainGlobals "NoFaces" = some (some (.ref A_NoFaces)))
    (g_NoNote : PySem.W.nsIn K mainGlobals "NoNote" = some (some (.ref A_NoNote)))
    (g_NoWorth : PySem.W.nsIn K mainGlobals "NoWorth" = some (some (.ref A_NoWorth)))
    (g_Tally : PySem.W.nsIn K mainGlobals "Tally" = some (some (.ref A_Tally)))
    (pg_Faces : PySem.W.plainGet K A_Faces Str.empty = true)
    (hd_Faces : PySem.W.hasDictIn K A_Faces = true)
    (po_Faces : PySem.W.plainOver K A_Faces = true)
    (sa_Faces : PySem.W.findIn K (.ref A_Faces) "__setattr__" = some (some (.builtin "object.__setattr__")))
    (mk_Faces : PySem.W.makesIn K A_Faces = true)
    (kc_Faces : PySem.W.keepIn K (.ref A_Faces) = true)
    (n_Faces_row : PySem.W.findIn K (.ref A_Faces) "row" = some none)
    (n_Faces_count : PySem.W.findIn K (.ref A_Faces) "count" = some none)
    (n_Faces_of : PySem.W.findIn K (.ref A_Faces) "of" = some none)
    (pg_Tally : PySem.W.plainGet K A_Tally Str.empty = true)
    (hd_Tally : PySem.W.hasDictIn K A_Tally = true)
    (po_Tally : PySem.W.plainOver K A_Tally = true)
    (sa_Tally : PySem.W.findIn K (.ref A_Tally) "__setattr__" = some (some (.builtin "object.__setattr__")))
    (mk_Tally : PySem.W.makesIn K A_Tally = true)
    (kc_Tally : PySem.W.keepIn K (.ref A_Tally) = true)
    (n_Tally_said : PySem.W.findIn K (.ref A_Tally) "said" = some none)
    (n_Tally_fell : PySem.W.findIn K (.ref A_Tally) "fell" = some none)
    (x_NoFaces : PySem.W.excIn K A_NoFaces [.type "ValueError", .type "Exception", .type "BaseException", .type "object"] "ValueError.__new__" = true)
    (k_NoFaces : PySem.W.keepIn K (.ref A_NoFaces) = true)
    (s_NoFaces : PySem.W.subIn K (.ref A_NoFaces) (.type "BaseException") = some true)
    (y_NoFaces : PySem.W.typeIn K (.ref A_NoFaces) = some (.type "type"))
    (x_NoNote : PySem.W.excIn K A_NoNote [.type "ValueError", .type "Exception", .type "BaseException", .type "object"] "ValueError.__new__" = true)
    (k_NoNote : PySem.W.keepIn K (.ref A_NoNote) = true)
    (s_NoNote : PySem.W.subIn K (.ref A_NoNote) (.type "BaseException") = some true)
    (y_NoNote : PySem.W.typeIn K (.ref A_NoNote) = some (.type "type"))
    (x_NoWorth : PySem.W.excIn K A_NoWorth [.type "ValueError", .type "Exception", .type "BaseException", .type "object"] "ValueError.__new__" = true)
    (k_NoWorth : PySem.W.keepIn K (.ref A_NoWorth) = true)
    (s_NoWorth : PySem.W.subIn K (.ref A_NoWorth) (.type "BaseException") = some true)
    (y_NoWorth : PySem.W.typeIn K (.ref A_NoWorth) = some (.type "type"))
    (e_NoFaces_NoFaces : PySem.W.exmOne K (.ref A_NoFaces) (.ref A_NoFaces) = some true)
    (e_NoFaces_NoNote : PySem.W.exmOne K (.ref A_NoNote) (.ref A_NoFaces) = some false)
    (e_NoFaces_NoWorth : PySem.W.exmOne K (.ref A_NoWorth) (.ref A_NoFaces) = some false)
    (a_f_Tally_init : PySem.W.findIn K (.ref A_Tally) "__init__" = some (some (.ref f_Tally_init)))
    (l_f_Tally_init : K.lookup f_Tally_init = some ⟨oc_Tally_init, od_Tally_init, .func (PySem.W.fnOf "__init__" "Tally.__init__" (defArgs s_Tally_init) (defBody s_Tally_init) (defScope s_Tally_init) .none kV_Tally_init dc_Tally_init pm_Tally_init an_Tally_init cd_Tally_init ct_Tally_init), sl_Tally_init⟩)
    (c_f_Tally_init : PySem.W.codeIn K cd_Tally_init "Tally.__init__" = true)
    (k_f_Tally_init : PySem.W.keepIn K (.ref f_Tally_init) = true)
    (i_f_Tally_init : PySem.W.isFn K (.ref f_Tally_init) = true)
    (a_f_Faces_init : PySem.W.findIn K (.ref A_Faces) "__init__" = some (some (.ref f_Faces_init)))
    (l_f_Faces_init : K.lookup f_Faces_init = some ⟨oc_Faces_init, od_Faces_init, .func (PySem.W.fnOf "__init__" "Faces.__init__" (defArgs s_Faces_init) (defBody s_Faces_init) (defScope s_Faces_init) .none kV_Faces_init dc_Faces_init pm_Faces_init an_Faces_init cd_Faces_init ct_Faces_init), sl_Faces_init⟩)
    (c_f_Faces_init : PySem.W.codeIn K cd_Faces_init "Faces.__init__" = true)
    (k_f_Faces_init : PySem.W.keepIn K (.ref f_Faces_init) = true)
    (i_f_Faces_init : PySem.W.isFn K (.ref f_Faces_init) = true)
    (a_f_divisor : PySem.W.nsIn K mainGlobals "divisor" = some (some (.ref f_divisor)))
    (l_f_divisor : K.lookup f_divisor = some ⟨oc_divisor, od_divisor, .func (PySem.W.fnOf "divisor" "divisor" (defArgs s_divisor) (defBody s_divisor) (defScope s_divisor) .none kV_divisor dc_divisor pm_divisor an_divisor cd_divisor ct_divisor), sl_divisor⟩)
    (c_f_divisor : PySem.W.codeIn K cd_divisor "divisor" = true)
    (k_f_divisor : PySem.W.keepIn K (.ref f_divisor) = true)
    (a_f_fraction : PySem.W.nsIn K mainGlobals "fraction" = some (some (.ref f_fraction)))
    (l_f_fraction : K.lookup f_fraction = some ⟨oc_fraction, od_fraction, .func (PySem.W.fnOf "fraction" "fraction" (defArgs s_fraction) (defBody s_fraction) (defScope s_fraction) .none kV_fraction dc_fraction pm_fraction an_fraction cd_fraction ct_fraction), sl_fraction⟩)
    (c_f_fraction : PySem.W.codeIn K cd_fraction "fraction" = true)
    (k_f_fraction : PySem.W.keepIn K (.ref f_fraction) = true)
    (a_f_sum_of : PySem.W.nsIn K mainGlobals "sum_of" = some (some (.ref f_sum_of)))
    (l_f_sum_of : K.lookup f_sum_of = some ⟨oc_sum_of, od_sum_of, .func (PySem.W.fnOf "sum_of" "sum_of" (defArgs s_sum_of) (defBody s_sum_of) (defScope s_sum_of) .none kV_sum_of dc_sum_of pm_sum_of an_sum_of cd_sum_of ct_sum_of), sl_sum_of⟩)
    (c_f_sum_of : PySem.W.codeIn K cd_sum_of "sum_of" = true)
    (k_f_sum_of : PySem.W.keepIn K (.ref f_sum_of) = true)
    (a_f_product : PySem.W.nsIn K mainGlobals "product" = some (some (.ref f_product)))
    (l_f_product : K.lookup f_product = some ⟨oc_product, od_product, .func (PySem.W.fnOf "product" "product" (defArgs s_product) (defBody s_product) (defScope s_product) .none kV_product dc_product pm_product an_product cd_product ct_product), sl_product⟩)
    (c_f_product : PySem.W.codeIn K cd_product "product" = true)
    (k_f_product : PySem.W.keepIn K (.ref f_product) = true)
    (a_f_added : PySem.W.nsIn K mainGlobals "added" = some (some (.ref f_added)))
    (l_f_added : K.lookup f_added = some ⟨oc_added, od_added, .func (PySem.W.fnOf "added" "added" (defArgs s_added) (defBody s_added) (defScope s_added) .none kV_added dc_added pm_added an_added cd_added ct_added), sl_added⟩)
    (c_f_added : PySem.W.codeIn K cd_added "added" = true)
    (k_f_added : PySem.W.keepIn K (.ref f_added) = true)
    (a_f_put_together : PySem.W.nsIn K mainGlobals "put_together" = some (some (.ref f_put_together)))
    (l_f_put_together : K.lookup f_put_together = some ⟨oc_put_together, od_put_together, .func (PySem.W.fnOf "put_together" "put_together" (defArgs s_put_together) (defBody s_put_together) (defScope s_put_together) .none kV_put_together dc_put_together pm_put_together an_put_together cd_put_together ct_put_together), sl_put_together⟩)
    (c_f_put_together : PySem.W.codeIn K cd_put_together "put_together" = true)
    (k_f_put_together : PySem.W.keepIn K (.ref f_put_together) = true)
    (a_f_of_two : PySem.W.nsIn K mainGlobals "of_two" = some (some (.ref f_of_two)))
    (l_f_of_two : K.lookup f_of_two = some ⟨oc_of_two, od_of_two, .func (PySem.W.fnOf "of_two" "of_two" (defArgs s_of_two) (defBody s_of_two) (defScope s_of_two) .none kV_of_two dc_of_two pm_of_two an_of_two cd_of_two ct_of_two), sl_of_two⟩)
    (c_f_of_two : PySem.W.codeIn K cd_of_two "of_two" = true)
    (k_f_of_two : PySem.W.keepIn K (.ref f_of_two) = true)
    (a_f_one_die : PySem.W.nsIn K mainGlobals "one_die" = some (some (.ref f_one_die)))
    (l_f_one_die : K.lookup f_one_die = some ⟨oc_one_die, od_one_die, .func (PySem.W.fnOf "one_die" "one_die" (defArgs s_one_die) (defBody s_one_die) (defScope s_one_die) .none kV_one_die dc_one_die pm_one_die an_one_die cd_one_die ct_one_die), sl_one_die⟩)
    (c_f_one_die : PySem.W.codeIn K cd_one_die "one_die" = true)
    (k_f_one_die : PySem.W.keepIn K (.ref f_one_die) = true)
    (a_f_kept_shares : PySem.W.nsIn K mainGlobals "kept_shares" = some (some (.ref f_kept_shares)))
    (l_f_kept_shares : K.lookup f_kept_shares = some ⟨oc_kept_shares, od_kept_shares, .func (PySem.W.fnOf "kept_shares" "kept_shares" (defArgs s_kept_shares) (defBody s_kept_shares) (defScope s_kept_shares) .none kV_kept_shares dc_kept_shares pm_kept_shares an_kept_shares cd_kept_shares ct_kept_shares), sl_kept_shares⟩)
    (c_f_kept_shares : PySem.W.codeIn K cd_kept_shares "kept_shares" = true)
    (k_f_kept_shares : PySem.W.keepIn K (.ref f_kept_shares) = true)
    (a_f_book_of : PySem.W.nsIn K mainGlobals "book_of" = some (some (.ref f_book_of)))
    (l_f_book_of : K.lookup f_book_of = some ⟨oc_book_of, od_book_of, .func (PySem.W.fnOf "book_of" "book_of" (defArgs s_book_of) (defBody s_book_of) (defScope s_book_of) .none kV_book_of dc_book_of pm_book_of an_book_of cd_book_of ct_book_of), sl_book_of⟩)
    (c_f_book_of : PySem.W.codeIn K cd_book_of "book_of" = true)
    (k_f_book_of : PySem.W.keepIn K (.ref f_book_of) = true)
    (a_f_shares : PySem.W.nsIn K mainGlobals "shares" = some (some (.ref f_shares)))
    (l_f_shares : K.lookup f_shares = some ⟨oc_shares, od_shares, .func (PySem.W.fnOf "shares" "shares" (defArgs s_shares) (defBody s_shares) (defScope s_shares) .none kV_shares dc_shares pm_shares an_shares cd_shares ct_shares), sl_shares⟩)
    (c_f_shares : PySem.W.codeIn K cd_shares "shares" = true)
    (k_f_shares : PySem.W.keepIn K (.ref f_shares) = true)
    (a_f_share_of : PySem.W.nsIn K mainGlobals "share_of" = some (some (.ref f_share_of)))
    (l_f_share_of : K.lookup f_share_of = some ⟨oc_share_of, od_share_of, .func (PySem.W.fnOf "share_of" "share_of" (defArgs s_share_of) (defBody s_share_of) (defScope s_share_of) .none kV_share_of dc_share_of pm_share_of an_share_of cd_share_of ct_share_of), sl_share_of⟩)
    (c_f_share_of : PySem.W.codeIn K cd_share_of "share_of" = true)
    (k_f_share_of : PySem.W.keepIn K (.ref f_share_of) = true)
    (a_f_Tally_note : PySem.W.findIn K (.ref A_Tally) "note" = some (some (.ref f_Tally_note)))
    (l_f_Tally_note : K.lookup f_Tally_note = some ⟨oc_Tally_note, od_Tally_note, .func (PySem.W.fnOf "note" "Tally.note" (defArgs s_Tally_note) (defBody s_Tally_note) (defScope s_Tally_note) .none kV_Tally_note dc_Tally_note pm_Tally_note an_Tally_note cd_Tally_note ct_Tally_note), sl_Tally_note⟩)
    (c_f_Tally_note : PySem.W.codeIn K cd_Tally_note "Tally.note" = true)
    (k_f_Tally_note : PySem.W.keepIn K (.ref f_Tally_note) = true)
    (i_f_Tally_note : PySem.W.isFn K (.ref f_Tally_note) = true)
    (a_f_Tally_many : PySem.W.findIn K (.ref A_Tally) "many" = some (some (.ref f_Tally_many)))
    (l_f_Tally_many : K.lookup f_Tally_many = some ⟨oc_Tally_many, od_Tally_many, .func (PySem.W.fnOf "many" "Tally.many" (defArgs s_Tally_many) (defBody s_Tally_many) (defScope s_Tally_many) .none kV_Tally_many dc_Tally_many pm_Tally_many an_Tally_many cd_Tally_many ct_Tally_many), sl_Tally_many⟩)
    (c_f_Tally_many : PySem.W.codeIn K cd_Tally_many "Tally.many" = true)
    (k_f_Tally_many : PySem.W.keepIn K (.ref f_Tally_many) = true)
    (i_f_Tally_many : PySem.W.isFn K (.ref f_Tally_many) = true)
    (a_f_Tally_counts : PySem.W.findIn K (.ref A_Tally) "counts" = some (some (.ref f_Tally_counts)))
    (l_f_Tally_counts : K.lookup f_Tally_counts = some ⟨oc_Tally_counts, od_Tally_counts, .func (PySem.W.fnOf "counts" "Tally.counts" (defArgs s_Tally_counts) (defBody s_Tally_counts) (defScope s_Tally_counts) .none kV_Tally_counts dc_Tally_counts pm_Tally_counts an_Tally_counts cd_Tally_counts ct_Tally_counts), sl_Tally_counts⟩)
    (c_f_Tally_counts : PySem.W.codeIn K cd_Tally_counts "Tally.counts" = true)
    (k_f_Tally_counts : PySem.W.keepIn K (.ref f_Tally_counts) = true)
    (i_f_Tally_counts : PySem.W.isFn K (.ref f_Tally_counts) = true)
    (a_f_Tally_due : PySem.W.findIn K (.ref A_Tally) "due" = some (some (.ref f_Tally_due)))
    (l_f_Tally_due : K.lookup f_Tally_due = some ⟨oc_Tally_due, od_Tally_due, .func (PySem.W.fnOf "due" "Tally.due" (defArgs s_Tally_due) (defBody s_Tally_due) (defScope s_Tally_due) .none kV_Tally_due dc_Tally_due pm_Tally_due an_Tally_due cd_Tally_due ct_Tally_due), sl_Tally_due⟩)
    (c_f_Tally_due : PySem.W.codeIn K cd_Tally_due "Tally.due" = true)
    (k_f_Tally_due : PySem.W.keepIn K (.ref f_Tally_due) = true)
    (i_f_Tally_due : PySem.W.isFn K (.ref f_Tally_due) = true)
    (a_f_Tally_lacking : PySem.W.findIn K (.ref A_Tally) "lacking" = some (some (.ref f_Tally_lacking)))
    (l_f_Tally_lacking : K.lookup f_Tally_lacking = some ⟨oc_Tally_lacking, od_Tally_lacking, .func (PySem.W.fnOf "lacking" "Tally.lacking" (defArgs s_Tally_lacking) (defBody s_Tally_lacking) (defScope s_Tally_lacking) .none kV_Tally_lacking dc_Tally_lacking pm_Tally_lacking an_Tally_lacking cd_Tally_lacking ct_Tally_lacking), sl_Tally_lacking⟩)
    (c_f_Tally_lacking : PySem.W.codeIn K cd_Tally_lacking "Tally.lacking" = true)
    (k_f_Tally_lacking : PySem.W.keepIn K (.ref f_Tally_lacking) = true)
    (i_f_Tally_lacking : PySem.W.isFn K (.ref f_Tally_lacking) = true)
    (a_f_Tally_undo : PySem.W.findIn K (.ref A_Tally) "undo" = some (some (.ref f_Tally_undo)))
    (l_f_Tally_undo : K.lookup f_Tally_undo = some ⟨oc_Tally_undo, od_Tally_undo, .func (PySem.W.fnOf "undo" "Tally.undo" (defArgs s_Tally_undo) (defBody s_Tally_undo) (defScope s_Tally_undo) .none kV_Tally_undo dc_Tally_undo pm_Tally_undo an_Tally_undo cd_Tally_undo ct_Tally_undo), sl_Tally_undo⟩)
    (c_f_Tally_undo : PySem.W.codeIn K cd_Tally_undo "Tally.undo" = true)
    (k_f_Tally_undo : PySem.W.keepIn K (.ref f_Tally_undo) = true)
    (i_f_Tally_undo : PySem.W.isFn K (.ref f_Tally_undo) = true)
    (a_f_Faces_take : PySem.W.findIn K (.ref A_Faces) "take" = some (some (.ref f_Faces_take)))
    (l_f_Faces_take : K.lookup f_Faces_take = some ⟨oc_Faces_take, od_Faces_take, .func (PySem.W.fnOf "take" "Faces.take" (defArgs s_Faces_take) (defBody s_Faces_take) (defScope s_Faces_take) .none kV_Faces_take dc_Faces_take pm_Faces_take an_Faces_take cd_Faces_take ct_Faces_take), sl_Faces_take⟩)
    (c_f_Faces_take : PySem.W.codeIn K cd_Faces_take "Faces.take" = true)
    (k_f_Faces_take : PySem.W.keepIn K (.ref f_Faces_take) = true)
    (i_f_Faces_take : PySem.W.isFn K (.ref f_Faces_take) = true)
    (a_f_die_worth : PySem.W.nsIn K mainGlobals "die_worth" = some (some (.ref f_die_worth)))
    (l_f_die_worth : K.lookup f_die_worth = some ⟨oc_die_worth, od_die_worth, .func (PySem.W.fnOf "die_worth" "die_worth" (defArgs s_die_worth) (defBody s_die_worth) (defScope s_die_worth) .none kV_die_worth dc_die_worth pm_die_worth an_die_worth cd_die_worth ct_die_worth), sl_die_worth⟩)
    (c_f_die_worth : PySem.W.codeIn K cd_die_worth "die_worth" = true)
    (k_f_die_worth : PySem.W.keepIn K (.ref f_die_worth) = true)
    (a_f_worth_of : PySem.W.nsIn K mainGlobals "worth_of" = some (some (.ref f_worth_of)))
    (l_f_worth_of : K.lookup f_worth_of = some ⟨oc_worth_of, od_worth_of, .func (PySem.W.fnOf "worth_of" "worth_of" (defArgs s_worth_of) (defBody s_worth_of) (defScope s_worth_of) .none kV_worth_of dc_worth_of pm_worth_of an_worth_of cd_worth_of ct_worth_of), sl_worth_of⟩)
    (c_f_worth_of : PySem.W.codeIn K cd_worth_of "worth_of" = true)
    (k_f_worth_of : PySem.W.keepIn K (.ref f_worth_of) = true)
    (a_f_read_faces : PySem.W.nsIn K mainGlobals "read_faces" = some (some (.ref f_read_faces)))
    (l_f_read_faces : K.lookup f_read_faces = some ⟨oc_read_faces, od_read_faces, .func (PySem.W.fnOf "read_faces" "read_faces" (defArgs s_read_faces) (defBody s_read_faces) (defScope s_read_faces) .none kV_read_faces dc_read_faces pm_read_faces an_read_faces cd_read_faces ct_read_faces), sl_read_faces⟩)
    (c_f_read_faces : PySem.W.codeIn K cd_read_faces "read_faces" = true)
    (k_f_read_faces : PySem.W.keepIn K (.ref f_read_faces) = true)
    (a_f_fall : PySem.W.nsIn K mainGlobals "fall" = some (some (.ref f_fall)))
    (l_f_fall : K.lookup f_fall = some ⟨oc_fall, od_fall, .func (PySem.W.fnOf "fall" "fall" (defArgs s_fall) (defBody s_fall) (defScope s_fall) .none kV_fall dc_fall pm_fall an_fall cd_fall ct_fall), sl_fall⟩)
    (c_f_fall : PySem.W.codeIn K cd_fall "fall" = true)
    (k_f_fall : PySem.W.keepIn K (.ref f_fall) = true)
    (a_f_sides_in : PySem.W.nsIn K mainGlobals "sides_in" = some (some (.ref f_sides_in)))
    (l_f_sides_in : K.lookup f_sides_in = some ⟨oc_sides_in, od_sides_in, .func (PySem.W.fnOf "sides_in" "sides_in" (defArgs s_sides_in) (defBody s_sides_in) (defScope s_sides_in) .none kV_sides_in dc_sides_in pm_sides_in an_sides_in cd_sides_in ct_sides_in), sl_sides_in⟩)
    (c_f_sides_in : PySem.W.codeIn K cd_sides_in "sides_in" = true)
    (k_f_sides_in : PySem.W.keepIn K (.ref f_sides_in) = true)
    (a_f_state_of : PySem.W.nsIn K mainGlobals "state_of" = some (some (.ref f_state_of)))
    (l_f_state_of : K.lookup f_state_of = some ⟨oc_state_of, od_state_of, .func (PySem.W.fnOf "state_of" "state_of" (defArgs s_state_of) (defBody s_state_of) (defScope s_state_of) .none kV_state_of dc_state_of pm_state_of an_state_of cd_state_of ct_state_of), sl_state_of⟩)
    (c_f_state_of : PySem.W.codeIn K cd_state_of "state_of" = true)
    (k_f_state_of : PySem.W.keepIn K (.ref f_state_of) = true)
    (a_f_all_faces : PySem.W.nsIn K mainGlobals "all_faces" = some (some (.ref f_all_faces)))
    (l_f_all_faces : K.lookup f_all_faces = some ⟨oc_all_faces, od_all_faces, .func (PySem.W.fnOf "all_faces" "all_faces" (defArgs s_all_faces) (defBody s_all_faces) (defScope s_all_faces) .none kV_all_faces dc_all_faces pm_all_faces an_all_faces cd_all_faces ct_all_faces), sl_all_faces⟩)
    (c_f_all_faces : PySem.W.codeIn K cd_all_faces "all_faces" = true)
    (k_f_all_faces : PySem.W.keepIn K (.ref f_all_faces) = true)
    (a_f_f_law_cell : PySem.W.nsIn K mainGlobals "_law_cell" = some (some (.ref f_f_law_cell)))
    (l_f_f_law_cell : K.lookup f_f_law_cell = some ⟨oc_f_law_cell, od_f_law_cell, .func (PySem.W.fnOf "_law_cell" "_law_cell" (defArgs s_f_law_cell) (defBody s_f_law_cell) (defScope s_f_law_cell) .none kV_f_law_cell dc_f_law_cell pm_f_law_cell an_f_law_cell cd_f_law_cell ct_f_law_cell), sl_f_law_cell⟩)
    (c_f_f_law_cell : PySem.W.codeIn K cd_f_law_cell "_law_cell" = true)
    (k_f_f_law_cell : PySem.W.keepIn K (.ref f_f_law_cell) = true)
    (a_f_f_law_mix : PySem.W.nsIn K mainGlobals "_law_mix" = some (some (.ref f_f_law_mix)))
    (l_f_f_law_mix : K.lookup f_f_law_mix = some ⟨oc_f_law_mix, od_f_law_mix, .func (PySem.W.fnOf "_law_mix" "_law_mix" (defArgs s_f_law_mix) (defBody s_f_law_mix) (defScope s_f_law_mix) .none kV_f_law_mix dc_f_law_mix pm_f_law_mix an_f_law_mix cd_f_law_mix ct_f_law_mix), sl_f_law_mix⟩)
    (c_f_f_law_mix : PySem.W.codeIn K cd_f_law_mix "_law_mix" = true)
    (k_f_f_law_mix : PySem.W.keepIn K (.ref f_f_law_mix) = true)
    (a_f_f_law_dice : PySem.W.nsIn K mainGlobals "_law_dice" = some (some (.ref f_f_law_dice)))
    (l_f_f_law_dice : K.lookup f_f_law_dice = some ⟨oc_f_law_dice, od_f_law_dice, .func (PySem.W.fnOf "_law_dice" "_law_dice" (defArgs s_f_law_dice) (defBody s_f_law_dice) (defScope s_f_law_dice) .none kV_f_law_dice dc_f_law_dice pm_f_law_dice an_f_law_dice cd_f_law_dice ct_f_law_dice), sl_f_law_dice⟩)
    (c_f_f_law_dice : PySem.W.codeIn K cd_f_law_dice "_law_dice" = true)
    (k_f_f_law_dice : PySem.W.keepIn K (.ref f_f_law_dice) = true)
    (a_f_f_law_many : PySem.W.nsIn K mainGlobals "_law_many" = some (some (.ref f_f_law_many)))
    (l_f_f_law_many : K.lookup f_f_law_many = some ⟨oc_f_law_many, od_f_law_many, .func (PySem.W.fnOf "_law_many" "_law_many" (defArgs s_f_law_many) (defBody s_f_law_many) (defScope s_f_law_many) .none kV_f_law_many dc_f_law_many pm_f_law_many an_f_law_many cd_f_law_many ct_f_law_many), sl_f_law_many⟩)
    (c_f_f_law_many : PySem.W.codeIn K cd_f_law_many "_law_many" = true)
    (k_f_f_law_many : PySem.W.keepIn K (.ref f_f_law_many) = true)
    (a_f_f_law_saying : PySem.W.nsIn K mainGlobals "_law_saying" = some (some (.ref f_f_law_saying)))
    (l_f_f_law_saying : K.lookup f_f_law_saying = some ⟨oc_f_law_saying, od_f_law_saying, .func (PySem.W.fnOf "_law_saying" "_law_saying" (defArgs s_f_law_saying) (defBody s_f_law_saying) (defScope s_f_law_saying) .none kV_f_law_saying dc_f_law_saying pm_f_law_saying an_f_law_saying cd_f_law_saying ct_f_law_saying), sl_f_law_saying⟩)
    (c_f_f_law_saying : PySem.W.codeIn K cd_f_law_saying "_law_saying" = true)
    (k_f_f_law_saying : PySem.W.keepIn K (.ref f_f_law_saying) = true)
    (a_f_law : PySem.W.nsIn K mainGlobals "law" = some (some (.ref f_law)))
    (l_f_law : K.lookup f_law = some ⟨oc_law, od_law, .func (PySem.W.fnOf "law" "law" (defArgs s_law) (defBody s_law) (defScope s_law) .none kV_law dc_law pm_law an_law cd_law ct_law), sl_law⟩)
    (c_f_law : PySem.W.codeIn K cd_law "law" = true)
    (k_f_law : PySem.W.keepIn K (.ref f_law) = true)
    (z_abs : PySem.W.nsIn K mainGlobals "abs" = some none)
    (z_int : PySem.W.nsIn K mainGlobals "int" = some none)
    (z_isinstance : PySem.W.nsIn K mainGlobals "isinstance" = some none)
    (z_len : PySem.W.nsIn K mainGlobals "len" = some none)
    (z_max : PySem.W.nsIn K mainGlobals "max" = some none)
    (z_min : PySem.W.nsIn K mainGlobals "min" = some none)
    (z_range : PySem.W.nsIn K mainGlobals "range" = some none)
    (z_set : PySem.W.nsIn K mainGlobals "set" = some none)
    (z_sorted : PySem.W.nsIn K mainGlobals "sorted" = some none)
    (z_sum : PySem.W.nsIn K mainGlobals "sum" = some none)
    (z_tuple : PySem.W.nsIn K mainGlobals "tuple" = some none)
    (g_DICE : PySem.W.nsIn K mainGlobals "DICE" = some (some (.ref a_DICE))) (l_DICE : K.lookup a_DICE = some ⟨.type "tuple", q_DICE, .seq #[(.str "dice" u0_DICE), (.str "high" u1_DICE), (.str "low" u2_DICE), (.str "again" u3_DICE), (.str "burst" u4_DICE), (.str "count" u5_DICE)] n_DICE, w_DICE⟩) :
    ∃ fd : FuncData, (∀ (s : Shared) (v : Value), BindsTo s fd ⟨[v], []⟩ [("script", v)]) ∧ ∀ base : Heap, K.In base → base.Ns mainGlobals mg → FnOk P w K mg base CX0 lv fa fd ["script"] (spM K 1 (callN lv .law)) := by
  have e := hfa.symm.trans (PySem.W.mg_of X G a_f_law)
  cases e
  have F_Tally_init := fun_mk (st := s_Tally_init) l_f_Tally_init c_f_Tally_init k_f_Tally_init
  have b_Tally_init := F_Tally_init.binds (ps := ps .Tally_init) fun _ _ _ _ _ _ us hl => match us, hl with | [_, _], _ => rfl
  have F_Faces_init := fun_mk (st := s_Faces_init) l_f_Faces_init c_f_Faces_init k_f_Faces_init
  have b_Faces_init := F_Faces_init.binds (ps := ps .Faces_init) fun _ _ _ _ _ _ us hl => match us, hl with | [_, _], _ => rfl
  have F_divisor := fun_mk (st := s_divisor) l_f_divisor c_f_divisor k_f_divisor
  have b_divisor := F_divisor.binds (ps := ps .divisor) fun _ _ _ _ _ _ us hl => match us, hl with | [_, _], _ => rfl
  have F_fraction := fun_mk (st := s_fraction) l_f_fraction c_f_fraction k_f_fraction
  have b_fraction := F_fraction.binds (ps := ps .fraction) fun _ _ _ _ _ _ us hl => match us, hl with | [_, _], _ => rfl
  have F_sum_of := fun_mk (st := s_sum_of) l_f_sum_of c_f_sum_of k_f_sum_of
  have b_sum_of := F_sum_of.binds (ps := ps .sum_of) fun _ _ _ _ _ _ us hl => match us, hl with | [_, _], _ => rfl
  have F_product := fun_mk (st := s_product) l_f_product c_f_product k_f_product
  have b_product := F_product.binds (ps := ps .product) fun _ _ _ _ _ _ us hl => match us, hl with | [_, _], _ => rfl
  have F_added := fun_mk (st := s_added) l_f_added c_f_added k_f_added
  have b_added := F_added.binds (ps := ps .added) fun _ _ _ _ _ _ us hl => match us, hl with | [_, _, _], _ => rfl
  have F_put_together := fun_mk (st := s_put_together) l_f_put_together c_f_put_together k_f_put_together
  have b_put_together := F_put_together.binds (ps := ps .put_together) fun _ _ _ _ _ _ us hl => match us, hl with | [_, _, _], _ => rfl
  have F_of_two := fun_mk (st := s_of_two) l_f_of_two c_f_of_two k_f_of_two
  have b_of_two := F_of_two.binds (ps := ps .of_two) fun _ _ _ _ _ _ us hl => match us, hl with | [_, _, _], _ => rfl
  have F_one_die := fun_mk (st := s_one_die) l_f_one_die c_f_one_die k_f_one_die
  have b_one_die := F_one_die.binds (ps := ps .one_die) fun _ _ _ _ _ _ us hl => match us, hl with | [_, _, _], _ => rfl
  have F_kept_shares := fun_mk (st := s_kept_shares) l_f_kept_shares c_f_kept_shares k_f_kept_shares
  have b_kept_shares := F_kept_shares.binds (ps := ps .kept_shares) fun _ _ _ _ _ _ us hl => match us, hl with | [_, _, _, _], _ => rfl
  have F_book_of := fun_mk (st := s_book_of) l_f_book_of c_f_book_of k_f_book_of
  have b_book_of := F_book_of.binds (ps := ps .book_of) fun _ _ _ _ _ _ us hl => match us, hl with | [_], _ => rfl
  have F_shares := fun_mk (st := s_shares) l_f_shares c_f_shares k_f_shares
  have b_shares := F_shares.binds (ps := ps .shares) fun _ _ _ _ _ _ us hl => match us, hl with | [_], _ => rfl
  have F_share_of := fun_mk (st := s_share_of) l_f_share_of c_f_share_of k_f_share_of
  have b_share_of := F_share_of.binds (ps := ps .share_of) fun _ _ _ _ _ _ us hl => match us, hl with | [_, _], _ => rfl
  have F_Tally_note := fun_mk (st := s_Tally_note) l_f_Tally_note c_f_Tally_note k_f_Tally_note
  have b_Tally_note := F_Tally_note.binds (ps := ps .Tally_note) fun _ _ _ _ _ _ us hl => match us, hl with | [_, _], _ => rfl
  have F_Tally_many := fun_mk (st := s_Tally_many) l_f_Tally_many c_f_Tally_many k_f_Tally_many
  have b_Tally_many := F_Tally_many.binds (ps := ps .Tally_many) fun _ _ _ _ _ _ us hl => match us, hl with | [_], _ => rfl
  have F_Tally_counts := fun_mk (st := s_Tally_counts) l_f_Tally_counts c_f_Tally_counts k_f_Tally_counts
  have b_Tally_counts := F_Tally_counts.binds (ps := ps .Tally_counts) fun _ _ _ _ _ _ us hl => match us, hl with | [_], _ => rfl
  have F_Tally_due := fun_mk (st := s_Tally_due) l_f_Tally_due c_f_Tally_due k_f_Tally_due
  have b_Tally_due := F_Tally_due.binds (ps := ps .Tally_due) fun _ _ _ _ _ _ us hl => match us, hl with | [_], _ => rfl
  have F_Tally_lacking := fun_mk (st := s_Tally_lacking) l_f_Tally_lacking c_f_Tally_lacking k_f_Tally_lacking
  have b_Tally_lacking := F_Tally_lacking.binds (ps := ps .Tally_lacking) fun _ _ _ _ _ _ us hl => match us, hl with | [_], _ => rfl
  have F_Tally_undo := fun_mk (st := s_Tally_undo) l_f_Tally_undo c_f_Tally_undo k_f_Tally_undo
  have b_Tally_undo := F_Tally_undo.binds (ps := ps .Tally_undo) fun _ _ _ _ _ _ us hl => match us, hl with | [_], _ => rfl
  have F_Faces_take := fun_mk (st := s_Faces_take) l_f_Faces_take c_f_Faces_take k_f_Faces_take
  have b_Faces_take := F_Faces_take.binds (ps := ps .Faces_take) fun _ _ _ _ _ _ us hl => match us, hl with | [_, _], _ => rfl
  have F_die_worth := fun_mk (st := s_die_worth) l_f_die_worth c_f_die_worth k_f_die_worth
  have b_die_worth := F_die_worth.binds (ps := ps .die_worth) fun _ _ _ _ _ _ us hl => match us, hl with | [_, _], _ => rfl
  have F_worth_of := fun_mk (st := s_worth_of) l_f_worth_of c_f_worth_of k_f_worth_of
  have b_worth_of := F_worth_of.binds (ps := ps .worth_of) fun _ _ _ _ _ _ us hl => match us, hl with | [_, _], _ => rfl
  have F_read_faces := fun_mk (st := s_read_faces) l_f_read_faces c_f_read_faces k_f_read_faces
  have b_read_faces := F_read_faces.binds (ps := ps .read_faces) fun _ _ _ _ _ _ us hl => match us, hl with | [_, _], _ => rfl
  have F_fall := fun_mk (st := s_fall) l_f_fall c_f_fall k_f_fall
  have b_fall := F_fall.binds (ps := ps .fall) fun _ _ _ _ _ _ us hl => match us, hl with | [_, _], _ => rfl
  have F_sides_in := fun_mk (st := s_sides_in) l_f_sides_in c_f_sides_in k_f_sides_in
  have b_sides_in := F_sides_in.binds (ps := ps .sides_in) fun _ _ _ _ _ _ us hl => match us, hl with | [_], _ => rfl
  have F_state_of := fun_mk (st := s_state_of) l_f_state_of c_f_state_of k_f_state_of
  have b_state_of := F_state_of.binds (ps := ps .state_of) fun _ _ _ _ _ _ us hl => match us, hl with | [_, _], _ => rfl
  have F_all_faces := fun_mk (st := s_all_faces) l_f_all_faces c_f_all_faces k_f_all_faces
  have b_all_faces := F_all_faces.binds (ps := ps .all_faces) fun _ _ _ _ _ _ us hl => match us, hl with | [_], _ => rfl
  have F_f_law_cell := fun_mk (st := s_f_law_cell) l_f_f_law_cell c_f_f_law_cell k_f_f_law_cell
  have b_f_law_cell := F_f_law_cell.binds (ps := ps .f_law_cell) fun _ _ _ _ _ _ us hl => match us, hl with | [_, _], _ => rfl
  have F_f_law_mix := fun_mk (st := s_f_law_mix) l_f_f_law_mix c_f_f_law_mix k_f_f_law_mix
  have b_f_law_mix := F_f_law_mix.binds (ps := ps .f_law_mix) fun _ _ _ _ _ _ us hl => match us, hl with | [_, _, _], _ => rfl
  have F_f_law_dice := fun_mk (st := s_f_law_dice) l_f_f_law_dice c_f_f_law_dice k_f_f_law_dice
  have b_f_law_dice := F_f_law_dice.binds (ps := ps .f_law_dice) fun _ _ _ _ _ _ us hl => match us, hl with | [_, _], _ => rfl
  have F_f_law_many := fun_mk (st := s_f_law_many) l_f_f_law_many c_f_f_law_many k_f_f_law_many
  have b_f_law_many := F_f_law_many.binds (ps := ps .f_law_many) fun _ _ _ _ _ _ us hl => match us, hl with | [_], _ => rfl
  have F_f_law_saying := fun_mk (st := s_f_law_saying) l_f_f_law_saying c_f_f_law_saying k_f_f_law_saying
  have b_f_law_saying := F_f_law_saying.binds (ps := ps .f_law_saying) fun _ _ _ _ _ _ us hl => match us, hl with | [_, _, _], _ => rfl
  have F_law := fun_mk (st := s_law) l_f_law c_f_law k_f_law
  have b_law := F_law.binds (ps := ps .law) fun _ _ _ _ _ _ us hl => match us, hl with | [_], _ => rfl
  let ad : Fn → Addr := fun f => match f with | .Tally_init => f_Tally_init | .Faces_init => f_Faces_init | .divisor => f_divisor | .fraction => f_fraction | .sum_of => f_sum_of | .product => f_product | .added => f_added | .put_together => f_put_together | .of_two => f_of_two | .one_die => f_one_die | .kept_shares => f_kept_shares | .book_of => f_book_of | .shares => f_shares | .share_of => f_share_of | .Tally_note => f_Tally_note | .Tally_many => f_Tally_many | .Tally_counts => f_Tally_counts | .Tally_due => f_Tally_due | .Tally_lacking => f_Tally_lacking | .Tally_undo => f_Tally_undo | .Faces_take => f_Faces_take | .die_worth => f_die_worth | .worth_of => f_worth_of | .read_faces => f_read_faces | .fall => f_fall | .sides_in => f_sides_in | .state_of => f_state_of | .all_faces => f_all_faces | .f_law_cell => f_f_law_cell | .f_law_mix => f_f_law_mix | .f_law_dice => f_f_law_dice | .f_law_many => f_f_law_many | .f_law_saying => f_f_law_saying | .law => fa
  let fd : Fn → FuncData := fun f => match f with | .Tally_init => PySem.W.fnOf "__init__" "Tally.__init__" (defArgs s_Tally_init) (defBody s_Tally_init) (defScope s_Tally_init) .none kV_Tally_init dc_Tally_init pm_Tally_init an_Tally_init cd_Tally_init ct_Tally_init | .Faces_init => PySem.W.fnOf "__init__" "Faces.__init__" (defArgs s_Faces_init) (defBody s_Faces_init) (defScope s_Faces_init) .none kV_Faces_init dc_Faces_init pm_Faces_init an_Faces_init cd_Faces_init ct_Faces_init | .divisor => PySem.W.fnOf "divisor" "divisor" (defArgs s_divisor) (defBody s_divisor) (defScope s_divisor) .none kV_divisor dc_divisor pm_divisor an_divisor cd_divisor ct_divisor | .fraction => PySem.W.fnOf "fraction" "fraction" (defArgs s_fraction) (defBody s_fraction) (defScope s_fraction) .none kV_fraction dc_fraction pm_fraction an_fraction cd_fraction ct_fraction | .sum_of => PySem.W.fnOf "sum_of" "sum_of" (defArgs s_sum_of) (defBody s_sum_of) (defScope s_sum_of) .none kV_sum_of dc_sum_of pm_sum_of an_sum_of cd_sum_of ct_sum_of | .product => PySem.W.fnOf "product" "product" (defArgs s_product) (defBody s_product) (defScope s_product) .none kV_product dc_product pm_product an_product cd_product ct_product | .added => PySem.W.fnOf "added" "added" (defArgs s_added) (defBody s_added) (defScope s_added) .none kV_added dc_added pm_added an_added cd_added ct_added | .put_together => PySem.W.fnOf "put_together" "put_together" (defArgs s_put_together) (defBody s_put_together) (defScope s_put_together) .none kV_put_together dc_put_together pm_put_together an_put_together cd_put_together ct_put_together | .of_two => PySem.W.fnOf "of_two" "of_two" (defArgs s_of_two) (defBody s_of_two) (defScope s_of_two) .none kV_of_two dc_of_two pm_of_two an_of_two cd_of_two ct_of_two | .one_die => PySem.W.fnOf "one_die" "one_die" (defArgs s_one_die) (defBody s_one_die) (defScope s_one_die) .none kV_one_die dc_one_die pm_one_die an_one_die cd_one_die ct_one_die | .kept_shares => PySem.W.fnOf "kept_shares" "kept_shares" (defArgs s_kept_shares) (defBody s_kept_shares) (defScope s_kept_shares) .none kV_kept_shares dc_kept_shares pm_kept_shares an_kept_shares cd_kept_shares ct_kept_shares | .book_of => PySem.W.fnOf "book_of" "book_of" (defArgs s_book_of) (defBody s_book_of) (defScope s_book_of) .none kV_book_of dc_book_of pm_book_of an_book_of cd_book_of ct_book_of | .shares => PySem.W.fnOf "shares" "shares" (defArgs s_shares) (defBody s_shares) (defScope s_shares) .none kV_shares dc_shares pm_shares an_shares cd_shares ct_shares | .share_of => PySem.W.fnOf "share_of" "share_of" (defArgs s_share_of) (defBody s_share_of) (defScope s_share_of) .none kV_share_of dc_share_of pm_share_of an_share_of cd_share_of ct_share_of | .Tally_note => PySem.W.fnOf "note" "Tally.note" (defArgs s_Tally_note) (defBody s_Tally_note) (defScope s_Tally_note) .none kV_Tally_note dc_Tally_note pm_Tally_note an_Tally_note cd_Tally_note ct_Tally_note | .Tally_many => PySem.W.fnOf "many" "Tally.many" (defArgs s_Tally_many) (defBody s_Tally_many) (defScope s_Tally_many) .none kV_Tally_many dc_Tally_many pm_Tally_many an_Tally_many cd_Tally_many ct_Tally_many | .Tally_counts => PySem.W.fnOf "counts" "Tally.counts" (defArgs s_Tally_counts) (defBody s_Tally_counts) (defScope s_Tally_counts) .none kV_Tally_counts dc_Tally_counts pm_Tally_counts an_Tally_counts cd_Tally_counts ct_Tally_counts | .Tally_due => PySem.W.fnOf "due" "Tally.due" (defArgs s_Tally_due) (defBody s_Tally_due) (defScope s_Tally_due) .none kV_Tally_due dc_Tally_due pm_Tally_due an_Tally_due cd_Tally_due ct_Tally_due | .Tally_lacking => PySem.W.fnOf "lacking" "Tally.lacking" (defArgs s_Tally_lacking) (defBody s_Tally_lacking) (defScope s_Tally_lacking) .none kV_Tally_lacking dc_Tally_lacking pm_Tally_lacking an_Tally_lacking cd_Tally_lacking ct_Tally_lacking | .Tally_undo => PySem.W.fnOf "undo" "Tally.undo" (defArgs s_Tally_undo) (defBody s_Tally_undo) (defScope s_Tally_undo) .none kV_Tally_undo dc_Tally_undo pm_Tally_undo an_Tally_undo cd_Tally_undo ct_Tally_undo | .Faces_take => PySem.W.fnOf "take" "Faces.take" (defArgs s_Faces_take) (defBody s_Faces_take) (defScope s_Faces_take) .none kV_Faces_take dc_Faces_take pm_Faces_take an_Faces_take cd_Faces_take ct_Faces_take | .die_worth => PySem.W.fnOf "die_worth" "die_worth" (defArgs s_die_worth) (defBody s_die_worth) (defScope s_die_worth) .none kV_die_worth dc_die_worth pm_die_worth an_die_worth cd_die_worth ct_die_worth | .worth_of => PySem.W.fnOf "worth_of" "worth_of" (defArgs s_worth_of) (defBody s_worth_of) (defScope s_worth_of) .none kV_worth_of dc_worth_of pm_worth_of an_worth_of cd_worth_of ct_worth_of | .read_faces => PySem.W.fnOf "read_faces" "read_faces" (defArgs s_read_faces) (defBody s_read_faces) (defScope s_read_faces) .none kV_read_faces dc_read_faces pm_read_faces an_read_faces cd_read_faces ct_read_faces | .fall => PySem.W.fnOf "fall" "fall" (defArgs s_fall) (defBody s_fall) (defScope s_fall) .none kV_fall dc_fall pm_fall an_fall cd_fall ct_fall | .sides_in => PySem.W.fnOf "sides_in" "sides_in" (defArgs s_sides_in) (defBody s_sides_in) (defScope s_sides_in) .none kV_sides_in dc_sides_in pm_sides_in an_sides_in cd_sides_in ct_sides_in | .state_of => PySem.W.fnOf "state_of" "state_of" (defArgs s_state_of) (defBody s_state_of) (defScope s_state_of) .none kV_state_of dc_state_of pm_state_of an_state_of cd_state_of ct_state_of | .all_faces => PySem.W.fnOf "all_faces" "all_faces" (defArgs s_all_faces) (defBody s_all_faces) (defScope s_all_faces) .none kV_all_faces dc_all_faces pm_all_faces an_all_faces cd_all_faces ct_all_faces | .f_law_cell => PySem.W.fnOf "_law_cell" "_law_cell" (defArgs s_f_law_cell) (defBody s_f_law_cell) (defScope s_f_law_cell) .none kV_f_law_cell dc_f_law_cell pm_f_law_cell an_f_law_cell cd_f_law_cell ct_f_law_cell | .f_law_mix => PySem.W.fnOf "_law_mix" "_law_mix" (defArgs s_f_law_mix) (defBody s_f_law_mix) (defScope s_f_law_mix) .none kV_f_law_mix dc_f_law_mix pm_f_law_mix an_f_law_mix cd_f_law_mix ct_f_law_mix | .f_law_dice => PySem.W.fnOf "_law_dice" "_law_dice" (defArgs s_f_law_dice) (defBody s_f_law_dice) (defScope s_f_law_dice) .none kV_f_law_dice dc_f_law_dice pm_f_law_dice an_f_law_dice cd_f_law_dice ct_f_law_dice | .f_law_many => PySem.W.fnOf "_law_many" "_law_many" (defArgs s_f_law_many) (defBody s_f_law_many) (defScope s_f_law_many) .none kV_f_law_many dc_f_law_many pm_f_law_many an_f_law_many cd_f_law_many ct_f_law_many | .f_law_saying => PySem.W.fnOf "_law_saying" "_law_saying" (defArgs s_f_law_saying) (defBody s_f_law_saying) (defScope s_f_law_saying) .none kV_f_law_saying dc_f_law_saying pm_f_law_saying an_f_law_saying cd_f_law_saying ct_f_law_saying | .law => PySem.W.fnOf "law" "law" (defArgs s_law) (defBody s_law) (defScope s_law) .none kV_law dc_law pm_law an_law cd_law ct_law
  have T : Tx w K mg ad fd a_DICE A_Faces A_NoFaces A_NoNote A_NoWorth A_Tally := {
    f := fun f => by
      cases f
      · exact F_Tally_init
      · exact F_Faces_init
      · exact F_divisor
      · exact F_fraction
      · exact F_sum_of
      · exact F_product
      · exact F_added
      · exact F_put_together
      · exact F_of_two
      · exact F_one_die
      · exact F_kept_shares
      · exact F_book_of
      · exact F_shares
      · exact F_share_of
      · exact F_Tally_note
      · exact F_Tally_many
      · exact F_Tally_counts
      · exact F_Tally_due
      · exact F_Tally_lacking
      · exact F_Tally_undo
      · exact F_Faces_take
      · exact F_die_worth
      · exact F_worth_of
      · exact F_read_faces
      · exact F_fall
      · exact F_sides_in
      · exact F_state_of
      · exact F_all_faces
      · exact F_f_law_cell
      · exact F_f_law_mix
      · exact F_f_law_dice
      · exact F_f_law_many
      · exact F_f_law_saying
      · exact F_law
    m := fun f hm => by
      cases f
      · cases hm
      · cases hm
      · exact PySem.W.mg_of X G a_f_divisor
      · exact PySem.W.mg_of X G a_f_fraction
      · exact PySem.W.mg_of X G a_f_sum_of
      · exact PySem.W.mg_of X G a_f_product
      · exact PySem.W.mg_of X G a_f_added
      · exact PySem.W.mg_of X G a_f_put_together
      · exact PySem.W.mg_of X G a_f_of_two
      · exact PySem.W.mg_of X G a_f_one_die
      · exact PySem.W.mg_of X G a_f_kept_shares
      · exact PySem.W.mg_of X G a_f_book_of
      · exact PySem.W.mg_of X G a_f_shares
      · exact PySem.W.mg_of X G a_f_share_of
      · cases hm
      · cases hm
      · cases hm
      · cases hm
      · cases hm
      · cases hm
      · cases hm
      · exact PySem.W.mg_of X G a_f_die_worth
      · exact PySem.W.mg_of X G a_f_worth_of
      · exact PySem.W.mg_of X G a_f_read_faces
      · exact PySem.W.mg_of X G a_f_fall
      · exact PySem.W.mg_of X G a_f_sides_in
      · exact PySem.W.mg_of X G a_f_state_of
      · exact PySem.W.mg_of X G a_f_all_faces
      · exact PySem.W.mg_of X G a_f_f_law_cell
      · exact PySem.W.mg_of X G a_f_f_law_mix
      · exact PySem.W.mg_of X G a_f_f_law_dice
      · exact PySem.W.mg_of X G a_f_f_law_many
      · exact PySem.W.mg_of X G a_f_f_law_saying
      · exact PySem.W.mg_of X G a_f_law
    k := fun f => by
      cases f
      · exact k_f_Tally_init
      · exact k_f_Faces_init
      · exact k_f_divisor
      · exact k_f_fraction
      · exact k_f_sum_of
      · exact k_f_product
      · exact k_f_added
      · exact k_f_put_together
      · exact k_f_of_two
      · exact k_f_one_die
      · exact k_f_kept_shares
      · exact k_f_book_of
      · exact k_f_shares
      · exact k_f_share_of
      · exact k_f_Tally_note
      · exact k_f_Tally_many
      · exact k_f_Tally_counts
      · exact k_f_Tally_due
      · exact k_f_Tally_lacking
      · exact k_f_Tally_undo
      · exact k_f_Faces_take
      · exact k_f_die_worth
      · exact k_f_worth_of
      · exact k_f_read_faces
      · exact k_f_fall
      · exact k_f_sides_in
      · exact k_f_state_of
      · exact k_f_all_faces
      · exact k_f_f_law_cell
      · exact k_f_f_law_mix
      · exact k_f_f_law_dice
      · exact k_f_f_law_many
      · exact k_f_f_law_saying
      · exact k_f_law
    b := fun f => by
      cases f
      · exact b_Tally_init
      · exact b_Faces_init
      · exact b_divisor
      · exact b_fraction
      · exact b_sum_of
      · exact b_product
      · exact b_added
      · exact b_put_together
      · exact b_of_two
      · exact b_one_die
      · exact b_kept_shares
      · exact b_book_of
      · exact b_shares
      · exact b_share_of
      · exact b_Tally_note
      · exact b_Tally_many
      · exact b_Tally_counts
      · exact b_Tally_due
      · exact b_Tally_lacking
      · exact b_Tally_undo
      · exact b_Faces_take
      · exact b_die_worth
      · exact b_worth_of
      · exact b_read_faces
      · exact b_fall
      · exact b_sides_in
      · exact b_state_of
      · exact b_all_faces
      · exact b_f_law_cell
      · exact b_f_law_mix
      · exact b_f_law_dice
      · exact b_f_law_many
      · exact b_f_law_saying
      · exact b_law
    g_Faces := PySem.W.mg_of X G g_Faces
    c_Faces := g_Faces
    g_NoFaces := PySem.W.mg_of X G g_NoFaces
    c_NoFaces := g_NoFaces
    g_NoNote := PySem.W.mg_of X G g_NoNote
    c_NoNote := g_NoNote
    g_NoWorth := PySem.W.mg_of X G g_NoWorth
    c_NoWorth := g_NoWorth
    g_Tally := PySem.W.mg_of X G g_Tally
    c_Tally := g_Tally
    C_Faces := ⟨pg_Faces, hd_Faces, po_Faces, sa_Faces⟩
    M_Faces := ⟨mk_Faces, a_f_Faces_init, i_f_Faces_init, kc_Faces⟩
    n_Faces_row := n_Faces_row
    n_Faces_count := n_Faces_count
    n_Faces_of := n_Faces_of
    h_Faces_take := ⟨a_f_Faces_take, i_f_Faces_take, k_f_Faces_take⟩
    C_Tally := ⟨pg_Tally, hd_Tally, po_Tally, sa_Tally⟩
    M_Tally := ⟨mk_Tally, a_f_Tally_init, i_f_Tally_init, kc_Tally⟩
    n_Tally_said := n_Tally_said
    n_Tally_fell := n_Tally_fell
    h_Tally_note := ⟨a_f_Tally_note, i_f_Tally_note, k_f_Tally_note⟩
    h_Tally_many := ⟨a_f_Tally_many, i_f_Tally_many, k_f_Tally_many⟩
    h_Tally_counts := ⟨a_f_Tally_counts, i_f_Tally_counts, k_f_Tally_counts⟩
    h_Tally_due := ⟨a_f_Tally_due, i_f_Tally_due, k_f_Tally_due⟩
    h_Tally_lacking := ⟨a_f_Tally_lacking, i_f_Tally_lacking, k_f_Tally_lacking⟩
    h_Tally_undo := ⟨a_f_Tally_undo, i_f_Tally_undo, k_f_Tally_undo⟩
    x_NoFaces := x_NoFaces
    k_NoFaces := k_NoFaces
    s_NoFaces := s_NoFaces
    y_NoFaces := y_NoFaces
    x_NoNote := x_NoNote
    k_NoNote := k_NoNote
    s_NoNote := s_NoNote
    y_NoNote := y_NoNote
    x_NoWorth := x_NoWorth
    k_NoWorth := k_NoWorth
    s_NoWorth := s_NoWorth
    y_NoWorth := y_NoWorth
    cat_NoFaces := fun c b cls hc hn => by
      unfold cat_NoFaces at hc
      by_cases h_NoFaces : c = "NoFaces"
      · rw [if_pos h_NoFaces] at hc
        subst h_NoFaces
        rw [g_NoFaces] at hn
        cases hn
        cases hc
        exact e_NoFaces_NoFaces
      rw [if_neg h_NoFaces] at hc
      by_cases h_NoNote : c = "NoNote"
      · rw [if_pos h_NoNote] at hc
        subst h_NoNote
        rw [g_NoNote] at hn
        cases hn
        cases hc
        exact e_NoFaces_NoNote
      rw [if_neg h_NoNote] at hc
      by_cases h_NoWorth : c = "NoWorth"
      · rw [if_pos h_NoWorth] at hc
        subst h_NoWorth
        rw [g_NoWorth] at hn
        cases hn
        cases hc
        exact e_NoFaces_NoWorth
      rw [if_neg h_NoWorth] at hc
      cases hc
    cr_NoFaces := fun c hc => by
      unfold cat_NoFaces at hc
      by_cases h_NoFaces : c = "NoFaces"
      · subst h_NoFaces
        exact ⟨_, g_NoFaces⟩
      rw [if_neg h_NoFaces] at hc
      by_cases h_NoNote : c = "NoNote"
      · subst h_NoNote
        exact ⟨_, g_NoNote⟩
      rw [if_neg h_NoNote] at hc
      by_cases h_NoWorth : c = "NoWorth"
      · subst h_NoWorth
        exact ⟨_, g_NoWorth⟩
      rw [if_neg h_NoWorth] at hc
      cases hc
    b_abs := PySem.W.mg_none_of X G z_abs
    b_int := PySem.W.mg_none_of X G z_int
    b_isinstance := PySem.W.mg_none_of X G z_isinstance
    b_len := PySem.W.mg_none_of X G z_len
    b_max := PySem.W.mg_none_of X G z_max
    b_min := PySem.W.mg_none_of X G z_min
    b_range := PySem.W.mg_none_of X G z_range
    b_set := PySem.W.mg_none_of X G z_set
    b_sorted := PySem.W.mg_none_of X G z_sorted
    b_sum := PySem.W.mg_none_of X G z_sum
    b_tuple := PySem.W.mg_none_of X G z_tuple
    g_DICE := PySem.W.mg_of X G g_DICE
    r_DICE := fun H mu => .tup (vs := [.str "dice", .str "high", .str "low", .str "again", .str "burst", .str "count"]) (.inr ⟨⟨"dice", by simp⟩, _, _, _, l_DICE, rfl, rfl, by show 6 ≤ sizeLine; decide, (.cons ⟨_, rfl⟩ (.cons ⟨_, rfl⟩ (.cons ⟨_, rfl⟩ (.cons ⟨_, rfl⟩ (.cons ⟨_, rfl⟩ (.cons ⟨_, rfl⟩ .nil))))))⟩) (.cons (.str _) (.cons (.str _) (.cons (.str _) (.cons (.str _) (.cons (.str _) (.cons (.str _) .nil))))))
  }
  exact ⟨_, fun s v => .of_eq rfl, fun base _ _ => fn_calm (all_ok T lv .law)⟩
end L17

/-! Equations of the readings' combinators, for simp. -/
namespace Ml
open PySem L2
theorem ofString_inj {a b : String} : Str.ofString a = Str.ofString b ↔ a = b := by
  constructor
  · intro h
    rw [Str.ofString_eq_toList, Str.ofString_eq_toList] at h
    have h1 : (a.toList.map Char.toNat).toArray = (b.toList.map Char.toNat).toArray := by injection h
    have h2 : a.toList.map Char.toNat = b.toList.map Char.toNat := by simpa using congrArg Array.toList h1
    have h3 : a.toList = b.toList := by
      have inj : ∀ {x y : Char}, x.toNat = y.toNat → x = y := fun {x y} h => Char.ext (UInt32.toNat_inj.mp h)
      exact (List.map_inj_right (fun x y h => inj h)).mp h2
    exact String.toList_inj.mp h3
  · rintro rfl; rfl
@[simp] theorem ofString_eq_iff {a b : String} : (Str.ofString a = Str.ofString b) = (a = b) := propext ofString_inj
@[simp] theorem ofString_beq {a b : String} : (Str.ofString a == Str.ofString b) = (a == b) := by
  rw [Bool.eq_iff_iff]; simp
variable {ev : Ev} {st : Sto} {ma mb mc : Mo D} {mr : Mo (List D)} {ta tb : Mo Bool} {s1 s2 : Ms}
@[simp] theorem e_C (d : D) : mC d ev st = .ok d st := rfl
@[simp] theorem e_Var (i : Nat) : mVar i ev st = match ev[i]? with | some (some d) => .ok d st | _ => .bad := rfl
@[simp] theorem e_Nil : mNil ev st = .ok [] st := rfl
@[simp] theorem e_Cons : mCons ma mr ev st = (ma ev st).bind fun d st1 => (mr ev st1).bind fun ds st2 => .ok (d :: ds) st2 := rfl
@[simp] theorem e_Tup : mTup mr ev st = (mr ev st).bind fun ds st1 => if ds.length ≤ lim then .ok (.tup ds) st1 else .bad := rfl
@[simp] theorem e_Disp : mDisp mr ev st = (mr ev st).bind fun ds st1 => if ds.length ≤ lim then .ok ds st1 else .bad := rfl
@[simp] theorem e_Keep : mKeep mr ev st = (mr ev st).bind fun ds st1 => .ok (.ref st1.length) (st1 ++ [.lst ds]) := rfl
@[simp] theorem e_Op (g : G2) : mOp g ma mb ev st = (ma ev st).bind fun a st1 => (mb ev st1).bind fun b st2 => Rs.of (g a b st2) := rfl
@[simp] theorem e_Un (g : G1) : mUn g ma ev st = (ma ev st).bind fun a st1 => Rs.of (g a st1) := rfl
@[simp] theorem e_CB (g : GA) : mCB g mr ev st = (mr ev st).bind fun ds st1 => Rs.of (g ds st1) := rfl
@[simp] theorem e_of_some {α : Type} (d : α) (st : Sto) : Rs.of (some (d, st)) = .ok d st := rfl
@[simp] theorem e_of_none {α : Type} : Rs.of (none : Option (α × Sto)) = .bad := rfl
@[simp] theorem e_addI (i j : Int) : gAdd (.int i) (.int j) st = some (.int (i + j), st) := rfl
@[simp] theorem e_addS (x y : Str) : gAdd (.str x) (.str y) st = if x.length + y.length ≤ lim then some (.str (x ++ y), st) else none := by
  simp [gAdd, gI, gAddS, gCatT]; split <;> simp_all
@[simp] theorem e_addT (xs ys : List D) : gAdd (.tup xs) (.tup ys) st = if xs.length + ys.length ≤ lim then some (.tup (xs ++ ys), st) else none := by
  simp [gAdd, gI, gAddS, gCatT]
@[simp] theorem e_sub (i j : Int) : gSub (.int i) (.int j) st = some (.int (i - j), st) := rfl
@[simp] theorem e_mul (i j : Int) : gMul (.int i) (.int j) st = if (small64 i || small64 j || (w250 i && w250 j)) = true then some (.int (i * j), st) else none := rfl
@[simp] theorem e_mod (i j : Int) : gMod (.int i) (.int j) st = if 0 < j then some (.int (i % j), st) else none := by simp [gMod, gIc]
@[simp] theorem e_div (i j : Int) : gDiv (.int i) (.int j) st = if 0 < j ∧ j.natAbs < 2 ^ 200 then some (.int (i / j), st) else none := by simp [gDiv, gIc]
@[simp] theorem e_neg (i : Int) : gNeg (.int i) st = some (.int (-i), st) := rfl
@[simp] theorem e_lt (i j : Int) : gLt (.int i) (.int j) st = some (.bl (decide (i < j)), st) := rfl
@[simp] theorem e_le (i j : Int) : gLe (.int i) (.int j) st = some (.bl (decide (i ≤ j)), st) := rfl
@[simp] theorem e_gt (i j : Int) : gGt (.int i) (.int j) st = some (.bl (decide (j < i)), st) := rfl
@[simp] theorem e_ge (i j : Int) : gGe (.int i) (.int j) st = some (.bl (decide (j ≤ i)), st) := rfl
@[simp] theorem e_eqS (x y : Str) : gEq (.str x) (.str y) st = some (.bl (x == y), st) := rfl
@[simp] theorem e_eqI (x y : Int) : gEq (.int x) (.int y) st = some (.bl (x == y), st) := rfl
@[simp] theorem e_eqB (x y : Bool) : gEq (.bl x) (.bl y) st = some (.bl (x == y), st) := rfl
@[simp] theorem e_neS (x y : Str) : gNe (.str x) (.str y) st = some (.bl (!(x == y)), st) := rfl
@[simp] theorem e_neI (x y : Int) : gNe (.int x) (.int y) st = some (.bl (!(x == y)), st) := rfl
@[simp] theorem e_isN (d : D) : gIsN d .non st = some (.bl (match d with | .non => true | _ => false), st) := rfl
@[simp] theorem e_isB (x y : Bool) : gIsN (.bl x) (.bl y) st = some (.bl (decide (x = y)), st) := rfl
@[simp] theorem e_notN (d : D) : gNotN d .non st = some (.bl (match d with | .non => false | _ => true), st) := rfl
@[simp] theorem e_notB (x y : Bool) : gNotN (.bl x) (.bl y) st = some (.bl (!decide (x = y)), st) := rfl
@[simp] theorem e_in (a : D) (ds : List D) (neg : Bool) : gIn neg a (.tup ds) st = if flatD a && ds.all flatD then some (.bl (if neg then !inD a ds else inD a ds), st) else none := rfl
@[simp] theorem e_flatS (x : Str) : flatD (.str x) = true := rfl
@[simp] theorem e_flatI (x : Int) : flatD (.int x) = true := rfl
@[simp] theorem e_inNil (a : D) : inD a [] = false := rfl
@[simp] theorem e_inS (x y : Str) (ds : List D) : inD (.str x) (.str y :: ds) = ((y == x) || inD (.str x) ds) := by
  unfold inD eqD
  rw [List.any_cons]
  congr 1
@[simp] theorem e_Test (m : Mo D) : mTest m ev st = (m ev st).bind fun d st1 => match d with | .bl b => .ok b st1 | _ => .bad := rfl
@[simp] theorem e_Tru (m : Mo D) : mTru m ev st = (m ev st).bind fun d st1 => match truD st1 d with | some b => .ok b st1 | none => .bad := rfl
@[simp] theorem e_truB (b : Bool) : truD st (.bl b) = some b := rfl
@[simp] theorem e_truI (b : Int) : truD st (.int b) = some (b != 0) := rfl
@[simp] theorem e_TAnd : mTAnd ta tb ev st = (ta ev st).bind fun b st1 => if b = true then tb ev st1 else .ok false st1 := rfl
@[simp] theorem e_TOr : mTOr ta tb ev st = (ta ev st).bind fun b st1 => if b = true then .ok true st1 else tb ev st1 := rfl
@[simp] theorem e_TNot : mTNot ta ev st = (ta ev st).bind fun b st1 => .ok (!b) st1 := rfl
@[simp] theorem e_And : mAnd ma mb ev st = (ma ev st).bind fun d st1 => match d with | .bl true => mb ev st1 | .bl false => .ok (.bl false) st1 | _ => .bad := rfl
@[simp] theorem e_Or : mOr ma mb ev st = (ma ev st).bind fun d st1 => match d with | .bl true => .ok (.bl true) st1 | .bl false => mb ev st1 | _ => .bad := rfl
@[simp] theorem e_Not : mNot ma ev st = (ma ev st).bind fun d st1 => match truD st1 d with | some b => .ok (.bl (!b)) st1 | none => .bad := rfl
@[simp] theorem e_If : mIf ta ma mb ev st = (ta ev st).bind fun b st1 => if b = true then ma ev st1 else mb ev st1 := rfl
@[simp] theorem e_Chain (g g' : G2) : mChain g g' ma mb mc ev st = (ma ev st).bind fun x st1 => (mb ev st1).bind fun y st2 => (Rs.of (g x y st2)).bind fun z st3 => match z with | .bl true => (mc ev st3).bind fun w st4 => Rs.of (g' y w st4) | .bl false => .ok (.bl false) st3 | _ => .bad := rfl
@[simp] theorem e_ixT (ds : List D) (i : Int) : gIx (.tup ds) (.int i) st = match L2.atI ds i with | some d => some (d, st) | none => none := rfl
@[simp] theorem e_ixR (ds : List D) (i : Int) : gIx (.ro ds) (.int i) st = match L2.atI ds i with | some d => some (d, st) | none => none := rfl
theorem e_ixL {i : Nat} {ds : List D} {k : Int} (h : st[i]? = some (.lst ds)) : gIx (.ref i) (.int k) st = match L2.atI ds k with | some d => some (d, st) | none => none := by
  simp only [gIx, seqOf, h]
  all_goals rfl
@[simp] theorem at_0 {α : Type} (x : α) (xs : List α) : L2.atI (x :: xs) 0 = some x := by simp [L2.atI, ixN]
@[simp] theorem at_1 {α : Type} (x y : α) (xs : List α) : L2.atI (x :: y :: xs) 1 = some y := by
  have h : (1 : Int) < ((x :: y :: xs).length : Nat) := by simp; omega
  simp only [L2.atI, ixN]
  rw [if_pos (by decide), if_pos h]; rfl
@[simp] theorem at_2 {α : Type} (x y z : α) (xs : List α) : L2.atI (x :: y :: z :: xs) 2 = some z := by
  have h : (2 : Int) < ((x :: y :: z :: xs).length : Nat) := by simp; omega
  simp only [L2.atI, ixN]
  rw [if_pos (by decide), if_pos h]; rfl
@[simp] theorem at_3 {α : Type} (x y z w : α) (xs : List α) : L2.atI (x :: y :: z :: w :: xs) 3 = some w := by
  have h : (3 : Int) < ((x :: y :: z :: w :: xs).length : Nat) := by simp; omega
  simp only [L2.atI, ixN]
  rw [if_pos (by decide), if_pos h]; rfl
@[simp] theorem e_NoPart : mNoPart ev st = .ok none st := rfl
@[simp] theorem e_Part : mPart ma ev st = (ma ev st).bind fun d st1 => match d with | .int i => .ok (some i) st1 | _ => .bad := rfl
@[simp] theorem e_slT (ds : List D) (lo hi : Option Int) : gSl (.tup ds) lo hi = some (.tup (cutD ds lo hi)) := rfl
@[simp] theorem e_Sl (ml mh : MoO) : mSl ma ml mh ev st = (ma ev st).bind fun d st1 => (ml ev st1).bind fun lo st2 => (mh ev st2).bind fun hi st3 => match gSl d lo hi with | some d' => .ok d' st3 | none => .bad := rfl
@[simp] theorem e_lenT (ds : List D) : gLen [.tup ds] st = some (.int ds.length, st) := rfl
@[simp] theorem e_lenR (ds : List D) : gLen [.ro ds] st = some (.int ds.length, st) := rfl
@[simp] theorem e_intI (i : Int) : gInt [.int i] st = some (.int i, st) := rfl
@[simp] theorem e_intB (b : Bool) : gInt [.bl b] st = some (.int (if b then 1 else 0), st) := rfl
@[simp] theorem e_abs (i : Int) : gAbs [.int i] st = some (.int (if i < 0 then -i else i), st) := rfl
@[simp] theorem e_max (i j : Int) : gMax [.int i, .int j] st = some (.int (if j > i then j else i), st) := rfl
@[simp] theorem e_min (i j : Int) : gMin [.int i, .int j] st = some (.int (if j < i then j else i), st) := rfl
@[simp] theorem e_str (i : Int) : gStr [.int i] st = if i.natAbs < 1000000 then some (.str (toString i), st) else none := rfl
@[simp] theorem e_Isi (c : String) : mIsi c ma ev st = (ma ev st).bind fun d st1 => match tyD st1 d with | some t => .ok (.bl (isiB t c)) st1 | none => .bad := rfl
@[simp] theorem e_Isi2 (c c' : String) : mIsi2 c c' ma ev st = (ma ev st).bind fun d st1 => match tyD st1 d with | some t => .ok (.bl (isiB t c || isiB t c')) st1 | none => .bad := rfl
@[simp] theorem ty_non : tyD st .non = some "NoneType" := rfl
@[simp] theorem ty_bl (b : Bool) : tyD st (.bl b) = some "bool" := rfl
@[simp] theorem ty_int (i : Int) : tyD st (.int i) = some "int" := rfl
@[simp] theorem ty_str (x : Str) : tyD st (.str x) = some "str" := rfl
@[simp] theorem ty_tup (ds : List D) : tyD st (.tup ds) = some "tuple" := rfl
@[simp] theorem isi_eq (a : String) : isiB a a = true := by simp [isiB]
@[simp] theorem isi_1 : isiB "tuple" "bool" = false := by decide
@[simp] theorem isi_2 : isiB "int" "tuple" = false := by decide
@[simp] theorem isi_3 : isiB "int" "bool" = false := by decide
@[simp] theorem isi_4 : isiB "int" "str" = false := by decide
@[simp] theorem isi_5 : isiB "str" "tuple" = false := by decide
@[simp] theorem isi_6 : isiB "str" "bool" = false := by decide
@[simp] theorem isi_7 : isiB "str" "int" = false := by decide
@[simp] theorem isi_8 : isiB "bool" "int" = true := by decide
@[simp] theorem isi_9 : isiB "bool" "tuple" = false := by decide
@[simp] theorem isi_10 : isiB "NoneType" "tuple" = false := by decide
@[simp] theorem isi_11 : isiB "NoneType" "int" = false := by decide
@[simp] theorem isi_12 : isiB "tuple" "int" = false := by decide
@[simp] theorem isi_13 : isiB "tuple" "str" = false := by decide
@[simp] theorem isi_14 : isiB "bool" "str" = false := by decide
@[simp] theorem isi_15 : isiB "NoneType" "bool" = false := by decide
@[simp] theorem isi_16 : isiB "NoneType" "str" = false := by decide
@[simp] theorem e_Q {α : Type} (g : List D → Option α) : mQ g mr ev st = (mr ev st).bind fun ds st1 => match g ds with | some d => .ok d st1 | none => .bad := rfl
@[simp] theorem e_sumN : gSum [] = some (.int 0) := rfl
@[simp] theorem e_tupOf (ds : List D) : gTupOf ds = some (.tup ds) := rfl
@[simp] theorem e_sorted (ns : List Int) : gSorted (ns.map D.int) = some ((sortI ns).map D.int) := by
  have h : ∀ ns : List Int, intsOf (ns.map D.int) = some ns := fun ns => by
    induction ns with
    | nil => rfl
    | cons n ns ih => simp [intsOf, ih]
  simp [gSorted, h]
theorem intsOf_map (ns : List Int) : intsOf (ns.map D.int) = some ns := by
  induction ns with
  | nil => rfl
  | cons n ns ih => simp [intsOf, ih]
theorem blsOf_map (ns : List Bool) : blsOf (ns.map D.bl) = some ns := by
  induction ns with
  | nil => rfl
  | cons n ns ih => simp [blsOf, ih]
@[simp] theorem e_sum (ns : List Int) : gSum (ns.map D.int) = some (.int ns.sum) := by simp [gSum, intsOf_map]
@[simp] theorem e_sum1 (a : Int) : gSum [.int a] = some (.int a) := by simp [gSum, intsOf]
@[simp] theorem e_sum2 (a b : Int) : gSum [.int a, .int b] = some (.int (a + b)) := by simp [gSum, intsOf]
@[simp] theorem e_sort2 (a b : Int) : gSorted [.int a, .int b] = some (if a ≤ b then [.int a, .int b] else [.int b, .int a]) := by
  simp only [gSorted, intsOf, Option.map_some, sortI, insI]
  split <;> rfl
@[simp] theorem e_all (ns : List Bool) : gAll (ns.map D.bl) = some (.bl (ns.all id)) := by simp [gAll, blsOf_map]
@[simp] theorem e_Skip : mSkip ev st = .ok (.nx, ev) st := rfl
@[simp] theorem e_Seq : mSeq s1 s2 ev st = match s1 ev st with | .ok (.nx, ev1) st1 => s2 ev1 st1 | r => r := rfl
@[simp] theorem e_Ret : mRet ma ev st = (ma ev st).bind fun d st1 => .ok (.rt d, ev) st1 := rfl
@[simp] theorem e_Set (i : Nat) : mSet i ma ev st = (ma ev st).bind fun d st1 => .ok (.nx, ev.set i (some d)) st1 := rfl
@[simp] theorem e_IfS : mIfS ta s1 s2 ev st = (ta ev st).bind fun b st1 => if b = true then s1 ev st1 else s2 ev st1 := rfl
@[simp] theorem e_Drop : mDrop ma ev st = (ma ev st).bind fun _ st1 => .ok (.nx, ev) st1 := rfl
@[simp] theorem e_gtName (i : Nat) (d : D) : gtName i d ev = some (ev.set i (some d)) := rfl
@[simp] theorem e_gtsNil : gtsNil [] ev = some ev := rfl
@[simp] theorem e_gtsCons (g : Gt) (gs : Gts) (d : D) (ds : List D) : gtsCons g gs (d :: ds) ev = (g d ev).bind (gs ds) := rfl
@[simp] theorem e_gtTup (n : Nat) (gs : Gts) (ds : List D) : gtTup n gs (.tup ds) ev = if ds.length = n then gs ds ev else none := rfl
@[simp] theorem e_Asg (g : Gt) : mAsg ma g ev st = (ma ev st).bind fun d st1 => match g d ev with | some ev' => .ok (.nx, ev') st1 | none => .bad := rfl
@[simp] theorem e_Par (i j : Nat) : mPar i j mr ev st = (mr ev st).bind fun ds st1 => match ds with | [x, y] => .ok (.nx, (ev.set i (some x)).set j (some y)) st1 | _ => .bad := rfl
@[simp] theorem e_For (mi : Mo (List D)) (g : Gt) (b : Ms) : mFor mi g b ev st = (mi ev st).bind fun it st1 => loop g b it ev st1 := rfl
@[simp] theorem e_ItT : mItT ma ev st = (ma ev st).bind fun d st1 => match d with | .tup ds => if ds.length ≤ lim then .ok ds st1 else .bad | _ => .bad := rfl
@[simp] theorem e_ItR : mItR mr ev st = (mr ev st).bind fun ds st1 => match ds with | [.int j] => if j.toNat ≤ lim ∧ -1000000000 ≤ j then .ok (rngD 0 j.toNat) st1 else .bad | _ => .bad := rfl
@[simp] theorem e_ItR2 : mItR2 mr ev st = (mr ev st).bind fun ds st1 => match ds with | [.int i, .int j] => if (j - i).toNat ≤ lim ∧ -1000000000 ≤ i ∧ i ≤ 1000000000 ∧ -1000000000 ≤ j ∧ j ≤ 1000000000 then .ok (rngD i (j - i).toNat) st1 else .bad | _ => .bad := rfl
@[simp] theorem e_Lc (vs : List Nat) (mi : Mo (List D)) (g : Gt) (t : Mo Bool) (m : Mo D) : mLc vs mi g t m ev st = (mi ev st).bind fun it st1 => lcLoop g t m it (wipeD ev vs) st1 := rfl
@[simp] theorem e_lcN (g : Gt) (t : Mo Bool) (m : Mo D) : lcLoop g t m [] ev st = .ok [] st := rfl
@[simp] theorem e_lcC (g : Gt) (t : Mo Bool) (m : Mo D) (d : D) (ds : List D) : lcLoop g t m (d :: ds) ev st = match g d ev with
    | none => .bad
    | some ev1 => match t ev1 st with
      | .ok true st1 => (match m ev1 st1 with
        | .ok y st2 => (match lcLoop g t m ds ev st2 with
          | .ok ys st3 => .ok (y :: ys) st3
          | _ => .bad)
        | _ => .bad)
      | .ok false st1 => lcLoop g t m ds ev st1
      | _ => .bad := rfl
@[simp] theorem e_wN : wipeD ev [] = ev := rfl
@[simp] theorem e_wC (v : Nat) (vs : List Nat) : wipeD ev (v :: vs) = (wipeD ev vs).set v none := rfl
@[simp] theorem e_Yes : mYes ev st = .ok true st := rfl
@[simp] theorem e_Zip : mZip mr ev st = (mr ev st).bind fun ds st1 => match ds with | [.tup xs, .tup ys] => if (zipD xs ys).length ≤ lim then .ok (zipD xs ys) st1 else .bad | _ => .bad := rfl
@[simp] theorem e_Call (c : Fm) : mCall c mr ev st = (mr ev st).bind fun ds st1 => match c ds st1 with | .ok d st2 => .ok d st2 | _ => .bad := rfl
@[simp] theorem e_GetN (md : Mo (List (Key × D))) (mk mx : Mo D) : mGetN md mk mx ev st = (md ev st).bind fun kvs st1 => (mk ev st1).bind fun k st2 => (mx ev st2).bind fun x st3 => match keyOf k with | some kk => .ok ((valD kvs kk).getD x) st3 | none => .bad := rfl
@[simp] theorem e_DictD (ps : List (Mo D × Mo D)) : mDictD ps ev st = (mPairs ps ev st).bind fun kvs st1 => if kvs.length ≤ 15 then .ok (mergeD [] kvs) st1 else .bad := rfl
@[simp] theorem e_PairsN : mPairs [] ev st = .ok [] st := rfl
@[simp] theorem e_PairsC (mk mv : Mo D) (r : List (Mo D × Mo D)) : mPairs ((mk, mv) :: r) ev st = (mk ev st).bind fun k st1 => (mv ev st1).bind fun v st2 => match keyOf k with | some kk => (mPairs r ev st2).bind fun ps st3 => .ok ((kk, v) :: ps) st3 | none => .bad := rfl
@[simp] theorem e_keyI (i : Int) : keyOf (.int i) = some (.inl i) := rfl
@[simp] theorem e_keyS (x : Str) : keyOf (.str x) = some (.inr x) := rfl
theorem lim_10 {n : Nat} (h : n ≤ 1000) : n ≤ lim := Nat.le_trans h (by decide)
@[simp] theorem lim0 : 0 ≤ lim := Nat.zero_le _
@[simp] theorem lim1 : 1 ≤ lim := by decide
@[simp] theorem lim2 : 2 ≤ lim := by decide
@[simp] theorem lim3 : 3 ≤ lim := by decide
@[simp] theorem lim4 : 4 ≤ lim := by decide
@[simp] theorem lim5 : 5 ≤ lim := by decide
@[simp] theorem lim6 : 6 ≤ lim := by decide
theorem small_of {i : Int} (h : -1000000 ≤ i) (h' : i ≤ 1000000) : small64 i = true := decide_eq_true (by omega)
/-! ### loops -/
theorem loop_inv {g : Gt} {body : Ms} {I : Ev → Prop} : ∀ {ds : List D}, (∀ d ∈ ds, ∀ ev st, I ev → ∃ ev1 ev2 st2, g d ev = some ev1 ∧ body ev1 st = .ok (.nx, ev2) st2 ∧ I ev2) → ∀ ev st, I ev → ∃ ev' st', loop g body ds ev st = .ok (.nx, ev') st' ∧ I ev'
  | [], _, ev, st, h => ⟨ev, st, rfl, h⟩
  | d :: ds, hs, ev, st, h => by
    obtain ⟨ev1, ev2, st2, h1, h2, h3⟩ := hs d List.mem_cons_self ev st h
    obtain ⟨ev', st', h4, h5⟩ := loop_inv (fun d hd => hs d (List.mem_cons_of_mem _ hd)) ev2 st2 h3
    refine ⟨ev', st', ?_, h5⟩
    simp only [loop, h1, h2, h4]
end Ml

/-! Equations of more combinators: lists and dicts of the store. -/
namespace Ml
open PySem L2
variable {ev : Ev} {st : Sto} {ma mb mc mk mv mx : Mo D} {mr : Mo (List D)} {ta tb : Mo Bool} {s1 s2 : Ms} {xa xb : Mo Lo}
@[simp] theorem e_LoR : mLoR ma ev st = (ma ev st).bind fun d st1 => .ok (.r d) st1 := rfl
@[simp] theorem e_LoN : mLoN mr ev st = (mr ev st).bind fun d st1 => .ok (.n d) st1 := rfl
@[simp] theorem e_loN (ds : List D) : loAt st (.n ds) = some ds := rfl
@[simp] theorem e_loR (i : Nat) : loAt st (.r (.ref i)) = match st[i]? with | some (.lst ds) => some ds | _ => none := rfl
@[simp] theorem e_Cat : mCat xa xb ev st = (xa ev st).bind fun u st1 => (xb ev st1).bind fun v st2 => match loAt st2 u, loAt st2 v with
  | some ds, some es => if ds.length + es.length ≤ lim then .ok (ds ++ es) st2 else .bad
  | _, _ => .bad := rfl
@[simp] theorem e_Rep : mRep xa mb ev st = (xa ev st).bind fun u st1 => (mb ev st1).bind fun v st2 => match loAt st2 u, v with
  | some ds, .int k => if -(2 ^ 63) ≤ k ∧ k < 2 ^ 63 ∧ ds.length * k.toNat ≤ lim then .ok (List.replicate k.toNat ds).flatten st2 else .bad
  | _, _ => .bad := rfl
@[simp] theorem e_CmpL (f : Bool → Bool) : mCmpL f xa xb ev st = (xa ev st).bind fun u st1 => (xb ev st1).bind fun v st2 => match loAt st2 u, loAt st2 v with
  | some ds, some es => if doks 59 ds && doks 59 es then .ok (.bl (f (leq ds es))) st2 else .bad
  | _, _ => .bad := rfl
@[simp] theorem e_TupOf : mTupOf ma ev st = (ma ev st).bind fun d st1 => match d with
  | .tup ds => .ok ds st1
  | _ => .bad := rfl
@[simp] theorem e_RevT : mRevT ma ev st = (ma ev st).bind fun d st1 => match d with
  | .tup ds => .ok (.tup ds.reverse) st1
  | _ => .bad := rfl
@[simp] theorem e_Upper : mUpper ma ev st = (ma ev st).bind fun d st1 => match d with
  | .str x => if x.length ≤ lim then .ok (.str (Txt.upper x)) st1 else .bad
  | _ => .bad := rfl
@[simp] theorem e_mulS (x : Str) (n : Int) : gMulS (.str x) (.int n) st = if mul2Ok x n then some (.str (Txt.mul x n), st) else none := rfl
@[simp] theorem e_slS (x : Str) (lo hi : Option Int) : gSl (.str x) lo hi = if x.length ≤ lim then some (.str (cutS x lo hi)) else none := rfl
@[simp] theorem e_Frz : mFrz ma ev st = (ma ev st).bind fun d st1 => match d with
  | .ref n => (match st1[n]? with
    | some ob => (match lockO ob with
      | some ob' => .ok (.ref n) (st1.set n ob')
      | none => .bad)
    | none => .bad)
  | _ => .bad := rfl
@[simp] theorem e_lockL (ds : List D) : lockO (.lst ds) = some (.ro ds) := rfl
@[simp] theorem e_ItN : mItN mr ev st = (mr ev st).bind fun ds st1 => if ds.length ≤ lim then .ok ds st1 else .bad := rfl
@[simp] theorem st_at0 (st l : Sto) : (st ++ l)[st.length]? = l[0]? := by
  rw [List.getElem?_append_right (Nat.le_refl _), Nat.sub_self]
@[simp] theorem st_atk (st l : Sto) (k : Nat) : (st ++ l)[st.length + k]? = l[k]? := by
  rw [List.getElem?_append_right (Nat.le_add_right _ _), Nat.add_sub_cancel_left]
@[simp] theorem e_ItK (k : Kd) : mItK k ma ev st = (ma ev st).bind fun d st1 => match d with
  | .ref j => (match st1[j]? with
    | some ob => (match itemsK k ob with
      | some ds => .ok ds st1
      | none => .bad)
    | none => .bad)
  | _ => .bad := rfl
@[simp] theorem e_KeepD (m : Mo (List (Key × D))) : mKeepD m ev st = (m ev st).bind fun ds st1 => .ok (.ref st1.length) (st1 ++ [.dK false ds]) := rfl
@[simp] theorem e_KeepT (m : Mo (List (List Key × D))) : mKeepT m ev st = (m ev st).bind fun ds st1 => .ok (.ref st1.length) (st1 ++ [.dT false ds]) := rfl
@[simp] theorem e_DNew {κ : Type} : (mDNew : Mo (List (κ × D))) ev st = .ok [] st := rfl
@[simp] theorem e_DAt : mDAt ma mk ev st = (ma ev st).bind fun d st1 => (mk ev st1).bind fun k st2 => match getD1 st2 d k with
  | some (some v) => .ok v st2
  | _ => .bad := rfl
@[simp] theorem e_DGet : mDGet ma mk mx ev st = (ma ev st).bind fun d st1 => if isDct st1 d = true then (mk ev st1).bind fun k st2 => (mx ev st2).bind fun x st3 => match getD1 st3 d k with
  | some r => .ok (r.getD x) st3
  | none => .bad else .bad := rfl
@[simp] theorem e_DPut : mDPut ma mk mv ev st = (mv ev st).bind fun v st1 => (ma ev st1).bind fun d st2 => (mk ev st2).bind fun k st3 => if isDct st3 d = true then (match putD1 st3 d k v with
  | some st4 => .ok (.nx, ev) st4
  | none => .bad) else .bad := rfl
@[simp] theorem e_seqR (i : Nat) : seqOf st (.ref i) = match st[i]? with | some (.lst ds) => some ds | some (.ro ds) => some ds | _ => none := rfl
@[simp] theorem e_ixRef (i : Nat) (k : Int) : gIx (.ref i) (.int k) st = match seqOf st (.ref i) with
  | some ds => (match L2.atI ds k with | some d => some (d, st) | none => none)
  | none => none := rfl
@[simp] theorem e_lenRef (i : Nat) : gLen [.ref i] st = (seqOf st (.ref i)).map fun ds => (.int ds.length, st) := by
  cases h : seqOf st (.ref i) <;> simp only [gLen, lenD, h] <;> rfl
theorem cut_to {α : Type} (ds : List α) (j : Nat) : cutD ds none (some (j : Int)) = ds.take j := by
  unfold cutD
  simp only [HT.sIx]
  rw [if_neg (by omega)]
  simp only [Int.toNat_natCast, List.drop_zero, Nat.sub_zero]
  rcases Nat.le_total j ds.length with h | h
  · rw [Nat.min_eq_left h]
  · rw [Nat.min_eq_right h, List.take_length, List.take_of_length_le h]
theorem cut_from {α : Type} (ds : List α) (j : Nat) : cutD ds (some (j : Int)) none = ds.drop j := by
  unfold cutD
  simp only [HT.sIx]
  rw [if_neg (by omega)]
  simp only [Int.toNat_natCast]
  rcases Nat.le_total j ds.length with h | h
  · rw [Nat.min_eq_left h, List.take_of_length_le (by simp)]
  · rw [Nat.min_eq_right h]; simp [List.drop_eq_nil_of_le h]
theorem cut_sub {α : Type} (ds : List α) (lo hi : Option Int) : ∀ x ∈ cutD ds lo hi, x ∈ ds := fun x h => List.mem_of_mem_drop (List.mem_of_mem_take h)
theorem cut_len {α : Type} (ds : List α) (lo hi : Option Int) : (cutD ds lo hi).length ≤ ds.length := by
  unfold cutD
  rw [List.length_take, List.length_drop]
  omega
end Ml

/-! Equations of the combinators of own classes: fields, methods, raise, try. -/
namespace Ml
open PySem L2
variable {ev : Ev} {st : Sto} {ma mb mv : Mo D} {mr : Mo (List D)} {s1 s2 : Ms}
@[simp] theorem e_Fld (cn f : Str) : mFld cn f ma ev st = (ma ev st).bind fun d st1 => match insAt st1 cn d with
  | some (_, fs) => (match fs.lookup f with
    | some v => .ok v st1
    | none => .bad)
  | none => .bad := rfl
@[simp] theorem e_FldSet (cn f : Str) : mFldSet cn f ma mv ev st = (mv ev st).bind fun y st1 => (ma ev st1).bind fun d st2 => match insAt st2 cn d with
  | some (i, fs) => if fs.length < 1000 then .ok (.nx, ev) (st2.set i (.ins cn (putFD f y fs))) else .bad
  | none => .bad := rfl
@[simp] theorem e_Meth (cn m : Str) (c : Fm) : mMeth cn m c ma mr ev st = (ma ev st).bind fun d st1 => match insAt st1 cn d with
  | some (_, fs) => (match fs.lookup m with
    | none => (mr ev st1).bind fun ds st2 => (match c (d :: ds) st2 with
      | .ok d st3 => .ok d st3
      | _ => .bad)
    | some _ => .bad)
  | none => .bad := rfl
@[simp] theorem e_MethX (cn m : Str) (c : Fm) : mMethX cn m c ma mr ev st = (ma ev st).bind fun d st1 => match insAt st1 cn d with
  | some (_, fs) => (match fs.lookup m with
    | none => (mr ev st1).bind fun ds st2 => cCall c ev (d :: ds) st2
    | some _ => .bad)
  | none => .bad := rfl
@[simp] theorem e_CallX (c : Fm) : mCallX c mr ev st = (mr ev st).bind fun ds st1 => cCall c ev ds st1 := rfl
theorem cCall_ok {c : Fm} {ds : List D} {st' : Sto} {d : D} (h : c ds st = .ok d st') : cCall c ev ds st = .ok d st' := by unfold cCall; rw [h]
theorem cCall_exc {c : Fm} {ds : List D} {st' : Sto} {x : Str} {e : Ev} (h : c ds st = .exc x e st') : cCall c ev ds st = .exc x ev st' := by unfold cCall; rw [h]
@[simp] theorem e_Raise (c : Str) : mRaise c ev st = .exc c ev st := rfl
@[simp] theorem e_insR (cn : Str) (i : Nat) : insAt st cn (.ref i) = match st[i]? with
    | some (.ins c fs) => if c = cn then some (i, fs) else none
    | _ => none := rfl
@[simp] theorem e_New (cn : Str) (c : Fm) : mNew cn c mr ev st = (mr ev st).bind fun ds st1 => match c (.ref st1.length :: ds) (st1 ++ [.ins cn []]) with
  | .ok .non st2 => .ok (.ref st1.length) st2
  | _ => .bad := rfl
@[simp] theorem e_NewG (lv : Nat) (cn : Str) (c : Fm) : mNewG lv cn c mr ev st = if 2 ≤ lv then mNew cn c mr ev st else .bad := rfl
@[simp] theorem e_TabI (tab : List (String × String)) : mTabI tab ev st = .ok (tab.map fun pr => D.str (Str.ofString pr.1)) st := rfl
@[simp] theorem e_Try (cat : Str → Option Bool) : mTry cat s1 s2 ev st = match s1 ev st with
  | .exc c ev1 st1 => (match cat c with
    | some true => (match s2 ev1 st1 with
      | .ok r st2 => .ok r st2
      | _ => .bad)
    | some false => .exc c ev1 st1
    | none => .bad)
  | .ok r st1 => .ok r st1
  | .bad => .bad := rfl
@[simp] theorem e_loopN (g : Gt) (b : Ms) : loop g b [] ev st = .ok (.nx, ev) st := rfl
theorem e_loopC (g : Gt) (b : Ms) (d : D) (ds : List D) : loop g b (d :: ds) ev st = match g d ev with
    | none => .bad
    | some ev1 => match b ev1 st with
      | .ok (.nx, ev2) st2 => loop g b ds ev2 st2
      | .ok (.ct, ev2) st2 => loop g b ds ev2 st2
      | .ok (.bk, ev2) st2 => .ok (.nx, ev2) st2
      | .ok (.rt d, ev2) st2 => .ok (.rt d, ev2) st2
      | .bad => .bad
      | .exc c e s => .exc c e s := rfl
theorem loop_app (g : Gt) (b : Ms) : ∀ (xs ys : List D) (ev : Ev) (st : Sto) (ev1 : Ev) (st1 : Sto), loop g b xs ev st = .ok (.nx, ev1) st1 → (∀ d ∈ xs, ∀ ev st ev2 st2, b ev st ≠ .ok (.bk, ev2) st2) → loop g b (xs ++ ys) ev st = loop g b ys ev1 st1
  | [], ys, ev, st, ev1, st1, h, _ => by cases h; rfl
  | d :: xs, ys, ev, st, ev1, st1, h, hb => by
    rw [List.cons_append, e_loopC]
    rw [e_loopC] at h
    cases hg : g d ev with
    | none => rw [hg] at h; cases h
    | some e1 =>
      rw [hg] at h
      simp only at h ⊢
      cases hr : b e1 st with
      | bad => rw [hr] at h; cases h
      | exc _ _ _ => rw [hr] at h; cases h
      | ok r s2 =>
        obtain ⟨fl, e2⟩ := r
        rw [hr] at h
        cases fl with
        | nx => exact loop_app g b xs ys e2 s2 ev1 st1 h fun d hd => hb d (List.mem_cons_of_mem _ hd)
        | ct => exact loop_app g b xs ys e2 s2 ev1 st1 h fun d hd => hb d (List.mem_cons_of_mem _ hd)
        | bk => exact absurd hr (hb d List.mem_cons_self _ _ _ _)
        | rt d => cases h
end Ml

/-! Equations: kept exceptions, count, index, pop. -/
namespace Ml
open PySem L2
variable {ev : Ev} {st : Sto} {ma mb mv : Mo D} {mr : Mo (List D)} {s1 s2 : Ms}
@[simp] theorem e_TryK (cat : Str → Option Bool) (i j : Nat) : mTryK cat i j s1 ev st = match s1 ev st with
  | .exc c ev1 st1 => (match cat c with
    | some true => if i < ev1.length then .ok (.nx, (ev1.set j (some (.ref st1.length))).set i none) (st1 ++ [.exc c]) else .bad
    | some false => .exc c ev1 st1
    | none => .bad)
  | .ok r st1 => .ok r st1
  | .bad => .bad := rfl
@[simp] theorem e_IsE (tab : Str → Option Bool) : mIsE tab ma ev st = (ma ev st).bind fun d st1 => match d with
  | .ref i => (match st1[i]? with
    | some (.exc c) => (match tab c with
      | some b => .ok (.bl b) st1
      | none => .bad)
    | _ => .bad)
  | _ => .bad := rfl
@[simp] theorem e_Cnt : mCnt ma mb ev st = (ma ev st).bind fun d st1 => match lstD st1 d with
  | some _ => (mb ev st1).bind fun y st2 => (match lstD st2 d with
    | some ds => if flatD y && ds.all flatD then .ok (.int (ds.countP (fun z => eqD z y) : Nat)) st2 else .bad
    | none => .bad)
  | none => .bad := rfl
@[simp] theorem e_Idx : mIdx ma mb ev st = (ma ev st).bind fun d st1 => match lstD st1 d with
  | some _ => (mb ev st1).bind fun y st2 => (match lstD st2 d with
    | some ds => if flatD y && ds.all flatD then (match ds.findIdx? (fun z => eqD z y) with
      | some j => .ok (.int (j : Nat)) st2
      | none => .bad) else .bad
    | none => .bad)
  | none => .bad := rfl
@[simp] theorem e_Pop : mPop ma ev st = (ma ev st).bind fun d st1 => match d with
  | .ref i => (match st1[i]? with
    | some (.lst ds) => (match ds[ds.length - 1]? with
      | some y => .ok y (st1.set i (.lst ds.dropLast))
      | none => .bad)
    | _ => .bad)
  | _ => .bad := rfl
@[simp] theorem e_lstD (i : Nat) : lstD st (.ref i) = match st[i]? with
    | some (.lst ds) => some ds
    | some (.ro ds) => some ds
    | _ => none := rfl
@[simp] theorem e_flatB (b : Bool) : flatD (.bl b) = true := rfl
@[simp] theorem e_eqDB (a b : Bool) : eqD (.bl a) (.bl b) = (a == b) := rfl
@[simp] theorem e_eqDI (a b : Int) : eqD (.int a) (.int b) = (a == b) := rfl
theorem get_app {st : Sto} {i : Nat} {o : Ob} (h : st[i]? = some o) (l : Sto) : (st ++ l)[i]? = some o := by
  rw [List.getElem?_append_left (List.getElem?_eq_some_iff.mp h).1]; exact h
end Ml

namespace Ml
open PySem L2
theorem e_Lst (ma : Mo D) (ev : Ev) (st : Sto) : mLst ma ev st = (ma ev st).bind fun d st1 => match d with
  | .ref i => (match st1[i]? with
    | some (.lst ds) => .ok ds st1
    | some (.ro ds) => .ok ds st1
    | _ => .bad)
  | .ro ds => .ok ds st1
  | _ => .bad := rfl
/-- what st holds st' holds, but for some places -/
def Kp (st st' : Sto) (S : List Nat) : Prop := ∀ k, k < st.length → k ∉ S → st'[k]? = st[k]?
theorem Kp.refl (st : Sto) (S : List Nat) : Kp st st S := fun _ _ _ => rfl
theorem Kp.app (st g : Sto) (S : List Nat) : Kp st (st ++ g) S := fun k hk _ => List.getElem?_append_left hk
theorem Kp.trans {st st1 st2 : Sto} {S : List Nat} (h : Kp st st1 S) (hl : st.length ≤ st1.length) (h' : Kp st1 st2 S) : Kp st st2 S := fun k hk hs => (h' k (by omega) hs).trans (h k hk hs)
theorem Kp.set {st st1 : Sto} {S : List Nat} (h : Kp st st1 S) {n : Nat} {x : Ob} (hn : n ∈ S ∨ st.length ≤ n) : Kp st (st1.set n x) S := fun k hk hs => by
  rw [List.getElem?_set_ne]
  · exact h k hk hs
  · rintro rfl
    rcases hn with hn | hn
    · exact hs hn
    · omega
theorem Kp.wide {st st1 : Sto} {S T : List Nat} (h : Kp st st1 S) (hs : ∀ x ∈ S, x ∈ T) : Kp st st1 T := fun k hk ht => h k hk fun q => ht (hs k q)
theorem Kp.pre {st st1 : Sto} (h : Kp st st1 []) (hl : st.length ≤ st1.length) : ∃ g, st1 = st ++ g := by
  refine ⟨st1.drop st.length, List.ext_getElem? fun k => ?_⟩
  by_cases hk : k < st.length
  · rw [h k hk (by simp), List.getElem?_append_left hk]
  · rw [List.getElem?_append_right (by omega), List.getElem?_drop]
    congr 1; omega
end Ml

namespace Ml
open PySem L2
/-! ### cells and draws -/
def mixv (c p m : Int) : Int := c * 48271 % p * (c * 48271 % p + 7) % p % m
theorem mixv_pos {c p m : Int} (h : 0 < m) : 0 ≤ mixv c p m := Int.emod_nonneg _ (by omega)
theorem mixv_lt {c p m : Int} (h : 0 < m) : mixv c p m < m := Int.emod_lt_of_pos _ h
theorem mix_ok {c p m : Int} {st : Sto} (h1 : 0 < p) (h2 : p < 10000) (h3 : 0 < m) : fnM 3 4 m_f_law_mix [.int c, .int p, .int m] st = .ok (.int (mixv c p m)) st := by
  have h4 : 0 ≤ c * 48271 % p := Int.emod_nonneg _ (by omega)
  have h5 : c * 48271 % p < p := Int.emod_lt_of_pos _ h1
  have h6 : small64 48271 = true := by decide
  have h7 : small64 (c * 48271 % p) = true := small_of (by omega) (by omega)
  simp [fnM, m_f_law_mix, h6, h7, h1, h3, mixv]
theorem cell_ok {ns : List Int} {k : Int} {st : Sto} (h1 : 0 ≤ k) : ∃ c : Int, fnM 2 2 m_f_law_cell [.ro (ns.map D.int), .int k] st = .ok (.int c) st := by
  by_cases h : k < (ns.length : Int)
  · have hk : k.toNat < ns.length := by omega
    have e := atI_nat (xs := ns.map D.int) (j := k.toNat) (v := .int ns[k.toNat]) (by simp only [List.getElem?_map, List.getElem?_eq_getElem hk, Option.map_some])
    rw [Int.toNat_of_nonneg h1] at e
    refine ⟨ns[k.toNat], ?_⟩
    simp [fnM, m_f_law_cell, h, e]
  · refine ⟨0, ?_⟩
    simp [fnM, m_f_law_cell, h]
/-! ### sayings -/
end Ml

namespace Ml
open PySem L2
/-! ### cells and draws -/
inductive W2 where
  | plus | less | most | least | beats
inductive WL where
  | high | low | again | burst | count
def W2.s : W2 → String
  | .plus => "plus" | .less => "less" | .most => "most" | .least => "least" | .beats => "beats"
def WL.s : WL → String
  | .high => "high" | .low => "low" | .again => "again" | .burst => "burst" | .count => "count"
inductive Say where
  | num (n : Int) | die (m s : Int) | dl (w : WL) (m s l : Int) | two (w : W2) (a b : Say) | times (n : Int) (a : Say)
def enc : Say → D
  | .num n => .tup [.str "number", .int n]
  | .die m s => .tup [.str "dice", .int m, .int s]
  | .dl w m s l => .tup [.str (Str.ofString w.s), .int m, .int s, .int l]
  | .two w a b => .tup [.str (Str.ofString w.s), enc a, enc b]
  | .times n a => .tup [.str "times", .int n, enc a]
def lastOk : WL → Int → Int → Int → Prop
  | .high, m, _, l => 1 ≤ l ∧ l ≤ m
  | .low, m, _, l => 1 ≤ l ∧ l ≤ m
  | .again, _, s, l => 1 ≤ l ∧ l ≤ s - 1
  | .burst, _, _, l => 1 ≤ l ∧ l ≤ 2
  | .count, _, s, l => 2 ≤ l ∧ l ≤ s
def Wf : Say → Prop
  | .num n => 0 ≤ n ∧ n ≤ 9
  | .die m s => 1 ≤ m ∧ m ≤ 3 ∧ 2 ≤ s ∧ s ≤ 6
  | .dl w m s l => 1 ≤ m ∧ m ≤ 3 ∧ 2 ≤ s ∧ s ≤ 6 ∧ lastOk w m s l
  | .two _ a b => Wf a ∧ Wf b
  | .times n a => 0 ≤ n ∧ n ≤ 3 ∧ Wf a
def dep : Say → Nat
  | .two _ a b => max (dep a) (dep b) + 1
  | .times _ a => dep a + 1
  | _ => 1
def dice : Say → Int
  | .num _ => 0
  | .die m _ => m
  | .dl _ m _ _ => m
  | .two _ a b => dice a + dice b
  | .times _ a => dice a
theorem dep_pos : ∀ s, 1 ≤ dep s
  | .num _ => Nat.le_refl _
  | .die _ _ => Nat.le_refl _
  | .dl _ _ _ _ => Nat.le_refl _
  | .two _ _ _ => Nat.le_add_left _ _
  | .times _ _ => Nat.le_add_left _ _
theorem dice_pos : ∀ s, Wf s → 0 ≤ dice s
  | .num _, _ => Int.le_refl _
  | .die _ _, h => by have := h.1; simp only [dice]; omega
  | .dl _ _ _ _, h => by have := h.1; simp only [dice]; omega
  | .two _ a b, h => by have := dice_pos a h.1; have := dice_pos b h.2; simp only [dice]; omega
  | .times _ a, h => by have := dice_pos a h.2.2; simpa only [dice] using this
@[simp] theorem enc_num (n : Int) : enc (.num n) = .tup [.str "number", .int n] := rfl
@[simp] theorem enc_die (m s : Int) : enc (.die m s) = .tup [.str "dice", .int m, .int s] := rfl
/-- a saying is a tuple that begins with its word -/
def hd : Say → String
  | .num _ => "number"
  | .die _ _ => "dice"
  | .dl w _ _ _ => w.s
  | .two w _ _ => w.s
  | .times _ _ => "times"
def tl : Say → List D
  | .num n => [.int n]
  | .die m s => [.int m, .int s]
  | .dl _ m s l => [.int m, .int s, .int l]
  | .two _ a b => [enc a, enc b]
  | .times n a => [.int n, enc a]
theorem enc_eq : ∀ s, enc s = .tup (.str (Str.ofString (hd s)) :: tl s)
  | .num _ => rfl
  | .die _ _ => rfl
  | .dl _ _ _ _ => rfl
  | .two _ _ _ => rfl
  | .times _ _ => rfl
@[simp] theorem ty_enc (s : Say) (st : Sto) : tyD st (enc s) = some "tuple" := by rw [enc_eq]; rfl
@[simp] theorem ix0_enc (s : Say) (st : Sto) : gIx (enc s) (.int 0) st = some (.str (Str.ofString (hd s)), st) := by rw [enc_eq]; simp
@[simp] theorem at_m1_2 {α : Type} (x y : α) : L2.atI [x, y] (-1) = some y := rfl
@[simp] theorem at_m1_3 {α : Type} (x y z : α) : L2.atI [x, y, z] (-1) = some z := rfl
@[simp] theorem at_m1_4 {α : Type} (x y z w : α) : L2.atI [x, y, z, w] (-1) = some w := rfl
@[simp] theorem cut_1_2 {α : Type} (x y : α) : cutD [x, y] (some 1) none = [y] := rfl
@[simp] theorem cut_1_3 {α : Type} (x y z : α) : cutD [x, y, z] (some 1) none = [y, z] := rfl
@[simp] theorem cut_1_4 {α : Type} (x y z w : α) : cutD [x, y, z, w] (some 1) none = [y, z, w] := rfl
@[simp] theorem at_4 {α : Type} (x y z w u : α) (xs : List α) : L2.atI (x :: y :: z :: w :: u :: xs) 4 = some u := by
  have h : (4 : Int) < ((x :: y :: z :: w :: u :: xs).length : Nat) := by simp; omega
  simp only [L2.atI, ixN]
  rw [if_pos (by decide), if_pos h]; rfl
@[simp] theorem at_5 {α : Type} (x y z w u v : α) (xs : List α) : L2.atI (x :: y :: z :: w :: u :: v :: xs) 5 = some v := by
  have h : (5 : Int) < ((x :: y :: z :: w :: u :: v :: xs).length : Nat) := by simp; omega
  simp only [L2.atI, ixN]
  rw [if_pos (by decide), if_pos h]; rfl
/-! _law_many -/
theorem many_step {c : Fm} {s : Say} {st : Sto} (ih : ∀ a, dep a < dep s → c [enc a] st = .ok (.int (dice a)) st) : fnM 1 2 (m_f_law_many c) [enc s] st = .ok (.int (dice s)) st := by
  cases s with
  | num n => simp [fnM, m_f_law_many, dice]
  | die m s => simp [fnM, m_f_law_many, dice]
  | dl w m s l => cases w <;> simp [fnM, m_f_law_many, dice, enc, WL.s]
  | two w a b =>
    have ha := ih a (by simp only [dep]; omega)
    have hb := ih b (by simp only [dep]; omega)
    cases w <;> simp [fnM, m_f_law_many, dice, enc, W2.s, ha, hb]
  | times n a =>
    have ha := ih a (by simp only [dep]; omega)
    simp [fnM, m_f_law_many, dice, enc, ha]
/-! _law_dice -/
theorem dice_ok {c_mix : Fm} {cell most : Int} {st : Sto} (hm : ∀ c p m st, 0 < p → p < 10000 → 0 < m → c_mix [.int c, .int p, .int m] st = .ok (.int (mixv c p m)) st) (h1 : 1 ≤ most) :
    ∃ s, Wf s ∧ dep s = 1 ∧ dice s ≤ most ∧ 1 ≤ dice s ∧ fnM 2 7 (m_f_law_dice c_mix) [.int cell, .int most] st = .ok (enc s) st := by
  have a0 := mixv_pos (c := cell) (p := 9973) (m := 6) (by decide)
  have a1 := mixv_lt (c := cell) (p := 9973) (m := 6) (by decide)
  have e1 : (if most < 3 then most else 3) = min 3 most := by split <;> omega
  generalize hmm : min 3 most = mm at *
  have hmm0 : 0 < mm := by omega
  have b0 := mixv_pos (c := cell) (p := 9967) (m := mm) hmm0
  have b1 := mixv_lt (c := cell) (p := 9967) (m := mm) hmm0
  have c0 := mixv_pos (c := cell) (p := 9949) (m := 5) (by decide)
  have c1 := mixv_lt (c := cell) (p := 9949) (m := 5) (by decide)
  have h9973 := fun st => hm cell 9973 6 st (by decide) (by decide) (by decide)
  have h9967 := fun st => hm cell 9967 mm st (by decide) (by decide) hmm0
  have h9949 := fun st => hm cell 9949 5 st (by decide) (by decide) (by decide)
  generalize mixv cell 9973 6 = i at *
  generalize mixv cell 9967 mm = m at *
  generalize mixv cell 9949 5 = s at *
  have h9941 : ∀ z st, 0 < z → c_mix [.int cell, .int 9941, .int z] st = .ok (.int (mixv cell 9941 z)) st := fun z st hz => hm cell 9941 z st (by decide) (by decide) hz
  have d0 : ∀ z, 0 < z → 0 ≤ mixv cell 9941 z ∧ mixv cell 9941 z < z := fun z hz => ⟨mixv_pos hz, mixv_lt hz⟩
  have hi : i = 0 ∨ i = 1 ∨ i = 2 ∨ i = 3 ∨ i = 4 ∨ i = 5 := by omega
  rcases hi with rfl | rfl | rfl | rfl | rfl | rfl
  · refine ⟨.die (1 + m) (2 + s), ⟨by omega, by omega, by omega, by omega⟩, rfl, by simp only [dice]; omega, by simp only [dice]; omega, ?_⟩
    simp [fnM, m_f_law_dice, h9973, h9967, h9949, e1]
  · have dz := d0 (1 + m) (by omega)
    refine ⟨.dl .high (1 + m) (2 + s) (1 + mixv cell 9941 (1 + m)), ⟨by omega, by omega, by omega, by omega, by omega, by omega⟩, rfl, by simp only [dice]; omega, by simp only [dice]; omega, ?_⟩
    simp [fnM, m_f_law_dice, h9973, h9967, h9949, e1, enc, WL.s, mergeD, putD, valD]
    rw [h9941 _ _ (by omega)]
    simp
  · have dz := d0 (1 + m) (by omega)
    refine ⟨.dl .low (1 + m) (2 + s) (1 + mixv cell 9941 (1 + m)), ⟨by omega, by omega, by omega, by omega, by omega, by omega⟩, rfl, by simp only [dice]; omega, by simp only [dice]; omega, ?_⟩
    simp [fnM, m_f_law_dice, h9973, h9967, h9949, e1, enc, WL.s, mergeD, putD, valD]
    rw [h9941 _ _ (by omega)]
    simp
  · have dz := d0 (2 + s - 1) (by omega)
    refine ⟨.dl .again (1 + m) (2 + s) (1 + mixv cell 9941 (2 + s - 1)), ⟨by omega, by omega, by omega, by omega, by omega, by omega⟩, rfl, by simp only [dice]; omega, by simp only [dice]; omega, ?_⟩
    simp [fnM, m_f_law_dice, h9973, h9967, h9949, e1, enc, WL.s, mergeD, putD, valD]
    rw [h9941 _ _ (by omega)]
    simp
  · have dz := d0 2 (by omega)
    refine ⟨.dl .burst (1 + m) (2 + s) (1 + mixv cell 9941 2), ⟨by omega, by omega, by omega, by omega, by omega, by omega⟩, rfl, by simp only [dice]; omega, by simp only [dice]; omega, ?_⟩
    simp [fnM, m_f_law_dice, h9973, h9967, h9949, e1, enc, WL.s, mergeD, putD, valD]
    rw [h9941 _ _ (by omega)]
    simp
  · have dz := d0 (2 + s - 2 + 1) (by omega)
    refine ⟨.dl .count (1 + m) (2 + s) (2 + mixv cell 9941 (2 + s - 2 + 1)), ⟨by omega, by omega, by omega, by omega, by omega, by omega⟩, rfl, by simp only [dice]; omega, by simp only [dice]; omega, ?_⟩
    simp [fnM, m_f_law_dice, h9973, h9967, h9949, e1, enc, WL.s, mergeD, putD, valD]
    rw [h9941 _ _ (by omega)]
    simp
end Ml

namespace Ml
open PySem L2
/-! _law_saying -/
theorem say_step {c_dice c_many c_mix c_say : Fm} {cell most : Int} {deep : Nat} {st : Sto} (hd : 1 ≤ deep) (hd3 : deep ≤ 3) (hm0 : 0 ≤ most)
    (hm : ∀ c p m st, 0 < p → p < 10000 → 0 < m → c_mix [.int c, .int p, .int m] st = .ok (.int (mixv c p m)) st)
    (hdi : ∀ cell st, 1 ≤ most → ∃ s, Wf s ∧ dep s = 1 ∧ dice s ≤ most ∧ 1 ≤ dice s ∧ c_dice [.int cell, .int most] st = .ok (enc s) st)
    (hma : ∀ s st, Wf s → dep s ≤ deep - 1 → c_many [enc s] st = .ok (.int (dice s)) st)
    (hsay : ∀ cell most st, 2 ≤ deep → 0 ≤ most → ∃ s, Wf s ∧ dep s ≤ deep - 1 ∧ dice s ≤ most ∧ c_say [.int cell, .int ((deep : Int) - 1), .int most] st = .ok (enc s) st) :
    ∃ s, Wf s ∧ dep s ≤ deep ∧ dice s ≤ most ∧ fnM 3 6 (m_f_law_saying c_dice c_many c_mix c_say) [.int cell, .int deep, .int most] st = .ok (enc s) st := by
  have w0 := mixv_pos (c := cell) (p := 9931) (m := 12) (by decide)
  have w1 := mixv_lt (c := cell) (p := 9931) (m := 12) (by decide)
  have hw := fun st => hm cell 9931 12 st (by decide) (by decide) (by decide)
  generalize mixv cell 9931 12 = way at *
  by_cases h1 : way < 2 ∨ most = 0
  · have n0 := mixv_pos (c := cell) (p := 9929) (m := 10) (by decide)
    have n1 := mixv_lt (c := cell) (p := 9929) (m := 10) (by decide)
    refine ⟨.num (mixv cell 9929 10), ⟨by omega, by omega⟩, by simp only [dep]; omega, by simpa only [dice] using hm0, ?_⟩
    have hn := fun st => hm cell 9929 10 st (by decide) (by decide) (by decide)
    rcases h1 with h1 | h1
    · simp [fnM, m_f_law_saying, hw, h1, hn]
    · by_cases h2 : way < 2 <;> simp [fnM, m_f_law_saying, hw, h1, h2, hn]
  · have h2 : ¬ way < 2 := fun z => h1 (.inl z)
    have h3 : ¬ most = 0 := fun z => h1 (.inr z)
    by_cases h4 : way < 5 ∨ deep = 1
    · obtain ⟨s, k1, k2, k3, k4, k5⟩ := hdi (cell + 1) st (by omega)
      refine ⟨s, k1, by omega, k3, ?_⟩
      rcases h4 with h4 | h4
      · simp [fnM, m_f_law_saying, hw, h2, h3, h4, k5]
      · subst h4
        by_cases h5 : way < 5 <;> simp [fnM, m_f_law_saying, hw, h2, h3, h5, k5]
    · have h5 : ¬ way < 5 := fun z => h4 (.inl z)
      have h6 : ¬ deep = 1 := fun z => h4 (.inr z)
      have h6' : ¬ ((deep : Int) = 1) := by omega
      by_cases h7 : way = 11
      · obtain ⟨s, k1, k2, k3, k4⟩ := hsay (cell + 2) most st (by omega) hm0
        have n0 := mixv_pos (c := cell) (p := 9923) (m := 4) (by decide)
        have n1 := mixv_lt (c := cell) (p := 9923) (m := 4) (by decide)
        have hn := fun st => hm cell 9923 4 st (by decide) (by decide) (by decide)
        refine ⟨.times (mixv cell 9923 4) s, ⟨by omega, by omega, k1⟩, by simp only [dep]; omega, k3, ?_⟩
        simp [fnM, m_f_law_saying, hw, h2, h3, h5, h6', h7, hn, k4, enc]
      · obtain ⟨a, a1, a2, a3, a4⟩ := hsay (cell + 3) most st (by omega) hm0
        have am := hma a st a1 a2
        obtain ⟨b, b1, b2, b3, b4⟩ := hsay (cell + 5) (most - dice a) st (by omega) (by omega)
        have n0 := mixv_pos (c := cell) (p := 9907) (m := 5) (by decide)
        have n1 := mixv_lt (c := cell) (p := 9907) (m := 5) (by decide)
        have hn := fun st => hm cell 9907 5 st (by decide) (by decide) (by decide)
        generalize mixv cell 9907 5 = i at *
        have key : ∀ (x y : Say), ∃ w : W2, (fun z => L2.atI [D.str "plus", .str "less", .str "most", .str "least", .str "beats"] z) i = some (.str (Str.ofString w.s)) := by
          intro x y
          have hi : i = 0 ∨ i = 1 ∨ i = 2 ∨ i = 3 ∨ i = 4 := by omega
          rcases hi with rfl | rfl | rfl | rfl | rfl
          · exact ⟨.plus, rfl⟩
          · exact ⟨.less, rfl⟩
          · exact ⟨.most, rfl⟩
          · exact ⟨.least, rfl⟩
          · exact ⟨.beats, rfl⟩
        obtain ⟨w, ew⟩ := key a b
        simp only at ew
        by_cases he : cell % 2 = 0
        · refine ⟨.two w b a, ⟨b1, a1⟩, by simp only [dep]; omega, by simp only [dice]; omega, ?_⟩
          simp [fnM, m_f_law_saying, hw, h2, h3, h5, h6', h7, hn, a4, am, b4, ew, he, enc]
        · refine ⟨.two w a b, ⟨a1, b1⟩, by simp only [dep]; omega, by simp only [dice]; omega, ?_⟩
          simp [fnM, m_f_law_saying, hw, h2, h3, h5, h6', h7, hn, a4, am, b4, ew, he, enc]
end Ml

namespace Ml
open PySem L2
/-! ### data compared -/
theorem doks_cons (n : Nat) (d : D) (ds : List D) : doks n (d :: ds) = (d.dok n && doks n ds) := by simp [doks]
theorem dok_tup (n : Nat) (ds : List D) : (D.tup ds).dok (n + 1) = doks n ds := by simp [D.dok]
@[simp] theorem dok_int (n : Nat) (i : Int) : (D.int i).dok n = true := by simp [D.dok]
@[simp] theorem doks_nil (n : Nat) : doks n [] = true := by simp [doks]
theorem strOk_lit (x : String) : PyData.strOk (Str.ofString x) = true := by
  unfold PyData.strOk
  rw [Str.ofString_eq_toList]
  simp only [List.all_toArray, List.all_map, List.all_eq_true]
  intro c _
  simp only [Function.comp_apply, decide_eq_true_eq]
  have := c.valid
  simp only [UInt32.isValidChar, Nat.isValidChar] at this
  show c.toNat < _
  have e : c.toNat = c.val.toNat := rfl
  omega
@[simp] theorem dok_lit (n : Nat) (x : String) : (D.str (Str.ofString x)).dok n = true := by simp [D.dok, strOk_lit]
theorem dok_enc : ∀ (s : Say) (n : Nat), dep s ≤ n → (enc s).dok n = true
  | s, 0, h => absurd (Nat.le_trans (dep_pos s) h) (by decide)
  | .num k, n + 1, _ => by simp [dok_tup, doks_cons]
  | .die m k, n + 1, _ => by simp [dok_tup, doks_cons]
  | .dl w m k l, n + 1, _ => by simp [enc, dok_tup, doks_cons]
  | .two w a b, n + 1, h => by
    simp only [dep] at h
    simp [enc, dok_tup, doks_cons, dok_enc a n (by omega), dok_enc b n (by omega)]
  | .times k a, n + 1, h => by
    simp only [dep] at h
    simp [enc, dok_tup, doks_cons, dok_enc a n (by omega)]
theorem dok_60 {s : Say} (h : dep s ≤ 50) : (enc s).dok 60 = true := dok_enc s 60 (by omega)
theorem eq_enc {a b : Say} {st : Sto} (ha : dep a ≤ 50) (hb : dep b ≤ 50) : gEq (enc a) (enc b) st = some (.bl (deq (enc a) (enc b)), st) := by
  unfold gEq
  rw [dok_60 ha, dok_60 hb]
  split <;> rfl
theorem ne_enc {a b : Say} {st : Sto} (ha : dep a ≤ 50) (hb : dep b ≤ 50) : gNe (enc a) (enc b) st = some (.bl (!deq (enc a) (enc b)), st) := by
  unfold gNe
  rw [dok_60 ha, dok_60 hb]
  split <;> rfl
end Ml

namespace Ml
open PySem L2
/-! ### the one form of a fraction -/
def fr (k M : Int) : D := .tup [.int (k / (Int.gcd k M : Nat)), .int (M / (Int.gcd k M : Nat))]
theorem gcd_pos {k M : Int} (h : 0 < M) : 0 < ((Int.gcd k M : Nat) : Int) := by
  have : 0 < Int.gcd k M := Int.gcd_pos_of_ne_zero_right k (by omega)
  omega
theorem fr_scale {c x y : Int} (hc : 0 < c) : fr (c * x) (c * y) = fr x y := by
  unfold fr
  rw [Int.gcd_mul_left]
  have e : ((c.natAbs * Int.gcd x y : Nat) : Int) = c * (Int.gcd x y : Nat) := by
    rw [Int.natCast_mul, Int.natAbs_of_nonneg (by omega)]
  rw [e, Int.mul_ediv_mul_of_pos _ _ hc, Int.mul_ediv_mul_of_pos _ _ hc]
theorem whl_yes {t : Mo Bool} {B : Ms} {n : Nat} {ev ev2 : Ev} {st st1 st2 : Sto} (h1 : t ev st = .ok true st1) (h2 : B ev st1 = .ok (.nx, ev2) st2) : whl t B (n + 1) ev st = whl t B n ev2 st2 := by simp only [whl, h1, h2]
theorem whl_no {t : Mo Bool} {B : Ms} {n : Nat} {ev : Ev} {st st1 : Sto} (h1 : t ev st = .ok false st1) : whl t B (n + 1) ev st = .ok (.nx, ev) st1 := by simp only [whl, h1]
theorem gcd_body {x y : Int} {st : Sto} (h : 0 < y) : m_divisor_b1 [some (.int x), some (.int y)] st = .ok (.nx, [some (.int y), some (.int (x % y))]) st := by simp [m_divisor_b1, h]
theorem gcd_test {x y : Int} {st : Sto} : mTest (mOp gNe (mVar 1) (mC (.int 0))) [some (.int x), some (.int y)] st = .ok (!(y == 0)) st := by simp
theorem whl_gcd {st : Sto} : ∀ (n a b f : Nat), b ≤ a → a * b < 2 ^ n → n + 1 ≤ f →
    whl (mTest (mOp gNe (mVar 1) (mC (.int 0)))) m_divisor_b1 f [some (.int a), some (.int b)] st = .ok (.nx, [some (.int (Nat.gcd a b)), some (.int 0)]) st
  | n, a, b, 0, _, _, h => absurd h (by omega)
  | n, a, b, f + 1, hab, hlt, hf => by
    by_cases hb : b = 0
    · subst hb
      rw [whl_no (st1 := st) (by rw [gcd_test]; rfl)]
      simp
    · have hb1 : 0 < b := by omega
      have hn : 1 ≤ n := by
        rcases n with _ | n
        · have : 1 ≤ a * b := Nat.mul_pos (by omega) (by omega)
          simp at hlt
          omega
        · omega
      obtain ⟨m, rfl⟩ : ∃ m, n = m + 1 := ⟨n - 1, by omega⟩
      have hm : a % b < b := Nat.mod_lt _ (by omega)
      have h2 : 2 * (a % b) ≤ a := by
        have e := Nat.div_add_mod a b
        have hq : 1 ≤ a / b := (Nat.one_le_div_iff (by omega)).mpr hab
        have : b * 1 ≤ b * (a / b) := Nat.mul_le_mul_left _ hq
        omega
      have hp : b * (a % b) < 2 ^ m := by
        have h3 : b * (2 * (a % b)) ≤ b * a := Nat.mul_le_mul_left _ h2
        have h4 : b * (2 * (a % b)) = 2 * (b * (a % b)) := by ac_rfl
        have h5 : b * a = a * b := Nat.mul_comm _ _
        rw [Nat.pow_succ] at hlt
        omega
      have ih := whl_gcd (st := st) m b (a % b) f (by omega) hp (by omega)
      have e1 : Nat.gcd a b = Nat.gcd b (a % b) := by rw [Nat.gcd_comm a, Nat.gcd_rec, Nat.gcd_comm]
      have ht : (!(((b : Nat) : Int) == 0)) = true := by simp; omega
      rw [e1, ← ih, whl_yes (st1 := st) (by rw [gcd_test, ht]) (gcd_body (by omega)), Int.natCast_emod]
theorem div_ok {a b : Nat} {st : Sto} (h : a * b < 2 ^ 250) : fnM 2 2 m_divisor [.int a, .int b] st = .ok (.int (Nat.gcd a b)) st := by
  have main : mWhile 1000 (mTest (mOp gNe (mVar 1) (mC (.int 0)))) m_divisor_b1 [some (.int a), some (.int b)] st = .ok (.nx, [some (.int (Nat.gcd a b)), some (.int 0)]) st := by
    by_cases hab : b ≤ a
    · exact whl_gcd 250 a b 1000 hab h (by decide)
    · have e2 : (a : Int) % (b : Int) = (a : Int) := Int.emod_eq_of_lt (by omega) (by omega)
      have ih := whl_gcd (st := st) 250 b a 999 (by omega) (by rw [Nat.mul_comm]; exact h) (by decide)
      have ht : (!(((b : Nat) : Int) == 0)) = true := by simp; omega
      show whl _ _ (999 + 1) _ _ = _
      rw [whl_yes (st1 := st) (by rw [gcd_test, ht]) (gcd_body (by omega)), e2, ih, Nat.gcd_comm]
  simp [fnM, m_divisor, main]
theorem fraction_go {c : Fm} {u l g : Int} {st : Sto} (h1 : c [.int (if u < 0 then -u else u), .int l] st = .ok (.int g) st) (hg : 0 < g) (hg2 : g.natAbs < 2 ^ 200) : fnM 2 3 (m_fraction c) [.int u, .int l] st = .ok (.tup [.int (u / g), .int (l / g)]) st := by
  simp [fnM, m_fraction, h1, hg, hg2]
theorem frac_ok {c : Fm} {u l : Int} {st : Sto} (hc : ∀ (a b : Nat) st, a * b < 2 ^ 250 → c [.int a, .int b] st = .ok (.int (Nat.gcd a b)) st) (hl : 0 < l) (hl2 : l < 2 ^ 125) (hu : u.natAbs < 2 ^ 125) : fnM 2 3 (m_fraction c) [.int u, .int l] st = .ok (fr u l) st := by
  have hg := gcd_pos (k := u) hl
  have e1 : (if u < 0 then -u else u) = ((u.natAbs : Nat) : Int) := by split <;> omega
  have e2 : l = ((l.natAbs : Nat) : Int) := by omega
  have hp : u.natAbs * l.natAbs < 2 ^ 250 := by
    have h1 : u.natAbs * l.natAbs ≤ (2 ^ 125 - 1) * (2 ^ 125 - 1) := Nat.mul_le_mul (by omega) (by omega)
    have h2 : (2 ^ 125 - 1) * (2 ^ 125 - 1) < 2 ^ 250 := by decide
    omega
  have h1 : c [.int (u.natAbs : Nat), .int l] st = .ok (.int (Int.gcd u l : Nat)) st := by
    have := hc u.natAbs l.natAbs st hp
    rw [← e2] at this
    exact this
  have hgl : ((Int.gcd u l : Nat) : Int) ≤ l := Int.le_of_dvd hl (Int.gcd_dvd_right u l)
  exact fraction_go (by rw [e1]; exact h1) hg (by omega)
/-! sum_of, product -/
def sm (i : Int) : Prop := i.natAbs < 2 ^ 60
theorem sm64 {i : Int} (h : sm i) : small64 i = true := decide_eq_true (by unfold sm at h; omega)
theorem fr_parts (k M : Int) (hM : 0 < M) : ∃ g a m : Int, 0 < g ∧ 0 < m ∧ k = g * a ∧ M = g * m ∧ fr k M = .tup [.int a, .int m] ∧ a.natAbs ≤ k.natAbs ∧ m ≤ M := by
  have hg := gcd_pos (k := k) hM
  have d1 := Int.gcd_dvd_left k M
  have d2 := Int.gcd_dvd_right k M
  obtain ⟨a, ha⟩ := d1
  obtain ⟨m, hm⟩ := d2
  generalize hgg : ((Int.gcd k M : Nat) : Int) = g at *
  have e1 : k / g = a := by rw [ha]; exact Int.mul_ediv_cancel_left a (by omega)
  have e2 : M / g = m := by rw [hm]; exact Int.mul_ediv_cancel_left m (by omega)
  have hm0 : 0 < m := by
    rcases Int.lt_or_le 0 m with h | h
    · exact h
    · have : g * m ≤ 0 := Int.mul_nonpos_of_nonneg_of_nonpos (by omega) h
      omega
  refine ⟨g, a, m, hg, hm0, ha, hm, ?_, ?_, ?_⟩
  · unfold fr; rw [hgg, e1, e2]
  · rw [ha, Int.natAbs_mul]
    exact Nat.le_mul_of_pos_left _ (by omega)
  · rw [hm]
    have : 1 * m ≤ g * m := Int.mul_le_mul_of_nonneg_right (by omega) (by omega)
    omega
theorem mul_sm {a b : Int} (ha : sm a) (hb : sm b) : (a * b).natAbs < 2 ^ 120 := by
  unfold sm at ha hb
  rw [Int.natAbs_mul]
  have h1 : a.natAbs * b.natAbs ≤ (2 ^ 60 - 1) * (2 ^ 60 - 1) := Nat.mul_le_mul (by omega) (by omega)
  have h2 : (2 ^ 60 - 1) * (2 ^ 60 - 1) < 2 ^ 120 := by decide
  omega
theorem sum_ok {c : Fm} {a b M : Int} {st : Sto} (hc : ∀ (u l : Int) st, 0 < l → l < 2 ^ 125 → u.natAbs < 2 ^ 125 → c [.int u, .int l] st = .ok (fr u l) st) (hM : 0 < M) (sM : sm M) (sa : sm a) (sb : sm b) :
    fnM 2 2 (m_sum_of c) [fr a M, fr b M] st = .ok (fr (a + b) M) st := by
  obtain ⟨g, x, m, hg, hm, ea, eM, ef, lx, lm⟩ := fr_parts a M hM
  obtain ⟨g', y, n, hg', hn, eb, eM', ef', ly, ln⟩ := fr_parts b M hM
  have sx : sm x := by unfold sm at *; omega
  have sy : sm y := by unfold sm at *; omega
  have sm' : sm m := by unfold sm at *; omega
  have sn : sm n := by unfold sm at *; omega
  have p1 := mul_sm sx sn
  have p2 := mul_sm sy sm'
  have p3 := mul_sm sm' sn
  have hmn : 0 < m * n := Int.mul_pos hm hn
  have h := hc (x * n + y * m) (m * n) st hmn (by omega) (by omega)
  have e : fr (x * n + y * m) (m * n) = fr (a + b) M := by
    rw [← fr_scale (c := g * g') (Int.mul_pos hg hg'), ← fr_scale (c := M) (x := a + b) (y := M) hM]
    have e1 : g * g' * (x * n + y * m) = M * (a + b) := by
      have q1 : g * g' * (x * n) = (g * x) * (g' * n) := by ac_rfl
      have q2 : g * g' * (y * m) = (g' * y) * (g * m) := by ac_rfl
      rw [Int.mul_add, q1, q2, ← ea, ← eb, ← eM, ← eM', Int.mul_add, Int.mul_comm a M, Int.mul_comm b M]
    have e2 : g * g' * (m * n) = M * M := by
      have q1 : g * g' * (m * n) = (g * m) * (g' * n) := by ac_rfl
      rw [q1, ← eM, ← eM']
    rw [e1, e2]
  rw [ef, ef']
  simp [fnM, m_sum_of, sm64 sx, sm64 sy, sm64 sm', sm64 sn, h, e]
theorem prod_ok {c : Fm} {a b M N : Int} {st : Sto} (hc : ∀ (u l : Int) st, 0 < l → l < 2 ^ 125 → u.natAbs < 2 ^ 125 → c [.int u, .int l] st = .ok (fr u l) st) (hM : 0 < M) (hN : 0 < N) (sM : sm M) (sN : sm N) (sa : sm a) (sb : sm b) :
    fnM 2 2 (m_product c) [fr a M, fr b N] st = .ok (fr (a * b) (M * N)) st := by
  obtain ⟨g, x, m, hg, hm, ea, eM, ef, lx, lm⟩ := fr_parts a M hM
  obtain ⟨g', y, n, hg', hn, eb, eM', ef', ly, ln⟩ := fr_parts b N hN
  have sx : sm x := by unfold sm at *; omega
  have sy : sm y := by unfold sm at *; omega
  have sm' : sm m := by unfold sm at *; omega
  have sn : sm n := by unfold sm at *; omega
  have p1 := mul_sm sx sy
  have p3 := mul_sm sm' sn
  have hmn : 0 < m * n := Int.mul_pos hm hn
  have h := hc (x * y) (m * n) st hmn (by omega) (by omega)
  have e : fr (x * y) (m * n) = fr (a * b) (M * N) := by
    rw [← fr_scale (c := g * g') (Int.mul_pos hg hg')]
    have e1 : g * g' * (x * y) = (g * x) * (g' * y) := by ac_rfl
    have e2 : g * g' * (m * n) = (g * m) * (g' * n) := by ac_rfl
    rw [e1, e2, ← ea, ← eb, ← eM, ← eM']
  rw [ef, ef']
  simp [fnM, m_product, sm64 sx, sm64 sm', h, e]
end Ml

/-! Books of counts: what the program adds up, in plain lists. -/
namespace Ml
open PySem L2
section
variable {κ : Type} [DecidableEq κ]
def cnt (b : List (κ × Int)) (w : κ) : Int := ((b.find? fun z => decide (z.1 = w)).map (·.2)).getD 0
def addC (b : List (κ × Int)) (w : κ) (c : Int) : List (κ × Int) := if (b.any fun z => decide (z.1 = w)) = true then b.map (fun z => if z.1 = w then (z.1, z.2 + c) else z) else b ++ [(w, c)]
def addAll (b : List (κ × Int)) (cs : List (κ × Int)) : List (κ × Int) := cs.foldl (fun b z => addC b z.1 z.2) b
def tot (b : List (κ × Int)) : Int := (b.map (·.2)).sum
def ks (b : List (κ × Int)) : List κ := b.map (·.1)
theorem any_iff (b : List (κ × Int)) (w : κ) : (b.any fun z => decide (z.1 = w)) = true ↔ w ∈ ks b := by
  simp only [ks, List.any_eq_true, List.mem_map, decide_eq_true_eq]
theorem cnt_cons (z : κ × Int) (b : List (κ × Int)) (w : κ) : cnt (z :: b) w = if z.1 = w then z.2 else cnt b w := by
  unfold cnt
  rw [List.find?_cons]
  by_cases h : z.1 = w <;> simp [h]
theorem cnt_nil (w : κ) : cnt ([] : List (κ × Int)) w = 0 := rfl
theorem cnt_out {b : List (κ × Int)} {w : κ} (h : w ∉ ks b) : cnt b w = 0 := by
  induction b with
  | nil => rfl
  | cons z b ih =>
    simp only [ks, List.map_cons, List.mem_cons, not_or] at h
    rw [cnt_cons, if_neg (fun e => h.1 e.symm)]
    exact ih h.2
theorem ks_addC (b : List (κ × Int)) (w : κ) (c : Int) : ks (addC b w c) = if w ∈ ks b then ks b else ks b ++ [w] := by
  unfold addC
  by_cases h : w ∈ ks b
  · rw [if_pos ((any_iff b w).mpr h), if_pos h]
    unfold ks
    rw [List.map_map]
    refine List.map_congr_left fun z _ => ?_
    by_cases e : z.1 = w <;> simp [e]
  · rw [if_neg (fun z => h ((any_iff b w).mp z)), if_neg h]
    simp [ks]
theorem nodup_addC {b : List (κ × Int)} {w : κ} {c : Int} (h : (ks b).Nodup) : (ks (addC b w c)).Nodup := by
  rw [ks_addC]
  split
  · exact h
  · rename_i hn
    rw [List.nodup_append]
    exact ⟨h, by simp, fun a ha x hx e => by simp at hx; subst hx; subst e; exact hn ha⟩
theorem cnt_app {b : List (κ × Int)} {w x : κ} {c : Int} (h : w ∉ ks b) : cnt (b ++ [(w, c)]) x = cnt b x + if w = x then c else 0 := by
  induction b with
  | nil => simp [cnt_cons, cnt_nil]
  | cons z b ih =>
    simp only [ks, List.map_cons, List.mem_cons, not_or] at h
    rw [List.cons_append, cnt_cons, cnt_cons]
    by_cases e : z.1 = x
    · rw [if_pos e, if_pos e, if_neg (fun q => h.1 (q.trans e.symm))]; omega
    · rw [if_neg e, if_neg e]; exact ih h.2
theorem cnt_map {b : List (κ × Int)} {w x : κ} {c : Int} (h : w ∈ ks b) : cnt (b.map fun z => if z.1 = w then (z.1, z.2 + c) else z) x = cnt b x + if w = x then c else 0 := by
  induction b with
  | nil => simp [ks] at h
  | cons z b ih =>
    rw [List.map_cons, cnt_cons, cnt_cons]
    by_cases e : z.1 = w
    · rw [if_pos e]
      dsimp only
      by_cases e2 : z.1 = x
      · rw [if_pos e2, if_pos e2, if_pos (e.symm.trans e2)]
      · rw [if_neg e2, if_neg e2, if_neg (fun q => e2 (e.trans q))]
        by_cases hb : w ∈ ks b
        · rw [ih hb, if_neg (fun q => e2 (e.trans q))]
        · have : (b.map fun z => if z.1 = w then (z.1, z.2 + c) else z) = b := by
            conv => rhs; rw [← List.map_id b]
            refine List.map_congr_left fun y hy => ?_
            rw [if_neg (fun q => hb (by rw [← q]; exact List.mem_map_of_mem hy))]; rfl
          rw [this]; omega
    · rw [if_neg e]
      have hb : w ∈ ks b := by
        simp only [ks, List.map_cons, List.mem_cons] at h
        rcases h with h | h
        · exact absurd h.symm e
        · exact h
      by_cases e2 : z.1 = x
      · rw [if_pos e2, if_pos e2, if_neg (fun q => e (e2.trans q.symm))]; omega
      · rw [if_neg e2, if_neg e2]; exact ih hb
theorem cnt_addC (b : List (κ × Int)) (w x : κ) (c : Int) : cnt (addC b w c) x = cnt b x + if w = x then c else 0 := by
  unfold addC
  by_cases h : w ∈ ks b
  · rw [if_pos ((any_iff b w).mpr h)]; exact cnt_map h
  · rw [if_neg (fun z => h ((any_iff b w).mp z))]; exact cnt_app h
theorem tot_map {b : List (κ × Int)} {w : κ} {c : Int} (hn : (ks b).Nodup) (h : w ∈ ks b) : tot (b.map fun z => if z.1 = w then (z.1, z.2 + c) else z) = tot b + c := by
  induction b with
  | nil => simp [ks] at h
  | cons z b ih =>
    simp only [ks, List.map_cons, List.nodup_cons, List.mem_cons] at hn h
    simp only [tot, List.map_cons, List.sum_cons]
    by_cases e : z.1 = w
    · have : (b.map fun z => if z.1 = w then (z.1, z.2 + c) else z) = b := by
        conv => rhs; rw [← List.map_id b]
        refine List.map_congr_left fun y hy => ?_
        rw [if_neg (fun q => hn.1 (by rw [e, ← q]; exact List.mem_map_of_mem hy))]; rfl
      rw [if_pos e, this]; dsimp only; omega
    · rw [if_neg e]
      have hb : w ∈ ks b := by
        rcases h with h | h
        · exact absurd h.symm e
        · exact h
      have := ih hn.2 hb
      simp only [tot] at this
      omega
theorem tot_addC {b : List (κ × Int)} {w : κ} {c : Int} (hn : (ks b).Nodup) : tot (addC b w c) = tot b + c := by
  unfold addC
  by_cases h : w ∈ ks b
  · rw [if_pos ((any_iff b w).mpr h)]; exact tot_map hn h
  · rw [if_neg (fun z => h ((any_iff b w).mp z))]; simp [tot]
def NonNeg (b : List (κ × Int)) : Prop := ∀ z ∈ b, 0 ≤ z.2
theorem nonneg_addC {b : List (κ × Int)} {w : κ} {c : Int} (h : NonNeg b) (hc : 0 ≤ c) : NonNeg (addC b w c) := by
  unfold addC
  split
  · intro z hz
    obtain ⟨y, hy, rfl⟩ := List.mem_map.mp hz
    have := h y hy
    split <;> simp <;> omega
  · intro z hz
    rcases List.mem_append.mp hz with hz | hz
    · exact h z hz
    · simp at hz; subst hz; exact hc
theorem tot_nonneg {b : List (κ × Int)} (h : NonNeg b) : 0 ≤ tot b := by
  induction b with
  | nil => simp [tot]
  | cons z b ih =>
    have h1 := h z List.mem_cons_self
    have h2 := ih fun y hy => h y (List.mem_cons_of_mem _ hy)
    simp only [tot, List.map_cons, List.sum_cons] at h2 ⊢
    omega
theorem cnt_le_tot {b : List (κ × Int)} (h : NonNeg b) (w : κ) : 0 ≤ cnt b w ∧ cnt b w ≤ tot b := by
  induction b with
  | nil => simp [cnt_nil, tot]
  | cons z b ih =>
    have h1 := h z List.mem_cons_self
    have h3 : NonNeg b := fun y hy => h y (List.mem_cons_of_mem _ hy)
    have h2 := ih h3
    have h4 := tot_nonneg h3
    rw [cnt_cons]
    simp only [tot, List.map_cons, List.sum_cons] at h2 h4 ⊢
    split <;> omega
theorem addAll_inv {b : List (κ × Int)} : ∀ {cs : List (κ × Int)}, (ks b).Nodup → NonNeg b → NonNeg cs → (ks (addAll b cs)).Nodup ∧ NonNeg (addAll b cs) ∧ tot (addAll b cs) = tot b + tot cs
  | [], h1, h2, _ => ⟨h1, h2, by simp [addAll, tot]⟩
  | z :: cs, h1, h2, h3 => by
    have hz := h3 z List.mem_cons_self
    have := addAll_inv (b := addC b z.1 z.2) (cs := cs) (nodup_addC h1) (nonneg_addC h2 hz) (fun y hy => h3 y (List.mem_cons_of_mem _ hy))
    rw [tot_addC h1] at this
    refine ⟨this.1, this.2.1, ?_⟩
    have h := this.2.2
    simp only [addAll, List.foldl_cons] at h ⊢
    rw [h]
    simp only [tot, List.map_cons, List.sum_cons]
    omega
theorem cnt_addAll (x : κ) : ∀ (cs b : List (κ × Int)), cnt (addAll b cs) x = cnt b x + ((cs.filter fun z => decide (z.1 = x)).map (·.2)).sum
  | [], b => by simp [addAll]
  | z :: cs, b => by
    have := cnt_addAll x cs (addC b z.1 z.2)
    rw [cnt_addC] at this
    simp only [addAll, List.foldl_cons] at this ⊢
    rw [this, List.filter_cons]
    by_cases e : z.1 = x
    · simp [e]; omega
    · simp [e]
theorem mem_addAll (x : κ) : ∀ (cs b : List (κ × Int)), x ∈ ks (addAll b cs) ↔ x ∈ ks b ∨ x ∈ ks cs
  | [], b => by simp [addAll, ks]
  | z :: cs, b => by
    have := mem_addAll x cs (addC b z.1 z.2)
    rw [ks_addC] at this
    simp only [addAll, List.foldl_cons] at this ⊢
    rw [this]
    have e : ks (z :: cs) = z.1 :: ks cs := rfl
    rw [e, List.mem_cons]
    split
    · rename_i h
      constructor
      · rintro (q | q)
        · exact .inl q
        · exact .inr (.inr q)
      · rintro (q | q | q)
        · exact .inl q
        · exact .inl (q ▸ h)
        · exact .inr q
    · rw [List.mem_append, List.mem_singleton, or_assoc]
theorem addAll_app (b cs ds : List (κ × Int)) : addAll b (cs ++ ds) = addAll (addAll b cs) ds := by simp [addAll, List.foldl_append]
end
end Ml

namespace Ml
open PySem L2
section
variable {κ κ' : Type} [DecidableEq κ] [DecidableEq κ']
/-- a book of counts over M, as the program's dict -/
def encB (e : κ → κ') (M : Int) (b : List (κ × Int)) : List (κ' × D) := b.map fun z => (e z.1, fr z.2 M)
theorem fr_zero {M : Int} (h : 0 < M) : fr 0 M = .tup [.int 0, .int 1] := by
  unfold fr
  have e : ((Int.gcd 0 M : Nat) : Int) = M := by rw [Int.gcd_zero_left]; omega
  rw [e, Int.zero_ediv, Int.ediv_self (by omega)]
theorem val_encB {e : κ → κ'} (he : ∀ x y, e x = e y → x = y) (M : Int) (w : κ) : ∀ b : List (κ × Int), valD (encB e M b) (e w) = if w ∈ ks b then some (fr (cnt b w) M) else none
  | [] => rfl
  | z :: b => by
    have ih := val_encB he M w b
    unfold valD encB at ih ⊢
    rw [List.map_cons, List.find?_cons]
    by_cases h : z.1 = w
    · have h1 : w ∈ ks (z :: b) := by simp [ks, h]
      rw [if_pos h1, cnt_cons, if_pos h]
      simp [h]
    · have h2 : ¬ e z.1 = e w := fun q => h (he _ _ q)
      have h3 : (w ∈ ks (z :: b)) ↔ w ∈ ks b := by
        simp only [ks, List.map_cons, List.mem_cons]
        exact ⟨fun q => q.resolve_left fun r => h r.symm, .inr⟩
      rw [cnt_cons, if_neg h]
      simp only [h2, decide_false]
      rw [ih]
      by_cases h4 : w ∈ ks b
      · rw [if_pos h4, if_pos (h3.mpr h4)]
      · rw [if_neg h4, if_neg (fun q => h4 (h3.mp q))]
theorem any_encB {e : κ → κ'} (he : ∀ x y, e x = e y → x = y) (M : Int) (w : κ) (b : List (κ × Int)) : ((encB e M b).any fun kv => decide (kv.1 = e w)) = b.any fun z => decide (z.1 = w) := by
  unfold encB
  rw [List.any_map]
  congr 1
  funext z
  simp only [Function.comp_apply]
  by_cases h : z.1 = w
  · simp [h]
  · simp only [h, decide_false, decide_eq_false_iff_not]; exact fun q => h (he _ _ q)
theorem put_encB {e : κ → κ'} (he : ∀ x y, e x = e y → x = y) (M : Int) (w : κ) (c : Int) (b : List (κ × Int)) (hn : (ks b).Nodup) : putD (encB e M b) (e w) (fr (cnt b w + c) M) = encB e M (addC b w c) := by
  unfold putD addC
  rw [any_encB he]
  by_cases h : w ∈ ks b
  · rw [if_pos ((any_iff b w).mpr h), if_pos ((any_iff b w).mpr h)]
    unfold encB
    rw [List.map_map, List.map_map]
    refine List.map_congr_left fun z hz => ?_
    simp only [Function.comp_apply]
    by_cases q : z.1 = w
    · have hc : cnt b w = z.2 := by
        clear h
        induction b with
        | nil => cases hz
        | cons y b ih =>
          simp only [ks, List.map_cons, List.nodup_cons] at hn
          rw [cnt_cons]
          rcases List.mem_cons.mp hz with rfl | hz
          · rw [if_pos q]
          · rw [if_neg (fun r => hn.1 (by rw [r, ← q]; exact List.mem_map_of_mem hz))]
            exact ih hn.2 hz
      rw [if_pos (by rw [q]), if_pos q, hc]
    · rw [if_neg (fun r => q (he _ _ r)), if_neg q]
  · rw [if_neg (fun z => h ((any_iff b w).mp z)), if_neg (fun z => h ((any_iff b w).mp z)), cnt_out h]
    simp [encB]
theorem len_encB (e : κ → κ') (M : Int) (b : List (κ × Int)) : (encB e M b).length = b.length := by simp [encB]
end
abbrev eI : Int → Key := Sum.inl
abbrev eT : List Int → List Key := fun ns => ns.map Sum.inl
theorem eI_inj : ∀ x y, eI x = eI y → x = y := fun x y h => by cases h; rfl
theorem eT_inj : ∀ x y, eT x = eT y → x = y := fun x y h => by
  have := (List.map_inj_right (f := (Sum.inl : Int → Key)) (fun a b h => by cases h; rfl)).mp h
  exact this
/-- added(book, worth, share): the book's keys are whole numbers -/
theorem added_ok {c_sum : Fm} {i : Nat} {M w c : Int} {b : List (Int × Int)} {st : Sto} (hs : ∀ (a b : Int) st, sm a → sm b → c_sum [fr a M, fr b M] st = .ok (fr (a + b) M) st) (hM : 0 < M) (h : st[i]? = some (.dK false (encB eI M b))) (hn : (ks b).Nodup) (hl : b.length ≤ lim) (h1 : sm (cnt b w)) (h2 : sm c) :
    fnM 3 3 (m_added c_sum) [.ref i, .int w, fr c M] st = .ok .non (st.set i (.dK false (encB eI M (addC b w c)))) := by
  have hd : isDct st (.ref i) = true := by simp only [isDct, h]
  have hv := val_encB eI_inj M w b
  have hg : getD1 st (.ref i) (.int w) = some (if w ∈ ks b then some (fr (cnt b w) M) else none) := by
    simp only [getD1, h, keyOf, Option.map_some, hv]
  have hp : putD1 st (.ref i) (.int w) (fr (cnt b w + c) M) = some (st.set i (.dK false (encB eI M (addC b w c)))) := by
    simp only [putD1, h, keyOf, len_encB, if_pos hl, put_encB eI_inj M w c b hn]
  have hx : ((if w ∈ ks b then some (fr (cnt b w) M) else none).getD (.tup [.int 0, .int 1])) = fr (cnt b w) M := by
    by_cases q : w ∈ ks b
    · rw [if_pos q]; rfl
    · rw [if_neg q, cnt_out q, fr_zero hM]; rfl
  simp [fnM, m_added, hd, hg, hp, hx, hs _ _ _ h1 h2]
theorem addedT_ok {c_sum : Fm} {i : Nat} {M c : Int} {w : List Int} {b : List (List Int × Int)} {st : Sto} (hs : ∀ (a b : Int) st, sm a → sm b → c_sum [fr a M, fr b M] st = .ok (fr (a + b) M) st) (hM : 0 < M) (h : st[i]? = some (.dT false (encB eT M b))) (hn : (ks b).Nodup) (hl : b.length ≤ lim) (h1 : sm (cnt b w)) (h2 : sm c) :
    fnM 3 3 (m_added c_sum) [.ref i, .tup (w.map .int), fr c M] st = .ok .non (st.set i (.dT false (encB eT M (addC b w c)))) := by
  have hd : isDct st (.ref i) = true := by simp only [isDct, h]
  have hv := val_encB eT_inj M w b
  have hk : keysOf (.tup (w.map .int)) = some (eT w) := by simp [keysOf, intsOf_map]
  have hg : getD1 st (.ref i) (.tup (w.map .int)) = some (valD (encB eT M b) (eT w)) := by
    simp only [getD1, h, hk, Option.map_some]
  have hp : putD1 st (.ref i) (.tup (w.map .int)) (fr (cnt b w + c) M) = some (st.set i (.dT false (encB eT M (addC b w c)))) := by
    simp only [putD1, h, hk, len_encB, if_pos hl, put_encB eT_inj M w c b hn]
  have hx : (valD (encB eT M b) (eT w)).getD (.tup [.int 0, .int 1]) = fr (cnt b w) M := by
    rw [hv]
    by_cases q : w ∈ ks b
    · rw [if_pos q]; rfl
    · rw [if_neg q, cnt_out q, fr_zero hM]; rfl
  simp [fnM, m_added, hd, hg, hp, hx, hs _ _ _ h1 h2]
/-! loops that add up -/
theorem loop_fold {β : Type} {g : Gt} {body : Ms} {I : Ev → Prop} {S : β → Sto} {f : β → D → β} : ∀ (ds : List D) (b0 : β), (∀ pre d post ev, ds = pre ++ d :: post → I ev → ∃ ev1 ev2, g d ev = some ev1 ∧ body ev1 (S (pre.foldl f b0)) = .ok (.nx, ev2) (S (f (pre.foldl f b0) d)) ∧ I ev2) →
    ∀ ev, I ev → ∃ ev', loop g body ds ev (S b0) = .ok (.nx, ev') (S (ds.foldl f b0)) ∧ I ev'
  | [], b0, _, ev, h => ⟨ev, rfl, h⟩
  | d :: ds, b0, hs, ev, h => by
    obtain ⟨ev1, ev2, h1, h2, h3⟩ := hs [] d ds ev rfl h
    obtain ⟨ev', h4, h5⟩ := loop_fold ds (f b0 d) (fun pre d' post ev e hi => hs (d :: pre) d' post ev (by rw [e]; rfl) hi) ev2 h3
    refine ⟨ev', ?_, h5⟩
    simp only [List.foldl_nil] at h2
    simp only [loop, h1, h2]
    exact h4
end Ml

namespace Ml
open PySem L2
theorem loop_foldA {α β : Type} {g : Gt} {body : Ms} {I : Ev → Prop} {S : β → Sto} {f : β → α → β} {en : α → D} : ∀ (xs : List α) (b0 : β), (∀ pre x post ev, xs = pre ++ x :: post → I ev → ∃ ev1 ev2, g (en x) ev = some ev1 ∧ body ev1 (S (pre.foldl f b0)) = .ok (.nx, ev2) (S (f (pre.foldl f b0) x)) ∧ I ev2) →
    ∀ ev, I ev → ∃ ev', loop g body (xs.map en) ev (S b0) = .ok (.nx, ev') (S (xs.foldl f b0)) ∧ I ev'
  | [], b0, _, ev, h => ⟨ev, rfl, h⟩
  | x :: xs, b0, hs, ev, h => by
    obtain ⟨ev1, ev2, h1, h2, h3⟩ := hs [] x xs ev rfl h
    obtain ⟨ev', h4, h5⟩ := loop_foldA xs (f b0 x) (fun pre d' post ev e hi => hs (x :: pre) d' post ev (by rw [e]; rfl) hi) ev2 h3
    refine ⟨ev', ?_, h5⟩
    simp only [List.foldl_nil] at h2
    simp only [List.map_cons, loop, h1, h2]
    exact h4
/-! ### what may be added -/
def RM : Int := 100000
structure GoodAdd (b cs : List (Int × Int)) : Prop where
  nd : (ks b).Nodup
  nb : NonNeg b
  nc : NonNeg cs
  lt : tot b + tot cs < 2 ^ 60
  rb : ∀ k ∈ ks b, -RM ≤ k ∧ k ≤ RM
  rc : ∀ k ∈ ks cs, -RM ≤ k ∧ k ≤ RM
theorem tot_app {κ : Type} (a b : List (κ × Int)) : tot (a ++ b) = tot a + tot b := by simp [tot, List.sum_append]
theorem ks_app {κ : Type} (a b : List (κ × Int)) : ks (a ++ b) = ks a ++ ks b := by simp [ks]
theorem GoodAdd.left {b cs ds : List (Int × Int)} (h : GoodAdd b (cs ++ ds)) : GoodAdd b cs := by
  have n2 : NonNeg ds := fun z hz => h.nc z (List.mem_append_right _ hz)
  have := tot_nonneg n2
  have l := h.lt
  rw [tot_app] at l
  exact ⟨h.nd, h.nb, fun z hz => h.nc z (List.mem_append_left _ hz), by omega, h.rb, fun k hk => h.rc k (by rw [ks_app]; exact List.mem_append_left _ hk)⟩
theorem GoodAdd.right {b cs ds : List (Int × Int)} (h : GoodAdd b (cs ++ ds)) : GoodAdd (addAll b cs) ds := by
  have n1 : NonNeg cs := fun z hz => h.nc z (List.mem_append_left _ hz)
  have n2 : NonNeg ds := fun z hz => h.nc z (List.mem_append_right _ hz)
  obtain ⟨i1, i2, i3⟩ := addAll_inv h.nd h.nb n1
  have l := h.lt
  rw [tot_app] at l
  refine ⟨i1, i2, n2, by omega, fun k hk => ?_, fun k hk => h.rc k (by rw [ks_app]; exact List.mem_append_right _ hk)⟩
  rcases (mem_addAll k cs b).mp hk with q | q
  · exact h.rb k q
  · exact h.rc k (by rw [ks_app]; exact List.mem_append_left _ q)
theorem len_filter {l : List Int} (x : Int) : l.Nodup → l.length ≤ (l.filter fun y => decide (y ≠ x)).length + 1
  | h => by
    induction l with
    | nil => simp
    | cons y l ih =>
      rw [List.nodup_cons] at h
      by_cases e : y = x
      · subst e
        have : l.filter (fun z => decide (z ≠ y)) = l := by
          rw [List.filter_eq_self]
          intro z hz
          simp only [decide_eq_true_eq]
          exact fun q => h.1 (q ▸ hz)
        rw [List.filter_cons, if_neg (by simp), this]
        simp
      · rw [List.filter_cons, if_pos (by simpa using e)]
        have := ih h.2
        simp only [List.length_cons]
        omega
theorem len_range : ∀ (n : Nat) (lo : Int) (l : List Int), l.Nodup → (∀ k ∈ l, lo ≤ k ∧ k < lo + n) → l.length ≤ n
  | 0, lo, l, _, h => by
    cases l with
    | nil => simp
    | cons x l => have := h x List.mem_cons_self; omega
  | n + 1, lo, l, hn, h => by
    have h1 := len_filter (l := l) (lo + n) hn
    have h2 := len_range n lo (l.filter fun y => decide (y ≠ lo + n)) (hn.sublist List.filter_sublist) fun k hk => by
      rw [List.mem_filter] at hk
      have := h k hk.1
      have := hk.2
      simp only [decide_eq_true_eq] at this
      omega
    omega
theorem GoodAdd.len {b cs : List (Int × Int)} (h : GoodAdd b cs) : b.length ≤ lim := by
  have := len_range 200001 (-RM) (ks b) h.nd fun k hk => by have := h.rb k hk; unfold RM at *; omega
  simp only [ks, List.length_map] at this
  have e : lim = 1000000 := rfl
  omega
theorem GoodAdd.head {b cs : List (Int × Int)} {z : Int × Int} (h : GoodAdd b (z :: cs)) : sm (cnt b z.1) ∧ sm z.2 := by
  have h1 := cnt_le_tot h.nb z.1
  have h2 := h.nc z List.mem_cons_self
  have n2 : NonNeg cs := fun y hy => h.nc y (List.mem_cons_of_mem _ hy)
  have h3 := tot_nonneg n2
  have h4 := tot_nonneg h.nb
  have l := h.lt
  simp only [tot, List.map_cons, List.sum_cons] at l h3 h4 h1
  unfold sm
  omega
theorem foldl_flat {α : Type} (row : α → List (Int × Int)) : ∀ (xs : List α) (b : List (Int × Int)), xs.foldl (fun b x => addAll b (row x)) b = addAll b (xs.flatMap row)
  | [], b => by simp [addAll]
  | x :: xs, b => by rw [List.foldl_cons, foldl_flat row xs, List.flatMap_cons, addAll_app]
theorem foldl_one {α : Type} (one : α → Int × Int) : ∀ (xs : List α) (b : List (Int × Int)), xs.foldl (fun b x => addC b (one x).1 (one x).2) b = addAll b (xs.map one)
  | [], b => by simp [addAll]
  | x :: xs, b => by
    rw [List.foldl_cons, foldl_one one xs]
    simp [addAll]
end Ml

namespace Ml
open PySem L2
theorem lock_eval {α : Type} {ma : Mo D} {m : Mo α} {ev : Ev} {st st0 st' : Sto} {n : Nat} {ob ob' ob2 ob3 : Ob} {z : α} (h : ma ev st = .ok (.ref n) st0) (h1 : st[n]? = some ob) (hl : lockO ob = some ob') (hm : m ev (st.set n ob') = .ok z st') (h2 : st'[n]? = some ob2) (hu : unlockO ob2 = some ob3) :
    lockN ma m ev st = .ok z (st'.set n ob3) := by
  simp only [lockN, h, h1, hl, hm, unl, h2, hu]
theorem set_back {st : Sto} {i : Nat} {x y : Ob} (h : st[i]? = some x) : (st.set i y).set i x = st := by
  rw [List.set_set]
  refine List.ext_getElem? fun j => ?_
  by_cases e : i = j
  · subst e
    have hi : i < st.length := (List.getElem?_eq_some_iff.mp h).1
    rw [List.getElem?_set_self hi, h]
  · rw [List.getElem?_set_ne e]
theorem set_app {st : Sto} {i : Nat} {x f : Ob} (h : i < st.length) : (st ++ [f]).set i x = st.set i x ++ [f] := List.set_append_left i x h
theorem set_last {st : Sto} {n : Nat} {x f : Ob} (h : n = st.length) : (st ++ [f]).set n x = st ++ [x] := by
  subst h
  rw [List.set_append_right _ _ (Nat.le_refl _), Nat.sub_self]
  rfl
theorem items_dK {M : Int} {b : List (Int × Int)} (h : b.length ≤ lim) : itemsK .dK (Ob.dK true (encB eI M b)) = some (b.map fun z => .int z.1) := by
  simp only [itemsK, len_encB, if_pos h]
  simp only [encB, List.map_map]
  all_goals rfl
theorem get_dK {M : Int} {b : List (Int × Int)} {st : Sto} {i : Nat} {lk : Bool} {z : Int × Int} (h : st[i]? = some (.dK lk (encB eI M b))) (hn : (ks b).Nodup) (hz : z ∈ b) : getD1 st (.ref i) (.int z.1) = some (some (fr z.2 M)) := by
  have hm : z.1 ∈ ks b := List.mem_map_of_mem hz
  have hc : cnt b z.1 = z.2 := by
    clear h hm
    induction b with
    | nil => cases hz
    | cons y b ih =>
      simp only [ks, List.map_cons, List.nodup_cons] at hn
      rw [cnt_cons]
      rcases List.mem_cons.mp hz with rfl | hz
      · rw [if_pos rfl]
      · rw [if_neg (fun r => hn.1 (by rw [r]; exact List.mem_map_of_mem hz))]
        exact ih hn.2 hz
  have hv := val_encB eI_inj M z.1 b
  rw [if_pos hm, hc] at hv
  simp only [getD1, h, keyOf, Option.map_some, hv]
/-! of_two, put_together -/
def of2 : W2 → Int → Int → Int
  | .plus, a, b => a + b
  | .less, a, b => a - b
  | .most, a, b => if b > a then b else a
  | .least, a, b => if b < a then b else a
  | .beats, a, b => if b < a then 1 else 0
theorem of2_ok {w : W2} {a b : Int} {st : Sto} : fnM 3 3 m_of_two [.str (Str.ofString w.s), .int a, .int b] st = .ok (.int (of2 w a b)) st := by
  cases w <;> simp [fnM, m_of_two, W2.s, of2]
def row2 (w : W2) (B : List (Int × Int)) (x : Int × Int) : List (Int × Int) := B.map fun y => (of2 w x.1 y.1, x.2 * y.2)
def two (w : W2) (A B : List (Int × Int)) : List (Int × Int) := addAll [] (A.flatMap (row2 w B))
theorem foldl_row (w : W2) (x : Int × Int) (ys b : List (Int × Int)) : ys.foldl (fun b y => addC b (of2 w x.1 y.1) (x.2 * y.2)) b = addAll b (row2 w ys x) := foldl_one (fun (y : Int × Int) => (of2 w x.1 y.1, x.2 * y.2)) ys b
theorem put_ok {c_add c_two c_prod : Fm} {w : W2} {A B : List (Int × Int)} {M N : Int} {i j : Nat} {st : Sto}
    (ha : ∀ (n : Nat) (b cs : List (Int × Int)) (z : Int × Int) st, st[n]? = some (Ob.dK false (encB eI (M * N) b)) → GoodAdd b (z :: cs) → c_add [.ref n, .int z.1, fr z.2 (M * N)] st = .ok .non (st.set n (Ob.dK false (encB eI (M * N) (addC b z.1 z.2)))))
    (h2 : ∀ (a b : Int) st, c_two [.str (Str.ofString w.s), .int a, .int b] st = .ok (.int (of2 w a b)) st)
    (hp : ∀ x ∈ A, ∀ y ∈ B, ∀ st, c_prod [fr x.2 M, fr y.2 N] st = .ok (fr (x.2 * y.2) (M * N)) st)
    (hi : st[i]? = some (Ob.dK false (encB eI M A))) (hj : st[j]? = some (Ob.dK false (encB eI N B))) (hij : i ≠ j) (nA : (ks A).Nodup) (nB : (ks B).Nodup) (lA : A.length ≤ lim) (lB : B.length ≤ lim)
    (hg : GoodAdd [] (A.flatMap (row2 w B))) :
    fnM 3 6 (m_put_together c_add c_two c_prod) [.ref i, .ref j, .str (Str.ofString w.s)] st = .ok (.ref st.length) (st ++ [Ob.dK false (encB eI (M * N) (two w A B))]) := by
  have li : i < st.length := (List.getElem?_eq_some_iff.mp hi).1
  have lj : j < st.length := (List.getElem?_eq_some_iff.mp hj).1
  -- the inner loop
  have inner : ∀ (x : Int × Int) (b : List (Int × Int)), x ∈ A → GoodAdd b (row2 w B x) → ∀ (v5 : Option D), ∃ v5', m_put_together_b2 c_add c_two c_prod [some (.ref i), some (.ref j), some (.str (Str.ofString w.s)), some (.ref st.length), some (.int x.1), v5] (st.set i (Ob.dK true (encB eI M A)) ++ [Ob.dK false (encB eI (M * N) b)]) =
      .ok (.nx, [some (.ref i), some (.ref j), some (.str (Str.ofString w.s)), some (.ref st.length), some (.int x.1), v5']) (st.set i (Ob.dK true (encB eI M A)) ++ [Ob.dK false (encB eI (M * N) (addAll b (row2 w B x)))]) := by
    intro x b hx hgx v5
    have L1 : (st.set i (Ob.dK true (encB eI M A))).length = st.length := List.length_set
    have L2' : ((st.set i (Ob.dK true (encB eI M A))).set j (Ob.dK true (encB eI N B))).length = st.length := by rw [List.length_set, L1]
    have hjL : (st.set i (Ob.dK true (encB eI M A)))[j]? = some (Ob.dK false (encB eI N B)) := by rw [List.getElem?_set_ne hij]; exact hj
    obtain ⟨ev', hl, v5', rfl⟩ := loop_foldA (g := gtName 5) (body := m_put_together_b1 c_add c_two c_prod) (en := fun z : Int × Int => D.int z.1)
      (S := fun b => (st.set i (Ob.dK true (encB eI M A))).set j (Ob.dK true (encB eI N B)) ++ [Ob.dK false (encB eI (M * N) b)]) (f := fun b y => addC b (of2 w x.1 y.1) (x.2 * y.2))
      (I := fun ev => ∃ v5, ev = [some (.ref i), some (.ref j), some (.str (Str.ofString w.s)), some (.ref st.length), some (.int x.1), v5]) B b
      (by
        rintro pre y post ev hB ⟨v5, rfl⟩
        refine ⟨_, [some (.ref i), some (.ref j), some (.str (Str.ofString w.s)), some (.ref st.length), some (.int x.1), some (.int y.1)], rfl, ?_, ⟨_, rfl⟩⟩
        have hy : y ∈ B := by rw [hB]; simp
        have hgb : GoodAdd (pre.foldl (fun b y => addC b (of2 w x.1 y.1) (x.2 * y.2)) b) ((of2 w x.1 y.1, x.2 * y.2) :: row2 w post x) := by
          have e : row2 w B x = row2 w pre x ++ (of2 w x.1 y.1, x.2 * y.2) :: row2 w post x := by rw [hB]; simp [row2]
          rw [e] at hgx
          have := hgx.right
          rw [foldl_row]
          exact this
        generalize pre.foldl (fun b y => addC b (of2 w x.1 y.1) (x.2 * y.2)) b = b1 at *
        generalize hS : (st.set i (Ob.dK true (encB eI M A))).set j (Ob.dK true (encB eI N B)) = sL at *
        have g1 : (sL ++ [Ob.dK false (encB eI (M * N) b1)])[i]? = some (Ob.dK true (encB eI M A)) := by
          rw [List.getElem?_append_left (by omega), ← hS, List.getElem?_set_ne (Ne.symm hij), List.getElem?_set_self li]
        have g2 : (sL ++ [Ob.dK false (encB eI (M * N) b1)])[j]? = some (Ob.dK true (encB eI N B)) := by
          rw [List.getElem?_append_left (by omega), ← hS, List.getElem?_set_self (by omega)]
        have g3 : (sL ++ [Ob.dK false (encB eI (M * N) b1)])[st.length]? = some (Ob.dK false (encB eI (M * N) b1)) := by
          rw [List.getElem?_append_right (by omega), L2', Nat.sub_self]; rfl
        have e1 := get_dK g1 nA hx
        have e2 := get_dK g2 nB hy
        have e3 := ha st.length b1 _ (of2 w x.1 y.1, x.2 * y.2) _ g3 hgb
        rw [set_last L2'.symm] at e3
        simp [gtName, m_put_together_b1, h2, e1, e2, hp x hx y hy, e3])
      [some (.ref i), some (.ref j), some (.str (Str.ofString w.s)), some (.ref st.length), some (.int x.1), v5] ⟨_, rfl⟩
    refine ⟨v5', ?_⟩
    rw [foldl_row] at hl
    have hs1 : (st.set i (Ob.dK true (encB eI M A)) ++ [Ob.dK false (encB eI (M * N) b)]).set j (Ob.dK true (encB eI N B)) = (st.set i (Ob.dK true (encB eI M A))).set j (Ob.dK true (encB eI N B)) ++ [Ob.dK false (encB eI (M * N) b)] := set_app (by rw [L1]; exact lj)
    have g2 : ((st.set i (Ob.dK true (encB eI M A))).set j (Ob.dK true (encB eI N B)) ++ [Ob.dK false (encB eI (M * N) b)])[j]? = some (Ob.dK true (encB eI N B)) := by
      rw [List.getElem?_append_left (by omega), List.getElem?_set_self (by omega)]
    have g4 : ((st.set i (Ob.dK true (encB eI M A))).set j (Ob.dK true (encB eI N B)) ++ [Ob.dK false (encB eI (M * N) (addAll b (row2 w B x)))])[j]? = some (Ob.dK true (encB eI N B)) := by
      rw [List.getElem?_append_left (by omega), List.getElem?_set_self (by omega)]
    unfold m_put_together_b2
    have := lock_eval (ma := mVar 1) (m := mFor (mItK .dK (mVar 1)) (gtName 5) (m_put_together_b1 c_add c_two c_prod)) (ev := [some (.ref i), some (.ref j), some (.str (Str.ofString w.s)), some (.ref st.length), some (.int x.1), v5]) (st := st.set i (Ob.dK true (encB eI M A)) ++ [Ob.dK false (encB eI (M * N) b)]) (n := j) (ob' := Ob.dK true (encB eI N B)) (ob3 := Ob.dK false (encB eI N B)) (by simp; rfl) (by rw [List.getElem?_append_left (by omega)]; exact hjL) rfl
      (by rw [hs1]; simp only [e_For, e_ItK, e_Var]; simp [g2, items_dK lB]; exact hl) g4 rfl
    rw [this, set_app (by omega), set_back hjL]
  -- the outer loop
  obtain ⟨ev', hl, v4, v5, rfl⟩ := loop_foldA (g := gtName 4) (body := m_put_together_b2 c_add c_two c_prod) (en := fun z : Int × Int => D.int z.1)
    (S := fun b => st.set i (Ob.dK true (encB eI M A)) ++ [Ob.dK false (encB eI (M * N) b)]) (f := fun b x => addAll b (row2 w B x))
    (I := fun ev => ∃ v4 v5, ev = [some (.ref i), some (.ref j), some (.str (Str.ofString w.s)), some (.ref st.length), v4, v5]) A []
    (by
      rintro pre x post ev hA ⟨v4, v5, rfl⟩
      have hx : x ∈ A := by rw [hA]; simp
      have hgb : GoodAdd (pre.foldl (fun b x => addAll b (row2 w B x)) []) (row2 w B x) := by
        have e : A.flatMap (row2 w B) = pre.flatMap (row2 w B) ++ (row2 w B x ++ post.flatMap (row2 w B)) := by rw [hA]; simp
        rw [e] at hg
        rw [foldl_flat]
        exact hg.right.left
      obtain ⟨v5', e⟩ := inner x _ hx hgb v5
      exact ⟨_, _, rfl, e, _, _, rfl⟩)
    [some (.ref i), some (.ref j), some (.str (Str.ofString w.s)), some (.ref st.length), none, none] ⟨_, _, rfl⟩
  rw [foldl_flat] at hl
  have hs1 : (st ++ [Ob.dK false (encB eI (M * N) [])]).set i (Ob.dK true (encB eI M A)) = st.set i (Ob.dK true (encB eI M A)) ++ [Ob.dK false (encB eI (M * N) [])] := set_app li
  have g1 : ∀ b : List (Int × Int), (st.set i (Ob.dK true (encB eI M A)) ++ [Ob.dK false (encB eI (M * N) b)])[i]? = some (Ob.dK true (encB eI M A)) := fun b => by
    rw [List.getElem?_append_left (by rw [List.length_set]; exact li), List.getElem?_set_self li]
  have main := lock_eval (ma := mVar 0) (m := mFor (mItK .dK (mVar 0)) (gtName 4) (m_put_together_b2 c_add c_two c_prod)) (ev := [some (.ref i), some (.ref j), some (.str (Str.ofString w.s)), some (.ref st.length), none, none]) (st := st ++ [Ob.dK false (encB eI (M * N) [])]) (n := i) (ob' := Ob.dK true (encB eI M A)) (ob3 := Ob.dK false (encB eI M A)) (by simp; rfl) (by rw [List.getElem?_append_left li]; exact hi) rfl
    (by rw [hs1]; simp only [e_For, e_ItK, e_Var]; simp [g1, items_dK lA]; exact hl) (g1 _) rfl
  rw [set_app (by rw [List.length_set]; exact li), set_back hi] at main
  have e0 : encB eI (M * N) [] = [] := rfl
  rw [e0] at main
  simp [fnM, m_put_together, main]
  rfl
end Ml

namespace Ml
open PySem L2
theorem set_two {st : Sto} {i j : Nat} {x y : Ob} (h : i ≠ j) : (st.set i x).set j y = (st.set j y).set i x := List.set_comm x y h
/-- a walk over a book that adds to another one -/
theorem walk_add {gt : Gt} {body : Ms} {I : Ev → Prop} {ma : Mo D} {M M1 : Int} {n k : Nat} {b Bm : List (Int × Int)} {one : Int × Int → Int × Int} {sX : Sto} {ev : Ev}
    (hk : sX[k]? = some (Ob.dK false (encB eI M1 Bm))) (hn : sX[n]? = some (Ob.dK false (encB eI M b))) (hnk : n ≠ k) (hl : Bm.length ≤ lim)
    (hbody : ∀ z ∈ Bm, ∀ (b' cs : List (Int × Int)) (ev : Ev) (s' : Sto), I ev → GoodAdd b' (one z :: cs) → s'[n]? = some (Ob.dK false (encB eI M b')) → s'[k]? = some (Ob.dK true (encB eI M1 Bm)) →
      ∃ ev1 ev2, gt (.int z.1) ev = some ev1 ∧ body ev1 s' = .ok (.nx, ev2) (s'.set n (Ob.dK false (encB eI M (addC b' (one z).1 (one z).2)))) ∧ I ev2)
    (hg : GoodAdd b (Bm.map one)) (hma : ∀ s, ma ev s = .ok (.ref k) s) (hI : I ev) :
    ∃ ev', lockN ma (mFor (mItK .dK ma) gt body) ev sX = .ok (.nx, ev') (sX.set n (Ob.dK false (encB eI M (addAll b (Bm.map one))))) ∧ I ev' := by
  have ln : n < sX.length := (List.getElem?_eq_some_iff.mp hn).1
  have lk : k < sX.length := (List.getElem?_eq_some_iff.mp hk).1
  obtain ⟨ev', hlp, hI'⟩ := loop_foldA (g := gt) (body := body) (en := fun z : Int × Int => D.int z.1) (S := fun b => (sX.set k (Ob.dK true (encB eI M1 Bm))).set n (Ob.dK false (encB eI M b)))
    (f := fun b z => addC b (one z).1 (one z).2) (I := I) Bm b
    (by
      intro pre z post ev e hi
      have hz : z ∈ Bm := by rw [e]; simp
      have hgb : GoodAdd (pre.foldl (fun b z => addC b (one z).1 (one z).2) b) (one z :: post.map one) := by
        rw [e, List.map_append, List.map_cons] at hg
        rw [foldl_one]
        exact hg.right
      generalize pre.foldl (fun b z => addC b (one z).1 (one z).2) b = b1 at *
      obtain ⟨ev1, ev2, k1, k2, k3⟩ := hbody z hz b1 _ ev ((sX.set k (Ob.dK true (encB eI M1 Bm))).set n (Ob.dK false (encB eI M b1))) hi hgb
        (by rw [List.getElem?_set_self (by rw [List.length_set]; exact ln)]) (by rw [List.getElem?_set_ne hnk, List.getElem?_set_self lk])
      rw [List.set_set] at k2
      exact ⟨ev1, ev2, k1, k2, k3⟩)
    ev hI
  rw [foldl_one] at hlp
  refine ⟨ev', ?_, hI'⟩
  have hs0 : (sX.set k (Ob.dK true (encB eI M1 Bm))).set n (Ob.dK false (encB eI M b)) = sX.set k (Ob.dK true (encB eI M1 Bm)) := by
    rw [set_two (Ne.symm hnk)]
    congr 1
    refine List.ext_getElem? fun j => ?_
    by_cases e : n = j
    · subst e; rw [List.getElem?_set_self ln, hn]
    · rw [List.getElem?_set_ne e]
  rw [hs0] at hlp
  have := lock_eval (ma := ma) (m := mFor (mItK .dK ma) gt body) (ev := ev) (st := sX) (n := k) (ob' := Ob.dK true (encB eI M1 Bm)) (ob3 := Ob.dK false (encB eI M1 Bm)) (hma sX) hk rfl
    (by
      simp only [e_For, e_ItK, hma]
      have hs : (sX.set k (Ob.dK true (encB eI M1 Bm)))[k]? = some (Ob.dK true (encB eI M1 Bm)) := List.getElem?_set_self lk
      simp only [Rs.bind_ok, hs, items_dK hl]
      exact hlp)
    (by rw [List.getElem?_set_ne hnk, List.getElem?_set_self lk]) rfl
  rw [this, set_two hnk, set_back hk]
/-- what a call tells: a new book -/
def Tells (c : Fm) (args : List D) (st : Sto) (M : Int) (b : List (Int × Int)) : Prop := ∃ i g, c args st = .ok (.ref i) (st ++ g) ∧ st.length ≤ i ∧ (st ++ g)[i]? = some (Ob.dK false (encB eI M b))
theorem loop_foldP {α β : Type} {g : Gt} {body : Ms} {I : Ev → Prop} {P : β → Sto → Prop} {f : β → α → β} {en : α → D} : ∀ (xs : List α) (b0 : β), (∀ pre x post ev st, xs = pre ++ x :: post → I ev → P (pre.foldl f b0) st → ∃ ev1 ev2 st2, g (en x) ev = some ev1 ∧ body ev1 st = .ok (.nx, ev2) st2 ∧ I ev2 ∧ P (f (pre.foldl f b0) x) st2) →
    ∀ ev st, I ev → P b0 st → ∃ ev' st', loop g body (xs.map en) ev st = .ok (.nx, ev') st' ∧ I ev' ∧ P (xs.foldl f b0) st'
  | [], b0, _, ev, st, h, h' => ⟨ev, st, rfl, h, h'⟩
  | x :: xs, b0, hs, ev, st, h, h' => by
    obtain ⟨ev1, ev2, st2, h1, h2, h3, h3'⟩ := hs [] x xs ev st rfl h h'
    obtain ⟨ev', st', h4, h5, h6⟩ := loop_foldP xs (f b0 x) (fun pre d' post ev st e hi hp => hs (x :: pre) d' post ev st (by rw [e]; rfl) hi hp) ev2 st2 h3 h3'
    refine ⟨ev', st', ?_, h5, h6⟩
    simp only [List.map_cons, loop, h1, h2]
    exact h4
end Ml

namespace Ml
open PySem L2
def rng1 (s : Nat) : List Int := (List.range s).map fun (i : Nat) => 1 + (i : Int)
theorem rng1_mem {s : Nat} {f : Int} (h : f ∈ rng1 s) : 1 ≤ f ∧ f ≤ s := by
  obtain ⟨i, hi, rfl⟩ := List.mem_map.mp h
  have := List.mem_range.mp hi
  omega
/-- where found stands, and what is behind it -/
def Fnd (st : Sto) (M : Int) (b : List (Int × Int)) (st' : Sto) : Prop := ∃ g, st' = st ++ (Ob.dK false (encB eI M b) :: g)
theorem Fnd.at {st st' : Sto} {M : Int} {b : List (Int × Int)} (h : Fnd st M b st') : st'[st.length]? = some (Ob.dK false (encB eI M b)) := by
  obtain ⟨g, rfl⟩ := h
  rw [List.getElem?_append_right (Nat.le_refl _), Nat.sub_self]; rfl
theorem Fnd.put {st st' : Sto} {M : Int} {b b' : List (Int × Int)} (h : Fnd st M b st') : Fnd st M b' (st'.set st.length (Ob.dK false (encB eI M b'))) := by
  obtain ⟨g, rfl⟩ := h
  refine ⟨g, ?_⟩
  rw [List.set_append_right _ _ (Nat.le_refl _), Nat.sub_self]; rfl
theorem Fnd.more {st st' : Sto} {M : Int} {b : List (Int × Int)} (h : Fnd st M b st') (g : Sto) : Fnd st M b (st' ++ g) := by
  obtain ⟨g', rfl⟩ := h
  exact ⟨g' ++ g, by simp⟩
theorem die_gen {c_add c_die c_prod : Fm} {word : Str} {s : Nat} {last M : Int} {row : Int → List (Int × Int)} {st : Sto} (hs : s ≤ 100)
    (hbody : ∀ f ∈ rng1 s, ∀ (b cs : List (Int × Int)) (st' : Sto) (v5 v6 : Option D), GoodAdd b (row f ++ cs) → Fnd st M b st' →
      ∃ v5' v6' st2, m_one_die_b2 c_add c_die c_prod [some (.str word), some (.int s), some (.int last), some (.ref st.length), some (.int f), v5, v6] st' = .ok (.nx, [some (.str word), some (.int s), some (.int last), some (.ref st.length), some (.int f), v5', v6']) st2 ∧ Fnd st M (addAll b (row f)) st2)
    (hg : GoodAdd [] ((rng1 s).flatMap row)) : Tells (fnM 3 7 (m_one_die c_add c_die c_prod)) [.str word, .int s, .int last] st M (addAll [] ((rng1 s).flatMap row)) := by
  obtain ⟨ev', st', hl, ⟨v4, v5, v6, rfl⟩, hP⟩ := loop_foldP (g := gtName 4) (body := m_one_die_b2 c_add c_die c_prod) (en := fun f : Int => D.int f) (P := Fnd st M) (f := fun b f => addAll b (row f))
    (I := fun ev => ∃ v4 v5 v6, ev = [some (.str word), some (.int s), some (.int last), some (.ref st.length), v4, v5, v6]) (rng1 s) []
    (by
      rintro pre f post ev st' e ⟨v4, v5, v6, rfl⟩ hP
      have hf : f ∈ rng1 s := by rw [e]; simp
      have hgb : GoodAdd (pre.foldl (fun b f => addAll b (row f)) []) (row f ++ post.flatMap row) := by
        have e2 : (rng1 s).flatMap row = pre.flatMap row ++ (row f ++ post.flatMap row) := by rw [e]; simp
        rw [e2] at hg
        rw [foldl_flat]
        exact hg.right
      obtain ⟨v5', v6', st2, k1, k2⟩ := hbody f hf _ _ st' v5 v6 hgb hP
      exact ⟨_, _, st2, rfl, k1, ⟨_, _, _, rfl⟩, k2⟩)
    [some (.str word), some (.int s), some (.int last), some (.ref st.length), none, none, none] (st ++ [Ob.dK false []]) ⟨_, _, _, rfl⟩ ⟨[], rfl⟩
  rw [foldl_flat] at hP
  have hat := hP.at
  obtain ⟨g, rfl⟩ := hP
  have hr : rngD 1 s = (rng1 s).map D.int := by simp [rngD, rng1]
  refine ⟨st.length, _, ?_, Nat.le_refl _, hat⟩
  have e1 : ((s : Int) + 1 - 1).toNat ≤ lim := by have : lim = 1000000 := rfl; omega
  have e2 : (s : Int) + 1 - 1 = s := by omega
  have e3 : s ≤ lim := by have : lim = 1000000 := rfl; omega
  have e4 : (-1000000000 : Int) ≤ (s : Int) + 1 := by omega
  have e5 : (s : Int) + 1 ≤ 1000000000 := by omega
  have hl' : loop (gtName 4) (m_one_die_b2 c_add c_die c_prod) (rngD 1 s) [some (.str word), some (.int s), some (.int last), some (.ref st.length), none, none, none] (st ++ [Ob.dK false []]) = .ok (.nx, [some (.str word), some (.int s), some (.int last), some (.ref st.length), v4, v5, v6]) (st ++ (Ob.dK false (encB eI M (addAll [] ((rng1 s).flatMap row))) :: g)) := by rw [hr]; exact hl
  simp [fnM, m_one_die, e3, e4, e5, e2, hl']
theorem fr_unit {c : Int} {s : Nat} (hc : 0 < c) (hs : 0 < s) : fr c (c * s) = .tup [.int 1, .int s] := by
  have h := fr_scale (c := c) (x := 1) (y := s) hc
  rw [Int.mul_one] at h
  rw [h]
  unfold fr
  simp
end Ml

namespace Ml
open PySem L2
def AddsTo (c_add : Fm) (M : Int) : Prop := ∀ (n : Nat) (b cs : List (Int × Int)) (z : Int × Int) (st : Sto), st[n]? = some (Ob.dK false (encB eI M b)) → GoodAdd b (z :: cs) → c_add [.ref n, .int z.1, fr z.2 M] st = .ok .non (st.set n (Ob.dK false (encB eI M (addC b z.1 z.2))))
def dDice (s : Nat) : List (Int × Int) := addAll [] ((rng1 s).flatMap fun f => [(f, 1)])
def dCount (s : Nat) (l : Int) : List (Int × Int) := addAll [] ((rng1 s).flatMap fun f => [((if l ≤ f then 1 else 0), 1)])
def rowA (s : Nat) (l f : Int) : List (Int × Int) := if f ≤ l then dDice s else [(f, (s : Int))]
def dAgain (s : Nat) (l : Int) : List (Int × Int) := addAll [] ((rng1 s).flatMap (rowA s l))
def rowB (s : Nat) (l : Nat) (B : List (Int × Int)) (f : Int) : List (Int × Int) := if f = s then B.map fun z => (z.1 + f, z.2) else [(f, (s : Int) ^ (l + 1))]
def dBurst (s : Nat) : Nat → List (Int × Int)
  | 0 => dDice s
  | l + 1 => addAll [] ((rng1 s).flatMap (rowB s l (dBurst s l)))
variable {c_add c_die c_prod : Fm} {s : Nat} {st : Sto}
theorem dice_book {last : Int} {w : Str} (ha : AddsTo c_add s) (hs : 0 < s) (hs2 : s ≤ 100) (hw : w = "dice" ∨ (w = "burst" ∧ last = 0)) (hg : GoodAdd [] ((rng1 s).flatMap fun f => [(f, 1)])) : Tells (fnM 3 7 (m_one_die c_add c_die c_prod)) [.str w, .int s, .int last] st s (dDice s) := by
  refine die_gen hs2 (fun f hf b cs st' v5 v6 hg hP => ?_) hg
  have e := ha st.length b cs (f, 1) st' hP.at hg
  have hu := fr_unit (c := 1) (s := s) (by decide) hs
  rw [Int.one_mul] at hu
  simp only [hu] at e
  refine ⟨v5, v6, _, ?_, hP.put⟩
  rcases hw with rfl | ⟨rfl, rfl⟩
  · simp [m_one_die_b2, e, addAll]
  · by_cases q : f = (s : Int)
    · subst q; simp [m_one_die_b2, e, addAll]
    · simp [m_one_die_b2, e, addAll, q]
theorem count_book {last : Int} (ha : AddsTo c_add s) (hs : 0 < s) (hs2 : s ≤ 100) (hg : GoodAdd [] ((rng1 s).flatMap fun f => [((if last ≤ f then 1 else 0), 1)])) : Tells (fnM 3 7 (m_one_die c_add c_die c_prod)) [.str "count", .int s, .int last] st s (dCount s last) := by
  refine die_gen hs2 (fun f hf b cs st' v5 v6 hg hP => ?_) hg
  have e := ha st.length b cs ((if last ≤ f then 1 else 0), 1) st' hP.at hg
  have hu := fr_unit (c := 1) (s := s) (by decide) hs
  rw [Int.one_mul] at hu
  simp only [hu] at e
  refine ⟨v5, v6, _, ?_, hP.put⟩
  by_cases q : last ≤ f
  · simp only [q, if_true] at e ⊢
    simp [m_one_die_b2, e, addAll, q]
  · simp only [q, if_false] at e ⊢
    simp [m_one_die_b2, e, addAll, q]
/-- the walk over what a further throw tells -/
theorem more_walk {w : Str} {last f : Int} {k add1 : Int} {b cs B : List (Int × Int)} {M1 : Int} {st' : Sto} {v5 v6 : Option D} (ha : AddsTo c_add (M1 * s)) (hs : 0 < s) (hP : Fnd st (M1 * s) b st')
    (hb : add1 = if w = "burst" then f else 0) (hsm : small64 f = true)
    (hp : ∀ z ∈ B, ∀ st, c_prod [fr z.2 M1, .tup [.int 1, .int s]] st = .ok (fr z.2 (M1 * s)) st) (nB : (ks B).Nodup) (lB : B.length ≤ lim)
    (ht : Tells c_die [.str (if w = "burst" then "burst" else "dice"), .int s, .int (last - 1)] st' M1 B) (hg : GoodAdd b (B.map fun z => (z.1 + add1, z.2))) :
    ∃ v5' v6' st2, mSeq (mSet 5 (mCall c_die (mCons (mOp gIx (mTup (mCons (mC (.str "dice")) (mCons (mC (.str "burst")) mNil))) (mCB gInt (mCons (mOp gEq (mVar 0) (mC (.str "burst"))) mNil))) (mCons (mVar 1) (mCons (mOp gSub (mVar 2) (mC (.int 1))) mNil))))) (lockN (mVar 5) (mFor (mItK .dK (mVar 5)) (gtName 6) (m_one_die_b1 c_add c_die c_prod)))
      [some (.str w), some (.int s), some (.int last), some (.ref st.length), some (.int f), v5, v6] st' = .ok (.nx, [some (.str w), some (.int s), some (.int last), some (.ref st.length), some (.int f), v5', v6']) st2 ∧ Fnd st (M1 * s) (addAll b (B.map fun z => (z.1 + add1, z.2))) st2 := by
  obtain ⟨i, g, e, hi, hat⟩ := ht
  have hP2 := hP.more g
  have hlen : st.length < st'.length := by obtain ⟨g', rfl⟩ := hP; simp
  obtain ⟨ev', hw, v6', rfl⟩ := walk_add (gt := gtName 6) (body := m_one_die_b1 c_add c_die c_prod) (ma := mVar 5) (one := fun z => (z.1 + add1, z.2)) (n := st.length) (k := i)
    (I := fun ev => ∃ v6, ev = [some (.str w), some (.int s), some (.int last), some (.ref st.length), some (.int f), some (.ref i), v6]) hat hP2.at (by omega) lB
    (by
      rintro z hz b' cs ev s' ⟨v6, rfl⟩ hg' h1 h2
      refine ⟨_, [some (.str w), some (.int s), some (.int last), some (.ref st.length), some (.int f), some (.ref i), some (.int z.1)], rfl, ?_, ⟨_, rfl⟩⟩
      have e1 := get_dK h2 nB hz
      have e2 := ha st.length b' cs (z.1 + add1, z.2) s' h1 hg'
      have e3 := hp z hz s'
      subst hb
      by_cases q : w = "burst"
      · subst q
        simp only [if_true] at e2
        simp [gtName, m_one_die_b1, e1, e2, e3, hsm]
      · have q' : (w == "burst") = false := by simpa using q
        simp only [q, if_false] at e2
        simp only [Int.add_zero] at e2
        simp [gtName, m_one_die_b1, e1, e2, e3, hsm, q, q'])
    hg (ev := [some (.str w), some (.int s), some (.int last), some (.ref st.length), some (.int f), some (.ref i), v6]) (fun s => by simp) ⟨_, rfl⟩
  refine ⟨some (.ref i), v6', _, ?_, hP2.put⟩
  by_cases q : w = "burst"
  · subst q
    simp only [if_true] at e
    simp [e, hw]
  · have q' : (w == "burst") = false := by simpa using q
    simp only [q, if_false] at e
    simp [e, hw, q, q']
theorem again_book {last : Int} (ha : AddsTo c_add (s * s)) (hs : 0 < s) (hs2 : s ≤ 100) (hp : ∀ z ∈ dDice s, ∀ st, c_prod [fr z.2 s, .tup [.int 1, .int s]] st = .ok (fr z.2 (s * s)) st) (nB : (ks (dDice s)).Nodup) (lB : (dDice s).length ≤ lim)
    (ht : ∀ l st, Tells c_die [.str "dice", .int s, .int l] st s (dDice s)) (hg : GoodAdd [] ((rng1 s).flatMap (rowA s last))) : Tells (fnM 3 7 (m_one_die c_add c_die c_prod)) [.str "again", .int s, .int last] st (s * s) (dAgain s last) := by
  refine die_gen hs2 (fun f hf b cs st' v5 v6 hg hP => ?_) hg
  have hf' := rng1_mem hf
  by_cases q : f ≤ last
  · have hr : rowA s last f = (dDice s).map fun z => (z.1 + 0, z.2) := by simp [rowA, q]
    rw [hr] at hg ⊢
    obtain ⟨v5', v6', st2, k1, k2⟩ := more_walk (w := "again") (last := last) (f := f) (add1 := 0) (k := 0) (cs := []) (v5 := v5) (v6 := v6) (c_die := c_die) ha hs hP (by simp) (small_of (by omega) (by omega)) hp nB lB (by simpa using ht (last - 1) st') hg.left
    refine ⟨v5', v6', st2, ?_, k2⟩
    rw [← k1]
    simp [m_one_die_b2, q]
  · have hr : rowA s last f = [(f, (s : Int))] := by simp [rowA, q]
    rw [hr] at hg ⊢
    have e := ha st.length b cs (f, (s : Int)) st' hP.at hg
    have hu := fr_unit (c := s) (s := s) (by omega) hs
    simp only [hu] at e
    refine ⟨v5, v6, _, ?_, hP.put⟩
    simp [m_one_die_b2, e, addAll, q]
theorem burst_book {l : Nat} {B : List (Int × Int)} (ha : AddsTo c_add ((s : Int) ^ (l + 1) * s)) (hs : 0 < s) (hs2 : s ≤ 100) (hp : ∀ z ∈ B, ∀ st, c_prod [fr z.2 ((s : Int) ^ (l + 1)), .tup [.int 1, .int s]] st = .ok (fr z.2 ((s : Int) ^ (l + 1) * s)) st) (nB : (ks B).Nodup) (lB : B.length ≤ lim)
    (ht : ∀ st, Tells c_die [.str "burst", .int s, .int l] st ((s : Int) ^ (l + 1)) B) (hg : GoodAdd [] ((rng1 s).flatMap (rowB s l B))) : Tells (fnM 3 7 (m_one_die c_add c_die c_prod)) [.str "burst", .int s, .int ((l : Int) + 1)] st ((s : Int) ^ (l + 1) * s) (addAll [] ((rng1 s).flatMap (rowB s l B))) := by
  refine die_gen hs2 (fun f hf b cs st' v5 v6 hg hP => ?_) hg
  have hf' := rng1_mem hf
  have hl : (0 : Int) < (l : Int) + 1 := by omega
  by_cases q : f = (s : Int)
  · have hr : rowB s l B f = B.map fun z => (z.1 + f, z.2) := by simp [rowB, q]
    rw [hr] at hg ⊢
    obtain ⟨v5', v6', st2, k1, k2⟩ := more_walk (w := "burst") (last := (l : Int) + 1) (f := f) (add1 := f) (k := 0) (cs := []) (v5 := v5) (v6 := v6) (c_die := c_die) ha hs hP (by simp) (small_of (by omega) (by omega)) hp nB lB (by have := ht st'; simpa using this) hg.left
    refine ⟨v5', v6', st2, ?_, k2⟩
    rw [← k1]
    simp [m_one_die_b2, q, hl]
  · have hr : rowB s l B f = [(f, (s : Int) ^ (l + 1))] := by simp [rowB, q]
    rw [hr] at hg ⊢
    have e := ha st.length b cs (f, (s : Int) ^ (l + 1)) st' hP.at hg
    have hu := fr_unit (c := (s : Int) ^ (l + 1)) (s := s) (Int.pow_pos (by omega)) hs
    simp only [hu] at e
    refine ⟨v5, v6, _, ?_, hP.put⟩
    simp [m_one_die_b2, e, addAll, q]
end Ml

namespace Ml
open PySem L2
structure GoodAddT (b cs : List (List Int × Int)) : Prop where
  nd : (ks b).Nodup
  nb : NonNeg b
  nc : NonNeg cs
  lt : tot b + tot cs < 2 ^ 60
  len : b.length + cs.length ≤ 100000
theorem len_addC {κ : Type} [DecidableEq κ] (b : List (κ × Int)) (w : κ) (c : Int) : (addC b w c).length ≤ b.length + 1 := by
  unfold addC
  split <;> simp
theorem len_addAll {κ : Type} [DecidableEq κ] : ∀ (cs b : List (κ × Int)), (addAll b cs).length ≤ b.length + cs.length
  | [], b => by simp [addAll]
  | z :: cs, b => by
    have h1 := len_addAll cs (addC b z.1 z.2)
    have h2 := len_addC b z.1 z.2
    simp only [addAll, List.foldl_cons, List.length_cons] at h1 ⊢
    omega
theorem GoodAddT.left {b cs ds : List (List Int × Int)} (h : GoodAddT b (cs ++ ds)) : GoodAddT b cs := by
  have n2 : NonNeg ds := fun z hz => h.nc z (List.mem_append_right _ hz)
  have := tot_nonneg n2
  have l := h.lt
  have l2 := h.len
  rw [tot_app] at l
  rw [List.length_append] at l2
  exact ⟨h.nd, h.nb, fun z hz => h.nc z (List.mem_append_left _ hz), by omega, by omega⟩
theorem GoodAddT.right {b cs ds : List (List Int × Int)} (h : GoodAddT b (cs ++ ds)) : GoodAddT (addAll b cs) ds := by
  have n1 : NonNeg cs := fun z hz => h.nc z (List.mem_append_left _ hz)
  have n2 : NonNeg ds := fun z hz => h.nc z (List.mem_append_right _ hz)
  obtain ⟨i1, i2, i3⟩ := addAll_inv h.nd h.nb n1
  have l := h.lt
  have l2 := h.len
  rw [tot_app] at l
  rw [List.length_append] at l2
  have := len_addAll cs b
  exact ⟨i1, i2, n2, by omega, by omega⟩
theorem GoodAddT.head {b cs : List (List Int × Int)} {z : List Int × Int} (h : GoodAddT b (z :: cs)) : sm (cnt b z.1) ∧ sm z.2 := by
  have h1 := cnt_le_tot h.nb z.1
  have h2 := h.nc z List.mem_cons_self
  have n2 : NonNeg cs := fun y hy => h.nc y (List.mem_cons_of_mem _ hy)
  have h3 := tot_nonneg n2
  have h4 := tot_nonneg h.nb
  have l := h.lt
  simp only [tot, List.map_cons, List.sum_cons] at l h3 h4 h1
  unfold sm
  omega
theorem cnt_mem {κ : Type} [DecidableEq κ] {b : List (κ × Int)} {z : κ × Int} (hn : (ks b).Nodup) (hz : z ∈ b) : cnt b z.1 = z.2 := by
  induction b with
  | nil => cases hz
  | cons y b ih =>
    simp only [ks, List.map_cons, List.nodup_cons] at hn
    rw [cnt_cons]
    rcases List.mem_cons.mp hz with rfl | hz
    · rw [if_pos rfl]
    · rw [if_neg (fun r => hn.1 (by rw [r]; exact List.mem_map_of_mem hz))]
      exact ih hn.2 hz
theorem items_dT {M : Int} {b : List (List Int × Int)} (h : b.length ≤ lim) : itemsK .dT (Ob.dT true (encB eT M b)) = some (b.map fun z => .tup (z.1.map .int)) := by
  simp only [itemsK, len_encB, if_pos h]
  simp only [encB, List.map_map]
  congr 1
  refine List.map_congr_left fun z _ => ?_
  simp only [Function.comp_apply, eT, List.map_map]
  congr 1
theorem get_dT {M : Int} {b : List (List Int × Int)} {st : Sto} {i : Nat} {lk : Bool} {z : List Int × Int} (h : st[i]? = some (Ob.dT lk (encB eT M b))) (hn : (ks b).Nodup) (hz : z ∈ b) : getD1 st (.ref i) (.tup (z.1.map .int)) = some (some (fr z.2 M)) := by
  have hm : z.1 ∈ ks b := List.mem_map_of_mem hz
  have hv := val_encB eT_inj M z.1 b
  rw [if_pos hm, cnt_mem hn hz] at hv
  have hk : keysOf (.tup (z.1.map .int)) = some (eT z.1) := by simp [keysOf, intsOf_map]
  simp only [getD1, h, hk, Option.map_some, hv]
def AddsToT (c_add : Fm) (M : Int) : Prop := ∀ (n : Nat) (b cs : List (List Int × Int)) (z : List Int × Int) (st : Sto), st[n]? = some (Ob.dT false (encB eT M b)) → GoodAddT b (z :: cs) → c_add [.ref n, .tup (z.1.map .int), fr z.2 M] st = .ok .non (st.set n (Ob.dT false (encB eT M (addC b z.1 z.2))))
theorem foldl_flatT {α : Type} (row : α → List (List Int × Int)) : ∀ (xs : List α) (b : List (List Int × Int)), xs.foldl (fun b x => addAll b (row x)) b = addAll b (xs.flatMap row)
  | [], b => by simp [addAll]
  | x :: xs, b => by rw [List.foldl_cons, foldl_flatT row xs, List.flatMap_cons, addAll_app]
theorem foldl_oneT {α : Type} (one : α → List Int × Int) : ∀ (xs : List α) (b : List (List Int × Int)), xs.foldl (fun b x => addC b (one x).1 (one x).2) b = addAll b (xs.map one)
  | [], b => by simp [addAll]
  | x :: xs, b => by
    rw [List.foldl_cons, foldl_oneT one xs]
    simp [addAll]
def rowF (s : Nat) (z : List Int × Int) : List (List Int × Int) := (rng1 s).map fun f => (sortI (z.1 ++ [f]), z.2)
def stepR (s : Nat) (R : List (List Int × Int)) : List (List Int × Int) := addAll [] (R.flatMap (rowF s))
variable {c_add c_prod : Fm} {s : Nat} {M : Int} {R : List (List Int × Int)}
theorem face_loop {z : List Int × Int} {b : List (List Int × Int)} {n k : Nat} {s' : Sto} {v0 v1 v3 v5 v8 v9 v10 : Option D} (hs : s ≤ 100) (ha : AddsToT c_add (M * s)) (hp : ∀ z ∈ R, ∀ st, c_prod [fr z.2 M, .tup [.int 1, .int s]] st = .ok (fr z.2 (M * s)) st) (nR : (ks R).Nodup) (hz : z ∈ R) (hzl : z.1.length ≤ 100)
    (hk : s'[k]? = some (Ob.dT true (encB eT M R))) (hn : s'[n]? = some (Ob.dT false (encB eT (M * s) b))) (hnk : n ≠ k) (hg : GoodAddT b (rowF s z)) :
    ∃ v8', m_kept_shares_b3 c_add c_prod [v0, v1, some (.int s), v3, some (.ref k), v5, some (.ref n), some (.tup (z.1.map .int)), v8, v9, v10] s' = .ok (.nx, [v0, v1, some (.int s), v3, some (.ref k), v5, some (.ref n), some (.tup (z.1.map .int)), v8', v9, v10]) (s'.set n (Ob.dT false (encB eT (M * s) (addAll b (rowF s z))))) := by
  have ln : n < s'.length := (List.getElem?_eq_some_iff.mp hn).1
  obtain ⟨ev', hl, v8', rfl⟩ := loop_foldA (g := gtName 8) (body := m_kept_shares_b2 c_add c_prod) (en := fun f : Int => D.int f) (S := fun b => s'.set n (Ob.dT false (encB eT (M * s) b))) (f := fun b f => addC b (sortI (z.1 ++ [f])) z.2)
    (I := fun ev => ∃ v8, ev = [v0, v1, some (.int s), v3, some (.ref k), v5, some (.ref n), some (.tup (z.1.map .int)), v8, v9, v10]) (rng1 s) b
    (by
      rintro pre f post ev e ⟨v8, rfl⟩
      have hgb : GoodAddT (pre.foldl (fun b f => addC b (sortI (z.1 ++ [f])) z.2) b) ((sortI (z.1 ++ [f]), z.2) :: post.map fun f => (sortI (z.1 ++ [f]), z.2)) := by
        have e2 : rowF s z = (pre.map fun f => (sortI (z.1 ++ [f]), z.2)) ++ ((sortI (z.1 ++ [f]), z.2) :: post.map fun f => (sortI (z.1 ++ [f]), z.2)) := by unfold rowF; rw [e]; simp
        rw [e2] at hg
        have := hg.right
        rw [foldl_oneT (fun (f : Int) => (sortI (z.1 ++ [f]), z.2))]
        exact this
      generalize pre.foldl (fun b f => addC b (sortI (z.1 ++ [f])) z.2) b = b1 at *
      have g1 : (s'.set n (Ob.dT false (encB eT (M * s) b1)))[n]? = some (Ob.dT false (encB eT (M * s) b1)) := List.getElem?_set_self ln
      have g2 : (s'.set n (Ob.dT false (encB eT (M * s) b1)))[k]? = some (Ob.dT true (encB eT M R)) := by rw [List.getElem?_set_ne hnk]; exact hk
      have e1 := get_dT g2 nR hz
      have e2 := ha n b1 _ (sortI (z.1 ++ [f]), z.2) _ g1 hgb
      rw [List.set_set] at e2
      have e3 := hp z hz (s'.set n (Ob.dT false (encB eT (M * s) b1)))
      have e4 : gSorted (z.1.map D.int ++ [D.int f]) = some ((sortI (z.1 ++ [f])).map D.int) := by have := e_sorted (z.1 ++ [f]); simpa using this
      have e5 : z.1.length + 1 ≤ lim := by have : lim = 1000000 := rfl; omega
      refine ⟨_, [v0, v1, some (.int s), v3, some (.ref k), v5, some (.ref n), some (.tup (z.1.map .int)), some (.int f), v9, v10], rfl, ?_, ⟨_, rfl⟩⟩
      simp only at e2
      simp [gtName, m_kept_shares_b2, e1, e2, e3, e4, e5])
    [v0, v1, some (.int s), v3, some (.ref k), v5, some (.ref n), some (.tup (z.1.map .int)), v8, v9, v10] ⟨_, rfl⟩
  rw [foldl_oneT (fun (f : Int) => (sortI (z.1 ++ [f]), z.2))] at hl
  have hs0 : s'.set n (Ob.dT false (encB eT (M * s) b)) = s' := by
    refine List.ext_getElem? fun j => ?_
    by_cases e : n = j
    · subst e; rw [List.getElem?_set_self ln, hn]
    · rw [List.getElem?_set_ne e]
  rw [hs0] at hl
  have hr : rngD 1 s = (rng1 s).map D.int := by simp [rngD, rng1]
  have e1 : (s : Int) + 1 - 1 = s := by omega
  have e3 : s ≤ lim := by have : lim = 1000000 := rfl; omega
  have e4 : (-1000000000 : Int) ≤ (s : Int) + 1 := by omega
  have e5 : (s : Int) + 1 ≤ 1000000000 := by omega
  rw [show ((rng1 s).map fun f => D.int f) = rngD 1 s from hr.symm] at hl
  refine ⟨v8', ?_⟩
  simp [m_kept_shares_b3, e1, e3, e4, e5, hl]
  rfl
end Ml

namespace Ml
open PySem L2
theorem set_self_of {st : Sto} {n : Nat} {x : Ob} (h : st[n]? = some x) : st.set n x = st := by
  have ln : n < st.length := (List.getElem?_eq_some_iff.mp h).1
  refine List.ext_getElem? fun j => ?_
  by_cases e : n = j
  · subst e; rw [List.getElem?_set_self ln, h]
  · rw [List.getElem?_set_ne e]
variable {c_add c_prod : Fm} {s : Nat} {M : Int} {R : List (List Int × Int)}
/-- one throw more -/
theorem turn_ok {k : Nat} {st : Sto} {v0 v1 v3 v5 v6 v7 v8 v9 v10 : Option D} (hs : s ≤ 100) (ha : AddsToT c_add (M * s)) (hp : ∀ z ∈ R, ∀ st, c_prod [fr z.2 M, .tup [.int 1, .int s]] st = .ok (fr z.2 (M * s)) st) (nR : (ks R).Nodup) (lR : R.length ≤ lim) (hzl : ∀ z ∈ R, z.1.length ≤ 100)
    (hk : st[k]? = some (Ob.dT false (encB eT M R))) (hg : GoodAddT [] (R.flatMap (rowF s))) :
    ∃ v6' v7' v8', m_kept_shares_b4 c_add c_prod [v0, v1, some (.int s), v3, some (.ref k), v5, v6, v7, v8, v9, v10] st = .ok (.nx, [v0, v1, some (.int s), v3, some (.ref st.length), v5, v6', v7', v8', v9, v10]) (st ++ [Ob.dT false (encB eT (M * s) (stepR s R))]) := by
  have lk : k < st.length := (List.getElem?_eq_some_iff.mp hk).1
  obtain ⟨ev', hl, v7', v8', rfl⟩ := loop_foldA (g := gtName 7) (body := m_kept_shares_b3 c_add c_prod) (en := fun z : List Int × Int => D.tup (z.1.map .int)) (S := fun b => st.set k (Ob.dT true (encB eT M R)) ++ [Ob.dT false (encB eT (M * s) b)]) (f := fun b z => addAll b (rowF s z))
    (I := fun ev => ∃ v7 v8, ev = [v0, v1, some (.int s), v3, some (.ref k), v5, some (.ref st.length), v7, v8, v9, v10]) R []
    (by
      rintro pre z post ev e ⟨v7, v8, rfl⟩
      have hz : z ∈ R := by rw [e]; simp
      have hgb : GoodAddT (pre.foldl (fun b z => addAll b (rowF s z)) []) (rowF s z) := by
        have e2 : R.flatMap (rowF s) = pre.flatMap (rowF s) ++ (rowF s z ++ post.flatMap (rowF s)) := by rw [e]; simp
        rw [e2] at hg
        rw [foldl_flatT]
        exact hg.right.left
      generalize pre.foldl (fun b z => addAll b (rowF s z)) [] = b1 at *
      have L : (st.set k (Ob.dT true (encB eT M R))).length = st.length := List.length_set
      obtain ⟨v8', q⟩ := face_loop (s' := st.set k (Ob.dT true (encB eT M R)) ++ [Ob.dT false (encB eT (M * s) b1)]) (n := st.length) (k := k) (v0 := v0) (v1 := v1) (v3 := v3) (v5 := v5) (v8 := v8) (v9 := v9) (v10 := v10) hs ha hp nR hz (hzl z hz)
        (by rw [List.getElem?_append_left (by rw [L]; exact lk), List.getElem?_set_self lk]) (by rw [List.getElem?_append_right (by omega), L, Nat.sub_self]; rfl) (by omega) hgb
      rw [set_last L.symm] at q
      exact ⟨_, _, rfl, q, _, _, rfl⟩)
    [v0, v1, some (.int s), v3, some (.ref k), v5, some (.ref st.length), v7, v8, v9, v10] ⟨_, _, rfl⟩
  rw [foldl_flatT] at hl
  refine ⟨some (.ref st.length), v7', v8', ?_⟩
  have hs1 : (st ++ [Ob.dT false (encB eT (M * s) [])]).set k (Ob.dT true (encB eT M R)) = st.set k (Ob.dT true (encB eT M R)) ++ [Ob.dT false (encB eT (M * s) [])] := set_app lk
  have g1 : ∀ b : List (List Int × Int), (st.set k (Ob.dT true (encB eT M R)) ++ [Ob.dT false (encB eT (M * s) b)])[k]? = some (Ob.dT true (encB eT M R)) := fun b => by
    rw [List.getElem?_append_left (by rw [List.length_set]; exact lk), List.getElem?_set_self lk]
  have main := lock_eval (ma := mVar 4) (m := mFor (mItK .dT (mVar 4)) (gtName 7) (m_kept_shares_b3 c_add c_prod)) (ev := [v0, v1, some (.int s), v3, some (.ref k), v5, some (.ref st.length), v7, v8, v9, v10]) (st := st ++ [Ob.dT false (encB eT (M * s) [])]) (n := k) (ob' := Ob.dT true (encB eT M R)) (ob3 := Ob.dT false (encB eT M R)) (by simp; rfl) (by rw [List.getElem?_append_left lk]; exact hk) rfl
    (by rw [hs1]; simp only [e_For, e_ItK, e_Var]; simp [g1, items_dT lR]; exact hl) (g1 _) rfl
  rw [set_app (by rw [List.length_set]; exact lk), set_back hk] at main
  have e0 : encB eT (M * s) [] = [] := rfl
  rw [e0] at main
  simp [m_kept_shares_b4, main]
  rfl
def rowsR (s : Nat) : Nat → List (List Int × Int)
  | 0 => [([], 1)]
  | t + 1 => stepR s (rowsR s t)
/-- all throws -/
theorem turns_ok {st : Sto} {v0 v1 v3 v5 v6 v7 v8 v9 v10 : Option D} (hs : s ≤ 100) (many : Nat)
    (ha : ∀ t, t < many → AddsToT c_add ((s : Int) ^ t * s)) (hp : ∀ t, t < many → ∀ z ∈ rowsR s t, ∀ st, c_prod [fr z.2 ((s : Int) ^ t), .tup [.int 1, .int s]] st = .ok (fr z.2 ((s : Int) ^ t * s)) st)
    (hR : ∀ t, t < many → (ks (rowsR s t)).Nodup ∧ (rowsR s t).length ≤ lim ∧ (∀ z ∈ rowsR s t, z.1.length ≤ 100) ∧ GoodAddT [] ((rowsR s t).flatMap (rowF s))) :
    ∀ (t : Nat) (ds : List D), ds.length + t = many → ∀ (k : Nat) (st : Sto), st[k]? = some (Ob.dT false (encB eT ((s : Int) ^ t) (rowsR s t))) → ∀ v5 v6 v7 v8 : Option D, ∃ k' g v5' v6' v7' v8', loop (gtName 5) (m_kept_shares_b4 c_add c_prod) ds [v0, v1, some (.int s), v3, some (.ref k), v5, v6, v7, v8, v9, v10] st =
      .ok (.nx, [v0, v1, some (.int s), v3, some (.ref k'), v5', v6', v7', v8', v9, v10]) (st ++ g) ∧ (st ++ g)[k']? = some (Ob.dT false (encB eT ((s : Int) ^ many) (rowsR s many)))
  | t, [], h, k, st, hk, v5, v6, v7, v8 => by
    have e : t = many := by simpa using h
    subst e
    exact ⟨k, [], v5, v6, v7, v8, by simp [loop], by simpa using hk⟩
  | t, d :: ds, h, k, st, hk, v5, v6, v7, v8 => by
    have ht : t < many := by simp at h; omega
    obtain ⟨r1, r2, r3, r4⟩ := hR t ht
    obtain ⟨v6', v7', v8', e⟩ := turn_ok (c_add := c_add) (c_prod := c_prod) (v0 := v0) (v1 := v1) (v3 := v3) (v5 := some d) (v6 := v6) (v7 := v7) (v8 := v8) (v9 := v9) (v10 := v10) hs (ha t ht) (hp t ht) r1 r2 r3 hk r4
    obtain ⟨k', g, w5, w6, w7, w8, q1, q2⟩ := turns_ok (v0 := v0) (v1 := v1) (v3 := v3) (v5 := v5) (v6 := v6) (v7 := v7) (v8 := v8) (v9 := v9) (v10 := v10) (st := st) hs many ha hp hR (t + 1) ds (by simp at h; omega) st.length (st ++ [Ob.dT false (encB eT ((s : Int) ^ t * s) (stepR s (rowsR s t)))])
      (by rw [List.getElem?_append_right (Nat.le_refl _), Nat.sub_self, Int.pow_succ]; rfl) (some d) v6' v7' v8'
    refine ⟨k', Ob.dT false (encB eT ((s : Int) ^ t * s) (stepR s (rowsR s t))) :: g, w5, w6, w7, w8, ?_, by simpa using q2⟩
    have q3 : st ++ (Ob.dT false (encB eT ((s : Int) ^ t * s) (stepR s (rowsR s t))) :: g) = st ++ [Ob.dT false (encB eT ((s : Int) ^ t * s) (stepR s (rowsR s t)))] ++ g := by simp
    rw [q3]
    rw [loop]
    simp only [gtName, List.set_cons_succ, List.set_cons_zero, e]
    exact q1
end Ml

namespace Ml
open PySem L2
def keptC (high : Bool) (many kept : Nat) (z : List Int × Int) : Int × Int := ((if high = true then z.1.drop (many - kept) else z.1.take kept).sum, z.2)
def dKept (high : Bool) (s many kept : Nat) : List (Int × Int) := addAll [] ((rowsR s many).map (keptC high many kept))
def hiS (high : Bool) : String := if high = true then "high" else "low"
variable {c_add c_prod : Fm} {s many kept : Nat}
theorem kept_ok {high : Bool} {st : Sto} (hs : s ≤ 100) (hm : many ≤ 100) (hkm : kept ≤ many)
    (haT : ∀ t, t < many → AddsToT c_add ((s : Int) ^ t * s)) (ha : AddsTo c_add ((s : Int) ^ many)) (hp : ∀ t, t < many → ∀ z ∈ rowsR s t, ∀ st, c_prod [fr z.2 ((s : Int) ^ t), .tup [.int 1, .int s]] st = .ok (fr z.2 ((s : Int) ^ t * s)) st)
    (hR : ∀ t, t ≤ many → (ks (rowsR s t)).Nodup ∧ (rowsR s t).length ≤ lim ∧ (∀ z ∈ rowsR s t, z.1.length ≤ 100) ∧ (t < many → GoodAddT [] ((rowsR s t).flatMap (rowF s)))) (hg : GoodAdd [] ((rowsR s many).map (keptC high many kept))) :
    Tells (fnM 4 11 (m_kept_shares c_add c_prod)) [.str (Str.ofString (hiS high)), .int many, .int s, .int kept] st ((s : Int) ^ many) (dKept high s many kept) := by
  obtain ⟨k, g, v5, v6, v7, v8, q1, q2⟩ := turns_ok (c_add := c_add) (c_prod := c_prod) (v0 := some (.str (Str.ofString (hiS high)))) (v1 := some (.int many)) (v3 := some (.int kept)) (v5 := none) (v6 := none) (v7 := none) (v8 := none) (v9 := none) (v10 := none) (st := st) hs many haT hp
    (fun t ht => ⟨(hR t (by omega)).1, (hR t (by omega)).2.1, (hR t (by omega)).2.2.1, (hR t (by omega)).2.2.2 ht⟩) 0 (rngD 0 many) (by simp [rngD]) st.length (st ++ [Ob.dT false [([], fr 1 1)]]) (by rw [List.getElem?_append_right (Nat.le_refl _), Nat.sub_self]; rfl) none none none none
  generalize hst1 : st ++ [Ob.dT false [([], fr 1 1)]] ++ g = st1 at *
  obtain ⟨r1, r2, r3, _⟩ := hR many (Nat.le_refl _)
  have lk : k < st1.length := (List.getElem?_eq_some_iff.mp q2).1
  have L : (st1.set k (Ob.dT true (encB eT ((s : Int) ^ many) (rowsR s many)))).length = st1.length := List.length_set
  obtain ⟨ev', hl, v7', v10', rfl⟩ := loop_foldA (g := gtName 7) (body := m_kept_shares_b1 c_add c_prod) (en := fun z : List Int × Int => D.tup (z.1.map .int)) (S := fun b => st1.set k (Ob.dT true (encB eT ((s : Int) ^ many) (rowsR s many))) ++ [Ob.dK false (encB eI ((s : Int) ^ many) b)]) (f := fun b z => addC b (keptC high many kept z).1 (keptC high many kept z).2)
    (I := fun ev => ∃ v7 v10, ev = [some (.str (Str.ofString (hiS high))), some (.int many), some (.int s), some (.int kept), some (.ref k), v5, v6, v7, v8, some (.ref st1.length), v10]) (rowsR s many) []
    (by
      rintro pre z post ev e ⟨v7, v10, rfl⟩
      have hz : z ∈ rowsR s many := by rw [e]; simp
      have hgb : GoodAdd (pre.foldl (fun b z => addC b (keptC high many kept z).1 (keptC high many kept z).2) []) (keptC high many kept z :: post.map (keptC high many kept)) := by
        rw [e, List.map_append, List.map_cons] at hg
        rw [foldl_one]
        exact hg.right
      generalize pre.foldl (fun b z => addC b (keptC high many kept z).1 (keptC high many kept z).2) [] = b1 at *
      generalize hsL : st1.set k (Ob.dT true (encB eT ((s : Int) ^ many) (rowsR s many))) = sL at *
      have g1 : (sL ++ [Ob.dK false (encB eI ((s : Int) ^ many) b1)])[k]? = some (Ob.dT true (encB eT ((s : Int) ^ many) (rowsR s many))) := by
        rw [List.getElem?_append_left (by omega), ← hsL, List.getElem?_set_self lk]
      have g2 : (sL ++ [Ob.dK false (encB eI ((s : Int) ^ many) b1)])[st1.length]? = some (Ob.dK false (encB eI ((s : Int) ^ many) b1)) := by
        rw [List.getElem?_append_right (by omega), L, Nat.sub_self]; rfl
      have e1 := get_dT g1 r1 hz
      have e2 := ha st1.length b1 _ (keptC high many kept z) _ g2 hgb
      rw [set_last L.symm] at e2
      have c1 : cutD (z.1.map D.int) none (some (kept : Int)) = (z.1.take kept).map D.int := by rw [cut_to, List.map_take]
      have c2 : cutD (z.1.map D.int) (some ((many : Int) - kept)) none = (z.1.drop (many - kept)).map D.int := by
        have : (many : Int) - kept = ((many - kept : Nat) : Int) := by omega
        rw [this, cut_from, List.map_drop]
      cases high with
      | true =>
        refine ⟨_, [some (.str (Str.ofString (hiS true))), some (.int many), some (.int s), some (.int kept), some (.ref k), v5, v6, some (.tup (z.1.map .int)), v8, some (.ref st1.length), some (.tup ((z.1.drop (many - kept)).map .int))], rfl, ?_, ⟨_, _, rfl⟩⟩
        simp only [keptC, if_true] at e2 ⊢
        have e3 := e_sum (z.1.drop (many - kept))
        generalize hq : (z.1.drop (many - kept)).map D.int = q at *
        simp [gtName, m_kept_shares_b1, hiS, c1, c2, e1, e2, e3]
      | false =>
        refine ⟨_, [some (.str (Str.ofString (hiS false))), some (.int many), some (.int s), some (.int kept), some (.ref k), v5, v6, some (.tup (z.1.map .int)), v8, some (.ref st1.length), some (.tup ((z.1.take kept).map .int))], rfl, ?_, ⟨_, _, rfl⟩⟩
        simp only [keptC, if_neg (Bool.false_ne_true)] at e2 ⊢
        have e3 := e_sum (z.1.take kept)
        generalize hq : (z.1.take kept).map D.int = q at *
        simp [gtName, m_kept_shares_b1, hiS, c1, e1, e2, e3])
    [some (.str (Str.ofString (hiS high))), some (.int many), some (.int s), some (.int kept), some (.ref k), v5, v6, v7, v8, some (.ref st1.length), none] ⟨_, _, rfl⟩
  rw [foldl_one] at hl
  have hs1 : (st1 ++ [Ob.dK false (encB eI ((s : Int) ^ many) [])]).set k (Ob.dT true (encB eT ((s : Int) ^ many) (rowsR s many))) = st1.set k (Ob.dT true (encB eT ((s : Int) ^ many) (rowsR s many))) ++ [Ob.dK false (encB eI ((s : Int) ^ many) [])] := set_app lk
  have g1 : ∀ b : List (Int × Int), (st1.set k (Ob.dT true (encB eT ((s : Int) ^ many) (rowsR s many))) ++ [Ob.dK false (encB eI ((s : Int) ^ many) b)])[k]? = some (Ob.dT true (encB eT ((s : Int) ^ many) (rowsR s many))) := fun b => by
    rw [List.getElem?_append_left (by rw [List.length_set]; exact lk), List.getElem?_set_self lk]
  have main := lock_eval (ma := mVar 4) (m := mFor (mItK .dT (mVar 4)) (gtName 7) (m_kept_shares_b1 c_add c_prod)) (ev := [some (.str (Str.ofString (hiS high))), some (.int many), some (.int s), some (.int kept), some (.ref k), v5, v6, v7, v8, some (.ref st1.length), none]) (st := st1 ++ [Ob.dK false (encB eI ((s : Int) ^ many) [])]) (n := k) (ob' := Ob.dT true (encB eT ((s : Int) ^ many) (rowsR s many))) (ob3 := Ob.dT false (encB eT ((s : Int) ^ many) (rowsR s many))) (by simp; rfl) (by rw [List.getElem?_append_left lk]; exact q2) rfl
    (by rw [hs1]; simp only [e_For, e_ItK, e_Var]; simp [g1, items_dT r2]; exact hl) (g1 _) rfl
  rw [set_app (by rw [List.length_set]; exact lk), set_back q2] at main
  have e0 : encB eI ((s : Int) ^ many) [] = [] := rfl
  rw [e0] at main
  have hlen : st.length ≤ st1.length := by rw [← hst1]; simp
  have hml : (many : Int) ≤ ((lim : Nat) : Int) := by have : lim = 1000000 := rfl; omega
  have hml2 : many ≤ lim := by have : lim = 1000000 := rfl; omega
  have hm0 : (-1000000000 : Int) ≤ (many : Int) := by omega
  refine ⟨st1.length, [Ob.dT false [([], fr 1 1)]] ++ g ++ [Ob.dK false (encB eI ((s : Int) ^ many) (dKept high s many kept))], ?_, hlen, ?_⟩
  · have e9 : st ++ ([Ob.dT false [([], fr 1 1)]] ++ g ++ [Ob.dK false (encB eI ((s : Int) ^ many) (dKept high s many kept))]) = st1 ++ [Ob.dK false (encB eI ((s : Int) ^ many) (dKept high s many kept))] := by rw [← hst1]; simp
    rw [e9]
    have e10 : fr 1 1 = .tup [.int 1, .int 1] := by simp [fr]
    rw [e10] at q1
    simp [fnM, m_kept_shares, mDict1T, keysOf, intsOf, hm0, hml2, q1, main]
    rfl
  · have e9 : st ++ ([Ob.dT false [([], fr 1 1)]] ++ g ++ [Ob.dK false (encB eI ((s : Int) ^ many) (dKept high s many kept))]) = st1 ++ [Ob.dK false (encB eI ((s : Int) ^ many) (dKept high s many kept))] := by rw [← hst1]; simp
    rw [e9]; simp
end Ml

namespace Ml
open PySem L2
/-- a whole book: M ways in all, worths not beyond R -/
structure GB (b : List (Int × Int)) (M R : Int) : Prop where
  nd : (ks b).Nodup
  pos : ∀ z ∈ b, 0 < z.2
  tot : tot b = M
  rg : ∀ k ∈ ks b, -R ≤ k ∧ k ≤ R
theorem pos_addC {b : List (Int × Int)} {w c : Int} (h : ∀ z ∈ b, 0 < z.2) (hc : 0 < c) : ∀ z ∈ addC b w c, 0 < z.2 := by
  unfold addC
  split
  · intro z hz
    obtain ⟨y, hy, rfl⟩ := List.mem_map.mp hz
    have := h y hy
    split <;> simp <;> omega
  · intro z hz
    rcases List.mem_append.mp hz with hz | hz
    · exact h z hz
    · simp at hz; subst hz; exact hc
theorem pos_addAll : ∀ {cs b : List (Int × Int)}, (∀ z ∈ b, 0 < z.2) → (∀ z ∈ cs, 0 < z.2) → ∀ z ∈ addAll b cs, 0 < z.2
  | [], b, h, _ => by simpa [addAll] using h
  | y :: cs, b, h, hc => by
    have := pos_addAll (cs := cs) (b := addC b y.1 y.2) (pos_addC h (hc y List.mem_cons_self)) (fun z hz => hc z (List.mem_cons_of_mem _ hz))
    simpa [addAll] using this
/-- from what is added -/
theorem gb_all {cs : List (Int × Int)} {R : Int} (hc : ∀ z ∈ cs, 0 < z.2) (hr : ∀ k ∈ ks cs, -R ≤ k ∧ k ≤ R) : GB (addAll [] cs) (tot cs) R := by
  have n1 : NonNeg ([] : List (Int × Int)) := fun z hz => by cases hz
  have n2 : NonNeg cs := fun z hz => by have := hc z hz; omega
  obtain ⟨i1, i2, i3⟩ := addAll_inv (b := []) (cs := cs) (by simp [ks]) n1 n2
  refine ⟨i1, pos_addAll (fun z hz => by cases hz) hc, by rw [i3]; simp [Ml.tot], fun k hk => ?_⟩
  rcases (mem_addAll k cs []).mp hk with q | q
  · simp [ks] at q
  · exact hr k q
theorem good_nil {cs : List (Int × Int)} (hc : ∀ z ∈ cs, 0 < z.2) (hr : ∀ k ∈ ks cs, -RM ≤ k ∧ k ≤ RM) (ht : tot cs < 2 ^ 60) : GoodAdd [] cs :=
  ⟨by simp [ks], fun z hz => (by cases hz), fun z hz => (by have := hc z hz; omega), by simpa [Ml.tot] using ht, fun k hk => (by simp [ks] at hk), hr⟩
theorem tot_row2 (w : W2) (x : Int × Int) : ∀ B : List (Int × Int), tot (row2 w B x) = x.2 * tot B
  | [] => by simp [row2, Ml.tot]
  | y :: B => by
    have := tot_row2 w x B
    simp only [row2, Ml.tot, List.map_cons, List.sum_cons, Int.mul_add] at this ⊢
    rw [this]
theorem tot_flat (w : W2) (B : List (Int × Int)) : ∀ A : List (Int × Int), tot (A.flatMap (row2 w B)) = tot A * tot B
  | [] => by simp [Ml.tot]
  | x :: A => by
    have := tot_flat w B A
    rw [List.flatMap_cons, tot_app, this, tot_row2]
    simp only [Ml.tot, List.map_cons, List.sum_cons, Int.add_mul]
theorem of2_rg {w : W2} {a b RA RB : Int} (ha : -RA ≤ a ∧ a ≤ RA) (hb : -RB ≤ b ∧ b ≤ RB) (h1 : 1 ≤ RA + RB) : -(RA + RB) ≤ of2 w a b ∧ of2 w a b ≤ RA + RB := by
  cases w <;> simp only [of2] <;> (try split) <;> omega
theorem gb_two {w : W2} {A B : List (Int × Int)} {M N RA RB : Int} (hA : GB A M RA) (hB : GB B N RB) (h1 : 1 ≤ RA + RB) : GB (two w A B) (M * N) (RA + RB) ∧ (M * N < 2 ^ 60 → RA + RB ≤ RM → GoodAdd [] (A.flatMap (row2 w B))) := by
  have hc : ∀ z ∈ A.flatMap (row2 w B), 0 < z.2 := fun z hz => by
    obtain ⟨x, hx, hz⟩ := List.mem_flatMap.mp hz
    obtain ⟨y, hy, rfl⟩ := List.mem_map.mp hz
    exact Int.mul_pos (hA.pos x hx) (hB.pos y hy)
  have hr : ∀ k ∈ ks (A.flatMap (row2 w B)), -(RA + RB) ≤ k ∧ k ≤ RA + RB := fun k hk => by
    obtain ⟨z, hz, rfl⟩ := List.mem_map.mp hk
    obtain ⟨x, hx, hz⟩ := List.mem_flatMap.mp hz
    obtain ⟨y, hy, rfl⟩ := List.mem_map.mp hz
    exact of2_rg (hA.rg _ (List.mem_map_of_mem hx)) (hB.rg _ (List.mem_map_of_mem hy)) h1
  have ht : tot (A.flatMap (row2 w B)) = M * N := by rw [tot_flat, hA.tot, hB.tot]
  refine ⟨?_, fun h2 h3 => good_nil hc (fun k hk => by have := hr k hk; omega) (by rw [ht]; exact h2)⟩
  have := gb_all hc hr
  rw [ht] at this
  exact this
def timesB (n : Int) (A : List (Int × Int)) : List (Int × Int) := addAll [] (A.map fun z => (z.1 * n, z.2))
theorem gb_times {n : Int} {A : List (Int × Int)} {M R : Int} (hA : GB A M R) (h0 : 0 ≤ n) (h3 : n ≤ 3) (hR : 0 ≤ R) : GB (timesB n A) M (3 * R) ∧ (M < 2 ^ 60 → 3 * R ≤ RM → GoodAdd [] (A.map fun z => (z.1 * n, z.2))) := by
  have hc : ∀ z ∈ A.map (fun z => (z.1 * n, z.2)), 0 < z.2 := fun z hz => by
    obtain ⟨x, hx, rfl⟩ := List.mem_map.mp hz
    exact hA.pos x hx
  have hr : ∀ k ∈ ks (A.map fun z => (z.1 * n, z.2)), -(3 * R) ≤ k ∧ k ≤ 3 * R := fun k hk => by
    obtain ⟨z, hz, rfl⟩ := List.mem_map.mp hk
    obtain ⟨x, hx, rfl⟩ := List.mem_map.mp hz
    have := hA.rg _ (List.mem_map_of_mem (f := (·.1)) hx)
    have hn : n = 0 ∨ n = 1 ∨ n = 2 ∨ n = 3 := by omega
    rcases hn with rfl | rfl | rfl | rfl <;> simp only at * <;> omega
  have ht : tot (A.map fun z => (z.1 * n, z.2)) = M := by rw [← hA.tot]; simp [Ml.tot, List.map_map, Function.comp_def]
  refine ⟨?_, fun h2 h3 => good_nil hc (fun k hk => by have := hr k hk; omega) (by rw [ht]; exact h2)⟩
  have := gb_all hc hr
  rw [ht] at this
  exact this
def powB (D : List (Int × Int)) : Nat → List (Int × Int)
  | 0 => [(0, 1)]
  | m + 1 => two .plus (powB D m) D
theorem gb_pow {D : List (Int × Int)} {M R : Int} (hD : GB D M R) (h1 : 1 ≤ R) : ∀ m : Nat, GB (powB D m) (M ^ m) (R * m)
  | 0 => ⟨by simp [powB, ks], by simp [powB], by simp [powB, Ml.tot], by simp [powB, ks]⟩
  | m + 1 => by
    have h0 : 0 ≤ R * m := Int.mul_nonneg (by omega) (by omega)
    have := (gb_two (w := .plus) (gb_pow hD h1 m) hD (by omega)).1
    rw [Int.pow_succ]
    have e : R * ((m + 1 : Nat) : Int) = R * m + R := by rw [Int.natCast_add, Int.mul_add]; simp
    rw [e]
    exact this
end Ml

namespace Ml
open PySem L2
def okCs (cs : List (Int × Int)) (M R : Int) : Bool := cs.all (fun z => decide (0 < z.2)) && (cs.all (fun z => decide (-R ≤ z.1) && decide (z.1 ≤ R)) && decide (tot cs = M))
theorem okCs_gb {cs : List (Int × Int)} {M R : Int} (h : okCs cs M R = true) : GB (addAll [] cs) M R ∧ (M < 2 ^ 60 → R ≤ RM → GoodAdd [] cs) := by
  unfold okCs at h
  simp only [Bool.and_eq_true, List.all_eq_true, decide_eq_true_eq] at h
  obtain ⟨h1, h2, h3⟩ := h
  have hr : ∀ k ∈ ks cs, -R ≤ k ∧ k ≤ R := fun k hk => by
    obtain ⟨z, hz, rfl⟩ := List.mem_map.mp hk
    exact h2 z hz
  refine ⟨?_, fun a b => good_nil h1 (fun k hk => by have := hr k hk; omega) (by omega)⟩
  rw [← h3]
  exact gb_all h1 hr
theorem s_cases {s : Nat} (h2 : 2 ≤ s) (h6 : s ≤ 6) : s = 2 ∨ s = 3 ∨ s = 4 ∨ s = 5 ∨ s = 6 := by omega
theorem ok_dice {s : Nat} (h2 : 2 ≤ s) (h6 : s ≤ 6) : okCs ((rng1 s).flatMap fun f => [(f, 1)]) s 18 = true := by
  rcases s_cases h2 h6 with rfl | rfl | rfl | rfl | rfl <;> decide +kernel
theorem ok_count {s : Nat} {l : Int} (h2 : 2 ≤ s) (h6 : s ≤ 6) (hl : 2 ≤ l) (hl2 : l ≤ s) : okCs ((rng1 s).flatMap fun f => [((if l ≤ f then 1 else 0), 1)]) s 18 = true := by
  have hl' : l = 2 ∨ l = 3 ∨ l = 4 ∨ l = 5 ∨ l = 6 := by omega
  rcases hl' with rfl | rfl | rfl | rfl | rfl <;> rcases s_cases h2 h6 with rfl | rfl | rfl | rfl | rfl <;> decide +kernel
theorem ok_again {s : Nat} {l : Int} (h2 : 2 ≤ s) (h6 : s ≤ 6) (hl : 1 ≤ l) (hl2 : l ≤ s - 1) : okCs ((rng1 s).flatMap (rowA s l)) (s * s) 18 = true := by
  have hl' : l = 1 ∨ l = 2 ∨ l = 3 ∨ l = 4 ∨ l = 5 := by omega
  rcases hl' with rfl | rfl | rfl | rfl | rfl <;> rcases s_cases h2 h6 with rfl | rfl | rfl | rfl | rfl <;> first | decide +kernel | omega
theorem ok_burst {s l : Nat} (h2 : 2 ≤ s) (h6 : s ≤ 6) (hl : l ≤ 1) : okCs ((rng1 s).flatMap (rowB s l (dBurst s l))) ((s : Int) ^ (l + 1) * s) 18 = true := by
  have hl' : l = 0 ∨ l = 1 := by omega
  rcases hl' with rfl | rfl <;> rcases s_cases h2 h6 with rfl | rfl | rfl | rfl | rfl <;> decide +kernel
def okT (b cs : List (List Int × Int)) : Bool := decide (ks b).Nodup && (b.all (fun z => decide (0 ≤ z.2) && decide (sm' z.2) && decide (z.1.length ≤ 100)) && (cs.all (fun z => decide (0 ≤ z.2)) && (decide (tot cs < 2 ^ 60) && decide (b.length ≤ 100000) && decide (cs.length ≤ 100000))))
  where sm' (i : Int) : Bool := decide (i.natAbs < 2 ^ 60)
theorem ok_rows {s t : Nat} (h2 : 2 ≤ s) (h6 : s ≤ 6) (ht : t ≤ 3) : okT (rowsR s t) ((rowsR s t).flatMap (rowF s)) = true := by
  have ht' : t = 0 ∨ t = 1 ∨ t = 2 ∨ t = 3 := by omega
  rcases ht' with rfl | rfl | rfl | rfl <;> rcases s_cases h2 h6 with rfl | rfl | rfl | rfl | rfl <;> decide +kernel
theorem ok_kept {high : Bool} {s m l : Nat} (h2 : 2 ≤ s) (h6 : s ≤ 6) (hm : 1 ≤ m) (hm3 : m ≤ 3) (hl : 1 ≤ l) (hlm : l ≤ m) : okCs ((rowsR s m).map (keptC high m l)) ((s : Int) ^ m) 18 = true := by
  have hm' : m = 1 ∨ m = 2 ∨ m = 3 := by omega
  have hl' : l = 1 ∨ l = 2 ∨ l = 3 := by omega
  rcases hm' with rfl | rfl | rfl <;> rcases hl' with rfl | rfl | rfl <;> rcases s_cases h2 h6 with rfl | rfl | rfl | rfl | rfl <;> cases high <;> first | decide +kernel | omega
end Ml

namespace Ml
open PySem L2
theorem ipow_mono {x : Int} (hx : 1 ≤ x) {a b : Nat} (h : a ≤ b) : x ^ a ≤ x ^ b := by
  obtain ⟨k, rfl⟩ : ∃ k, b = a + k := ⟨b - a, by omega⟩
  rw [Int.pow_add]
  have p : 0 < x ^ a := Int.pow_pos (by omega)
  have q : 0 < x ^ k := Int.pow_pos (by omega)
  have := Int.mul_le_mul_of_nonneg_left (show (1 : Int) ≤ x ^ k by omega) (show 0 ≤ x ^ a by omega)
  omega
def bookC : Say → List (Int × Int)
  | .num n => [(n, 1)]
  | .die m s => powB (dDice s.toNat) m.toNat
  | .dl .high m s l => dKept true s.toNat m.toNat l.toNat
  | .dl .low m s l => dKept false s.toNat m.toNat l.toNat
  | .dl .again m s l => powB (dAgain s.toNat l) m.toNat
  | .dl .burst m s l => powB (dBurst s.toNat l.toNat) m.toNat
  | .dl .count m s l => powB (dCount s.toNat l) m.toNat
  | .two w a b => two w (bookC a) (bookC b)
  | .times n a => timesB n (bookC a)
def leafM : WL → Int → Int → Int
  | .again, s, _ => s * s
  | .burst, s, l => s ^ l.toNat * s
  | _, s, _ => s
def bookM : Say → Int
  | .num _ => 1
  | .die m s => s ^ m.toNat
  | .dl w m s l => leafM w s l ^ m.toNat
  | .two _ a b => bookM a * bookM b
  | .times _ a => bookM a
def bookR : Say → Int
  | .num _ => 9
  | .die _ _ => 54
  | .dl _ _ _ _ => 54
  | .two _ a b => bookR a + bookR b
  | .times _ a => 3 * bookR a
theorem bookR_pos : ∀ s, 9 ≤ bookR s
  | .num _ => by simp [bookR]
  | .die _ _ => by simp [bookR]
  | .dl _ _ _ _ => by simp [bookR]
  | .two _ a b => by have := bookR_pos a; have := bookR_pos b; simp only [bookR]; omega
  | .times _ a => by have := bookR_pos a; simp only [bookR]; omega
theorem bookR_le : ∀ s, bookR s ≤ 18 * 3 ^ dep s
  | .num _ => by simp [bookR, dep]
  | .die _ _ => by simp [bookR, dep]
  | .dl _ _ _ _ => by simp [bookR, dep]
  | .two _ a b => by
    have h1 := bookR_le a
    have h2 := bookR_le b
    have p1 : (3 : Int) ^ dep a ≤ 3 ^ max (dep a) (dep b) := ipow_mono (by decide) (Nat.le_max_left _ _)
    have p2 : (3 : Int) ^ dep b ≤ 3 ^ max (dep a) (dep b) := ipow_mono (by decide) (Nat.le_max_right _ _)
    have p0 : (0 : Int) < 3 ^ max (dep a) (dep b) := Int.pow_pos (by decide)
    simp only [bookR, dep, Int.pow_succ]
    omega
  | .times _ a => by
    have h1 := bookR_le a
    simp only [bookR, dep, Int.pow_succ]
    omega
theorem GB.wide {b : List (Int × Int)} {M R R' : Int} (h : GB b M R) (hr : R ≤ R') : GB b M R' := ⟨h.nd, h.pos, h.tot, fun k hk => by have := h.rg k hk; omega⟩
theorem gb_pow54 {D : List (Int × Int)} {M m : Int} (hD : GB D M 18) (h1 : 1 ≤ m) (h3 : m ≤ 3) : GB (powB D m.toNat) (M ^ m.toNat) 54 := by
  have := gb_pow hD (by decide) m.toNat
  exact this.wide (by omega)
theorem gb_book : ∀ s, Wf s → GB (bookC s) (bookM s) (bookR s)
  | .num n, h => ⟨by simp [bookC, ks], by simp [bookC], by simp [bookC, bookM, Ml.tot], by have := h.1; have := h.2; simp [bookC, ks, bookR]; omega⟩
  | .die m s, h => by
    obtain ⟨h1, h2, h3, h4⟩ := h
    obtain ⟨n, rfl⟩ : ∃ n : Nat, s = n := ⟨s.toNat, by omega⟩
    exact gb_pow54 (okCs_gb (ok_dice (by omega) (by omega))).1 h1 h2
  | .dl w m s l, h => by
    obtain ⟨h1, h2, h3, h4, h5⟩ := h
    obtain ⟨n, rfl⟩ : ∃ n : Nat, s = n := ⟨s.toNat, by omega⟩
    cases w with
    | again => exact gb_pow54 (okCs_gb (ok_again (by omega) (by omega) h5.1 h5.2)).1 h1 h2
    | count => exact gb_pow54 (okCs_gb (ok_count (by omega) (by omega) h5.1 h5.2)).1 h1 h2
    | burst =>
      obtain ⟨h6, h7⟩ := h5
      obtain ⟨l, rfl⟩ : ∃ k : Nat, l = (k + 1 : Nat) := ⟨l.toNat - 1, by omega⟩
      exact gb_pow54 (okCs_gb (ok_burst (l := l) (by omega) (by omega) (by omega))).1 h1 h2
    | high =>
      obtain ⟨h6, h7⟩ := h5
      obtain ⟨l, rfl⟩ : ∃ k : Nat, l = k := ⟨l.toNat, by omega⟩
      obtain ⟨m, rfl⟩ : ∃ k : Nat, m = k := ⟨m.toNat, by omega⟩
      exact (okCs_gb (ok_kept (high := true) (s := n) (m := m) (l := l) (by omega) (by omega) (by omega) (by omega) (by omega) (by omega))).1.wide (by simp [bookR])
    | low =>
      obtain ⟨h6, h7⟩ := h5
      obtain ⟨l, rfl⟩ : ∃ k : Nat, l = k := ⟨l.toNat, by omega⟩
      obtain ⟨m, rfl⟩ : ∃ k : Nat, m = k := ⟨m.toNat, by omega⟩
      exact (okCs_gb (ok_kept (high := false) (s := n) (m := m) (l := l) (by omega) (by omega) (by omega) (by omega) (by omega) (by omega))).1.wide (by simp [bookR])
  | .two w a b, h => by
    have := bookR_pos a
    have := bookR_pos b
    exact (gb_two (gb_book a h.1) (gb_book b h.2) (by omega)).1
  | .times n a, h => by
    have := bookR_pos a
    exact (gb_times (gb_book a h.2.2) h.1 h.2.1 (by omega)).1
theorem bookM_pos : ∀ s, Wf s → 0 < bookM s
  | .num _, _ => by simp [bookM]
  | .die m s, h => Int.pow_pos (by have := h.2.2.1; omega)
  | .dl w m s l, h => by
    have h3 := h.2.2.1
    refine Int.pow_pos ?_
    cases w <;> simp only [leafM]
    · omega
    · omega
    · exact Int.mul_pos (by omega) (by omega)
    · exact Int.mul_pos (Int.pow_pos (by omega)) (by omega)
    · omega
  | .two _ a b, h => Int.mul_pos (bookM_pos a h.1) (bookM_pos b h.2)
  | .times _ a, h => bookM_pos a h.2.2
theorem leafM_le {w : WL} {s l : Int} (h2 : 2 ≤ s) (h6 : s ≤ 6) (hb : w = .burst → 1 ≤ l ∧ l ≤ 2) : leafM w s l ≤ 216 := by
  have hs : s = 2 ∨ s = 3 ∨ s = 4 ∨ s = 5 ∨ s = 6 := by omega
  cases w with
  | burst =>
    have := hb rfl
    have hl : l = 1 ∨ l = 2 := by omega
    rcases hs with rfl | rfl | rfl | rfl | rfl <;> rcases hl with rfl | rfl <;> decide
  | _ => rcases hs with rfl | rfl | rfl | rfl | rfl <;> simp [leafM]
theorem pow_le216 {x m : Int} (h0 : 0 < x) (h : x ≤ 216) : x ^ m.toNat ≤ 216 ^ m.toNat := by
  generalize m.toNat = n
  induction n with
  | zero => simp
  | succ n ih =>
    rw [Int.pow_succ, Int.pow_succ]
    have p : 0 < x ^ n := Int.pow_pos h0
    have q : (0 : Int) < 216 ^ n := Int.pow_pos (by decide)
    exact Int.mul_le_mul ih h (by omega) (by omega)
theorem bookM_le : ∀ s, Wf s → bookM s ≤ 216 ^ (dice s).toNat
  | .num _, _ => by simp [bookM, dice]
  | .die m s, h => pow_le216 (by have := h.2.2.1; omega) (by have := h.2.2.2; omega)
  | .dl w m s l, h => by
    obtain ⟨h1, h2, h3, h4, h5⟩ := h
    have hp : 0 < leafM w s l := by
      cases w <;> simp only [leafM]
      · omega
      · omega
      · exact Int.mul_pos (by omega) (by omega)
      · exact Int.mul_pos (Int.pow_pos (by omega)) (by omega)
      · omega
    exact pow_le216 hp (leafM_le h3 h4 fun e => by subst e; exact h5)
  | .two _ a b, h => by
    have h1 := bookM_le a h.1
    have h2 := bookM_le b h.2
    have p1 := bookM_pos a h.1
    have p2 := bookM_pos b h.2
    have d1 := dice_pos a h.1
    have d2 := dice_pos b h.2
    simp only [bookM, dice]
    rw [show (dice a + dice b).toNat = (dice a).toNat + (dice b).toNat by omega, Int.pow_add]
    exact Int.mul_le_mul h1 h2 (by omega) (Int.le_of_lt (Int.pow_pos (by decide)))
  | .times _ a, h => bookM_le a h.2.2
theorem bookM_60 {s : Say} (h : Wf s) (hd : dice s ≤ 7) : bookM s < 2 ^ 60 := by
  have h1 := bookM_le s h
  have d1 := dice_pos s h
  have h2 : (216 : Int) ^ (dice s).toNat ≤ 216 ^ 7 := ipow_mono (by decide) (by omega)
  have h3 : (216 : Int) ^ 7 < 2 ^ 60 := by decide
  omega
end Ml

namespace Ml
open PySem L2
/-- put_together tells the book of two -/
def Puts (c_put : Fm) : Prop := ∀ (w : W2) (A B : List (Int × Int)) (M N RA RB : Int) (i j : Nat) (st : Sto), GB A M RA → GB B N RB → 0 < M → 0 < N → M * N < 2 ^ 60 → 1 ≤ RA → 1 ≤ RB → RA + RB ≤ RM → st[i]? = some (Ob.dK false (encB eI M A)) → st[j]? = some (Ob.dK false (encB eI N B)) → i ≠ j →
  c_put [.ref i, .ref j, .str (Str.ofString w.s)] st = .ok (.ref st.length) (st ++ [Ob.dK false (encB eI (M * N) (two w A B))])
variable {c_add c_book c_kept c_die c_put : Fm}
theorem pow_loop {D : List (Int × Int)} {M : Int} {i : Nat} {v0 v1 v5 v6 : Option Ml.D} (hD : GB D M 18) (hM : 0 < M) (hM2 : M ≤ 216) (hput : Puts c_put) : ∀ (ds : List Ml.D) (t k : Nat) (st : Sto) (v4 : Option Ml.D), t + ds.length ≤ 3 → st[i]? = some (Ob.dK false (encB eI M D)) → st[k]? = some (Ob.dK false (encB eI (M ^ t) (powB D t))) → k ≠ i →
    ∃ k' g v4', loop (gtName 4) (m_book_of_b2 c_add c_book c_kept c_die c_put) ds [v0, v1, some (.ref i), some (.ref k), v4, v5, v6] st = .ok (.nx, [v0, v1, some (.ref i), some (.ref k'), v4', v5, v6]) (st ++ g) ∧ (st ++ g)[k']? = some (Ob.dK false (encB eI (M ^ (t + ds.length)) (powB D (t + ds.length)))) ∧ (k ≤ k')
  | [], t, k, st, v4, _, hi, hk, hki => ⟨k, [], v4, by simp [loop], by simpa using hk, Nat.le_refl _⟩
  | d :: ds, t, k, st, v4, ht, hi, hk, hki => by
    have hg := gb_pow hD (by decide) t
    have li : i < st.length := (List.getElem?_eq_some_iff.mp hi).1
    have lk : k < st.length := (List.getElem?_eq_some_iff.mp hk).1
    simp only [List.length_cons] at ht
    have ht3 : t ≤ 2 := by omega
    have hp : M ^ t ≤ 216 ^ 2 := by
      have h1 : M ^ t ≤ 216 ^ t := by have := pow_le216 (m := (t : Int)) hM hM2; simpa using this
      have h2 : (216 : Int) ^ t ≤ 216 ^ 2 := ipow_mono (by decide) ht3
      omega
    have hp0 : 0 < M ^ t := Int.pow_pos hM
    have hlt : M ^ t * M < 2 ^ 60 := by
      have : M ^ t * M ≤ 216 ^ 2 * 216 := Int.mul_le_mul hp hM2 (by omega) (by decide)
      have : (216 : Int) ^ 2 * 216 < 2 ^ 60 := by decide
      omega
    have hgw := hg.wide (R' := 36 + 1) (by have : (18 : Int) * t ≤ 18 * 2 := Int.mul_le_mul_of_nonneg_left (by omega) (by decide); omega)
    have e := hput .plus (powB D t) D (M ^ t) M 37 18 k i st hgw hD hp0 hM hlt (by decide) (by decide) (by decide) hk hi hki
    obtain ⟨k', g, v4', q1, q2, q3⟩ := pow_loop hD hM hM2 hput ds (t + 1) st.length (st ++ [Ob.dK false (encB eI (M ^ t * M) (two .plus (powB D t) D))]) (some d) (by omega) (by rw [List.getElem?_append_left li]; exact hi)
      (by rw [List.getElem?_append_right (Nat.le_refl _), Nat.sub_self, Int.pow_succ]; rfl) (by omega)
    refine ⟨k', Ob.dK false (encB eI (M ^ t * M) (two .plus (powB D t) D)) :: g, v4', ?_, ?_, by omega⟩
    · have e3 : st ++ (Ob.dK false (encB eI (M ^ t * M) (two .plus (powB D t) D)) :: g) = st ++ [Ob.dK false (encB eI (M ^ t * M) (two .plus (powB D t) D))] ++ g := by simp
      rw [e3, loop]
      have e4 : m_book_of_b2 c_add c_book c_kept c_die c_put [v0, v1, some (.ref i), some (.ref k), some d, v5, v6] st = .ok (.nx, [v0, v1, some (.ref i), some (.ref st.length), some d, v5, v6]) (st ++ [Ob.dK false (encB eI (M ^ t * M) (two .plus (powB D t) D))]) := by
        simp only [W2.s] at e
        simp [m_book_of_b2, e]
      simp only [gtName, List.set_cons_succ, List.set_cons_zero, e4]
      exact q1
    · have e3 : st ++ (Ob.dK false (encB eI (M ^ t * M) (two .plus (powB D t) D)) :: g) = st ++ [Ob.dK false (encB eI (M ^ t * M) (two .plus (powB D t) D))] ++ g := by simp
      rw [e3, List.length_cons, show t + (ds.length + 1) = t + 1 + ds.length by omega]
      exact q2
theorem Tells.pow {D : List (Int × Int)} {M : Int} {word : Str} {s last : Int} {d0 : Ml.D} {st : Sto} {m : Nat} (hD : GB D M 18) (hM : 0 < M) (hM2 : M ≤ 216) (hput : Puts c_put) (hm : m ≤ 3) (ht : Tells c_die [.str word, .int s, .int last] st M D) :
    ∃ (i k : Nat) (g1 g2 : Sto) (v4 : Option Ml.D), c_die [.str word, .int s, .int last] st = .ok (.ref i) (st ++ g1) ∧ loop (gtName 4) (m_book_of_b2 c_add c_book c_kept c_die c_put) (rngD 0 m) [some d0, some (.str word), some (.ref i), some (.ref (st ++ g1).length), none, none, none] (st ++ g1 ++ [Ob.dK false [(Sum.inl 0, fr 1 1)]]) =
      .ok (.nx, [some d0, some (.str word), some (.ref i), some (.ref k), v4, none, none]) (st ++ g2) ∧ (st ++ g2)[k]? = some (Ob.dK false (encB eI (M ^ m) (powB D m))) ∧ st.length ≤ k := by
  obtain ⟨i, g, e, hi, hat⟩ := ht
  have li : i < (st ++ g).length := (List.getElem?_eq_some_iff.mp hat).1
  obtain ⟨k, g', v4, q1, q2, q3⟩ := pow_loop (c_add := c_add) (c_book := c_book) (c_kept := c_kept) (c_die := c_die) (v0 := some d0) (v1 := some (.str word)) (v5 := none) (v6 := none) (i := i) hD hM hM2 hput (rngD 0 m) 0 (st ++ g).length (st ++ g ++ [Ob.dK false [(Sum.inl 0, fr 1 1)]]) none (by simp [rngD]; omega)
    (by rw [List.getElem?_append_left li]; exact hat) (by rw [List.getElem?_append_right (Nat.le_refl _), Nat.sub_self, Int.pow_zero]; rfl) (by omega)
  refine ⟨i, k, g, g ++ [Ob.dK false [(Sum.inl 0, fr 1 1)]] ++ g', v4, e, ?_, ?_, by simp at q3; omega⟩
  · rw [q1]; simp
  · have hr : (rngD 0 m).length = m := by simp [rngD]
    rw [hr] at q2
    simpa using q2
end Ml

namespace Ml
open PySem L2
structure Dies (c_die : Fm) : Prop where
  dice : ∀ (n : Nat) (l : Int) st, 2 ≤ n → n ≤ 6 → Tells c_die [.str "dice", .int n, .int l] st n (dDice n)
  count : ∀ (n : Nat) (l : Int) st, 2 ≤ n → n ≤ 6 → 2 ≤ l → l ≤ n → Tells c_die [.str "count", .int n, .int l] st n (dCount n l)
  again : ∀ (n : Nat) (l : Int) st, 2 ≤ n → n ≤ 6 → 1 ≤ l → l ≤ n - 1 → Tells c_die [.str "again", .int n, .int l] st (n * n) (dAgain n l)
  burst : ∀ (n l : Nat) st, 2 ≤ n → n ≤ 6 → l ≤ 1 → Tells c_die [.str "burst", .int n, .int ((l : Int) + 1)] st ((n : Int) ^ (l + 1) * n) (dBurst n (l + 1))
def Keeps (c_kept : Fm) : Prop := ∀ (high : Bool) (m n l : Nat) st, 2 ≤ n → n ≤ 6 → 1 ≤ m → m ≤ 3 → 1 ≤ l → l ≤ m → Tells c_kept [.str (Str.ofString (hiS high)), .int m, .int n, .int l] st ((n : Int) ^ m) (dKept high n m l)
variable {c_add c_book c_kept c_die c_put : Fm}
theorem fr11 : fr 1 1 = .tup [.int 1, .int 1] := by simp [fr]
theorem dice_step {D : List (Int × Int)} {M s last : Int} {word : String} {st : Sto} {m : Nat} {more : List Ml.D} (hD : GB D M 18) (hM : 0 < M) (hM2 : M ≤ 216) (hput : Puts c_put) (hm : m ≤ 3) (ht : Tells c_die [.str (Str.ofString word), .int s, .int last] st M D)
    (hw : word = "dice" ∨ word = "again" ∨ word = "burst" ∨ word = "count") (hmore : (more = [] ∧ last = 0) ∨ more = [.int last]) :
    Tells (fnM 1 7 (m_book_of c_add c_book c_kept c_die c_put)) [.tup (.str (Str.ofString word) :: .int m :: .int s :: more)] st (M ^ m) (powB D m) := by
  obtain ⟨i, k, g1, g2, v4, e, hl, hat, hk⟩ := Tells.pow (c_add := c_add) (c_book := c_book) (c_kept := c_kept) (d0 := .tup (.str (Str.ofString word) :: .int m :: .int s :: more)) hD hM hM2 hput hm ht
  refine ⟨k, g2, ?_, hk, hat⟩
  have hml : m ≤ lim := by have : lim = 1000000 := rfl; omega
  have hm0 : (-1000000000 : Int) ≤ (m : Int) := by omega
  rw [fr11] at hl
  simp only [List.length_append] at hl
  rcases hmore with ⟨rfl, rfl⟩ | rfl
  · rcases hw with rfl | rfl | rfl | rfl <;> simp [fnM, m_book_of, d_DICE, e, mergeD, putD, hml, hm0, hl] <;> simp at hl <;> simp [hl]
  · rcases hw with rfl | rfl | rfl | rfl <;> simp [fnM, m_book_of, d_DICE, e, mergeD, putD, hml, hm0, hl] <;> simp at hl <;> simp [hl]
theorem book_step {s : Say} {st : Sto} (hw : Wf s) (hd : dice s ≤ 7) (hdp : dep s ≤ 6) (hput : Puts c_put) (hadd : ∀ M, 0 < M → M < 2 ^ 60 → AddsTo c_add M) (hdie : Dies c_die) (hkept : Keeps c_kept)
    (ih : ∀ a st, Wf a → dep a < dep s → dice a ≤ dice s → Tells c_book [enc a] st (bookM a) (bookC a)) : Tells (fnM 1 7 (m_book_of c_add c_book c_kept c_die c_put)) [enc s] st (bookM s) (bookC s) := by
  cases s with
  | num n =>
    refine ⟨st.length, [Ob.dK false (encB eI 1 [(n, 1)])], ?_, Nat.le_refl _, ?_⟩
    · have e : encB eI 1 [(n, 1)] = [(Sum.inl n, .tup [.int 1, .int 1])] := by simp [encB, fr11]
      rw [e]
      simp [fnM, m_book_of, mergeD, putD]
    · rw [List.getElem?_append_right (Nat.le_refl _), Nat.sub_self]; rfl
  | die m s =>
    obtain ⟨h1, h2, h3, h4⟩ := hw
    obtain ⟨n, rfl⟩ : ∃ n : Nat, s = n := ⟨s.toNat, by omega⟩
    obtain ⟨m, rfl⟩ : ∃ k : Nat, m = k := ⟨m.toNat, by omega⟩
    exact dice_step (okCs_gb (ok_dice (s := n) (by omega) (by omega))).1 (by omega) (by omega) hput (by omega) (hdie.dice n 0 st (by omega) (by omega)) (.inl rfl) (.inl ⟨rfl, rfl⟩)
  | dl w m s l =>
    obtain ⟨h1, h2, h3, h4, h5⟩ := hw
    obtain ⟨n, rfl⟩ : ∃ n : Nat, s = n := ⟨s.toNat, by omega⟩
    obtain ⟨m, rfl⟩ : ∃ k : Nat, m = k := ⟨m.toNat, by omega⟩
    cases w with
    | again => exact dice_step (okCs_gb (ok_again (s := n) (by omega) (by omega) h5.1 h5.2)).1 (Int.mul_pos (by omega) (by omega)) (leafM_le (w := .again) (l := l) (by omega) (by omega) (fun e => by cases e)) hput (by omega) (hdie.again n l st (by omega) (by omega) h5.1 h5.2) (.inr (.inl rfl)) (.inr rfl)
    | count => exact dice_step (okCs_gb (ok_count (s := n) (by omega) (by omega) h5.1 h5.2)).1 (show (0 : Int) < n by omega) (show (n : Int) ≤ 216 by omega) hput (by omega) (hdie.count n l st (by omega) (by omega) h5.1 h5.2) (.inr (.inr (.inr rfl))) (.inr rfl)
    | burst =>
      obtain ⟨h6, h7⟩ := h5
      obtain ⟨l, rfl⟩ : ∃ k : Nat, l = (k : Int) + 1 := ⟨l.toNat - 1, by omega⟩
      have hlM := leafM_le (w := .burst) (s := n) (l := (l : Int) + 1) (by omega) (by omega) (fun _ => ⟨h6, h7⟩)
      have e : (((l : Int) + 1)).toNat = l + 1 := by omega
      simp only [leafM, e] at hlM
      have := dice_step (c_add := c_add) (c_book := c_book) (c_kept := c_kept) (m := m) (okCs_gb (ok_burst (s := n) (l := l) (by omega) (by omega) (by omega))).1 (Int.mul_pos (Int.pow_pos (by omega)) (by omega)) hlM hput (by omega) (hdie.burst n l st (by omega) (by omega) (by omega)) (.inr (.inr (.inl rfl))) (.inr rfl)
      simp only [bookM, bookC, leafM, e, Int.toNat_natCast]
      exact this
    | high =>
      obtain ⟨h6, h7⟩ := h5
      obtain ⟨l, rfl⟩ : ∃ k : Nat, l = k := ⟨l.toNat, by omega⟩
      obtain ⟨i, g, e, hi, hat⟩ := hkept true m n l st (by omega) (by omega) (by omega) (by omega) (by omega) (by omega)
      refine ⟨i, g, ?_, hi, hat⟩
      simp only [hiS, if_true] at e
      simp [fnM, m_book_of, enc, WL.s, e]
    | low =>
      obtain ⟨h6, h7⟩ := h5
      obtain ⟨l, rfl⟩ : ∃ k : Nat, l = k := ⟨l.toNat, by omega⟩
      obtain ⟨i, g, e, hi, hat⟩ := hkept false m n l st (by omega) (by omega) (by omega) (by omega) (by omega) (by omega)
      refine ⟨i, g, ?_, hi, hat⟩
      simp only [hiS, if_neg Bool.false_ne_true] at e
      simp [fnM, m_book_of, enc, WL.s, e]
  | two w a b =>
    have da := dice_pos a hw.1
    have db := dice_pos b hw.2
    simp only [dice] at hd
    have hdd : dep (.two w a b) = max (dep a) (dep b) + 1 := rfl
    obtain ⟨i, g, e1, hi, hat⟩ := ih a st hw.1 (by omega) (by simp only [dice]; omega)
    obtain ⟨j, g', e2, hj, hat'⟩ := ih b (st ++ g) hw.2 (by omega) (by simp only [dice]; omega)
    have li : i < (st ++ g).length := (List.getElem?_eq_some_iff.mp hat).1
    have hM : bookM a * bookM b < 2 ^ 60 := bookM_60 (s := .two w a b) hw (by simpa only [dice] using hd)
    have r1 := bookR_le (.two w a b)
    have r2 : (3 : Int) ^ dep (.two w a b) ≤ 3 ^ 6 := ipow_mono (by decide) hdp
    have r3 := bookR_pos a
    have r4 := bookR_pos b
    have hR : bookR a + bookR b ≤ RM := by
      have : (18 : Int) * 3 ^ 6 ≤ RM := by decide
      simp only [bookR] at r1
      omega
    have e3 := hput w (bookC a) (bookC b) (bookM a) (bookM b) (bookR a) (bookR b) i j (st ++ g ++ g') (gb_book a hw.1) (gb_book b hw.2) (bookM_pos a hw.1) (bookM_pos b hw.2) hM (by omega) (by omega) hR (by rw [List.getElem?_append_left li]; exact hat) hat' (by omega)
    refine ⟨(st ++ g ++ g').length, g ++ g' ++ [Ob.dK false (encB eI (bookM a * bookM b) (two w (bookC a) (bookC b)))], ?_, by simp, ?_⟩
    · have e9 : st ++ (g ++ g' ++ [Ob.dK false (encB eI (bookM a * bookM b) (two w (bookC a) (bookC b)))]) = st ++ g ++ g' ++ [Ob.dK false (encB eI (bookM a * bookM b) (two w (bookC a) (bookC b)))] := by simp
      rw [e9]
      generalize st ++ g ++ g' = st2 at *
      generalize st ++ g = st1 at *
      cases w <;> simp only [W2.s] at e3 <;> simp [fnM, m_book_of, enc, W2.s, d_DICE, e1, e2, e3]
    · have e9 : st ++ (g ++ g' ++ [Ob.dK false (encB eI (bookM a * bookM b) (two w (bookC a) (bookC b)))]) = st ++ g ++ g' ++ [Ob.dK false (encB eI (bookM a * bookM b) (two w (bookC a) (bookC b)))] := by simp
      rw [e9, List.getElem?_append_right (Nat.le_refl _), Nat.sub_self]; rfl
  | times n a =>
    obtain ⟨h0, h3, hwa⟩ := hw
    simp only [dice] at hd
    have hdd : dep (.times n a) = dep a + 1 := rfl
    obtain ⟨i, g, e1, hi, hat⟩ := ih a (st ++ [Ob.dK false []]) hwa (by omega) (by simp [dice])
    have hG := gb_book a hwa
    have r3 := bookR_pos a
    have r1 := bookR_le (.times n a)
    have r2 : (3 : Int) ^ dep (.times n a) ≤ 3 ^ 6 := ipow_mono (by decide) hdp
    have hR : 3 * bookR a ≤ RM := by
      have : (18 : Int) * 3 ^ 6 ≤ RM := by decide
      simp only [bookR] at r1
      omega
    have hM := bookM_60 hwa hd
    have hM0 := bookM_pos a hwa
    have hg := (gb_times hG h0 h3 (by omega)).2 hM hR
    have hlA : (bookC a).length ≤ lim := by
      have := len_range 200001 (-RM) (ks (bookC a)) hG.nd fun k hk => by have := hG.rg k hk; unfold RM at *; omega
      simp only [ks, List.length_map] at this
      have e : lim = 1000000 := rfl
      omega
    have hn : (st ++ [Ob.dK false []] ++ g)[st.length]? = some (Ob.dK false (encB eI (bookM a) [])) := by
      rw [List.append_assoc, List.getElem?_append_right (Nat.le_refl _), Nat.sub_self]; rfl
    have s64 : small64 n = true := small_of (by omega) (by omega)
    obtain ⟨ev', hw', v6', rfl⟩ := walk_add (gt := gtName 6) (body := m_book_of_b1 c_add c_book c_kept c_die c_put) (ma := mVar 5) (one := fun z => (z.1 * n, z.2)) (n := st.length) (k := i)
      (I := fun ev => ∃ v6, ev = [some (.tup [.str "times", .int n, enc a]), some (.str "times"), none, some (.ref st.length), none, some (.ref i), v6]) hat hn (by simp at hi; omega) hlA
      (by
        rintro z hz b' cs ev s' ⟨v6, rfl⟩ hg' g1 g2
        refine ⟨_, [some (.tup [.str "times", .int n, enc a]), some (.str "times"), none, some (.ref st.length), none, some (.ref i), some (.int z.1)], rfl, ?_, ⟨_, rfl⟩⟩
        have e1 := get_dK g2 hG.nd hz
        have e2 := hadd (bookM a) hM0 hM st.length b' cs (z.1 * n, z.2) s' g1 hg'
        simp only at e2
        simp [gtName, m_book_of_b1, e1, e2, s64])
      hg (ev := [some (.tup [.str "times", .int n, enc a]), some (.str "times"), none, some (.ref st.length), none, some (.ref i), none]) (fun s => by simp) ⟨_, rfl⟩
    refine ⟨st.length, Ob.dK false (encB eI (bookM a) (timesB n (bookC a))) :: g, ?_, Nat.le_refl _, ?_⟩
    · have e9 : (st ++ [Ob.dK false []] ++ g).set st.length (Ob.dK false (encB eI (bookM a) (addAll [] ((bookC a).map fun z => (z.1 * n, z.2))))) = st ++ (Ob.dK false (encB eI (bookM a) (timesB n (bookC a))) :: g) := by
        rw [List.append_assoc, List.set_append_right _ _ (Nat.le_refl _), Nat.sub_self]; rfl
      rw [e9] at hw'
      simp only [List.append_assoc, List.singleton_append] at hw' e1
      simp [fnM, m_book_of, enc, d_DICE, e1, hw']
    · rw [List.getElem?_append_right (Nat.le_refl _), Nat.sub_self]; rfl
end Ml

namespace Ml
open PySem L2
theorem lc_map {α : Type} {g : Gt} {m : Mo D} {ev : Ev} {st : Sto} (en : α → D) (f : α → D) : ∀ (xs : List α), (∀ x ∈ xs, ∃ ev1, g (en x) ev = some ev1 ∧ m ev1 st = .ok (f x) st) → lcLoop g mYes m (xs.map en) ev st = .ok (xs.map f) st
  | [], _ => rfl
  | x :: xs, h => by
    obtain ⟨ev1, h1, h2⟩ := h x List.mem_cons_self
    have ih := lc_map en f xs fun y hy => h y (List.mem_cons_of_mem _ hy)
    rw [List.map_cons, e_lcC, h1]
    simp only [e_Yes, h2, ih, List.map_cons]
/-- what shares tells -/
def shsL (b : List (Int × Int)) (M : Int) : List D := (sortI (ks b)).map fun w => .tup [.int w, fr (cnt b w) M]
theorem keyInts_map : ∀ ns : List Int, keyInts (ns.map Sum.inl) = some ns
  | [] => rfl
  | n :: ns => by simp [keyInts, keyInts_map ns]
theorem keys_encB (M : Int) (b : List (Int × Int)) : (encB eI M b).map (·.1) = (ks b).map Sum.inl := by simp [encB, ks, List.map_map, Function.comp_def]
theorem shares_ok {c_book : Fm} {args : List D} {d0 : D} {M R : Int} {b : List (Int × Int)} {st : Sto} (hG : GB b M R) (hR : R ≤ RM) (ht : Tells c_book [d0] st M b) : ∃ g, fnM 1 3 (m_shares c_book) [d0] st = .ok (.tup (shsL b M)) (st ++ g) := by
  obtain ⟨i, g, e, hi, hat⟩ := ht
  refine ⟨g, ?_⟩
  have hlen : b.length ≤ lim := by
    have := len_range 200001 (-RM) (ks b) hG.nd fun k hk => by have := hG.rg k hk; unfold RM at *; omega
    simp only [ks, List.length_map] at this
    have e : lim = 1000000 := rfl
    omega
  have hsl : (sortI (ks b)).length = b.length := by rw [(sortI_perm (ks b)).length_eq]; simp [ks]
  have hsort : mSortedD (mVar 1) [some d0, some (.ref i), none] (st ++ g) = .ok ((sortI (ks b)).map D.int) (st ++ g) := by
    simp only [mSortedD, e_Var]
    simp [hat, keys_encB, keyInts_map]
  have hlc : lcLoop (gtName 2) mYes (mTup (mCons (mVar 2) (mCons (mDAt (mVar 1) (mVar 2)) mNil))) ((sortI (ks b)).map D.int) [some d0, some (.ref i), none] (st ++ g) = .ok (shsL b M) (st ++ g) := by
    refine lc_map D.int _ _ fun w hw => ⟨_, rfl, ?_⟩
    have hm : w ∈ ks b := (sortI_perm (ks b)).mem_iff.mp hw
    have hv := val_encB eI_inj M w b
    rw [if_pos hm] at hv
    have hgd : getD1 (st ++ g) (.ref i) (.int w) = some (some (fr (cnt b w) M)) := by simp only [getD1, hat, keyOf, Option.map_some, hv]
    simp [hgd]
  have hll : ((sortI (ks b)).map D.int).length ≤ lim := by rw [List.length_map, hsl]; exact hlen
  have hsl' : (sortI (ks b)).length ≤ lim := by rw [hsl]; exact hlen
  simp [fnM, m_shares, e, hsort, hsl', hlc]
end Ml

namespace Ml
open PySem L2
/-! ### sums over a book -/
def E (b : List (Int × Int)) (f : Int → Int) : Int := (b.map fun z => f z.1 * z.2).sum
@[simp] theorem E_nil (f : Int → Int) : E [] f = 0 := rfl
theorem E_cons (z : Int × Int) (b : List (Int × Int)) (f : Int → Int) : E (z :: b) f = f z.1 * z.2 + E b f := by simp [E]
theorem E_app (a b : List (Int × Int)) (f : Int → Int) : E (a ++ b) f = E a f + E b f := by simp [E, List.sum_append]
theorem E_perm {a b : List (Int × Int)} (h : a.Perm b) (f : Int → Int) : E a f = E b f := by
  induction h with
  | nil => rfl
  | cons z _ ih => rw [E_cons, E_cons, ih]
  | swap x y l => simp only [E_cons]; omega
  | trans _ _ i1 i2 => rw [i1, i2]
theorem E_congr {b : List (Int × Int)} {f g : Int → Int} (h : ∀ k ∈ ks b, f k = g k) : E b f = E b g := by
  induction b with
  | nil => rfl
  | cons z b ih =>
    simp only [ks, List.map_cons, List.mem_cons] at h
    rw [E_cons, E_cons, h z.1 (.inl rfl), ih fun k hk => h k (.inr hk)]
theorem E_add (b : List (Int × Int)) (f g : Int → Int) : E b (fun x => f x + g x) = E b f + E b g := by
  induction b with
  | nil => rfl
  | cons z b ih => simp only [E_cons, ih, Int.add_mul]; omega
theorem E_mulr (b : List (Int × Int)) (f : Int → Int) (c : Int) : E b (fun x => f x * c) = E b f * c := by
  induction b with
  | nil => simp
  | cons z b ih => simp only [E_cons, ih, Int.add_mul]; congr 1; ac_rfl
theorem E_mull (b : List (Int × Int)) (f : Int → Int) (c : Int) : E b (fun x => c * f x) = c * E b f := by
  rw [Int.mul_comm, ← E_mulr]; congr 1; funext x; exact Int.mul_comm _ _
theorem E_neg (b : List (Int × Int)) (f : Int → Int) : E b (fun x => -f x) = -E b f := by
  have := E_mull b f (-1)
  simpa using this
theorem E_sub (b : List (Int × Int)) (f g : Int → Int) : E b (fun x => f x - g x) = E b f - E b g := by
  have h1 := E_add b f (fun x => -g x)
  rw [E_neg] at h1
  simp only [Int.sub_eq_add_neg]
  exact h1
theorem E_const (b : List (Int × Int)) (c : Int) : E b (fun _ => c) = c * tot b := by
  induction b with
  | nil => simp [tot]
  | cons z b ih => simp only [E_cons, ih, tot, List.map_cons, List.sum_cons, Int.mul_add]
theorem E_one (b : List (Int × Int)) : E b (fun _ => 1) = tot b := by rw [E_const]; omega
theorem E_zero (b : List (Int × Int)) : E b (fun _ => 0) = 0 := by rw [E_const]; omega
theorem E_swap (A B : List (Int × Int)) (f : Int → Int → Int) : E A (fun x => E B (f x)) = E B (fun y => E A fun x => f x y) := by
  induction A with
  | nil => simp [E_zero]
  | cons z A ih => simp only [E_cons, E_add, ih, E_mulr]
theorem E_addC {b : List (Int × Int)} {w c : Int} (hn : (ks b).Nodup) (f : Int → Int) : E (addC b w c) f = E b f + f w * c := by
  unfold addC
  by_cases h : w ∈ ks b
  · rw [if_pos ((any_iff b w).mpr h)]
    induction b with
    | nil => simp [ks] at h
    | cons z b ih =>
      simp only [ks, List.map_cons, List.nodup_cons, List.mem_cons] at hn h
      rw [List.map_cons, E_cons, E_cons]
      by_cases e : z.1 = w
      · have : (b.map fun z => if z.1 = w then (z.1, z.2 + c) else z) = b := by
          conv => rhs; rw [← List.map_id b]
          refine List.map_congr_left fun y hy => ?_
          rw [if_neg (fun q => hn.1 (by rw [e, ← q]; exact List.mem_map_of_mem hy))]; rfl
        rw [if_pos e, this]
        dsimp only
        rw [Int.mul_add, e]; omega
      · rw [if_neg e]
        have hb : w ∈ ks b := by
          rcases h with h | h
          · exact absurd h.symm e
          · exact h
        rw [ih hn.2 hb]; omega
  · rw [if_neg (fun z => h ((any_iff b w).mp z)), E_app, E_cons]; simp
theorem E_addAll (f : Int → Int) : ∀ (cs b : List (Int × Int)), (ks b).Nodup → E (addAll b cs) f = E b f + E cs f
  | [], b, _ => by simp [addAll]
  | z :: cs, b, h => by
    have := E_addAll f cs (addC b z.1 z.2) (nodup_addC h)
    rw [E_addC h] at this
    rw [E_cons]
    simp only [addAll, List.foldl_cons] at this ⊢
    rw [this]; omega
theorem E_row2 (w : W2) (x : Int × Int) (f : Int → Int) : ∀ B : List (Int × Int), E (row2 w B x) f = E B (fun y => f (of2 w x.1 y)) * x.2
  | [] => by simp [row2]
  | y :: B => by
    have := E_row2 w x f B
    simp only [row2, List.map_cons, E_cons, Int.add_mul] at this ⊢
    rw [this]; congr 1; ac_rfl
theorem E_flat (w : W2) (B : List (Int × Int)) (f : Int → Int) : ∀ A : List (Int × Int), E (A.flatMap (row2 w B)) f = E A (fun x => E B (fun y => f (of2 w x y)))
  | [] => rfl
  | x :: A => by rw [List.flatMap_cons, E_app, E_cons, E_row2, E_flat w B f A]
theorem E_two (w : W2) (A B : List (Int × Int)) (f : Int → Int) : E (two w A B) f = E A (fun x => E B (fun y => f (of2 w x y))) := by
  unfold two
  rw [E_addAll f _ [] (by simp [ks]), E_flat]; simp
theorem E_times (n : Int) (A : List (Int × Int)) (f : Int → Int) : E (timesB n A) f = E A (fun x => f (x * n)) := by
  unfold timesB
  rw [E_addAll f _ [] (by simp [ks])]
  simp [E, List.map_map, Function.comp_def]
theorem E_cnt {b : List (Int × Int)} (hn : (ks b).Nodup) (w : Int) : cnt b w = E b (fun x => if x = w then 1 else 0) := by
  induction b with
  | nil => rfl
  | cons z b ih =>
    simp only [ks, List.map_cons, List.nodup_cons] at hn
    rw [cnt_cons, E_cons]
    by_cases e : z.1 = w
    · rw [if_pos e, if_pos e]
      have : E b (fun x => if x = w then 1 else 0) = E b (fun _ => 0) := E_congr fun k hk => by
        rw [if_neg]; intro q; subst q; exact hn.1 (by rw [e]; exact hk)
      rw [this, E_zero]; omega
    · rw [if_neg e, if_neg e, ih hn.2]; omega
theorem E_tot (b : List (Int × Int)) : tot b = E b (fun _ => 1) := (E_one b).symm
theorem E_le {b : List (Int × Int)} {f g : Int → Int} (hp : NonNeg b) (h : ∀ k ∈ ks b, f k ≤ g k) : E b f ≤ E b g := by
  induction b with
  | nil => simp
  | cons z b ih =>
    simp only [ks, List.map_cons, List.mem_cons] at h
    have h1 := h z.1 (.inl rfl)
    have h2 := hp z List.mem_cons_self
    have h3 := ih (fun y hy => hp y (List.mem_cons_of_mem _ hy)) fun k hk => h k (.inr hk)
    have := Int.mul_le_mul_of_nonneg_right h1 h2
    rw [E_cons, E_cons]; omega
theorem GB.nn {b : List (Int × Int)} {M R : Int} (h : GB b M R) : NonNeg b := fun z hz => by have := h.pos z hz; omega
theorem E_abs {b : List (Int × Int)} {M R : Int} (h : GB b M R) : -(R * M) ≤ E b (fun x => x) ∧ E b (fun x => x) ≤ R * M := by
  have h1 := E_le (f := fun x => x) (g := fun _ => R) h.nn fun k hk => (h.rg k hk).2
  have h2 := E_le (f := fun _ => -R) (g := fun x => x) h.nn fun k hk => (h.rg k hk).1
  rw [E_const, h.tot] at h1 h2
  rw [Int.neg_mul] at h2
  exact ⟨h2, h1⟩
/-! sorted books -/
def srt (b : List (Int × Int)) : List (Int × Int) := (sortI (ks b)).map fun w => (w, cnt b w)
theorem srt_perm {b : List (Int × Int)} (hn : (ks b).Nodup) : (srt b).Perm b := by
  have h : ((ks b).map fun w => (w, cnt b w)) = b := by
    unfold ks
    rw [List.map_map]
    conv => rhs; rw [← List.map_id b]
    refine List.map_congr_left fun z hz => ?_
    simp only [Function.comp_apply, cnt_mem hn hz]; rfl
  have := (sortI_perm (ks b)).map (fun w => (w, cnt b w))
  rw [h] at this
  exact this
theorem ks_srt (b : List (Int × Int)) : ks (srt b) = sortI (ks b) := by simp [ks, srt, List.map_map, Function.comp_def]
theorem E_srt {b : List (Int × Int)} (hn : (ks b).Nodup) (f : Int → Int) : E (srt b) f = E b f := E_perm (srt_perm hn) f
theorem gb_srt {b : List (Int × Int)} {M R : Int} (h : GB b M R) : GB (srt b) M R := by
  have p := srt_perm h.nd
  have q : (ks (srt b)).Perm (ks b) := p.map _
  refine ⟨?_, fun z hz => h.pos z (p.mem_iff.mp hz), ?_, fun k hk => ?_⟩
  · exact q.nodup_iff.mpr h.nd
  · rw [E_tot, E_srt h.nd, ← E_tot, h.tot]
  · exact h.rg k (q.mem_iff.mp hk)
end Ml

namespace Ml
open PySem L2
def rowD (M : Int) (z : Int × Int) : D := .tup [.int z.1, fr z.2 M]
theorem shs_srt (b : List (Int × Int)) (M : Int) : shsL b M = (srt b).map (rowD M) := by simp [shsL, srt, rowD, List.map_map, Function.comp_def]
theorem tg2 (x y : D) (i j : Nat) (ev : Ev) : gtTup 2 (gtsCons (gtName i) (gtsCons (gtName j) gtsNil)) (.tup [x, y]) ev = some ((ev.set i (some x)).set j (some y)) := by
  simp [gtTup, gtsCons, gtsNil, gtName]
theorem gb_len' {b : List (Int × Int)} {M R : Int} (h : GB b M R) (hR : R ≤ RM) : b.length ≤ lim := by
  have := len_range 200001 (-RM) (ks b) h.nd fun k hk => by have := h.rg k hk; unfold RM at *; omega
  simp only [ks, List.length_map] at this
  have e : lim = 1000000 := rfl
  omega
theorem gb_le' {b : List (Int × Int)} {M R : Int} (h : GB b M R) {z : Int × Int} (hz : z ∈ b) : 0 < z.2 ∧ z.2 ≤ M := by
  have h1 := cnt_le_tot (b := b) h.nn z.1
  rw [cnt_mem h.nd hz, h.tot] at h1
  exact ⟨h.pos z hz, h1.2⟩
structure Sz (b : List (Int × Int)) (M R : Int) : Prop where
  g : GB b M R
  m0 : 0 < M
  r0 : 1 ≤ R
  rm : R ≤ RM
  s : R * M < 2 ^ 60
theorem Sz.m60 {b : List (Int × Int)} {M R : Int} (h : Sz b M R) : M < 2 ^ 60 := by
  have := Int.mul_le_mul_of_nonneg_right h.r0 (show 0 ≤ M by have := h.m0; omega)
  have := h.s
  omega
theorem Sz.sM {b : List (Int × Int)} {M R : Int} (h : Sz b M R) : sm M := by have := h.m0; have := h.m60; unfold sm; omega
theorem Sz.row {b : List (Int × Int)} {M R : Int} (h : Sz b M R) : ∀ z ∈ srt b, sm z.1 ∧ sm z.2 := fun z hz => by
  have k1 := gb_le' (gb_srt h.g) hz
  have k2 := (gb_srt h.g).rg z.1 (List.mem_map_of_mem hz)
  have := h.rm
  have := h.m60
  unfold RM at *
  unfold sm
  exact ⟨by omega, by omega⟩
theorem Sz.len {b : List (Int × Int)} {M R : Int} (h : Sz b M R) : (srt b).length ≤ lim := gb_len' (gb_srt h.g) h.rm
theorem e_any (ns : List Bool) : gAny (ns.map D.bl) = some (.bl (ns.any id)) := by simp [gAny, blsOf_map]
theorem e_anyM {α : Type} (p : α → Bool) (xs : List α) : gAny (xs.map fun x => D.bl (p x)) = some (.bl (xs.any p)) := by
  have := e_any (xs.map p)
  rw [List.map_map] at this
  rw [show (fun x => D.bl (p x)) = D.bl ∘ p from rfl, this]
  simp
theorem lc_filt {α : Type} {g : Gt} {t : Mo Bool} {m : Mo D} {ev : Ev} {st : Sto} (en : α → D) (p : α → Bool) (f : α → D) : ∀ (xs : List α), (∀ x ∈ xs, ∃ ev1, g (en x) ev = some ev1 ∧ t ev1 st = .ok (p x) st ∧ (p x = true → m ev1 st = .ok (f x) st)) → lcLoop g t m (xs.map en) ev st = .ok ((xs.filter p).map f) st
  | [], _ => rfl
  | x :: xs, h => by
    obtain ⟨ev1, h1, h2, h3⟩ := h x List.mem_cons_self
    have ih := lc_filt en p f xs fun y hy => h y (List.mem_cons_of_mem _ hy)
    rw [List.map_cons, e_lcC, h1]
    cases hp : p x
    · simp only [h2, hp, ih, List.filter_cons, Bool.false_eq_true, if_false]
    · simp only [h2, hp, h3 hp, ih, List.filter_cons, if_true, List.map_cons]
end Ml

namespace Ml
open PySem L2
/-! data compared -/
mutual
theorem deq_self : ∀ d : D, deq d d = true
  | .non => by simp [deq, D.pd, PyData.eqv]
  | .bl b => by simp [deq, D.pd, PyData.eqv]
  | .int i => by simp [deq, D.pd, PyData.eqv]
  | .str x => by simp [deq, D.pd, PyData.eqv]
  | .tup ds => by
    have := deqs_self ds
    simpa [deq, D.pd, PyData.eqv] using this
  | .ref i => by simp [deq, D.pd, PyData.eqv]
  | .ro ds => by simp [deq, D.pd, PyData.eqv]
theorem deqs_self : ∀ ds : List D, PyData.eqvAll (pds ds) (pds ds) = true
  | [] => by simp [pds, PyData.eqvAll]
  | d :: ds => by
    have h1 := deq_self d
    have h2 := deqs_self ds
    simp only [deq] at h1
    simp [pds, PyData.eqvAll, h1, h2]
end
theorem ne_self {d : D} {st : Sto} (h : d.dok 60 = true) : gNe d d st = some (.bl false, st) := by
  unfold gNe
  rw [h, deq_self]
  split <;> rfl
theorem eq_self {d : D} {st : Sto} (h : d.dok 60 = true) : gEq d d st = some (.bl true, st) := by
  unfold gEq
  rw [h, deq_self]
  split <;> rfl
end Ml

namespace Ml
open PySem L2
@[simp] theorem dok_fr (a M : Int) (n : Nat) : (fr a M).dok (n + 1) = true := by simp [fr, dok_tup, doks_cons]
theorem fr_eq {a b M : Int} (hM : 0 < M) : deq (fr a M) (fr b M) = decide (a = b) := by
  by_cases h : a = b
  · subst h; simp [deq_self]
  · obtain ⟨g, x, m, hg, hm, ea, eM, ef, lx, lm⟩ := fr_parts a M hM
    obtain ⟨g', y, n, hg', hn, eb, eN, ef', ly, ln⟩ := fr_parts b M hM
    rw [ef, ef']
    have e : ¬ (x = y ∧ m = n) := by
      rintro ⟨rfl, rfl⟩
      have : g = g' := by
        have h1 : g * m = g' * m := by omega
        exact Int.eq_of_mul_eq_mul_right (by omega) h1
      subst this; omega
    simp only [deq, D.pd, pds, PyData.eqv, PyData.eqvAll]
    simp only [h, decide_false]
    by_cases hx : x = y
    · have hmn : m ≠ n := fun q => e ⟨hx, q⟩
      simp [hmn]
    · simp [hx]
theorem fr_zero' {M : Int} (h : 0 < M) : fr 0 M = .tup [.int 0, .int 1] := by
  unfold fr
  rw [Int.gcd_zero_left, show ((M.natAbs : Nat) : Int) = M by omega, Int.ediv_self (by omega)]
  simp
theorem eq_zero {a M : Int} {st : Sto} (hM : 0 < M) : gEq (fr a M) (.tup [.int 0, .int 1]) st = some (.bl (decide (a = 0)), st) := by
  rw [← fr_zero' hM]
  unfold gEq
  rw [fr_eq hM]
  simp only [dok_fr]
  split <;> rfl
theorem ne_zero {a M : Int} {st : Sto} (hM : 0 < M) : gNe (fr a M) (.tup [.int 0, .int 1]) st = some (.bl (!decide (a = 0)), st) := by
  rw [← fr_zero' hM]
  unfold gNe
  rw [fr_eq hM]
  simp only [dok_fr]
  split <;> rfl
@[simp] theorem ne_fr (a M : Int) {st : Sto} : gNe (fr a M) (fr a M) st = some (.bl false, st) := ne_self (by simp)
@[simp] theorem eq_fr (a M : Int) {st : Sto} : gEq (fr a M) (fr a M) st = some (.bl true, st) := eq_self (by simp)
/-! the law's own fractions -/
theorem whl_gcd' {t : Mo Bool} {B : Ms} {st : Sto} (ht : ∀ (x y : Int), t [some (.int x), some (.int y)] st = .ok (!(y == 0)) st) (hB : ∀ x y : Int, 0 < y → B [some (.int x), some (.int y)] st = .ok (.nx, [some (.int y), some (.int (x % y))]) st) : ∀ (n a b f : Nat), b ≤ a → a * b < 2 ^ n → n + 1 ≤ f →
    whl t B f [some (.int a), some (.int b)] st = .ok (.nx, [some (.int (Nat.gcd a b)), some (.int 0)]) st
  | n, a, b, 0, _, _, h => absurd h (by omega)
  | n, a, b, f + 1, hab, hlt, hf => by
    by_cases hb : b = 0
    · subst hb
      rw [whl_no (st1 := st) (by rw [ht]; rfl)]
      simp
    · have hb1 : 0 < b := by omega
      have hn : 1 ≤ n := by
        rcases n with _ | n
        · have : 1 ≤ a * b := Nat.mul_pos (by omega) (by omega)
          simp at hlt
          omega
        · omega
      obtain ⟨m, rfl⟩ : ∃ m, n = m + 1 := ⟨n - 1, by omega⟩
      have hm : a % b < b := Nat.mod_lt _ (by omega)
      have h2 : 2 * (a % b) ≤ a := by
        have e := Nat.div_add_mod a b
        have hq : 1 ≤ a / b := (Nat.one_le_div_iff (by omega)).mpr hab
        have : b * 1 ≤ b * (a / b) := Nat.mul_le_mul_left _ hq
        omega
      have hp : b * (a % b) < 2 ^ m := by
        have h3 : b * (2 * (a % b)) ≤ b * a := Nat.mul_le_mul_left _ h2
        have h4 : b * (2 * (a % b)) = 2 * (b * (a % b)) := by ac_rfl
        have h5 : b * a = a * b := Nat.mul_comm _ _
        rw [Nat.pow_succ] at hlt
        omega
      have ih := whl_gcd' ht hB m b (a % b) f (by omega) hp (by omega)
      have e1 : Nat.gcd a b = Nat.gcd b (a % b) := by rw [Nat.gcd_comm a, Nat.gcd_rec, Nat.gcd_comm]
      have ht' : (!(((b : Nat) : Int) == 0)) = true := by simp; omega
      rw [e1, ← ih, whl_yes (st1 := st) (by rw [ht, ht']) (hB _ _ (by omega)), Int.natCast_emod]
theorem gcd_while {t : Mo Bool} {B : Ms} {st : Sto} (ht : ∀ (x y : Int), t [some (.int x), some (.int y)] st = .ok (!(y == 0)) st) (hB : ∀ x y : Int, 0 < y → B [some (.int x), some (.int y)] st = .ok (.nx, [some (.int y), some (.int (x % y))]) st) {a b : Nat} (h : a * b < 2 ^ 900) :
    mWhile 1000 t B [some (.int a), some (.int b)] st = .ok (.nx, [some (.int (Nat.gcd a b)), some (.int 0)]) st := by
  by_cases hab : b ≤ a
  · exact whl_gcd' ht hB 900 a b 1000 hab h (by decide)
  · have e2 : (a : Int) % (b : Int) = (a : Int) := Int.emod_eq_of_lt (by omega) (by omega)
    have ih := whl_gcd' ht hB 900 b a 999 (by omega) (by rw [Nat.mul_comm]; exact h) (by decide)
    have ht' : (!(((b : Nat) : Int) == 0)) = true := by simp; omega
    show whl _ _ (999 + 1) _ _ = _
    rw [whl_yes (st1 := st) (by rw [ht, ht']) (hB _ _ (by omega)), e2, ih, Nat.gcd_comm]
end Ml

namespace Ml
open PySem L2
theorem szb {s : Say} (hw : Wf s) (hd : dice s ≤ 6) (hp : dep s ≤ 5) : Sz (bookC s) (bookM s) (bookR s) := by
  have h1 := bookM_le s hw
  have d1 := dice_pos s hw
  have h2 : (216 : Int) ^ (dice s).toNat ≤ 216 ^ 6 := ipow_mono (by decide) (by omega)
  have m0 := bookM_pos s hw
  have r0 := bookR_pos s
  have r1 := bookR_le s
  have r2 : (3 : Int) ^ dep s ≤ 3 ^ 5 := ipow_mono (by decide) hp
  have e3 : (3 : Int) ^ 5 = 243 := by decide
  refine ⟨gb_book s hw, m0, by omega, by unfold RM; omega, ?_⟩
  have h3 : bookR s * bookM s ≤ (18 * 243) * 216 ^ 6 := Int.mul_le_mul (by omega) (by omega) (by omega) (by decide)
  have h4 : ((18 : Int) * 243) * 216 ^ 6 < 2 ^ 60 := by decide
  omega
/-- a call that tells d -/
def Gives (c : Fm) (args : List D) (d : D) : Prop := ∀ st : Sto, ∃ g : Sto, c args st = .ok d (st ++ g)
theorem Gives.fn {c : Fm} {args : List D} {d : D} (h : Gives c args d) : ∃ F : Sto → Sto, ∀ st, c args st = .ok d (F st) := by
  obtain ⟨F, hF⟩ := Classical.axiomOfChoice h
  exact ⟨fun st => st ++ F st, hF⟩
theorem Gives.fn' {c : Fm} {args : List D} {d : D} (h : Gives c args d) : ∃ F : Sto → Sto, ∀ st, c args st = .ok d (st ++ F st) := Classical.axiomOfChoice h
end Ml

namespace L17
open PySem L2 Ml
theorem l_mix (n : Nat) : ∀ c p m st, 0 < p → p < 10000 → 0 < m → callN (n + 1) .f_law_mix [.int c, .int p, .int m] st = .ok (.int (mixv c p m)) st := fun c p m st h1 h2 h3 => mix_ok h1 h2 h3
theorem l_many : ∀ (n : Nat) (s : Say) (st : Sto), dep s ≤ n → callN n .f_law_many [enc s] st = .ok (.int (dice s)) st
  | 0, s, _, h => absurd (Nat.le_trans (dep_pos s) h) (by decide)
  | n + 1, s, st, h => many_step fun a ha => l_many n a st (by omega)
theorem l_say : ∀ (deep n : Nat) (cell most : Int) (st : Sto), 1 ≤ deep → deep ≤ 3 → deep + 3 ≤ n → 0 ≤ most → ∃ s, Wf s ∧ dep s ≤ deep ∧ dice s ≤ most ∧ callN n .f_law_saying [.int cell, .int deep, .int most] st = .ok (enc s) st
  | 0, _, _, _, _, h, _, _, _ => absurd h (by decide)
  | deep + 1, n, cell, most, st, _, h3, hn, hm => by
    obtain ⟨k, rfl⟩ : ∃ k, n = k + 1 + 1 + 1 := ⟨n - 3, by omega⟩
    refine say_step (c_dice := callN (k + 1 + 1) .f_law_dice) (c_many := callN (k + 1 + 1) .f_law_many) (c_mix := callN (k + 1 + 1) .f_law_mix) (c_say := callN (k + 1 + 1) .f_law_saying) (by omega) h3 hm (l_mix _) (fun cell st h => dice_ok (l_mix k) h) (fun s st _ hd => l_many _ s st (by omega)) (fun cell most st h2 h0 => ?_)
    obtain ⟨s, k1, k2, k3, k4⟩ := l_say deep (k + 1 + 1) cell most st (by omega) (by omega) (by omega) h0
    refine ⟨s, k1, by omega, k3, ?_⟩
    have e : ((deep + 1 : Nat) : Int) - 1 = (deep : Int) := by omega
    rw [e]; exact k4
end L17

namespace L17
open PySem L2 Ml
theorem l_div (n : Nat) : ∀ (a b : Nat) st, a * b < 2 ^ 250 → callN (n + 1) .divisor [.int a, .int b] st = .ok (.int (Nat.gcd a b)) st := fun a b st h => div_ok h
theorem l_frac (n : Nat) : ∀ (u l : Int) st, 0 < l → l < 2 ^ 125 → u.natAbs < 2 ^ 125 → callN (n + 2) .fraction [.int u, .int l] st = .ok (fr u l) st := fun u l st h1 h2 h3 => frac_ok (l_div n) h1 h2 h3
theorem l_sum (n : Nat) {M : Int} (hM : 0 < M) (sM : sm M) : ∀ (a b : Int) st, sm a → sm b → callN (n + 3) .sum_of [fr a M, fr b M] st = .ok (fr (a + b) M) st := fun a b st h1 h2 => sum_ok (l_frac n) hM sM h1 h2
theorem l_prod (n : Nat) {a b M N : Int} {st : Sto} (hM : 0 < M) (hN : 0 < N) (sM : sm M) (sN : sm N) (sa : sm a) (sb : sm b) : callN (n + 3) .product [fr a M, fr b N] st = .ok (fr (a * b) (M * N)) st := prod_ok (l_frac n) hM hN sM sN sa sb
theorem sm_of {M : Int} (h0 : 0 ≤ M) (h : M < 2 ^ 60) : sm M := by unfold sm; omega
theorem l_added (n : Nat) (M : Int) (hM : 0 < M) (h60 : M < 2 ^ 60) : AddsTo (callN (n + 4) .added) M := fun i b cs z st h hg =>
  added_ok (l_sum n hM (sm_of (by omega) h60)) hM h hg.nd hg.len hg.head.1 hg.head.2
theorem l_addedT (n : Nat) (M : Int) (hM : 0 < M) (h60 : M < 2 ^ 60) : AddsToT (callN (n + 4) .added) M := fun i b cs z st h hg =>
  addedT_ok (l_sum n hM (sm_of (by omega) h60)) hM h hg.nd (by have := hg.len; have e : lim = 1000000 := rfl; omega) hg.head.1 hg.head.2
theorem gb_len {b : List (Int × Int)} {M R : Int} (h : GB b M R) (hR : R ≤ RM) : b.length ≤ lim := by
  have := len_range 200001 (-RM) (ks b) h.nd fun k hk => by have := h.rg k hk; unfold RM at *; omega
  simp only [ks, List.length_map] at this
  have e : lim = 1000000 := rfl
  omega
theorem gb_le {b : List (Int × Int)} {M R : Int} (h : GB b M R) {z : Int × Int} (hz : z ∈ b) : 0 < z.2 ∧ z.2 ≤ M := by
  have h1 := cnt_le_tot (b := b) (fun y hy => by have := h.pos y hy; omega) z.1
  rw [cnt_mem h.nd hz, h.tot] at h1
  exact ⟨h.pos z hz, h1.2⟩
theorem l_put (n : Nat) : Puts (callN (n + 5) .put_together) := fun w A B M N RA RB i j st hA hB hM hN hMN h1 h2 hR hi hj hij => by
  have hM1 : M < 2 ^ 60 := by
    have : M * 1 ≤ M * N := Int.mul_le_mul_of_nonneg_left (by omega) (by omega)
    omega
  have hN1 : N < 2 ^ 60 := by
    have : 1 * N ≤ M * N := Int.mul_le_mul_of_nonneg_right (by omega) (by omega)
    omega
  exact put_ok (l_added n (M * N) (Int.mul_pos hM hN) hMN) (fun a b st => of2_ok) (fun x hx y hy st => by
      have k1 := gb_le hA hx
      have k2 := gb_le hB hy
      exact l_prod (n + 1) hM hN (sm_of (by omega) hM1) (sm_of (by omega) hN1) (sm_of (by omega) (by omega)) (sm_of (by omega) (by omega))) hi hj hij hA.nd hB.nd (gb_len hA (by omega)) (gb_len hB (by omega)) ((gb_two hA hB (by omega)).2 hMN hR)
theorem unit_fr {s : Nat} (hs : 0 < s) : (.tup [.int 1, .int s] : D) = fr 1 s := by
  have := fr_unit (c := 1) (s := s) (by decide) hs
  rw [Int.one_mul] at this
  exact this.symm
theorem l_prod1 (n : Nat) {c M : Int} {s : Nat} {st : Sto} (hM : 0 < M) (hM2 : M < 2 ^ 50) (hs : 0 < s) (hs2 : s ≤ 6) (h0 : 0 ≤ c) (hc : c ≤ M) : callN (n + 3) .product [fr c M, .tup [.int 1, .int s]] st = .ok (fr c (M * s)) st := by
  rw [unit_fr hs]
  have := l_prod n (a := c) (b := 1) (M := M) (N := s) (st := st) hM (by omega) (sm_of (by omega) (by omega)) (sm_of (by omega) (by omega)) (sm_of h0 (by omega)) (by unfold sm; decide)
  rw [Int.mul_one] at this
  exact this
theorem ss_le {s : Nat} (h6 : s ≤ 6) (h2 : 2 ≤ s) : (s : Int) * s ≤ 36 ∧ 0 < (s : Int) * s := by
  rcases s_cases h2 h6 with rfl | rfl | rfl | rfl | rfl <;> decide
theorem l_dice (n : Nat) : ∀ (k : Nat) (l : Int) st, 2 ≤ k → k ≤ 6 → Tells (callN (n + 5) .one_die) [.str "dice", .int k, .int l] st k (dDice k) := fun k l st h2 h6 =>
  dice_book (l_added n k (by omega) (by omega)) (by omega) (by omega) (.inl rfl) ((okCs_gb (ok_dice h2 h6)).2 (by omega) (by decide))
theorem l_burst0 (n : Nat) : ∀ (k : Nat) st, 2 ≤ k → k ≤ 6 → Tells (callN (n + 5) .one_die) [.str "burst", .int k, .int 0] st k (dDice k) := fun k st h2 h6 =>
  dice_book (l_added n k (by omega) (by omega)) (by omega) (by omega) (.inr ⟨rfl, rfl⟩) ((okCs_gb (ok_dice h2 h6)).2 (by omega) (by decide))
theorem pb {k l : Nat} (h2 : 2 ≤ k) (h6 : k ≤ 6) (hl : l ≤ 1) : 0 < (k : Int) ^ (l + 1) * k ∧ (k : Int) ^ (l + 1) * k ≤ 216 ∧ 0 < (k : Int) ^ (l + 1) ∧ (k : Int) ^ (l + 1) ≤ 36 := by
  have hl' : l = 0 ∨ l = 1 := by omega
  rcases hl' with rfl | rfl <;> rcases s_cases h2 h6 with rfl | rfl | rfl | rfl | rfl <;> decide
theorem l_burstS (n l : Nat) (hl : l ≤ 1) (k : Nat) (h2 : 2 ≤ k) (h6 : k ≤ 6) (ih : ∀ st, Tells (callN (n + 5) .one_die) [.str "burst", .int k, .int l] st ((k : Int) ^ (l + 1)) (dBurst k l)) (hd : GB (dBurst k l) ((k : Int) ^ (l + 1)) 18) (st : Sto) :
    Tells (callN (n + 6) .one_die) [.str "burst", .int k, .int ((l : Int) + 1)] st ((k : Int) ^ (l + 1) * k) (dBurst k (l + 1)) := by
  have hp := pb h2 h6 hl
  refine burst_book (l := l) (B := dBurst k l) (l_added (n + 1) _ hp.1 (by omega)) (by omega) (by omega) (fun z hz st => ?_) hd.nd (gb_len hd (by decide)) ih ((okCs_gb (ok_burst (l := l) h2 h6 hl)).2 (by omega) (by decide))
  have := gb_le hd hz
  exact l_prod1 (n + 2) hp.2.2.1 (by omega) (by omega) h6 (by omega) this.2
theorem l_burst1 (n k : Nat) (h2 : 2 ≤ k) (h6 : k ≤ 6) (st : Sto) : Tells (callN (n + 6) .one_die) [.str "burst", .int k, .int (((0 : Nat) : Int) + 1)] st ((k : Int) ^ (0 + 1) * k) (dBurst k (0 + 1)) := by
  have e : (k : Int) ^ (0 + 1) = k := by rw [Nat.zero_add, Int.pow_succ, Int.pow_zero, Int.one_mul]
  refine l_burstS n 0 (by decide) k h2 h6 (fun st => ?_) ?_ st
  · rw [e]; exact l_burst0 n k st h2 h6
  · rw [e]; exact (okCs_gb (ok_dice h2 h6)).1
theorem l_burst2 (n k : Nat) (h2 : 2 ≤ k) (h6 : k ≤ 6) (st : Sto) : Tells (callN (n + 7) .one_die) [.str "burst", .int k, .int (((1 : Nat) : Int) + 1)] st ((k : Int) ^ (1 + 1) * k) (dBurst k (1 + 1)) := by
  have e : (k : Int) ^ (1 + 1) = (k : Int) ^ (0 + 1) * k := Int.pow_succ ..
  refine l_burstS (n + 1) 1 (by decide) k h2 h6 (fun st => ?_) ?_ st
  · rw [e]; exact l_burst1 n k h2 h6 st
  · rw [e]; exact (okCs_gb (ok_burst (l := 0) h2 h6 (by decide))).1
theorem l_die (n : Nat) : Dies (callN (n + 7) .one_die) where
  dice := fun k l st h2 h6 => l_dice (n + 2) k l st h2 h6
  count := fun k l st h2 h6 h3 h4 => count_book (l_added (n + 2) k (by omega) (by omega)) (by omega) (by omega) ((okCs_gb (ok_count h2 h6 h3 h4)).2 (by omega) (by decide))
  again := fun k l st h2 h6 h3 h4 => by
    have hs := ss_le h6 h2
    have hd := (okCs_gb (ok_dice h2 h6)).1
    refine again_book (l_added (n + 2) _ hs.2 (by omega)) (by omega) (by omega) (fun z hz st => ?_) hd.nd (gb_len hd (by decide)) (fun l st => l_dice (n + 1) k l st h2 h6) ((okCs_gb (ok_again h2 h6 h3 h4)).2 (by omega) (by decide))
    have := gb_le hd hz
    exact l_prod1 (n + 3) (by omega) (by omega) (by omega) h6 (by omega) this.2
  burst := fun k l st h2 h6 hl => by
    have hl' : l = 0 ∨ l = 1 := by omega
    rcases hl' with rfl | rfl
    · exact l_burst1 (n + 1) k h2 h6 st
    · exact l_burst2 n k h2 h6 st
theorem okT_of {b cs : List (List Int × Int)} (h : okT b cs = true) : (ks b).Nodup ∧ b.length ≤ lim ∧ (∀ z ∈ b, z.1.length ≤ 100) ∧ GoodAddT [] cs ∧ ∀ z ∈ b, 0 ≤ z.2 ∧ sm z.2 := by
  unfold okT at h
  simp only [Bool.and_eq_true, List.all_eq_true, decide_eq_true_eq] at h
  obtain ⟨h1, h2, h3, ⟨h4, h5⟩, h6⟩ := h
  have e : lim = 1000000 := rfl
  refine ⟨h1, by omega, fun z hz => (h2 z hz).2, ⟨by simp [ks], fun z hz => (by cases hz), h3, by simpa [tot] using h4, by simpa using h6⟩, fun z hz => ⟨(h2 z hz).1.1, ?_⟩⟩
  have := (h2 z hz).1.2
  simpa [okT.sm', sm] using this
theorem l_prod2 (n : Nat) {c M : Int} {s : Nat} {st : Sto} (hM : 0 < M) (hM2 : M < 2 ^ 60) (hs : 0 < s) (hs2 : s ≤ 6) (hc : sm c) : callN (n + 3) .product [fr c M, .tup [.int 1, .int s]] st = .ok (fr c (M * s)) st := by
  rw [unit_fr hs]
  have := l_prod n (a := c) (b := 1) (M := M) (N := s) (st := st) hM (by omega) (sm_of (by omega) (by omega)) (sm_of (by omega) (by omega)) hc (by unfold sm; decide)
  rw [Int.mul_one] at this
  exact this
theorem spow {k t : Nat} (h2 : 2 ≤ k) (h6 : k ≤ 6) (ht : t ≤ 3) : 0 < (k : Int) ^ t ∧ (k : Int) ^ t ≤ 216 ∧ 0 < (k : Int) ^ t * k ∧ (k : Int) ^ t * k ≤ 1296 := by
  have ht' : t = 0 ∨ t = 1 ∨ t = 2 ∨ t = 3 := by omega
  rcases ht' with rfl | rfl | rfl | rfl <;> rcases s_cases h2 h6 with rfl | rfl | rfl | rfl | rfl <;> decide
theorem l_kept (n : Nat) : Keeps (callN (n + 5) .kept_shares) := fun high m k l st h2 h6 hm hm3 hl hlm => by
  refine kept_ok (by omega) (by omega) hlm (fun t ht => ?_) ?_ (fun t ht z hz st => ?_) (fun t ht => ?_) ?_
  · have := spow h2 h6 (t := t) (by omega)
    exact l_addedT n _ this.2.2.1 (by omega)
  · have := spow h2 h6 (t := m) hm3
    exact l_added n _ this.1 (by omega)
  · have := spow h2 h6 (t := t) (by omega)
    have q := (okT_of (ok_rows (s := k) (t := t) h2 h6 (by omega))).2.2.2.2 z hz
    exact l_prod2 (n + 1) this.1 (by omega) (by omega) h6 q.2
  · have q := okT_of (ok_rows (s := k) (t := t) h2 h6 (by omega))
    exact ⟨q.1, q.2.1, q.2.2.1, fun _ => q.2.2.2.1⟩
  · have := spow h2 h6 (t := m) hm3
    exact (okCs_gb (ok_kept h2 h6 hm hm3 hl hlm)).2 (by omega) (by decide)
theorem l_book : ∀ (k n : Nat) (s : Say) (st : Sto), dep s ≤ k → k ≤ 6 → k + 8 ≤ n → Wf s → dice s ≤ 7 → Tells (callN n .book_of) [enc s] st (bookM s) (bookC s)
  | 0, _, s, _, h, _, _, _, _ => absurd (Nat.le_trans (dep_pos s) h) (by decide)
  | k + 1, n, s, st, h, h6, hn, hw, hd => by
    obtain ⟨m, rfl⟩ : ∃ m, n = m + 8 := ⟨n - 8, by omega⟩
    exact book_step (c_add := callN (m + 7) .added) (c_book := callN (m + 7) .book_of) (c_kept := callN (m + 7) .kept_shares) (c_die := callN (m + 7) .one_die) (c_put := callN (m + 7) .put_together) hw hd (by omega) (l_put (m + 2)) (fun M h1 h2 => l_added (m + 3) M h1 h2) (l_die m) (l_kept (m + 2))
      fun a st ha hda hdi => l_book k (m + 7) a st (by omega) (by omega) (by omega) ha (by omega)
end L17

namespace Ml
open PySem L2
theorem share_of_ok {c_book : Fm} {d0 : D} {w M : Int} {b : List (Int × Int)} {st : Sto} (hM : 0 < M) (ht : ∀ st, Tells c_book [d0] st M b) : ∃ g, fnM 2 2 (m_share_of c_book) [d0, .int w] st = .ok (fr (cnt b w) M) (st ++ g) := by
  obtain ⟨i, g, e, hi, hat⟩ := ht st
  refine ⟨g, ?_⟩
  have hv := val_encB eI_inj M w b
  have hgd : getD1 (st ++ g) (.ref i) (.int w) = some (if w ∈ ks b then some (fr (cnt b w) M) else none) := by simp only [getD1, hat, keyOf, Option.map_some, hv]
  have hd : isDct (st ++ g) (.ref i) = true := by simp only [isDct, hat]
  by_cases h : w ∈ ks b
  · rw [if_pos h] at hgd
    simp [fnM, m_share_of, e, hd, hgd]
  · rw [if_neg h] at hgd
    rw [cnt_out h, fr_zero hM]
    simp [fnM, m_share_of, e, hd, hgd]
end Ml

namespace L17
open PySem L2 Ml
theorem l_bookN {n : Nat} {s : Say} (hn : 14 ≤ n) (hw : Wf s) (hd : dice s ≤ 6) (hp : dep s ≤ 5) (st : Sto) : Tells (callN n .book_of) [enc s] st (bookM s) (bookC s) := l_book 6 n s st (by omega) (by decide) (by omega) hw (by omega)
theorem l_sumN {n : Nat} (hn : 14 ≤ n) {M : Int} (hM : 0 < M) (sM : sm M) : ∀ (a b : Int) st, sm a → sm b → callN n .sum_of [fr a M, fr b M] st = .ok (fr (a + b) M) st := by
  obtain ⟨m, rfl⟩ : ∃ m, n = m + 3 := ⟨n - 3, by omega⟩
  exact l_sum m hM sM
theorem l_shares {n : Nat} {s : Say} (hn : 15 ≤ n) (hw : Wf s) (hd : dice s ≤ 6) (hp : dep s ≤ 5) : Gives (callN n .shares) [enc s] (.tup (shsL (bookC s) (bookM s))) := fun st => by
  obtain ⟨m, rfl⟩ : ∃ m, n = m + 1 := ⟨n - 1, by omega⟩
  have hz := szb hw hd hp
  exact shares_ok (args := []) hz.g hz.rm (l_bookN (by omega) hw hd hp st)
theorem l_share_of {n : Nat} {s : Say} {w : Int} (hn : 15 ≤ n) (hw : Wf s) (hd : dice s ≤ 6) (hp : dep s ≤ 5) : Gives (callN n .share_of) [enc s, .int w] (fr (cnt (bookC s) w) (bookM s)) := fun st => by
  obtain ⟨m, rfl⟩ : ∃ m, n = m + 1 := ⟨n - 1, by omega⟩
  exact share_of_ok (bookM_pos s hw) (fun st => l_bookN (by omega) hw hd hp st)
end L17

/-! a dict of counts (as in LBook), keys of two books (as in LShr2); never joined with those -/
namespace Ml
open PySem L2
def encI (b : List (Int × Int)) : List (Key × D) := b.map fun z => (Sum.inl z.1, .int z.2)
theorem val_encI (w : Int) : ∀ b : List (Int × Int), valD (encI b) (Sum.inl w) = if w ∈ ks b then some (.int (cnt b w)) else none
  | [] => rfl
  | z :: b => by
    have ih := val_encI w b
    unfold valD encI at ih ⊢
    rw [List.map_cons, List.find?_cons]
    by_cases h : z.1 = w
    · have h1 : w ∈ ks (z :: b) := by simp [ks, h]
      rw [if_pos h1, cnt_cons, if_pos h]
      simp [h]
    · have h2 : ¬ (Sum.inl z.1 : Key) = Sum.inl w := fun q => h (by cases q; rfl)
      have h3 : (w ∈ ks (z :: b)) ↔ w ∈ ks b := by
        simp only [ks, List.map_cons, List.mem_cons]
        exact ⟨fun q => q.resolve_left fun r => h r.symm, .inr⟩
      rw [cnt_cons, if_neg h]
      simp only [h2, decide_false]
      rw [ih]
      by_cases h4 : w ∈ ks b
      · rw [if_pos h4, if_pos (h3.mpr h4)]
      · rw [if_neg h4, if_neg (fun q => h4 (h3.mp q))]
theorem any_encI (w : Int) (b : List (Int × Int)) : ((encI b).any fun kv => decide (kv.1 = Sum.inl w)) = b.any fun z => decide (z.1 = w) := by
  unfold encI
  rw [List.any_map]
  congr 1
  funext z
  simp only [Function.comp_apply]
  by_cases h : z.1 = w
  · simp [h]
  · simp only [h, decide_false, decide_eq_false_iff_not]; exact fun q => h (by cases q; rfl)
theorem put_encI (w c : Int) (b : List (Int × Int)) (hn : (ks b).Nodup) : putD (encI b) (Sum.inl w) (.int (cnt b w + c)) = encI (addC b w c) := by
  unfold putD addC
  rw [any_encI]
  by_cases h : w ∈ ks b
  · rw [if_pos ((any_iff b w).mpr h), if_pos ((any_iff b w).mpr h)]
    unfold encI
    rw [List.map_map, List.map_map]
    refine List.map_congr_left fun z hz => ?_
    simp only [Function.comp_apply]
    by_cases q : z.1 = w
    · have hc : cnt b w = z.2 := by rw [← q]; exact cnt_mem hn hz
      rw [if_pos (by rw [q]), if_pos q, hc]
    · rw [if_neg (fun r => q (by cases r; rfl)), if_neg q]
  · rw [if_neg (fun z => h ((any_iff b w).mp z)), if_neg (fun z => h ((any_iff b w).mp z)), cnt_out h]
    simp [encI]
theorem len_encI (b : List (Int × Int)) : (encI b).length = b.length := by simp [encI]
theorem get_encI {b : List (Int × Int)} {st : Sto} {i : Nat} {lk : Bool} (w : Int) (h : st[i]? = some (.dK lk (encI b))) : getD1 st (.ref i) (.int w) = some (if w ∈ ks b then some (.int (cnt b w)) else none) := by
  simp only [getD1, h, keyOf, Option.map_some, val_encI]
theorem at_encI {b : List (Int × Int)} {st : Sto} {i : Nat} {lk : Bool} {z : Int × Int} (h : st[i]? = some (.dK lk (encI b))) (hn : (ks b).Nodup) (hz : z ∈ b) : getD1 st (.ref i) (.int z.1) = some (some (.int z.2)) := by
  have hm : z.1 ∈ ks b := List.mem_map_of_mem hz
  rw [get_encI z.1 h, if_pos hm, cnt_mem hn hz]
theorem dput_int {ma mk mv : Mo D} {ev : Ev} {st : Sto} {n : Nat} {b : List (Int × Int)} {w c : Int} (h1 : ma ev st = .ok (.ref n) st) (h2 : mk ev st = .ok (.int w) st) (h3 : mv ev st = .ok (.int c) st) (h : st[n]? = some (.dK false (encI b))) (hn : (ks b).Nodup) (hl : b.length ≤ lim) :
    mDPut ma mk (mOp gAdd (mDGet ma mk (mC (.int 0))) mv) ev st = .ok (.nx, ev) (st.set n (.dK false (encI (addC b w c)))) := by
  have hd : isDct st (.ref n) = true := by simp only [isDct, h]
  have hg := get_encI w h
  have hp : putD1 st (.ref n) (.int w) (.int (cnt b w + c)) = some (st.set n (.dK false (encI (addC b w c)))) := by
    simp only [putD1, h, keyOf, len_encI, if_pos hl, put_encI w c b hn]
  have hx : ((if w ∈ ks b then some (D.int (cnt b w)) else none).getD (.int 0)) = .int (cnt b w) := by
    by_cases q : w ∈ ks b
    · rw [if_pos q]; rfl
    · rw [if_neg q, cnt_out q]; rfl
  simp [h1, h2, h3, hd, hg, hx, hp]
theorem items_dI {b : List (Int × Int)} (h : b.length ≤ lim) : itemsK .dK (Ob.dK true (encI b)) = some (b.map fun z => .int z.1) := by
  simp only [itemsK, len_encI, if_pos h]
  simp only [encI, List.map_map]
  all_goals rfl
theorem key_iff {b : List (Int × Int)} {M R : Int} (h : GB b M R) (w : Int) : w ∈ ks b ↔ cnt b w ≠ 0 := by
  constructor
  · intro hw
    obtain ⟨z, hz, rfl⟩ := List.mem_map.mp hw
    rw [cnt_mem h.nd hz]
    have := h.pos z hz
    omega
  · intro hc
    exact Classical.byContradiction fun hn => hc (cnt_out hn)
theorem insI_comm (a b : Int) : ∀ l : List Int, insI a (insI b l) = insI b (insI a l)
  | [] => by
    simp only [insI]
    split <;> split <;> first | rfl | (simp; omega) | omega
  | y :: l => by
    have ih := insI_comm a b l
    by_cases h1 : b ≤ y <;> by_cases h2 : a ≤ y
    · simp only [insI, h1, h2, if_true]
      by_cases h3 : a ≤ b <;> by_cases h4 : b ≤ a <;> simp [insI, h1, h2, h3, h4] <;> omega
    · have h3 : ¬ a ≤ b := by omega
      simp [insI, h1, h2, h3]
    · have h3 : ¬ b ≤ a := by omega
      simp [insI, h1, h2, h3]
    · simp [insI, h1, h2, ih]
theorem sortI_eq {l l' : List Int} (h : l.Perm l') : sortI l = sortI l' := by
  induction h with
  | nil => rfl
  | cons x _ ih => simp [sortI, ih]
  | swap x y l => simp [sortI, insI_comm]
  | trans _ _ i1 i2 => exact i1.trans i2
theorem perm_of_iff {l l' : List Int} (n : l.Nodup) (n' : l'.Nodup) (h : ∀ w, w ∈ l ↔ w ∈ l') : l.Perm l' := by
  induction l generalizing l' with
  | nil =>
    cases l' with
    | nil => exact .refl _
    | cons x l' => exact absurd ((h x).mpr List.mem_cons_self) (by simp)
  | cons x l ih =>
    rw [List.nodup_cons] at n
    have hx : x ∈ l' := (h x).mp List.mem_cons_self
    have hp := List.perm_cons_erase hx
    refine .trans (.cons x (ih n.2 (n'.erase x) fun w => ?_)) hp.symm
    rw [n'.mem_erase_iff]
    constructor
    · intro hw
      exact ⟨fun e => n.1 (e ▸ hw), (h w).mp (List.mem_cons_of_mem _ hw)⟩
    · rintro ⟨h1, h2⟩
      rcases List.mem_cons.mp ((h w).mpr h2) with rfl | h3
      · exact absurd rfl h1
      · exact h3
end Ml

/-! tallies -/
namespace Ml
open PySem L2
theorem e_InLd (f : Bool → Bool) (ma : Mo D) (xb : Mo Lo) (ev : Ev) (st : Sto) : mInL f ma xb ev st = (ma ev st).bind fun d st1 => (xb ev st1).bind fun v st2 => match loAt st2 v with
  | some es => if d.dok 60 && doks 59 es then .ok (.bl (f (es.any fun z => deq z d))) st2 else .bad
  | none => .bad := rfl
theorem e_App (ma mv : Mo D) (ev : Ev) (st : Sto) : mAppend ma mv ev st = (ma ev st).bind fun d st1 => if isLst st1 d = true then (mv ev st1).bind fun v st2 => match d with
  | .ref i => (match st2[i]? with
    | some (.lst ds) => if ds.length + 1 ≤ lim then .ok .non (st2.set i (.lst (ds ++ [v]))) else .bad
    | _ => .bad)
  | _ => .bad else .bad := rfl
theorem e_Srt (mr : Mo (List D)) (ev : Ev) (st : Sto) : mSrtSet mr ev st = (mr ev st).bind fun ds st1 => match intsOf ds with
  | some ns => if ns.length ≤ 4000 then .ok ((ssort ns).map D.int) st1 else .bad
  | none => .bad := rfl
theorem e_LstM (ma : Mo D) (ev : Ev) (st : Sto) : mLst ma ev st = (ma ev st).bind fun d st1 => match d with
  | .ref i => (match st1[i]? with
    | some (.lst ds) => .ok ds st1
    | some (.ro ds) => .ok ds st1
    | _ => .bad)
  | .ro ds => .ok ds st1
  | _ => .bad := rfl
theorem deqI (a b : Int) : deq (.int a) (.int b) = (a == b) := by simp [deq, D.pd, PyData.eqv]
theorem doksI : ∀ (ms : List Int) (n : Nat), doks n (ms.map D.int) = true
  | [], n => by simp
  | m :: ms, n => by simp [doks_cons, doksI ms n]
theorem anyI (w : Int) : ∀ ms : List Int, (ms.map D.int).any (fun z => deq z (.int w)) = decide (w ∈ ms)
  | [] => by simp
  | m :: ms => by
    rw [List.map_cons, List.any_cons, anyI w ms, deqI, Bool.eq_iff_iff]
    simp
    exact or_congr_left eq_comm
theorem flatI : ∀ ms : List Int, (ms.map D.int).all flatD = true
  | [] => rfl
  | m :: ms => by rw [List.map_cons, List.all_cons, flatI ms]; rfl
theorem cntI (w : Int) : ∀ ms : List Int, (ms.map D.int).countP (fun z => eqD z (.int w)) = ms.count w
  | [] => rfl
  | m :: ms => by
    rw [List.map_cons, List.countP_cons, List.count_cons, cntI w ms]
    rfl
theorem ssort_len (ms : List Int) : (ssort ms).length ≤ ms.length := by
  rw [ssort, (sortI_perm _).length_eq]
  have : ∀ xs : List Int, (ddI xs).length ≤ xs.length := fun xs => by
    induction xs with
    | nil => exact Nat.le_refl _
    | cons x xs ih => unfold ddI; split <;> simp <;> omega
  exact this ms
/-- a tally: its object at t, its list at f -/
structure Tal (st : Sto) (t f : Nat) (s : Say) (ms : List Int) : Prop where
  ob : st[t]? = some (.ins "Tally" [("said", enc s), ("fell", .ref f)])
  ls : st[f]? = some (.lst (ms.map D.int))
theorem Tal.ne {st : Sto} {t f : Nat} {s : Say} {ms : List Int} (h : Tal st t f s ms) : t ≠ f := fun e => by
  have := h.ob
  rw [e, h.ls] at this
  cases this
theorem Tal.app {st : Sto} {t f : Nat} {s : Say} {ms : List Int} (h : Tal st t f s ms) (g : Sto) : Tal (st ++ g) t f s ms := ⟨get_app h.ob g, get_app h.ls g⟩
theorem Tal.set {st : Sto} {t f : Nat} {s : Say} {ms : List Int} (h : Tal st t f s ms) (ms' : List Int) : Tal (st.set f (.lst (ms'.map D.int))) t f s ms' :=
  ⟨by rw [List.getElem?_set_ne (Ne.symm h.ne)]; exact h.ob, List.getElem?_set_self (List.getElem?_eq_some_iff.mp h.ls).1⟩
def tfs (s : Say) (f : Nat) : List (Str × D) := [("said", enc s), ("fell", .ref f)]
@[simp] theorem tfs_said (s : Say) (f : Nat) : (tfs s f).lookup ("said" : Str) = some (enc s) := by simp [tfs, List.lookup_cons]
@[simp] theorem tfs_fell (s : Say) (f : Nat) : (tfs s f).lookup ("fell" : Str) = some (.ref f) := by simp [tfs, List.lookup_cons]
@[simp] theorem tfs_m1 (s : Say) (f : Nat) : (tfs s f).lookup ("note" : Str) = none := by simp [tfs, List.lookup_cons]
@[simp] theorem tfs_m2 (s : Say) (f : Nat) : (tfs s f).lookup ("undo" : Str) = none := by simp [tfs, List.lookup_cons]
@[simp] theorem tfs_m3 (s : Say) (f : Nat) : (tfs s f).lookup ("many" : Str) = none := by simp [tfs, List.lookup_cons]
@[simp] theorem tfs_m4 (s : Say) (f : Nat) : (tfs s f).lookup ("counts" : Str) = none := by simp [tfs, List.lookup_cons]
@[simp] theorem tfs_m5 (s : Say) (f : Nat) : (tfs s f).lookup ("due" : Str) = none := by simp [tfs, List.lookup_cons]
@[simp] theorem tfs_m6 (s : Say) (f : Nat) : (tfs s f).lookup ("lacking" : Str) = none := by simp [tfs, List.lookup_cons]
theorem Tal.ins {st : Sto} {t f : Nat} {s : Say} {ms : List Int} (h : Tal st t f s ms) : insAt st "Tally" (.ref t) = some (t, tfs s f) := by
  rw [e_insR, h.ob]
  simp [tfs]
section
variable {st : Sto} {t f : Nat} {s : Say} {ms : List Int}
theorem many_ok (h : Tal st t f s ms) : fnM 1 1 m_Tally_many [.ref t] st = .ok (.int ms.length) st := by
  have h1 := h.ins
  simp [-e_insR, fnM, m_Tally_many, h1, h.ls]
def countsL (ms : List Int) : List D := (ssort ms).map fun w => .tup [.int w, .int (ms.count w : Nat)]
theorem counts_ok (h : Tal st t f s ms) (hl : ms.length ≤ 4000) : fnM 1 2 m_Tally_counts [.ref t] st = .ok (.tup (countsL ms)) st := by
  have h1 := h.ins
  have hlm : lim = 1000000 := rfl
  have hsl : (ssort ms).length ≤ lim := by have := ssort_len ms; omega
  have hlc : lcLoop (gtName 1) mYes (mTup (mCons (mVar 1) (mCons (mCnt (mFld "Tally" "fell" (mVar 0)) (mVar 1)) mNil))) ((ssort ms).map D.int) [some (.ref t), none] st = .ok (countsL ms) st := by
    refine lc_map D.int _ _ fun w _ => ⟨_, rfl, ?_⟩
    have e1 := cntI w ms
    have e2 := flatI ms
    simp [-e_insR, h1, h.ls, e1]
    try simpa using e2
  simp [-e_insR, fnM, m_Tally_counts, e_Srt, e_LstM, h1, h.ls, hl, hsl, hlc, intsOf_map]
def lackL (b : List (Int × Int)) (ms : List Int) : List D := ((sortI (ks b)).filter fun w => !decide (w ∈ ms)).map D.int
theorem lack_ok {c_shs : Fm} (hs : Gives c_shs [enc s] (.tup (shsL (bookC s) (bookM s)))) (hz : (shsL (bookC s) (bookM s)).length ≤ lim) (h : Tal st t f s ms) : ∃ g, fnM 1 3 (m_Tally_lacking c_shs) [.ref t] st = .ok (.tup (lackL (bookC s) ms)) (st ++ g) := by
  have h1 := h.ins
  obtain ⟨g, e⟩ := hs st
  have h2 := h.app g
  have h3 := h2.ins
  refine ⟨g, ?_⟩
  have hlc : lcLoop (gtTup 2 (gtsCons (gtName 1) (gtsCons (gtName 2) gtsNil))) (mTest (mInL (!·) (mVar 1) (mLoR (mFld "Tally" "fell" (mVar 0))))) (mVar 1) (shsL (bookC s) (bookM s)) [some (.ref t), none, none] (st ++ g) = .ok (lackL (bookC s) ms) (st ++ g) := by
    refine lc_filt (fun w => D.tup [.int w, fr (cnt (bookC s) w) (bookM s)]) (fun w => !decide (w ∈ ms)) D.int _ fun w _ => ⟨_, rfl, ?_, fun _ => rfl⟩
    have e1 := anyI w ms
    have e2 := doksI ms 59
    simp [-e_insR, e_InLd, h3, h2.ls, e2]
    rw [← e1]
    simp
  simp [-e_insR, fnM, m_Tally_lacking, h1, e, hz, hlc]
def dueL (b : List (Int × Int)) (M n : Int) : List D := (sortI (ks b)).map fun w => .tup [.int w, fr (cnt b w * n) M]
theorem due_ok {c_frac c_prod c_shs : Fm} (hs : Gives c_shs [enc s] (.tup (shsL (bookC s) (bookM s)))) (hz : (shsL (bookC s) (bookM s)).length ≤ lim) (hG : GB (bookC s) (bookM s) (bookR s)) (h : Tal st t f s ms) (hl : ms.length ≤ 4000)
    (hf : ∀ st, c_frac [.int ms.length, .int 1] st = .ok (fr ms.length 1) st) (hp : ∀ c st, 0 ≤ c → c ≤ bookM s → c_prod [fr c (bookM s), fr ms.length 1] st = .ok (fr (c * ms.length) (bookM s)) st) : ∃ g, fnM 1 3 (m_Tally_due c_frac c_prod c_shs) [.ref t] st = .ok (.tup (dueL (bookC s) (bookM s) ms.length)) (st ++ g) := by
  have h1 := h.ins
  obtain ⟨g, e⟩ := hs st
  have h2 := h.app g
  have h3 := h2.ins
  refine ⟨g, ?_⟩
  have hlc : lcLoop (gtTup 2 (gtsCons (gtName 1) (gtsCons (gtName 2) gtsNil))) mYes (mTup (mCons (mVar 1) (mCons (mCall c_prod (mCons (mVar 2) (mCons (mCall c_frac (mCons (mCB gLen (mCons (mFld "Tally" "fell" (mVar 0)) mNil)) (mCons (mC (.int 1)) mNil))) mNil))) mNil))) (shsL (bookC s) (bookM s)) [some (.ref t), none, none] (st ++ g) = .ok (dueL (bookC s) (bookM s) ms.length) (st ++ g) := by
    refine lc_map (fun w => D.tup [.int w, fr (cnt (bookC s) w) (bookM s)]) _ _ fun w _ => ⟨_, rfl, ?_⟩
    have hc := cnt_le_tot hG.nn w
    rw [hG.tot] at hc
    have hp' := hp (cnt (bookC s) w) (st ++ g) hc.1 hc.2
    simp [-e_insR, h3, h2.ls, hf, hp']
  simp [-e_insR, fnM, m_Tally_due, h1, e, hz, hlc]
/-- a note -/
theorem note_no {c_sh : Fm} {w : Int} (h : Tal st t f s ms) (hs : Gives c_sh [enc s, .int w] (fr 0 (bookM s))) (hM : 0 < bookM s) : ∃ g, fnX 2 2 (m_Tally_note c_sh) [.ref t, .int w] st = .exc "NoWorth" [] (st ++ g) := by
  have h1 := h.ins
  obtain ⟨g, e⟩ := hs st
  rw [fr_zero hM] at e
  refine ⟨g, ?_⟩
  have eq : ∀ st, gEq (.tup [.int 0, .int 1]) (.tup [.int 0, .int 1]) st = some (.bl true, st) := fun st => eq_self (by rfl)
  simp [-e_insR, fnX, m_Tally_note, h1, e, eq]
theorem note_yes {c_sh : Fm} {w c : Int} (h : Tal st t f s ms) (hs : Gives c_sh [enc s, .int w] (fr c (bookM s))) (hM : 0 < bookM s) (hc : c ≠ 0) (hl : ms.length ≤ 4000) :
    ∃ g, fnX 2 2 (m_Tally_note c_sh) [.ref t, .int w] st = .ok .non ((st ++ g).set f (.lst ((ms ++ [w]).map D.int))) := by
  have h1 := h.ins
  obtain ⟨g, e⟩ := hs st
  have h2 := h.app g
  have h3 := h2.ins
  refine ⟨g, ?_⟩
  have eq : ∀ st, gEq (fr c (bookM s)) (.tup [.int 0, .int 1]) st = some (.bl false, st) := fun st => by
    have e0 := fr_eq (a := c) (b := 0) hM
    rw [fr_zero hM, decide_eq_false hc] at e0
    unfold gEq
    rw [e0]
    rfl
  have hl2 : ms.length + 1 ≤ lim := by have : lim = 1000000 := rfl; omega
  have hil : isLst (st ++ g) (.ref f) = true := by simp only [isLst, h2.ls]
  simp [-e_insR, fnX, m_Tally_note, e_App, h1, h3, e, eq, hil, h2.ls, hl2]
/-- a note taken back -/
theorem undo_no (h : Tal st t f s []) : fnX 1 1 m_Tally_undo [.ref t] st = .exc "NoNote" [] st := by
  have h1 := h.ins
  have tr : truD st (.ref f) = some false := by simp only [truD, h.ls]; rfl
  simp [-e_insR, fnX, m_Tally_undo, h1, tr]
theorem undo_yes (h : Tal st t f s ms) (hm : ms ≠ []) : fnX 1 1 m_Tally_undo [.ref t] st = .ok .non (st.set f (.lst (ms.dropLast.map D.int))) := by
  have h1 := h.ins
  have tr : truD st (.ref f) = some true := by
    simp only [truD, h.ls]
    cases ms with
    | nil => exact absurd rfl hm
    | cons m ms => rfl
  have hl : ms.length - 1 < ms.length := by have := List.length_pos_iff.mpr hm; omega
  have hg : (ms.map D.int)[(ms.map D.int).length - 1]? = some (.int ms[ms.length - 1]) := by
    rw [List.length_map, List.getElem?_map, List.getElem?_eq_getElem hl]; rfl
  have hd : (ms.map D.int).dropLast = ms.dropLast.map D.int := by rw [List.map_dropLast]
  have hp : mPop (mFld "Tally" "fell" (mVar 0)) [some (.ref t)] st = .ok (.int ms[ms.length - 1]) (st.set f (.lst (ms.dropLast.map D.int))) := by
    rw [e_Pop]
    simp only [e_Fld, e_Var, List.getElem?_cons_zero, Rs.bind_ok, h1, tfs_fell, h.ls]
    rw [hg]
    simp only [hd]
  simp [-e_insR, -e_Pop, fnX, m_Tally_undo, h1, tr, hp]
theorem tinit_ok {d : D} {st : Sto} {s : Say} : fnM 2 2 m_Tally_init [.ref st.length, enc s] (st ++ [.ins "Tally" []]) = .ok .non (st ++ [.ins "Tally" [("said", enc s), ("fell", .ref (st.length + 1))], .lst []]) := by
  simp [fnM, m_Tally_init, putFD]
end
end Ml

namespace L17
open PySem L2 Ml
section
variable {n : Nat} {st : Sto} {t f : Nat} {s : Say} {ms : List Int}
theorem l_many' (hn : 1 ≤ n) (h : Tal st t f s ms) : callN n .Tally_many [.ref t] st = .ok (.int ms.length) st := by
  obtain ⟨m, rfl⟩ : ∃ m, n = m + 1 := ⟨n - 1, by omega⟩
  exact many_ok h
theorem l_counts (hn : 1 ≤ n) (h : Tal st t f s ms) (hl : ms.length ≤ 4000) : callN n .Tally_counts [.ref t] st = .ok (.tup (countsL ms)) st := by
  obtain ⟨m, rfl⟩ : ∃ m, n = m + 1 := ⟨n - 1, by omega⟩
  exact counts_ok h hl
theorem shs_len (hw : Wf s) (hd : dice s ≤ 6) (hp : dep s ≤ 5) : (shsL (bookC s) (bookM s)).length ≤ lim := by
  have hz := szb hw hd hp
  rw [shs_srt, List.length_map]; exact hz.len
theorem l_lack (hn : 16 ≤ n) (hw : Wf s) (hd : dice s ≤ 6) (hp : dep s ≤ 5) (h : Tal st t f s ms) : ∃ g, callN n .Tally_lacking [.ref t] st = .ok (.tup (lackL (bookC s) ms)) (st ++ g) := by
  obtain ⟨m, rfl⟩ : ∃ m, n = m + 1 := ⟨n - 1, by omega⟩
  exact lack_ok (c_shs := callN m .shares) (l_shares (by omega) hw hd hp) (shs_len hw hd hp) h
theorem l_due (hn : 16 ≤ n) (hw : Wf s) (hd : dice s ≤ 6) (hp : dep s ≤ 5) (h : Tal st t f s ms) (hl : ms.length ≤ 4000) : ∃ g, callN n .Tally_due [.ref t] st = .ok (.tup (dueL (bookC s) (bookM s) ms.length)) (st ++ g) := by
  obtain ⟨m, rfl⟩ : ∃ m, n = m + 3 + 1 := ⟨n - 4, by omega⟩
  have hz := szb hw hd hp
  have h60 := hz.m60
  refine due_ok (c_frac := callN (m + 3) .fraction) (c_prod := callN (m + 3) .product) (c_shs := callN (m + 3) .shares) (l_shares (by omega) hw hd hp) (shs_len hw hd hp) hz.g h hl (fun st => l_frac (m + 1) ms.length 1 st (by decide) (by decide) (by omega)) (fun c st h0 hc => ?_)
  have := l_prod m (a := c) (b := ms.length) (M := bookM s) (N := 1) (st := st) hz.m0 (by decide) hz.sM (by unfold sm; decide) (by unfold sm; omega) (by unfold sm; omega)
  rw [Int.mul_one] at this
  exact this
end
end L17

/-! Faces read, plainly: r the faces that are left, o of how many all rows it is one so far. -/
namespace Ml
inductive Ft (α : Type) where
  | no (r : List Int) (o : Int) | ok (a : α) (r : List Int) (o : Int)
abbrev Fp (α : Type) := List Int → Int → Ft α
def Ft.bind {α β : Type} (x : Ft α) (f : α → Fp β) : Ft β := match x with
  | .no r o => .no r o
  | .ok a r o => f a r o
def fpure {α : Type} (a : α) : Fp α := fun r o => .ok a r o
def fbind {α β : Type} (p : Fp α) (q : α → Fp β) : Fp β := fun r o => (p r o).bind q
@[simp] theorem ft_no {α β : Type} (r : List Int) (o : Int) (f : α → Fp β) : (Ft.no r o : Ft α).bind f = .no r o := rfl
@[simp] theorem ft_ok {α β : Type} (a : α) (r : List Int) (o : Int) (f : α → Fp β) : (Ft.ok a r o).bind f = f a r o := rfl
def pTake (s : Int) : Fp Int
  | [], o => .no [] o
  | f :: r, o => if 1 ≤ f ∧ f ≤ s then .ok f r (o * s) else .no (f :: r) o
/-- the more faces of a burst -/
def pMore (s : Int) : Nat → Int → Int → Fp Int
  | 0, _, total => fpure total
  | n + 1, face, total => if face = s then fbind (pTake s) fun f => pMore s n f (total + f) else pMore s n face total
def pDieL : Option WL → Int → Int → Fp Int
  | none, s, _ => pTake s
  | some .high, s, _ => pTake s
  | some .low, s, _ => pTake s
  | some .again, s, l => fbind (pTake s) fun f => if f ≤ l then pTake s else fpure f
  | some .count, s, l => fbind (pTake s) fun f => fpure (if l ≤ f then 1 else 0)
  | some .burst, s, l => fbind (pTake s) fun f => pMore s l.toNat f f
def pMany {α : Type} (p : Fp α) : Nat → Fp (List α)
  | 0 => fpure []
  | n + 1 => fbind p fun x => fbind (pMany p n) fun xs => fpure (x :: xs)
/-- which of the rising worths are kept -/
def keptOf : Option WL → Int → Int → List Int → List Int
  | some .high, m, l, xs => (sortI xs).drop (m - l).toNat
  | some .low, _, l, xs => (sortI xs).take l.toNat
  | _, _, _, xs => sortI xs
def pLeaf (w : Option WL) (m s l : Int) : Fp Int := fbind (pMany (pDieL w s l) m.toNat) fun xs => fpure (keptOf w m l xs).sum
def of2w : W2 → Int → Int → Int
  | .plus, a, b => a + b
  | .less, a, b => a - b
  | .most, a, b => max a b
  | .least, a, b => min a b
  | .beats, a, b => if b < a then 1 else 0
def pW : Say → Fp Int
  | .num n => fpure n
  | .die m s => pLeaf none m s 0
  | .dl w m s l => pLeaf (some w) m s l
  | .times n a => fbind (pW a) fun x => fpure (n * x)
  | .two w a b => fbind (pW a) fun x => fbind (pW b) fun y => fpure (of2w w x y)
/-! what is read is read whatever comes behind; where a face is due, none that is none is taken -/
def Stuck (C : List Int) : Prop := ∀ f r, C = f :: r → f < 1 ∨ 6 < f
def GoodF {α : Type} (p : Fp α) : Prop := ∀ r o a B o', p r o = .ok a B o' → ∃ A, r = A ++ B ∧ (∀ B', p (A ++ B') o = .ok a B' o') ∧ ∀ A1 A2 C, A = A1 ++ A2 → A2 ≠ [] → Stuck C → ∃ o2, p (A1 ++ C) o = .no C o2
theorem good_pure {α : Type} (a : α) : GoodF (fpure a) := fun r o a' B o' h => by
  cases h
  refine ⟨[], rfl, fun B' => rfl, fun A1 A2 C e hn _ => ?_⟩
  have := List.append_eq_nil_iff.mp e.symm
  exact absurd this.2 hn
theorem good_bind {α β : Type} {p : Fp α} {q : α → Fp β} (hp : GoodF p) (hq : ∀ a, GoodF (q a)) : GoodF (fbind p q) := fun r o b B o' h => by
  unfold fbind at h
  cases h1 : p r o with
  | no r1 o1 => rw [h1] at h; cases h
  | ok a r1 o1 =>
    rw [h1] at h
    simp only [ft_ok] at h
    obtain ⟨A, rfl, hA, sA⟩ := hp r o a r1 o1 h1
    obtain ⟨A', rfl, hA', sA'⟩ := hq a r1 o1 b B o' h
    refine ⟨A ++ A', by rw [List.append_assoc], fun B' => ?_, fun A1 A2 C e hn hC => ?_⟩
    · unfold fbind
      rw [List.append_assoc, hA]
      exact hA' B'
    · unfold fbind
      rcases List.append_eq_append_iff.mp e with ⟨D, e1, e2⟩ | ⟨D, e1, e2⟩
      · -- A1 reaches into the second
        subst e1
        obtain ⟨o2, h2⟩ := sA' D A2 C e2 hn hC
        refine ⟨o2, ?_⟩
        rw [List.append_assoc, hA]
        exact h2
      · by_cases hD : D = []
        · subst hD
          simp only [List.append_nil, List.nil_append] at e1 e2
          subst e1
          obtain ⟨o2, h2⟩ := sA' [] A2 C (by rw [e2]; rfl) hn hC
          refine ⟨o2, ?_⟩
          rw [hA]
          exact h2
        · obtain ⟨o2, h2⟩ := sA A1 D C e1 hD hC
          exact ⟨o2, by rw [h2]; rfl⟩
theorem good_take {s : Int} (h6 : s ≤ 6) : GoodF (pTake s) := fun r o a B o' h => by
  cases r with
  | nil => cases h
  | cons f r =>
    simp only [pTake] at h
    split at h
    · rename_i hf
      cases h
      refine ⟨[a], rfl, fun B' => by simp [pTake, hf], fun A1 A2 C e hn hC => ?_⟩
      have : A1 = [] := by
        cases A1 with
        | nil => rfl
        | cons x xs =>
          simp only [List.cons_append, List.cons.injEq] at e
          have := List.append_eq_nil_iff.mp e.2.symm
          exact absurd this.2 hn
      subst this
      cases C with
      | nil => exact ⟨o, rfl⟩
      | cons g C =>
        have := hC g C rfl
        refine ⟨o, ?_⟩
        simp only [List.nil_append, pTake]
        rw [if_neg (by omega)]
    · cases h
theorem good_more {s : Int} (h6 : s ≤ 6) : ∀ (n : Nat) (face total : Int), GoodF (pMore s n face total)
  | 0, _, total => good_pure total
  | n + 1, face, total => by
    unfold pMore
    split
    · exact good_bind (good_take h6) fun f => good_more h6 n f _
    · exact good_more h6 n face total
theorem good_die {s : Int} (h6 : s ≤ 6) (w : Option WL) (l : Int) : GoodF (pDieL w s l) := by
  cases w with
  | none => exact good_take h6
  | some w =>
    cases w with
    | high => exact good_take h6
    | low => exact good_take h6
    | again =>
      refine good_bind (good_take h6) fun f => ?_
      split
      · exact good_take h6
      · exact good_pure f
    | count => exact good_bind (good_take h6) fun f => good_pure _
    | burst => exact good_bind (good_take h6) fun f => good_more h6 _ _ _
theorem good_many {α : Type} {p : Fp α} (hp : GoodF p) : ∀ n, GoodF (pMany p n)
  | 0 => good_pure []
  | n + 1 => good_bind hp fun x => good_bind (good_many hp n) fun xs => good_pure _
theorem good_leaf {s : Int} (h6 : s ≤ 6) (w : Option WL) (m l : Int) : GoodF (pLeaf w m s l) := good_bind (good_many (good_die h6 w l) _) fun xs => good_pure _
theorem good_W : ∀ s, Wf s → GoodF (pW s)
  | .num n, _ => good_pure n
  | .die m s, h => good_leaf h.2.2.2 none m 0
  | .dl w m s l, h => good_leaf h.2.2.2.1 (some w) m l
  | .times n a, h => good_bind (good_W a h.2.2) fun x => good_pure _
  | .two w a b, h => good_bind (good_W a h.1) fun x => good_bind (good_W b h.2) fun y => good_pure _
end Ml

/-! the program's fall equals the plain one -/
namespace Ml
open PySem L2
def ffs (T : List Int) (k : Nat) (o : Int) : List (Str × D) := [("row", .tup (T.map D.int)), ("count", .int k), ("of", .int o)]
/-- a row of faces, r of it left -/
def FAt (st : Sto) (i : Nat) (T r : List Int) (o : Int) : Prop := ∃ A, T = A ++ r ∧ st[i]? = some (.ins "Faces" (ffs T A.length o))
@[simp] theorem ffs_row (T : List Int) (k : Nat) (o : Int) : (ffs T k o).lookup ("row" : Str) = some (.tup (T.map D.int)) := by simp [ffs, List.lookup_cons]
@[simp] theorem ffs_count (T : List Int) (k : Nat) (o : Int) : (ffs T k o).lookup ("count" : Str) = some (.int k) := by simp [ffs, List.lookup_cons]
@[simp] theorem ffs_of (T : List Int) (k : Nat) (o : Int) : (ffs T k o).lookup ("of" : Str) = some (.int o) := by simp [ffs, List.lookup_cons]
@[simp] theorem ffs_take (T : List Int) (k : Nat) (o : Int) : (ffs T k o).lookup ("take" : Str) = none := by simp [ffs, List.lookup_cons]
@[simp] theorem ffs_len (T : List Int) (k : Nat) (o : Int) : (ffs T k o).length = 3 := rfl
theorem ffs_pc' (T : List Int) (k : Nat) (o : Int) : putFD ("count" : Str) (.int ((k : Int) + 1)) (ffs T k o) = ffs T (k + 1) o := by
  simp [ffs, putFD]
@[simp] theorem ffs_po (T : List Int) (k : Nat) (o j : Int) : putFD ("of" : Str) (.int j) (ffs T k o) = ffs T k j := by simp [ffs, putFD]
theorem ins_of {st : Sto} {i : Nat} {fs : List (Str × D)} (h : st[i]? = some (.ins "Faces" fs)) : insAt st "Faces" (.ref i) = some (i, fs) := by
  rw [e_insR, h]
  simp
theorem at_mid (A : List Int) (f : Int) (r : List Int) : L2.atI ((A ++ f :: r).map D.int) (A.length : Int) = some (.int f) :=
  atI_nat (by simp)
theorem FAt.lt {st : Sto} {i : Nat} {T r : List Int} {o : Int} (h : FAt st i T r o) : i < st.length := by
  obtain ⟨A, _, e⟩ := h
  exact (List.getElem?_eq_some_iff.mp e).1
/-- what comes of it -/
def RdF (st : Sto) (i : Nat) (T : List Int) (x : Ft Int) (res : Rs D) : Prop := match x with
  | .ok a r o => ∃ st', res = .ok (.int a) st' ∧ FAt st' i T r o ∧ Kp st st' [i] ∧ st.length ≤ st'.length
  | .no r o => ∃ e st', res = .exc "NoFaces" e st' ∧ FAt st' i T r o ∧ Kp st st' [i] ∧ st.length ≤ st'.length
theorem take_ok {st : Sto} {i : Nat} {T r : List Int} {o s : Int} (hs : small64 s = true) (h : FAt st i T r o) : RdF st i T (pTake s r o) (fnX 2 2 m_Faces_take [.ref i, .int s] st) := by
  have hlt := h.lt
  obtain ⟨A, rfl, e⟩ := h
  have h1 := ins_of e
  cases r with
  | nil =>
    refine ⟨[], st, ?_, ⟨A, rfl, e⟩, Kp.refl _ _, Nat.le_refl _⟩
    simp [-e_insR, fnX, m_Faces_take, h1]
  | cons f r =>
    have ha := at_mid A f r
    have hne' : ((A.length : Int) == (A.length : Int) + ((r.length : Int) + 1)) = false := by
      rw [beq_eq_false_iff_ne]
      omega
    show RdF st i _ (if 1 ≤ f ∧ f ≤ s then .ok f r (o * s) else .no (f :: r) o) _
    by_cases hf : 1 ≤ f ∧ f ≤ s
    · rw [if_pos hf]
      obtain ⟨hf1, hf2⟩ := hf
      have g1 : insAt (st.set i (.ins "Faces" (ffs (A ++ f :: r) (A.length + 1) o))) "Faces" (.ref i) = some (i, ffs (A ++ f :: r) (A.length + 1) o) := ins_of (List.getElem?_set_self hlt)
      have g2' : (st.set i (.ins "Faces" (ffs (A ++ f :: r) (A.length + 1) (o * s))))[i]? = some (.ins "Faces" (ffs (A ++ f :: r) (A.length + 1) (o * s))) := List.getElem?_set_self hlt
      have g2 := ins_of g2'
      refine ⟨st.set i (.ins "Faces" (ffs (A ++ f :: r) (A.length + 1) (o * s))), ?_, ⟨A ++ [f], by simp, by simpa using g2'⟩, ?_, ?_⟩
      · simp [-e_insR, -List.map_append, -List.map_cons, ffs_pc', fnX, m_Faces_take, h1, hne', ha, hf1, hf2, g1, g2, hs]
      · exact (Kp.refl st [i]).set (.inl List.mem_cons_self)
      · simp
    · rw [if_neg hf]
      refine ⟨[], st, ?_, ⟨A, rfl, e⟩, Kp.refl _ _, Nat.le_refl _⟩
      by_cases hf1 : 1 ≤ f
      · have hf2 : ¬ f ≤ s := fun q => hf ⟨hf1, q⟩
        simp [-e_insR, -List.map_append, -List.map_cons, fnX, m_Faces_take, h1, hne', ha, hf1, hf2]
      · simp [-e_insR, -List.map_append, -List.map_cons, fnX, m_Faces_take, h1, hne', ha, hf1]
end Ml

/-! a die of the program's fall -/
namespace Ml
open PySem L2
theorem rngD_cons (j : Int) (m : Nat) : rngD j (m + 1) = .int j :: rngD (j + 1) m := by
  simp [rngD, List.range_succ_eq_map, List.map_map, Function.comp_def]
  intro a _
  omega
theorem FAt.ins {st : Sto} {i : Nat} {T r : List Int} {o : Int} (h : FAt st i T r o) : ∃ k, insAt st "Faces" (.ref i) = some (i, ffs T k o) := by
  obtain ⟨A, _, e⟩ := h
  exact ⟨_, ins_of e⟩
def TakeP (c : Fm) : Prop := ∀ (st : Sto) (i : Nat) (T r : List Int) (o s : Int), small64 s = true → FAt st i T r o → RdF st i T (pTake s r o) (c [.ref i, .int s] st)
theorem meth_ok {c : Fm} {st st' : Sto} {i : Nat} {T r : List Int} {o s f : Int} {ev : Ev} (h : FAt st i T r o) (hc : c [.ref i, .int s] st = .ok (.int f) st') (h0 : ev[0]? = some (some (.ref i))) (h4 : ev[4]? = some (some (.int s))) : mMethX "Faces" "take" c (mVar 0) (mCons (mVar 4) mNil) ev st = .ok (.int f) st' := by
  obtain ⟨k, hk⟩ := h.ins
  have := cCall_ok (ev := ev) hc
  simp [-e_insR, h0, h4, hk, this]
theorem meth_no {c : Fm} {st st' : Sto} {i : Nat} {T r : List Int} {o s : Int} {ev e : Ev} (h : FAt st i T r o) (hc : c [.ref i, .int s] st = .exc "NoFaces" e st') (h0 : ev[0]? = some (some (.ref i))) (h4 : ev[4]? = some (some (.int s))) : mMethX "Faces" "take" c (mVar 0) (mCons (mVar 4) mNil) ev st = .exc "NoFaces" ev st' := by
  obtain ⟨k, hk⟩ := h.ins
  have := cCall_exc (ev := ev) hc
  simp [-e_insR, h0, h4, hk, this]
/-- the more faces of a burst -/
theorem more_ok {c : Fm} {i : Nat} {T : List Int} {s : Int} {d1 d2 d3 : D} (hT : TakeP c) (hs : small64 s = true) : ∀ (n : Nat) (a face total : Int) (st : Sto) (r : List Int) (o : Int) (x7 : Option D), FAt st i T r o →
    match pMore s n face total r o with
    | .ok t r' o' => ∃ st' ev', loop (gtName 7) (m_die_worth_b1 c) (rngD a n) [some (.ref i), some d1, some d2, some d3, some (.int s), some (.int face), some (.int total), x7] st = .ok (.nx, ev') st' ∧ ev'[6]? = some (some (.int t)) ∧ FAt st' i T r' o' ∧ Kp st st' [i] ∧ st.length ≤ st'.length
    | .no r' o' => ∃ e st', loop (gtName 7) (m_die_worth_b1 c) (rngD a n) [some (.ref i), some d1, some d2, some d3, some (.int s), some (.int face), some (.int total), x7] st = .exc "NoFaces" e st' ∧ FAt st' i T r' o' ∧ Kp st st' [i] ∧ st.length ≤ st'.length
  | 0, a, face, total, st, r, o, x7, h => ⟨st, _, rfl, rfl, h, Kp.refl _ _, Nat.le_refl _⟩
  | n + 1, a, face, total, st, r, o, x7, h => by
    rw [rngD_cons, pMore]
    by_cases hf : face = s
    · rw [if_pos hf]
      have h1 := hT st i T r o s hs h
      unfold fbind
      cases hp : pTake s r o with
      | no r1 o1 =>
        rw [hp] at h1
        obtain ⟨e, st', hc, hN, k, l⟩ := h1
        have hm := fun ev h0 h4 => meth_no (ev := ev) h hc h0 h4
        refine ⟨[some (.ref i), some d1, some d2, some d3, some (.int s), some (.int face), some (.int total), some (.int a)], st', ?_, hN, k, l⟩
        rw [e_loopC]
        simp [-e_MethX, m_die_worth_b1, hf, hm]
      | ok f r1 o1 =>
        rw [hp] at h1
        obtain ⟨st1, hc, hF, k, l⟩ := h1
        have hm := fun ev h0 h4 => meth_ok (ev := ev) h hc h0 h4
        have hb : m_die_worth_b1 c [some (.ref i), some d1, some d2, some d3, some (.int s), some (.int face), some (.int total), some (.int a)] st = .ok (.nx, [some (.ref i), some d1, some d2, some d3, some (.int s), some (.int f), some (.int (total + f)), some (.int a)]) st1 := by
          simp [-e_MethX, m_die_worth_b1, hf, hm]
        have ih := more_ok (d1 := d1) (d2 := d2) (d3 := d3) hT hs n (a + 1) f (total + f) st1 r1 o1 (some (.int a)) hF
        have hl : loop (gtName 7) (m_die_worth_b1 c) (.int a :: rngD (a + 1) n) [some (.ref i), some d1, some d2, some d3, some (.int s), some (.int face), some (.int total), x7] st = loop (gtName 7) (m_die_worth_b1 c) (rngD (a + 1) n) [some (.ref i), some d1, some d2, some d3, some (.int s), some (.int f), some (.int (total + f)), some (.int a)] st1 := by
          rw [e_loopC]
          show (match m_die_worth_b1 c [some (.ref i), some d1, some d2, some d3, some (.int s), some (.int face), some (.int total), some (.int a)] st with
      | .ok (.nx, ev2) st2 => loop (gtName 7) (m_die_worth_b1 c) (rngD (a + 1) n) ev2 st2
      | .ok (.ct, ev2) st2 => loop (gtName 7) (m_die_worth_b1 c) (rngD (a + 1) n) ev2 st2
      | .ok (.bk, ev2) st2 => .ok (.nx, ev2) st2
      | .ok (.rt d, ev2) st2 => .ok (.rt d, ev2) st2
      | .bad => .bad
      | .exc c e s => .exc c e s) = _
          rw [hb]
        rw [hl]
        simp only [ft_ok]
        cases hq : pMore s n f (total + f) r1 o1 with
        | no r2 o2 =>
          rw [hq] at ih
          obtain ⟨e, st', h1, hN, h2, h3⟩ := ih
          exact ⟨e, st', h1, hN, k.trans l h2, by omega⟩
        | ok t r2 o2 =>
          rw [hq] at ih
          obtain ⟨st', ev', h1, h2, h3, h4, h5⟩ := ih
          exact ⟨st', ev', h1, h2, h3, k.trans l h4, by omega⟩
    · rw [if_neg hf]
      have hb : m_die_worth_b1 c [some (.ref i), some d1, some d2, some d3, some (.int s), some (.int face), some (.int total), some (.int a)] st = .ok (.nx, [some (.ref i), some d1, some d2, some d3, some (.int s), some (.int face), some (.int total), some (.int a)]) st := by
        simp [-e_MethX, m_die_worth_b1, hf]
      have ih := more_ok (d1 := d1) (d2 := d2) (d3 := d3) hT hs n (a + 1) face total st r o (some (.int a)) h
      have hl : loop (gtName 7) (m_die_worth_b1 c) (.int a :: rngD (a + 1) n) [some (.ref i), some d1, some d2, some d3, some (.int s), some (.int face), some (.int total), x7] st = loop (gtName 7) (m_die_worth_b1 c) (rngD (a + 1) n) [some (.ref i), some d1, some d2, some d3, some (.int s), some (.int face), some (.int total), some (.int a)] st := by
        rw [e_loopC]
        show (match m_die_worth_b1 c [some (.ref i), some d1, some d2, some d3, some (.int s), some (.int face), some (.int total), some (.int a)] st with
      | .ok (.nx, ev2) st2 => loop (gtName 7) (m_die_worth_b1 c) (rngD (a + 1) n) ev2 st2
      | .ok (.ct, ev2) st2 => loop (gtName 7) (m_die_worth_b1 c) (rngD (a + 1) n) ev2 st2
      | .ok (.bk, ev2) st2 => .ok (.nx, ev2) st2
      | .ok (.rt d, ev2) st2 => .ok (.rt d, ev2) st2
      | .bad => .bad
      | .exc c e s => .exc c e s) = _
        rw [hb]
      rw [hl]
      exact ih
/-- a leaf's tuple -/
def leafD : Option WL → Int → Int → Int → D
  | none, m, s, _ => .tup [.str "dice", .int m, .int s]
  | some w, m, s, l => .tup [.str (Str.ofString w.s), .int m, .int s, .int l]
@[simp] theorem cut_3_3 {α : Type} (x y z : α) : cutD [x, y, z] none (some 3) = [x, y, z] := rfl
@[simp] theorem cut_3_4 {α : Type} (x y z w : α) : cutD [x, y, z, w] none (some 3) = [x, y, z] := rfl
theorem die_ok {c : Fm} {i : Nat} {T : List Int} {m s l : Int} {w : Option WL} {st : Sto} {r : List Int} {o : Int} (hT : TakeP c) (hs : small64 s = true) (hl : 0 ≤ l) (hl2 : l ≤ 10) (h : FAt st i T r o) :
    RdF st i T (pDieL w s l r o) (fnX 2 8 (m_die_worth c) [.ref i, leafD w m s l] st) := by
  have h1 := hT st i T r o s hs h
  have plain : ∀ w', (w' = "dice" ∨ w' = "high" ∨ w' = "low") → ∀ tl, RdF st i T (pTake s r o) (fnX 2 8 (m_die_worth c) [.ref i, .tup (.str (Str.ofString w') :: .int m :: .int s :: tl)] st) := fun w' hw' tl => by
    have hcut : cutD (.str (Str.ofString w') :: .int m :: .int s :: tl) none (some 3) = [.str (Str.ofString w'), .int m, .int s] := by
      have := cut_to (.str (Str.ofString w') :: .int m :: .int s :: tl) 3
      simpa using this
    cases hp : pTake s r o with
    | no r1 o1 =>
      rw [hp] at h1
      obtain ⟨e, st', hc, hN, k, l'⟩ := h1
      have hm := fun ev h0 h4 => meth_no (ev := ev) h hc h0 h4
      refine ⟨[], st', ?_, hN, k, l'⟩
      simp [-e_MethX, fnX, m_die_worth, hm, hcut]
    | ok f r1 o1 =>
      rw [hp] at h1
      obtain ⟨st1, hc, hF, k, l'⟩ := h1
      have hm := fun ev h0 h4 => meth_ok (ev := ev) h hc h0 h4
      refine ⟨st1, ?_, hF, k, l'⟩
      rcases hw' with rfl | rfl | rfl <;> simp [-e_MethX, fnX, m_die_worth, hm, hcut]
  cases w with
  | none => exact plain "dice" (.inl rfl) []
  | some w =>
    cases w with
    | high => exact plain "high" (.inr (.inl rfl)) [.int l]
    | low => exact plain "low" (.inr (.inr rfl)) [.int l]
    | again =>
      simp only [pDieL, fbind, leafD, WL.s]
      cases hp : pTake s r o with
      | no r1 o1 =>
        rw [hp] at h1
        obtain ⟨e, st', hc, hN, k, l'⟩ := h1
        have hm := fun ev h0 h4 => meth_no (ev := ev) h hc h0 h4
        refine ⟨[], st', ?_, hN, k, l'⟩
        simp [-e_MethX, fnX, m_die_worth, hm]
      | ok f r1 o1 =>
        rw [hp] at h1
        obtain ⟨st1, hc, hF, k, l'⟩ := h1
        have hm := fun ev h0 h4 => meth_ok (ev := ev) h hc h0 h4
        simp only [ft_ok]
        by_cases hfl : f ≤ l
        · rw [if_pos hfl]
          have h2 := hT st1 i T r1 o1 s hs hF
          cases hq : pTake s r1 o1 with
          | no r2 o2 =>
            rw [hq] at h2
            obtain ⟨e, st', hc', hN, k', l''⟩ := h2
            have hm' := fun ev h0 h4 => meth_no (ev := ev) hF hc' h0 h4
            refine ⟨[], st', ?_, hN, k.trans l' k', by omega⟩
            simp [-e_MethX, fnX, m_die_worth, hm, hm', hfl]
          | ok f2 r2 o2 =>
            rw [hq] at h2
            obtain ⟨st', hc', hF', k', l''⟩ := h2
            have hm' := fun ev h0 h4 => meth_ok (ev := ev) hF hc' h0 h4
            refine ⟨st', ?_, hF', k.trans l' k', by omega⟩
            simp [-e_MethX, fnX, m_die_worth, hm, hm', hfl]
        · rw [if_neg hfl]
          refine ⟨st1, ?_, hF, k, l'⟩
          simp [-e_MethX, fnX, m_die_worth, hm, hfl]
    | count =>
      simp only [pDieL, fbind, leafD, WL.s]
      cases hp : pTake s r o with
      | no r1 o1 =>
        rw [hp] at h1
        obtain ⟨e, st', hc, hN, k, l'⟩ := h1
        have hm := fun ev h0 h4 => meth_no (ev := ev) h hc h0 h4
        refine ⟨[], st', ?_, hN, k, l'⟩
        simp [-e_MethX, fnX, m_die_worth, hm]
      | ok f r1 o1 =>
        rw [hp] at h1
        obtain ⟨st1, hc, hF, k, l'⟩ := h1
        have hm := fun ev h0 h4 => meth_ok (ev := ev) h hc h0 h4
        refine ⟨st1, ?_, hF, k, l'⟩
        simp [-e_MethX, fnX, m_die_worth, hm]
    | burst =>
      simp only [pDieL, fbind, leafD, WL.s]
      cases hp : pTake s r o with
      | no r1 o1 =>
        rw [hp] at h1
        obtain ⟨e, st', hc, hN, k, l'⟩ := h1
        have hm := fun ev h0 h4 => meth_no (ev := ev) h hc h0 h4
        refine ⟨[], st', ?_, hN, k, l'⟩
        simp [-e_MethX, fnX, m_die_worth, hm]
      | ok f r1 o1 =>
        rw [hp] at h1
        obtain ⟨st1, hc, hF, k, l'⟩ := h1
        have hm := fun ev h0 h4 => meth_ok (ev := ev) h hc h0 h4
        have hlim : l.toNat ≤ lim := by have : lim = 1000000 := rfl; omega
        have hg : (-1000000000 : Int) ≤ l := by omega
        have hlim' : l ≤ (lim : Nat) := by omega
        have hM := more_ok (d1 := .tup [.str "burst", .int m, .int s, .int l]) (d2 := .str "burst") (d3 := .int m) hT hs l.toNat 0 f f st1 r1 o1 none hF
        simp only [ft_ok]
        cases hq : pMore s l.toNat f f r1 o1 with
        | no r2 o2 =>
          rw [hq] at hM
          obtain ⟨e, st', hc', hN, k', l''⟩ := hM
          refine ⟨[], st', ?_, hN, k.trans l' k', by omega⟩
          simp [-e_MethX, fnX, m_die_worth, hm, hlim', hg, hc']
        | ok t r2 o2 =>
          rw [hq] at hM
          obtain ⟨st', ev', hc', h6, hF', k', l''⟩ := hM
          refine ⟨st', ?_, hF', k.trans l' k', by omega⟩
          simp [-e_MethX, fnX, m_die_worth, hm, hlim', hg, hc', h6]
end Ml

/-! what a saying is worth, by the program -/
namespace Ml
open PySem L2
theorem e_lcXN (g : Gt) (t : Mo Bool) (m : Mo D) (ev : Ev) (st : Sto) : lcLoopX g t m [] ev st = .ok [] st := rfl
theorem e_lcXC (g : Gt) (t : Mo Bool) (m : Mo D) (d : D) (ds : List D) (ev : Ev) (st : Sto) : lcLoopX g t m (d :: ds) ev st = match g d ev with
    | none => .bad
    | some ev1 => match t ev1 st with
      | .ok true st1 => (match m ev1 st1 with
        | .ok y st2 => (match lcLoopX g t m ds ev st2 with
          | .ok ys st3 => .ok (y :: ys) st3
          | .exc c e s => .exc c e s
          | .bad => .bad)
        | .exc c e s => .exc c e s
        | .bad => .bad)
      | .ok false st1 => lcLoopX g t m ds ev st1
      | _ => .bad := rfl
theorem e_LcX (vs : List Nat) (mi : Mo (List D)) (g : Gt) (t : Mo Bool) (m : Mo D) (ev : Ev) (st : Sto) : mLcX vs mi g t m ev st = (mi ev st).bind fun it st1 => match lcLoopX g t m it (wipeD ev vs) st1 with
  | .ok ys s => .ok ys s
  | .exc c _ s => .exc c ev s
  | .bad => .bad := rfl
theorem e_SlL (xa : Mo Lo) (ml mh : MoO) (ev : Ev) (st : Sto) : mSlL xa ml mh ev st = (xa ev st).bind fun v st1 => (ml ev st1).bind fun lo st2 => (mh ev st2).bind fun hi st3 => match loAt st3 v with
  | some ds => .ok (cutD ds lo hi) st3
  | none => .bad := rfl
theorem FAt.app {st : Sto} {i : Nat} {T r : List Int} {o : Int} (h : FAt st i T r o) (g : Sto) : FAt (st ++ g) i T r o := by
  obtain ⟨A, e, h⟩ := h
  exact ⟨A, e, get_app h g⟩
theorem many_lc {c : Fm} {i : Nat} {T : List Int} {p : Fp Int} {lf x2 : D} (hc : ∀ st r o, FAt st i T r o → RdF st i T (p r o) (c [.ref i, lf] st)) : ∀ (n : Nat) (a : Int) (st : Sto) (r : List Int) (o : Int), FAt st i T r o →
    match pMany p n r o with
    | .ok xs r' o' => ∃ st', lcLoopX (gtName 5) mYes (mCallX c (mCons (mVar 0) (mCons (mVar 1) mNil))) (rngD a n) [some (.ref i), some lf, some x2, none, none, none] st = .ok (xs.map D.int) st' ∧ FAt st' i T r' o' ∧ Kp st st' [i] ∧ st.length ≤ st'.length ∧ xs.length = n
    | .no r' o' => ∃ e st', lcLoopX (gtName 5) mYes (mCallX c (mCons (mVar 0) (mCons (mVar 1) mNil))) (rngD a n) [some (.ref i), some lf, some x2, none, none, none] st = .exc "NoFaces" e st' ∧ FAt st' i T r' o' ∧ Kp st st' [i] ∧ st.length ≤ st'.length
  | 0, a, st, r, o, h => ⟨st, rfl, h, Kp.refl _ _, Nat.le_refl _, rfl⟩
  | n + 1, a, st, r, o, h => by
    rw [rngD_cons, pMany]
    unfold fbind
    have h1 := hc st r o h
    cases hp : p r o with
    | no r1 o1 =>
      rw [hp] at h1
      obtain ⟨e, st', h1, hN, k, l⟩ := h1
      refine ⟨[some (.ref i), some lf, some x2, none, none, some (.int a)], st', ?_, hN, k, l⟩
      have h2 := fun ev => cCall_exc (ev := ev) h1
      rw [e_lcXC]
      simp [h2]
    | ok x r1 o1 =>
      rw [hp] at h1
      obtain ⟨st1, h1, hF, k, l⟩ := h1
      have h2 := fun ev => cCall_ok (ev := ev) h1
      have ih := many_lc (x2 := x2) hc n (a + 1) st1 r1 o1 hF
      simp only [ft_ok]
      cases hq : pMany p n r1 o1 with
      | no r2 o2 =>
        rw [hq] at ih
        obtain ⟨e, st', h3, hN, k', l'⟩ := ih
        refine ⟨e, st', ?_, hN, k.trans l k', by omega⟩
        rw [e_lcXC]
        simp [h2, h3]
      | ok xs r2 o2 =>
        rw [hq] at ih
        obtain ⟨st', h3, hF', k', l', hn⟩ := ih
        refine ⟨st', ?_, hF', k.trans l k', by omega, by simp [hn]⟩
        rw [e_lcXC]
        simp [h2, h3]
section
variable {c_die c_two c_w : Fm} {i : Nat} {T : List Int} {st : Sto} {r : List Int} {o : Int}
theorem leaf_ok {w : Option WL} {m s l : Int} (hdie : ∀ st r o, FAt st i T r o → RdF st i T (pDieL w s l r o) (c_die [.ref i, leafD w m s l] st)) (hm : 0 ≤ m) (hm2 : m ≤ 10) (hl : 0 ≤ l) (hhi : w = some .high → l ≤ m) (h : FAt st i T r o) :
    RdF st i T (pLeaf w m s l r o) (fnX 2 6 (m_worth_of c_die c_two c_w) [.ref i, leafD w m s l] st) := by
  have hlim : m ≤ (lim : Nat) := by have : lim = 1000000 := rfl; omega
  have hg : (-1000000000 : Int) ≤ m := by omega
  have h1 := fun x2 => many_lc (x2 := x2) hdie m.toNat 0 st r o h
  unfold pLeaf fbind
  cases hp : pMany (pDieL w s l) m.toNat r o with
  | no r1 o1 =>
    rw [hp] at h1
    have h2 := h1 (.str (Str.ofString (match w with | none => "dice" | some w => w.s)))
    obtain ⟨e, st', h2, hN, k, l'⟩ := h2
    refine ⟨[], st', ?_, hN, k, l'⟩
    cases w with
    | none => simp only [leafD] at h2 ⊢; simp [fnX, m_worth_of, e_LcX, d_DICE, hlim, hg, h2]
    | some w => cases w <;> (simp only [leafD, WL.s] at h2 ⊢; simp [fnX, m_worth_of, e_LcX, d_DICE, hlim, hg, h2])
  | ok xs r1 o1 =>
    rw [hp] at h1
    have h2 := h1 (.str (Str.ofString (match w with | none => "dice" | some w => w.s)))
    obtain ⟨st1, h2, hF, k, l', hn⟩ := h2
    simp only [ft_ok]
    have fin : ∀ g : Sto, ∀ a : Int, fnX 2 6 (m_worth_of c_die c_two c_w) [.ref i, leafD w m s l] st = .ok (.int a) (st1 ++ g) → RdF st i T (fpure a r1 o1) (fnX 2 6 (m_worth_of c_die c_two c_w) [.ref i, leafD w m s l] st) := fun g a e =>
      ⟨st1 ++ g, e, hF.app g, k.trans l' (Kp.app _ _ _), by simp; omega⟩
    cases w with
    | none =>
      refine fin [.lst ((sortI xs).map D.int)] _ ?_
      simp only [leafD] at h2 ⊢
      simp [fnX, m_worth_of, e_LcX, e_Lst, d_DICE, hlim, hg, h2, keptOf]
    | some w =>
      cases w with
      | high =>
        have e1 : m - l = (((m - l).toNat : Nat) : Int) := by have := hhi rfl; omega
        refine fin [.lst ((sortI xs).map D.int), .lst (((sortI xs).drop (m - l).toNat).map D.int)] _ ?_
        simp only [leafD, WL.s] at h2 ⊢
        have e2 : cutD ((sortI xs).map D.int) (some (m - l)) none = ((sortI xs).drop (m - l).toNat).map D.int := by
          rw [e1, cut_from, Int.toNat_natCast, List.map_drop]
        simp [-List.map_drop, fnX, m_worth_of, e_LcX, e_Lst, e_SlL, d_DICE, hlim, hg, h2, keptOf, e2]
      | low =>
        have e1 : l = ((l.toNat : Nat) : Int) := by omega
        refine fin [.lst ((sortI xs).map D.int), .lst (((sortI xs).take l.toNat).map D.int)] _ ?_
        simp only [leafD, WL.s] at h2 ⊢
        have e2 : cutD ((sortI xs).map D.int) none (some l) = ((sortI xs).take l.toNat).map D.int := by
          rw [e1, cut_to, Int.toNat_natCast, List.map_take]
        simp [-List.map_take, fnX, m_worth_of, e_LcX, e_Lst, e_SlL, d_DICE, hlim, hg, h2, keptOf, e2]
      | again =>
        refine fin [.lst ((sortI xs).map D.int)] _ ?_
        simp only [leafD, WL.s] at h2 ⊢
        simp [fnX, m_worth_of, e_LcX, e_Lst, d_DICE, hlim, hg, h2, keptOf]
      | burst =>
        refine fin [.lst ((sortI xs).map D.int)] _ ?_
        simp only [leafD, WL.s] at h2 ⊢
        simp [fnX, m_worth_of, e_LcX, e_Lst, d_DICE, hlim, hg, h2, keptOf]
      | count =>
        refine fin [.lst ((sortI xs).map D.int)] _ ?_
        simp only [leafD, WL.s] at h2 ⊢
        simp [fnX, m_worth_of, e_LcX, e_Lst, d_DICE, hlim, hg, h2, keptOf]
theorem worth_step {s : Say} (hw : Wf s) (hdie : ∀ w m s l st r o, small64 s = true → 0 ≤ l → l ≤ 10 → FAt st i T r o → RdF st i T (pDieL w s l r o) (c_die [.ref i, leafD w m s l] st))
    (htwo : ∀ (w : W2) (a b : Int) st, c_two [.str (Str.ofString w.s), .int a, .int b] st = .ok (.int (of2w w a b)) st)
    (ih : ∀ a, dep a < dep s → Wf a → ∀ st r o, FAt st i T r o → RdF st i T (pW a r o) (c_w [.ref i, enc a] st)) (h : FAt st i T r o) :
    RdF st i T (pW s r o) (fnX 2 6 (m_worth_of c_die c_two c_w) [.ref i, enc s] st) := by
  cases s with
  | num n =>
    refine ⟨st, ?_, h, Kp.refl _ _, Nat.le_refl _⟩
    simp [fnX, m_worth_of]
  | die m s =>
    obtain ⟨h1, h2, h3, h4⟩ := hw
    exact leaf_ok (w := none) (l := 0) (fun st r o hF => hdie none m s 0 st r o (small_of (by omega) (by omega)) (by omega) (by omega) hF) (by omega) (by omega) (by omega) (fun z => by cases z) h
  | dl w m s l =>
    obtain ⟨h1, h2, h3, h4, h5⟩ := hw
    have hl : 0 ≤ l ∧ l ≤ 10 ∧ (w = .high → l ≤ m) := by
      cases w <;> simp only [lastOk] at h5 <;> refine ⟨by omega, by omega, fun z => ?_⟩ <;> first | (exact h5.2) | (cases z)
    exact leaf_ok (w := some w) (fun st r o hF => hdie (some w) m s l st r o (small_of (by omega) (by omega)) hl.1 hl.2.1 hF) (by omega) (by omega) hl.1 (fun z => hl.2.2 (by injection z)) h
  | times n a =>
    have h1 := ih a (by simp only [dep]; omega) hw.2.2 st r o h
    have hsn : small64 n = true := small_of (by have := hw.1; omega) (by have := hw.2.1; omega)
    simp only [pW, fbind]
    cases hp : pW a r o with
    | no r1 o1 =>
      rw [hp] at h1
      obtain ⟨e, st', h1, hN, k, l⟩ := h1
      have h2 := fun ev => cCall_exc (ev := ev) h1
      refine ⟨[], st', ?_, hN, k, l⟩
      simp [fnX, m_worth_of, enc, d_DICE, h2]
    | ok x r1 o1 =>
      rw [hp] at h1
      obtain ⟨st', h1, hF, k, l⟩ := h1
      have h2 := fun ev => cCall_ok (ev := ev) h1
      refine ⟨st', ?_, hF, k, l⟩
      simp [fnX, m_worth_of, enc, d_DICE, h2, hsn]
  | two w a b =>
    have h1 := ih a (by simp only [dep]; omega) hw.1 st r o h
    simp only [pW, fbind]
    cases hp : pW a r o with
    | no r1 o1 =>
      rw [hp] at h1
      obtain ⟨e, st', h1, hN, k, l⟩ := h1
      have h2 := fun ev => cCall_exc (ev := ev) h1
      refine ⟨[], st', ?_, hN, k, l⟩
      cases w <;> simp [fnX, m_worth_of, enc, d_DICE, W2.s, h2]
    | ok x r1 o1 =>
      rw [hp] at h1
      obtain ⟨st1, h1, hF, k, l⟩ := h1
      have h2 := fun ev => cCall_ok (ev := ev) h1
      have h3 := ih b (by simp only [dep]; omega) hw.2 st1 r1 o1 hF
      simp only [ft_ok, fbind]
      cases hq : pW b r1 o1 with
      | no r2 o2 =>
        rw [hq] at h3
        obtain ⟨e, st', h3, hN, k', l'⟩ := h3
        have h4 := fun ev => cCall_exc (ev := ev) h3
        refine ⟨[], st', ?_, hN, k.trans l k', by omega⟩
        cases w <;> simp [fnX, m_worth_of, enc, d_DICE, W2.s, h2, h4]
      | ok y r2 o2 =>
        rw [hq] at h3
        obtain ⟨st', h3, hF', k', l'⟩ := h3
        have h4 := fun ev => cCall_ok (ev := ev) h3
        refine ⟨st', ?_, hF', k.trans l k', by omega⟩
        have h5 := htwo w x y st'
        cases w <;> simp only [W2.s] at h5 <;> simp [fnX, m_worth_of, enc, d_DICE, W2.s, h2, h4, h5]
end
theorem twoW_ok (w : W2) (a b : Int) (st : Sto) : fnM 3 3 m_of_two [.str (Str.ofString w.s), .int a, .int b] st = .ok (.int (of2w w a b)) st := by
  cases w <;> simp [fnM, m_of_two, W2.s, of2w] <;> split <;> omega
end Ml

/-! a row read, its fall, its chance -/
namespace Ml
open PySem L2
/-- what an accepted row is worth, and of how many rows it is one -/
def acc (s : Say) (T : List Int) : Option (Int × Int) := match pW s T 1 with
  | .ok a [] o => some (a, o)
  | _ => none
def rowT (T : List Int) : D := .tup (T.map D.int)
def PosF {α : Type} (p : Fp α) : Prop := ∀ r o a r' o', p r o = .ok a r' o' → 0 < o → 0 < o'
theorem pos_pure {α : Type} (a : α) : PosF (fpure a) := fun r o a' r' o' h => by cases h; exact id
theorem pos_bind {α β : Type} {p : Fp α} {q : α → Fp β} (hp : PosF p) (hq : ∀ a, PosF (q a)) : PosF (fbind p q) := fun r o b r' o' h ho => by
  unfold fbind at h
  cases h1 : p r o with
  | no r1 o1 => rw [h1] at h; cases h
  | ok a r1 o1 =>
    rw [h1] at h
    exact hq a r1 o1 b r' o' h (hp r o a r1 o1 h1 ho)
theorem pos_take {s : Int} (hs : 0 < s) : PosF (pTake s) := fun r o a r' o' h ho => by
  cases r with
  | nil => cases h
  | cons f r =>
    simp only [pTake] at h
    split at h
    · cases h; exact Int.mul_pos ho hs
    · cases h
theorem pos_more {s : Int} (hs : 0 < s) : ∀ (n : Nat) (face total : Int), PosF (pMore s n face total)
  | 0, _, total => pos_pure total
  | n + 1, face, total => by
    unfold pMore
    split
    · exact pos_bind (pos_take hs) fun f => pos_more hs n f _
    · exact pos_more hs n face total
theorem pos_die {s : Int} (hs : 0 < s) (w : Option WL) (l : Int) : PosF (pDieL w s l) := by
  cases w with
  | none => exact pos_take hs
  | some w =>
    cases w with
    | high => exact pos_take hs
    | low => exact pos_take hs
    | again =>
      refine pos_bind (pos_take hs) fun f => ?_
      split
      · exact pos_take hs
      · exact pos_pure f
    | count => exact pos_bind (pos_take hs) fun f => pos_pure _
    | burst => exact pos_bind (pos_take hs) fun f => pos_more hs _ _ _
theorem pos_many {α : Type} {p : Fp α} (hp : PosF p) : ∀ n, PosF (pMany p n)
  | 0 => pos_pure []
  | n + 1 => pos_bind hp fun x => pos_bind (pos_many hp n) fun xs => pos_pure _
theorem pos_W : ∀ s, Wf s → PosF (pW s)
  | .num n, _ => pos_pure n
  | .die m s, h => pos_bind (pos_many (pos_die (by have := h.2.2.1; omega) none 0) _) fun xs => pos_pure _
  | .dl w m s l, h => pos_bind (pos_many (pos_die (by have := h.2.2.1; omega) (some w) l) _) fun xs => pos_pure _
  | .times n a, h => pos_bind (pos_W a h.2.2) fun x => pos_pure _
  | .two w a b, h => pos_bind (pos_W a h.1) fun x => pos_bind (pos_W b h.2) fun y => pos_pure _
theorem acc_pos {s : Say} {T : List Int} {a o : Int} (hw : Wf s) (h : acc s T = some (a, o)) : 0 < o := by
  unfold acc at h
  split at h
  · rename_i a' o' e
    cases h
    exact pos_W s hw _ _ _ _ _ e (by decide)
  · cases h
/-! the program's -/
theorem finit_ok {st : Sto} {T : List Int} : fnM 2 2 m_Faces_init [.ref st.length, rowT T] (st ++ [.ins "Faces" []]) = .ok .non (st ++ [Ob.ins "Faces" (ffs T 0 1)]) := by
  have e : ∀ o : Ob, List.set (st ++ [o]) st.length = fun x => st ++ [x] := fun o => by
    funext x
    rw [List.set_append_right _ _ (Nat.le_refl _), Nat.sub_self]
    rfl
  simp [fnM, m_Faces_init, e, putFD, ffs, rowT]
section
variable {lv : Nat} {c_w : Fm} {s : Say} {T : List Int} {st : Sto}
theorem read_no (hlv : 2 ≤ lv) (hw : ∀ st i, FAt st i T T 1 → RdF st i T (pW s T 1) (c_w [.ref i, enc s] st)) (h : acc s T = none) : ∃ g, fnX 2 4 (m_read_faces lv c_w) [enc s, rowT T] st = .exc "NoFaces" [] (st ++ g) := by
  have hF : FAt (st ++ [Ob.ins "Faces" (ffs T 0 1)]) st.length T T 1 := ⟨[], rfl, by simp⟩
  have h1 := hw _ _ hF
  have hi := finit_ok (st := st) (T := T)
  have hk : Kp st (st ++ [Ob.ins "Faces" (ffs T 0 1)]) [] := Kp.app _ _ _
  have kp : ∀ st' : Sto, Kp (st ++ [Ob.ins "Faces" (ffs T 0 1)]) st' [st.length] → (st ++ [Ob.ins "Faces" (ffs T 0 1)]).length ≤ st'.length → ∃ g, st' = st ++ g := fun st' k l => by
    refine Kp.pre (fun j hj _ => ?_) (by simp at l; omega)
    have hj' : j ≠ st.length := by omega
    rw [k j (by simp; omega) (by simpa using hj'), List.getElem?_append_left hj]
  unfold acc at h
  cases hp : pW s T 1 with
  | no r o =>
    rw [hp] at h1
    obtain ⟨e, st', h1, _, k, l⟩ := h1
    obtain ⟨g, rfl⟩ := kp st' k l
    have h2 := fun ev => cCall_exc (ev := ev) h1
    refine ⟨g, ?_⟩
    simp [fnX, m_read_faces, hlv, hi, h2]
  | ok a r o =>
    rw [hp] at h1 h
    obtain ⟨st', h1, ⟨A, eT, hA⟩, k, l⟩ := h1
    obtain ⟨g, rfl⟩ := kp st' k l
    have h2 := fun ev => cCall_ok (ev := ev) h1
    have h3 := ins_of hA
    refine ⟨g, ?_⟩
    have hr : r ≠ [] := fun q => by subst q; cases h
    have hlt : (A.length : Int) < (T.length : Nat) := by
      have : 0 < r.length := List.length_pos_iff.mpr hr
      rw [eT, List.length_append]; omega
    simp only [rowT] at hi ⊢
    simp [-e_insR, fnX, m_read_faces, hlv, hi, h2, h3, hlt]
theorem read_yes {a o : Int} (hlv : 2 ≤ lv) (hw : ∀ st i, FAt st i T T 1 → RdF st i T (pW s T 1) (c_w [.ref i, enc s] st)) (h : acc s T = some (a, o)) :
    ∃ g, fnX 2 4 (m_read_faces lv c_w) [enc s, rowT T] st = .ok (.tup [.ref st.length, .int a]) (st ++ g) ∧ insAt (st ++ g) "Faces" (.ref st.length) = some (st.length, ffs T T.length o) := by
  have hF : FAt (st ++ [Ob.ins "Faces" (ffs T 0 1)]) st.length T T 1 := ⟨[], rfl, by simp⟩
  have h1 := hw _ _ hF
  have hi := finit_ok (st := st) (T := T)
  have kp : ∀ st' : Sto, Kp (st ++ [Ob.ins "Faces" (ffs T 0 1)]) st' [st.length] → (st ++ [Ob.ins "Faces" (ffs T 0 1)]).length ≤ st'.length → ∃ g, st' = st ++ g := fun st' k l => by
    refine Kp.pre (fun j hj _ => ?_) (by simp at l; omega)
    have hj' : j ≠ st.length := by omega
    rw [k j (by simp; omega) (by simpa using hj'), List.getElem?_append_left hj]
  unfold acc at h
  cases hp : pW s T 1 with
  | no r o => rw [hp] at h; cases h
  | ok a' r o' =>
    rw [hp] at h1 h
    cases r with
    | cons x r => cases h
    | nil =>
      cases h
      obtain ⟨st', h1, ⟨A, eT, hA⟩, k, l⟩ := h1
      obtain ⟨g, rfl⟩ := kp st' k l
      rw [List.append_nil] at eT
      subst eT
      have h2 := fun ev => cCall_ok (ev := ev) h1
      have h3 := ins_of hA
      refine ⟨g, ?_, h3⟩
      simp only [rowT] at hi ⊢
      simp [-e_insR, fnX, m_read_faces, hlv, hi, h2, h3]
end
section
variable {c_read c_frac c_fall c_chance c_word : Fm} {s : Say} {T : List Int} {st : Sto} {a o : Int}
theorem fall_yes {g : Sto} (h : c_read [enc s, rowT T] st = .ok (.tup [.ref st.length, .int a]) (st ++ g)) : fnX 2 2 (m_fall c_read) [enc s, rowT T] st = .ok (.int a) (st ++ g) := by
  have h2 := fun ev => cCall_ok (ev := ev) h
  simp [fnX, m_fall, h2]
theorem fall_no {g : Sto} (h : c_read [enc s, rowT T] st = .exc "NoFaces" [] (st ++ g)) : fnX 2 2 (m_fall c_read) [enc s, rowT T] st = .exc "NoFaces" [] (st ++ g) := by
  have h2 := fun ev => cCall_exc (ev := ev) h
  simp [fnX, m_fall, h2]
theorem wh_y {t : Mo Bool} {B : Ms} {n : Nat} {ev ev2 : Ev} {st st1 st2 : Sto} (h1 : t ev st = .ok true st1) (h2 : B ev st1 = .ok (.nx, ev2) st2) : whl t B (n + 1) ev st = whl t B n ev2 st2 := by simp only [whl, h1, h2]
theorem wh_n {t : Mo Bool} {B : Ms} {n : Nat} {ev : Ev} {st st1 : Sto} (h1 : t ev st = .ok false st1) : whl t B (n + 1) ev st = .ok (.nx, ev) st1 := by simp only [whl, h1]
theorem divisor1 (ho : 0 < o) : fnM 2 2 m_divisor [.int 1, .int o] st = .ok (.int 1) st := by
  have hb : ∀ x y : Int, 0 < y → m_divisor_b1 [some (.int x), some (.int y)] st = .ok (.nx, [some (.int y), some (.int (x % y))]) st := fun x y h => by simp [m_divisor_b1, h]
  have ht : ∀ x y : Int, mTest (mOp gNe (mVar 1) (mC (.int 0))) [some (.int x), some (.int y)] st = .ok (!(y == 0)) st := fun x y => by simp
  have hw : whl (mTest (mOp gNe (mVar 1) (mC (.int 0)))) m_divisor_b1 1000 [some (.int 1), some (.int o)] st = .ok (.nx, [some (.int 1), some (.int 0)]) st := by
    rw [wh_y (n := 999) (st1 := st) (by rw [ht]; simp; omega) (hb 1 o ho)]
    by_cases h1 : o = 1
    · subst h1
      exact wh_n (n := 998) (by rw [ht]; rfl)
    · have e : (1 : Int) % o = 1 := Int.emod_eq_of_lt (by decide) (by omega)
      rw [e, wh_y (n := 998) (st1 := st) (by rw [ht]; rfl) (hb o 1 (by decide)), Int.emod_one]
      exact wh_n (n := 997) (by rw [ht]; rfl)
  have hw' : mWhile 1000 (mTest (mOp gNe (mVar 1) (mC (.int 0)))) m_divisor_b1 [some (.int 1), some (.int o)] st = .ok (.nx, [some (.int 1), some (.int 0)]) st := hw
  simp only [fnM, m_divisor, e_Seq]
  simp only [List.length_cons, List.length_nil, if_true, List.map_cons, List.map_nil, Nat.sub_self, List.replicate_zero, List.append_nil, hw']
  simp
theorem frac1 {c : Fm} (h : c [.int 1, .int o] st = .ok (.int 1) st) : fnM 2 3 (m_fraction c) [.int 1, .int o] st = .ok (.tup [.int 1, .int o]) st := by
  simp [fnM, m_fraction, h]
end
end Ml

/-! rows of faces, plainly: how long, which faces, of how many -/
namespace Ml
def LenF {α : Type} (p : Fp α) (k : Nat) : Prop := (∀ r o a B o', p r o = .ok a B o' → r.length ≤ B.length + k) ∧ ∀ r o B o', p r o = .no B o' → r.length + 1 ≤ B.length + k
theorem LenF.up {α : Type} {p : Fp α} {k m : Nat} (h : LenF p k) (hm : k ≤ m) : LenF p m := ⟨fun r o a B o' e => by have := h.1 r o a B o' e; omega, fun r o B o' e => by have := h.2 r o B o' e; omega⟩
theorem len_pure {α : Type} (a : α) : LenF (fpure a) 0 := ⟨fun r o a B o' h => by cases h; exact Nat.le_refl _, fun r o B o' h => by cases h⟩
theorem len_bind {α β : Type} {p : Fp α} {q : α → Fp β} {k m : Nat} (hp : LenF p k) (hq : ∀ a, LenF (q a) m) : LenF (fbind p q) (k + m) := by
  refine ⟨fun r o b B o' h => ?_, fun r o B o' h => ?_⟩
  · unfold fbind at h
    cases h1 : p r o with
    | no r1 o1 => rw [h1] at h; cases h
    | ok a r1 o1 =>
      rw [h1] at h
      have := hp.1 r o a r1 o1 h1
      have := (hq a).1 r1 o1 b B o' h
      omega
  · unfold fbind at h
    cases h1 : p r o with
    | no r1 o1 =>
      rw [h1] at h
      cases h
      have := hp.2 r o B o' h1
      omega
    | ok a r1 o1 =>
      rw [h1] at h
      have := hp.1 r o a r1 o1 h1
      have := (hq a).2 r1 o1 B o' h
      omega
theorem len_take (s : Int) : LenF (pTake s) 1 := by
  refine ⟨fun r o a B o' h => ?_, fun r o B o' h => ?_⟩
  · cases r with
    | nil => cases h
    | cons f r =>
      simp only [pTake] at h
      split at h
      · cases h; simp
      · cases h
  · cases r with
    | nil => cases h; simp
    | cons f r =>
      simp only [pTake] at h
      split at h
      · cases h
      · cases h; simp
theorem len_more (s : Int) : ∀ (n : Nat) (face total : Int), LenF (pMore s n face total) n
  | 0, _, total => len_pure total
  | n + 1, face, total => by
    unfold pMore
    split
    · exact (len_bind (len_take s) fun f => len_more s n f _).up (by omega)
    · exact (len_more s n face total).up (by omega)
theorem len_die (w : Option WL) (s l : Int) (hb : w = some .burst → l ≤ 2) : LenF (pDieL w s l) 3 := by
  cases w with
  | none => exact (len_take s).up (by decide)
  | some w =>
    cases w with
    | high => exact (len_take s).up (by decide)
    | low => exact (len_take s).up (by decide)
    | again =>
      refine (len_bind (m := 1) (len_take s) fun f => ?_).up (by decide)
      split
      · exact len_take s
      · exact (len_pure f).up (by decide)
    | count => exact (len_bind (len_take s) fun f => len_pure _).up (by decide)
    | burst => exact (len_bind (len_take s) fun f => len_more s _ _ _).up (by have := hb rfl; omega)
theorem len_many {α : Type} {p : Fp α} {k : Nat} (hp : LenF p k) : ∀ n, LenF (pMany p n) (k * n)
  | 0 => len_pure []
  | n + 1 => (len_bind hp fun x => len_bind (len_many hp n) fun xs => len_pure _).up (by rw [Nat.mul_succ]; omega)
theorem len_W : ∀ s, Wf s → LenF (pW s) (3 * (dice s).toNat)
  | .num n, _ => (len_pure n).up (by omega)
  | .die m s, h => len_bind (m := 0) (len_many (len_die none s 0 (fun z => by cases z)) _) fun xs => len_pure _
  | .dl w m s l, h => len_bind (m := 0) (len_many (len_die (some w) s l (fun z => by injection z with z; subst z; exact h.2.2.2.2.2)) _) fun xs => len_pure _
  | .times n a, h => len_bind (m := 0) (len_W a h.2.2) fun x => len_pure _
  | .two w a b, h => (len_bind (len_W a h.1) fun x => len_bind (m := 0) (len_W b h.2) fun y => len_pure _).up (by
      have := dice_pos a h.1
      have := dice_pos b h.2
      simp only [dice]
      omega)
/-! of how many rows: by the row alone -/
def MulF {α : Type} (p : Fp α) : Prop := ∀ r o a B o', p r o = .ok a B o' → ∃ mo : Int, o' = o * mo ∧ ∀ o2, p r o2 = .ok a B (o2 * mo)
theorem mul_pure {α : Type} (a : α) : MulF (fpure a) := fun r o a' B o' h => by
  cases h
  exact ⟨1, by simp, fun o2 => by simp [fpure]⟩
theorem mul_bind {α β : Type} {p : Fp α} {q : α → Fp β} (hp : MulF p) (hq : ∀ a, MulF (q a)) : MulF (fbind p q) := fun r o b B o' h => by
  unfold fbind at h
  cases h1 : p r o with
  | no r1 o1 => rw [h1] at h; cases h
  | ok a r1 o1 =>
    rw [h1] at h
    obtain ⟨m1, rfl, h2⟩ := hp r o a r1 o1 h1
    obtain ⟨m2, rfl, h3⟩ := hq a r1 _ b B o' h
    refine ⟨m1 * m2, Int.mul_assoc _ _ _, fun o2 => ?_⟩
    unfold fbind
    rw [h2]
    show q a r1 (o2 * m1) = _
    rw [h3, Int.mul_assoc]
theorem mul_take (s : Int) : MulF (pTake s) := fun r o a B o' h => by
  cases r with
  | nil => cases h
  | cons f r =>
    simp only [pTake] at h
    split at h
    · rename_i hf
      cases h
      exact ⟨s, rfl, fun o2 => by simp [pTake, hf]⟩
    · cases h
theorem mul_more (s : Int) : ∀ (n : Nat) (face total : Int), MulF (pMore s n face total)
  | 0, _, total => mul_pure total
  | n + 1, face, total => by
    unfold pMore
    split
    · exact mul_bind (mul_take s) fun f => mul_more s n f _
    · exact mul_more s n face total
theorem mul_die (w : Option WL) (s l : Int) : MulF (pDieL w s l) := by
  cases w with
  | none => exact mul_take s
  | some w =>
    cases w with
    | high => exact mul_take s
    | low => exact mul_take s
    | again =>
      refine mul_bind (mul_take s) fun f => ?_
      split
      · exact mul_take s
      · exact mul_pure f
    | count => exact mul_bind (mul_take s) fun f => mul_pure _
    | burst => exact mul_bind (mul_take s) fun f => mul_more s _ _ _
theorem mul_many {α : Type} {p : Fp α} (hp : MulF p) : ∀ n, MulF (pMany p n)
  | 0 => mul_pure []
  | n + 1 => mul_bind hp fun x => mul_bind (mul_many hp n) fun xs => mul_pure _
theorem mul_W : ∀ s, MulF (pW s)
  | .num n => mul_pure n
  | .die m s => mul_bind (mul_many (mul_die none s 0) _) fun xs => mul_pure _
  | .dl w m s l => mul_bind (mul_many (mul_die (some w) s l) _) fun xs => mul_pure _
  | .times n a => mul_bind (mul_W a) fun x => mul_pure _
  | .two w a b => mul_bind (mul_W a) fun x => mul_bind (mul_W b) fun y => mul_pure _
/-! which faces -/
def FaceF {α : Type} (p : Fp α) (S : Int) : Prop := ∀ r o a B o', p r o = .ok a B o' → ∃ A, r = A ++ B ∧ ∀ f ∈ A, 1 ≤ f ∧ f ≤ S
theorem FaceF.up {α : Type} {p : Fp α} {S S' : Int} (h : FaceF p S) (hs : S ≤ S') : FaceF p S' := fun r o a B o' e => by
  obtain ⟨A, h1, h2⟩ := h r o a B o' e
  exact ⟨A, h1, fun f hf => ⟨(h2 f hf).1, by have := (h2 f hf).2; omega⟩⟩
theorem face_pure {α : Type} (a : α) (S : Int) : FaceF (fpure a) S := fun r o a' B o' h => by
  cases h
  exact ⟨[], rfl, fun f hf => by cases hf⟩
theorem face_bind {α β : Type} {p : Fp α} {q : α → Fp β} {S : Int} (hp : FaceF p S) (hq : ∀ a, FaceF (q a) S) : FaceF (fbind p q) S := fun r o b B o' h => by
  unfold fbind at h
  cases h1 : p r o with
  | no r1 o1 => rw [h1] at h; cases h
  | ok a r1 o1 =>
    rw [h1] at h
    obtain ⟨A, rfl, h2⟩ := hp r o a r1 o1 h1
    obtain ⟨A', rfl, h3⟩ := hq a r1 o1 b B o' h
    refine ⟨A ++ A', by rw [List.append_assoc], fun f hf => ?_⟩
    rcases List.mem_append.mp hf with hf | hf
    · exact h2 f hf
    · exact h3 f hf
theorem face_take (s : Int) : FaceF (pTake s) s := fun r o a B o' h => by
  cases r with
  | nil => cases h
  | cons f r =>
    simp only [pTake] at h
    split at h
    · rename_i hf
      cases h
      exact ⟨[a], rfl, fun f hf' => by simp at hf'; subst hf'; exact hf⟩
    · cases h
theorem face_more (s : Int) : ∀ (n : Nat) (face total : Int), FaceF (pMore s n face total) s
  | 0, _, total => face_pure total s
  | n + 1, face, total => by
    unfold pMore
    split
    · exact face_bind (face_take s) fun f => face_more s n f _
    · exact face_more s n face total
theorem face_die (w : Option WL) (s l : Int) : FaceF (pDieL w s l) s := by
  cases w with
  | none => exact face_take s
  | some w =>
    cases w with
    | high => exact face_take s
    | low => exact face_take s
    | again =>
      refine face_bind (face_take s) fun f => ?_
      split
      · exact face_take s
      · exact face_pure f s
    | count => exact face_bind (face_take s) fun f => face_pure _ s
    | burst => exact face_bind (face_take s) fun f => face_more s _ _ _
theorem face_many {α : Type} {p : Fp α} {S : Int} (hp : FaceF p S) : ∀ n, FaceF (pMany p n) S
  | 0 => face_pure [] S
  | n + 1 => face_bind hp fun x => face_bind (face_many hp n) fun xs => face_pure _ S
def sidesI : Say → Int
  | .num _ => 0
  | .die _ s => s
  | .dl _ _ s _ => s
  | .times _ a => sidesI a
  | .two _ a b => max (sidesI a) (sidesI b)
theorem face_W : ∀ s, FaceF (pW s) (sidesI s)
  | .num n => face_pure n _
  | .die m s => face_bind (face_many (face_die none s 0) _) fun xs => face_pure _ _
  | .dl w m s l => face_bind (face_many (face_die (some w) s l) _) fun xs => face_pure _ _
  | .times n a => face_bind (face_W a) fun x => face_pure _ _
  | .two w a b => face_bind ((face_W a).up (by simp only [sidesI]; omega)) fun x => face_bind ((face_W b).up (by simp only [sidesI]; omega)) fun y => face_pure _ _
end Ml

/-! rows, one face more each time -/
namespace Ml
def stR (s : Say) (r : List Int) : Int := match pW s r 1 with
  | .ok _ [] _ => 1
  | .no [] _ => 0
  | _ => -1
theorem stR_pre {s : Say} (hw : Wf s) {A B : List Int} (h : stR s (A ++ B) = 1) (hB : B ≠ []) : stR s A = 0 := by
  unfold stR at h
  split at h
  · rename_i a o e
    obtain ⟨A', e1, _, h2⟩ := good_W s hw _ _ _ _ _ e
    rw [List.append_nil] at e1
    obtain ⟨o2, h3⟩ := h2 A B [] e1.symm hB (fun f r z => by cases z)
    rw [List.append_nil] at h3
    unfold stR
    rw [h3]
  · cases h
  · cases h
theorem stR_face {s : Say} {R : List Int} (h : stR s R = 1) : ∀ f ∈ R, 1 ≤ f ∧ f ≤ sidesI s := by
  unfold stR at h
  split at h
  · rename_i a o e
    obtain ⟨A, e1, h2⟩ := face_W s _ _ _ _ _ e
    rw [List.append_nil] at e1
    subst e1
    exact h2
  · cases h
  · cases h
theorem stR_len {s : Say} (hw : Wf s) {R : List Int} (h : stR s R = 1) : R.length ≤ 3 * (dice s).toNat := by
  unfold stR at h
  split at h
  · rename_i a o e
    have := (len_W s hw).1 _ _ _ _ _ e
    simpa using this
  · cases h
  · cases h
theorem stR_len0 {s : Say} (hw : Wf s) {R : List Int} (h : stR s R = 0) : R.length + 1 ≤ 3 * (dice s).toNat := by
  unfold stR at h
  split at h
  · cases h
  · rename_i o e
    have := (len_W s hw).2 _ _ _ _ e
    simpa using this
  · cases h
def faces (S : Nat) : List Int := (List.range S).map fun (i : Nat) => 1 + ((i : Nat) : Int)
theorem mem_faces {S : Nat} {f : Int} : f ∈ faces S ↔ 1 ≤ f ∧ f ≤ S := by
  simp only [faces, List.mem_map, List.mem_range]
  constructor
  · rintro ⟨i, h, rfl⟩; omega
  · rintro ⟨h1, h2⟩; exact ⟨(f - 1).toNat, by omega, by omega⟩
def nextL (s : Say) (L : List (List Int)) : List (List Int) := L.flatMap fun r => if stR s r = 0 then (faces (sidesI s).toNat).map (fun f => r ++ [f]) else []
def fndL (s : Say) (L : List (List Int)) : List (List Int) := L.filter fun r => decide (stR s r = 1)
def lvl (s : Say) : Nat → List (List Int)
  | 0 => [[]]
  | n + 1 => nextL s (lvl s n)
theorem mem_next {s : Say} {L : List (List Int)} {R : List Int} : R ∈ nextL s L ↔ ∃ r ∈ L, stR s r = 0 ∧ ∃ f ∈ faces (sidesI s).toNat, R = r ++ [f] := by
  simp only [nextL, List.mem_flatMap]
  constructor
  · rintro ⟨r, hr, h⟩
    split at h
    · rename_i h0
      obtain ⟨f, hf, rfl⟩ := List.mem_map.mp h
      exact ⟨r, hr, h0, f, hf, rfl⟩
    · cases h
  · rintro ⟨r, hr, h0, f, hf, rfl⟩
    exact ⟨r, hr, by rw [if_pos h0]; exact List.mem_map.mpr ⟨f, hf, rfl⟩⟩
theorem len_lvl {s : Say} : ∀ (n : Nat) (R : List Int), R ∈ lvl s n → R.length = n
  | 0, R, h => by simp only [lvl, List.mem_cons, List.not_mem_nil, or_false] at h; subst h; rfl
  | n + 1, R, h => by
    obtain ⟨r, hr, _, f, _, rfl⟩ := mem_next.mp h
    simp [len_lvl n r hr]
theorem take_lvl {s : Say} (hw : Wf s) {R : List Int} (h : stR s R = 1) : ∀ n, n ≤ R.length → R.take n ∈ lvl s n
  | 0, _ => by simp [lvl]
  | n + 1, hn => by
    have ih := take_lvl hw h n (by omega)
    refine mem_next.mpr ⟨R.take n, ih, ?_, R[n], ?_, ?_⟩
    · exact stR_pre hw (B := R.drop n) (by rw [List.take_append_drop]; exact h) (fun e => by have := congrArg List.length e; simp at this; omega)
    · have := stR_face h R[n] (List.getElem_mem ..)
      exact mem_faces.mpr ⟨this.1, by omega⟩
    · rw [List.take_succ_eq_append_getElem (by omega)]
theorem lvl_mem {s : Say} (hw : Wf s) {R : List Int} (h : stR s R = 1) : R ∈ lvl s R.length := by
  have := take_lvl hw h R.length (Nat.le_refl _)
  rwa [List.take_length] at this
theorem nd_flat {α β : Type} {f : α → List β} : ∀ {L : List α}, L.Nodup → (∀ a ∈ L, (f a).Nodup) → (∀ a ∈ L, ∀ b ∈ L, ∀ x, x ∈ f a → x ∈ f b → a = b) → (L.flatMap f).Nodup
  | [], _, _, _ => by simp
  | a :: L, h1, h2, h3 => by
    rw [List.nodup_cons] at h1
    rw [List.flatMap_cons, List.nodup_append]
    refine ⟨h2 a List.mem_cons_self, nd_flat h1.2 (fun b hb => h2 b (List.mem_cons_of_mem _ hb)) (fun b hb c hc => h3 b (List.mem_cons_of_mem _ hb) c (List.mem_cons_of_mem _ hc)), fun x hx y hy e => ?_⟩
    subst e
    obtain ⟨b, hb, hxb⟩ := List.mem_flatMap.mp hy
    have := h3 a List.mem_cons_self b (List.mem_cons_of_mem _ hb) x hx hxb
    subst this
    exact h1.1 hb
theorem nd_map {α β : Type} {f : α → β} : ∀ {L : List α}, L.Nodup → (∀ a ∈ L, ∀ b ∈ L, f a = f b → a = b) → (L.map f).Nodup := fun {L} h1 h2 => by
  have := nd_flat (f := fun a => [f a]) h1 (fun a _ => by simp) (fun a ha b hb x hxa hxb => h2 a ha b hb (by simp at hxa hxb; rw [← hxa, hxb]))
  rwa [← List.map_eq_flatMap] at this
theorem nd_faces (S : Nat) : (faces S).Nodup := nd_map List.nodup_range fun a _ b _ h => by omega
theorem nd_lvl {s : Say} : ∀ n, (lvl s n).Nodup
  | 0 => by simp [lvl]
  | n + 1 => by
    refine nd_flat (nd_lvl n) (fun r _ => ?_) (fun a ha b hb x hxa hxb => ?_)
    · split
      · exact nd_map (nd_faces _) fun f _ g _ e => by simpa using e
      · simp
    · split at hxa
      · split at hxb
        · obtain ⟨f, _, rfl⟩ := List.mem_map.mp hxa
          obtain ⟨g, _, e⟩ := List.mem_map.mp hxb
          exact (List.append_inj' e rfl).1.symm
        · cases hxb
      · cases hxa
/-- all rows found -/
def allF (s : Say) (N : Nat) : List (List Int) := (List.range (N + 1)).flatMap fun n => fndL s (lvl s n)
theorem mem_allF {s : Say} (hw : Wf s) {N : Nat} (hN : 3 * (dice s).toNat ≤ N) {R : List Int} : R ∈ allF s N ↔ stR s R = 1 := by
  simp only [allF, List.mem_flatMap, List.mem_range, fndL, List.mem_filter, decide_eq_true_eq]
  constructor
  · rintro ⟨n, _, _, h⟩; exact h
  · intro h
    have := stR_len hw h
    exact ⟨R.length, by omega, lvl_mem hw h, h⟩
theorem nd_allF {s : Say} (N : Nat) : (allF s N).Nodup := by
  refine nd_flat List.nodup_range (fun n _ => (nd_lvl n).filter _) fun a _ b _ x hxa hxb => ?_
  have h1 := len_lvl a x (List.mem_filter.mp hxa).1
  have h2 := len_lvl b x (List.mem_filter.mp hxb).1
  omega
theorem lvl_end {s : Say} (hw : Wf s) : lvl s (3 * (dice s).toNat + 1) = [] := by
  cases h : lvl s (3 * (dice s).toNat + 1) with
  | nil => rfl
  | cons R L =>
    have hm : R ∈ lvl s (3 * (dice s).toNat + 1) := by rw [h]; exact List.mem_cons_self
    obtain ⟨r, hr, h0, _⟩ := mem_next.mp hm
    have := len_lvl _ _ hr
    have := stR_len0 hw h0
    omega
theorem nd_perm {α : Type} [DecidableEq α] {xs ys : List α} (h1 : xs.Nodup) (h2 : ys.Nodup) (h : ∀ x, x ∈ xs ↔ x ∈ ys) : xs.Perm ys := by
  rw [List.perm_iff_count]
  intro a
  by_cases ha : a ∈ xs
  · rw [List.Nodup.count h1, List.Nodup.count h2, if_pos ha, if_pos ((h a).mp ha)]
  · rw [List.Nodup.count h1, List.Nodup.count h2, if_neg ha, if_neg (fun z => ha ((h a).mpr z))]
end Ml

/-! all rows that a reading takes, as products -/
namespace Ml
def AccR {α : Type} (p : Fp α) (R : List Int) : Prop := ∃ a o', p R 1 = .ok a [] o'
def EnumF {α : Type} (p : Fp α) (L : List (List Int)) : Prop := L.Nodup ∧ ∀ R, R ∈ L ↔ AccR p R
def prodR (A B : List (List Int)) : List (List Int) := A.flatMap fun r => B.map (r ++ ·)
theorem mem_prod {A B : List (List Int)} {R : List Int} : R ∈ prodR A B ↔ ∃ r ∈ A, ∃ t ∈ B, R = r ++ t := by
  simp only [prodR, List.mem_flatMap, List.mem_map]
  constructor
  · rintro ⟨r, hr, t, ht, rfl⟩; exact ⟨r, hr, t, ht, rfl⟩
  · rintro ⟨r, hr, t, ht, rfl⟩; exact ⟨r, hr, t, ht, rfl⟩
/-- no accepted row begins another -/
theorem acc_code {α : Type} {p : Fp α} (hp : GoodF p) {r D : List Int} (h1 : AccR p r) (h2 : AccR p (r ++ D)) : D = [] := by
  obtain ⟨a, o1, e1⟩ := h1
  obtain ⟨b, o2, e2⟩ := h2
  obtain ⟨A, h, h3, _⟩ := hp _ _ _ _ _ e1
  rw [List.append_nil] at h
  subst h
  rw [h3 D] at e2
  cases e2
  rfl
theorem enum_pure {α : Type} (a : α) : EnumF (fpure a) [[]] := by
  refine ⟨by simp, fun R => ?_⟩
  constructor
  · intro h
    simp only [List.mem_cons, List.not_mem_nil, or_false] at h
    subst h
    exact ⟨a, 1, rfl⟩
  · rintro ⟨b, o, h⟩
    cases h
    simp
theorem enum_bind {α β : Type} {p : Fp α} {q : α → Fp β} {A B : List (List Int)} (hp : GoodF p) (hA : EnumF p A) (hm : ∀ a, MulF (q a)) (hB : ∀ a, EnumF (q a) B) : EnumF (fbind p q) (prodR A B) := by
  refine ⟨?_, fun R => ?_⟩
  · refine nd_flat hA.1 (fun r hr => ?_) fun r hr r' hr' x hx hx' => ?_
    · have hb : B.Nodup := by
        obtain ⟨a, _, _⟩ := (hA.2 r).mp hr
        exact (hB a).1
      exact nd_map hb fun t _ t' _ e => List.append_cancel_left e
    · obtain ⟨t, _, rfl⟩ := List.mem_map.mp hx
      obtain ⟨t', _, e⟩ := List.mem_map.mp hx'
      have a1 := (hA.2 r).mp hr
      have a2 := (hA.2 r').mp hr'
      rcases List.append_eq_append_iff.mp e with ⟨D, e1, _⟩ | ⟨D, e1, _⟩
      · subst e1
        have := acc_code hp a2 a1
        subst this
        simp
      · subst e1
        have := acc_code hp a1 a2
        subst this
        simp
  · rw [mem_prod]
    constructor
    · rintro ⟨r, hr, t, ht, rfl⟩
      obtain ⟨a, o1, e1⟩ := (hA.2 r).mp hr
      obtain ⟨b, o2, e2⟩ := ((hB a).2 t).mp ht
      obtain ⟨A', h, h3, _⟩ := hp _ _ _ _ _ e1
      rw [List.append_nil] at h
      subst h
      obtain ⟨mo, _, h4⟩ := hm a _ _ _ _ _ e2
      refine ⟨b, o1 * mo, ?_⟩
      unfold fbind
      rw [h3 t]
      exact h4 o1
    · rintro ⟨b, o', h⟩
      unfold fbind at h
      cases h1 : p R 1 with
      | no r1 o1 => rw [h1] at h; cases h
      | ok a r1 o1 =>
        rw [h1] at h
        obtain ⟨A', e, h3, _⟩ := hp _ _ _ _ _ h1
        subst e
        obtain ⟨mo, _, h4⟩ := hm a _ _ _ _ _ h
        have h5 := h3 []
        rw [List.append_nil] at h5
        exact ⟨A', (hA.2 A').mpr ⟨a, o1, h5⟩, r1, ((hB a).2 r1).mpr ⟨b, _, h4 1⟩, rfl⟩
theorem prod_one (B : List (List Int)) : prodR [[]] B = B := by simp [prodR]
theorem one_prod (A : List (List Int)) : prodR A [[]] = A := by
  unfold prodR
  simp [List.flatMap_singleton']
end Ml

/-! the rows of one die, of many, of a saying -/
namespace Ml
theorem enum_dep {α β : Type} {p : Fp α} {q : α → Fp β} {A : List (List Int)} {Bf : List Int → List (List Int)} (hp : GoodF p) (hA : EnumF p A) (hm : ∀ a, MulF (q a)) (hB : ∀ r a o, p r 1 = .ok a [] o → EnumF (q a) (Bf r)) : EnumF (fbind p q) (A.flatMap fun r => (Bf r).map (r ++ ·)) := by
  refine ⟨?_, fun R => ?_⟩
  · refine nd_flat hA.1 (fun r hr => ?_) fun r hr r' hr' x hx hx' => ?_
    · obtain ⟨a, o, e⟩ := (hA.2 r).mp hr
      exact nd_map (hB r a o e).1 fun t _ t' _ e => List.append_cancel_left e
    · obtain ⟨t, _, rfl⟩ := List.mem_map.mp hx
      obtain ⟨t', _, e⟩ := List.mem_map.mp hx'
      have a1 := (hA.2 r).mp hr
      have a2 := (hA.2 r').mp hr'
      rcases List.append_eq_append_iff.mp e with ⟨D, e1, _⟩ | ⟨D, e1, _⟩
      · subst e1
        have := acc_code hp a2 a1
        subst this
        simp
      · subst e1
        have := acc_code hp a1 a2
        subst this
        simp
  · simp only [List.mem_flatMap, List.mem_map]
    constructor
    · rintro ⟨r, hr, t, ht, rfl⟩
      obtain ⟨a, o1, e1⟩ := (hA.2 r).mp hr
      obtain ⟨b, o2, e2⟩ := ((hB r a o1 e1).2 t).mp ht
      obtain ⟨A', h, h3, _⟩ := hp _ _ _ _ _ e1
      rw [List.append_nil] at h
      subst h
      obtain ⟨mo, _, h4⟩ := hm a _ _ _ _ _ e2
      refine ⟨b, o1 * mo, ?_⟩
      unfold fbind
      rw [h3 t]
      exact h4 o1
    · rintro ⟨b, o', h⟩
      unfold fbind at h
      cases h1 : p R 1 with
      | no r1 o1 => rw [h1] at h; cases h
      | ok a r1 o1 =>
        rw [h1] at h
        obtain ⟨A', e, h3, _⟩ := hp _ _ _ _ _ h1
        subst e
        obtain ⟨mo, _, h4⟩ := hm a _ _ _ _ _ h
        have h5 := h3 []
        rw [List.append_nil] at h5
        exact ⟨A', (hA.2 A').mpr ⟨a, o1, h5⟩, r1, ((hB A' a o1 h5).2 r1).mpr ⟨b, _, h4 1⟩, rfl⟩
theorem enum_take {s : Int} (hs : 0 ≤ s) : EnumF (pTake s) ((faces s.toNat).map fun f => [f]) := by
  refine ⟨nd_map (nd_faces _) fun a _ b _ e => by simpa using e, fun R => ?_⟩
  simp only [List.mem_map]
  constructor
  · rintro ⟨f, hf, rfl⟩
    have := mem_faces.mp hf
    exact ⟨f, 1 * s, by simp [pTake]; omega⟩
  · rintro ⟨a, o, h⟩
    cases R with
    | nil => cases h
    | cons f r =>
      simp only [pTake] at h
      split at h
      · rename_i hf
        cases h
        exact ⟨a, mem_faces.mpr ⟨hf.1, by omega⟩, rfl⟩
      · cases h
/-- the faces more of a burst -/
def moreRows (s : Int) : Nat → Int → List (List Int)
  | 0, _ => [[]]
  | n + 1, face => if face = s then (faces s.toNat).flatMap fun g => (moreRows s n g).map (g :: ·) else [[]]
theorem more_pure {s : Int} : ∀ (n : Nat) (face total : Int), face ≠ s → pMore s n face total = fpure total
  | 0, _, _, _ => rfl
  | n + 1, face, total, h => by rw [pMore, if_neg h, more_pure n face total h]
theorem flat_one {s : Int} (f : Int → List (List Int)) : (((faces s.toNat).map fun f => [f]).flatMap fun r => ((f (r.headD 0)).map (r ++ ·))) = (faces s.toNat).flatMap fun g => (f g).map (g :: ·) := by
  rw [List.flatMap_map]
  rfl
theorem enum_more {s : Int} (hs : 0 ≤ s) (h6 : s ≤ 6) : ∀ (n : Nat) (face total : Int), EnumF (pMore s n face total) (moreRows s n face)
  | 0, face, total => enum_pure total
  | n + 1, face, total => by
    by_cases h : face = s
    · rw [pMore, if_pos h, moreRows, if_pos h, ← flat_one (s := s) (fun g => moreRows s n g)]
      refine enum_dep (Bf := fun r => moreRows s n (r.headD 0)) (good_take h6) (enum_take hs) (fun a => mul_more s n _ _) fun r a o e => ?_
      cases r with
      | nil => cases e
      | cons f r =>
        simp only [pTake] at e
        split at e
        · cases e
          exact enum_more hs h6 n a _
        · cases e
    · rw [more_pure _ _ _ h, moreRows, if_neg h]
      exact enum_pure total
def dieTl : Option WL → Int → Int → Int → List (List Int)
  | some .again, s, l, f => if f ≤ l then (faces s.toNat).map fun g => [g] else [[]]
  | some .burst, s, l, f => moreRows s l.toNat f
  | _, _, _, _ => [[]]
def dieRows (w : Option WL) (s l : Int) : List (List Int) := (faces s.toNat).flatMap fun f => (dieTl w s l f).map (f :: ·)
theorem take_val {s : Int} {r : List Int} {a o : Int} (e : pTake s r 1 = .ok a [] o) : r.headD 0 = a := by
  cases r with
  | nil => cases e
  | cons f r =>
    simp only [pTake] at e
    split at e
    · cases e; rfl
    · cases e
theorem enum_die {w : Option WL} {s l : Int} (hs : 0 ≤ s) (h6 : s ≤ 6) : EnumF (pDieL w s l) (dieRows w s l) := by
  have plain : (faces s.toNat).flatMap (fun f => ([[]] : List (List Int)).map (f :: ·)) = (faces s.toNat).map fun f => [f] := by
    rw [List.map_eq_flatMap]
    rfl
  have ht := enum_take hs
  cases w with
  | none => unfold dieRows dieTl; rw [plain]; exact ht
  | some w =>
    cases w with
    | high => unfold dieRows dieTl; rw [plain]; exact ht
    | low => unfold dieRows dieTl; rw [plain]; exact ht
    | count =>
      unfold dieRows
      rw [← flat_one (s := s) (fun g => dieTl (some .count) s l g)]
      exact enum_dep (Bf := fun r => dieTl (some .count) s l (r.headD 0)) (good_take h6) ht (fun a => mul_pure _) fun r a o e => enum_pure _
    | again =>
      unfold dieRows
      rw [← flat_one (s := s) (fun g => dieTl (some .again) s l g)]
      refine enum_dep (Bf := fun r => dieTl (some .again) s l (r.headD 0)) (good_take h6) ht (fun a => ?_) fun r a o e => ?_
      · split
        · exact mul_take s
        · exact mul_pure a
      · rw [take_val e]
        simp only [dieTl]
        by_cases h : a ≤ l
        · rw [if_pos h, if_pos h]; exact ht
        · rw [if_neg h, if_neg h]; exact enum_pure a
    | burst =>
      unfold dieRows
      rw [← flat_one (s := s) (fun g => dieTl (some .burst) s l g)]
      refine enum_dep (Bf := fun r => dieTl (some .burst) s l (r.headD 0)) (good_take h6) ht (fun a => mul_more s _ _ _) fun r a o e => ?_
      rw [take_val e]
      exact enum_more hs h6 _ _ _
/-- the product of n -/
def powR (L : List (List Int)) : Nat → List (List Int)
  | 0 => [[]]
  | n + 1 => prodR L (powR L n)
theorem enum_map {α β : Type} {p : Fp α} {L : List (List Int)} (hp : GoodF p) (h : EnumF p L) (g : α → β) : EnumF (fbind p fun x => fpure (g x)) L := by
  have := enum_bind hp h (fun a => mul_pure (g a)) (fun a => enum_pure (g a))
  rwa [one_prod] at this
theorem enum_many {α : Type} {p : Fp α} {L : List (List Int)} (hp : GoodF p) (hm : MulF p) (h : EnumF p L) : ∀ n, EnumF (pMany p n) (powR L n)
  | 0 => enum_pure []
  | n + 1 => enum_bind hp h (fun a => mul_bind (mul_many hm n) fun xs => mul_pure _) fun a => enum_map (good_many hp n) (enum_many hp hm h n) (fun xs => a :: xs)
def allRows : Say → List (List Int)
  | .num _ => [[]]
  | .die m s => powR (dieRows none s 0) m.toNat
  | .dl w m s l => powR (dieRows (some w) s l) m.toNat
  | .times _ a => allRows a
  | .two _ a b => prodR (allRows a) (allRows b)
theorem enum_W : ∀ s, Wf s → EnumF (pW s) (allRows s)
  | .num n, _ => enum_pure n
  | .die m s, h => enum_map (good_many (good_die h.2.2.2 none 0) _) (enum_many (good_die h.2.2.2 none 0) (mul_die none s 0) (enum_die (by have := h.2.2.1; omega) h.2.2.2) _) _
  | .dl w m s l, h => enum_map (good_many (good_die h.2.2.2.1 (some w) l) _) (enum_many (good_die h.2.2.2.1 (some w) l) (mul_die (some w) s l) (enum_die (by have := h.2.2.1; omega) h.2.2.2.1) _) _
  | .times n a, h => enum_map (good_W a h.2.2) (enum_W a h.2.2) _
  | .two w a b, h => enum_bind (good_W a h.1) (enum_W a h.1) (fun x => mul_bind (mul_W b) fun y => mul_pure _) fun x => enum_map (good_W b h.2) (enum_W b h.2) _
theorem acc_st {s : Say} {R : List Int} : AccR (pW s) R ↔ stR s R = 1 := by
  unfold stR AccR
  constructor
  · rintro ⟨a, o, e⟩
    rw [e]
  · intro h
    split at h
    · rename_i a o e; exact ⟨a, o, e⟩
    · cases h
    · cases h
/-- what the walk finds is all rows -/
theorem all_perm {s : Say} (hw : Wf s) {N : Nat} (hN : 3 * (dice s).toNat ≤ N) : (allF s N).Perm (allRows s) :=
  nd_perm (nd_allF N) (enum_W s hw).1 fun R => by rw [mem_allF hw hN, (enum_W s hw).2 R, acc_st]
end Ml

/-! the program's sides_in and state_of -/
namespace Ml
open PySem L2
theorem e_MaxD (d : Int) (mr : Mo (List D)) (ev : Ev) (st : Sto) : mMaxD d mr ev st = (mr ev st).bind fun ds st1 => match intsOf ds with
  | some [] => .ok (.int d) st1
  | some (n :: ns) => .ok (.int (maxI (n :: ns))) st1
  | none => .bad := rfl
theorem sides_step {c : Fm} {s : Say} {st : Sto} (ih : ∀ a, dep a < dep s → c [enc a] st = .ok (.int (sidesI a)) st) : fnM 1 2 (m_sides_in c) [enc s] st = .ok (.int (sidesI s)) st := by
  cases s with
  | num n => simp [fnM, m_sides_in, d_DICE, e_MaxD, intsOf, sidesI]
  | die m s => simp [fnM, m_sides_in, d_DICE, sidesI]
  | dl w m s l => cases w <;> simp [fnM, m_sides_in, d_DICE, sidesI, enc, WL.s]
  | two w a b =>
    have ha := ih a (by simp only [dep]; omega)
    have hb := ih b (by simp only [dep]; omega)
    have hm : maxI [sidesI a, sidesI b] = max (sidesI a) (sidesI b) := by
      obtain ⟨h1, h2⟩ := maxI_mem [sidesI a, sidesI b] (by simp)
      have h3 := h2 (sidesI a) (by simp)
      have h4 := h2 (sidesI b) (by simp)
      rcases List.mem_cons.mp h1 with h1 | h1
      · omega
      · rcases List.mem_cons.mp h1 with h1 | h1
        · omega
        · cases h1
    cases w <;> simp [fnM, m_sides_in, d_DICE, e_MaxD, intsOf, sidesI, enc, W2.s, ha, hb, hm]
  | times n a =>
    have ha := ih a (by simp only [dep]; omega)
    simp [fnM, m_sides_in, d_DICE, e_MaxD, intsOf, sidesI, enc, ha, maxI]
theorem finit_at {st : Sto} {T : List Int} : fnM 2 2 m_Faces_init [.ref st.length, tupR T] (st ++ [.ins "Faces" []]) = .ok .non (st ++ [.ins "Faces" (ffs T 0 1)]) := by
  have e : ∀ o : Ob, List.set (st ++ [o]) st.length = fun x => st ++ [x] := fun o => by
    funext x
    rw [List.set_append_right _ _ (Nat.le_refl _), Nat.sub_self]
    rfl
  simp [fnM, m_Faces_init, e, putFD, ffs, tupR]
theorem kp_new {st st' : Sto} {o : Ob} (k : Kp (st ++ [o]) st' [st.length]) (l : (st ++ [o]).length ≤ st'.length) : ∃ g, st' = st ++ g := by
  refine Kp.pre (fun j hj _ => ?_) (by simp at l; omega)
  have hj' : j ≠ st.length := by omega
  rw [k j (by simp; omega) (by simpa using hj'), List.getElem?_append_left hj]
end Ml

/-! the program's state_of and all_faces -/
namespace Ml
open PySem L2
theorem state_ok {lv : Nat} {c_w : Fm} {s : Say} {T : List Int} {st : Sto} (hlv : 2 ≤ lv) (hw : ∀ st i, FAt st i T T 1 → RdF st i T (pW s T 1) (c_w [.ref i, enc s] st)) : ∃ g, fnM 2 3 (m_state_of lv c_w) [enc s, tupR T] st = .ok (.int (stR s T)) (st ++ g) := by
  have hF : FAt (st ++ [Ob.ins "Faces" (ffs T 0 1)]) st.length T T 1 := ⟨[], rfl, by simp⟩
  have h1 := hw _ _ hF
  have hi := finit_at (st := st) (T := T)
  simp only [tupR] at hi ⊢
  unfold m_state_of
  generalize fnM 2 2 m_Faces_init = F0 at hi ⊢
  cases hp : pW s T 1 with
  | no r o =>
    rw [hp] at h1
    obtain ⟨e, st', h1, ⟨A, eT, hA⟩, k, l⟩ := h1
    obtain ⟨g, rfl⟩ := kp_new k l
    have h2 := fun ev => cCall_exc (ev := ev) h1
    have h3 := ins_of hA
    refine ⟨g, ?_⟩
    cases r with
    | nil =>
      have e2 : stR s T = 0 := by unfold stR; rw [hp]
      rw [List.append_nil] at eT
      subst eT
      simp [-e_insR, fnM, cat_NoFaces, hlv, hi, h2, h3, e2]
    | cons f r =>
      have e2 : stR s T = -1 := by unfold stR; rw [hp]
      have hne : ((A.length : Int) == ((T.length : Nat) : Int)) = false := by
        rw [beq_eq_false_iff_ne, eT, List.length_append, List.length_cons]; omega
      simp [-e_insR, fnM, cat_NoFaces, hlv, hi, h2, h3, e2, hne]
  | ok a r o =>
    rw [hp] at h1
    obtain ⟨st', h1, ⟨A, eT, hA⟩, k, l⟩ := h1
    obtain ⟨g, rfl⟩ := kp_new k l
    have h2 := fun ev => cCall_ok (ev := ev) h1
    have h3 := ins_of hA
    refine ⟨g, ?_⟩
    cases r with
    | nil =>
      have e2 : stR s T = 1 := by unfold stR; rw [hp]
      rw [List.append_nil] at eT
      subst eT
      simp [-e_insR, fnM, cat_NoFaces, hlv, hi, h2, h3, e2]
    | cons f r =>
      have e2 : stR s T = -1 := by unfold stR; rw [hp]
      have hne : ((A.length : Int) == ((T.length : Nat) : Int)) = false := by
        rw [beq_eq_false_iff_ne, eT, List.length_append, List.length_cons]; omega
      simp [-e_insR, fnM, cat_NoFaces, hlv, hi, h2, h3, e2, hne]
/-! lists of the store -/
theorem lk_eval {α : Type} {ma : Mo D} {m : Mo α} {ev : Ev} {st st0 st' : Sto} {n : Nat} {ob ob' ob2 ob3 : Ob} {z : α} (h : ma ev st = .ok (.ref n) st0) (h1 : st[n]? = some ob) (hl : lockO ob = some ob') (hm : m ev (st.set n ob') = .ok z st') (h2 : st'[n]? = some ob2) (hu : unlockO ob2 = some ob3) :
    lockN ma m ev st = .ok z (st'.set n ob3) := by
  simp only [lockN, h, h1, hl, hm, unl, h2, hu]
theorem isL {st : Sto} {i : Nat} {ds : List D} (h : st[i]? = some (.lst ds)) : isLst st (.ref i) = true := by simp [isLst, h]
theorem ext_e {ma : Mo D} {xb : Mo Lo} {ev : Ev} {st st2 : Sto} {i : Nat} {v : Lo} {ds0 ds es : List D} (h : ma ev st = .ok (.ref i) st) (h0 : st[i]? = some (.lst ds0)) (h1 : xb ev st = .ok v st2) (h2 : st2[i]? = some (.lst ds)) (h3 : loAt st2 v = some es) (hl : ds.length + es.length ≤ lim) : mExtend ma xb ev st = .ok .non (st2.set i (.lst (ds ++ es))) := by
  unfold mExtend
  simp only [h, Rs.bind_ok, isL h0, if_true, h1, h2, h3, hl]
theorem app_e {ma mv : Mo D} {ev : Ev} {st : Sto} {i : Nat} {v : D} {ds : List D} (h : ma ev st = .ok (.ref i) st) (h0 : st[i]? = some (.lst ds)) (h1 : mv ev st = .ok v st) (hl : ds.length + 1 ≤ lim) : mAppend ma mv ev st = .ok .non (st.set i (.lst (ds ++ [v]))) := by
  unfold mAppend
  simp only [h, Rs.bind_ok, isL h0, if_true, h1, h0, hl]
/-- a row with each of some faces behind it -/
theorem more_lc {ev : Ev} {a b : Nat} {R : List Int} {st : Sto} (hab : a ≠ b) (hb : b < ev.length) (ha : ev[a]? = some (some (tupR R))) (hR : R.length ≤ 100) : ∀ fs : List Int, lcLoop (gtName b) mYes (mOp gAdd (mVar a) (mTup (mCons (mVar b) mNil))) (fs.map D.int) ev st = .ok ((fs.map fun f => R ++ [f]).map tupR) st
  | [] => rfl
  | f :: fs => by
    have e1 : (ev.set b (some (D.int f)))[a]? = some (some (tupR R)) := by rw [List.getElem?_set_ne (Ne.symm hab)]; exact ha
    have e2 : (ev.set b (some (D.int f)))[b]? = some (some (D.int f)) := List.getElem?_set_self hb
    have hl : R.length + 1 ≤ lim := by have e : lim = 1000000 := rfl; omega
    have ih := more_lc hab hb ha hR fs (st := st)
    simp only [tupR] at e1
    simp [e1, e2, hl, ih, tupR]
theorem rng_faces (n : Nat) : rngD 1 n = (faces n).map D.int := by
  simp [rngD, faces, List.map_map, Function.comp_def]
theorem sides_bd : ∀ s, Wf s → 0 ≤ sidesI s ∧ sidesI s ≤ 6
  | .num n, _ => by simp [sidesI]
  | .die m s, h => by have := h.2.2; simp only [sidesI]; omega
  | .dl w m s l, h => by have := h.2.2; simp only [sidesI]; omega
  | .times n a, h => sides_bd a h.2.2
  | .two w a b, h => by
    have h1 := sides_bd a h.1
    have h2 := sides_bd b h.2
    simp only [sidesI]; omega
section
variable {c_si c_st : Fm} {s : Say} {f j : Nat}
theorem row_step (hw : Wf s) (hfj : f ≠ j) (hsi : ∀ st, c_si [enc s] st = .ok (.int (sidesI s)) st) (hst : ∀ R st, ∃ g, c_st [enc s, tupR R] st = .ok (.int (stR s R)) (st ++ g)) {F LL : List (List Int)} {R : List Int} {x2 x5 x6 : Option D} {s1 : Sto}
    (hf : s1[f]? = some (.lst (F.map tupR))) (hj : s1[j]? = some (.lst (LL.map tupR))) (hR : R.length ≤ 100) (hF : F.length + 1 ≤ lim) (hL : LL.length + 6 ≤ lim) :
    ∃ x5' s2, m_all_faces_b1 c_si c_st [some (enc s), some (.ref f), x2, some (.ref j), some (tupR R), x5, x6] s1 = .ok (.nx, [some (enc s), some (.ref f), x2, some (.ref j), some (tupR R), x5', x6]) s2 ∧ s2[f]? = some (.lst ((F ++ fndL s [R]).map tupR)) ∧ s2[j]? = some (.lst ((LL ++ nextL s [R]).map tupR)) ∧ Kp s1 s2 [f, j] ∧ s1.length ≤ s2.length := by
  obtain ⟨g, hg⟩ := hst R s1
  have lf := (List.getElem?_eq_some_iff.mp hf).1
  have lj := (List.getElem?_eq_some_iff.mp hj).1
  have hf' := get_app hf g
  have hj' := get_app hj g
  refine ⟨some (.int (stR s R)), ?_⟩
  have k0 : Kp s1 (s1 ++ g) [f, j] := Kp.app _ _ _
  by_cases h1 : stR s R = 1
  · have ea : mAppend (mVar 1) (mVar 4) [some (enc s), some (.ref f), x2, some (.ref j), some (tupR R), some (.int (stR s R)), x6] (s1 ++ g) = .ok .non ((s1 ++ g).set f (.lst (F.map tupR ++ [tupR R]))) := app_e (by simp) hf' (by simp) (by simpa using hF)
    refine ⟨(s1 ++ g).set f (.lst (F.map tupR ++ [tupR R])), ?_, ?_, ?_, ?_, ?_⟩
    · rw [h1] at hg ea ⊢
      simp [m_all_faces_b1, hg, ea]
    · rw [List.getElem?_set_self (by simp; omega)]
      simp [fndL, h1]
    · rw [List.getElem?_set_ne hfj, hj']
      simp [nextL, h1]
    · exact k0.set (.inl (by simp))
    · simp
  · by_cases h0 : stR s R = 0
    · obtain ⟨b0, b6⟩ := sides_bd s hw
      have e1 : (1 + (sidesI s + 1) - 1 : Int) = sidesI s + 1 := by omega
      have hlm : ((sidesI s + 1 - 1).toNat ≤ lim ∧ (-1000000000 : Int) ≤ 1 ∧ (1 : Int) ≤ 1000000000 ∧ -1000000000 ≤ sidesI s + 1 ∧ sidesI s + 1 ≤ 1000000000) := by
        have e : lim = 1000000 := rfl
        omega
      have hlc := more_lc (ev := [some (enc s), some (.ref f), x2, some (.ref j), some (tupR R), some (.int (stR s R)), none]) (a := 4) (b := 6) (R := R) (st := s1 ++ g) (by decide) (by simp) rfl hR (faces (sidesI s).toNat)
      have ees : (sidesI s + 1 - 1).toNat = (sidesI s).toNat := by omega
      have hxb : mLoN (mLc [6] (mItR2 (mCons (mC (.int 1)) (mCons (mOp gAdd (mCall c_si (mCons (mVar 0) mNil)) (mC (.int 1))) mNil))) (gtName 6) mYes (mOp gAdd (mVar 4) (mTup (mCons (mVar 6) mNil)))) [some (enc s), some (.ref f), x2, some (.ref j), some (tupR R), some (.int (stR s R)), x6] (s1 ++ g) = .ok (.n (((faces (sidesI s).toNat).map fun f => R ++ [f]).map tupR)) (s1 ++ g) := by
        rw [e_LoN, e_Lc, e_ItR2]
        simp only [e_Cons, e_C, e_Op, e_Call, e_Var, e_Nil, Rs.bind_ok, List.getElem?_cons_zero, hsi, e_addI, e_of_some]
        rw [if_pos hlm]
        simp only [Rs.bind_ok, ees, rng_faces, e_wC, e_wN]
        simp only [List.set_cons_succ, List.set_cons_zero]
        rw [hlc]
        rfl
      have ea := ext_e (ma := mVar 3) (ev := [some (enc s), some (.ref f), x2, some (.ref j), some (tupR R), some (.int (stR s R)), x6]) (i := j) (by simp) hj' hxb hj' rfl (by
        rw [List.length_map, List.length_map, List.length_map, faces, List.length_map, List.length_range]; omega)
      refine ⟨(s1 ++ g).set j (.lst (LL.map tupR ++ ((faces (sidesI s).toNat).map fun f => R ++ [f]).map tupR)), ?_, ?_, ?_, ?_, ?_⟩
      · rw [h0] at hg ea ⊢
        simp [-List.map_append, -e_LoN, -e_Lc, m_all_faces_b1, hg, ea]
      · rw [List.getElem?_set_ne (Ne.symm hfj), hf']
        simp [fndL, h0]
      · rw [List.getElem?_set_self (by simp; omega)]
        simp [nextL, h0]
      · exact k0.set (.inl (by simp))
      · simp
    · have e1 : (stR s R == 1) = false := by rw [beq_eq_false_iff_ne]; exact h1
      have e0 : (stR s R == 0) = false := by rw [beq_eq_false_iff_ne]; exact h0
      refine ⟨s1 ++ g, ?_, ?_, ?_, k0, by simp⟩
      · simp [m_all_faces_b1, hg, e1, e0]
      · rw [hf']; simp [fndL, h1]
      · rw [hj']; simp [nextL, h0]
end
end Ml

/-! the program's all_faces -/
namespace Ml
open PySem L2
theorem fnd_cons (s : Say) (R : List Int) (L : List (List Int)) : fndL s (R :: L) = fndL s [R] ++ fndL s L := by
  unfold fndL
  rw [show R :: L = [R] ++ L from rfl, List.filter_append]
theorem next_cons (s : Say) (R : List Int) (L : List (List Int)) : nextL s (R :: L) = nextL s [R] ++ nextL s L := by
  unfold nextL
  rw [show R :: L = [R] ++ L from rfl, List.flatMap_append]
theorem fnd_le (s : Say) (L : List (List Int)) : (fndL s L).length ≤ L.length := List.length_filter_le _ _
theorem next_le {s : Say} (hw : Wf s) (R : List Int) : (nextL s [R]).length ≤ 6 := by
  obtain ⟨b0, b6⟩ := sides_bd s hw
  simp only [nextL, List.flatMap_cons, List.flatMap_nil, List.append_nil]
  split
  · simp [faces]; omega
  · simp
section
variable {c_si c_st : Fm} {s : Say}
theorem rows_loop (hw : Wf s) (hsi : ∀ st, c_si [enc s] st = .ok (.int (sidesI s)) st) (hst : ∀ R st, ∃ g, c_st [enc s, tupR R] st = .ok (.int (stR s R)) (st ++ g)) {f j : Nat} (hfj : f ≠ j) : ∀ (L F LL : List (List Int)) (x2 x4 x5 x6 : Option D) (s1 : Sto),
    s1[f]? = some (.lst (F.map tupR)) → s1[j]? = some (.lst (LL.map tupR)) → (∀ R ∈ L, R.length ≤ 100) → F.length + L.length ≤ lim → LL.length + 6 * L.length ≤ lim →
    ∃ x4' x5' s2, loop (gtName 4) (m_all_faces_b1 c_si c_st) (L.map tupR) [some (enc s), some (.ref f), x2, some (.ref j), x4, x5, x6] s1 = .ok (.nx, [some (enc s), some (.ref f), x2, some (.ref j), x4', x5', x6]) s2 ∧ s2[f]? = some (.lst ((F ++ fndL s L).map tupR)) ∧ s2[j]? = some (.lst ((LL ++ nextL s L).map tupR)) ∧ Kp s1 s2 [f, j] ∧ s1.length ≤ s2.length
  | [], F, LL, x2, x4, x5, x6, s1, hf, hj, _, _, _ => ⟨x4, x5, s1, rfl, by simpa [fndL] using hf, by simpa [nextL] using hj, Kp.refl _ _, Nat.le_refl _⟩
  | R :: L, F, LL, x2, x4, x5, x6, s1, hf, hj, hR, hF, hL => by
    simp only [List.length_cons] at hF hL
    obtain ⟨y5, s2, h1, h2, h3, h4, h5⟩ := row_step hw hfj hsi hst (x2 := x2) (x5 := x5) (x6 := x6) hf hj (hR R List.mem_cons_self) (by omega) (by omega)
    have b1 := fnd_le s [R]
    have b2 := next_le hw R
    obtain ⟨x4', x5', s3, k1, k2, k3, k4, k5⟩ := rows_loop hw hsi hst hfj L (F ++ fndL s [R]) (LL ++ nextL s [R]) x2 (some (tupR R)) y5 x6 s2 h2 h3 (fun R h => hR R (List.mem_cons_of_mem _ h)) (by simp at b1 ⊢; omega) (by simp at b2 ⊢; omega)
    refine ⟨x4', x5', s3, ?_, ?_, ?_, h4.trans h5 k4, by omega⟩
    · rw [List.map_cons, e_loopC]
      simp only [e_gtName, List.set_cons_succ, List.set_cons_zero, h1]
      exact k1
    · rw [k2, fnd_cons s R L, List.append_assoc]
    · rw [k3, next_cons s R L, List.append_assoc]
theorem turnA (hw : Wf s) (hsi : ∀ st, c_si [enc s] st = .ok (.int (sidesI s)) st) (hst : ∀ R st, ∃ g, c_st [enc s, tupR R] st = .ok (.int (stR s R)) (st ++ g)) {f i : Nat} (hfi : f ≠ i) {L F : List (List Int)} {x3 x4 x5 x6 : Option D} {s0 : Sto}
    (hf : s0[f]? = some (.lst (F.map tupR))) (hi : s0[i]? = some (.lst (L.map tupR))) (hR : ∀ R ∈ L, R.length ≤ 100) (hF : F.length + L.length ≤ lim) (hL : 6 * L.length ≤ lim) :
    ∃ x3' x4' x5' s2, m_all_faces_b2 c_si c_st [some (enc s), some (.ref f), some (.ref i), x3, x4, x5, x6] s0 = .ok (.nx, [some (enc s), some (.ref f), some (.ref s0.length), x3', x4', x5', x6]) s2 ∧ s2[f]? = some (.lst ((F ++ fndL s L).map tupR)) ∧ s2[s0.length]? = some (.lst ((nextL s L).map tupR)) ∧ Kp s0 s2 [f] ∧ s0.length ≤ s2.length := by
  have lf := (List.getElem?_eq_some_iff.mp hf).1
  have li := (List.getElem?_eq_some_iff.mp hi).1
  have hf1 : ((s0 ++ [Ob.lst []]).set i (.ro (L.map tupR)))[f]? = some (.lst (F.map tupR)) := by rw [List.getElem?_set_ne (Ne.symm hfi)]; exact get_app hf _
  have hj1 : ((s0 ++ [Ob.lst []]).set i (.ro (L.map tupR)))[s0.length]? = some (.lst (([] : List (List Int)).map tupR)) := by
    rw [List.getElem?_set_ne (by omega)]; simp
  obtain ⟨x4', x5', s2, k1, k2, k3, k4, k5⟩ := rows_loop hw hsi hst (j := s0.length) (by omega) L F [] (some (.ref i)) x4 x5 x6 _ hf1 hj1 hR hF (by simpa using hL)
  have hi2 : s2[i]? = some (.ro (L.map tupR)) := by
    rw [k4 i (by simp; omega) (by simp; omega)]
    exact List.getElem?_set_self (by simp; omega)
  have hlim : L.length ≤ lim := by omega
  have main := lk_eval (ma := mVar 2) (m := mFor (mItK .lst (mVar 2)) (gtName 4) (m_all_faces_b1 c_si c_st)) (ev := [some (enc s), some (.ref f), some (.ref i), some (.ref s0.length), x4, x5, x6]) (st := s0 ++ [Ob.lst []]) (st0 := s0 ++ [Ob.lst []]) (n := i) (ob3 := .lst (L.map tupR)) (by simp) (get_app hi _) rfl
    (by
      have h' : ((s0 ++ [Ob.lst []]).set i (.ro (L.map tupR)))[i]? = some (.ro (L.map tupR)) := List.getElem?_set_self (by simp; omega)
      rw [e_For, e_ItK]
      simp only [e_Var, List.getElem?_cons_zero, List.getElem?_cons_succ, Rs.bind_ok, h', itemsK, List.length_map, hlim, if_true]
      exact k1) hi2 rfl
  refine ⟨some (.ref s0.length), x4', x5', s2.set i (.lst (L.map tupR)), ?_, ?_, ?_, ?_, ?_⟩
  · unfold m_all_faces_b2
    simp [main]
  · rw [List.getElem?_set_ne (Ne.symm hfi), k2]
  · rw [List.getElem?_set_ne (by omega), k3]; rfl
  · intro k hk hs
    by_cases e : k = i
    · subst e
      rw [List.getElem?_set_self (List.getElem?_eq_some_iff.mp hi2).1, hi]
    · rw [List.getElem?_set_ne (Ne.symm e), k4 k (by simp; omega) (by simp at hs ⊢; omega), List.getElem?_set_ne (Ne.symm e), List.getElem?_append_left hk]
  · simp at k5 ⊢; omega
def fdU (s : Say) (k : Nat) : List (List Int) := (List.range k).flatMap fun n => fndL s (lvl s n)
theorem fd_succ (s : Say) (k : Nat) : fdU s (k + 1) = fdU s k ++ fndL s (lvl s k) := by
  simp [fdU, List.range_succ]
theorem lvl_nil {s : Say} {k : Nat} (h : lvl s k = []) : ∀ m, lvl s (k + m) = []
  | 0 => h
  | m + 1 => by
    have := lvl_nil h m
    show nextL s (lvl s (k + m)) = []
    rw [this]; rfl
theorem fd_end {s : Say} {k : Nat} (h : lvl s k = []) : ∀ m, fdU s (k + m) = fdU s k
  | 0 => rfl
  | m + 1 => by
    rw [← Nat.add_assoc, fd_succ, fd_end h m, lvl_nil h m]
    simp [fndL]
theorem tru_ref {st : Sto} {i : Nat} {ds : List D} (h : st[i]? = some (.lst ds)) : truD st (.ref i) = some (!ds.isEmpty) := by simp only [truD, h]
theorem while_all (hw : Wf s) (hsi : ∀ st, c_si [enc s] st = .ok (.int (sidesI s)) st) (hst : ∀ R st, ∃ g, c_st [enc s, tupR R] st = .ok (.int (stR s R)) (st ++ g)) {K f : Nat} (hb : ∀ k, k ≤ K → (fdU s k).length + (lvl s k).length ≤ lim ∧ 6 * (lvl s k).length ≤ lim ∧ ∀ R ∈ lvl s k, R.length ≤ 100) :
    ∀ (m k fuel i : Nat) (x3 x4 x5 x6 : Option D) (s1 : Sto), k + m ≤ K → lvl s (k + m) = [] → m < fuel → f ≠ i → s1[f]? = some (.lst ((fdU s k).map tupR)) → s1[i]? = some (.lst ((lvl s k).map tupR)) →
    ∃ i' x3' x4' x5' s2, whl (mTru (mVar 2)) (m_all_faces_b2 c_si c_st) fuel [some (enc s), some (.ref f), some (.ref i), x3, x4, x5, x6] s1 = .ok (.nx, [some (enc s), some (.ref f), some (.ref i'), x3', x4', x5', x6]) s2 ∧ s2[f]? = some (.lst ((fdU s (k + m)).map tupR)) ∧ Kp s1 s2 [f] ∧ s1.length ≤ s2.length
  | m, k, 0, i, x3, x4, x5, x6, s1, _, _, hfu, _, _, _ => absurd hfu (by omega)
  | m, k, fuel + 1, i, x3, x4, x5, x6, s1, hK, he, hfu, hfi, hf, hi => by
    have ht : mTru (mVar 2) [some (enc s), some (.ref f), some (.ref i), x3, x4, x5, x6] s1 = .ok (!((lvl s k).map tupR).isEmpty) s1 := by
      rw [e_Tru]
      simp only [e_Var, List.getElem?_cons_zero, List.getElem?_cons_succ, Rs.bind_ok, tru_ref hi]
    by_cases hL : lvl s k = []
    · refine ⟨i, x3, x4, x5, s1, ?_, by rw [fd_end hL m]; exact hf, Kp.refl _ _, Nat.le_refl _⟩
      rw [hL] at ht
      simp only [whl]
      rw [ht]
      rfl
    · cases m with
      | zero => exact absurd he hL
      | succ m =>
        obtain ⟨b1, b2, b3⟩ := hb k (by omega)
        obtain ⟨x3', x4', x5', s2, h1, h2, h3, h4, h5⟩ := turnA hw hsi hst hfi (x3 := x3) (x4 := x4) (x5 := x5) (x6 := x6) hf hi b3 b1 b2
        rw [← fd_succ] at h2
        obtain ⟨i', y3, y4, y5, s3, k1, k2, k3, k4⟩ := while_all hw hsi hst hb m (k + 1) fuel s1.length x3' x4' x5' x6 s2 (by omega) (by rw [Nat.add_right_comm]; exact he) (by omega) (by have := (List.getElem?_eq_some_iff.mp hf).1; omega) h2 h3
        refine ⟨i', y3, y4, y5, s3, ?_, ?_, h4.trans h5 k3, by omega⟩
        · have hne : (!((lvl s k).map tupR).isEmpty) = true := by
            cases h : lvl s k with
            | nil => exact absurd h hL
            | cons => rfl
          rw [hne] at ht
          simp only [whl]
          rw [ht]
          simp only [h1]
          exact k1
        · rw [k2, Nat.add_right_comm]; rfl
end
/-! how many -/
theorem flat_le {α β : Type} {g : α → List β} {B : Nat} : ∀ L : List α, (∀ a ∈ L, (g a).length ≤ B) → (L.flatMap g).length ≤ L.length * B
  | [], _ => by simp
  | a :: L, h => by
    have h1 := h a List.mem_cons_self
    have h2 := flat_le L fun b hb => h b (List.mem_cons_of_mem _ hb)
    simp only [List.flatMap_cons, List.length_append, List.length_cons, Nat.add_mul]
    omega
theorem lvl_le {s : Say} : ∀ n, (lvl s n).length ≤ (max 1 (sidesI s).toNat) ^ n
  | 0 => by simp [lvl]
  | n + 1 => by
    have h := lvl_le (s := s) n
    have h2 : (nextL s (lvl s n)).length ≤ (lvl s n).length * max 1 (sidesI s).toNat := flat_le _ fun r _ => by
      split
      · simp [faces]; omega
      · simp
    show (nextL s (lvl s n)).length ≤ _
    rw [Nat.pow_succ]
    exact Nat.le_trans h2 (Nat.mul_le_mul_right _ h)
theorem lvl_leN {s : Say} (hw : Wf s) (n : Nat) : (lvl s n).length ≤ (max 1 (sidesI s).toNat) ^ (3 * (dice s).toNat) := by
  by_cases h : n ≤ 3 * (dice s).toNat
  · exact Nat.le_trans (lvl_le n) (Nat.pow_le_pow_right (by omega) h)
  · have e := lvl_nil (lvl_end hw) (n - (3 * (dice s).toNat + 1))
    rw [show 3 * (dice s).toNat + 1 + (n - (3 * (dice s).toNat + 1)) = n by omega] at e
    rw [e]
    simp
theorem fd_le {s : Say} {B : Nat} (h : ∀ n, (lvl s n).length ≤ B) (k : Nat) : (fdU s k).length ≤ k * B := by
  have := flat_le (g := fun n => fndL s (lvl s n)) (B := B) (List.range k) fun n _ => Nat.le_trans (fnd_le s _) (h n)
  simpa [fdU] using this
theorem rowsI_map : ∀ L : List (List Int), rowsI (L.map tupR) = some L
  | [] => rfl
  | R :: L => by
    have := rowsI_map L
    simp only [List.map_cons, tupR, rowsI, intsOf_map] at this ⊢
    rw [this]
theorem srtT {L : List (List Int)} (h : L.length < 2 ∨ ∀ R ∈ L, R ≠ []) : gSortedT (L.map tupR) = some ((sortT L).map tupR) := by
  unfold gSortedT
  rw [rowsI_map]
  simp only
  rw [if_pos]
  rcases h with h | h
  · exact .inl h
  · refine .inr (List.all_eq_true.mpr fun R hR => ?_)
    have := h R hR
    cases R with
    | nil => exact absurd rfl this
    | cons => rfl
/-- all found rows: either the empty one alone or none that is empty -/
theorem allF_code {s : Say} (hw : Wf s) {L : List (List Int)} (hp : L.Perm (allRows s)) : L.length < 2 ∨ ∀ R ∈ L, R ≠ [] := by
  by_cases h : [] ∈ L
  · left
    have hn : (allRows s).Nodup := (enum_W s hw).1
    have hm := (enum_W s hw).2
    have h0 := (hm []).mp (hp.mem_iff.mp h)
    have hall : ∀ R ∈ L, R = [] := fun R hR => acc_code (good_W s hw) h0 ((hm R).mp (hp.mem_iff.mp hR))
    have hnL : L.Nodup := hp.nodup_iff.mpr hn
    cases L with
    | nil => simp
    | cons a L =>
      cases L with
      | nil => simp
      | cons b L =>
        have ha := hall a (by simp)
        have hb := hall b (by simp)
        rw [ha, hb] at hnL
        simp at hnL
  · right
    intro R hR e
    subst e
    exact h hR
theorem allF_ok {c_si c_st : Fm} {s : Say} {st : Sto} (hw : Wf s) (hB : (3 * (dice s).toNat + 2) * (max 1 (sidesI s).toNat) ^ (3 * (dice s).toNat) ≤ 800000) (hd : (dice s).toNat ≤ 6) (hsi : ∀ st, c_si [enc s] st = .ok (.int (sidesI s)) st) (hst : ∀ R st, ∃ g, c_st [enc s, tupR R] st = .ok (.int (stR s R)) (st ++ g)) :
    ∃ g, fnM 1 7 (m_all_faces c_si c_st) [enc s] st = .ok (.tup ((sortT (allRows s)).map tupR)) (st ++ g) := by
  have elim : lim = 1000000 := rfl
  have hl := lvl_leN hw
  generalize hBe : (max 1 (sidesI s).toNat) ^ (3 * (dice s).toNat) = B at hB hl
  generalize hNe : 3 * (dice s).toNat = N at hB
  have hfd := fd_le hl
  have hb : ∀ k, k ≤ N + 1 → (fdU s k).length + (lvl s k).length ≤ lim ∧ 6 * (lvl s k).length ≤ lim ∧ ∀ R ∈ lvl s k, R.length ≤ 100 := fun k hk => by
    have h1 := hl k
    have h2 := hfd k
    have h3 : k * B ≤ (N + 1) * B := Nat.mul_le_mul_right _ hk
    have h4 : (N + 2) * B = (N + 1) * B + B := by rw [show N + 2 = (N + 1) + 1 by omega, Nat.add_mul (N + 1) 1 B, Nat.one_mul]
    refine ⟨by omega, ?_, fun R hR => by rw [len_lvl k R hR]; omega⟩
    by_cases hN : 4 ≤ N
    · have : 6 * B ≤ (N + 2) * B := Nat.mul_le_mul_right _ (by omega)
      omega
    · have h6 := sides_bd s hw
      have hd0 : N ≤ 3 := by omega
      have : B ≤ 6 ^ 3 := by
        rw [← hBe, hNe]
        exact Nat.le_trans (Nat.pow_le_pow_left (by omega) N) (Nat.pow_le_pow_right (by decide) hd0)
      omega
  obtain ⟨i', x3, x4, x5, s2, k1, k2, k3, k4⟩ := while_all hw hsi hst (K := N + 1) (f := st.length) hb (N + 1) 0 1000 (st.length + 1) none none none none (st ++ [.lst [], .lst [tupR []]]) (by omega) (by rw [Nat.zero_add, ← hNe]; exact lvl_end hw) (by omega) (by omega) (by simp [fdU]) (by simp [lvl])
  have hp : (fdU s (N + 1)).Perm (allRows s) := by
    have := all_perm (N := N) hw (by omega)
    exact this
  rw [Nat.zero_add] at k2
  have hs := srtT (allF_code hw hp)
  rw [sortT_of_perm hp] at hs
  obtain ⟨g, rfl⟩ : ∃ g, s2 = st ++ g := by
    refine Kp.pre (fun j hj _ => ?_) (by simp at k4; omega)
    rw [k3 j (by simp; omega) (by simp; omega), List.getElem?_append_left hj]
  refine ⟨g, ?_⟩
  have k1' : mWhile 1000 (mTru (mVar 2)) (m_all_faces_b2 c_si c_st) [some (enc s), some (.ref st.length), some (.ref (st.length + 1)), none, none, none, none] (st ++ [.lst [], .lst [.tup []]]) = _ := k1
  simp only [fnM, m_all_faces, e_Seq]
  simp [-e_Tru, k1', e_Lst, k2, hs]
end Ml

/-! how many rows -/
namespace Ml
open PySem L2
theorem len_prod (A B : List (List Int)) : (prodR A B).length = A.length * B.length := by
  induction A with
  | nil => simp [prodR]
  | cons a A ih =>
    simp only [prodR, List.flatMap_cons, List.length_append, List.length_map, List.length_cons, Nat.add_mul, Nat.one_mul] at ih ⊢
    omega
/-! products -/
theorem prod_assoc (A B C : List (List Int)) : prodR (prodR A B) C = prodR A (prodR B C) := by
  simp only [prodR, List.flatMap_assoc, List.map_flatMap, List.flatMap_map, List.map_map, Function.comp_def, List.append_assoc]
theorem pow_comm (L : List (List Int)) : ∀ n, prodR (powR L n) L = powR L (n + 1)
  | 0 => by
    show prodR [[]] L = prodR L [[]]
    rw [prod_one, one_prod]
  | n + 1 => by
    show prodR (prodR L (powR L n)) L = prodR L (powR L (n + 1))
    rw [prod_assoc, pow_comm L n]
theorem len_pow (L : List (List Int)) : ∀ n, (powR L n).length = L.length ^ n
  | 0 => rfl
  | n + 1 => by
    show (prodR L (powR L n)).length = _
    rw [len_prod, len_pow L n, Nat.pow_succ, Nat.mul_comm]
theorem pow_lens {L : List (List Int)} {a : Nat} (h : ∀ R ∈ L, R.length ≤ a) : ∀ n, ∀ R ∈ powR L n, R.length ≤ a * n
  | 0, R, hR => by simp [powR] at hR; subst hR; simp
  | n + 1, R, hR => by
    obtain ⟨r, hr, t, ht, rfl⟩ := mem_prod.mp hR
    have h1 := h r hr
    have h2 := pow_lens h n t ht
    rw [List.length_append, Nat.mul_add]
    omega
theorem die_bd {w : Option WL} {m s l : Int} (h2 : 2 ≤ s) (h6 : s ≤ 6) (hl : ∀ x, w = some x → lastOk x m s l) : (dieRows w s l).length ≤ 36 ∧ ∀ R ∈ dieRows w s l, R.length ≤ 3 := by
  have plain : (∀ f, dieTl w s l f = [[]]) → (dieRows w s l).length ≤ 36 ∧ ∀ R ∈ dieRows w s l, R.length ≤ 3 := fun e2 => by
    unfold dieRows
    constructor
    · have := flat_le (g := fun f => (dieTl w s l f).map (f :: ·)) (B := 1) (faces s.toNat) fun f _ => by simp [e2]
      simp only [faces, List.length_map, List.length_range] at this ⊢
      omega
    · intro R hR
      obtain ⟨f, _, hR⟩ := List.mem_flatMap.mp hR
      simp [e2] at hR
      subst hR
      simp
  cases w with
  | none => exact plain fun _ => rfl
  | some w =>
    cases w with
    | high => exact plain fun _ => rfl
    | low => exact plain fun _ => rfl
    | count => exact plain fun _ => rfl
    | again =>
      have := hl .again rfl
      simp only [lastOk] at this
      obtain ⟨l1, l2⟩ := this
      obtain ⟨sn, rfl⟩ : ∃ n : Nat, s = n := ⟨s.toNat, by omega⟩
      obtain ⟨ln, rfl⟩ : ∃ n : Nat, l = n := ⟨l.toNat, by omega⟩
      have hs : sn = 2 ∨ sn = 3 ∨ sn = 4 ∨ sn = 5 ∨ sn = 6 := by omega
      have hl' : ln = 1 ∨ ln = 2 ∨ ln = 3 ∨ ln = 4 ∨ ln = 5 := by omega
      rcases hs with rfl | rfl | rfl | rfl | rfl <;> rcases hl' with rfl | rfl | rfl | rfl | rfl <;> first | decide | omega
    | burst =>
      have := hl .burst rfl
      simp only [lastOk] at this
      obtain ⟨l1, l2⟩ := this
      obtain ⟨sn, rfl⟩ : ∃ n : Nat, s = n := ⟨s.toNat, by omega⟩
      obtain ⟨ln, rfl⟩ : ∃ n : Nat, l = n := ⟨l.toNat, by omega⟩
      have hs : sn = 2 ∨ sn = 3 ∨ sn = 4 ∨ sn = 5 ∨ sn = 6 := by omega
      have hl' : ln = 1 ∨ ln = 2 := by omega
      rcases hs with rfl | rfl | rfl | rfl | rfl <;> rcases hl' with rfl | rfl <;> decide
theorem all_bd : ∀ s, Wf s → (allRows s).length ≤ 36 ^ (dice s).toNat
  | .num n, _ => by simp [allRows, dice]
  | .die m s, h => by
    have := (die_bd (w := none) (m := m) (s := s) (l := 0) h.2.2.1 h.2.2.2 (fun x z => by cases z)).1
    simp only [allRows, dice, len_pow]
    exact Nat.pow_le_pow_left this _
  | .dl w m s l, h => by
    have := (die_bd (w := some w) (m := m) (s := s) (l := l) h.2.2.1 h.2.2.2.1 (fun x z => by cases z; exact h.2.2.2.2)).1
    simp only [allRows, dice, len_pow]
    exact Nat.pow_le_pow_left this _
  | .times n a, h => all_bd a h.2.2
  | .two w a b, h => by
    have h1 := all_bd a h.1
    have h2 := all_bd b h.2
    have d1 := dice_pos a h.1
    have d2 := dice_pos b h.2
    simp only [allRows, dice, len_prod]
    have e : (dice a + dice b).toNat = (dice a).toNat + (dice b).toNat := by omega
    rw [e, Nat.pow_add]
    exact Nat.mul_le_mul h1 h2
theorem all_lens {s : Say} (hw : Wf s) (hd : dice s ≤ 6) : ∀ R ∈ allRows s, R.length ≤ 18 := fun R hR => by
  have h1 := acc_st.mp (((enum_W s hw).2 R).mp hR)
  have := stR_len hw h1
  omega
end Ml

namespace L17
open PySem L2 Ml
theorem l_take {n : Nat} (hn : 1 ≤ n) : TakeP (callN n .Faces_take) := by
  obtain ⟨m, rfl⟩ : ∃ m, n = m + 1 := ⟨n - 1, by omega⟩
  exact fun st i T r o s hs h => take_ok hs h
theorem l_diew {n : Nat} (hn : 2 ≤ n) {i : Nat} {T : List Int} : ∀ w m s l st r o, Ml.small64 s = true → 0 ≤ l → l ≤ 10 → FAt st i T r o → RdF st i T (pDieL w s l r o) (callN n .die_worth [.ref i, leafD w m s l] st) := by
  obtain ⟨k, rfl⟩ : ∃ m, n = m + 1 := ⟨n - 1, by omega⟩
  exact fun w m s l st r o hs h0 h1 h => die_ok (c := callN k .Faces_take) (l_take (by omega)) hs h0 h1 h
theorem l_worth {i : Nat} {T : List Int} : ∀ (n : Nat) (s : Say), dep s + 2 ≤ n → Wf s → ∀ st r o, FAt st i T r o → RdF st i T (pW s r o) (callN n .worth_of [.ref i, enc s] st)
  | 0, _, h, _, _, _, _, _ => absurd h (by omega)
  | n + 1, s, h, hw, st, r, o, hF => by
    have := dep_pos s
    refine worth_step (c_die := callN n .die_worth) (c_two := callN n .of_two) (c_w := callN n .worth_of) hw (l_diew (by omega)) (fun w a b st => ?_) (fun a ha hwa st r o hF => l_worth n a (by omega) hwa st r o hF) hF
    obtain ⟨m, rfl⟩ : ∃ m, n = m + 1 := ⟨n - 1, by omega⟩
    exact twoW_ok w a b st
theorem l_sides : ∀ (n : Nat) (s : Say) (st : Sto), dep s ≤ n → callN n .sides_in [enc s] st = .ok (.int (sidesI s)) st
  | 0, s, _, h => absurd (Nat.le_trans (dep_pos s) h) (by decide)
  | n + 1, s, st, h => sides_step (c := callN n .sides_in) fun a ha => l_sides n a st (by omega)
theorem l_state {n : Nat} {s : Say} (hn : dep s + 3 ≤ n) (hw : Wf s) : ∀ R st, ∃ g, callN n .state_of [enc s, tupR R] st = .ok (.int (stR s R)) (st ++ g) := fun R st => by
  have := dep_pos s
  obtain ⟨m, rfl⟩ : ∃ m, n = m + 1 := ⟨n - 1, by omega⟩
  exact state_ok (c_w := callN m .worth_of) (by omega) fun st i h => l_worth m s (by omega) hw st R 1 h
theorem l_allf {n : Nat} {s : Say} (hn : dep s + 4 ≤ n) (hw : Wf s) (hd : dice s ≤ 2 ∨ (sidesI s ≤ 3 ∧ dice s ≤ 3)) (st : Sto) : ∃ g, callN n .all_faces [enc s] st = .ok (.tup ((sortT (allRows s)).map tupR)) (st ++ g) := by
  obtain ⟨m, rfl⟩ : ∃ m, n = m + 1 := ⟨n - 1, by omega⟩
  have d0 := dice_pos s hw
  have s6 := sides_bd s hw
  have hB : (3 * (dice s).toNat + 2) * (max 1 (sidesI s).toNat) ^ (3 * (dice s).toNat) ≤ 800000 := by
    rcases hd with h | ⟨h1, h2⟩
    · have e1 : (max 1 (sidesI s).toNat) ^ (3 * (dice s).toNat) ≤ 6 ^ 6 := Nat.le_trans (Nat.pow_le_pow_left (by omega) _) (Nat.pow_le_pow_right (by decide) (by omega))
      have := Nat.mul_le_mul (show 3 * (dice s).toNat + 2 ≤ 8 by omega) e1
      omega
    · have e1 : (max 1 (sidesI s).toNat) ^ (3 * (dice s).toNat) ≤ 3 ^ 9 := Nat.le_trans (Nat.pow_le_pow_left (by omega) _) (Nat.pow_le_pow_right (by decide) (by omega))
      have := Nat.mul_le_mul (show 3 * (dice s).toNat + 2 ≤ 11 by omega) e1
      omega
  exact allF_ok (c_si := callN m .sides_in) (c_st := callN m .state_of) hw hB (by omega) (fun st => l_sides m s st (by omega)) (l_state (by omega) hw)
end L17

namespace L17
open PySem L2 Ml
section
variable {n : Nat} {s : Say} {T : List Int} {st : Sto} {a o : Int}
theorem l_readf_no (hn : dep s + 3 ≤ n) (hw : Wf s) (h : acc s T = none) : ∃ g, callN n .read_faces [enc s, rowT T] st = .exc "NoFaces" [] (st ++ g) := by
  obtain ⟨m, rfl⟩ : ∃ m, n = m + 1 := ⟨n - 1, by omega⟩
  exact read_no (c_w := callN m .worth_of) (by omega) (fun st i hF => l_worth m s (by omega) hw st T 1 hF) h
theorem l_readf_yes (hn : dep s + 3 ≤ n) (hw : Wf s) (h : acc s T = some (a, o)) : ∃ g, callN n .read_faces [enc s, rowT T] st = .ok (.tup [.ref st.length, .int a]) (st ++ g) ∧ insAt (st ++ g) "Faces" (.ref st.length) = some (st.length, ffs T T.length o) := by
  obtain ⟨m, rfl⟩ : ∃ m, n = m + 1 := ⟨n - 1, by omega⟩
  exact read_yes (c_w := callN m .worth_of) (by omega) (fun st i hF => l_worth m s (by omega) hw st T 1 hF) h
theorem l_fall_no (hn : dep s + 4 ≤ n) (hw : Wf s) (h : acc s T = none) : ∃ g, callN n .fall [enc s, rowT T] st = .exc "NoFaces" [] (st ++ g) := by
  obtain ⟨m, rfl⟩ : ∃ m, n = m + 1 := ⟨n - 1, by omega⟩
  obtain ⟨g, e⟩ := l_readf_no (n := m) (st := st) (by omega) hw h
  exact ⟨g, fall_no (c_read := callN m .read_faces) e⟩
theorem l_fall_yes (hn : dep s + 4 ≤ n) (hw : Wf s) (h : acc s T = some (a, o)) : ∃ g, callN n .fall [enc s, rowT T] st = .ok (.int a) (st ++ g) := by
  obtain ⟨m, rfl⟩ : ∃ m, n = m + 1 := ⟨n - 1, by omega⟩
  obtain ⟨g, e, _⟩ := l_readf_yes (n := m) (st := st) (by omega) hw h
  exact ⟨g, fall_yes (c_read := callN m .read_faces) e⟩
end
end L17

/-! rows and shares: the rows' chances come to the book's counts -/
namespace Ml
open PySem L2
/-- the part of one row -/
def wOne {α : Type} (p : Fp α) (K : Int) (f : α → Int) (R : List Int) : Int := match p R 1 with
  | .ok a [] o => (K / o) * f a
  | _ => 0
def wSum {α : Type} (p : Fp α) (L : List (List Int)) (K : Int) (f : α → Int) : Int := (L.map (wOne p K f)).sum
structure Rep {α : Type} (p : Fp α) (L : List (List Int)) (G : (α → Int) → Int) (m n : Int) : Prop where
  pos : 0 < n
  dv : ∀ R ∈ L, ∀ a o, p R 1 = .ok a [] o → 0 < o ∧ o ∣ n
  eq : ∀ K, n ∣ K → ∀ f, m * wSum p L K f = K * G f
theorem rep_pure {α : Type} (a : α) : Rep (fpure a) [[]] (fun f => f a) 1 1 := by
  refine ⟨by decide, fun R hR a' o e => ?_, fun K _ f => ?_⟩
  · simp only [List.mem_singleton] at hR
    subst hR
    cases e
    exact ⟨by decide, Int.dvd_refl _⟩
  · simp [wSum, wOne, fpure]
theorem sum_mul (c : Int) : ∀ xs : List Int, c * xs.sum = (xs.map fun x => c * x).sum
  | [] => by simp
  | x :: xs => by simp [Int.mul_add, sum_mul c xs]
theorem sum_flat {α β : Type} (g : α → List β) (f : β → Int) : ∀ L : List α, ((L.flatMap g).map f).sum = (L.map fun a => ((g a).map f).sum).sum
  | [] => rfl
  | a :: L => by simp [sum_flat g f L]
theorem w_bind {α β : Type} {p : Fp α} {q : α → Fp β} {r : List Int} {B : List (List Int)} {a : α} {o K : Int} {f : β → Int} (hp : GoodF p) (hm : ∀ a, MulF (q a)) (e : p r 1 = .ok a [] o) (ho : 0 < o) : (B.map fun t => wOne (fbind p q) K f (r ++ t)).sum = wSum (q a) B (K / o) f := by
  unfold wSum
  congr 1
  refine List.map_congr_left fun t _ => ?_
  have h1 : fbind p q (r ++ t) 1 = q a t o := by
    obtain ⟨A', e1, e2, _⟩ := hp r 1 a [] o e
    rw [List.append_nil] at e1
    subst e1
    unfold fbind
    rw [e2 t]
    rfl
  unfold wOne
  rw [h1]
  cases h : q a t 1 with
  | no r' o' =>
    cases h' : q a t o with
    | no _ _ => rfl
    | ok b r2 o2 =>
      obtain ⟨mo, _, e2⟩ := hm a t o b r2 o2 h'
      rw [e2 1] at h
      cases h
  | ok b r2 o2 =>
    obtain ⟨mo, e1, e2⟩ := hm a t 1 b r2 o2 h
    rw [e2 o]
    rw [Int.one_mul] at e1
    subst e1
    cases r2 with
    | nil =>
      simp only
      rw [Int.ediv_ediv_of_nonneg (by omega)]
    | cons _ _ => rfl
theorem rep_bind {α β : Type} {p : Fp α} {q : α → Fp β} {A B : List (List Int)} {G : (α → Int) → Int} {G' : α → (β → Int) → Int} {m n m' n' : Int} (hp : GoodF p) (hA : EnumF p A) (hm : ∀ a, MulF (q a)) (h1 : Rep p A G m n) (hn' : 0 < n') (h2 : ∀ a, Rep (q a) B (G' a) m' n') : Rep (fbind p q) (prodR A B) (fun f => G fun a => G' a f) (m * m') (n * n') := by
  refine ⟨Int.mul_pos h1.pos hn', fun R hR b o2 e => ?_, fun K hK f => ?_⟩
  · obtain ⟨r, hr, t, ht, rfl⟩ := mem_prod.mp hR
    obtain ⟨a, o, er⟩ := (hA.2 r).mp hr
    obtain ⟨o0, on⟩ := h1.dv r hr a o er
    have hb : fbind p q (r ++ t) 1 = q a t o := by
      obtain ⟨A', e1, e2, _⟩ := hp r 1 a [] o er
      rw [List.append_nil] at e1
      subst e1
      unfold fbind
      rw [e2 t]
      rfl
    rw [hb] at e
    obtain ⟨mo, e1, e2⟩ := hm a t o b [] o2 e
    have e3 := e2 1
    rw [Int.one_mul] at e3
    obtain ⟨m0, mn⟩ := (h2 a).dv t ht b mo e3
    subst e1
    exact ⟨Int.mul_pos o0 m0, Int.mul_dvd_mul on mn⟩
  · obtain ⟨c, rfl⟩ := hK
    have hnK : n ∣ n * n' * c := ⟨n' * c, by rw [Int.mul_assoc]⟩
    have key : ∀ r ∈ A, m' * ((B.map (r ++ ·)).map (wOne (fbind p q) (n * n' * c) f)).sum = wOne p (n * n' * c) (fun a => G' a f) r := fun r hr => by
      obtain ⟨a, o, er⟩ := (hA.2 r).mp hr
      obtain ⟨o0, on⟩ := h1.dv r hr a o er
      have hd : n' ∣ n * n' * c / o := by
        obtain ⟨e, rfl⟩ := on
        refine ⟨e * c, ?_⟩
        rw [show o * e * n' * c = o * (n' * (e * c)) by ac_rfl, Int.mul_ediv_cancel_left _ (by omega)]
      rw [List.map_map]
      have := w_bind (B := B) (K := n * n' * c) (f := f) hp hm er o0
      simp only [Function.comp_def]
      rw [this, (h2 a).eq _ hd f]
      unfold wOne
      rw [er]
    have : wSum (fbind p q) (prodR A B) (n * n' * c) f = (A.map fun r => ((B.map (r ++ ·)).map (wOne (fbind p q) (n * n' * c) f)).sum).sum := by
      unfold wSum prodR
      rw [sum_flat]
    rw [this, Int.mul_assoc m m', sum_mul m', List.map_map]
    rw [show (A.map ((fun x => m' * x) ∘ fun r => ((B.map (r ++ ·)).map (wOne (fbind p q) (n * n' * c) f)).sum)) = A.map (wOne p (n * n' * c) fun a => G' a f) from List.map_congr_left key]
    exact h1.eq _ hnK _
theorem rep_map {α β : Type} {p : Fp α} {A : List (List Int)} {G : (α → Int) → Int} {m n : Int} (hp : GoodF p) (hA : EnumF p A) (h1 : Rep p A G m n) (g : α → β) : Rep (fbind p fun x => fpure (g x)) A (fun f => G fun a => f (g a)) m n := by
  have := rep_bind (q := fun x => fpure (g x)) (B := [[]]) (G' := fun a f => f (g a)) hp hA (fun a => mul_pure _) h1 (by decide) fun a => rep_pure (g a)
  rwa [one_prod, Int.mul_one, Int.mul_one] at this
theorem Rep.ext {α : Type} {p : Fp α} {L : List (List Int)} {G G' : (α → Int) → Int} {m n : Int} (h : Rep p L G m n) (e : ∀ f, G f = G' f) : Rep p L G' m n := ⟨h.pos, h.dv, fun K hK f => by rw [h.eq K hK f, e]⟩
/-- several -/
def gMany {α : Type} (G : (α → Int) → Int) : Nat → (List α → Int) → Int
  | 0, f => f []
  | n + 1, f => G fun x => gMany G n fun xs => f (x :: xs)
theorem rep_many {α : Type} {p : Fp α} {L : List (List Int)} {G : (α → Int) → Int} {m n : Int} (hp : GoodF p) (hm : MulF p) (hL : EnumF p L) (h : Rep p L G m n) : ∀ k, Rep (pMany p k) (powR L k) (gMany G k) (m ^ k) (n ^ k)
  | 0 => by
    rw [Int.pow_zero, Int.pow_zero]
    exact rep_pure []
  | k + 1 => by
    have ih := rep_many hp hm hL h k
    have := rep_bind (q := fun x => fbind (pMany p k) fun xs => fpure (x :: xs)) (B := powR L k) (G' := fun x f => gMany G k fun xs => f (x :: xs)) hp hL (fun a => mul_bind (mul_many hm k) fun xs => mul_pure _) h ih.pos fun a => rep_map (good_many hp k) (enum_many hp hm hL k) ih fun xs => a :: xs
    rw [Int.mul_comm m, Int.mul_comm n, ← Int.pow_succ, ← Int.pow_succ] at this
    exact this
theorem many_sum {D : List (Int × Int)} : ∀ (k : Nat) (f : Int → Int), gMany (E D) k (fun xs => f xs.sum) = E (powB D k) f
  | 0, f => by simp [gMany, powB, E]
  | k + 1, f => by
    simp only [gMany, List.sum_cons, powB]
    rw [E_two]
    have : (fun x => gMany (E D) k fun xs => f (x + xs.sum)) = fun x => E (powB D k) fun y => f (x + y) := by
      funext x
      exact many_sum k fun y => f (x + y)
    rw [this, E_swap]
    congr 1
    funext x
    congr 1
    funext y
    simp only [of2]
    rw [Int.add_comm]
/-- by a look -/
def outW (p : Fp Int) (L : List (List Int)) (n : Int) : List (Int × Int) := L.map fun R => match p R 1 with
  | .ok a [] o => (a, n / o)
  | _ => (0, 0)
def dvB (p : Fp Int) (L : List (List Int)) (n : Int) : Bool := L.all fun R => match p R 1 with
  | .ok _ [] o => decide (0 < o) && decide (n % o = 0)
  | _ => true
theorem rep_look {p : Fp Int} {L : List (List Int)} {A : List (Int × Int)} {m n c : Int} (hn : 0 < n) (hd : dvB p L n = true) (nA : (ks A).Nodup) (hs : srt (addAll [] (outW p L n)) = (srt A).map fun z => (z.1, c * z.2)) (hc : m * c = n) : Rep p L (E A) m n := by
  have dv : ∀ R ∈ L, ∀ a o, p R 1 = .ok a [] o → 0 < o ∧ o ∣ n := fun R hR a o e => by
    have := List.all_eq_true.mp hd R hR
    rw [e] at this
    simp only [Bool.and_eq_true, decide_eq_true_eq] at this
    exact ⟨this.1, Int.dvd_of_emod_eq_zero this.2⟩
  have hE : ∀ f, E (outW p L n) f = c * E A f := fun f => by
    have h1 := E_addAll f (outW p L n) [] (by simp [ks])
    have h2 : (ks (addAll [] (outW p L n))).Nodup := by
      have : ∀ (cs b : List (Int × Int)), (ks b).Nodup → (ks (addAll b cs)).Nodup := fun cs => by
        induction cs with
        | nil => exact fun b h => h
        | cons z cs ih => exact fun b h => ih _ (nodup_addC h)
      exact this _ _ (by simp [ks])
    rw [E_nil, Int.zero_add] at h1
    rw [← h1, ← E_srt h2, hs, ← E_srt nA]
    generalize srt A = L
    induction L with
    | nil => simp
    | cons z L ih => simp only [List.map_cons, E_cons, ih, Int.mul_add]; congr 1; ac_rfl
  refine ⟨hn, dv, fun K hK f => ?_⟩
  obtain ⟨k, rfl⟩ := hK
  have hw : wSum p L (n * k) f = k * E (outW p L n) f := by
    unfold wSum E outW
    rw [sum_mul, List.map_map, List.map_map]
    congr 1
    refine List.map_congr_left fun R hR => ?_
    simp only [Function.comp_def, wOne]
    cases h : p R 1 with
    | no _ _ => simp
    | ok a r o =>
      cases r with
      | cons _ _ => simp
      | nil =>
        simp only
        obtain ⟨o0, e, rfl⟩ := dv R hR a o h
        rw [show o * e * k = o * (e * k) by ac_rfl, Int.mul_ediv_cancel_left _ (by omega), Int.mul_ediv_cancel_left _ (by omega)]
        ac_rfl
  rw [hw, hE, show m * (k * (c * E A f)) = m * c * k * E A f by ac_rfl, hc]
end Ml

/-! rows and shares of a saying -/
namespace Ml
open PySem L2
def dieBk : Option WL → Nat → Int → List (Int × Int)
  | some .again, s, l => dAgain s l
  | some .burst, s, l => dBurst s l.toNat
  | some .count, s, l => dCount s l
  | _, s, _ => dDice s
def dieMk : Option WL → Int → Int → Int
  | some .again, s, _ => s * s
  | some .burst, s, l => s ^ l.toNat * s
  | _, s, _ => s
def kpW : Option WL → Bool
  | some .high => true
  | some .low => true
  | _ => false
def dieCk : Option WL → Int → Int → Int
  | some .again, s, _ => s
  | some .burst, s, l => if l = 1 then s else 1
  | _, s, _ => s * s
def lookB (w : Option WL) (s l : Int) : Bool := dvB (pDieL w s l) (dieRows w s l) (s * s * s) && (decide (ks (dieBk w s.toNat l)).Nodup && (decide (srt (addAll [] (outW (pDieL w s l) (dieRows w s l) (s * s * s))) = (srt (dieBk w s.toNat l)).map fun z => (z.1, dieCk w s l * z.2)) && decide (dieMk w s l * dieCk w s l = s * s * s)))
theorem rep_of_look {w : Option WL} {s l : Int} (h2 : 2 ≤ s) (h : lookB w s l = true) : Rep (pDieL w s l) (dieRows w s l) (E (dieBk w s.toNat l)) (dieMk w s l) (s * s * s) := by
  unfold lookB at h
  rw [Bool.and_eq_true, Bool.and_eq_true, Bool.and_eq_true] at h
  obtain ⟨h1, h3, h4, h5⟩ := h
  exact rep_look (Int.mul_pos (Int.mul_pos (by omega) (by omega)) (by omega)) h1 (of_decide_eq_true h3) (of_decide_eq_true h4) (of_decide_eq_true h5)
theorem rep_die {w : Option WL} {m s l : Int} (h2 : 2 ≤ s) (h6 : s ≤ 6) (hl : ∀ x, w = some x → lastOk x m s l) (hl0 : w = none → l = 0) (hk : kpW w = false) : Rep (pDieL w s l) (dieRows w s l) (E (dieBk w s.toNat l)) (dieMk w s l) (s * s * s) := by
  refine rep_of_look h2 ?_
  have hs : s = 2 ∨ s = 3 ∨ s = 4 ∨ s = 5 ∨ s = 6 := by omega
  cases w with
  | none =>
    have := hl0 rfl
    subst this
    rcases hs with rfl | rfl | rfl | rfl | rfl <;> decide +kernel
  | some w =>
    have h5 := hl w rfl
    cases w with
    | high => cases hk
    | low => cases hk
    | again =>
      simp only [lastOk] at h5
      have hl' : l = 1 ∨ l = 2 ∨ l = 3 ∨ l = 4 ∨ l = 5 := by omega
      rcases hs with rfl | rfl | rfl | rfl | rfl <;> rcases hl' with rfl | rfl | rfl | rfl | rfl <;> first | omega | decide +kernel
    | count =>
      simp only [lastOk] at h5
      have hl' : l = 2 ∨ l = 3 ∨ l = 4 ∨ l = 5 ∨ l = 6 := by omega
      rcases hs with rfl | rfl | rfl | rfl | rfl <;> rcases hl' with rfl | rfl | rfl | rfl | rfl <;> first | omega | decide +kernel
    | burst =>
      simp only [lastOk] at h5
      have hl' : l = 1 ∨ l = 2 := by omega
      rcases hs with rfl | rfl | rfl | rfl | rfl <;> rcases hl' with rfl | rfl <;> decide +kernel
def hiW (b : Bool) : WL := if b = true then .high else .low
def keepB (b : Bool) (m s l : Int) : Bool := dvB (pLeaf (some (hiW b)) m s l) (powR (dieRows (some (hiW b)) s l) m.toNat) ((s * s * s) ^ m.toNat) && (decide (ks (dKept b s.toNat m.toNat l.toNat)).Nodup && (decide (srt (addAll [] (outW (pLeaf (some (hiW b)) m s l) (powR (dieRows (some (hiW b)) s l) m.toNat) ((s * s * s) ^ m.toNat))) = (srt (dKept b s.toNat m.toNat l.toNat)).map fun z => (z.1, (s * s) ^ m.toNat * z.2)) && decide (s ^ m.toNat * (s * s) ^ m.toNat = (s * s * s) ^ m.toNat)))
theorem rep_kept {b : Bool} {m s l : Int} (hm1 : 1 ≤ m) (hm3 : m ≤ 3) (h2 : 2 ≤ s) (h6 : s ≤ 6) (hl1 : 1 ≤ l) (hlm : l ≤ m) : Rep (pLeaf (some (hiW b)) m s l) (powR (dieRows (some (hiW b)) s l) m.toNat) (E (dKept b s.toNat m.toNat l.toNat)) (s ^ m.toNat) ((s * s * s) ^ m.toNat) := by
  have h : keepB b m s l = true := by
    have hs : s = 2 ∨ s = 3 ∨ s = 4 ∨ s = 5 ∨ s = 6 := by omega
    have hm' : m = 1 ∨ m = 2 ∨ m = 3 := by omega
    have hl' : l = 1 ∨ l = 2 ∨ l = 3 := by omega
    rcases hm' with rfl | rfl | rfl <;> rcases hl' with rfl | rfl | rfl <;> rcases hs with rfl | rfl | rfl | rfl | rfl <;> cases b <;> first | omega | decide +kernel
  unfold keepB at h
  rw [Bool.and_eq_true, Bool.and_eq_true, Bool.and_eq_true] at h
  obtain ⟨h1, h3, h4, h5⟩ := h
  exact rep_look (Int.pow_pos (Int.mul_pos (Int.mul_pos (by omega) (by omega)) (by omega))) h1 (of_decide_eq_true h3) (of_decide_eq_true h4) (of_decide_eq_true h5)
theorem sum_perm {xs ys : List Int} (h : xs.Perm ys) : xs.sum = ys.sum := by
  induction h with
  | nil => rfl
  | cons x _ ih => simp [ih]
  | swap x y l => simp only [List.sum_cons]; omega
  | trans _ _ i1 i2 => exact i1.trans i2
theorem rep_leaf {w : Option WL} {m s l : Int} (h2 : 2 ≤ s) (h6 : s ≤ 6) (hl : ∀ x, w = some x → lastOk x m s l) (hl0 : w = none → l = 0) (hk : kpW w = false) : Rep (pLeaf w m s l) (powR (dieRows w s l) m.toNat) (E (powB (dieBk w s.toNat l) m.toNat)) (dieMk w s l ^ m.toNat) ((s * s * s) ^ m.toNat) := by
  have g := good_die h6 w l
  have e := enum_die (w := w) (l := l) (by omega) h6
  have r := rep_many g (mul_die w s l) e (rep_die h2 h6 hl hl0 hk) m.toNat
  refine (rep_map (good_many g _) (enum_many g (mul_die w s l) e _) r fun xs => (keptOf w m l xs).sum).ext fun f => ?_
  rw [← many_sum]
  congr 1
  funext xs
  have : (keptOf w m l xs).sum = xs.sum := by
    have hp := sum_perm (sortI_perm xs)
    cases w with
    | none => exact hp
    | some w =>
      cases w with
      | high => cases hk
      | low => cases hk
      | again => exact hp
      | burst => exact hp
      | count => exact hp
  rw [this]
def repN : Say → Int
  | .num _ => 1
  | .die m s => (s * s * s) ^ m.toNat
  | .dl _ m s _ => (s * s * s) ^ m.toNat
  | .times _ a => repN a
  | .two _ a b => repN a * repN b
theorem of2_same (w : W2) (a b : Int) : of2w w a b = of2 w a b := by
  cases w <;> simp only [of2w, of2]
  · split <;> omega
  · split <;> omega
theorem rep_W : ∀ s, Wf s → Rep (pW s) (allRows s) (E (bookC s)) (bookM s) (repN s)
  | .num n, _ => (rep_pure n).ext fun f => by simp [bookC, E]
  | .die m s, h => rep_leaf (w := none) (l := 0) h.2.2.1 h.2.2.2 (fun x z => by cases z) (fun _ => rfl) rfl
  | .dl w m s l, h => by
    obtain ⟨h1, h3, h2, h6, h5⟩ := h
    have hl : ∀ x, some w = some x → lastOk x m s l := fun x z => by cases z; exact h5
    cases w with
    | high => exact rep_kept (b := true) h1 h3 h2 h6 h5.1 h5.2
    | low => exact rep_kept (b := false) h1 h3 h2 h6 h5.1 h5.2
    | again => exact rep_leaf (w := some .again) h2 h6 hl (fun z => by cases z) rfl
    | burst => exact rep_leaf (w := some .burst) h2 h6 hl (fun z => by cases z) rfl
    | count => exact rep_leaf (w := some .count) h2 h6 hl (fun z => by cases z) rfl
  | .times n a, h => (rep_map (good_W a h.2.2) (enum_W a h.2.2) (rep_W a h.2.2) fun x => n * x).ext fun f => by
      simp only [bookC]
      rw [E_times]
      congr 1
      funext x
      rw [Int.mul_comm]
  | .two w a b, h => by
    have rb := rep_W b h.2
    refine (rep_bind (good_W a h.1) (enum_W a h.1) (fun x => mul_bind (mul_W b) fun y => mul_pure _) (rep_W a h.1) rb.pos fun x => rep_map (good_W b h.2) (enum_W b h.2) rb fun y => of2w w x y).ext fun f => ?_
    simp only [bookC]
    rw [E_two]
    congr 1
    funext x
    congr 1
    funext y
    rw [of2_same]
theorem repN_dvd : ∀ s, Wf s → repN s ∣ (1728000 : Int) ^ (dice s).toNat
  | .num n, _ => by simp [repN, dice]
  | .die m s, h => by
    have hs : s = 2 ∨ s = 3 ∨ s = 4 ∨ s = 5 ∨ s = 6 := by have := h.2.2; omega
    have : s * s * s ∣ 1728000 := by rcases hs with rfl | rfl | rfl | rfl | rfl <;> decide
    exact (Int.pow_dvd_pow_iff (by have := h.1; show m.toNat ≠ 0; omega)).mpr this
  | .dl w m s l, h => by
    have hs : s = 2 ∨ s = 3 ∨ s = 4 ∨ s = 5 ∨ s = 6 := by have := h.2.2; omega
    have : s * s * s ∣ 1728000 := by rcases hs with rfl | rfl | rfl | rfl | rfl <;> decide
    exact (Int.pow_dvd_pow_iff (by have := h.1; show m.toNat ≠ 0; omega)).mpr this
  | .times n a, h => repN_dvd a h.2.2
  | .two w a b, h => by
    have d1 := dice_pos a h.1
    have d2 := dice_pos b h.2
    have e : (dice (.two w a b)).toNat = (dice a).toNat + (dice b).toNat := by simp only [dice]; omega
    rw [e, Int.pow_add]
    exact Int.mul_dvd_mul (repN_dvd a h.1) (repN_dvd b h.2)
end Ml

/-! the dict of the rows' chances -/
namespace Ml
open PySem L2
def of6 : Int := 2985984000000
theorem of6_eq : of6 = 1728000 ^ 2 := by decide
/-- what an accepted row brings -/
def bring (s : Say) (R : List Int) : Int × Int := match acc s R with
  | some (a, o) => (a, of6 / o)
  | none => (0, 0)
def fbk (s : Say) : List (Int × Int) := addAll [] ((sortT (allRows s)).map (bring s))
theorem acc_row {s : Say} (hw : Wf s) {R : List Int} (hR : R ∈ sortT (allRows s)) : ∃ a o, acc s R = some (a, o) ∧ pW s R 1 = .ok a [] o := by
  obtain ⟨a, o, e⟩ := ((enum_W s hw).2 R).mp ((sortT_perm _).mem_iff.mp hR)
  exact ⟨a, o, by unfold acc; rw [e], e⟩
theorem rep_of6 {s : Say} (hw : Wf s) (hd : dice s ≤ 2) : repN s ∣ of6 := by
  have d0 := dice_pos s hw
  refine Int.dvd_trans (repN_dvd s hw) ?_
  rw [of6_eq]
  obtain ⟨k, hk⟩ : ∃ k, 2 = (dice s).toNat + k := ⟨2 - (dice s).toNat, by omega⟩
  rw [hk, Int.pow_add]
  exact ⟨_, rfl⟩
theorem of_row {s : Say} (hw : Wf s) (hd : dice s ≤ 2) {R : List Int} {a o : Int} (hR : R ∈ sortT (allRows s)) (e : acc s R = some (a, o)) : 0 < o ∧ o ∣ of6 ∧ 0 < of6 / o := by
  obtain ⟨a', o', e1, e2⟩ := acc_row hw hR
  rw [e] at e1
  cases e1
  obtain ⟨h1, h2⟩ := (rep_W s hw).dv R ((sortT_perm _).mem_iff.mp hR) a o e2
  have h3 := Int.dvd_trans h2 (rep_of6 hw hd)
  obtain ⟨k, hk⟩ := h3
  refine ⟨h1, ⟨k, hk⟩, ?_⟩
  rw [hk, Int.mul_ediv_cancel_left _ (by omega)]
  have h6 : (0 : Int) < of6 := by decide
  rw [hk] at h6
  by_cases q : 0 < k
  · exact q
  · have := Int.mul_le_mul_of_nonneg_left (show k ≤ 0 by omega) (show 0 ≤ o by omega)
    rw [Int.mul_zero] at this
    omega
theorem nd_add : ∀ (cs b : List (Int × Int)), (ks b).Nodup → (ks (addAll b cs)).Nodup
  | [], b, h => h
  | z :: cs, b, h => nd_add cs _ (nodup_addC h)
theorem fbk_nd (s : Say) : (ks (fbk s)).Nodup := nd_add _ _ (by simp [ks])
theorem fbk_E {s : Say} (hw : Wf s) (hd : dice s ≤ 2) (f : Int → Int) : bookM s * E (fbk s) f = of6 * E (bookC s) f := by
  have h1 := (rep_W s hw).eq of6 (rep_of6 hw hd) f
  have h2 : E (fbk s) f = wSum (pW s) (allRows s) of6 f := by
    unfold fbk
    rw [E_addAll f _ [] (by simp [ks]), E_nil, Int.zero_add]
    unfold wSum E
    rw [List.map_map]
    have hc : ((sortT (allRows s)).map ((fun z => f z.1 * z.2) ∘ bring s)) = (sortT (allRows s)).map (wOne (pW s) of6 f) := by
      refine List.map_congr_left fun R hR => ?_
      obtain ⟨a, o, e1, e2⟩ := acc_row hw hR
      simp only [Function.comp_def, bring, e1, wOne, e2]
      exact Int.mul_comm _ _
    rw [hc]
    exact sum_perm ((sortT_perm _).map _)
  rw [h2, h1]
theorem fbk_cnt {s : Say} (hw : Wf s) (hd : dice s ≤ 2) (w : Int) : bookM s * cnt (fbk s) w = of6 * cnt (bookC s) w := by
  rw [E_cnt (fbk_nd s), E_cnt (gb_book s hw).nd, fbk_E hw hd]
theorem fbk_pos {s : Say} (hw : Wf s) (hd : dice s ≤ 2) : ∀ z ∈ fbk s, 0 < z.2 := by
  refine pos_addAll (by simp) fun z hz => ?_
  obtain ⟨R, hR, rfl⟩ := List.mem_map.mp hz
  obtain ⟨a, o, e1, e2⟩ := acc_row hw hR
  simp only [bring, e1]
  exact (of_row hw hd hR e1).2.2
theorem mul_pos_iff {a b : Int} (ha : 0 < a) : a * b = 0 ↔ b = 0 := by
  constructor
  · intro h
    rcases Int.mul_eq_zero.mp h with h | h
    · omega
    · exact h
  · intro h; rw [h, Int.mul_zero]
theorem fbk_key {s : Say} (hw : Wf s) (hd : dice s ≤ 2) (w : Int) : w ∈ ks (fbk s) ↔ w ∈ ks (bookC s) := by
  have h6 : (0 : Int) < of6 := by decide
  have h1 := fbk_cnt hw hd w
  have kb := key_iff (gb_book s hw) w
  have kf : w ∈ ks (fbk s) ↔ cnt (fbk s) w ≠ 0 := by
    constructor
    · intro h
      obtain ⟨z, hz, rfl⟩ := List.mem_map.mp h
      rw [cnt_mem (fbk_nd s) hz]
      have := fbk_pos hw hd z hz
      omega
    · intro h
      by_cases q : w ∈ ks (fbk s)
      · exact q
      · exact absurd (cnt_out q) h
  rw [kf, kb]
  constructor
  · intro h q
    rw [q, Int.mul_zero] at h1
    exact h ((mul_pos_iff (bookM_pos s hw)).mp h1)
  · intro h q
    rw [q, Int.mul_zero] at h1
    exact h ((mul_pos_iff h6).mp h1.symm)
theorem fbk_tot {s : Say} (hw : Wf s) (hd : dice s ≤ 2) : tot (fbk s) = of6 := by
  have h := fbk_E hw hd fun _ => 1
  rw [E_one, E_one, (gb_book s hw).tot, Int.mul_comm of6] at h
  have m0 := bookM_pos s hw
  exact Int.eq_of_mul_eq_mul_left (by omega) h
theorem fbk_gb {s : Say} (hw : Wf s) (hd : dice s ≤ 2) : GB (fbk s) of6 (bookR s) := ⟨fbk_nd s, fbk_pos hw hd, fbk_tot hw hd, fun k hk => (gb_book s hw).rg k ((fbk_key hw hd k).mp hk)⟩
theorem fbk_keys {s : Say} (hw : Wf s) (hd : dice s ≤ 2) : sortI (ks (fbk s)) = sortI (ks (bookC s)) := sortI_eq (perm_of_iff (fbk_nd s) (gb_book s hw).nd (fbk_key hw hd))
theorem fbk_fr {s : Say} (hw : Wf s) (hd : dice s ≤ 2) (w : Int) : fr (cnt (fbk s) w) of6 = fr (cnt (bookC s) w) (bookM s) := by
  have m0 := bookM_pos s hw
  have h6 : (0 : Int) < of6 := by decide
  rw [← fr_scale (x := cnt (fbk s) w) (y := of6) m0, fbk_cnt hw hd w, Int.mul_comm (bookM s) of6, fr_scale h6]
end Ml

/-! rows of one length; worths of all rows -/
namespace Ml
open PySem L2
/-- no die of it is thrown again -/
def plainS : Say → Bool
  | .num _ => true
  | .die _ _ => true
  | .dl .again _ _ _ => false
  | .dl .burst _ _ _ => false
  | .dl _ _ _ _ => true
  | .times _ a => plainS a
  | .two _ a b => plainS a && plainS b
def OfF {α : Type} (p : Fp α) (L : List (List Int)) (c : Int) : Prop := ∀ R ∈ L, ∀ a o, p R 1 = .ok a [] o → o = c
theorem of_pure {α : Type} (a : α) (L : List (List Int)) : OfF (fpure a) L 1 := fun R _ a' o e => by
  unfold fpure at e
  cases e
  rfl
theorem of_bind {α β : Type} {p : Fp α} {q : α → Fp β} {A B : List (List Int)} {c d : Int} (hp : GoodF p) (hA : EnumF p A) (hm : ∀ a, MulF (q a)) (h1 : OfF p A c) (h2 : ∀ a, OfF (q a) B d) : OfF (fbind p q) (prodR A B) (c * d) := fun R hR b o2 e => by
  obtain ⟨r, hr, t, ht, rfl⟩ := mem_prod.mp hR
  obtain ⟨a, o, er⟩ := (hA.2 r).mp hr
  have ho := h1 r hr a o er
  have hb : fbind p q (r ++ t) 1 = q a t o := by
    obtain ⟨A', e1, e2, _⟩ := hp r 1 a [] o er
    rw [List.append_nil] at e1
    subst e1
    unfold fbind
    rw [e2 t]
    rfl
  rw [hb] at e
  obtain ⟨mo, e1, e2⟩ := hm a t o b [] o2 e
  have e3 := e2 1
  rw [Int.one_mul] at e3
  have := h2 a t ht b mo e3
  rw [e1, ho, this]
theorem of_map {α β : Type} {p : Fp α} {A : List (List Int)} {c : Int} (hp : GoodF p) (hA : EnumF p A) (h1 : OfF p A c) (g : α → β) : OfF (fbind p fun x => fpure (g x)) A c := by
  have := of_bind (q := fun x => fpure (g x)) (B := [[]]) hp hA (fun a => mul_pure _) h1 fun a => of_pure (g a) _
  rwa [one_prod, Int.mul_one] at this
theorem of_many {α : Type} {p : Fp α} {L : List (List Int)} {c : Int} (hp : GoodF p) (hm : MulF p) (hL : EnumF p L) (h : OfF p L c) : ∀ k, OfF (pMany p k) (powR L k) (c ^ k)
  | 0 => by
    rw [Int.pow_zero]
    exact of_pure [] _
  | k + 1 => by
    have := of_bind (q := fun x => fbind (pMany p k) fun xs => fpure (x :: xs)) (B := powR L k) hp hL (fun a => mul_bind (mul_many hm k) fun xs => mul_pure _) h fun a => of_map (good_many hp k) (enum_many hp hm hL k) (of_many hp hm hL h k) fun xs => a :: xs
    rw [Int.mul_comm c, ← Int.pow_succ] at this
    exact this
theorem of_take (s : Int) (L : List (List Int)) : OfF (pTake s) L s := fun R _ a o e => by
  cases R with
  | nil => cases e
  | cons f r =>
    simp only [pTake] at e
    split at e
    · cases e; rw [Int.one_mul]
    · cases e
theorem of_leaf {w : Option WL} {m s l : Int} (h2 : 2 ≤ s) (h6 : s ≤ 6) (hw : w ≠ some .again ∧ w ≠ some .burst) : OfF (pLeaf w m s l) (powR (dieRows w s l) m.toNat) (s ^ m.toNat) := by
  have hd : OfF (pDieL w s l) (dieRows w s l) s := by
    have e := enum_die (w := w) (l := l) (by omega) h6
    cases w with
    | none => exact of_take s _
    | some w =>
      cases w with
      | high => exact of_take s _
      | low => exact of_take s _
      | count =>
        intro R _ a o e
        simp only [pDieL, fbind] at e
        cases R with
        | nil => cases e
        | cons f r =>
          simp only [pTake] at e
          split at e
          · simp only [ft_ok, fpure] at e
            cases e
            rw [Int.one_mul]
          · cases e
      | again => exact absurd rfl hw.1
      | burst => exact absurd rfl hw.2
  have g := good_die h6 w l
  have e := enum_die (w := w) (l := l) (by omega) h6
  exact of_map (good_many g _) (enum_many g (mul_die w s l) e _) (of_many g (mul_die w s l) e hd _) _
def ofS : Say → Int
  | .num _ => 1
  | .die m s => s ^ m.toNat
  | .dl _ m s _ => s ^ m.toNat
  | .times _ a => ofS a
  | .two _ a b => ofS a * ofS b
theorem of_W : ∀ s, Wf s → plainS s = true → OfF (pW s) (allRows s) (ofS s)
  | .num n, _, _ => of_pure n _
  | .die m s, h, _ => of_leaf (w := none) h.2.2.1 h.2.2.2 ⟨by simp, by simp⟩
  | .dl w m s l, h, hp => by
    have hw : some w ≠ some .again ∧ some w ≠ some .burst := by cases w <;> simp [plainS] at hp ⊢
    exact of_leaf (w := some w) h.2.2.1 h.2.2.2.1 hw
  | .times n a, h, hp => of_map (good_W a h.2.2) (enum_W a h.2.2) (of_W a h.2.2 hp) _
  | .two w a b, h, hp => by
    simp only [plainS, Bool.and_eq_true] at hp
    exact of_bind (good_W a h.1) (enum_W a h.1) (fun x => mul_bind (mul_W b) fun y => mul_pure _) (of_W a h.1 hp.1) fun x => of_map (good_W b h.2) (enum_W b h.2) (of_W b h.2 hp.2) _
/-! two lengths -/
def TwoL (L : List (List Int)) : Prop := ∃ R ∈ L, ∃ T ∈ L, R.length ≠ T.length
theorem two_left {A B : List (List Int)} (h : TwoL A) (hB : B ≠ []) : TwoL (prodR A B) := by
  obtain ⟨R, hR, T, hT, hn⟩ := h
  obtain ⟨b, hb⟩ := List.exists_mem_of_ne_nil B hB
  refine ⟨R ++ b, mem_prod.mpr ⟨R, hR, b, hb, rfl⟩, T ++ b, mem_prod.mpr ⟨T, hT, b, hb, rfl⟩, ?_⟩
  simp only [List.length_append]; omega
theorem two_right {A B : List (List Int)} (h : TwoL B) (hA : A ≠ []) : TwoL (prodR A B) := by
  obtain ⟨R, hR, T, hT, hn⟩ := h
  obtain ⟨b, hb⟩ := List.exists_mem_of_ne_nil A hA
  refine ⟨b ++ R, mem_prod.mpr ⟨b, hb, R, hR, rfl⟩, b ++ T, mem_prod.mpr ⟨b, hb, T, hT, rfl⟩, ?_⟩
  simp only [List.length_append]; omega
theorem prod_ne {A B : List (List Int)} (hA : A ≠ []) (hB : B ≠ []) : prodR A B ≠ [] := fun e => by
  obtain ⟨a, ha⟩ := List.exists_mem_of_ne_nil A hA
  obtain ⟨b, hb⟩ := List.exists_mem_of_ne_nil B hB
  have := mem_prod.mpr ⟨a, ha, b, hb, rfl⟩
  rw [e] at this
  cases this
theorem pow_ne {L : List (List Int)} (h : L ≠ []) : ∀ n, powR L n ≠ []
  | 0 => by simp [powR]
  | n + 1 => prod_ne h (pow_ne h n)
theorem die_ne {w : Option WL} {m s l : Int} (h2 : 2 ≤ s) (h6 : s ≤ 6) (hl : ∀ x, w = some x → lastOk x m s l) : dieRows w s l ≠ [] := fun e => by
  have hne : faces s.toNat ≠ [] := fun z => by
    have := congrArg List.length z
    simp [faces] at this
    omega
  -- the greatest face and what comes behind it
  have h1 : (1 : Int) ∈ faces s.toNat := mem_faces.mpr ⟨by decide, by omega⟩
  unfold dieRows at e
  have h := List.flatMap_eq_nil_iff.mp e 1 h1
  rw [List.map_eq_nil_iff] at h
  cases w with
  | none => simp [dieTl] at h
  | some w =>
    cases w with
    | high => simp [dieTl] at h
    | low => simp [dieTl] at h
    | count => simp [dieTl] at h
    | again =>
      simp only [dieTl] at h
      split at h
      · rw [List.map_eq_nil_iff] at h
        exact hne h
      · cases h
    | burst =>
      simp only [dieTl] at h
      have h5 := hl .burst rfl
      simp only [lastOk] at h5
      have : l = 1 ∨ l = 2 := by omega
      rcases this with rfl | rfl
      · have : (1 : Int).toNat = 1 := rfl
        rw [this] at h
        simp only [moreRows] at h
        rw [if_neg (by omega)] at h
        cases h
      · have : (2 : Int).toNat = 2 := rfl
        rw [this] at h
        simp only [moreRows] at h
        rw [if_neg (by omega)] at h
        cases h
theorem rows_ne : ∀ s, Wf s → allRows s ≠ []
  | .num n, _ => by simp [allRows]
  | .die m s, h => pow_ne (die_ne (w := none) (m := m) h.2.2.1 h.2.2.2 (fun x z => by cases z)) _
  | .dl w m s l, h => pow_ne (die_ne (w := some w) (m := m) h.2.2.1 h.2.2.2.1 (fun x z => by cases z; exact h.2.2.2.2)) _
  | .times n a, h => rows_ne a h.2.2
  | .two w a b, h => prod_ne (rows_ne a h.1) (rows_ne b h.2)
def twoB (w : WL) (s l : Int) : Bool := (dieRows (some w) s l).any fun R => (dieRows (some w) s l).any fun T => decide (R.length ≠ T.length)
theorem two_of {w : WL} {s l : Int} (h : twoB w s l = true) : TwoL (dieRows (some w) s l) := by
  unfold twoB at h
  obtain ⟨R, hR, h⟩ := List.any_eq_true.mp h
  obtain ⟨T, hT, h⟩ := List.any_eq_true.mp h
  exact ⟨R, hR, T, hT, of_decide_eq_true h⟩
theorem two_die {w : WL} {m s l : Int} (h2 : 2 ≤ s) (h6 : s ≤ 6) (hl : lastOk w m s l) (hw : w = .again ∨ w = .burst) : TwoL (dieRows (some w) s l) := by
  have hs : s = 2 ∨ s = 3 ∨ s = 4 ∨ s = 5 ∨ s = 6 := by omega
  refine two_of ?_
  rcases hw with rfl | rfl
  · simp only [lastOk] at hl
    have hl' : l = 1 ∨ l = 2 ∨ l = 3 ∨ l = 4 ∨ l = 5 := by omega
    rcases hs with rfl | rfl | rfl | rfl | rfl <;> rcases hl' with rfl | rfl | rfl | rfl | rfl <;> first | omega | decide +kernel
  · simp only [lastOk] at hl
    have hl' : l = 1 ∨ l = 2 := by omega
    rcases hs with rfl | rfl | rfl | rfl | rfl <;> rcases hl' with rfl | rfl <;> decide +kernel
theorem two_rows : ∀ s, Wf s → plainS s = false → TwoL (allRows s)
  | .num n, _, h => by cases h
  | .die m s, _, h => by cases h
  | .dl w m s l, h, hp => by
    have hw : w = .again ∨ w = .burst := by cases w <;> simp [plainS] at hp ⊢
    have hd := two_die (m := m) h.2.2.1 h.2.2.2.1 h.2.2.2.2 hw
    have hn := die_ne (w := some w) (m := m) h.2.2.1 h.2.2.2.1 (fun x z => by cases z; exact h.2.2.2.2)
    obtain ⟨k, hk⟩ : ∃ k, m.toNat = k + 1 := ⟨m.toNat - 1, by have := h.1; omega⟩
    simp only [allRows, hk, powR]
    exact two_left hd (pow_ne hn k)
  | .times n a, h, hp => two_rows a h.2.2 hp
  | .two w a b, h, hp => by
    simp only [plainS, Bool.and_eq_false_iff] at hp
    rcases hp with hp | hp
    · exact two_left (two_rows a h.1 hp) (rows_ne b h.2)
    · exact two_right (two_rows b h.2 hp) (rows_ne a h.1)
end Ml

/-! the two numbers of a fraction in its one form -/
namespace Ml
open PySem L2
def pnF (c M : Int) : Int := c / (Int.gcd c M : Nat)
def qnF (c M : Int) : Int := M / (Int.gcd c M : Nat)
theorem fr_pq (c M : Int) : fr c M = .tup [.int (pnF c M), .int (qnF c M)] := rfl
theorem pq_cross (c : Int) {M : Int} (hM : 0 < M) : M * pnF c M = c * qnF c M ∧ 0 < qnF c M ∧ qnF c M ≤ M ∧ (pnF c M).natAbs ≤ c.natAbs := by
  obtain ⟨g, a, m, hg, hm, e1, e2, e3, e4, e5⟩ := fr_parts c M hM
  rw [fr_pq] at e3
  injection e3 with e3
  injection e3 with q1 q2
  injection q1 with q1
  injection q2 with q2
  injection q2 with q2
  rw [q1, q2]
  refine ⟨?_, hm, e5, e4⟩
  rw [e1, e2]
  ac_rfl
theorem pq_more (c : Int) {M : Int} (hM : 0 < M) : fr (pnF c M) (qnF c M) = fr c M ∧ qnF c M ∣ M := by
  obtain ⟨g, a, m, hg, hm, e1, e2, e3, e4, e5⟩ := fr_parts c M hM
  have e3' := e3
  rw [fr_pq] at e3
  injection e3 with e3
  injection e3 with q1 q2
  injection q1 with q1
  injection q2 with q2
  injection q2 with q2
  rw [q1, q2]
  refine ⟨?_, ⟨g, by rw [e2, Int.mul_comm]⟩⟩
  have := fr_scale (c := g) (x := a) (y := m) hg
  rw [← e1, ← e2] at this
  exact this.symm
theorem pn_pos {c M : Int} (hM : 0 < M) (hc : 0 < c) : 0 < pnF c M := by
  obtain ⟨e1, e2, _⟩ := pq_cross c hM
  by_cases h : 0 < pnF c M
  · exact h
  · have h1 := Int.mul_pos hc e2
    have h2 := Int.mul_le_mul_of_nonneg_left (show pnF c M ≤ 0 by omega) (show 0 ≤ M by omega)
    rw [Int.mul_zero] at h2
    omega
end Ml

/-! tallies of all rows, plainly -/
namespace Ml
open PySem L2
def wth (s : Say) (R : List Int) : Int := match acc s R with
  | some (a, _) => a
  | none => 0
def allW (s : Say) : List Int := (sortT (allRows s)).map (wth s)
theorem bring_fst (s : Say) (R : List Int) : (bring s R).1 = wth s R := by
  unfold bring wth
  cases acc s R with
  | none => rfl
  | some p => rfl
theorem ks_bring (s : Say) (L : List (List Int)) : ks (L.map (bring s)) = L.map (wth s) := by
  simp only [ks, List.map_map]
  exact List.map_congr_left fun R _ => bring_fst s R
theorem allW_mem {s : Say} (hw : Wf s) (hd : dice s ≤ 2) (w : Int) : w ∈ allW s ↔ w ∈ ks (bookC s) := by
  rw [← fbk_key hw hd w]
  unfold fbk
  rw [mem_addAll, ks_bring]
  simp [ks, allW]
theorem allW_len (s : Say) : (allW s).length = (sortT (allRows s)).length := by simp [allW]
theorem lack_nil {s : Say} (hw : Wf s) (hd : dice s ≤ 2) : lackL (bookC s) (allW s) = [] := by
  unfold lackL
  rw [List.filter_eq_nil_iff.mpr]
  · rfl
  · intro w hw'
    have := (allW_mem hw hd w).mpr ((sortI_perm _).mem_iff.mp hw')
    simp [this]
theorem ssort_congr {xs ys : List Int} (h : ∀ k, k ∈ xs ↔ k ∈ ys) : ssort xs = ssort ys :=
  sorted_one ((List.perm_ext_iff_of_nodup (ssort_nd xs) (ssort_nd ys)).mpr fun k => by rw [ssort_mem, ssort_mem, h]) (ssort_le xs) (ssort_le ys)
theorem counts_rev (ms : List Int) : countsL ms.reverse = countsL ms := by
  unfold countsL
  rw [ssort_congr (xs := ms.reverse) (ys := ms) fun k => List.mem_reverse]
  refine List.map_congr_left fun w _ => ?_
  rw [List.count_reverse]
theorem keys_ssort {s : Say} (hw : Wf s) (hd : dice s ≤ 2) : ssort (allW s) = sortI (ks (bookC s)) :=
  sorted_one ((List.perm_ext_iff_of_nodup (ssort_nd _) ((sortI_perm _).nodup_iff.mpr (gb_book s hw).nd)).mpr fun k => by rw [ssort_mem, allW_mem hw hd, (sortI_perm _).mem_iff]) (ssort_le _) (sortI_sorted _)
/-! all counts together -/
theorem zero_sum {α : Type} : ∀ L : List α, (L.map fun _ => 0).sum = 0
  | [] => rfl
  | x :: L => by rw [List.map_cons, List.sum_cons, zero_sum L]
theorem ind_sum (m : Int) : ∀ L : List Int, L.Nodup → m ∈ L → (L.map fun w => if m = w then 1 else 0).sum = 1
  | [], _, h => by cases h
  | x :: L, hn, h => by
    rw [List.nodup_cons] at hn
    rw [List.map_cons, List.sum_cons]
    by_cases e : m = x
    · subst e
      have : (L.map fun w => if m = w then 1 else 0) = L.map fun _ => 0 := List.map_congr_left fun w hw => by
        rw [if_neg]; intro q; subst q; exact hn.1 hw
      rw [this, zero_sum, if_pos rfl]
    · have := ind_sum m L hn.2 (by rcases List.mem_cons.mp h with h | h; exact absurd h e; exact h)
      rw [if_neg e, this]
theorem count_sum : ∀ (ms L : List Int), L.Nodup → (∀ m ∈ ms, m ∈ L) → (L.map fun w => ms.count w).sum = ms.length
  | [], L, _, _ => by
    simp only [List.count_nil, List.length_nil]
    exact zero_sum L
  | m :: ms, L, hn, h => by
    have ih := count_sum ms L hn fun x hx => h x (List.mem_cons_of_mem _ hx)
    have e : (L.map fun w => (m :: ms).count w) = L.map fun w => ms.count w + if m = w then 1 else 0 := List.map_congr_left fun w _ => by
      rw [List.count_cons]
      simp only [beq_iff_eq]
    have add : ∀ (f g : Int → Nat) (L : List Int), (L.map fun w => f w + g w).sum = (L.map f).sum + (L.map g).sum := fun f g L => by
      induction L with
      | nil => rfl
      | cons a L ih => simp only [List.map_cons, List.sum_cons, ih]; omega
    rw [e, add, ih, ind_sum m L hn (h m List.mem_cons_self), List.length_cons]
theorem counts_all (ms : List Int) : ((ssort ms).map fun w => ((ms.count w : Nat) : Int)).sum = (ms.length : Int) := by
  have h := count_sum ms (ssort ms) (ssort_nd ms) fun m hm => ssort_mem.mpr hm
  have : ∀ L : List Int, (L.map fun w => ((ms.count w : Nat) : Int)).sum = (((L.map fun w => ms.count w).sum : Nat) : Int) := fun L => by
    induction L with
    | nil => rfl
    | cons a L ih => simp only [List.map_cons, List.sum_cons, ih]; omega
  rw [this, h]
/-! what is due, together -/
def lowF (b : List (Int × Int)) (M n : Int) (K : List Int) (l : Int) : Int := K.foldl (fun l w => l * qnF (cnt b w * n) M) l
theorem low_cons (b : List (Int × Int)) (M n : Int) (w : Int) (K : List Int) (l : Int) : lowF b M n (w :: K) l = lowF b M n K (l * qnF (cnt b w * n) M) := rfl
theorem low_dvd (b : List (Int × Int)) (M n : Int) : ∀ (K : List Int) (l : Int), l ∣ lowF b M n K l ∧ ∀ w ∈ K, qnF (cnt b w * n) M ∣ lowF b M n K l
  | [], l => ⟨Int.dvd_refl _, fun w h => by cases h⟩
  | x :: K, l => by
    obtain ⟨h1, h2⟩ := low_dvd b M n K (l * qnF (cnt b x * n) M)
    rw [low_cons]
    refine ⟨Int.dvd_trans ⟨_, rfl⟩ h1, fun w hw => ?_⟩
    rcases List.mem_cons.mp hw with rfl | hw
    · exact Int.dvd_trans ⟨l, by rw [Int.mul_comm]⟩ h1
    · exact h2 w hw
theorem due_sum {b : List (Int × Int)} {M R : Int} (n : Int) (hG : GB b M R) (hM : 0 < M) : ((sortI (ks b)).map fun w => pnF (cnt b w * n) M * (lowF b M n (sortI (ks b)) 1 / qnF (cnt b w * n) M)).sum = lowF b M n (sortI (ks b)) 1 * n := by
  generalize hL : lowF b M n (sortI (ks b)) 1 = L
  have hd := (low_dvd b M n (sortI (ks b)) 1).2
  rw [hL] at hd
  have key : ∀ K : List Int, (∀ w ∈ K, w ∈ sortI (ks b)) → M * (K.map fun w => pnF (cnt b w * n) M * (L / qnF (cnt b w * n) M)).sum = L * n * (K.map fun w => cnt b w).sum := fun K => by
    induction K with
    | nil => intro _; simp
    | cons w K ih =>
      intro h
      have ih := ih fun x hx => h x (List.mem_cons_of_mem _ hx)
      obtain ⟨e1, e2, _⟩ := pq_cross (cnt b w * n) hM
      obtain ⟨k, hk⟩ := hd w (h w List.mem_cons_self)
      simp only [List.map_cons, List.sum_cons, Int.mul_add, ih]
      congr 1
      have hk' : L / qnF (cnt b w * n) M = k := by rw [hk]; exact Int.mul_ediv_cancel_left _ (by omega)
      rw [hk', ← Int.mul_assoc, e1, hk]
      ac_rfl
  have ht : ((sortI (ks b)).map fun w => cnt b w).sum = M := by
    have h1 : tot (srt b) = M := by rw [E_tot, E_srt hG.nd, ← E_tot, hG.tot]
    unfold tot srt at h1
    rw [List.map_map] at h1
    exact h1
  have := key (sortI (ks b)) fun w h => h
  rw [ht, Int.mul_comm (L * n) M] at this
  exact Int.eq_of_mul_eq_mul_left (by omega) this
/-! rows of one kind -/
theorem sum_const (c : Int) {α : Type} (f : α → Int) : ∀ L : List α, (L.map fun x => f x * c).sum = (L.map f).sum * c
  | [] => by simp
  | x :: L => by simp only [List.map_cons, List.sum_cons, sum_const c f L, Int.add_mul]
theorem fbk_plain {s : Say} (hw : Wf s) (hd : dice s ≤ 2) (hp : plainS s = true) : ∃ c : Int, 0 < c ∧ ∀ f, E (fbk s) f = ((allW s).map f).sum * c := by
  obtain ⟨R0, hR0⟩ := List.exists_mem_of_ne_nil _ (rows_ne s hw)
  have hR0' : R0 ∈ sortT (allRows s) := (sortT_perm _).mem_iff.mpr hR0
  have ho : ∀ R ∈ sortT (allRows s), bring s R = (wth s R, of6 / ofS s) := fun R hR => by
    obtain ⟨a, o, e1, e2⟩ := acc_row hw hR
    have := of_W s hw hp R ((sortT_perm _).mem_iff.mp hR) a o e2
    simp only [bring, wth, e1, this]
  refine ⟨of6 / ofS s, ?_, fun f => ?_⟩
  · obtain ⟨a, o, e1, e2⟩ := acc_row hw hR0'
    have h1 := of_W s hw hp R0 hR0 a o e2
    have h2 := (of_row hw hd hR0' e1).2.2
    rw [h1] at h2
    exact h2
  · unfold fbk
    rw [E_addAll f _ [] (by simp [ks]), E_nil, Int.zero_add]
    unfold E allW
    rw [List.map_map, List.map_map, ← sum_const]
    congr 1
    refine List.map_congr_left fun R hR => ?_
    simp only [Function.comp_def, ho R hR]
theorem count_ind (w : Int) : ∀ ms : List Int, (ms.map fun x => if x = w then (1 : Int) else 0).sum = ((ms.count w : Nat) : Int)
  | [] => rfl
  | m :: ms => by
    rw [List.map_cons, List.sum_cons, count_ind w ms, List.count_cons]
    by_cases e : m = w
    · subst e; simp; omega
    · simp [e]
theorem plain_cnt {s : Say} (hw : Wf s) (hd : dice s ≤ 2) (hp : plainS s = true) (w : Int) : cnt (bookC s) w * ((allW s).length : Int) = bookM s * (((allW s).count w : Nat) : Int) := by
  obtain ⟨c, c0, hc⟩ := fbk_plain hw hd hp
  have h1 := fbk_cnt hw hd w
  rw [E_cnt (fbk_nd s), hc, count_ind] at h1
  have h2 := fbk_tot hw hd
  rw [E_tot, hc] at h2
  have h3 : ((allW s).map fun _ => (1 : Int)).sum = ((allW s).length : Int) := by
    generalize allW s = L
    induction L with
    | nil => rfl
    | cons x L ih => simp only [List.map_cons, List.sum_cons, ih, List.length_cons]; omega
  rw [h3] at h2
  rw [← h2] at h1
  have h4 : c * (bookM s * (((allW s).count w : Nat) : Int)) = c * (cnt (bookC s) w * ((allW s).length : Int)) := by
    rw [show c * (bookM s * (((allW s).count w : Nat) : Int)) = bookM s * ((((allW s).count w : Nat) : Int) * c) by ac_rfl, h1]
    ac_rfl
  exact (Int.eq_of_mul_eq_mul_left (by omega) h4).symm
theorem fr_one (c : Int) : fr c 1 = .tup [.int c, .int 1] := by
  unfold fr
  rw [Int.gcd_one_right]
  simp
theorem due_plain {s : Say} (hw : Wf s) (hd : dice s ≤ 2) (hp : plainS s = true) : dueL (bookC s) (bookM s) (allW s).length = (ssort (allW s)).map fun w => .tup [.int w, .tup [.int (((allW s).count w : Nat) : Int), .int 1]] := by
  unfold dueL
  rw [keys_ssort hw hd]
  refine List.map_congr_left fun w _ => ?_
  have m0 := bookM_pos s hw
  have e : fr (cnt (bookC s) w * ((allW s).length : Int)) (bookM s) = .tup [.int (((allW s).count w : Nat) : Int), .int 1] := by
    rw [plain_cnt hw hd hp w]
    have := fr_scale (c := bookM s) (x := (((allW s).count w : Nat) : Int)) (y := 1) m0
    rw [Int.mul_one] at this
    rw [this, fr_one]
  rw [e]
/-- two lengths: not one alone -/
theorem lens_two {s : Say} (hw : Wf s) (hp : plainS s = false) : (ddI ((sortT (allRows s)).map fun R => (R.length : Int))).length ≠ 1 := fun e => by
  obtain ⟨R, hR, T, hT, hn⟩ := two_rows s hw hp
  have h1 : (R.length : Int) ∈ ddI ((sortT (allRows s)).map fun R => (R.length : Int)) := mem_ddI.mpr (List.mem_map.mpr ⟨R, (sortT_perm _).mem_iff.mpr hR, rfl⟩)
  have h2 : (T.length : Int) ∈ ddI ((sortT (allRows s)).map fun R => (R.length : Int)) := mem_ddI.mpr (List.mem_map.mpr ⟨T, (sortT_perm _).mem_iff.mpr hT, rfl⟩)
  obtain ⟨x, hx⟩ := List.length_eq_one_iff.mp e
  rw [hx, List.mem_singleton] at h1 h2
  omega
end Ml

/-! the law's loops -/
namespace Ml
open PySem L2
theorem Tal.oth {st : Sto} {t f k : Nat} {s : Say} {ms : List Int} (h : Tal st t f s ms) (h1 : k ≠ t) (h2 : k ≠ f) (o : Ob) : Tal (st.set k o) t f s ms :=
  ⟨by rw [List.getElem?_set_ne h1]; exact h.ob, by rw [List.getElem?_set_ne h2]; exact h.ls⟩
section
variable {lv : Nat} {c_counts c_due c_lack c_many c_note c_undo c_cell c_say c_all c_fa : Fm} {s : Say}
def FaW (c : Fm) (s : Say) : Prop := ∀ R ∈ sortT (allRows s), ∀ st, ∃ g, c [enc s, tupR R] st = .ok (.int (wth s R)) (st ++ g)
def NoteW (c : Fm) (s : Say) : Prop := ∀ (st : Sto) (t f : Nat) (ms : List Int) (w : Int), Tal st t f s ms → w ∈ ks (bookC s) → ms.length ≤ 4000 → ∃ g, c [.ref t, .int w] st = .ok .non ((st ++ g).set f (.lst ((ms ++ [w]).map D.int)))
/-- two tallies that stand apart -/
structure Two (st : Sto) (t f t' f' : Nat) (s : Say) (ms ms' : List Int) : Prop where
  a : Tal st t f s ms
  b : Tal st t' f' s ms'
  n1 : f ≠ t'
  n2 : f ≠ f'
  n3 : f' ≠ t
theorem Two.app {st : Sto} {t f t' f' : Nat} {ms ms' : List Int} (h : Two st t f t' f' s ms ms') (g : Sto) : Two (st ++ g) t f t' f' s ms ms' := ⟨h.a.app g, h.b.app g, h.n1, h.n2, h.n3⟩
theorem Two.setA {st : Sto} {t f t' f' : Nat} {ms ms' : List Int} (h : Two st t f t' f' s ms ms') (xs : List Int) : Two (st.set f (.lst (xs.map D.int))) t f t' f' s xs ms' := ⟨h.a.set xs, h.b.oth h.n1 h.n2 _, h.n1, h.n2, h.n3⟩
theorem Two.setB {st : Sto} {t f t' f' : Nat} {ms ms' : List Int} (h : Two st t f t' f' s ms ms') (xs : List Int) : Two (st.set f' (.lst (xs.map D.int))) t f t' f' s ms xs := ⟨h.a.oth h.n3 (Ne.symm h.n2) _, h.b.set xs, h.n1, h.n2, h.n3⟩
theorem noteA (hfa : FaW c_fa s) (hno : NoteW c_note s) (hk : ∀ R ∈ sortT (allRows s), wth s R ∈ ks (bookC s)) {t f t' f' : Nat} {x0 x1 x3 x7 x8 x9 x10 x11 : Option D} : ∀ (L : List (List Int)) (ms ms' : List Int) (x6 : Option D) (st : Sto), (∀ R ∈ L, R ∈ sortT (allRows s)) → Two st t f t' f' s ms ms' → ms.length + L.length ≤ 4000 →
    ∃ y6 st', loop (gtName 6) (m_law_b4 lv c_counts c_due c_lack c_many c_note c_undo c_cell c_say c_all c_fa) (L.map tupR) [x0, x1, some (enc s), x3, some (.ref t), some (.ref t'), x6, x7, x8, x9, x10, x11] st = .ok (.nx, [x0, x1, some (enc s), x3, some (.ref t), some (.ref t'), y6, x7, x8, x9, x10, x11]) st' ∧ Two st' t f t' f' s (ms ++ L.map (wth s)) ms'
  | [], ms, ms', x6, st, _, h, _ => ⟨x6, st, rfl, by simpa using h⟩
  | R :: L, ms, ms', x6, st, hL, h, hl => by
    simp only [List.length_cons] at hl
    have hR := hL R List.mem_cons_self
    obtain ⟨g1, e1⟩ := hfa R hR st
    obtain ⟨g2, e2⟩ := hno (st ++ g1) t f ms (wth s R) (h.app g1).a (hk R hR) (by omega)
    have c1 := fun ev => cCall_ok (ev := ev) e1
    have c2 := fun ev => cCall_ok (ev := ev) e2
    have hi := h.a.ins
    obtain ⟨y6, st', k1, k2⟩ := noteA hfa hno hk L (ms ++ [wth s R]) ms' (some (tupR R)) ((st ++ g1 ++ g2).set f (.lst ((ms ++ [wth s R]).map D.int))) (fun R h => hL R (List.mem_cons_of_mem _ h)) (((h.app g1).app g2).setA _) (by simp; omega)
    refine ⟨y6, st', ?_, ?_⟩
    · rw [List.map_cons, e_loopC]
      have hb : m_law_b4 lv c_counts c_due c_lack c_many c_note c_undo c_cell c_say c_all c_fa [x0, x1, some (enc s), x3, some (.ref t), some (.ref t'), some (tupR R), x7, x8, x9, x10, x11] st = .ok (.nx, [x0, x1, some (enc s), x3, some (.ref t), some (.ref t'), some (tupR R), x7, x8, x9, x10, x11]) ((st ++ g1 ++ g2).set f (.lst ((ms ++ [wth s R]).map D.int))) := by
        unfold m_law_b4
        rw [e_Drop, e_MethX]
        simp only [e_Var, List.getElem?_cons_zero, List.getElem?_cons_succ, Rs.bind_ok, hi, tfs_m1, e_Cons, e_CallX, e_Nil, c1, c2]
      simp only [e_gtName, List.set_cons_succ, List.set_cons_zero, hb]
      exact k1
    · simpa using k2
theorem noteB (hfa : FaW c_fa s) (hno : NoteW c_note s) (hk : ∀ R ∈ sortT (allRows s), wth s R ∈ ks (bookC s)) {t f t' f' : Nat} {x0 x1 x3 x7 x8 x9 x10 x11 : Option D} : ∀ (L : List (List Int)) (ms ms' : List Int) (x6 : Option D) (st : Sto), (∀ R ∈ L, R ∈ sortT (allRows s)) → Two st t f t' f' s ms ms' → ms'.length + L.length ≤ 4000 →
    ∃ y6 st', loop (gtName 6) (m_law_b3 lv c_counts c_due c_lack c_many c_note c_undo c_cell c_say c_all c_fa) (L.map tupR) [x0, x1, some (enc s), x3, some (.ref t), some (.ref t'), x6, x7, x8, x9, x10, x11] st = .ok (.nx, [x0, x1, some (enc s), x3, some (.ref t), some (.ref t'), y6, x7, x8, x9, x10, x11]) st' ∧ Two st' t f t' f' s ms (ms' ++ L.map (wth s))
  | [], ms, ms', x6, st, _, h, _ => ⟨x6, st, rfl, by simpa using h⟩
  | R :: L, ms, ms', x6, st, hL, h, hl => by
    simp only [List.length_cons] at hl
    have hR := hL R List.mem_cons_self
    obtain ⟨g1, e1⟩ := hfa R hR st
    obtain ⟨g2, e2⟩ := hno (st ++ g1) t' f' ms' (wth s R) (h.app g1).b (hk R hR) (by omega)
    have c1 := fun ev => cCall_ok (ev := ev) e1
    have c2 := fun ev => cCall_ok (ev := ev) e2
    have hi := h.b.ins
    obtain ⟨y6, st', k1, k2⟩ := noteB hfa hno hk L ms (ms' ++ [wth s R]) (some (tupR R)) ((st ++ g1 ++ g2).set f' (.lst ((ms' ++ [wth s R]).map D.int))) (fun R h => hL R (List.mem_cons_of_mem _ h)) (((h.app g1).app g2).setB _) (by simp; omega)
    refine ⟨y6, st', ?_, ?_⟩
    · rw [List.map_cons, e_loopC]
      have hb : m_law_b3 lv c_counts c_due c_lack c_many c_note c_undo c_cell c_say c_all c_fa [x0, x1, some (enc s), x3, some (.ref t), some (.ref t'), some (tupR R), x7, x8, x9, x10, x11] st = .ok (.nx, [x0, x1, some (enc s), x3, some (.ref t), some (.ref t'), some (tupR R), x7, x8, x9, x10, x11]) ((st ++ g1 ++ g2).set f' (.lst ((ms' ++ [wth s R]).map D.int))) := by
        unfold m_law_b3
        rw [e_Drop, e_MethX]
        simp only [e_Var, List.getElem?_cons_zero, List.getElem?_cons_succ, Rs.bind_ok, hi, tfs_m1, e_Cons, e_CallX, e_Nil, c1, c2]
      simp only [e_gtName, List.set_cons_succ, List.set_cons_zero, hb]
      exact k1
    · simpa using k2
/-- all taken back -/
theorem undoA (hun : ∀ (st : Sto) (t f : Nat) (ms : List Int), Tal st t f s ms → ms ≠ [] → c_undo [.ref t] st = .ok .non (st.set f (.lst (ms.dropLast.map D.int)))) {t f : Nat} {x0 x1 x2 x3 x5 x7 x8 x9 x10 x11 : Option D} : ∀ (L : List D) (ms : List Int) (x6 : Option D) (st : Sto), Tal st t f s ms → ms.length = L.length →
    ∃ y6 st', loop (gtName 6) (m_law_b1 lv c_counts c_due c_lack c_many c_note c_undo c_cell c_say c_all c_fa) L [x0, x1, x2, x3, some (.ref t), x5, x6, x7, x8, x9, x10, x11] st = .ok (.nx, [x0, x1, x2, x3, some (.ref t), x5, y6, x7, x8, x9, x10, x11]) st' ∧ Tal st' t f s []
  | [], ms, x6, st, h, hl => ⟨x6, st, rfl, by
      have : ms = [] := List.length_eq_zero_iff.mp hl
      subst this
      exact h⟩
  | d :: L, ms, x6, st, h, hl => by
    simp only [List.length_cons] at hl
    have hne : ms ≠ [] := fun e => by subst e; cases hl
    have e1 := hun st t f ms h hne
    have c1 := fun ev => cCall_ok (ev := ev) e1
    have hi := h.ins
    obtain ⟨y6, st', k1, k2⟩ := undoA hun L ms.dropLast (some d) (st.set f (.lst (ms.dropLast.map D.int))) (h.set _) (by simp; omega)
    refine ⟨y6, st', ?_, k2⟩
    rw [e_loopC]
    have hb : m_law_b1 lv c_counts c_due c_lack c_many c_note c_undo c_cell c_say c_all c_fa [x0, x1, x2, x3, some (.ref t), x5, some d, x7, x8, x9, x10, x11] st = .ok (.nx, [x0, x1, x2, x3, some (.ref t), x5, some d, x7, x8, x9, x10, x11]) (st.set f (.lst (ms.dropLast.map D.int))) := by
      unfold m_law_b1
      rw [e_Drop, e_MethX]
      simp only [e_Var, List.getElem?_cons_zero, List.getElem?_cons_succ, Rs.bind_ok, hi, tfs_m2, e_Nil, c1]
    simp only [e_gtName, List.set_cons_succ, List.set_cons_zero, hb]
    exact k1
/-- lower: all that is below -/
theorem low_loop {b : List (Int × Int)} {M n : Int} (hM : 0 < M) (hM2 : M < 2 ^ 60) {x0 x1 x2 x3 x4 x5 x6 x10 x11 : Option D} {st : Sto} : ∀ (K : List Int) (l : Int) (x8 x9 : Option D), ∃ y8 y9, loop (gtTup 2 (gtsCons (gtName 8) (gtsCons (gtName 9) gtsNil))) (m_law_b2 lv c_counts c_due c_lack c_many c_note c_undo c_cell c_say c_all c_fa) (K.map fun w => .tup [.int w, fr (cnt b w * n) M]) [x0, x1, x2, x3, x4, x5, x6, some (.int l), x8, x9, x10, x11] st = .ok (.nx, [x0, x1, x2, x3, x4, x5, x6, some (.int (lowF b M n K l)), y8, y9, x10, x11]) st
  | [], l, x8, x9 => ⟨x8, x9, rfl⟩
  | w :: K, l, x8, x9 => by
    obtain ⟨y8, y9, k⟩ := low_loop hM hM2 K (l * qnF (cnt b w * n) M) (some (.int w)) (some (fr (cnt b w * n) M))
    refine ⟨y8, y9, ?_⟩
    obtain ⟨_, q0, q1, _⟩ := pq_cross (cnt b w * n) hM
    have sq : small64 (qnF (cnt b w * n) M) = true := decide_eq_true (by omega)
    rw [List.map_cons, e_loopC, tg2]
    have hb : m_law_b2 lv c_counts c_due c_lack c_many c_note c_undo c_cell c_say c_all c_fa [x0, x1, x2, x3, x4, x5, x6, some (.int l), some (.int w), some (fr (cnt b w * n) M), x10, x11] st = .ok (.nx, [x0, x1, x2, x3, x4, x5, x6, some (.int (l * qnF (cnt b w * n) M)), some (.int w), some (fr (cnt b w * n) M), x10, x11]) st := by
      unfold m_law_b2
      rw [fr_pq]
      simp [sq]
    simp only [List.set_cons_succ, List.set_cons_zero, hb]
    exact k
end
end Ml

/-! one saying of the law -/
namespace Ml
open PySem L2
theorem dokM {α : Type} (f : α → D) (n : Nat) (hf : ∀ x, (f x).dok n = true) : ∀ xs : List α, doks n (xs.map f) = true
  | [] => by simp
  | x :: xs => by simp [doks_cons, hf, dokM f n hf xs]
theorem dok_counts (ms : List Int) (n : Nat) : (D.tup (countsL ms)).dok (n + 2) = true := by
  rw [dok_tup]
  exact dokM _ _ (fun w => by simp [dok_tup, doks_cons]) _
theorem dok_due (b : List (Int × Int)) (M k : Int) (n : Nat) : (D.tup (dueL b M k)).dok (n + 3) = true := by
  rw [dok_tup]
  exact dokM _ _ (fun w => by simp [dok_tup, doks_cons]) _
section
variable {lv : Nat} {c_counts c_due c_lack c_many c_note c_undo c_cell c_say c_all c_fa : Fm} {s : Say}
structure TalC (c_counts c_due c_lack c_many c_note c_undo : Fm) (s : Say) : Prop where
  many : ∀ (st : Sto) (t f : Nat) (ms : List Int), Tal st t f s ms → c_many [.ref t] st = .ok (.int ms.length) st
  counts : ∀ (st : Sto) (t f : Nat) (ms : List Int), Tal st t f s ms → ms.length ≤ 4000 → c_counts [.ref t] st = .ok (.tup (countsL ms)) st
  lack : ∀ (st : Sto) (t f : Nat) (ms : List Int), Tal st t f s ms → ∃ g, c_lack [.ref t] st = .ok (.tup (lackL (bookC s) ms)) (st ++ g)
  due : ∀ (st : Sto) (t f : Nat) (ms : List Int), Tal st t f s ms → ms.length ≤ 4000 → ∃ g, c_due [.ref t] st = .ok (.tup (dueL (bookC s) (bookM s) ms.length)) (st ++ g)
  note : NoteW c_note s
  undo : ∀ (st : Sto) (t f : Nat) (ms : List Int), Tal st t f s ms → ms ≠ [] → c_undo [.ref t] st = .ok .non (st.set f (.lst (ms.dropLast.map D.int)))
theorem newT (hlv : 2 ≤ lv) {mr : Mo (List D)} {ev : Ev} {st : Sto} (h : mr ev st = .ok [enc s] st) : mNewG lv "Tally" (fnM 2 2 m_Tally_init) mr ev st = .ok (.ref st.length) (st ++ [Ob.ins "Tally" [("said", enc s), ("fell", .ref (st.length + 1))], Ob.lst []]) := by
  have := tinit_ok (d := .non) (st := st) (s := s)
  simp [-e_insR, hlv, h, this]
theorem meth_o {cn m : Str} {c : Fm} {ma : Mo D} {ev : Ev} {st st' : Sto} {t : Nat} {fs : List (Str × D)} {d : D} (h : ma ev st = .ok (.ref t) st) (hi : insAt st cn (.ref t) = some (t, fs)) (hm : fs.lookup m = none) (hc : c [.ref t] st = .ok d st') : mMeth cn m c ma mNil ev st = .ok d st' := by
  rw [e_Meth, h]
  simp only [Rs.bind_ok, hi, hm, e_Nil, hc]
theorem say17 (hlv : 2 ≤ lv) (hw : Wf s) (hd : dice s ≤ 2) (hall : ∀ st, ∃ g, c_all [enc s] st = .ok (.tup ((sortT (allRows s)).map tupR)) (st ++ g)) (hfa : FaW c_fa s) (T : TalC c_counts c_due c_lack c_many c_note c_undo s) (hkl : (sortI (ks (bookC s))).length ≤ lim)
    {x0 : D} {k cv : Int} {x2 x3 x4 x5 x6 x7 x8 x9 x10 x11 : Option D} {st : Sto} (hcv : c_cell [x0, .int k] st = .ok (.int cv) st) (hsay : c_say [.int (cv + 3 * k), .int 3, .int 2] st = .ok (enc s) st) :
    ∃ y2 y3 y4 y5 y6 y7 y8 y9 y10 y11 st', m_law_b5 lv c_counts c_due c_lack c_many c_note c_undo c_cell c_say c_all c_fa [some x0, some (.int k), x2, x3, x4, x5, x6, x7, x8, x9, x10, x11] st = .ok (.nx, [some x0, some (.int k), y2, y3, y4, y5, y6, y7, y8, y9, y10, y11]) st' := by
  have elim : lim = 1000000 := rfl
  have d0 := dice_pos s hw
  have hcount := all_bd s hw
  have h36 : 36 ^ (dice s).toNat ≤ 36 ^ 2 := Nat.pow_le_pow_right (by decide) (by omega)
  have hsl : (sortT (allRows s)).length = (allRows s).length := (sortT_perm _).length_eq
  have hn : (sortT (allRows s)).length ≤ 1296 := by omega
  have hWl := allW_len s
  have m0 := bookM_pos s hw
  have hM : bookM s ≤ 216 ^ 2 := by
    have h1 := bookM_le s hw
    have h2 : (216 : Int) ^ (dice s).toNat ≤ 216 ^ 2 := ipow_mono (by decide) (by omega)
    omega
  have hG := gb_book s hw
  have s3 : small64 3 = true := by decide
  have hk : ∀ R ∈ sortT (allRows s), wth s R ∈ ks (bookC s) := fun R hR => (allW_mem hw hd _).mp (List.mem_map.mpr ⟨R, hR, rfl⟩)
  generalize hrows : sortT (allRows s) = rows at *
  have hW : rows.map (wth s) = allW s := by rw [← hrows]; rfl
  obtain ⟨g0, e0⟩ := hall st
  -- the two tallies
  have t2 : Two (st ++ g0 ++ [Ob.ins "Tally" [("said", enc s), ("fell", .ref ((st ++ g0).length + 1))], Ob.lst []] ++ [Ob.ins "Tally" [("said", enc s), ("fell", .ref ((st ++ g0 ++ [Ob.ins "Tally" [("said", enc s), ("fell", .ref ((st ++ g0).length + 1))], Ob.lst []]).length + 1))], Ob.lst []]) (st ++ g0).length ((st ++ g0).length + 1) ((st ++ g0).length + 2) ((st ++ g0).length + 3) s [] [] := by
    have e2 : (st ++ g0 ++ [Ob.ins "Tally" [("said", enc s), ("fell", .ref ((st ++ g0).length + 1))], Ob.lst []]).length = (st ++ g0).length + 2 := by rw [List.length_append (as := st ++ g0)]; rfl
    refine ⟨Tal.app ⟨?_, ?_⟩ _, ⟨?_, ?_⟩, by omega, by omega, by omega⟩
    · rw [st_at0]; rfl
    · rw [st_atk]; rfl
    · rw [← e2, st_at0, e2]; rfl
    · rw [show (st ++ g0).length + 3 = (st ++ g0 ++ [Ob.ins "Tally" [("said", enc s), ("fell", .ref ((st ++ g0).length + 1))], Ob.lst []]).length + 1 by rw [e2], st_atk]; rfl
  generalize hst2 : (st ++ g0 ++ [Ob.ins "Tally" [("said", enc s), ("fell", .ref ((st ++ g0).length + 1))], Ob.lst []] ++ [Ob.ins "Tally" [("said", enc s), ("fell", .ref ((st ++ g0 ++ [Ob.ins "Tally" [("said", enc s), ("fell", .ref ((st ++ g0).length + 1))], Ob.lst []]).length + 1))], Ob.lst []]) = st2 at t2
  have a3 : mPar 4 5 (mCons (mNewG lv "Tally" (fnM 2 2 m_Tally_init) (mCons (mVar 2) mNil)) (mCons (mNewG lv "Tally" (fnM 2 2 m_Tally_init) (mCons (mVar 2) mNil)) mNil)) [some x0, some (.int k), some (enc s), some (.tup (rows.map tupR)), x4, x5, x6, x7, x8, x9, x10, x11] (st ++ g0) = .ok (.nx, [some x0, some (.int k), some (enc s), some (.tup (rows.map tupR)), some (.ref (st ++ g0).length), some (.ref ((st ++ g0).length + 2)), x6, x7, x8, x9, x10, x11]) st2 := by
    have n1 := newT (s := s) hlv (mr := mCons (mVar 2) mNil) (ev := [some x0, some (.int k), some (enc s), some (.tup (rows.map tupR)), x4, x5, x6, x7, x8, x9, x10, x11]) (st := st ++ g0) (by simp)
    have n2 := newT (s := s) hlv (mr := mCons (mVar 2) mNil) (ev := [some x0, some (.int k), some (enc s), some (.tup (rows.map tupR)), x4, x5, x6, x7, x8, x9, x10, x11]) (st := st ++ g0 ++ [Ob.ins "Tally" [("said", enc s), ("fell", .ref ((st ++ g0).length + 1))], Ob.lst []]) (by simp)
    have e2 : (st ++ g0 ++ [Ob.ins "Tally" [("said", enc s), ("fell", .ref ((st ++ g0).length + 1))], Ob.lst []]).length = (st ++ g0).length + 2 := by rw [List.length_append (as := st ++ g0)]; rfl
    rw [e_Par, e_Cons, n1]
    simp only [Rs.bind_ok]
    rw [e_Cons, n2]
    simp only [Rs.bind_ok, e_Nil, List.set_cons_succ, List.set_cons_zero]
    rw [hst2, e2]
  generalize (st ++ g0).length = t at *
  -- notes
  obtain ⟨y6, st3, k4, t3⟩ := noteA (lv := lv) (c_counts := c_counts) (c_due := c_due) (c_lack := c_lack) (c_many := c_many) (c_undo := c_undo) (c_cell := c_cell) (c_say := c_say) (c_all := c_all) hfa T.note (by rw [hrows]; exact hk) (x0 := some x0) (x1 := some (.int k)) (x3 := some (.tup (rows.map tupR))) (x7 := x7) (x8 := x8) (x9 := x9) (x10 := x10) (x11 := x11) rows [] [] x6 st2 (by rw [hrows]; exact fun R h => h) t2 (by simp; omega)
  obtain ⟨z6, st4, k5, t4⟩ := noteB (lv := lv) (c_counts := c_counts) (c_due := c_due) (c_lack := c_lack) (c_many := c_many) (c_undo := c_undo) (c_cell := c_cell) (c_say := c_say) (c_all := c_all) hfa T.note (by rw [hrows]; exact hk) (x0 := some x0) (x1 := some (.int k)) (x3 := some (.tup (rows.map tupR))) (x7 := x7) (x8 := x8) (x9 := x9) (x10 := x10) (x11 := x11) rows.reverse _ [] y6 st3 (by rw [hrows]; exact fun R h => List.mem_reverse.mp h) t3 (by simp; omega)
  rw [List.nil_append, List.nil_append, List.map_reverse, hW] at t4
  have hl4 : (allW s).length ≤ 4000 := by omega
  have hr4 : (allW s).reverse.length ≤ 4000 := by rw [List.length_reverse]; exact hl4
  have hlen : ∀ st, gLen [.tup (rows.map tupR)] st = some (.int (allW s).length, st) := fun st => by
    rw [e_lenT, List.length_map, hWl]
  -- many, lacking, counts
  obtain ⟨g5, e5⟩ := T.lack st4 t (t + 1) (allW s) t4.a
  rw [lack_nil hw hd] at e5
  have t5 := t4.app g5
  have hcl : (countsL (allW s)).length ≤ lim := by
    unfold countsL
    rw [List.length_map]
    have := ssort_len (allW s)
    omega
  have a6 : mTOr (mTest (mOp gNe (mMeth "Tally" "many" c_many (mVar 4) mNil) (mCB gLen (mCons (mVar 3) mNil)))) (mTOr (mTest (mOp gNe (mMeth "Tally" "lacking" c_lack (mVar 4) mNil) (mTup mNil))) (mTest (mOp gNe (mQ gSum (mLc [8, 11] (mItT (mMeth "Tally" "counts" c_counts (mVar 4) mNil)) (gtTup 2 (gtsCons (gtName 8) (gtsCons (gtName 11) gtsNil))) mYes (mVar 11))) (mCB gLen (mCons (mVar 3) mNil))))) [some x0, some (.int k), some (enc s), some (.tup (rows.map tupR)), some (.ref t), some (.ref (t + 2)), z6, x7, x8, x9, x10, x11] st4 = .ok false (st4 ++ g5) := by
    have u1 := meth_o (ma := mVar 4) (ev := [some x0, some (.int k), some (enc s), some (.tup (rows.map tupR)), some (.ref t), some (.ref (t + 2)), z6, x7, x8, x9, x10, x11]) (m := "many") (by simp) t4.a.ins (tfs_m3 _ _) (T.many st4 t (t + 1) _ t4.a)
    have u2 := meth_o (ma := mVar 4) (ev := [some x0, some (.int k), some (enc s), some (.tup (rows.map tupR)), some (.ref t), some (.ref (t + 2)), z6, x7, x8, x9, x10, x11]) (m := "lacking") (by simp) t4.a.ins (tfs_m6 _ _) e5
    have u3 := meth_o (ma := mVar 4) (ev := [some x0, some (.int k), some (enc s), some (.tup (rows.map tupR)), some (.ref t), some (.ref (t + 2)), z6, x7, x8, x9, x10, x11]) (m := "counts") (by simp) t5.a.ins (tfs_m4 _ _) (T.counts _ t (t + 1) _ t5.a hl4)
    have hlc : lcLoop (gtTup 2 (gtsCons (gtName 8) (gtsCons (gtName 11) gtsNil))) mYes (mVar 11) (countsL (allW s)) [some x0, some (.int k), some (enc s), some (.tup (rows.map tupR)), some (.ref t), some (.ref (t + 2)), z6, x7, none, x9, x10, none] (st4 ++ g5) = .ok ((ssort (allW s)).map fun w => .int (((allW s).count w : Nat) : Int)) (st4 ++ g5) := by
      refine lc_map (fun w => D.tup [.int w, .int (((allW s).count w : Nat) : Int)]) _ _ fun w _ => ⟨_, tg2 _ _ _ _ _, ?_⟩
      simp
    have hsum : gSum ((ssort (allW s)).map fun w => D.int (((allW s).count w : Nat) : Int)) = some (.int (allW s).length) := by
      have : ((ssort (allW s)).map fun w => D.int (((allW s).count w : Nat) : Int)) = ((ssort (allW s)).map fun w => (((allW s).count w : Nat) : Int)).map D.int := by rw [List.map_map]; rfl
      rw [this, e_sum, counts_all]
    have ne0 : ∀ st, gNe (.tup []) (.tup []) st = some (.bl false, st) := fun st => ne_self (by rfl)
    rw [e_TOr, e_Test, e_Op, u1]
    simp only [Rs.bind_ok, e_CB, e_Cons, e_Nil, e_Var, List.getElem?_cons_zero, List.getElem?_cons_succ, hlen, e_of_some, e_neI, beq_self_eq_true, Bool.not_true, Bool.false_eq_true, if_false]
    rw [e_TOr, e_Test, e_Op, u2]
    simp only [Rs.bind_ok, e_Tup, e_Nil, List.length_nil, lim0, if_true, ne0, e_of_some, Bool.false_eq_true, if_false]
    rw [e_Test, e_Op, e_Q, e_Lc, e_ItT, u3]
    simp only [Rs.bind_ok, hcl, if_true, e_wC, e_wN, List.set_cons_succ, List.set_cons_zero, hlc, hsum, e_CB, e_Cons, e_Nil, e_Var, List.getElem?_cons_zero, List.getElem?_cons_succ, hlen, e_of_some, e_neI, beq_self_eq_true, Bool.not_true]
  generalize st4 ++ g5 = st5 at *
  -- both orders
  obtain ⟨g6, e6⟩ := T.due st5 t (t + 1) (allW s) t5.a hl4
  have t6 := t5.app g6
  obtain ⟨g7, e7⟩ := T.due (st5 ++ g6) (t + 2) (t + 3) (allW s).reverse t6.b hr4
  rw [List.length_reverse] at e7
  have t7 := t6.app g7
  have a7 : mTest (mOp gNe (mTup (mCons (mMeth "Tally" "counts" c_counts (mVar 4) mNil) (mCons (mMeth "Tally" "due" c_due (mVar 4) mNil) mNil))) (mTup (mCons (mMeth "Tally" "counts" c_counts (mVar 5) mNil) (mCons (mMeth "Tally" "due" c_due (mVar 5) mNil) mNil)))) [some x0, some (.int k), some (enc s), some (.tup (rows.map tupR)), some (.ref t), some (.ref (t + 2)), z6, x7, x8, x9, x10, x11] st5 = .ok false (st5 ++ g6 ++ g7) := by
    have u1 := meth_o (ma := mVar 4) (ev := [some x0, some (.int k), some (enc s), some (.tup (rows.map tupR)), some (.ref t), some (.ref (t + 2)), z6, x7, x8, x9, x10, x11]) (m := "counts") (by simp) t5.a.ins (tfs_m4 _ _) (T.counts _ t (t + 1) _ t5.a hl4)
    have u2 := meth_o (ma := mVar 4) (ev := [some x0, some (.int k), some (enc s), some (.tup (rows.map tupR)), some (.ref t), some (.ref (t + 2)), z6, x7, x8, x9, x10, x11]) (m := "due") (by simp) t5.a.ins (tfs_m5 _ _) e6
    have u3 := meth_o (ma := mVar 5) (ev := [some x0, some (.int k), some (enc s), some (.tup (rows.map tupR)), some (.ref t), some (.ref (t + 2)), z6, x7, x8, x9, x10, x11]) (m := "counts") (by simp) t6.b.ins (tfs_m4 _ _) (T.counts _ (t + 2) (t + 3) _ t6.b hr4)
    have u4 := meth_o (ma := mVar 5) (ev := [some x0, some (.int k), some (enc s), some (.tup (rows.map tupR)), some (.ref t), some (.ref (t + 2)), z6, x7, x8, x9, x10, x11]) (m := "due") (by simp) t6.b.ins (tfs_m5 _ _) e7
    rw [counts_rev] at u3
    have ne1 : ∀ st, gNe (.tup [.tup (countsL (allW s)), .tup (dueL (bookC s) (bookM s) (allW s).length)]) (.tup [.tup (countsL (allW s)), .tup (dueL (bookC s) (bookM s) (allW s).length)]) st = some (.bl false, st) := fun st => ne_self (by
      rw [dok_tup, doks_cons, doks_cons, dok_counts (allW s) 57, dok_due _ _ _ 56]
      rfl)
    rw [e_Test, e_Op, e_Tup, e_Cons, u1]
    simp only [Rs.bind_ok]
    rw [e_Cons, u2]
    simp only [Rs.bind_ok, e_Nil, List.length_cons, List.length_nil, Nat.zero_add, Nat.reduceAdd, lim2, if_true]
    rw [e_Tup, e_Cons, u3]
    simp only [Rs.bind_ok]
    rw [e_Cons, u4]
    simp only [Rs.bind_ok, e_Nil, List.length_cons, List.length_nil, Nat.zero_add, Nat.reduceAdd, lim2, if_true, ne1, e_of_some]
  generalize st5 ++ g6 ++ g7 = st7 at *
  -- what is below
  obtain ⟨g8, e8⟩ := T.due st7 t (t + 1) (allW s) t7.a hl4
  have t8 := t7.app g8
  have hdl : (dueL (bookC s) (bookM s) (allW s).length).length ≤ lim := by unfold dueL; rw [List.length_map]; exact hkl
  obtain ⟨y8, y9, k9⟩ := low_loop (lv := lv) (c_counts := c_counts) (c_due := c_due) (c_lack := c_lack) (c_many := c_many) (c_note := c_note) (c_undo := c_undo) (c_cell := c_cell) (c_say := c_say) (c_all := c_all) (c_fa := c_fa) (b := bookC s) (n := (allW s).length) m0 (by omega) (x0 := some x0) (x1 := some (.int k)) (x2 := some (enc s)) (x3 := some (.tup (rows.map tupR))) (x4 := some (.ref t)) (x5 := some (.ref (t + 2))) (x6 := z6) (x10 := x10) (x11 := x11) (st := st7 ++ g8) (sortI (ks (bookC s))) 1 x8 x9
  generalize hL : lowF (bookC s) (bookM s) ((allW s).length : Int) (sortI (ks (bookC s))) 1 = L at *
  have a9 : mFor (mItT (mMeth "Tally" "due" c_due (mVar 4) mNil)) (gtTup 2 (gtsCons (gtName 8) (gtsCons (gtName 9) gtsNil))) (m_law_b2 lv c_counts c_due c_lack c_many c_note c_undo c_cell c_say c_all c_fa) [some x0, some (.int k), some (enc s), some (.tup (rows.map tupR)), some (.ref t), some (.ref (t + 2)), z6, some (.int 1), x8, x9, x10, x11] st7 = .ok (.nx, [some x0, some (.int k), some (enc s), some (.tup (rows.map tupR)), some (.ref t), some (.ref (t + 2)), z6, some (.int L), y8, y9, x10, x11]) (st7 ++ g8) := by
    have u1 := meth_o (ma := mVar 4) (ev := [some x0, some (.int k), some (enc s), some (.tup (rows.map tupR)), some (.ref t), some (.ref (t + 2)), z6, some (.int 1), x8, x9, x10, x11]) (m := "due") (by simp) t7.a.ins (tfs_m5 _ _) e8
    rw [e_For, e_ItT, u1]
    simp only [Rs.bind_ok, hdl, if_true]
    exact k9
  generalize st7 ++ g8 = st8 at *
  obtain ⟨g10, e10⟩ := T.due st8 t (t + 1) (allW s) t8.a hl4
  have t10 := t8.app g10
  have a10 : mTest (mOp gNe (mQ gSum (mLc [8, 9] (mItT (mMeth "Tally" "due" c_due (mVar 4) mNil)) (gtTup 2 (gtsCons (gtName 8) (gtsCons (gtName 9) gtsNil))) mYes (mOp gMul (mOp gIx (mVar 9) (mC (.int 0))) (mOp gDiv (mVar 7) (mOp gIx (mVar 9) (mC (.int 1))))))) (mOp gMul (mVar 7) (mCB gLen (mCons (mVar 3) mNil)))) [some x0, some (.int k), some (enc s), some (.tup (rows.map tupR)), some (.ref t), some (.ref (t + 2)), z6, some (.int L), y8, y9, x10, x11] st8 = .ok false (st8 ++ g10) := by
    have u1 := meth_o (ma := mVar 4) (ev := [some x0, some (.int k), some (enc s), some (.tup (rows.map tupR)), some (.ref t), some (.ref (t + 2)), z6, some (.int L), y8, y9, x10, x11]) (m := "due") (by simp) t8.a.ins (tfs_m5 _ _) e10
    have hlc : lcLoop (gtTup 2 (gtsCons (gtName 8) (gtsCons (gtName 9) gtsNil))) mYes (mOp gMul (mOp gIx (mVar 9) (mC (.int 0))) (mOp gDiv (mVar 7) (mOp gIx (mVar 9) (mC (.int 1))))) (dueL (bookC s) (bookM s) (allW s).length) [some x0, some (.int k), some (enc s), some (.tup (rows.map tupR)), some (.ref t), some (.ref (t + 2)), z6, some (.int L), none, none, x10, x11] (st8 ++ g10) = .ok ((sortI (ks (bookC s))).map fun w => .int (pnF (cnt (bookC s) w * ((allW s).length : Int)) (bookM s) * (L / qnF (cnt (bookC s) w * ((allW s).length : Int)) (bookM s)))) (st8 ++ g10) := by
      refine lc_map (fun w => D.tup [.int w, fr (cnt (bookC s) w * ((allW s).length : Int)) (bookM s)]) _ _ fun w _ => ⟨_, tg2 _ _ _ _ _, ?_⟩
      obtain ⟨_, q0, q1, q2⟩ := pq_cross (cnt (bookC s) w * ((allW s).length : Int)) m0
      have hc := cnt_le_tot hG.nn w
      rw [hG.tot] at hc
      have hcn : cnt (bookC s) w * ((allW s).length : Int) ≤ 216 ^ 2 * 4000 := Int.mul_le_mul (by omega) (by omega) (by omega) (by decide)
      have hcn0 : 0 ≤ cnt (bookC s) w * ((allW s).length : Int) := Int.mul_nonneg hc.1 (by omega)
      have sp : small64 (pnF (cnt (bookC s) w * ((allW s).length : Int)) (bookM s)) = true := decide_eq_true (by omega)
      have q3 : (qnF (cnt (bookC s) w * ((allW s).length : Int)) (bookM s)).natAbs < 2 ^ 200 := by
        have : (2 : Nat) ^ 200 = 1606938044258990275541962092341162602522202993782792835301376 := by decide
        omega
      rw [fr_pq]
      simp [sp, q0, q3]
    have hsum : gSum ((sortI (ks (bookC s))).map fun w => D.int (pnF (cnt (bookC s) w * ((allW s).length : Int)) (bookM s) * (L / qnF (cnt (bookC s) w * ((allW s).length : Int)) (bookM s)))) = some (.int (L * (allW s).length)) := by
      have h1 : ((sortI (ks (bookC s))).map fun w => D.int (pnF (cnt (bookC s) w * ((allW s).length : Int)) (bookM s) * (L / qnF (cnt (bookC s) w * ((allW s).length : Int)) (bookM s)))) = ((sortI (ks (bookC s))).map fun w => pnF (cnt (bookC s) w * ((allW s).length : Int)) (bookM s) * (L / qnF (cnt (bookC s) w * ((allW s).length : Int)) (bookM s))).map D.int := by rw [List.map_map]; rfl
      have h2 := due_sum ((allW s).length : Int) hG m0
      rw [hL] at h2
      rw [h1, e_sum, h2]
    have sn : small64 ((allW s).length : Int) = true := small_of (by omega) (by omega)
    rw [e_Test, e_Op, e_Q, e_Lc, e_ItT, u1]
    simp only [Rs.bind_ok, hdl, if_true, e_wC, e_wN, List.set_cons_succ, List.set_cons_zero, hlc, hsum, e_Op, e_CB, e_Cons, e_Nil, e_Var, List.getElem?_cons_zero, List.getElem?_cons_succ, hlen, e_of_some, e_mul, sn, Bool.or_true, Bool.true_or, e_neI, beq_self_eq_true, Bool.not_true]
  generalize st8 ++ g10 = st10 at *
  -- plain
  have a11 : mQ gTupOf (mLc [8, 11] (mItT (mMeth "Tally" "counts" c_counts (mVar 4) mNil)) (gtTup 2 (gtsCons (gtName 8) (gtsCons (gtName 11) gtsNil))) mYes (mTup (mCons (mVar 8) (mCons (mTup (mCons (mVar 11) (mCons (mC (.int 1)) mNil))) mNil)))) [some x0, some (.int k), some (enc s), some (.tup (rows.map tupR)), some (.ref t), some (.ref (t + 2)), z6, some (.int L), y8, y9, x10, x11] st10 = .ok (.tup ((ssort (allW s)).map fun w => .tup [.int w, .tup [.int (((allW s).count w : Nat) : Int), .int 1]])) st10 := by
    have u1 := meth_o (ma := mVar 4) (ev := [some x0, some (.int k), some (enc s), some (.tup (rows.map tupR)), some (.ref t), some (.ref (t + 2)), z6, some (.int L), y8, y9, x10, x11]) (m := "counts") (by simp) t10.a.ins (tfs_m4 _ _) (T.counts _ t (t + 1) _ t10.a hl4)
    have hlc : lcLoop (gtTup 2 (gtsCons (gtName 8) (gtsCons (gtName 11) gtsNil))) mYes (mTup (mCons (mVar 8) (mCons (mTup (mCons (mVar 11) (mCons (mC (.int 1)) mNil))) mNil))) (countsL (allW s)) [some x0, some (.int k), some (enc s), some (.tup (rows.map tupR)), some (.ref t), some (.ref (t + 2)), z6, some (.int L), none, y9, x10, none] st10 = .ok ((ssort (allW s)).map fun w => .tup [.int w, .tup [.int (((allW s).count w : Nat) : Int), .int 1]]) st10 := by
      refine lc_map (fun w => D.tup [.int w, .int (((allW s).count w : Nat) : Int)]) _ _ fun w _ => ⟨_, tg2 _ _ _ _ _, ?_⟩
      simp
    rw [e_Q, e_Lc, e_ItT, u1]
    simp only [Rs.bind_ok, hcl, if_true, e_wC, e_wN, List.set_cons_succ, List.set_cons_zero, hlc, e_tupOf]
  obtain ⟨st12, t12, a12⟩ : ∃ st12, Two st12 t (t + 1) (t + 2) (t + 3) s (allW s) (allW s).reverse ∧ mTAnd (mTest (mOp gEq (mLenSet (mLc [6] (mItT (mVar 3)) (gtName 6) mYes (mCB gLen (mCons (mVar 6) mNil)))) (mC (.int 1)))) (mTest (mOp gNe (mMeth "Tally" "due" c_due (mVar 4) mNil) (mVar 10))) [some x0, some (.int k), some (enc s), some (.tup (rows.map tupR)), some (.ref t), some (.ref (t + 2)), z6, some (.int L), y8, y9, some (.tup ((ssort (allW s)).map fun w => .tup [.int w, .tup [.int (((allW s).count w : Nat) : Int), .int 1]])), x11] st10 = .ok false st12 := by
    have hlc : lcLoop (gtName 6) mYes (mCB gLen (mCons (mVar 6) mNil)) (rows.map tupR) [some x0, some (.int k), some (enc s), some (.tup (rows.map tupR)), some (.ref t), some (.ref (t + 2)), none, some (.int L), y8, y9, some (.tup ((ssort (allW s)).map fun w => .tup [.int w, .tup [.int (((allW s).count w : Nat) : Int), .int 1]])), x11] st10 = .ok (rows.map fun R => .int R.length) st10 := by
      refine lc_map tupR _ _ fun R _ => ⟨_, rfl, ?_⟩
      simp [tupR]
    have hints : intsOf (rows.map fun R => D.int R.length) = some (rows.map fun R => (R.length : Int)) := by
      have : (rows.map fun R => D.int R.length) = (rows.map fun R => (R.length : Int)).map D.int := by rw [List.map_map]; rfl
      rw [this, intsOf_map]
    have hrl : rows.length ≤ lim := by omega
    have hr40 : rows.length ≤ 4000 := by omega
    have u0 : mTest (mOp gEq (mLenSet (mLc [6] (mItT (mVar 3)) (gtName 6) mYes (mCB gLen (mCons (mVar 6) mNil)))) (mC (.int 1))) [some x0, some (.int k), some (enc s), some (.tup (rows.map tupR)), some (.ref t), some (.ref (t + 2)), z6, some (.int L), y8, y9, some (.tup ((ssort (allW s)).map fun w => .tup [.int w, .tup [.int (((allW s).count w : Nat) : Int), .int 1]])), x11] st10 = .ok ((((ddI (rows.map fun R => (R.length : Int))).length : Nat) : Int) == 1) st10 := by
      rw [e_Test, e_Op, e_LenSet, e_Lc, e_ItT]
      simp only [e_Var, List.getElem?_cons_zero, List.getElem?_cons_succ, Rs.bind_ok, List.length_map, hrl, if_true, e_wC, e_wN, List.set_cons_succ, List.set_cons_zero, hlc, hints, hr40, e_C, e_eqI, e_of_some]
    by_cases hp : plainS s = true
    · by_cases h1 : (((ddI (rows.map fun R => (R.length : Int))).length : Nat) : Int) = 1
      · obtain ⟨g, e⟩ := T.due st10 t (t + 1) (allW s) t10.a hl4
        have u1 := meth_o (ma := mVar 4) (ev := [some x0, some (.int k), some (enc s), some (.tup (rows.map tupR)), some (.ref t), some (.ref (t + 2)), z6, some (.int L), y8, y9, some (.tup ((ssort (allW s)).map fun w => .tup [.int w, .tup [.int (((allW s).count w : Nat) : Int), .int 1]])), x11]) (m := "due") (by simp) t10.a.ins (tfs_m5 _ _) e
        rw [due_plain hw hd hp] at u1
        have ne1 : ∀ st, gNe (.tup ((ssort (allW s)).map fun w => .tup [.int w, .tup [.int (((allW s).count w : Nat) : Int), .int 1]])) (.tup ((ssort (allW s)).map fun w => .tup [.int w, .tup [.int (((allW s).count w : Nat) : Int), .int 1]])) st = some (.bl false, st) := fun st => ne_self (by
          rw [← due_plain hw hd hp]
          exact dok_due _ _ _ 57)
        refine ⟨st10 ++ g, t10.app g, ?_⟩
        rw [e_TAnd, u0, h1]
        simp only [Rs.bind_ok, beq_self_eq_true, if_true]
        rw [e_Test, e_Op, u1]
        simp only [Rs.bind_ok, e_Var, List.getElem?_cons_zero, List.getElem?_cons_succ, ne1, e_of_some]
      · refine ⟨st10, t10, ?_⟩
        rw [e_TAnd, u0, beq_eq_false_iff_ne.mpr h1]
        rfl
    · have hf : plainS s = false := by cases h : plainS s; rfl; exact absurd h hp
      have h2 := lens_two hw hf
      rw [hrows] at h2
      have h1 : (((ddI (rows.map fun R => (R.length : Int))).length : Nat) : Int) ≠ 1 := by omega
      refine ⟨st10, t10, ?_⟩
      rw [e_TAnd, u0, beq_eq_false_iff_ne.mpr h1]
      rfl
  -- all taken back
  obtain ⟨w6, st13, k13, t13⟩ := undoA (lv := lv) (c_counts := c_counts) (c_due := c_due) (c_lack := c_lack) (c_many := c_many) (c_note := c_note) (c_cell := c_cell) (c_say := c_say) (c_all := c_all) (c_fa := c_fa) T.undo (x0 := some x0) (x1 := some (.int k)) (x2 := some (enc s)) (x3 := some (.tup (rows.map tupR))) (x5 := some (.ref (t + 2))) (x7 := some (.int L)) (x8 := y8) (x9 := y9) (x10 := some (.tup ((ssort (allW s)).map fun w => .tup [.int w, .tup [.int (((allW s).count w : Nat) : Int), .int 1]]))) (x11 := x11) (rows.map tupR) (allW s) z6 st12 t12.a (by rw [List.length_map, hWl])
  obtain ⟨g14, e14⟩ := T.due st13 t (t + 1) [] t13 (by simp)
  have a14 : mTOr (mTest (mOp gNe (mMeth "Tally" "many" c_many (mVar 4) mNil) (mC (.int 0)))) (mTOr (mTest (mOp gNe (mMeth "Tally" "counts" c_counts (mVar 4) mNil) (mTup mNil))) (mTest (mCmpL (!·) (mLoN (mLc [8, 9] (mItT (mMeth "Tally" "due" c_due (mVar 4) mNil)) (gtTup 2 (gtsCons (gtName 8) (gtsCons (gtName 9) gtsNil))) (mTest (mOp gNe (mVar 9) (mTup (mCons (mC (.int 0)) (mCons (mC (.int 1)) mNil))))) (mVar 9))) (mLoN (mDisp mNil))))) [some x0, some (.int k), some (enc s), some (.tup (rows.map tupR)), some (.ref t), some (.ref (t + 2)), w6, some (.int L), y8, y9, some (.tup ((ssort (allW s)).map fun w => .tup [.int w, .tup [.int (((allW s).count w : Nat) : Int), .int 1]])), x11] st13 = .ok false (st13 ++ g14) := by
    generalize hev : [some x0, some (.int k), some (enc s), some (.tup (rows.map tupR)), some (.ref t), some (.ref (t + 2)), w6, some (.int L), y8, y9, some (.tup ((ssort (allW s)).map fun w => .tup [.int w, .tup [.int (((allW s).count w : Nat) : Int), .int 1]])), x11] = ev
    have h4 : mVar 4 ev st13 = .ok (.ref t) st13 := by rw [← hev]; rfl
    have u1 := meth_o (m := "many") h4 t13.ins (tfs_m3 _ _) (T.many st13 t (t + 1) _ t13)
    have u2 := meth_o (m := "counts") h4 t13.ins (tfs_m4 _ _) (T.counts st13 t (t + 1) _ t13 (by simp))
    have u3 := meth_o (m := "due") h4 t13.ins (tfs_m5 _ _) e14
    have c0 : countsL [] = [] := rfl
    rw [c0] at u2
    have ne0 : ∀ st, gNe (.tup []) (.tup []) st = some (.bl false, st) := fun st => ne_self (by rfl)
    have hdl0 : (dueL (bookC s) (bookM s) (([] : List Int).length : Int)).length ≤ lim := by unfold dueL; rw [List.length_map]; exact hkl
    have hlen9 : ev.length = 12 := by rw [← hev]; rfl
    have hlc : lcLoop (gtTup 2 (gtsCons (gtName 8) (gtsCons (gtName 9) gtsNil))) (mTest (mOp gNe (mVar 9) (mTup (mCons (mC (.int 0)) (mCons (mC (.int 1)) mNil))))) (mVar 9) (dueL (bookC s) (bookM s) (([] : List Int).length : Int)) ((ev.set 9 none).set 8 none) (st13 ++ g14) = .ok [] (st13 ++ g14) := by
      have := lc_filt (g := gtTup 2 (gtsCons (gtName 8) (gtsCons (gtName 9) gtsNil))) (t := mTest (mOp gNe (mVar 9) (mTup (mCons (mC (.int 0)) (mCons (mC (.int 1)) mNil))))) (m := mVar 9) (ev := (ev.set 9 none).set 8 none) (st := st13 ++ g14) (fun w => D.tup [.int w, fr (cnt (bookC s) w * (([] : List Int).length : Int)) (bookM s)]) (fun _ => false) (fun _ => D.non) (sortI (ks (bookC s))) fun w _ => ⟨_, tg2 _ _ _ _ _, ?_, fun z => by cases z⟩
      · rw [List.filter_eq_nil_iff.mpr (by simp)] at this
        exact this
      · have hz : fr (cnt (bookC s) w * (([] : List Int).length : Int)) (bookM s) = .tup [.int 0, .int 1] := by
          rw [List.length_nil, Int.natCast_zero, Int.mul_zero, fr_zero m0]
        have ne1 : ∀ st, gNe (.tup [.int 0, .int 1]) (.tup [.int 0, .int 1]) st = some (.bl false, st) := fun st => ne_self (by rfl)
        have h9 : ((((ev.set 9 none).set 8 none).set 8 (some (.int w))).set 9 (some (fr (cnt (bookC s) w * (([] : List Int).length : Int)) (bookM s))))[9]? = some (some (.tup [.int 0, .int 1])) := by
          rw [List.getElem?_set_self (by simp [hlen9]), hz]
        rw [e_Test, e_Op, e_Var, h9]
        simp [ne1]
    have hleq : leq [] [] = true := rfl
    rw [e_TOr, e_Test, e_Op, u1]
    simp only [Rs.bind_ok, e_C, List.length_nil, Int.natCast_zero, e_neI, beq_self_eq_true, Bool.not_true, e_of_some, Bool.false_eq_true, if_false]
    rw [e_TOr, e_Test, e_Op, u2]
    simp only [Rs.bind_ok, e_Tup, e_Nil, List.length_nil, lim0, if_true, ne0, e_of_some, Bool.false_eq_true, if_false]
    rw [e_Test, e_CmpL, e_LoN, e_Lc, e_ItT, u3]
    simp only [Rs.bind_ok, hdl0, if_true, e_wC, e_wN, hlc]
    rw [e_LoN, e_Disp, e_Nil]
    simp only [Rs.bind_ok, List.length_nil, lim0, if_true, e_loN]
    rfl
  refine ⟨some (enc s), some (.tup (rows.map tupR)), some (.ref t), some (.ref (t + 2)), w6, some (.int L), y8, y9, some (.tup ((ssort (allW s)).map fun w => .tup [.int w, .tup [.int (((allW s).count w : Nat) : Int), .int 1]])), x11, st13 ++ g14, ?_⟩
  have hrl : rows.length ≤ lim := by omega
  unfold m_law_b5
  have a1 : mSet 2 (mCall c_say (mCons (mOp gAdd (mCall c_cell (mCons (mVar 0) (mCons (mVar 1) mNil))) (mOp gMul (mC (.int 3)) (mVar 1))) (mCons (mC (.int 3)) (mCons (mC (.int 2)) mNil)))) [some x0, some (.int k), x2, x3, x4, x5, x6, x7, x8, x9, x10, x11] st = .ok (.nx, [some x0, some (.int k), some (enc s), x3, x4, x5, x6, x7, x8, x9, x10, x11]) st := by
    simp [hcv, s3, hsay]
  rw [e_Seq, a1]
  simp only
  rw [e_Seq, e_Set, e_Call]
  simp only [e_Cons, e_Nil, e_Var, List.getElem?_cons_zero, List.getElem?_cons_succ, Rs.bind_ok, e0, List.set_cons_succ, List.set_cons_zero]
  rw [e_Seq, a3]
  simp only
  rw [e_Seq, e_For, e_ItT]
  simp only [e_Var, List.getElem?_cons_zero, List.getElem?_cons_succ, Rs.bind_ok, List.length_map, hrl, if_true, k4]
  rw [e_Seq, e_For, e_ItT, e_RevT]
  simp only [e_Var, List.getElem?_cons_zero, List.getElem?_cons_succ, Rs.bind_ok, List.length_reverse, List.length_map, hrl, if_true]
  rw [← List.map_reverse, k5]
  simp only
  rw [e_Seq, e_IfS, a6]
  simp only [Rs.bind_ok, Bool.false_eq_true, if_false, e_Skip]
  rw [e_Seq, e_IfS, a7]
  simp only [Rs.bind_ok, Bool.false_eq_true, if_false, e_Skip]
  rw [e_Seq, e_Set, e_C]
  simp only [Rs.bind_ok, List.set_cons_succ, List.set_cons_zero]
  rw [e_Seq, a9]
  simp only
  rw [e_Seq, e_IfS, a10]
  simp only [Rs.bind_ok, Bool.false_eq_true, if_false, e_Skip]
  rw [e_Seq, e_Set, a11]
  simp only [Rs.bind_ok, List.set_cons_succ, List.set_cons_zero]
  rw [e_Seq, e_IfS, a12]
  simp only [Rs.bind_ok, Bool.false_eq_true, if_false, e_Skip]
  rw [e_Seq, e_For, e_ItT]
  simp only [e_Var, List.getElem?_cons_zero, List.getElem?_cons_succ, Rs.bind_ok, List.length_map, hrl, if_true, k13]
  rw [e_IfS, a14]
  simp only [Rs.bind_ok, Bool.false_eq_true, if_false, e_Skip]
end
end Ml

namespace L17
open PySem L2 Ml
def lv : Nat := 24
theorem l_talc {s : Say} (hw : Wf s) (hd : dice s ≤ 6) (hp : dep s ≤ 5) : TalC (callN 23 .Tally_counts) (callN 23 .Tally_due) (callN 23 .Tally_lacking) (callN 23 .Tally_many) (callN 23 .Tally_note) (callN 23 .Tally_undo) s where
  many := fun st t f ms h => l_many' (by decide) h
  counts := fun st t f ms h hl => l_counts (by decide) h hl
  lack := fun st t f ms h => l_lack (by decide) hw hd hp h
  due := fun st t f ms h hl => l_due (by decide) hw hd hp h hl
  note := fun st t f ms w h hk hl => note_yes (c_sh := callN 22 .share_of) h (l_share_of (n := 22) (w := w) (by decide) hw hd hp) (bookM_pos s hw) ((key_iff (gb_book s hw) w).mp hk) hl
  undo := fun st t f ms h hm => undo_yes h hm
theorem body17 {ns : List Int} {k : Nat} {st : Sto} {x2 x3 x4 x5 x6 x7 x8 x9 x10 x11 : Option D} : ∃ y2 y3 y4 y5 y6 y7 y8 y9 y10 y11 st', m_law_b5 23 (callN 23 .Tally_counts) (callN 23 .Tally_due) (callN 23 .Tally_lacking) (callN 23 .Tally_many) (callN 23 .Tally_note) (callN 23 .Tally_undo) (callN 23 .f_law_cell) (callN 23 .f_law_saying) (callN 23 .all_faces) (callN 23 .fall) [some (.ro (ns.map D.int)), some (.int k), x2, x3, x4, x5, x6, x7, x8, x9, x10, x11] st = .ok (.nx, [some (.ro (ns.map D.int)), some (.int k), y2, y3, y4, y5, y6, y7, y8, y9, y10, y11]) st' := by
  obtain ⟨cv, hcv⟩ : ∃ c : Int, callN 23 .f_law_cell [.ro (ns.map D.int), .int (k : Int)] st = .ok (.int c) st := cell_ok (by omega)
  obtain ⟨s, s1, s2, s3, s4⟩ := l_say 3 23 (cv + 3 * k) 2 st (by decide) (by decide) (by decide) (by decide)
  have hz := szb s1 (by omega) (by omega)
  have hkl : (sortI (ks (bookC s))).length ≤ lim := by
    rw [(sortI_perm _).length_eq]
    have := gb_len' hz.g hz.rm
    simpa [ks] using this
  exact say17 (by decide) s1 s3 (fun st => l_allf (by omega) s1 (.inl s3) st) (fun R hR st => by
    obtain ⟨a, o, e1, _⟩ := acc_row s1 hR
    have : wth s R = a := by simp only [wth, e1]
    rw [this]
    exact l_fall_yes (n := 23) (st := st) (by omega) s1 e1) (l_talc s1 (by omega) (by omega)) hkl hcv s4
theorem law_true (ns : List Int) (h : ns.length ≤ 63) : ∃ st', callN lv .law [.ro (ns.map D.int)] [] = .ok (.bl true) st' := by
  rw [show callN lv .law = fnX 1 12 (m_law 23 (callN 23 .Tally_counts) (callN 23 .Tally_due) (callN 23 .Tally_lacking) (callN 23 .Tally_many) (callN 23 .Tally_note) (callN 23 .Tally_undo) (callN 23 .f_law_cell) (callN 23 .f_law_saying) (callN 23 .all_faces) (callN 23 .fall)) from rfl]
  obtain ⟨ev', st', hl, v1, v2, v3, v4, v5, v6, v7, v8, v9, v10, v11, rfl⟩ := loop_inv (g := gtName 1) (body := m_law_b5 23 (callN 23 .Tally_counts) (callN 23 .Tally_due) (callN 23 .Tally_lacking) (callN 23 .Tally_many) (callN 23 .Tally_note) (callN 23 .Tally_undo) (callN 23 .f_law_cell) (callN 23 .f_law_saying) (callN 23 .all_faces) (callN 23 .fall)) (ds := rngD 0 6)
    (I := fun ev => ∃ v1 v2 v3 v4 v5 v6 v7 v8 v9 v10 v11, ev = [some (.ro (ns.map D.int)), v1, v2, v3, v4, v5, v6, v7, v8, v9, v10, v11])
    (by
      rintro d hd ev st ⟨v1, v2, v3, v4, v5, v6, v7, v8, v9, v10, v11, rfl⟩
      obtain ⟨i, hi⟩ := List.getElem?_of_mem hd
      obtain ⟨hi1, rfl⟩ := rngD_get hi
      obtain ⟨w2, w3, w4, w5, w6, w7, w8, w9, w10, w11, st', e⟩ := body17 (ns := ns) (k := i) (st := st) (x2 := v2) (x3 := v3) (x4 := v4) (x5 := v5) (x6 := v6) (x7 := v7) (x8 := v8) (x9 := v9) (x10 := v10) (x11 := v11)
      exact ⟨_, _, st', rfl, by simpa using e, _, _, _, _, _, _, _, _, _, _, _, rfl⟩)
    [some (.ro (ns.map D.int)), none, none, none, none, none, none, none, none, none, none, none] [] ⟨_, _, _, _, _, _, _, _, _, _, _, rfl⟩
  have hl6 : (6 : Int) ≤ ((lim : Nat) : Int) := by decide
  refine ⟨st', ?_⟩
  simp only [fnX, m_law]
  simp [hl6, hl]
end L17

open PySem PySem.W PyProof.Rows
set_option maxRecDepth 100000 in
set_option maxHeartbeats 0 in
theorem PySem.Challenge.cw_diespeech_k17_whole_tallies_holds : PySem.Challenge.rw_diespeech_k17_whole_tallies.Holds := by
  w_on; o_law; k_head; (case hw => w_witness2)
  k_fill
  refine Ml.walk_m (l := PySem.Challenge.rw_diespeech_k17_whole_tallies) (k := L17.lv) (c := L17.callN L17.lv .law) rfl rfl ⟨rfl, by decide, by decide⟩ (fun w h Y => PySem.W.kIn_of Y) ?F L17.law_true
  case F =>
    intro w mg fa h KX G hmg
    refine' L17.all_mk L17.lv KX G hmg ?g_Faces ?g_NoFaces ?g_NoNote ?g_NoWorth ?g_Tally ?pg_Faces ?hd_Faces ?po_Faces ?sa_Faces ?mk_Faces ?kc_Faces ?n_Faces_row ?n_Faces_count ?n_Faces_of ?pg_Tally ?hd_Tally ?po_Tally ?sa_Tally ?mk_Tally ?kc_Tally ?n_Tally_said ?n_Tally_fell ?x_NoFaces ?k_NoFaces ?s_NoFaces ?y_NoFaces ?x_NoNote ?k_NoNote ?s_NoNote ?y_NoNote ?x_NoWorth ?k_NoWorth ?s_NoWorth ?y_NoWorth ?e_NoFaces_NoFaces ?e_NoFaces_NoNote ?e_NoFaces_NoWorth ?a_f_Tally_init ?l_f_Tally_init ?c_f_Tally_init ?k_f_Tally_init ?i_f_Tally_init ?a_f_Faces_init ?l_f_Faces_init ?c_f_Faces_init ?k_f_Faces_init ?i_f_Faces_init ?a_f_divisor ?l_f_divisor ?c_f_divisor ?k_f_divisor ?a_f_fraction ?l_f_fraction ?c_f_fraction ?k_f_fraction ?a_f_sum_of ?l_f_sum_of ?c_f_sum_of ?k_f_sum_of ?a_f_product ?l_f_product ?c_f_product ?k_f_product ?a_f_added ?l_f_added ?c_f_added ?k_f_added ?a_f_put_together ?l_f_put_together ?c_f_put_together ?k_f_put_together ?a_f_of_two ?l_f_of_two ?c_f_of_two ?k_f_of_two ?a_f_one_die ?l_f_one_die ?c_f_one_die ?k_f_one_die ?a_f_kept_shares ?l_f_kept_shares ?c_f_kept_shares ?k_f_kept_shares ?a_f_book_of ?l_f_book_of ?c_f_book_of ?k_f_book_of ?a_f_shares ?l_f_shares ?c_f_shares ?k_f_shares ?a_f_share_of ?l_f_share_of ?c_f_share_of ?k_f_share_of ?a_f_Tally_note ?l_f_Tally_note ?c_f_Tally_note ?k_f_Tally_note ?i_f_Tally_note ?a_f_Tally_many ?l_f_Tally_many ?c_f_Tally_many ?k_f_Tally_many ?i_f_Tally_many ?a_f_Tally_counts ?l_f_Tally_counts ?c_f_Tally_counts ?k_f_Tally_counts ?i_f_Tally_counts ?a_f_Tally_due ?l_f_Tally_due ?c_f_Tally_due ?k_f_Tally_due ?i_f_Tally_due ?a_f_Tally_lacking ?l_f_Tally_lacking ?c_f_Tally_lacking ?k_f_Tally_lacking ?i_f_Tally_lacking ?a_f_Tally_undo ?l_f_Tally_undo ?c_f_Tally_undo ?k_f_Tally_undo ?i_f_Tally_undo ?a_f_Faces_take ?l_f_Faces_take ?c_f_Faces_take ?k_f_Faces_take ?i_f_Faces_take ?a_f_die_worth ?l_f_die_worth ?c_f_die_worth ?k_f_die_worth ?a_f_worth_of ?l_f_worth_of ?c_f_worth_of ?k_f_worth_of ?a_f_read_faces ?l_f_read_faces ?c_f_read_faces ?k_f_read_faces ?a_f_fall ?l_f_fall ?c_f_fall ?k_f_fall ?a_f_sides_in ?l_f_sides_in ?c_f_sides_in ?k_f_sides_in ?a_f_state_of ?l_f_state_of ?c_f_state_of ?k_f_state_of ?a_f_all_faces ?l_f_all_faces ?c_f_all_faces ?k_f_all_faces ?a_f_f_law_cell ?l_f_f_law_cell ?c_f_f_law_cell ?k_f_f_law_cell ?a_f_f_law_mix ?l_f_f_law_mix ?c_f_f_law_mix ?k_f_f_law_mix ?a_f_f_law_dice ?l_f_f_law_dice ?c_f_f_law_dice ?k_f_f_law_dice ?a_f_f_law_many ?l_f_f_law_many ?c_f_f_law_many ?k_f_f_law_many ?a_f_f_law_saying ?l_f_f_law_saying ?c_f_f_law_saying ?k_f_f_law_saying ?a_f_law ?l_f_law ?c_f_law ?k_f_law ?z_abs ?z_int ?z_isinstance ?z_len ?z_max ?z_min ?z_range ?z_set ?z_sorted ?z_sum ?z_tuple ?g_DICE ?l_DICE
    (case g_Faces => k_is)
    (case g_NoFaces => k_is)
    (case g_NoNote => k_is)
    (case g_NoWorth => k_is)
    (case g_Tally => k_is)
    (case pg_Faces => k_is)
    (case hd_Faces => k_is)
    (case po_Faces => k_is)
    (case sa_Faces => k_is)
    (case mk_Faces => k_is)
    (case kc_Faces => k_is)
    (case n_Faces_row => k_is)
    (case n_Faces_count => k_is)
    (case n_Faces_of => k_is)
    (case pg_Tally => k_is)
    (case hd_Tally => k_is)
    (case po_Tally => k_is)
    (case sa_Tally => k_is)
    (case mk_Tally => k_is)
    (case kc_Tally => k_is)
    (case n_Tally_said => k_is)
    (case n_Tally_fell => k_is)
    (case x_NoFaces => k_exc)
    (case k_NoFaces => k_is)
    (case s_NoFaces => k_is)
    (case y_NoFaces => k_is)
    (case x_NoNote => k_exc)
    (case k_NoNote => k_is)
    (case s_NoNote => k_is)
    (case y_NoNote => k_is)
    (case x_NoWorth => k_exc)
    (case k_NoWorth => k_is)
    (case s_NoWorth => k_is)
    (case y_NoWorth => k_is)
    (case e_NoFaces_NoFaces => kts_exm)
    (case e_NoFaces_NoNote => kts_exm)
    (case e_NoFaces_NoWorth => kts_exm)
    (case a_f_Tally_init => k_is)
    (case l_f_Tally_init => k_is)
    (case c_f_Tally_init => k_is)
    (case k_f_Tally_init => k_is)
    (case i_f_Tally_init => k_is)
    (case a_f_Faces_init => k_is)
    (case l_f_Faces_init => k_is)
    (case c_f_Faces_init => k_is)
    (case k_f_Faces_init => k_is)
    (case i_f_Faces_init => k_is)
    (case a_f_divisor => k_is)
    (case l_f_divisor => k_is)
    (case c_f_divisor => k_is)
    (case k_f_divisor => k_is)
    (case a_f_fraction => k_is)
    (case l_f_fraction => k_is)
    (case c_f_fraction => k_is)
    (case k_f_fraction => k_is)
    (case a_f_sum_of => k_is)
    (case l_f_sum_of => k_is)
    (case c_f_sum_of => k_is)
    (case k_f_sum_of => k_is)
    (case a_f_product => k_is)
    (case l_f_product => k_is)
    (case c_f_product => k_is)
    (case k_f_product => k_is)
    (case a_f_added => k_is)
    (case l_f_added => k_is)
    (case c_f_added => k_is)
    (case k_f_added => k_is)
    (case a_f_put_together => k_is)
    (case l_f_put_together => k_is)
    (case c_f_put_together => k_is)
    (case k_f_put_together => k_is)
    (case a_f_of_two => k_is)
    (case l_f_of_two => k_is)
    (case c_f_of_two => k_is)
    (case k_f_of_two => k_is)
    (case a_f_one_die => k_is)
    (case l_f_one_die => k_is)
    (case c_f_one_die => k_is)
    (case k_f_one_die => k_is)
    (case a_f_kept_shares => k_is)
    (case l_f_kept_shares => k_is)
    (case c_f_kept_shares => k_is)
    (case k_f_kept_shares => k_is)
    (case a_f_book_of => k_is)
    (case l_f_book_of => k_is)
    (case c_f_book_of => k_is)
    (case k_f_book_of => k_is)
    (case a_f_shares => k_is)
    (case l_f_shares => k_is)
    (case c_f_shares => k_is)
    (case k_f_shares => k_is)
    (case a_f_share_of => k_is)
    (case l_f_share_of => k_is)
    (case c_f_share_of => k_is)
    (case k_f_share_of => k_is)
    (case a_f_Tally_note => k_is)
    (case l_f_Tally_note => k_is)
    (case c_f_Tally_note => k_is)
    (case k_f_Tally_note => k_is)
    (case i_f_Tally_note => k_is)
    (case a_f_Tally_many => k_is)
    (case l_f_Tally_many => k_is)
    (case c_f_Tally_many => k_is)
    (case k_f_Tally_many => k_is)
    (case i_f_Tally_many => k_is)
    (case a_f_Tally_counts => k_is)
    (case l_f_Tally_counts => k_is)
    (case c_f_Tally_counts => k_is)
    (case k_f_Tally_counts => k_is)
    (case i_f_Tally_counts => k_is)
    (case a_f_Tally_due => k_is)
    (case l_f_Tally_due => k_is)
    (case c_f_Tally_due => k_is)
    (case k_f_Tally_due => k_is)
    (case i_f_Tally_due => k_is)
    (case a_f_Tally_lacking => k_is)
    (case l_f_Tally_lacking => k_is)
    (case c_f_Tally_lacking => k_is)
    (case k_f_Tally_lacking => k_is)
    (case i_f_Tally_lacking => k_is)
    (case a_f_Tally_undo => k_is)
    (case l_f_Tally_undo => k_is)
    (case c_f_Tally_undo => k_is)
    (case k_f_Tally_undo => k_is)
    (case i_f_Tally_undo => k_is)
    (case a_f_Faces_take => k_is)
    (case l_f_Faces_take => k_is)
    (case c_f_Faces_take => k_is)
    (case k_f_Faces_take => k_is)
    (case i_f_Faces_take => k_is)
    (case a_f_die_worth => k_is)
    (case l_f_die_worth => k_is)
    (case c_f_die_worth => k_is)
    (case k_f_die_worth => k_is)
    (case a_f_worth_of => k_is)
    (case l_f_worth_of => k_is)
    (case c_f_worth_of => k_is)
    (case k_f_worth_of => k_is)
    (case a_f_read_faces => k_is)
    (case l_f_read_faces => k_is)
    (case c_f_read_faces => k_is)
    (case k_f_read_faces => k_is)
    (case a_f_fall => k_is)
    (case l_f_fall => k_is)
    (case c_f_fall => k_is)
    (case k_f_fall => k_is)
    (case a_f_sides_in => k_is)
    (case l_f_sides_in => k_is)
    (case c_f_sides_in => k_is)
    (case k_f_sides_in => k_is)
    (case a_f_state_of => k_is)
    (case l_f_state_of => k_is)
    (case c_f_state_of => k_is)
    (case k_f_state_of => k_is)
    (case a_f_all_faces => k_is)
    (case l_f_all_faces => k_is)
    (case c_f_all_faces => k_is)
    (case k_f_all_faces => k_is)
    (case a_f_f_law_cell => k_is)
    (case l_f_f_law_cell => k_is)
    (case c_f_f_law_cell => k_is)
    (case k_f_f_law_cell => k_is)
    (case a_f_f_law_mix => k_is)
    (case l_f_f_law_mix => k_is)
    (case c_f_f_law_mix => k_is)
    (case k_f_f_law_mix => k_is)
    (case a_f_f_law_dice => k_is)
    (case l_f_f_law_dice => k_is)
    (case c_f_f_law_dice => k_is)
    (case k_f_f_law_dice => k_is)
    (case a_f_f_law_many => k_is)
    (case l_f_f_law_many => k_is)
    (case c_f_f_law_many => k_is)
    (case k_f_f_law_many => k_is)
    (case a_f_f_law_saying => k_is)
    (case l_f_f_law_saying => k_is)
    (case c_f_f_law_saying => k_is)
    (case k_f_f_law_saying => k_is)
    (case a_f_law => k_is)
    (case l_f_law => k_is)
    (case c_f_law => k_is)
    (case k_f_law => k_is)
    (case z_abs => k_is)
    (case z_int => k_is)
    (case z_isinstance => k_is)
    (case z_len => k_is)
    (case z_max => k_is)
    (case z_min => k_is)
    (case z_range => k_is)
    (case z_set => k_is)
    (case z_sorted => k_is)
    (case z_sum => k_is)
    (case z_tuple => k_is)
    (case g_DICE => k_is)
    (case l_DICE => k_is)
#print axioms PySem.Challenge.cw_diespeech_k17_whole_tallies_holds
