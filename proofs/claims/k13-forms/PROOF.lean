import PyProof.Rows.All
import Wide.All
import OpenK.AllK
import Wide.FinOn
import HandS.ForMost
import HandS.IsInst
import HandS.Walk
import HandS.Zip
import HandS.Flow
import HandS.Defaults
import HandS.TupAny
import HandS.Deep
import HandS.More
import HandS.MakeKwOnly
import HandS.HeadHook3
import HandS.HeadEnd
import HandS.Head2
import HandS.HeadHook4
import Lean
import PySem.Challenge.RW_onceclicked_k13_forms_of_events
set_option Elab.async false
set_option linter.all false
set_option maxRecDepth 100000
set_option maxHeartbeats 4000000
/-! DL: plain data over the hand layer. A value and all that it leads to is one datum (D); lists and instances that are changed are places of a store (Mu). -/
namespace DL
open PySem PySem.Spec PyProof.Rows L2

/-- a datum -/
inductive D where
  | non | bl (b : Bool) | int (i : Int) | str (x : Str) | ty (n : String)
  /-- a def or a class of the module -/
  | fn (a : Addr)
  | tup (ds : List D) | lst (ds : List D)
  /-- a list that is only read (the script) -/
  | fls (ds : List D)
  /-- a dict (int and text keys) -/
  | dct (ks : List Key) (ds : List D)
  /-- an instance that does not change any more -/
  | obj (C : Addr) (ns : List Str) (ds : List D)
  /-- what stands at a place of the store -/
  | mu (k : Nat)
/-- a changing thing -/
inductive MO where
  | lst (ds : List D) | ins (C : Addr) (ns : List Str) (ds : List D) | dct (ks : List Key) (ds : List D)
  /-- a list of which only this is known -/
  | any (p : List D → Prop)
abbrev Mu := List MO
abbrev Sl := List (Option D)

def FAt (K : PySem.W.Frag) (r x : List Addr) (H : Hp) (a : Addr) (xs : List V) : Prop :=
  (a ∉ r ∧ a ∉ x ∧ Rd H a (.lst xs)) ∨ ∃ (o : Obj) (its : Array Value) (n : Nat), K.lookup a = some o ∧ o.cls = .type "list" ∧ o.dict = none ∧ o.data = .seq its n ∧ its.size ≤ sizeLine ∧ Vals xs its.toList
def LAt (K : PySem.W.Frag) (r x : List Addr) (H : Hp) (a : Addr) (xs : List V) : Prop := a ∉ r ∧ a ∉ x ∧ H a = some (.lst xs)
def TAt (K : PySem.W.Frag) (r x : List Addr) (H : Hp) (a : Addr) (xs : List V) : Prop :=
  (a ∉ r ∧ a ∉ x ∧ H a = some (.tup xs)) ∨ ∃ (o : Obj) (its : Array Value) (n : Nat), K.lookup a = some o ∧ o.cls = .type "tuple" ∧ o.data = .seq its n ∧ its.size ≤ sizeLine ∧ Vals xs its.toList
theorem FAt.sq {K : PySem.W.Frag} {r x : List Addr} {H : Hp} {a : Addr} {xs : List V} (h : FAt K r x H a xs) : SqL K H a xs := h.elim (fun z => .inl z.2.2) .inr
theorem LAt.sq {K : PySem.W.Frag} {r x : List Addr} {H : Hp} {a : Addr} {xs : List V} (h : LAt K r x H a xs) : SqL K H a xs := .inl (.inl h.2.2)
theorem TAt.sq {K : PySem.W.Frag} {r x : List Addr} {H : Hp} {a : Addr} {xs : List V} (h : TAt K r x H a xs) : SqT K H a xs := h.elim (fun z => .inl (.inl z.2.2)) .inr

mutual
def Den (K : PySem.W.Frag) (r x : List Addr) (H : Hp) : D → V → Prop
  | .non, v => v = .non
  | .bl b, v => v = .bl b
  | .int i, v => v = .int i
  | .str z, v => v = .str z
  | .ty n, v => v = .ty n
  | .fn a, v => v = .ref a
  | .tup ds, v => ∃ a vs, v = .ref a ∧ TAt K r x H a vs ∧ DenL K r x H ds vs
  | .lst ds, v => ∃ a vs, v = .ref a ∧ LAt K r x H a vs ∧ DenL K r x H ds vs
  | .fls ds, v => ∃ a vs, v = .ref a ∧ FAt K r x H a vs ∧ DenL K r x H ds vs
  | .dct ks ds, v => ∃ a vs, v = .ref a ∧ a ∉ r ∧ a ∉ x ∧ H a = some (.dK (ks.zip vs)) ∧ ks.length = vs.length ∧ DenL K r x H ds vs
  | .obj C ns ds, v => ∃ a dx vs, v = .ref a ∧ a ∉ r ∧ a ∉ x ∧ H a = some (.ins C dx (ns.zip vs)) ∧ ns.length = vs.length ∧ DenL K r x H ds vs
  | .mu k, v => ∃ a, v = .ref a ∧ r[k]? = some a
def DenL (K : PySem.W.Frag) (r x : List Addr) (H : Hp) : List D → List V → Prop
  | [], vs => vs = []
  | d :: ds, vs => ∃ v vr, vs = v :: vr ∧ Den K r x H d v ∧ DenL K r x H ds vr
end

def MOk (K : PySem.W.Frag) (r x : List Addr) (H : Hp) (a : Addr) : MO → Prop
  | .lst ds => ∃ vs, H a = some (.lst vs) ∧ DenL K r x H ds vs
  | .ins C ns ds => ∃ dx vs, H a = some (.ins C dx (ns.zip vs)) ∧ ns.length = vs.length ∧ DenL K r x H ds vs
  | .dct ks ds => ∃ vs, H a = some (.dK (ks.zip vs)) ∧ ks.length = vs.length ∧ DenL K r x H ds vs
  | .any p => ∃ ds, p ds ∧ ∃ vs, H a = some (.lst vs) ∧ DenL K r x H ds vs
structure MRep (K : PySem.W.Frag) (r x : List Addr) (H : Hp) (mu : Mu) : Prop where
  len : r.length = mu.length
  nd : r.Nodup
  at_ : ∀ (k : Nat) (a : Addr) (m : MO), r[k]? = some a → mu[k]? = some m → MOk K r x H a m
  out : ∀ a, a ∈ x → a ∉ r ∧ ∃ o, H a = some o

/-- from one heap to a later one: what is not in the store stays; new places are new -/
structure Ext (r r' : List Addr) (H H' : Hp) : Prop where
  pre : ∃ r1, r' = r ++ r1
  keep : ∀ a o, a ∉ r → H a = some o → H' a = some o
  new : ∀ a, a ∈ r' → a ∉ r → H a = none

theorem Ext.refl (r : List Addr) (H : Hp) : Ext r r H H := ⟨⟨[], by simp⟩, fun _ _ _ e => e, fun _ h n => absurd h n⟩
theorem Ext.mem {r r' : List Addr} {H H' : Hp} (e : Ext r r' H H') {a : Addr} (h : a ∈ r) : a ∈ r' := by
  obtain ⟨r1, rfl⟩ := e.pre
  exact List.mem_append_left _ h
theorem Ext.out {r r' : List Addr} {H H' : Hp} (e : Ext r r' H H') {a : Addr} {o : HO} (n : a ∉ r) (h : H a = some o) : a ∉ r' := fun m => by
  have z := e.new a m n
  rw [h] at z
  cases z
theorem Ext.trans {r r1 r2 : List Addr} {H H1 H2 : Hp} (a : Ext r r1 H H1) (b : Ext r1 r2 H1 H2) : Ext r r2 H H2 := by
  refine ⟨?_, fun x o n e => b.keep x o (a.out n e) (a.keep x o n e), fun x m n => ?_⟩
  · obtain ⟨z1, e1⟩ := a.pre
    obtain ⟨z2, e2⟩ := b.pre
    exact ⟨z1 ++ z2, by rw [e2, e1, List.append_assoc]⟩
  · by_cases hx : x ∈ r1
    · exact a.new x hx n
    · have z := b.new x m hx
      cases q : H x with
      | none => rfl
      | some o =>
        have := a.keep x o n q
        rw [z] at this
        cases this
theorem Ext.get {r r' : List Addr} {H H' : Hp} (e : Ext r r' H H') {k : Nat} {a : Addr} (h : r[k]? = some a) : r'[k]? = some a := by
  obtain ⟨r1, rfl⟩ := e.pre
  rw [List.getElem?_append_left (List.getElem?_eq_some_iff.mp h).1]
  exact h
theorem Rd.some_ {H : Hp} {a : Addr} {u : HO} (h : Rd H a u) : ∃ o, H a = some o := h.elim (fun e => ⟨_, e⟩) fun ⟨_, e⟩ => ⟨_, e⟩
theorem Ext.rd {r r' : List Addr} {H H' : Hp} (e : Ext r r' H H') {a : Addr} {u : HO} (n : a ∉ r) (h : Rd H a u) : a ∉ r' ∧ Rd H' a u := by
  obtain ⟨o, ho⟩ := Rd.some_ h
  refine ⟨e.out n ho, ?_⟩
  rcases h with h | ⟨o, h⟩
  · exact .inl (e.keep _ _ n h)
  · exact .inr ⟨o, e.keep _ _ n h⟩
theorem Ext.fat {K : PySem.W.Frag} {r r' x : List Addr} {H H' : Hp} (e : Ext r r' H H') {a : Addr} {xs : List V} (h : FAt K r x H a xs) : FAt K r' x H' a xs :=
  h.elim (fun z => .inl ⟨(e.rd z.1 z.2.2).1, z.2.1, (e.rd z.1 z.2.2).2⟩) .inr
theorem Ext.lat {K : PySem.W.Frag} {r r' x : List Addr} {H H' : Hp} (e : Ext r r' H H') {a : Addr} {xs : List V} (h : LAt K r x H a xs) : LAt K r' x H' a xs := ⟨e.out h.1 h.2.2, h.2.1, e.keep _ _ h.1 h.2.2⟩
theorem Ext.tat {K : PySem.W.Frag} {r r' x : List Addr} {H H' : Hp} (e : Ext r r' H H') {a : Addr} {xs : List V} (h : TAt K r x H a xs) : TAt K r' x H' a xs :=
  h.elim (fun z => .inl ⟨e.out z.1 z.2.2, z.2.1, e.keep _ _ z.1 z.2.2⟩) .inr
mutual
theorem Den.ext {K : PySem.W.Frag} {r r' x : List Addr} {H H' : Hp} (e : Ext r r' H H') : ∀ (d : D) (v : V), Den K r x H d v → Den K r' x H' d v
  | .non, v, h => h
  | .bl b, v, h => h
  | .int i, v, h => h
  | .str z, v, h => h
  | .ty n, v, h => h
  | .fn a, v, h => h
  | .tup ds, v, h => by
    simp only [Den] at h ⊢
    obtain ⟨a, vs, e1, t, l⟩ := h
    exact ⟨a, vs, e1, e.tat t, DenL.ext e ds vs l⟩
  | .lst ds, v, h => by
    simp only [Den] at h ⊢
    obtain ⟨a, vs, e1, t, l⟩ := h
    exact ⟨a, vs, e1, e.lat t, DenL.ext e ds vs l⟩
  | .fls ds, v, h => by
    simp only [Den] at h ⊢
    obtain ⟨a, vs, e1, t, l⟩ := h
    exact ⟨a, vs, e1, e.fat t, DenL.ext e ds vs l⟩
  | .dct ks ds, v, h => by
    simp only [Den] at h ⊢
    obtain ⟨a, vs, e1, n, nx, t, z, l⟩ := h
    exact ⟨a, vs, e1, e.out n t, nx, e.keep _ _ n t, z, DenL.ext e ds vs l⟩
  | .obj C ns ds, v, h => by
    simp only [Den] at h ⊢
    obtain ⟨a, dx, vs, e1, n, nx, t, z, l⟩ := h
    exact ⟨a, dx, vs, e1, e.out n t, nx, e.keep _ _ n t, z, DenL.ext e ds vs l⟩
  | .mu k, v, h => by
    simp only [Den] at h ⊢
    obtain ⟨a, e1, t⟩ := h
    exact ⟨a, e1, e.get t⟩
theorem DenL.ext {K : PySem.W.Frag} {r r' x : List Addr} {H H' : Hp} (e : Ext r r' H H') : ∀ (ds : List D) (vs : List V), DenL K r x H ds vs → DenL K r' x H' ds vs
  | [], vs, h => h
  | d :: ds, vs, h => by
    simp only [DenL] at h ⊢
    obtain ⟨v, vr, e1, h1, h2⟩ := h
    exact ⟨v, vr, e1, Den.ext e d v h1, DenL.ext e ds vr h2⟩
end
section
variable {K : PySem.W.Frag} {r r' x : List Addr} {H H' : Hp} {mu : Mu}
theorem DenL.length : ∀ {ds : List D} {vs : List V}, DenL K r x H ds vs → ds.length = vs.length
  | [], vs, h => by
    simp only [DenL] at h
    rw [h]
    rfl
  | d :: ds, vs, h => by
    simp only [DenL] at h
    obtain ⟨v, vr, rfl, _, h2⟩ := h
    simp [DenL.length h2]
theorem DenL.get : ∀ {ds : List D} {vs : List V} {i : Nat} {d : D}, DenL K r x H ds vs → ds[i]? = some d → ∃ v, vs[i]? = some v ∧ Den K r x H d v
  | [], _, _, _, _, e => by simp at e
  | d :: ds, vs, 0, x, h, e => by
    simp only [DenL] at h
    obtain ⟨v, vr, rfl, h1, _⟩ := h
    simp at e
    subst e
    exact ⟨v, rfl, h1⟩
  | d :: ds, vs, i + 1, x, h, e => by
    simp only [DenL] at h
    obtain ⟨v, vr, rfl, _, h2⟩ := h
    obtain ⟨w, e1, q⟩ := DenL.get (i := i) h2 (by simpa using e)
    exact ⟨w, by simpa using e1, q⟩
theorem DenL.getV : ∀ {ds : List D} {vs : List V} {i : Nat} {v : V}, DenL K r x H ds vs → vs[i]? = some v → ∃ d, ds[i]? = some d ∧ Den K r x H d v
  | [], vs, i, v, h, e => by
    simp only [DenL] at h
    subst h
    simp at e
  | d :: ds, vs, 0, x, h, e => by
    simp only [DenL] at h
    obtain ⟨v, vr, rfl, h1, _⟩ := h
    simp at e
    subst e
    exact ⟨d, rfl, h1⟩
  | d :: ds, vs, i + 1, x, h, e => by
    simp only [DenL] at h
    obtain ⟨v, vr, rfl, _, h2⟩ := h
    obtain ⟨w, e1, q⟩ := DenL.getV (i := i) h2 (by simpa using e)
    exact ⟨w, by simpa using e1, q⟩
theorem DenL.append : ∀ {ds es : List D} {vs ws : List V}, DenL K r x H ds vs → DenL K r x H es ws → DenL K r x H (ds ++ es) (vs ++ ws)
  | [], _, _, _, h, q => by
    simp only [DenL] at h
    subst h
    exact q
  | d :: ds, es, vs, ws, h, q => by
    simp only [DenL] at h
    obtain ⟨v, vr, rfl, h1, h2⟩ := h
    exact ⟨v, vr ++ ws, rfl, h1, DenL.append h2 q⟩
theorem DenL.one {d : D} {v : V} (h : Den K r x H d v) : DenL K r x H [d] [v] := ⟨v, [], rfl, h, rfl⟩
theorem DenL.nil : DenL K r x H [] [] := rfl
theorem DenL.take : ∀ {ds : List D} {vs : List V} (n : Nat), DenL K r x H ds vs → DenL K r x H (ds.take n) (vs.take n)
  | _, _, 0, _ => rfl
  | [], _, n + 1, h => by
    simp only [DenL] at h
    subst h
    rfl
  | d :: ds, vs, n + 1, h => by
    simp only [DenL] at h
    obtain ⟨v, vr, rfl, h1, h2⟩ := h
    exact ⟨v, vr.take n, rfl, h1, DenL.take n h2⟩
theorem DenL.drop : ∀ {ds : List D} {vs : List V} (n : Nat), DenL K r x H ds vs → DenL K r x H (ds.drop n) (vs.drop n)
  | _, _, 0, h => by simpa using h
  | [], _, n + 1, h => by
    simp only [DenL] at h
    subst h
    rfl
  | d :: ds, vs, n + 1, h => by
    simp only [DenL] at h
    obtain ⟨v, vr, rfl, h1, h2⟩ := h
    exact DenL.drop n h2
theorem DenL.set : ∀ {ds : List D} {vs : List V} {d : D} {v : V} (i : Nat), DenL K r x H ds vs → Den K r x H d v → DenL K r x H (ds.set i d) (vs.set i v)
  | [], _, _, _, _, h, _ => by
    simp only [DenL] at h
    subst h
    rfl
  | x :: ds, vs, d, v, 0, h, q => by
    simp only [DenL] at h
    obtain ⟨y, vr, rfl, h1, h2⟩ := h
    exact ⟨v, vr, rfl, q, h2⟩
  | x :: ds, vs, d, v, i + 1, h, q => by
    simp only [DenL] at h
    obtain ⟨y, vr, rfl, h1, h2⟩ := h
    exact ⟨y, vr.set i v, rfl, h1, DenL.set i h2 q⟩
theorem DenL.reverse : ∀ {ds : List D} {vs : List V}, DenL K r x H ds vs → DenL K r x H ds.reverse vs.reverse
  | [], _, h => by
    simp only [DenL] at h
    subst h
    rfl
  | d :: ds, vs, h => by
    simp only [DenL] at h
    obtain ⟨v, vr, rfl, h1, h2⟩ := h
    rw [List.reverse_cons, List.reverse_cons]
    exact DenL.append (DenL.reverse h2) (DenL.one h1)

theorem MRep.has (m : MRep K r x H mu) {a : Addr} (h : a ∈ r) : ∃ o, H a = some o := by
  obtain ⟨k, hk, e⟩ := List.mem_iff_getElem.mp h
  have e1 : r[k]? = some a := by rw [List.getElem?_eq_getElem hk, e]
  have hk2 : k < mu.length := by rw [← m.len]; exact hk
  have q := m.at_ k a mu[k] e1 (List.getElem?_eq_getElem hk2)
  cases z : mu[k] with
  | lst ds => rw [z] at q; obtain ⟨vs, e, _⟩ := q; exact ⟨_, e⟩
  | ins C ns ds => rw [z] at q; obtain ⟨dx, vs, e, _⟩ := q; exact ⟨_, e⟩
  | dct ks ds => rw [z] at q; obtain ⟨vs, e, _⟩ := q; exact ⟨_, e⟩
  | any p => rw [z] at q; obtain ⟨ds, _, vs, e, _⟩ := q; exact ⟨_, e⟩
theorem MRep.fresh (m : MRep K r x H mu) {p : Addr} (h : H p = none) : p ∉ r := fun z => by
  obtain ⟨o, e⟩ := m.has z
  rw [h] at e
  cases e
theorem MOk.of_ {a : Addr} {m : MO} (e : Ext r r' H H') (ha : H' a = H a) (h : MOk K r x H a m) : MOk K r' x H' a m := by
  cases m with
  | lst ds => obtain ⟨vs, e1, l⟩ := h; exact ⟨vs, ha.trans e1, DenL.ext e ds vs l⟩
  | ins C ns ds => obtain ⟨dx, vs, e1, z, l⟩ := h; exact ⟨dx, vs, ha.trans e1, z, DenL.ext e ds vs l⟩
  | dct ks ds => obtain ⟨vs, e1, z, l⟩ := h; exact ⟨vs, ha.trans e1, z, DenL.ext e ds vs l⟩
  | any p => obtain ⟨ds, hp, vs, e1, l⟩ := h; exact ⟨ds, hp, vs, ha.trans e1, DenL.ext e ds vs l⟩
/-- a heap that only grows -/
theorem Ext.same (s : Same H H') : Ext r r H H' := ⟨⟨[], by simp⟩, fun a o _ e => s a o e, fun _ h n => absurd h n⟩
theorem MRep.same (m : MRep K r x H mu) (s : Same H H') : MRep K r x H' mu :=
  ⟨m.len, m.nd, fun k a y h1 h2 => by
    have q := m.at_ k a y h1 h2
    obtain ⟨o, e⟩ := m.has (List.mem_of_getElem? h1)
    exact q.of_ (Ext.same s) (by rw [e]; exact s a o e), fun a h => ⟨(m.out a h).1, let ⟨o, e⟩ := (m.out a h).2; ⟨o, s a o e⟩⟩⟩
theorem same_upd {p : Addr} {o : HO} (h : H p = none) : Same H (upd H p o) := fun b x e => by
  rw [upd_ne (ne_of_none e h)]
  exact e
/-- a place is changed -/
theorem Ext.set {a : Addr} {o : HO} (ha : a ∈ r) : Ext r r H (upd H a o) :=
  ⟨⟨[], by simp⟩, fun b x n e => by rw [upd_ne (show b ≠ a from fun z => n (z ▸ ha))]; exact e, fun _ h n => absurd h n⟩
theorem MRep.set (m : MRep K r x H mu) {k : Nat} {a : Addr} {o : HO} {z : MO} (hk : r[k]? = some a) (hx : MOk K r x (upd H a o) a z) : MRep K r x (upd H a o) (mu.set k z) := by
  have hm : a ∈ r := List.mem_of_getElem? hk
  refine ⟨by simpa using m.len, m.nd, fun j b y h1 h2 => ?_, fun b hb => ⟨(m.out b hb).1, ?_⟩⟩
  rotate_left
  · obtain ⟨n, o', e⟩ := m.out b hb
    exact ⟨o', by rw [upd_ne (show b ≠ a from fun z => n (z ▸ hm))]; exact e⟩
  by_cases e : j = k
  · subst e
    rw [hk] at h1
    cases h1
    have hj : j < mu.length := by rw [← m.len]; exact (List.getElem?_eq_some_iff.mp hk).1
    rw [List.getElem?_set_self hj] at h2
    cases h2
    exact hx
  · rw [List.getElem?_set_ne (Ne.symm e)] at h2
    have nb : b ≠ a := fun q => by
      subst q
      exact e (nd_ix m.nd h1 hk)
    exact (m.at_ j b y h1 h2).of_ (Ext.set hm) (upd_ne nb)
/-- a new place -/
theorem Ext.add {p : Addr} {o : HO} (hp : H p = none) : Ext r (r ++ [p]) H (upd H p o) :=
  ⟨⟨[p], rfl⟩, fun b x _ e => same_upd hp b x e, fun a h n => by
    rcases List.mem_append.mp h with h | h
    · exact absurd h n
    · simp at h
      rw [h]
      exact hp⟩
theorem MRep.add (m : MRep K r x H mu) {p : Addr} {o : HO} {z : MO} (hp : H p = none) (hx : MOk K (r ++ [p]) x (upd H p o) p z) : MRep K (r ++ [p]) x (upd H p o) (mu ++ [z]) := by
  have np : p ∉ r := m.fresh hp
  refine ⟨by simp [m.len], ?_, fun j b y h1 h2 => ?_, fun b hb => ?_⟩
  rotate_left 2
  · obtain ⟨n, o', e⟩ := m.out b hb
    refine ⟨fun q => ?_, o', same_upd hp b o' e⟩
    rcases List.mem_append.mp q with q | q
    · exact n q
    · simp at q
      rw [q, hp] at e
      cases e
  · rw [List.nodup_append]
    refine ⟨m.nd, by simp, fun a ha b hb => ?_⟩
    simp at hb
    subst hb
    exact fun z => np (z ▸ ha)
  · by_cases hj : j < r.length
    · rw [List.getElem?_append_left hj] at h1
      rw [List.getElem?_append_left (by rw [← m.len]; exact hj)] at h2
      have nb : b ≠ p := fun z => np (z ▸ List.mem_of_getElem? h1)
      exact (m.at_ j b y h1 h2).of_ (Ext.add hp) (upd_ne nb)
    · have e1 : j = r.length := by
        have z := (List.getElem?_eq_some_iff.mp h1).1
        simp at z
        omega
      subst e1
      rw [List.getElem?_append_right (Nat.le_refl _)] at h1
      rw [List.getElem?_append_right (by rw [m.len]; exact Nat.le_refl _)] at h2
      simp at h1
      rw [m.len] at h2
      simp at h2
      subst h1
      subst h2
      exact hx
end
end DL

namespace DL
open PySem PySem.Spec PyProof.Rows L2

/-! ### a place that is kept apart while it grows -/
/-- a general way from one description to another: what stands outside stays -/
theorem FAt.imp {K : PySem.W.Frag} {r r' x x' : List Addr} {H H' : Hp} (f : ∀ a o, a ∉ r → a ∉ x → H a = some o → a ∉ r' ∧ a ∉ x' ∧ H' a = some o) {a : Addr} {xs : List V} (h : FAt K r x H a xs) : FAt K r' x' H' a xs := by
  rcases h with ⟨n, nx, h⟩ | h
  · rcases h with h | ⟨o, h⟩
    · obtain ⟨z1, z2, z3⟩ := f _ _ n nx h
      exact .inl ⟨z1, z2, .inl z3⟩
    · obtain ⟨z1, z2, z3⟩ := f _ _ n nx h
      exact .inl ⟨z1, z2, .inr ⟨o, z3⟩⟩
  · exact .inr h
theorem LAt.imp {K : PySem.W.Frag} {r r' x x' : List Addr} {H H' : Hp} (f : ∀ a o, a ∉ r → a ∉ x → H a = some o → a ∉ r' ∧ a ∉ x' ∧ H' a = some o) {a : Addr} {xs : List V} (h : LAt K r x H a xs) : LAt K r' x' H' a xs := f _ _ h.1 h.2.1 h.2.2
theorem TAt.imp {K : PySem.W.Frag} {r r' x x' : List Addr} {H H' : Hp} (f : ∀ a o, a ∉ r → a ∉ x → H a = some o → a ∉ r' ∧ a ∉ x' ∧ H' a = some o) {a : Addr} {xs : List V} (h : TAt K r x H a xs) : TAt K r' x' H' a xs :=
  h.elim (fun z => .inl (f _ _ z.1 z.2.1 z.2.2)) .inr
mutual
theorem Den.imp {K : PySem.W.Frag} {r r' x x' : List Addr} {H H' : Hp} (f : ∀ a o, a ∉ r → a ∉ x → H a = some o → a ∉ r' ∧ a ∉ x' ∧ H' a = some o) (g : ∀ (k : Nat) (a : Addr), r[k]? = some a → r'[k]? = some a) : ∀ (d : D) (v : V), Den K r x H d v → Den K r' x' H' d v
  | .non, v, h => h
  | .bl b, v, h => h
  | .int i, v, h => h
  | .str z, v, h => h
  | .ty n, v, h => h
  | .fn a, v, h => h
  | .tup ds, v, h => by
    simp only [Den] at h ⊢
    obtain ⟨a, vs, e1, t, l⟩ := h
    exact ⟨a, vs, e1, t.imp f, DenL.imp f g ds vs l⟩
  | .lst ds, v, h => by
    simp only [Den] at h ⊢
    obtain ⟨a, vs, e1, t, l⟩ := h
    exact ⟨a, vs, e1, t.imp f, DenL.imp f g ds vs l⟩
  | .fls ds, v, h => by
    simp only [Den] at h ⊢
    obtain ⟨a, vs, e1, t, l⟩ := h
    exact ⟨a, vs, e1, t.imp f, DenL.imp f g ds vs l⟩
  | .dct ks ds, v, h => by
    simp only [Den] at h ⊢
    obtain ⟨a, vs, e1, n, nx, t, z, l⟩ := h
    obtain ⟨z1, z2, z3⟩ := f _ _ n nx t
    exact ⟨a, vs, e1, z1, z2, z3, z, DenL.imp f g ds vs l⟩
  | .obj C ns ds, v, h => by
    simp only [Den] at h ⊢
    obtain ⟨a, dx, vs, e1, n, nx, t, z, l⟩ := h
    obtain ⟨z1, z2, z3⟩ := f _ _ n nx t
    exact ⟨a, dx, vs, e1, z1, z2, z3, z, DenL.imp f g ds vs l⟩
  | .mu k, v, h => by
    simp only [Den] at h ⊢
    obtain ⟨a, e1, t⟩ := h
    exact ⟨a, e1, g _ _ t⟩
theorem DenL.imp {K : PySem.W.Frag} {r r' x x' : List Addr} {H H' : Hp} (f : ∀ a o, a ∉ r → a ∉ x → H a = some o → a ∉ r' ∧ a ∉ x' ∧ H' a = some o) (g : ∀ (k : Nat) (a : Addr), r[k]? = some a → r'[k]? = some a) : ∀ (ds : List D) (vs : List V), DenL K r x H ds vs → DenL K r' x' H' ds vs
  | [], vs, h => h
  | d :: ds, vs, h => by
    simp only [DenL] at h ⊢
    obtain ⟨v, vr, e1, h1, h2⟩ := h
    exact ⟨v, vr, e1, Den.imp f g d v h1, DenL.imp f g ds vr h2⟩
end
section
variable {K : PySem.W.Frag} {r r' x x' : List Addr} {H H' : Hp} {mu : Mu} {p : Addr} {o : HO}
theorem MOk.imp {a : Addr} {m : MO} (f : ∀ a o, a ∉ r → a ∉ x → H a = some o → a ∉ r' ∧ a ∉ x' ∧ H' a = some o) (g : ∀ (k : Nat) (a : Addr), r[k]? = some a → r'[k]? = some a) (ha : H' a = H a) (h : MOk K r x H a m) : MOk K r' x' H' a m := by
  cases m with
  | lst ds => obtain ⟨vs, e1, l⟩ := h; exact ⟨vs, ha.trans e1, DenL.imp f g ds vs l⟩
  | ins C ns ds => obtain ⟨dx, vs, e1, z, l⟩ := h; exact ⟨dx, vs, ha.trans e1, z, DenL.imp f g ds vs l⟩
  | dct ks ds => obtain ⟨vs, e1, z, l⟩ := h; exact ⟨vs, ha.trans e1, z, DenL.imp f g ds vs l⟩
  | any q => obtain ⟨ds, hp, vs, e1, l⟩ := h; exact ⟨ds, hp, vs, ha.trans e1, DenL.imp f g ds vs l⟩
/-- a new place, hidden -/
theorem hide_f (hp : H p = none) : ∀ a u, a ∉ r → a ∉ x → H a = some u → a ∉ r ∧ a ∉ p :: x ∧ (upd H p o) a = some u := fun a u n nx e => by
  have ne : a ≠ p := ne_of_none e hp
  refine ⟨n, ?_, by rw [upd_ne ne]; exact e⟩
  simp only [List.mem_cons, not_or]
  exact ⟨ne, nx⟩
theorem Den.hide (hp : H p = none) {d : D} {v : V} (h : Den K r x H d v) : Den K r (p :: x) (upd H p o) d v := Den.imp (hide_f hp) (fun _ _ e => e) d v h
theorem DenL.hide (hp : H p = none) {d : List D} {v : List V} (h : DenL K r x H d v) : DenL K r (p :: x) (upd H p o) d v := DenL.imp (hide_f hp) (fun _ _ e => e) d v h
theorem MRep.hide (m : MRep K r x H mu) (hp : H p = none) : MRep K r (p :: x) (upd H p o) mu := by
  refine ⟨m.len, m.nd, fun k a y h1 h2 => ?_, fun a h => ?_⟩
  · obtain ⟨u, e⟩ := m.has (List.mem_of_getElem? h1)
    exact (m.at_ k a y h1 h2).imp (hide_f hp) (fun _ _ e => e) (upd_ne (ne_of_none e hp))
  · rcases List.mem_cons.mp h with rfl | h
    · exact ⟨m.fresh hp, o, upd_same⟩
    · obtain ⟨n, u, e⟩ := m.out a h
      exact ⟨n, u, same_upd hp a u e⟩
/-- a hidden place is changed -/
theorem chg_f (hp : p ∈ x) : ∀ a u, a ∉ r → a ∉ x → H a = some u → a ∉ r ∧ a ∉ x ∧ (upd H p o) a = some u := fun a u n nx e =>
  ⟨n, nx, by rw [upd_ne (show a ≠ p from fun z => nx (z ▸ hp))]; exact e⟩
theorem Den.chg (hp : p ∈ x) {d : D} {v : V} (h : Den K r x H d v) : Den K r x (upd H p o) d v := Den.imp (chg_f hp) (fun _ _ e => e) d v h
theorem DenL.chg (hp : p ∈ x) {d : List D} {v : List V} (h : DenL K r x H d v) : DenL K r x (upd H p o) d v := DenL.imp (chg_f hp) (fun _ _ e => e) d v h
theorem MRep.chg (m : MRep K r x H mu) (hp : p ∈ x) : MRep K r x (upd H p o) mu := by
  refine ⟨m.len, m.nd, fun k a y h1 h2 => ?_, fun a h => ?_⟩
  · exact (m.at_ k a y h1 h2).imp (chg_f hp) (fun _ _ e => e) (upd_ne (show a ≠ p from fun z => (m.out p hp).1 (z ▸ List.mem_of_getElem? h1)))
  · obtain ⟨n, u, e⟩ := m.out a h
    by_cases z : a = p
    · exact ⟨n, o, by rw [z, upd_same]⟩
    · exact ⟨n, u, by rw [upd_ne z]; exact e⟩
/-- and shown -/
theorem Den.bare {d : D} {v : V} (h : Den K r (p :: x) H d v) : Den K r x H d v := Den.imp (fun a u n nx e => ⟨n, fun z => nx (List.mem_cons_of_mem _ z), e⟩) (fun _ _ e => e) d v h
theorem DenL.bare {d : List D} {v : List V} (h : DenL K r (p :: x) H d v) : DenL K r x H d v := DenL.imp (fun a u n nx e => ⟨n, fun z => nx (List.mem_cons_of_mem _ z), e⟩) (fun _ _ e => e) d v h
theorem MRep.bare (m : MRep K r (p :: x) H mu) : MRep K r x H mu :=
  ⟨m.len, m.nd, fun k a y h1 h2 => (m.at_ k a y h1 h2).imp (fun a u n nx e => ⟨n, fun z => nx (List.mem_cons_of_mem _ z), e⟩) (fun _ _ e => e) rfl, fun a h => m.out a (List.mem_cons_of_mem _ h)⟩
end

/-! ### readings over data -/
abbrev ET := Sl → Mu → (D → Mu → Prop) → Prop
abbrev BT := Sl → Mu → (Bool → Mu → Prop) → Prop
abbrev AT := Sl → Mu → (List D → Mu → Prop) → Prop
abbrev IT := Sl → Mu → (List D → Mu → Prop) → Prop
structure DEnds where
  nx : Sl → Mu → Prop
  rt : D → Mu → Prop
  bk : Sl → Mu → Prop := fun _ _ => False
  ct : Sl → Mu → Prop := fun _ _ => False
abbrev SB := DEnds → Sl → Mu → Prop

structure Rep (K : PySem.W.Frag) (r x : List Addr) (H : Hp) (σ : L2.St) (sl : Sl) (mu : Mu) : Prop where
  len : sl.length = σ.length
  at_ : ∀ (i : Nat) (d : D), sl[i]? = some (some d) → ∃ v, σ[i]? = some (some v) ∧ Den K r x H d v
  mu : MRep K r x H mu
section
variable {K : PySem.W.Frag} {r r' x : List Addr} {H H' : Hp} {σ : L2.St} {sl : Sl} {mu mu' : Mu}
theorem Rep.ext (R : Rep K r x H σ sl mu) (e : Ext r r' H H') (m : MRep K r' x H' mu') : Rep K r' x H' σ sl mu' :=
  ⟨R.len, fun i d h => let ⟨v, e1, q⟩ := R.at_ i d h; ⟨v, e1, Den.ext e d v q⟩, m⟩
theorem Rep.set (R : Rep K r x H σ sl mu) (i : Nat) {d : D} {v : V} (h : Den K r x H d v) : Rep K r x H (σ.set i (some v)) (sl.set i (some d)) mu := by
  refine ⟨by simp [R.len], fun j e hj => ?_, R.mu⟩
  by_cases z : i = j
  · subst z
    have hl : i < sl.length := by
      have q := (List.getElem?_eq_some_iff.mp hj).1
      simpa using q
    rw [List.getElem?_set_self hl] at hj
    cases hj
    exact ⟨v, List.getElem?_set_self (by rw [← R.len]; exact hl), h⟩
  · rw [List.getElem?_set_ne z] at hj
    obtain ⟨w, e1, q⟩ := R.at_ j e hj
    exact ⟨w, by rw [List.getElem?_set_ne z]; exact e1, q⟩
end
/-- what is wanted of a datum, from what is wanted of a value -/
def Qd (K : PySem.W.Frag) (r x : List Addr) (H : Hp) (Q : VK) : D → Mu → Prop := fun d mu' => ∀ r' H' v, Ext r r' H H' → MRep K r' x H' mu' → Den K r' x H' d v → Q v H'
def Qb (K : PySem.W.Frag) (r x : List Addr) (H : Hp) (Q : Bool → Hp → Prop) : Bool → Mu → Prop := fun b mu' => ∀ r' H', Ext r r' H H' → MRep K r' x H' mu' → Q b H'
def Qa (K : PySem.W.Frag) (r x : List Addr) (H : Hp) (Q : List V → Hp → Prop) : List D → Mu → Prop := fun ds mu' => ∀ r' H' vs, Ext r r' H H' → MRep K r' x H' mu' → DenL K r' x H' ds vs → Q vs H'
def Qs (K : PySem.W.Frag) (r x : List Addr) (H : Hp) (Q : L2.St → Hp → Prop) : Sl → Mu → Prop := fun sl mu' => ∀ r' H' σ, Ext r r' H H' → Rep K r' x H' σ sl mu' → Q σ H'
def lE (K : PySem.W.Frag) (T : ET) : TE := fun σ H Q => ∃ r x sl mu, Rep K r x H σ sl mu ∧ T sl mu (Qd K r x H Q)
def lB (K : PySem.W.Frag) (T : BT) : TT := fun σ H Q => ∃ r x sl mu, Rep K r x H σ sl mu ∧ T sl mu (Qb K r x H Q)
def lA (K : PySem.W.Frag) (T : AT) : TA := fun σ H Q => ∃ r x sl mu, Rep K r x H σ sl mu ∧ T sl mu (Qa K r x H Q)
def dEnds (K : PySem.W.Frag) (r x : List Addr) (H : Hp) (E : Ends) : DEnds := ⟨Qs K r x H E.nx, Qd K r x H E.rt, Qs K r x H E.bk, Qs K r x H E.ct⟩
def lS (K : PySem.W.Frag) (T : SB) : TS := fun E σ H => ∃ r x sl mu, Rep K r x H σ sl mu ∧ T (dEnds K r x H E) sl mu

def MoE (T : ET) : Prop := ∀ sl mu (Q Q' : D → Mu → Prop), (∀ d m, Q d m → Q' d m) → T sl mu Q → T sl mu Q'
def MoB (T : BT) : Prop := ∀ sl mu (Q Q' : Bool → Mu → Prop), (∀ d m, Q d m → Q' d m) → T sl mu Q → T sl mu Q'
def MoA (T : AT) : Prop := ∀ sl mu (Q Q' : List D → Mu → Prop), (∀ d m, Q d m → Q' d m) → T sl mu Q → T sl mu Q'
structure DEnds.Le (A B : DEnds) : Prop where
  nx : ∀ s m, A.nx s m → B.nx s m
  rt : ∀ s m, A.rt s m → B.rt s m
  bk : ∀ s m, A.bk s m → B.bk s m
  ct : ∀ s m, A.ct s m → B.ct s m
def MoS (T : SB) : Prop := ∀ sl mu (A B : DEnds), A.Le B → T A sl mu → T B sl mu

structure DE (X : Cx) (e : Expr) (T : ET) : Prop where
  pe : PE X e (lE X.K T)
  mo : MoE T
structure DB (X : Cx) (e : Expr) (T : BT) : Prop where
  pt : PT X e (lB X.K T)
  mo : MoB T
structure DA (X : Cx) (es : List Expr) (T : AT) : Prop where
  pa : PA X es (lA X.K T)
  mo : MoA T
  len : ∀ sl mu Q, T sl mu Q → T sl mu fun ds m => ds.length = es.length ∧ Q ds m
structure DS (X : Cx) (st : Stmt) (T : SB) : Prop where
  ps : PS X st (lS X.K T)
  mo : MoS T
structure DSs (X : Cx) (st : List Stmt) (T : SB) : Prop where
  ps : PSs X st (lS X.K T)
  mo : MoS T

theorem peMono {X : Cx} {e : Expr} {t t' : TE} (h : PE X e t) (f : ∀ σ H Q, t' σ H Q → t σ H Q) : PE X e t' := ⟨fun pins s σ H Q I q => h.run pins s σ H Q I (f σ H Q q)⟩
theorem ptMono {X : Cx} {e : Expr} {t t' : TT} (h : PT X e t) (f : ∀ σ H Q, t' σ H Q → t σ H Q) : PT X e t' := ⟨fun pins s σ H Q I q => h.run pins s σ H Q I (f σ H Q q)⟩
theorem pwMono {X : Cx} {e : Expr} {t t' : TT} (h : PW X e t) (f : ∀ σ H Q, t' σ H Q → t σ H Q) : PW X e t' := ⟨fun wh pins s σ H Q I q => h.run wh pins s σ H Q I (f σ H Q q)⟩
theorem paMono {X : Cx} {e : List Expr} {t t' : TA} (h : PA X e t) (f : ∀ σ H Q, t' σ H Q → t σ H Q) : PA X e t' := ⟨fun pos pins s σ H Q I q => h.run pos pins s σ H Q I (f σ H Q q)⟩
theorem psMono {X : Cx} {e : Stmt} {t t' : TS} (h : PS X e t) (f : ∀ E σ H, t' E σ H → t E σ H) : PS X e t' := ⟨fun pins s σ H E I q => h.run pins s σ H E I (f E σ H q)⟩
theorem pssMono {X : Cx} {e : List Stmt} {t t' : TS} (h : PSs X e t) (f : ∀ E σ H, t' E σ H → t E σ H) : PSs X e t' := ⟨fun pins s σ H E I q => h.run pins s σ H E I (f E σ H q)⟩

/-! ### names, constants -/
def dVar (i : Nat) : ET := fun sl mu Q => match sl[i]? with
  | some (some d) => Q d mu
  | _ => False
def dC (d : D) : ET := fun _ mu Q => Q d mu
section
variable {X : Cx}
theorem dVar_mo (i : Nat) : MoE (dVar i) := fun sl mu Q Q' f h => by
  unfold dVar at h ⊢
  split at h
  · exact f _ _ h
  · exact h.elim
theorem dC_mo (d : D) : MoE (dC d) := fun _ _ _ _ f h => f _ _ h
theorem dv_of {i : Nat} {e : Expr} (h : PE X e (tVar i)) : DE X e (dVar i) := by
  refine ⟨peMono h fun σ H Q ⟨r, x, sl, mu, R, q⟩ => ?_, dVar_mo i⟩
  unfold dVar at q
  split at q
  · rename_i d e1
    obtain ⟨v, e2, dn⟩ := R.at_ i d e1
    exact ⟨v, e2, q r H v (Ext.refl _ _) R.mu dn⟩
  · exact q.elim
theorem dv (i : Nat) {x : Str} {pos : Pos} (hN : X.N[i]? = some x := by rfl) (hv : Vis X.env.scope x := by first | exact Or.inl rfl | exact Or.inr (Or.inl rfl) | exact Or.inr (Or.inr rfl)) (hd : (x == ("__debug__" : Str)) = false := by decide)
    (hcd : (x == ("__classdict__" : Str)) = false := by decide) : DE X (.Name x pos) (dVar i) := dv_of (pe_var hN hv hd hcd)
theorem dc_of {e : Expr} {d : D} {v : V} (h : PE X e (tC v)) (hd : ∀ K r x H, Den K r x H d v) : DE X e (dC d) :=
  ⟨peMono h fun σ H Q ⟨r, x, sl, mu, R, q⟩ => q r H v (Ext.refl _ _) R.mu (hd _ _ _ _), dC_mo d⟩
theorem de_int {i j pos} : DE X (.Constant (.int i) j pos) (dC (.int i)) := dc_of pe_int fun _ _ _ _ => rfl
theorem de_bl {b j pos} : DE X (.Constant (.bool b) j pos) (dC (.bl b)) := dc_of pe_bl fun _ _ _ _ => rfl
theorem de_non {j pos} : DE X (.Constant .none j pos) (dC .non) := dc_of pe_non fun _ _ _ _ => rfl
theorem de_str {z j pos} : DE X (.Constant (.str z) j pos) (dC (.str z)) := dc_of pe_str fun _ _ _ _ => rfl
/-- a global of the module that holds a plain value -/
theorem de_glob {y : Str} {d : D} {v : V} {u : Value} {pos : Pos} (hg : Gl X y) (hm : X.mg y = some u) (rv : RelV v u) (hd : ∀ K r x H, Den K r x H d v) (hdb : (y == ("__debug__" : Str)) = false := by decide) : DE X (.Name y pos) (dC d) :=
  dc_of (pe_glob hg hm rv hdb) hd
theorem de_globK {y : Str} {d : D} {v : V} {u : Value} {pos : Pos} (hg : Gl X y) (hm : X.mg y = some u) (rv : RelV v u) (hd : ∀ r x H, Den X.K r x H d v) (hdb : (y == ("__debug__" : Str)) = false := by decide) : DE X (.Name y pos) (dC d) :=
  ⟨peMono (pe_glob hg hm rv hdb) fun σ H Q ⟨r, x, sl, mu, R, q⟩ => q r H v (Ext.refl _ _) R.mu (hd _ _ _), dC_mo d⟩
theorem de_bltn {y : Str} {d : D} {v : V} {u : Value} {pos : Pos} (hg : Gl X y) (hm : X.mg y = none) (hv : bootBuiltins y = some u) (rv : RelV v u) (hd : ∀ K r x H, Den K r x H d v) (hn : y ≠ "__name__" := by decide) (hdb : (y == ("__debug__" : Str)) = false := by decide) :
    DE X (.Name y pos) (dC d) := dc_of (pe_bltn hg hm hv rv hn hdb) hd

/-! ### operators by their rules -/
abbrev G1 := D → Mu → (D → Mu → Prop) → Prop
abbrev G2 := D → D → Mu → (D → Mu → Prop) → Prop
abbrev GL := List D → Mu → (D → Mu → Prop) → Prop
def MoG (g : Mu → (D → Mu → Prop) → Prop) : Prop := ∀ mu (Q Q' : D → Mu → Prop), (∀ d m, Q d m → Q' d m) → g mu Q → g mu Q'
structure L2r (K : PySem.W.Frag) (r2 : R2) (g : G2) : Prop where
  to : ∀ (r x : List Addr) (H : Hp) (a b : D) (v w : V) (mu : Mu) (Q : VK), MRep K r x H mu → Den K r x H a v → Den K r x H b w → g a b mu (Qd K r x H Q) → r2 v w H Q
  mo : ∀ a b, MoG (g a b)
structure L1r (K : PySem.W.Frag) (r1 : V → Hp → VK → Prop) (g : G1) : Prop where
  to : ∀ (r x : List Addr) (H : Hp) (a : D) (v : V) (mu : Mu) (Q : VK), MRep K r x H mu → Den K r x H a v → g a mu (Qd K r x H Q) → r1 v H Q
  mo : ∀ a, MoG (g a)
structure LLr (K : PySem.W.Frag) (rl : List V → Hp → VK → Prop) (g : GL) : Prop where
  to : ∀ (r x : List Addr) (H : Hp) (a : List D) (v : List V) (mu : Mu) (Q : VK), MRep K r x H mu → DenL K r x H a v → g a mu (Qd K r x H Q) → rl v H Q
  mo : ∀ a, MoG (g a)
def dOp (g : G2) (Ta Tb : ET) : ET := fun sl mu Q => Ta sl mu fun a m1 => Tb sl m1 fun b m2 => g a b m2 Q
def dUn (g : G1) (Ta : ET) : ET := fun sl mu Q => Ta sl mu fun a m1 => g a m1 Q
def dCB (g : GL) (T : AT) : ET := fun sl mu Q => T sl mu fun ds m1 => g ds m1 Q
variable {a b c : Expr} {Ta Tb Tc : ET} {pos : Pos}
theorem dOp_mo {g : G2} (hg : ∀ a b, MoG (g a b)) (ha : MoE Ta) (hb : MoE Tb) : MoE (dOp g Ta Tb) := fun sl mu Q Q' f h =>
  ha _ _ _ _ (fun d m q => hb _ _ _ _ (fun d' m' q' => hg _ _ _ _ _ f q') q) h
theorem dUn_mo {g : G1} (hg : ∀ a, MoG (g a)) (ha : MoE Ta) : MoE (dUn g Ta) := fun sl mu Q Q' f h => ha _ _ _ _ (fun d m q => hg _ _ _ _ f q) h
theorem dCB_mo {g : GL} {T : AT} (hg : ∀ a, MoG (g a)) (ha : MoA T) : MoE (dCB g T) := fun sl mu Q Q' f h => ha _ _ _ _ (fun d m q => hg _ _ _ _ f q) h
/-- two in a row -/
theorem two {K : PySem.W.Frag} {R : V → V → Hp → Prop} {g : G2} {σ : L2.St} {H : Hp} {r x : List Addr} {sl : Sl} {mu : Mu} {Qg : D → Mu → Prop} (ha : MoE Ta) (hb : MoE Tb) (Rp : Rep K r x H σ sl mu) (q : dOp g Ta Tb sl mu Qg)
    (k : ∀ r2 H2 mu2 d e v w, Ext r r2 H H2 → MRep K r2 x H2 mu2 → Den K r2 x H2 d v → Den K r2 x H2 e w → g d e mu2 Qg → R v w H2) :
    lE K Ta σ H fun v H1 => lE K Tb σ H1 fun w H2 => R v w H2 := by
  refine ⟨r, x, sl, mu, Rp, ha _ _ _ _ (fun d m q1 r1 H1 v e1 m1 d1 => ?_) q⟩
  refine ⟨r1, x, sl, m, Rp.ext e1 m1, hb _ _ _ _ (fun e' m' q2 r2 H2 w e2 m2 d2 => ?_) q1⟩
  exact k r2 H2 m' d e' v w (e1.trans e2) m2 (Den.ext e2 _ _ d1) d2 q2
theorem Qd.ext {K : PySem.W.Frag} {r r1 x : List Addr} {H H1 : Hp} {Q : VK} (e : Ext r r1 H H1) {d : D} {m : Mu} (q : Qd K r x H Q d m) : Qd K r1 x H1 Q d m := fun r' H' v e' m' d' => q r' H' v (e.trans e') m' d'
theorem de_op {op : Operator} {r2 : R2} {g : G2} (ho : OpR X (binaryOp op) r2) (L : L2r X.K r2 g) (ha : DE X a Ta) (hb : DE X b Tb) : DE X (.BinOp a op b pos) (dOp g Ta Tb) :=
  ⟨peMono (pe_op ho ha.pe hb.pe) fun σ H Q ⟨r, x, sl, mu, Rp, q⟩ => two ha.mo hb.mo Rp q fun r2 H2 mu2 d e v w e1 m1 d1 d2 q => L.to _ _ _ _ _ _ _ _ _ m1 d1 d2 (L.mo _ _ _ _ _ (fun _ _ => Qd.ext e1) q), dOp_mo L.mo ha.mo hb.mo⟩
theorem de_cmp {op : CmpOp} {r2 : R2} {g : G2} (ho : OpR X (compareOp op) r2) (L : L2r X.K r2 g) (ha : DE X a Ta) (hb : DE X b Tb) (hm : behindInMarks op b = false) : DE X (.Compare a [op] [b] pos) (dOp g Ta Tb) :=
  ⟨peMono (pe_cmpR ho ha.pe hb.pe hm) fun σ H Q ⟨r, x, sl, mu, Rp, q⟩ => two ha.mo hb.mo Rp q fun r2 H2 mu2 d e v w e1 m1 d1 d2 q => L.to _ _ _ _ _ _ _ _ _ m1 d1 d2 (L.mo _ _ _ _ _ (fun _ _ => Qd.ext e1) q), dOp_mo L.mo ha.mo hb.mo⟩
theorem de_ix {r2 : R2} {g : G2} (ho : IxR X r2) (L : L2r X.K r2 g) (ha : DE X a Ta) (hb : DE X b Tb) (hs : PlainIx b) : DE X (.Subscript a b pos) (dOp g Ta Tb) :=
  ⟨peMono (pe_ix ho ha.pe hb.pe hs) fun σ H Q ⟨r, x, sl, mu, Rp, q⟩ => two ha.mo hb.mo Rp q fun r2 H2 mu2 d e v w e1 m1 d1 d2 q => L.to _ _ _ _ _ _ _ _ _ m1 d1 d2 (L.mo _ _ _ _ _ (fun _ _ => Qd.ext e1) q), dOp_mo L.mo ha.mo hb.mo⟩
theorem de_un {op : UnaryOp} {r1 : V → Hp → VK → Prop} {g : G1} (ho : UnR X (unaryOp op) r1) (L : L1r X.K r1 g) (ha : DE X a Ta) : DE X (.UnaryOp op a pos) (dUn g Ta) :=
  ⟨peMono (pe_un ho ha.pe) fun σ H Q ⟨r, x, sl, mu, Rp, q⟩ => ⟨r, x, sl, mu, Rp, ha.mo _ _ _ _ (fun d m q1 r1 H1 v e1 m1 d1 => L.to _ _ _ _ _ _ _ m1 d1 (L.mo _ _ _ _ (fun _ _ => Qd.ext e1) q1)) q⟩, dUn_mo L.mo ha.mo⟩

/-! ### arguments, displays -/
def dNil : AT := fun _ mu Q => Q [] mu
def dCons (T : ET) (Tr : AT) : AT := fun sl mu Q => T sl mu fun d m1 => Tr sl m1 fun ds m2 => Q (d :: ds) m2
theorem da_nil : DA X [] dNil := ⟨paMono pa_nil fun σ H Q ⟨r, x, sl, mu, Rp, q⟩ => q r H [] (Ext.refl _ _) Rp.mu rfl, fun _ _ _ _ f h => f _ _ h, fun _ _ _ h => ⟨rfl, h⟩⟩
theorem da_cons {e : Expr} {es : List Expr} {T : ET} {Tr : AT} (ha : DE X e T) (hr : DA X es Tr) (hs : starEach (e :: es) X.env = (false, eval e X.env) :: starEach es X.env := by rfl) : DA X (e :: es) (dCons T Tr) := by
  refine ⟨paMono (pa_cons ha.pe hr.pa hs) fun σ H Q ⟨r, x, sl, mu, Rp, q⟩ => ?_, fun sl mu Q Q' f h => ha.mo _ _ _ _ (fun d m q => hr.mo _ _ _ _ (fun d' m' q' => f _ _ q') q) h, fun sl mu Q h => ha.mo _ _ _ _ (fun d m q => hr.mo _ _ _ _ (fun d' m' q' => ⟨by simp [q'.1], q'.2⟩) (hr.len _ _ _ q)) h⟩
  refine ⟨r, x, sl, mu, Rp, ha.mo _ _ _ _ (fun d m q1 r1 H1 v e1 m1 d1 => ?_) q⟩
  refine ⟨r1, x, sl, m, Rp.ext e1 m1, hr.mo _ _ _ _ (fun ds m' q2 r2 H2 vs e2 m2 d2 => ?_) q1⟩
  exact q2 r2 H2 (v :: vs) (e1.trans e2) m2 ⟨v, vs, rfl, Den.ext e2 _ _ d1, d2⟩
theorem de_call_of {e : Expr} {es : List Expr} {rl : List V → Hp → VK → Prop} {g : GL} {T : AT} (h : PE X e (tCB rl (lA X.K T))) (L : LLr X.K rl g) (ha : DA X es T) : DE X e (dCB g T) :=
  ⟨peMono h fun σ H Q ⟨r, x, sl, mu, Rp, q⟩ => ⟨r, x, sl, mu, Rp, ha.mo _ _ _ _ (fun ds m q1 r1 H1 vs e1 m1 d1 => L.to _ _ _ _ _ _ _ m1 d1 (L.mo _ _ _ _ (fun _ _ => Qd.ext e1) q1)) q⟩, dCB_mo L.mo ha.mo⟩
def gTupD : GL := fun ds mu Q => ds.length ≤ sizeLine ∧ Q (.tup ds) mu
def gLstD : GL := fun ds mu Q => ds.length ≤ sizeLine ∧ Q (.lst ds) mu
/-- a list that will be changed -/
def gLstM : GL := fun ds mu Q => ds.length ≤ sizeLine ∧ Q (.mu mu.length) (mu ++ [.lst ds])
theorem new_tup {K : PySem.W.Frag} {r x : List Addr} {H : Hp} {mu : Mu} {ds : List D} {vs : List V} {Q : VK} (m : MRep K r x H mu) (d : DenL K r x H ds vs) (q : Qd K r x H Q (.tup ds) mu) : ∀ p, H p = none → Q (.ref p) (upd H p (.tup vs)) := fun p hp => by
  refine q r _ _ (Ext.same (same_upd hp)) (m.same (same_upd hp)) ?_
  simp only [Den]
  refine ⟨p, vs, rfl, .inl ⟨m.fresh hp, fun z => ?_, upd_same⟩, DenL.ext (Ext.same (same_upd hp)) _ _ d⟩
  obtain ⟨_, o, e⟩ := m.out p z
  rw [hp] at e
  cases e
theorem new_lst {K : PySem.W.Frag} {r x : List Addr} {H : Hp} {mu : Mu} {ds : List D} {vs : List V} {Q : VK} (m : MRep K r x H mu) (d : DenL K r x H ds vs) (q : Qd K r x H Q (.lst ds) mu) : ∀ p, H p = none → Q (.ref p) (upd H p (.lst vs)) := fun p hp => by
  refine q r _ _ (Ext.same (same_upd hp)) (m.same (same_upd hp)) ?_
  simp only [Den]
  refine ⟨p, vs, rfl, ⟨m.fresh hp, fun z => ?_, upd_same⟩, DenL.ext (Ext.same (same_upd hp)) _ _ d⟩
  obtain ⟨_, o, e⟩ := m.out p z
  rw [hp] at e
  cases e
theorem new_lstM {K : PySem.W.Frag} {r x : List Addr} {H : Hp} {mu : Mu} {ds : List D} {vs : List V} {Q : VK} (m : MRep K r x H mu) (d : DenL K r x H ds vs) (q : Qd K r x H Q (.mu mu.length) (mu ++ [.lst ds])) : ∀ p, H p = none → Q (.ref p) (upd H p (.lst vs)) := fun p hp => by
  refine q (r ++ [p]) _ _ (Ext.add hp) (m.add hp ⟨vs, upd_same, DenL.ext (Ext.add hp) _ _ d⟩) ?_
  simp only [Den]
  exact ⟨p, rfl, by rw [← m.len]; simp⟩
theorem L_tup {K : PySem.W.Frag} : LLr K (fun xs H1 Q => xs.length ≤ sizeLine ∧ ∀ p, H1 p = none → Q (.ref p) (upd H1 p (.tup xs))) gTupD :=
  ⟨fun r x H a v mu Q m d ⟨z, q⟩ => ⟨by rw [← d.length]; exact z, new_tup m d q⟩, fun _ _ _ _ f ⟨z, q⟩ => ⟨z, f _ _ q⟩⟩
theorem L_lst {K : PySem.W.Frag} : LLr K (fun xs H1 Q => xs.length ≤ sizeLine ∧ ∀ p, H1 p = none → Q (.ref p) (upd H1 p (.lst xs))) gLstD :=
  ⟨fun r x H a v mu Q m d ⟨z, q⟩ => ⟨by rw [← d.length]; exact z, new_lst m d q⟩, fun _ _ _ _ f ⟨z, q⟩ => ⟨z, f _ _ q⟩⟩
theorem L_lstM {K : PySem.W.Frag} : LLr K (fun xs H1 Q => xs.length ≤ sizeLine ∧ ∀ p, H1 p = none → Q (.ref p) (upd H1 p (.lst xs))) gLstM :=
  ⟨fun r x H a v mu Q m d ⟨z, q⟩ => ⟨by rw [← d.length]; exact z, new_lstM m d q⟩, fun _ _ _ _ f ⟨z, q⟩ => ⟨z, f _ _ q⟩⟩
theorem de_tup {es : List Expr} {T : AT} {x1} (h : DA X es T) : DE X (.Tuple es x1 pos) (dCB gTupD T) := de_call_of (pe_tup h.pa) L_tup h
theorem de_lst {es : List Expr} {T : AT} (h : DA X es T) : DE X (.List es pos) (dCB gLstD T) := de_call_of (pe_lst h.pa) L_lst h
theorem de_lstM {es : List Expr} {T : AT} (h : DA X es T) : DE X (.List es pos) (dCB gLstM T) := de_call_of (pe_lst h.pa) L_lstM h

/-! ### built-in calls -/
theorem de_callB {id : String} {y : Str} {p : Pos} {e : Expr} {es : List Expr} {rl : List V → Hp → VK → Prop} {g : GL} {T : AT} (hc : CallR X (.builtin id) rl) (L : LLr X.K rl g) (hg : Gl X y) (hm : X.mg y = none) (hv : bootBuiltins y = some (.builtin id)) (ha : DA X (e :: es) T) (hn : y ≠ "__name__" := by decide) (hdb : (y == ("__debug__" : Str)) = false := by decide)
    (he : starEach (e :: es) X.env = (false, eval e X.env) :: starEach es X.env := by rfl) (hpl : (backTo pos (starEach es X.env)).any (·.1) = false := by rfl) : DE X (.Call (.Name y p) (e :: es) [] pos) (dCB g T) :=
  de_call_of (pe_callB hc hg hm hv ha.pa hn hdb he hpl) L ha
theorem de_callTy {id : String} {y : Str} {p : Pos} {e : Expr} {es : List Expr} {rl : List V → Hp → VK → Prop} {g : GL} {T : AT} (hc : CallR X (.type id) rl) (L : LLr X.K rl g) (hg : Gl X y) (hm : X.mg y = none) (hv : bootBuiltins y = some (.type id)) (ha : DA X (e :: es) T) (hn : y ≠ "__name__" := by decide) (hdb : (y == ("__debug__" : Str)) = false := by decide)
    (he : starEach (e :: es) X.env = (false, eval e X.env) :: starEach es X.env := by rfl) (hpl : (backTo pos (starEach es X.env)).any (·.1) = false := by rfl) : DE X (.Call (.Name y p) (e :: es) [] pos) (dCB g T) :=
  de_call_of (pe_callTy hc hg hm hv ha.pa hn hdb he hpl) L ha
end
end DL

namespace DL
open PySem PySem.Spec PyProof.Rows L2

/-! ### tests -/
def dTest (T : ET) : BT := fun sl mu Q => T sl mu fun d m => match d with
  | .bl b => Q b m
  | _ => False
def dAnd (T U : BT) : BT := fun sl mu Q => T sl mu fun b m => if b = true then U sl m Q else Q false m
def dOr (T U : BT) : BT := fun sl mu Q => T sl mu fun b m => if b = true then Q true m else U sl m Q
def dNot (T : BT) : BT := fun sl mu Q => T sl mu fun b m => Q (!b) m
def dAndV (T U : ET) : ET := fun sl mu Q => T sl mu fun d m => match d with
  | .bl b => if b = true then U sl m Q else Q (.bl false) m
  | _ => False
def dOrV (T U : ET) : ET := fun sl mu Q => T sl mu fun d m => match d with
  | .bl b => if b = true then Q (.bl true) m else U sl m Q
  | _ => False
def dNotV (T : ET) : ET := fun sl mu Q => T sl mu fun d m => match d with
  | .bl b => Q (.bl (!b)) m
  | _ => False
def dIfE (C : BT) (T U : ET) : ET := fun sl mu Q => C sl mu fun b m => if b = true then T sl m Q else U sl m Q
section
variable {X : Cx} {a b c e : Expr} {Ta Tb Tc : ET} {A B : BT} {pos : Pos}
structure DW (X : Cx) (e : Expr) (T : BT) : Prop where
  pw : PW X e (lB X.K T)
  mo : MoB T
theorem DW.db {T : BT} (h : DW X e T) : DB X e T := ⟨h.pw.pt, h.mo⟩
theorem dTest_mo (h : MoE Ta) : MoB (dTest Ta) := fun sl mu Q Q' f q => h _ _ _ _ (fun d m q => by
  cases d <;> first | exact f _ _ q | exact q) q
theorem Qb.ext {K : PySem.W.Frag} {r r1 x : List Addr} {H H1 : Hp} {Q : Bool → Hp → Prop} (e : Ext r r1 H H1) {d : Bool} {m : Mu} (q : Qb K r x H Q d m) : Qb K r1 x H1 Q d m := fun r' H' e' m' => q r' H' (e.trans e') m'
/-- a test whose value is a bool -/
theorem db_of {t : TT} {T : ET} (h : PT X e t) (hT : MoE T) (f : ∀ σ H Q, lE X.K T σ H (fun x H1 => ∃ k, x = .bl k ∧ Q k H1) → t σ H Q) : DB X e (dTest T) := by
  refine ⟨ptMono h fun σ H Q ⟨r, x, sl, mu, R, q⟩ => f σ H Q ⟨r, x, sl, mu, R, hT _ _ _ _ (fun d m q1 r1 H1 v e1 m1 d1 => ?_) q⟩, dTest_mo hT⟩
  cases d with
  | bl k =>
    simp only [Den] at d1
    exact ⟨k, d1, q1 r1 H1 e1 m1⟩
  | _ => exact q1.elim
theorem db_val (h : DE X e Ta) (he : ∀ whole, isTrue e X.env whole = (do let v ← whole; standAt e.pos; holding [v] (truthy v)) := by intro _; rfl) : DB X e (dTest Ta) :=
  db_of (pt_val h.pe he) h.mo fun _ _ _ q => q
theorem db_cmp {op : CmpOp} {r2 : R2} {g : G2} (ho : OpR X (compareOp op) r2) (L : L2r X.K r2 g) (ha : DE X a Ta) (hb : DE X b Tb) (hm : behindInMarks op b = false) : DB X (.Compare a [op] [b] pos) (dTest (dOp g Ta Tb)) :=
  db_of (pt_cmpR ho ha.pe hb.pe hm) (dOp_mo L.mo ha.mo hb.mo) fun σ H Q ⟨r, x, sl, mu, Rp, q⟩ =>
    two ha.mo hb.mo Rp q fun r2 H2 mu2 d e v w e1 m1 d1 d2 q => L.to _ _ _ _ _ _ _ _ _ m1 d1 d2 (L.mo _ _ _ _ _ (fun _ _ => Qd.ext e1) q)
theorem dAnd_mo (h : MoB A) (k : MoB B) : MoB (dAnd A B) := fun sl mu Q Q' f q => h _ _ _ _ (fun d m q => by
  cases d with
  | true => exact k _ _ _ _ f q
  | false => exact f _ _ q) q
theorem dOr_mo (h : MoB A) (k : MoB B) : MoB (dOr A B) := fun sl mu Q Q' f q => h _ _ _ _ (fun d m q => by
  cases d with
  | false => exact k _ _ _ _ f q
  | true => exact f _ _ q) q
theorem dw_and1 (ha : DB X a A) : DW X (.BoolOp .And [a] pos) A := ⟨pw_and1 ha.pt, ha.mo⟩
theorem dw_or1 (ha : DB X a A) : DW X (.BoolOp .Or [a] pos) A := ⟨pw_or1 ha.pt, ha.mo⟩
theorem dw_and {rest : List Expr} (ha : DB X a A) (hb : DW X (.BoolOp .And (b :: rest) pos) B) : DW X (.BoolOp .And (a :: b :: rest) pos) (dAnd A B) :=
  ⟨pwMono (pw_and ha.pt hb.pw) fun σ H Q ⟨r, x, sl, mu, R, q⟩ => ⟨r, x, sl, mu, R, ha.mo _ _ _ _ (fun d m q1 r1 H1 e1 m1 => by
    cases d with
    | true => exact ⟨r1, x, sl, m, R.ext e1 m1, hb.mo _ _ _ _ (fun _ _ => Qb.ext e1) q1⟩
    | false => exact q1 r1 H1 e1 m1) q⟩, dAnd_mo ha.mo hb.mo⟩
theorem dw_or {rest : List Expr} (ha : DB X a A) (hb : DW X (.BoolOp .Or (b :: rest) pos) B) : DW X (.BoolOp .Or (a :: b :: rest) pos) (dOr A B) :=
  ⟨pwMono (pw_or ha.pt hb.pw) fun σ H Q ⟨r, x, sl, mu, R, q⟩ => ⟨r, x, sl, mu, R, ha.mo _ _ _ _ (fun d m q1 r1 H1 e1 m1 => by
    cases d with
    | false => exact ⟨r1, x, sl, m, R.ext e1 m1, hb.mo _ _ _ _ (fun _ _ => Qb.ext e1) q1⟩
    | true => exact q1 r1 H1 e1 m1) q⟩, dOr_mo ha.mo hb.mo⟩
theorem db_not (ha : DB X a A) : DB X (.UnaryOp .Not a pos) (dNot A) :=
  ⟨ptMono (pt_not ha.pt) fun σ H Q ⟨r, x, sl, mu, R, q⟩ => ⟨r, x, sl, mu, R, ha.mo _ _ _ _ (fun d m q1 r1 H1 e1 m1 => q1 r1 H1 e1 m1) q⟩, fun sl mu Q Q' f q => ha.mo _ _ _ _ (fun d m q => f _ _ q) q⟩
/-! .. as values -/
theorem de_one {op} (h : DE X a Ta) : DE X (.BoolOp op [a] pos) Ta := ⟨pe_one h.pe, h.mo⟩
theorem dAndV_mo (h : MoE Ta) (k : MoE Tb) : MoE (dAndV Ta Tb) := fun sl mu Q Q' f q => h _ _ _ _ (fun d m q => by
  cases d with
  | bl b =>
    cases b with
    | true => exact k _ _ _ _ f q
    | false => exact f _ _ q
  | _ => exact q) q
theorem dOrV_mo (h : MoE Ta) (k : MoE Tb) : MoE (dOrV Ta Tb) := fun sl mu Q Q' f q => h _ _ _ _ (fun d m q => by
  cases d with
  | bl b =>
    cases b with
    | false => exact k _ _ _ _ f q
    | true => exact f _ _ q
  | _ => exact q) q
theorem de_and {rest : List Expr} (ha : DE X a Ta) (hb : DE X (.BoolOp .And (b :: rest) pos) Tb) : DE X (.BoolOp .And (a :: b :: rest) pos) (dAndV Ta Tb) :=
  ⟨peMono (pe_and ha.pe hb.pe) fun σ H Q ⟨r, x, sl, mu, R, q⟩ => ⟨r, x, sl, mu, R, ha.mo _ _ _ _ (fun d m q1 r1 H1 v e1 m1 d1 => by
    cases d with
    | bl k =>
      simp only [Den] at d1
      refine ⟨k, d1, ?_⟩
      cases k with
      | true => exact ⟨r1, x, sl, m, R.ext e1 m1, hb.mo _ _ _ _ (fun _ _ => Qd.ext e1) q1⟩
      | false => exact q1 r1 H1 _ e1 m1 rfl
    | _ => exact q1.elim) q⟩, dAndV_mo ha.mo hb.mo⟩
theorem de_or {rest : List Expr} (ha : DE X a Ta) (hb : DE X (.BoolOp .Or (b :: rest) pos) Tb) : DE X (.BoolOp .Or (a :: b :: rest) pos) (dOrV Ta Tb) :=
  ⟨peMono (pe_or ha.pe hb.pe) fun σ H Q ⟨r, x, sl, mu, R, q⟩ => ⟨r, x, sl, mu, R, ha.mo _ _ _ _ (fun d m q1 r1 H1 v e1 m1 d1 => by
    cases d with
    | bl k =>
      simp only [Den] at d1
      refine ⟨k, d1, ?_⟩
      cases k with
      | false => exact ⟨r1, x, sl, m, R.ext e1 m1, hb.mo _ _ _ _ (fun _ _ => Qd.ext e1) q1⟩
      | true => exact q1 r1 H1 _ e1 m1 rfl
    | _ => exact q1.elim) q⟩, dOrV_mo ha.mo hb.mo⟩
theorem de_not (ha : DE X a Ta) : DE X (.UnaryOp .Not a pos) (dNotV Ta) :=
  ⟨peMono (pe_not ha.pe) fun σ H Q ⟨r, x, sl, mu, R, q⟩ => ⟨r, x, sl, mu, R, ha.mo _ _ _ _ (fun d m q1 r1 H1 v e1 m1 d1 => by
    cases d with
    | bl k =>
      simp only [Den] at d1
      exact ⟨k, d1, q1 r1 H1 _ e1 m1 rfl⟩
    | _ => exact q1.elim) q⟩, fun sl mu Q Q' f q => ha.mo _ _ _ _ (fun d m q => by
      cases d <;> first | exact f _ _ q | exact q) q⟩
theorem dIfE_mo (h : MoB A) (h1 : MoE Ta) (h2 : MoE Tb) : MoE (dIfE A Ta Tb) := fun sl mu Q Q' f q => h _ _ _ _ (fun d m q => by
  cases d with
  | true => exact h1 _ _ _ _ f q
  | false => exact h2 _ _ _ _ f q) q
theorem de_ifE (hc : DB X c A) (ha : DE X a Ta) (hb : DE X b Tb) : DE X (.IfExp c a b pos) (dIfE A Ta Tb) :=
  ⟨peMono (pe_ifExp hc.pt ha.pe hb.pe) fun σ H Q ⟨r, x, sl, mu, R, q⟩ => ⟨r, x, sl, mu, R, hc.mo _ _ _ _ (fun d m q1 r1 H1 e1 m1 => by
    cases d with
    | true => exact ⟨r1, x, sl, m, R.ext e1 m1, ha.mo _ _ _ _ (fun _ _ => Qd.ext e1) q1⟩
    | false => exact ⟨r1, x, sl, m, R.ext e1 m1, hb.mo _ _ _ _ (fun _ _ => Qd.ext e1) q1⟩) q⟩, dIfE_mo hc.mo ha.mo hb.mo⟩
/-- a < b < c -/
def dChain (g g' : G2) (Ta Tb Tc : ET) : ET := fun sl mu Q => Ta sl mu fun a m1 => Tb sl m1 fun b m2 => g a b m2 fun z m3 => match z with
  | .bl k => if k = true then Tc sl m3 fun c m4 => g' b c m4 Q else Q (.bl false) m3
  | _ => False
theorem dChain_mo {g g' : G2} (hg : ∀ a b, MoG (g a b)) (hg' : ∀ a b, MoG (g' a b)) (ha : MoE Ta) (hb : MoE Tb) (hc : MoE Tc) : MoE (dChain g g' Ta Tb Tc) := fun sl mu Q Q' f q =>
  ha _ _ _ _ (fun d m q => hb _ _ _ _ (fun d' m' q => hg _ _ _ _ _ (fun z m3 q => by
    cases z with
    | bl k =>
      cases k with
      | true => exact hc _ _ _ _ (fun c m4 q => hg' _ _ _ _ _ f q) q
      | false => exact f _ _ q
    | _ => exact q) q) q) q
theorem chain_to {K : PySem.W.Frag} {r2 r2' : R2} {g g' : G2} (L : L2r K r2 g) (L' : L2r K r2' g') (ha : MoE Ta) (hb : MoE Tb) (hc : MoE Tc) {σ : L2.St} {H : Hp} {Q : VK} (h : lE K (dChain g g' Ta Tb Tc) σ H Q) : tChain r2 r2' (lE K Ta) (lE K Tb) (lE K Tc) σ H Q := by
  obtain ⟨r, x, sl, mu, R, q⟩ := h
  refine ⟨r, x, sl, mu, R, ha _ _ _ _ (fun d m q1 r1 H1 v e1 m1 d1 => ?_) q⟩
  refine ⟨r1, x, sl, m, R.ext e1 m1, hb _ _ _ _ (fun d' m' q2 r2 H2 w e2 m2 d2 => ?_) q1⟩
  refine L.to _ _ _ _ _ _ _ _ _ m2 (Den.ext e2 _ _ d1) d2 (L.mo _ _ _ _ _ (fun z m3 q3 r3 H3 y e3 mr3 d3 => ?_) q2)
  cases z with
  | bl k =>
    simp only [Den] at d3
    refine ⟨k, d3, ?_⟩
    cases k with
    | true =>
      refine ⟨r3, x, sl, m3, R.ext ((e1.trans e2).trans e3) mr3, hc _ _ _ _ (fun c m4 q4 r4 H4 u e4 mr4 d4 => ?_) q3⟩
      exact L'.to _ _ _ _ _ _ _ _ _ mr4 (Den.ext (e3.trans e4) _ _ d2) d4 (L'.mo _ _ _ _ _ (fun _ _ => Qd.ext (((e1.trans e2).trans e3).trans e4)) q4)
    | false => exact q3 r3 H3 _ ((e1.trans e2).trans e3) mr3 rfl
  | _ => exact q3.elim
theorem de_chain {op op' : CmpOp} {r2 r2' : R2} {g g' : G2} (ho : OpR X (compareOp op) r2) (L : L2r X.K r2 g) (ho' : OpR X (compareOp op') r2') (L' : L2r X.K r2' g') (ha : DE X a Ta) (hb : DE X b Tb) (hc : DE X c Tc)
    (hm : lastMarks [op, op'] [b, c] = false := by with_unfolding_all rfl) : DE X (.Compare a [op, op'] [b, c] pos) (dChain g g' Ta Tb Tc) :=
  ⟨peMono (pe_chain ho ho' ha.pe hb.pe hc.pe hm) fun σ H Q h => chain_to L L' ha.mo hb.mo hc.mo h, dChain_mo L.mo L'.mo ha.mo hb.mo hc.mo⟩
theorem db_chain {op op' : CmpOp} {r2 r2' : R2} {g g' : G2} (ho : OpR X (compareOp op) r2) (L : L2r X.K r2 g) (ho' : OpR X (compareOp op') r2') (L' : L2r X.K r2' g') (ha : DE X a Ta) (hb : DE X b Tb) (hc : DE X c Tc)
    (hm : lastMarks [op, op'] [b, c] = false := by with_unfolding_all rfl) : DB X (.Compare a [op, op'] [b, c] pos) (dTest (dChain g g' Ta Tb Tc)) :=
  db_of (pt_chain ho ho' ha.pe hb.pe hc.pe hm) (dChain_mo L.mo L'.mo ha.mo hb.mo hc.mo) fun σ H Q h => chain_to L L' ha.mo hb.mo hc.mo h
end

/-! ### statements -/
def sNext : SB := fun E sl mu => E.nx sl mu
def sSeq (T U : SB) : SB := fun E sl mu => T { E with nx := U E } sl mu
def sBreak : SB := fun E sl mu => E.bk sl mu
def sCont : SB := fun E sl mu => E.ct sl mu
def sDrop (T : ET) : SB := fun E sl mu => T sl mu fun _ m => E.nx sl m
def sRet (T : ET) : SB := fun E sl mu => T sl mu E.rt
def sRetN : SB := fun E _ mu => E.rt .non mu
def sIf (C : BT) (T U : SB) : SB := fun E sl mu => C sl mu fun b m => if b = true then T E sl m else U E sl m
def sNever : SB := fun _ _ _ => False
section
variable {X : Cx} {st : Stmt} {rest : List Stmt} {T U : SB} {e : Expr} {Te : ET} {pos : Pos}
theorem Qs.ext {K : PySem.W.Frag} {r r1 x : List Addr} {H H1 : Hp} {Q : L2.St → Hp → Prop} (e : Ext r r1 H H1) {d : Sl} {m : Mu} (q : Qs K r x H Q d m) : Qs K r1 x H1 Q d m := fun r' H' σ e' m' => q r' H' σ (e.trans e') m'
theorem dEnds_le {K : PySem.W.Frag} {r r1 x : List Addr} {H H1 : Hp} {E : Ends} (e : Ext r r1 H H1) : (dEnds K r x H E).Le (dEnds K r1 x H1 E) := ⟨fun _ _ => Qs.ext e, fun _ _ => Qd.ext e, fun _ _ => Qs.ext e, fun _ _ => Qs.ext e⟩
theorem DEnds.Le.refl (A : DEnds) : A.Le A := ⟨fun _ _ q => q, fun _ _ q => q, fun _ _ q => q, fun _ _ q => q⟩
theorem dss_nil : DSs X [] sNext := ⟨pssMono pss_nil fun E σ H ⟨r, x, sl, mu, R, q⟩ => q r H σ (Ext.refl _ _) R, fun _ _ _ _ f q => f.nx _ _ q⟩
theorem seq_to {K : PySem.W.Frag} (hT : MoS T) (hU : MoS U) {E : Ends} {σ : L2.St} {H : Hp} (h : lS K (sSeq T U) E σ H) : tSeq (lS K T) (lS K U) E σ H := by
  obtain ⟨r, x, sl, mu, R, q⟩ := h
  refine ⟨r, x, sl, mu, R, hT sl mu { dEnds K r x H E with nx := U (dEnds K r x H E) } _ ⟨fun sl' m' q' r' H' σ' e' R' => ?_, fun _ _ q => q, fun _ _ q => q, fun _ _ q => q⟩ q⟩
  exact ⟨r', x, sl', m', R', hU _ _ _ _ (dEnds_le e') q'⟩
theorem dss_cons (h1 : DS X st T) (h2 : DSs X rest U) : DSs X (st :: rest) (sSeq T U) :=
  ⟨pssMono (pss_cons h1.ps h2.ps) fun E σ H h => seq_to h1.mo h2.mo h, fun sl mu A B f q => h1.mo sl mu { A with nx := U A } _ ⟨fun s m q => h2.mo _ _ _ _ f q, f.rt, f.bk, f.ct⟩ q⟩
theorem dss_one (h1 : DS X st T) : DSs X [st] T := ⟨pss_one h1.ps, h1.mo⟩
theorem ds_pass : DS X (.Pass pos) sNext := ⟨psMono ps_pass fun E σ H ⟨r, x, sl, mu, R, q⟩ => q r H σ (Ext.refl _ _) R, fun _ _ _ _ f q => f.nx _ _ q⟩
theorem ds_break : DS X (.Break pos) sBreak := ⟨psMono ps_break fun E σ H ⟨r, x, sl, mu, R, q⟩ => q r H σ (Ext.refl _ _) R, fun _ _ _ _ f q => f.bk _ _ q⟩
theorem ds_continue : DS X (.Continue pos) sCont := ⟨psMono ps_continue fun E σ H ⟨r, x, sl, mu, R, q⟩ => q r H σ (Ext.refl _ _) R, fun _ _ _ _ f q => f.ct _ _ q⟩
theorem ds_never : DS X st sNever := ⟨psMono ps_never fun E σ H ⟨r, x, sl, mu, R, q⟩ => q, fun _ _ _ _ _ q => q⟩
theorem ds_expr (he : DE X e Te) (hs : swapsWith e none pos.line X.env = pure false := by rfl) : DS X (.Expr e pos) (sDrop Te) :=
  ⟨psMono (ps_expr he.pe hs) fun E σ H ⟨r, x, sl, mu, R, q⟩ => ⟨r, x, sl, mu, R, he.mo _ _ _ _ (fun d m q1 r1 H1 v e1 m1 d1 => q1 r1 H1 σ e1 (R.ext e1 m1)) q⟩, fun sl mu A B f q => he.mo _ _ _ _ (fun d m q => f.nx _ _ q) q⟩
theorem ds_ret (he : DE X e Te) : DS X (.Return (some e) pos) (sRet Te) :=
  ⟨psMono (ps_ret he.pe) fun E σ H ⟨r, x, sl, mu, R, q⟩ => ⟨r, x, sl, mu, R, q⟩, fun sl mu A B f q => he.mo _ _ _ _ (fun d m q => f.rt _ _ q) q⟩
theorem ds_retN : DS X (.Return none pos) sRetN :=
  ⟨psMono ps_retN fun E σ H ⟨r, x, sl, mu, R, q⟩ => q r H .non (Ext.refl _ _) R.mu rfl, fun sl mu A B f q => f.rt _ _ q⟩
theorem ds_if {c : Expr} {a b : List Stmt} {C : BT} (hc : DB X c C) (ha : DSs X a T) (hb : DSs X b U) : DS X (.If c a b pos) (sIf C T U) :=
  ⟨psMono (ps_if hc.pt ha.ps hb.ps) fun E σ H ⟨r, x, sl, mu, R, q⟩ => ⟨r, x, sl, mu, R, hc.mo _ _ _ _ (fun d m q1 r1 H1 e1 m1 => by
    cases d with
    | true => exact ⟨r1, x, sl, m, R.ext e1 m1, ha.mo _ _ _ _ (dEnds_le e1) q1⟩
    | false => exact ⟨r1, x, sl, m, R.ext e1 m1, hb.mo _ _ _ _ (dEnds_le e1) q1⟩) q⟩, fun sl mu A B f q => hc.mo _ _ _ _ (fun d m q => by
      cases d with
      | true => exact ha.mo _ _ _ _ f q
      | false => exact hb.mo _ _ _ _ f q) q⟩

/-! ### targets: a name, or a tuple of names -/
inductive Tg where
  | nm (i : Nat) | tp (is : List Nat)
def gAll : List Nat → TGs
  | [] => gNil
  | i :: is => gCons (gName i) (gAll is)
def tgV (K : PySem.W.Frag) : Tg → TG
  | .nm i => gName i
  | .tp is => gTup K is.length (gAll is)
def setAll : List Nat → List D → Sl → Sl
  | i :: is, d :: ds, sl => setAll is ds (sl.set i (some d))
  | _, _, sl => sl
def setAllV : List Nat → List V → L2.St → L2.St
  | i :: is, d :: ds, sl => setAllV is ds (sl.set i (some d))
  | _, _, sl => sl
def tgD : Tg → D → Sl → Mu → (Sl → Mu → Prop) → Prop
  | .nm i, d, sl, mu, Q => Q (sl.set i (some d)) mu
  | .tp is, d, sl, mu, Q => match d with
    | .tup ds => ds.length = is.length ∧ Q (setAll is ds sl) mu
    | _ => False
def Tg.ix : Tg → List Nat
  | .nm i => [i]
  | .tp is => is
def tgSt (K : PySem.W.Frag) (r x : List Addr) (H : Hp) : Tg → V → L2.St → L2.St → Prop
  | .nm i, v, σ, σ' => σ' = σ.set i (some v)
  | .tp is, v, σ, σ' => ∃ vs, σ' = setAllV is vs σ
theorem gAll_to {K : PySem.W.Frag} {r x : List Addr} {H : Hp} {Q : L2.St → Hp → Prop} {mu : Mu} : ∀ {is : List Nat} {ds : List D} {vs : List V} {σ : L2.St} {sl : Sl}, Rep K r x H σ sl mu → DenL K r x H ds vs → ds.length = is.length →
    (Rep K r x H (setAllV is vs σ) (setAll is ds sl) mu → Q (setAllV is vs σ) H) → gAll is vs σ H Q
  | [], [], vs, σ, sl, R, l, _, q => by
    simp only [DenL] at l
    subst l
    exact ⟨rfl, q R⟩
  | i :: is, d :: ds, vs, σ, sl, R, l, z, q => by
    simp only [DenL] at l
    obtain ⟨v, vr, rfl, h1, h2⟩ := l
    exact ⟨v, vr, rfl, gAll_to (R.set i h1) h2 (by simpa using z) q⟩
  | [], _ :: _, _, _, _, _, _, z, _ => by simp at z
  | _ :: _, [], _, _, _, _, _, z, _ => by simp at z
/-- a target by its data -/
theorem tg_to {K : PySem.W.Frag} {r x : List Addr} {H : Hp} {Q : L2.St → Hp → Prop} {t : Tg} {d : D} {v : V} {σ : L2.St} {sl : Sl} {mu : Mu} {Qm : Sl → Mu → Prop} (R : Rep K r x H σ sl mu) (dn : Den K r x H d v) (q : tgD t d sl mu Qm)
    (k : ∀ σ' sl', tgSt K r x H t v σ σ' → Rep K r x H σ' sl' mu → Qm sl' mu → Q σ' H) : tgV K t v σ H Q := by
  cases t with
  | nm i => exact k _ _ rfl (R.set i dn) q
  | tp is =>
    cases d with
    | tup ds =>
      simp only [Den] at dn
      obtain ⟨a, vs, rfl, ta, l⟩ := dn
      obtain ⟨z, q⟩ := q
      exact ⟨a, vs, rfl, ta.sq, by rw [← l.length]; exact z, gAll_to R l z fun R' => k _ _ ⟨vs, rfl⟩ R' q⟩
    | _ => exact q.elim
theorem tgD_mo (t : Tg) (d : D) : ∀ (sl : Sl) (mu : Mu) (Q Q' : Sl → Mu → Prop), (∀ s m, Q s m → Q' s m) → tgD t d sl mu Q → tgD t d sl mu Q' := fun sl mu Q Q' f q => by
  cases t with
  | nm i => exact f _ _ q
  | tp is =>
    cases d with
    | tup ds => exact ⟨q.1, f _ _ q.2⟩
    | _ => exact q
def sAsg (T : ET) (t : Tg) : SB := fun E sl mu => T sl mu fun d m => tgD t d sl m E.nx
theorem asg_to {K : PySem.W.Frag} {t : Tg} (he : MoE Te) {E : Ends} {σ : L2.St} {H : Hp} (h : lS K (sAsg Te t) E σ H) : tAsg (lE K Te) (tgV K t) E σ H := by
  obtain ⟨r, x, sl, mu, R, q⟩ := h
  refine ⟨r, x, sl, mu, R, he _ _ _ _ (fun d m q1 r1 H1 v e1 m1 d1 => ?_) q⟩
  exact tg_to (R.ext e1 m1) d1 q1 fun σ' sl' _ R' q' => q' r1 H1 σ' e1 R'
theorem sAsg_mo {t : Tg} (he : MoE Te) : MoS (sAsg Te t) := fun sl mu A B f q => he _ _ _ _ (fun d m q => tgD_mo _ _ _ _ _ _ f.nx q) q
theorem ds_asg {tg : Expr} {t : Tg} (he : DE X e Te) (hg : PG X tg (tgV X.K t)) (hs : swapsWithSole [tg] e pos.line X.env = pure false := by rfl) (hw : swappedStores [tg] e X.env = pure none := by rfl)
    (h1 : (assignEach [tg] X.env).map (·.2) = [assign tg X.env] := by rfl) : DS X (.Assign [tg] e pos) (sAsg Te t) :=
  ⟨psMono (ps_asg he.pe hg hs hw h1) fun E σ H h => asg_to he.mo h, sAsg_mo he.mo⟩
theorem ds_set {i : Nat} {y : Str} {pos' : Pos} (hN : X.N.Nodup) (hi : X.N[i]? = some y) (hx : Loc X.env.scope y) (he : DE X e Te) (hs : swapsWith e (some (.Name y pos')) pos.line X.env = pure false := by rfl) (hf : X.fn y = true ∨ X.env.scope.names.lookup y = some .local := by first | exact .inl rfl | exact .inr rfl | assumption) :
    DS X (.Assign [.Name y pos'] e pos) (sAsg Te (.nm i)) :=
  ⟨psMono (ps_set hN hi hx he.pe hs hf) fun E σ H h => asg_to he.mo h, sAsg_mo he.mo⟩
/-- a, b = x, y -/
def sPar (i j : Nat) (T : AT) : SB := fun E sl mu => T sl mu fun ds m => match ds with
  | [d, e] => E.nx ((sl.set i (some d)).set j (some e)) m
  | _ => False
theorem par_to {K : PySem.W.Frag} {i j : Nat} {T : AT} (he : MoA T) {E : Ends} {σ : L2.St} {H : Hp} (h : lS K (sPar i j T) E σ H) : tPar i j (lA K T) E σ H := by
  obtain ⟨r, x, sl, mu, R, q⟩ := h
  refine ⟨r, x, sl, mu, R, he _ _ _ _ (fun ds m q1 r1 H1 vs e1 m1 d1 => ?_) q⟩
  match ds, q1, d1 with
  | [d, e], q1, d1 =>
    simp only [DenL] at d1
    obtain ⟨v, vr, rfl, h1, w, _, rfl, h2, rfl⟩ := d1
    exact ⟨v, w, rfl, q1 r1 H1 _ e1 (((R.ext e1 m1).set i h1).set j h2)⟩
  | [], q1, _ => exact q1.elim
  | [_], q1, _ => exact q1.elim
  | _ :: _ :: _ :: _, q1, _ => exact q1.elim
theorem sPar_mo {i j : Nat} {T : AT} (he : MoA T) : MoS (sPar i j T) := fun sl mu A B f q => he _ _ _ _ (fun ds m q => by
  match ds, q with
  | [d, e], q => exact f.nx _ _ q
  | [], q => exact q.elim
  | [_], q => exact q.elim
  | _ :: _ :: _ :: _, q => exact q.elim) q
theorem ds_par {i j : Nat} {y z : Str} {a b : Expr} {Ta : AT} {px py pt : Pos} {kt k2 pt2} (hc : X.calm = true) (hN : X.N.Nodup) (hi : X.N[i]? = some y) (hj : X.N[j]? = some z) (hij : i ≠ j)
    (hx : X.env.scope.names.lookup y = some .local) (hy : X.env.scope.names.lookup z = some .local) (ha : DA X [a, b] Ta)
    (hw : swappedStores [.Tuple [.Name y px, .Name z py] kt pt] (.Tuple [a, b] k2 pt2) X.env = pure (some [y, z]) := by rfl)
    (hs : swapsWithSole [.Tuple [.Name y px, .Name z py] kt pt] (.Tuple [a, b] k2 pt2) pos.line X.env = pure false := by rfl) :
    DS X (.Assign [.Tuple [.Name y px, .Name z py] kt pt] (.Tuple [a, b] k2 pt2) pos) (sPar i j Ta) :=
  ⟨psMono (ps_par hc hN hi hj hij hx hy ha.pa hw hs) fun E σ H h => par_to ha.mo h, sPar_mo ha.mo⟩
end
end DL

namespace DL
open PySem PySem.Spec PyProof.Rows L2

/-! ### what is walked -/
structure Fw (r x : List Addr) (H : Hp) (r' x' : List Addr) (H' : Hp) : Prop where
  f : ∀ a o, a ∉ r → a ∉ x → H a = some o → a ∉ r' ∧ a ∉ x' ∧ H' a = some o
  g : ∀ (k : Nat) (a : Addr), r[k]? = some a → r'[k]? = some a
theorem Fw.refl (r x : List Addr) (H : Hp) : Fw r x H r x H := ⟨fun _ _ n nx e => ⟨n, nx, e⟩, fun _ _ e => e⟩
theorem Fw.trans {r x r1 x1 r2 x2 : List Addr} {H H1 H2 : Hp} (a : Fw r x H r1 x1 H1) (b : Fw r1 x1 H1 r2 x2 H2) : Fw r x H r2 x2 H2 :=
  ⟨fun z o n nx e => let ⟨n1, nx1, e1⟩ := a.f z o n nx e; b.f z o n1 nx1 e1, fun k z e => b.g k z (a.g k z e)⟩
theorem Ext.fw {r r' x : List Addr} {H H' : Hp} (e : Ext r r' H H') : Fw r x H r' x H' := ⟨fun a o n nx h => ⟨e.out n h, nx, e.keep a o n h⟩, fun k a h => e.get h⟩
theorem Fw.hide {r x : List Addr} {H : Hp} {p : Addr} {o : HO} (hp : H p = none) : Fw r x H r (p :: x) (upd H p o) := ⟨hide_f hp, fun _ _ e => e⟩
theorem Fw.chg {r x : List Addr} {H : Hp} {p : Addr} {o : HO} (hp : p ∈ x) : Fw r x H r x (upd H p o) := ⟨chg_f hp, fun _ _ e => e⟩
theorem Den.fw {K : PySem.W.Frag} {r x r' x' : List Addr} {H H' : Hp} (w : Fw r x H r' x' H') {d : D} {v : V} (h : Den K r x H d v) : Den K r' x' H' d v := Den.imp w.f w.g d v h
theorem DenL.fw {K : PySem.W.Frag} {r x r' x' : List Addr} {H H' : Hp} (w : Fw r x H r' x' H') {d : List D} {v : List V} (h : DenL K r x H d v) : DenL K r' x' H' d v := DenL.imp w.f w.g d v h
theorem LAt.fw {K : PySem.W.Frag} {r x r' x' : List Addr} {H H' : Hp} (w : Fw r x H r' x' H') {a : Addr} {v : List V} (h : LAt K r x H a v) : LAt K r' x' H' a v := LAt.imp w.f h
theorem FAt.fw {K : PySem.W.Frag} {r x r' x' : List Addr} {H H' : Hp} (w : Fw r x H r' x' H') {a : Addr} {v : List V} (h : FAt K r x H a v) : FAt K r' x' H' a v := FAt.imp w.f h
theorem TAt.fw {K : PySem.W.Frag} {r x r' x' : List Addr} {H H' : Hp} (w : Fw r x H r' x' H') {a : Addr} {v : List V} (h : TAt K r x H a v) : TAt K r' x' H' a v := TAt.imp w.f h

def Items (K : PySem.W.Frag) (r x : List Addr) (H : Hp) (J : It) (ds : List D) : Prop :=
  ∃ (G : Hp → Prop) (Y : Nat → Hp → V → Hp → Prop), Walk J ds.length G Y ∧ ∀ (r' x' : List Addr) (H' : Hp) (mu' : Mu), Fw r x H r' x' H' → MRep K r' x' H' mu' →
    G H' ∧ ∀ i d v H'', ds[i]? = some d → Y i H' v H'' → Same H' H'' ∧ Den K r' x' H'' d v
def lI (K : PySem.W.Frag) (T : IT) : TI := fun σ H R => ∃ r x sl mu, Rep K r x H σ sl mu ∧ T sl mu fun ds mu' => ∀ r' H' J, Ext r r' H H' → MRep K r' x H' mu' → Items K r' x H' J ds → R J H'
structure DI (X : Cx) (tg iter : Expr) (T : IT) : Prop where
  pi : PI X tg iter (lI X.K T)
  mo : MoA T
theorem piMono {X : Cx} {tg e : Expr} {t t' : TI} (h : PI X tg e t) (f : ∀ σ H Q, t' σ H Q → t σ H Q) : PI X tg e t' := ⟨fun pins s σ H Q I q => h.run pins s σ H Q I (f σ H Q q)⟩

/-- a list, a tuple, a text -/
def itemsOf : D → Option (List D)
  | .lst ds => some ds
  | .fls ds => some ds
  | .tup ds => some ds
  | .str z => some (z.cps.toList.map fun c => .str ⟨#[c]⟩)
  | _ => none
def iSeq (T : ET) : IT := fun sl mu Q => T sl mu fun d m => match itemsOf d with
  | some ds => Q ds m
  | none => False
def iSeqV (K : PySem.W.Frag) (tl : TE) : TI := fun σ H R => tl σ H fun x H1 => (∃ a, x = .ref a ∧ (∃ xs, SqL K H1 a xs) ∧ R (Itl K a) H1) ∨ (∃ a, x = .ref a ∧ (∃ xs, SqT K H1 a xs) ∧ R (Itt K a) H1) ∨ ∃ z, x = .str z ∧ R (Its z) H1
section
variable {X : Cx} {tg e : Expr} {pos : Pos}
theorem pi_seq {tl : TE} (hl : PE X e tl) : PI X tg e (iSeqV X.K tl) := by
  refine ⟨fun pins s σ H R I h => ?_⟩
  refine thn (hl.run pins s σ H _ I h) fun v s1 ⟨x, H1, I1, r1, q1⟩ => ?_
  rcases q1 with ⟨a, e, ⟨xs, hq⟩, q⟩ | ⟨a, e, ⟨xs, hq⟩, q⟩ | ⟨x, ex, q⟩
  · subst e
    cases r1
    obtain ⟨its, rv, p, hz⟩ := I1.list hq
    refine wpAny_pyIter_list p.isList ?_
    refine ⟨s1.heap.objs.size, [s1.heap.objs.size], _, _, H1, rfl, I1.kept (t' := s1.toks) fun b o e => Heap.get?_push_of_some _ e, turn_list a _, ⟨_, Heap.get?_push_size _ rfl, rfl, rfl⟩, fun b hb => ?_, q⟩
    have e : b = s1.heap.objs.size := by simpa using hb
    subst e
    exact I1.fpOk (Nat.le_refl _) (I1.hok.fresh (Nat.le_refl _))
  · subst e
    cases r1
    obtain ⟨its, rv, p, hz⟩ := I1.tuple hq
    refine wpAny_pyIter_tuple (show s1.heap.IsTuple a its.toArray from p) ?_
    refine ⟨s1.heap.objs.size, [s1.heap.objs.size], _, _, H1, rfl, I1.kept (t' := s1.toks) fun b o e => Heap.get?_push_of_some _ e, turn_tuple a _, ⟨_, Heap.get?_push_size _ rfl, rfl, rfl⟩, fun b hb => ?_, q⟩
    have e : b = s1.heap.objs.size := by simpa using hb
    subst e
    exact I1.fpOk (Nat.le_refl _) (I1.hok.fresh (Nat.le_refl _))
  · subst ex
    obtain ⟨t, rfl⟩ := r1
    cases ha : x.cps.all (· < 128)
    · exact wpAny_pyIter_wide ha (pi_one (tk := s1.toks) I1 _ (turn_str _ x t "str_iterator" (.inr rfl)) ⟨_, Heap.get?_push_size _ rfl, rfl, rfl⟩ q)
    · exact wpAny_pyIter_ascii ha (pi_one (tk := s1.toks) I1 _ (turn_str _ x t "str_ascii_iterator" (.inl rfl)) ⟨_, Heap.get?_push_size _ rfl, rfl, rfl⟩ q)
section
variable {K : PySem.W.Frag} {r x : List Addr} {H : Hp} {a b : Addr} {vs ws : List V} {ds es : List D}
theorem items_list (h : LAt K r x H a vs) (l : DenL K r x H ds vs) : Items K r x H (Itl K a) ds := by
  refine ⟨_, _, by rw [l.length]; exact walk_list (xs := vs), fun r' x' H' mu' w m => ⟨(h.fw w).sq, fun i d v H'' e y => ?_⟩⟩
  obtain ⟨rfl, y⟩ := y
  obtain ⟨v', e1, dn⟩ := (l.fw w).get e
  rw [y] at e1
  cases e1
  exact ⟨Same.refl _, dn⟩
theorem items_fls (h : FAt K r x H a vs) (l : DenL K r x H ds vs) : Items K r x H (Itl K a) ds := by
  refine ⟨_, _, by rw [l.length]; exact walk_list (xs := vs), fun r' x' H' mu' w m => ⟨(h.fw w).sq, fun i d v H'' e y => ?_⟩⟩
  obtain ⟨rfl, y⟩ := y
  obtain ⟨v', e1, dn⟩ := (l.fw w).get e
  rw [y] at e1
  cases e1
  exact ⟨Same.refl _, dn⟩
theorem items_tup (h : TAt K r x H a vs) (l : DenL K r x H ds vs) : Items K r x H (Itt K a) ds := by
  refine ⟨_, _, by rw [l.length]; exact walk_tup (xs := vs), fun r' x' H' mu' w m => ⟨(h.fw w).sq, fun i d v H'' e y => ?_⟩⟩
  obtain ⟨rfl, y⟩ := y
  obtain ⟨v', e1, dn⟩ := (l.fw w).get e
  rw [y] at e1
  cases e1
  exact ⟨Same.refl _, dn⟩
theorem items_str (z : Str) : Items K r x H (Its z) (z.cps.toList.map fun c => .str ⟨#[c]⟩) := by
  refine ⟨_, _, by rw [List.length_map, Array.length_toList]; exact walk_str, fun r' x' H' mu' w m => ⟨trivial, fun i d v H'' e y => ?_⟩⟩
  obtain ⟨rfl, c, e1, rfl⟩ := y
  refine ⟨Same.refl _, ?_⟩
  rw [List.getElem?_map, Array.getElem?_toList, e1] at e
  cases e
  rfl
theorem den_pair {mu : Mu} (m : MRep K r x H mu) {T : Addr} {d e : D} {v w : V} (n : H T = none) (hd : Den K r x H d v) (he : Den K r x H e w) : Same H (upd H T (.tup [v, w])) ∧ Den K r x (upd H T (.tup [v, w])) (.tup [d, e]) (.ref T) := by
  refine ⟨same_upd n, ?_⟩
  simp only [Den]
  refine ⟨T, [v, w], rfl, .inl ⟨m.fresh n, fun z => ?_, upd_same⟩, DenL.ext (Ext.same (same_upd n)) _ _ ⟨v, [w], rfl, hd, w, [], rfl, he, rfl⟩⟩
  obtain ⟨_, o, e⟩ := m.out T z
  rw [n] at e
  cases e
theorem items_pairs {J : It} {G : Hp → Prop} {f g : Nat → Option V} {n : Nat} (hn : n = min ds.length es.length) (w : Walk J n G (YPair f g))
    (k : ∀ (r' x' : List Addr) (H' : Hp) (mu' : Mu), Fw r x H r' x' H' → MRep K r' x' H' mu' → G H' ∧ (∀ i v, f i = some v → ∀ d, ds[i]? = some d → Den K r' x' H' d v) ∧ ∀ i v, g i = some v → ∀ d, es[i]? = some d → Den K r' x' H' d v) :
    Items K r x H J ((ds.zip es).map fun p => .tup [p.1, p.2]) := by
  refine ⟨G, _, by rw [List.length_map, List.length_zip, ← hn]; exact w, fun r' x' H' mu' fw m => ?_⟩
  obtain ⟨hG, h1, h2⟩ := k r' x' H' mu' fw m
  refine ⟨hG, fun i d v H'' e y => ?_⟩
  obtain ⟨T, y1, y2, rfl, nT, rfl, e1, e2⟩ := y
  rw [List.getElem?_map] at e
  cases q : (ds.zip es)[i]? with
  | none =>
    rw [q] at e
    cases e
  | some p =>
    rw [q] at e
    cases e
    obtain ⟨z1, z2⟩ := List.getElem?_zip_eq_some.mp q
    exact den_pair m nT (h1 i y1 e1 _ z1) (h2 i y2 e2 _ z2)
end
theorem di_seq {T : ET} (h : DE X e T) : DI X tg e (iSeq T) := by
  refine ⟨piMono (pi_seq h.pe) fun σ H R ⟨r, x, sl, mu, Rp, q⟩ => ⟨r, x, sl, mu, Rp, h.mo _ _ _ _ (fun d m q1 r1 H1 v e1 m1 d1 => ?_) q⟩, fun sl mu Q Q' f q => h.mo _ _ _ _ (fun d m q => ?_) q⟩
  · cases d with
    | lst ds =>
      simp only [Den] at d1
      obtain ⟨a, vs, rfl, la, l⟩ := d1
      exact .inl ⟨a, rfl, ⟨vs, la.sq⟩, q1 r1 H1 _ e1 m1 (items_list la l)⟩
    | fls ds =>
      simp only [Den] at d1
      obtain ⟨a, vs, rfl, la, l⟩ := d1
      exact .inl ⟨a, rfl, ⟨vs, la.sq⟩, q1 r1 H1 _ e1 m1 (items_fls la l)⟩
    | tup ds =>
      simp only [Den] at d1
      obtain ⟨a, vs, rfl, la, l⟩ := d1
      exact .inr (.inl ⟨a, rfl, ⟨vs, la.sq⟩, q1 r1 H1 _ e1 m1 (items_tup la l)⟩)
    | str z =>
      simp only [Den] at d1
      exact .inr (.inr ⟨z, d1, q1 r1 H1 _ e1 m1 (items_str z)⟩)
    | _ => exact q1.elim
  · cases d <;> first | exact f _ _ q | exact q.elim
/-- range(n), range(a, b) -/
def rangeD (lo : Int) (n : Nat) : List D := (List.range n).map fun (i : Nat) => .int (lo + (i : Int))
theorem items_range {K : PySem.W.Frag} {r x : List Addr} {H : Hp} (lo : Int) (n : Nat) : Items K r x H (Itr lo n) (rangeD lo n) := by
  refine ⟨_, _, by unfold rangeD; rw [List.length_map, List.length_range]; exact walk_range, fun r' x' H' mu' w m => ⟨trivial, fun i d v H'' e y => ?_⟩⟩
  obtain ⟨rfl, rfl⟩ := y
  refine ⟨Same.refl _, ?_⟩
  unfold rangeD at e
  rw [List.getElem?_map] at e
  cases q : (List.range n)[i]? with
  | none =>
    rw [q] at e
    cases e
  | some j =>
    rw [q] at e
    cases e
    have : j = i := by
      obtain ⟨h1, h2⟩ := List.getElem?_eq_some_iff.mp q
      rw [List.getElem_range] at h2
      exact h2.symm
    subst this
    rfl
def iRange1 (T : AT) : IT := fun sl mu Q => T sl mu fun ds m => match ds with
  | [.int j] => (-(2 ^ 62) ≤ j ∧ j < 2 ^ 62) ∧ Q (rangeD 0 j.toNat) m
  | _ => False
def iRange2 (T : AT) : IT := fun sl mu Q => T sl mu fun ds m => match ds with
  | [.int i, .int j] => (-(2 ^ 62) ≤ i ∧ i < 2 ^ 62 ∧ -(2 ^ 62) ≤ j ∧ j < 2 ^ 62) ∧ Q (rangeD i (j - i).toNat) m
  | _ => False
theorem di_range1 {a : Expr} {T : AT} {p : Pos} (hg : Gl X "range") (hm : X.mg "range" = none) (ha : DA X [a] T) (hs : starEach [a] X.env = [(false, eval a X.env)] := by rfl) : DI X tg (.Call (.Name "range" p) [a] [] pos) (iRange1 T) := by
  refine ⟨piMono (pi_range1 hg hm ha.pa hs) fun σ H R ⟨r, x, sl, mu, Rp, q⟩ => ⟨r, x, sl, mu, Rp, ha.mo _ _ _ _ (fun d m q1 r1 H1 v e1 m1 d1 => ?_) q⟩, fun sl mu Q Q' f q => ha.mo _ _ _ _ (fun d m q => ?_) q⟩
  · split at q1
    · simp only [DenL, Den] at d1
      obtain ⟨v, vr, rfl, rfl, rfl⟩ := d1
      exact ⟨_, rfl, q1.1.1, q1.1.2, q1.2 r1 H1 _ e1 m1 (items_range _ _)⟩
    · exact q1.elim
  · split at q
    · exact ⟨q.1, f _ _ q.2⟩
    · exact q.elim
theorem di_range2 {a b : Expr} {T : AT} {p : Pos} (hg : Gl X "range") (hm : X.mg "range" = none) (ha : DA X [a, b] T) (hs : starEach [a, b] X.env = [(false, eval a X.env), (false, eval b X.env)] := by rfl) (hs2 : starEach [b] X.env = [(false, eval b X.env)] := by rfl) :
    DI X tg (.Call (.Name "range" p) [a, b] [] pos) (iRange2 T) := by
  refine ⟨piMono (pi_range2 hg hm ha.pa hs hs2) fun σ H R ⟨r, x, sl, mu, Rp, q⟩ => ⟨r, x, sl, mu, Rp, ha.mo _ _ _ _ (fun d m q1 r1 H1 v e1 m1 d1 => ?_) q⟩, fun sl mu Q Q' f q => ha.mo _ _ _ _ (fun d m q => ?_) q⟩
  · split at q1
    · simp only [DenL, Den] at d1
      obtain ⟨v, vr, rfl, rfl, w, _, rfl, rfl, rfl⟩ := d1
      exact ⟨_, _, rfl, q1.1, q1.2 r1 H1 _ e1 m1 (items_range _ _)⟩
    · exact q1.elim
  · split at q
    · exact ⟨q.1, f _ _ q.2⟩
    · exact q.elim
/-- zip of two lists, or of two tuples -/
def pairsD (ds es : List D) : List D := (ds.zip es).map fun p => .tup [p.1, p.2]
def iZipD (T : AT) : IT := fun sl mu Q => T sl mu fun ds m => match ds with
  | [.lst xs, .lst ys] => Q (pairsD xs ys) m
  | [.tup xs, .tup ys] => Q (pairsD xs ys) m
  | _ => False
theorem walk_zipT {K : PySem.W.Frag} {a b : Addr} {xs ys : List V} {n : Nat} (hn : n = min xs.length ys.length) : Walk (RZ.ItzT K a b) n (fun H => SqT K H a xs ∧ SqT K H b ys) (YPair (fun i => xs[i]?) (fun i => ys[i]?)) := by
  refine ⟨fun i H h g => ?_, fun H g => ?_, fun i H v H' h g y => ?_⟩
  · have h1 : i < xs.length := by omega
    have h2 : i < ys.length := by omega
    exact ⟨xs, ys, xs[i], ys[i], g.1, g.2, List.getElem?_eq_getElem h1, List.getElem?_eq_getElem h2⟩
  · exact ⟨xs, ys, g.1, g.2, by omega⟩
  · obtain ⟨T, y1, y2, rfl, nT, rfl, f1, f2⟩ := y
    exact ⟨T, y1, y2, rfl, nT, rfl, f1 _ g.1, f2 _ g.2⟩
theorem di_zip {e e2 : Expr} {T : AT} {p tpos : Pos} {elts : List Expr} {kk : Nat} (hg : Gl X "zip") (hm : X.mg "zip" = none) (ha : DA X [e, e2] T)
    (hs : starEach [e, e2] X.env = (false, eval e X.env) :: starEach [e2] X.env := by rfl) (hpl : (backTo pos (starEach [e2] X.env)).any (·.1) = false := by rfl) :
    DI X (.Tuple elts kk tpos) (.Call (.Name "zip" p) [e, e2] [] pos) (iZipD T) := by
  refine ⟨piMono (RZ.pi_zipA hg hm ha.pa hs hpl) fun σ H R ⟨r, x, sl, mu, Rp, q⟩ => ⟨r, x, sl, mu, Rp, ha.mo _ _ _ _ (fun d m q1 r1 H1 v e1 m1 d1 => ?_) q⟩, fun sl mu Q Q' f q => ha.mo _ _ _ _ (fun d m q => ?_) q⟩
  · split at q1
    · simp only [DenL, Den] at d1
      obtain ⟨v, vr, rfl, ⟨a, vs, rfl, la, l⟩, w, _, rfl, ⟨b, ws, rfl, lb, l2⟩, rfl⟩ := d1
      refine ⟨a, b, vs, ws, rfl, .inl ⟨la.sq, lb.sq, q1 r1 H1 _ e1 m1 ?_⟩⟩
      refine items_pairs (by rw [l.length, l2.length]) (walk_zip (xs := vs) (ys := ws) rfl) fun r' x' H' mu' fw m => ⟨⟨(la.fw fw).sq, (lb.fw fw).sq⟩, fun i v e d e' => ?_, fun i v e d e' => ?_⟩
      · obtain ⟨v', z, dn⟩ := (l.fw fw).get e'
        rw [e] at z
        cases z
        exact dn
      · obtain ⟨v', z, dn⟩ := (l2.fw fw).get e'
        rw [e] at z
        cases z
        exact dn
    · simp only [DenL, Den] at d1
      obtain ⟨v, vr, rfl, ⟨a, vs, rfl, la, l⟩, w, _, rfl, ⟨b, ws, rfl, lb, l2⟩, rfl⟩ := d1
      refine ⟨a, b, vs, ws, rfl, .inr ⟨la.sq, lb.sq, q1 r1 H1 _ e1 m1 ?_⟩⟩
      refine items_pairs (by rw [l.length, l2.length]) (walk_zipT (xs := vs) (ys := ws) rfl) fun r' x' H' mu' fw m => ⟨⟨(la.fw fw).sq, (lb.fw fw).sq⟩, fun i v e d e' => ?_, fun i v e d e' => ?_⟩
      · obtain ⟨v', z, dn⟩ := (l.fw fw).get e'
        rw [e] at z
        cases z
        exact dn
      · obtain ⟨v', z, dn⟩ := (l2.fw fw).get e'
        rw [e] at z
        cases z
        exact dn
    · exact q1.elim
  · split at q
    · exact f _ _ q
    · exact f _ _ q
    · exact q.elim
/-- enumerate of a list -/
def iEnumD (T : AT) : IT := fun sl mu Q => T sl mu fun ds m => match ds with
  | [.lst xs] => Q (pairsD (rangeD 0 xs.length) xs) m
  | _ => False
theorem di_enum {e : Expr} {T : AT} {p tpos : Pos} {elts : List Expr} {kk : Nat} (hg : Gl X "enumerate") (hm : X.mg "enumerate" = none) (ha : DA X [e] T) (hs : starEach [e] X.env = [(false, eval e X.env)] := by rfl) :
    DI X (.Tuple elts kk tpos) (.Call (.Name "enumerate" p) [e] [] pos) (iEnumD T) := by
  refine ⟨piMono (pi_enum hg hm ha.pa hs) fun σ H R ⟨r, x, sl, mu, Rp, q⟩ => ⟨r, x, sl, mu, Rp, ha.mo _ _ _ _ (fun d m q1 r1 H1 v e1 m1 d1 => ?_) q⟩, fun sl mu Q Q' f q => ha.mo _ _ _ _ (fun d m q => ?_) q⟩
  · split at q1
    · simp only [DenL, Den] at d1
      obtain ⟨v, vr, rfl, ⟨a, vs, rfl, la, l⟩, rfl⟩ := d1
      refine ⟨a, vs, rfl, la.sq, q1 r1 H1 _ e1 m1 ?_⟩
      refine items_pairs (n := vs.length) (by unfold rangeD; rw [List.length_map, List.length_range, l.length]; omega) (walk_enum (xs := vs)) fun r' x' H' mu' fw m => ⟨(la.fw fw).sq, fun i v e d e' => ?_, fun i v e d e' => ?_⟩
      · cases e
        unfold rangeD at e'
        rw [List.getElem?_map] at e'
        cases q : (List.range _)[i]? with
        | none =>
          rw [q] at e'
          cases e'
        | some j =>
          rw [q] at e'
          cases e'
          obtain ⟨h1, h2⟩ := List.getElem?_eq_some_iff.mp q
          rw [List.getElem_range] at h2
          subst h2
          simp [Den]
      · obtain ⟨v', z, dn⟩ := (l.fw fw).get e'
        rw [e] at z
        cases z
        exact dn
    · exact q1.elim
  · split at q
    · exact f _ _ q
    · exact q.elim

/-! ### for, while -/
def forGo (t : Tg) (T : SB) (E : DEnds) : List D → Sl → Mu → Prop
  | [], sl, mu => E.nx sl mu
  | d :: ds, sl, mu => tgD t d sl mu fun s2 m2 => T ⟨forGo t T E ds, E.rt, E.nx, forGo t T E ds⟩ s2 m2
def sFor (I : IT) (t : Tg) (T : SB) : SB := fun E sl mu => I sl mu fun ds m => forGo t T E ds sl m
theorem forGo_mo {t : Tg} {T : SB} (hT : MoS T) {A B : DEnds} (f : A.Le B) : ∀ (ds : List D) (sl : Sl) (mu : Mu), forGo t T A ds sl mu → forGo t T B ds sl mu
  | [], sl, mu, q => f.nx _ _ q
  | d :: ds, sl, mu, q => tgD_mo _ _ _ _ _ _ (fun s m q => hT s m ⟨forGo t T A ds, A.rt, A.nx, forGo t T A ds⟩ _ ⟨fun s m q => forGo_mo hT f ds s m q, f.rt, f.nx, fun s m q => forGo_mo hT f ds s m q⟩ q) q
theorem ds_for {iter : Expr} {body : List Stmt} {I : IT} {t : Tg} {T : SB} (hp : PassesOwn (model X.prog X.w) X.A X.env X.xe) (hc : X.calm = true) (hi : DI X tg iter I) (hg : PG X tg (tgV X.K t)) (hb : DSs X body T)
    (hs : ∀ x, foldedSetIterable iter X.env x = pure x := by intro _; rfl) : DS X (.For tg iter body [] pos) (sFor I t T) := by
  refine ⟨psMono (ps_for hp hc hi.pi hg hb.ps hs) fun E σ H ⟨r, x, sl, mu, R, q⟩ => ⟨r, x, sl, mu, R, hi.mo _ _ _ _ (fun ds m q1 r1 H1 J e1 m1 it => ?_) q⟩, fun sl mu A B f q => hi.mo _ _ _ _ (fun ds m q => forGo_mo hb.mo f _ _ _ q) q⟩
  obtain ⟨G, Y, wk, it⟩ := it
  refine for_it wk (fun i σ' H' => ∃ r' sl' mu', Ext r1 r' H1 H' ∧ Rep X.K r' x H' σ' sl' mu' ∧ forGo t T (dEnds X.K r' x H' E) (ds.drop i) sl' mu') ⟨r1, sl, m, Ext.refl _ _, R.ext e1 m1, ?_⟩ ?_ ?_ ?_
  · rw [List.drop_zero]
    exact forGo_mo hb.mo (dEnds_le e1) _ _ _ q1
  · rintro i σ' H' _ ⟨r', sl', mu', e', R', _⟩
    exact (it r' x H' mu' e'.fw R'.mu).1
  · rintro i v σ' H' H'' hi ⟨r', sl', mu', e', R', g'⟩ y
    have ed : ds[i]? = some ds[i] := List.getElem?_eq_getElem hi
    obtain ⟨sm, dn⟩ := (it r' x H' mu' e'.fw R'.mu).2 i _ v H'' ed y
    rw [List.drop_eq_getElem_cons hi] at g'
    have e2 : Ext r' r' H' H'' := Ext.same sm
    refine tg_to (R'.ext e2 (R'.mu.same sm)) dn g' fun σ2 sl2 _ R2 q2 => ⟨r', x, sl2, mu', R2, hb.mo _ _ _ _ ⟨?_, ?_, ?_, ?_⟩ q2⟩
    · exact fun s3 m3 q3 r3 H3 σ3 e3 R3 => ⟨r3, s3, m3, (e'.trans e2).trans e3, R3, forGo_mo hb.mo (dEnds_le (e2.trans e3)) _ _ _ q3⟩
    · exact fun _ _ q => Qd.ext e2 q
    · exact fun _ _ q => Qs.ext e2 q
    · exact fun s3 m3 q3 r3 H3 σ3 e3 R3 => ⟨r3, s3, m3, (e'.trans e2).trans e3, R3, forGo_mo hb.mo (dEnds_le (e2.trans e3)) _ _ _ q3⟩
  · rintro σ' H' ⟨r', sl', mu', e', R', g'⟩
    rw [List.drop_length] at g'
    exact g' r' H' σ' (Ext.refl _ _) R'
/-- while, with a number of turns that is enough -/
def whGo (C : BT) (T : SB) (E : DEnds) : Nat → Sl → Mu → Prop
  | 0, _, _ => False
  | n + 1, sl, mu => C sl mu fun b m => if b = true then T ⟨whGo C T E n, E.rt, E.nx, whGo C T E n⟩ sl m else E.nx sl m
def sWhile (C : BT) (T : SB) : SB := fun E sl mu => ∃ n, whGo C T E n sl mu
theorem whGo_mo {C : BT} {T : SB} (hC : MoB C) (hT : MoS T) {A B : DEnds} (f : A.Le B) : ∀ (n : Nat) (sl : Sl) (mu : Mu), whGo C T A n sl mu → whGo C T B n sl mu
  | 0, _, _, q => q
  | n + 1, sl, mu, q => hC _ _ _ _ (fun b m q => by
    cases b with
    | true => exact hT sl m ⟨whGo C T A n, A.rt, A.nx, whGo C T A n⟩ _ ⟨fun s m q => whGo_mo hC hT f n s m q, f.rt, f.nx, fun s m q => whGo_mo hC hT f n s m q⟩ q
    | false => exact f.nx _ _ q) q
theorem ds_while {c : Expr} {body : List Stmt} {C : BT} {T : SB} (hp : PassesOwn (model X.prog X.w) X.A X.env X.xe) (hc : DB X c C) (hb : DSs X body T) : DS X (.While c body [] pos) (sWhile C T) := by
  refine ⟨psMono (ps_while hp hc.pt hb.ps) fun E σ H ⟨r, x, sl, mu, R, n, q⟩ => ?_, fun sl mu A B f ⟨n, q⟩ => ⟨n, whGo_mo hc.mo hb.mo f _ _ _ q⟩⟩
  refine ⟨fun n σ' H' => ∃ r' sl' mu', Rep X.K r' x H' σ' sl' mu' ∧ whGo C T (dEnds X.K r' x H' E) n sl' mu', ⟨n, r, sl, mu, R, q⟩, ?_⟩
  rintro n σ' H' ⟨r', sl', mu', R', g'⟩
  cases n with
  | zero => exact g'.elim
  | succ n =>
    refine ⟨r', x, sl', mu', R', hc.mo _ _ _ _ (fun b m q1 r1 H1 e1 m1 => ?_) g'⟩
    cases b with
    | true =>
      refine ⟨fun σ3 H3 => ∃ r3 sl3 mu3, Rep X.K r3 x H3 σ3 sl3 mu3 ∧ whGo C T (dEnds X.K r3 x H3 E) n sl3 mu3, fun σ3 H3 z => ⟨n, Nat.lt_succ_self n, z⟩, r1, x, sl', m, R'.ext e1 m1, hb.mo _ _ _ _ ⟨?_, ?_, ?_, ?_⟩ q1⟩
      · exact fun s3 m3 q3 r3 H3 σ3 e3 R3 => ⟨r3, s3, m3, R3, whGo_mo hc.mo hb.mo (dEnds_le (e1.trans e3)) _ _ _ q3⟩
      · exact fun _ _ q => Qd.ext e1 q
      · exact fun _ _ q => Qs.ext e1 q
      · exact fun s3 m3 q3 r3 H3 σ3 e3 R3 => ⟨r3, s3, m3, R3, whGo_mo hc.mo hb.mo (dEnds_le (e1.trans e3)) _ _ _ q3⟩
    | false => exact q1 r1 H1 σ' e1 (R'.ext e1 m1)
end
end DL

namespace DL
open PySem PySem.Spec PyProof.Rows L2

/-! ### list comprehensions -/
def wipeD (sl : Sl) : List Nat → Sl
  | [] => sl
  | v :: vs => (wipeD sl vs).set v none
theorem wipeD_length (sl : Sl) : ∀ vs : List Nat, (wipeD sl vs).length = sl.length
  | [] => rfl
  | v :: vs => by simp [wipeD, wipeD_length sl vs]
theorem wipe_get {α : Type} (w : List (Option α) → List Nat → List (Option α)) (w0 : ∀ s, w s [] = s) (w1 : ∀ s v vs, w s (v :: vs) = (w s vs).set v none) (s : List (Option α)) : ∀ (vs : List Nat) (j : Nat), (w s vs)[j]? = if j ∈ vs ∧ j < s.length then some none else s[j]?
  | [], j => by simp [w0]
  | v :: vs, j => by
    have len : ∀ vs : List Nat, (w s vs).length = s.length := fun vs => by
      induction vs with
      | nil => rw [w0]
      | cons a l ih => rw [w1, List.length_set, ih]
    rw [w1]
    by_cases e : v = j
    · subst e
      by_cases h : v < s.length
      · rw [List.getElem?_set_self (by rw [len]; exact h), if_pos ⟨List.mem_cons_self, h⟩]
      · rw [if_neg (fun z => h z.2), List.getElem?_eq_none (by simpa [len] using h), List.getElem?_eq_none (by omega)]
    · rw [List.getElem?_set_ne e, wipe_get w w0 w1 s vs j]
      have : (j ∈ v :: vs ∧ j < s.length) ↔ (j ∈ vs ∧ j < s.length) := by
        simp only [List.mem_cons]
        constructor
        · rintro ⟨z | z, h⟩
          · exact absurd z.symm e
          · exact ⟨z, h⟩
        · rintro ⟨z, h⟩
          exact ⟨.inr z, h⟩
      simp only [this]
theorem wipeV_get (s : L2.St) (vs : List Nat) (j : Nat) : (wipe s vs)[j]? = if j ∈ vs ∧ j < s.length then some none else s[j]? := wipe_get wipe (fun _ => rfl) (fun _ _ _ => rfl) s vs j
theorem wipeD_get (s : Sl) (vs : List Nat) (j : Nat) : (wipeD s vs)[j]? = if j ∈ vs ∧ j < s.length then some none else s[j]? := wipe_get wipeD (fun _ => rfl) (fun _ _ _ => rfl) s vs j
theorem wipe_set {s : L2.St} {vs : List Nat} {i : Nat} {z : Option V} (h : i ∈ vs) : wipe (s.set i z) vs = wipe s vs := by
  apply List.ext_getElem?
  intro j
  rw [wipeV_get, wipeV_get, List.length_set]
  by_cases c : j ∈ vs ∧ j < s.length
  · rw [if_pos c, if_pos c]
  · rw [if_neg c, if_neg c]
    by_cases e : i = j
    · subst e
      have hl : ¬ i < s.length := fun q => c ⟨h, q⟩
      rw [List.getElem?_eq_none (by simpa using hl), List.getElem?_eq_none (by omega)]
    · rw [List.getElem?_set_ne e]
theorem wipe_wipe (s : L2.St) (vs : List Nat) : wipe (wipe s vs) vs = wipe s vs := by
  apply List.ext_getElem?
  intro j
  rw [wipeV_get, wipe_length, wipeV_get]
  split <;> rfl
theorem wipe_setAll {vs : List Nat} : ∀ {is : List Nat} {ws : List V} {s : L2.St}, (∀ i ∈ is, i ∈ vs) → wipe (setAllV is ws s) vs = wipe s vs
  | [], _, _, _ => by simp [setAllV]
  | _ :: _, [], _, _ => by simp [setAllV]
  | i :: is, w :: ws, s, h => by
    rw [setAllV, wipe_setAll (fun j hj => h j (List.mem_cons_of_mem _ hj)), wipe_set (h i List.mem_cons_self)]
theorem wipe_tg {K : PySem.W.Frag} {r x : List Addr} {H : Hp} {t : Tg} {v : V} {s s' : L2.St} {vs : List Nat} (ht : ∀ i ∈ t.ix, i ∈ vs) (h : tgSt K r x H t v s s') : wipe s' vs = wipe s vs := by
  cases t with
  | nm i =>
    cases h
    exact wipe_set (ht i List.mem_cons_self)
  | tp is =>
    obtain ⟨ws, rfl⟩ := h
    exact wipe_setAll ht
theorem Rep.wipe {K : PySem.W.Frag} {r x : List Addr} {H : Hp} {σ : L2.St} {sl : Sl} {mu : Mu} (R : Rep K r x H σ sl mu) (vs : List Nat) : Rep K r x H (L2.wipe σ vs) (wipeD sl vs) mu := by
  refine ⟨by rw [wipeD_length, wipe_length, R.len], fun i d h => ?_, R.mu⟩
  rw [wipeD_get] at h
  by_cases c : i ∈ vs ∧ i < sl.length
  · rw [if_pos c] at h
    cases h
  · rw [if_neg c] at h
    rw [wipeV_get, ← R.len, if_neg c]
    exact R.at_ i d h
theorem Ext.patch {r r' : List Addr} {H H' : Hp} {p : Addr} {o : HO} (e : Ext r r' H H') (n : H p = none) : Ext r r' H (upd H' p o) :=
  ⟨e.pre, fun a u h1 h2 => by rw [upd_ne (ne_of_none h2 n)]; exact e.keep a u h1 h2, e.new⟩
theorem Ext.fwx {r r' x : List Addr} {H H' : Hp} {p : Addr} (e : Ext r r' H H') (n : H p = none) : Fw r x H r' (p :: x) H' :=
  ⟨fun a u h1 h2 h3 => ⟨e.out h1 h3, by simp only [List.mem_cons, not_or]; exact ⟨ne_of_none h3 n, h2⟩, e.keep a u h1 h3⟩, fun k a h => e.get h⟩

def lcGo (t : Tg) (C : BT) (T : ET) (sl : Sl) (Q : List D → Mu → Prop) : List D → List D → Mu → Prop
  | [], acc, mu => Q acc mu
  | d :: ds, acc, mu => tgD t d sl mu fun s2 m2 => C s2 m2 fun b m3 => if b = true then T s2 m3 fun y m4 => lcGo t C T sl Q ds (acc ++ [y]) m4 else lcGo t C T sl Q ds acc m3
def dYes : BT := fun _ mu Q => Q true mu
def dLc (I : IT) (t : Tg) (C : BT) (T : ET) (vs : List Nat) : ET := fun sl mu Q => I sl mu fun ds m => ds.length ≤ sizeLine ∧ lcGo t C T (wipeD sl vs) (fun acc m => Q (.lst acc) m) ds [] m
theorem lcGo_mo {t : Tg} {C : BT} {T : ET} {sl : Sl} (hC : MoB C) (hT : MoE T) {Q Q' : List D → Mu → Prop} (f : ∀ a m, Q a m → Q' a m) : ∀ (ds acc : List D) (mu : Mu), lcGo t C T sl Q ds acc mu → lcGo t C T sl Q' ds acc mu
  | [], _, _, q => f _ _ q
  | d :: ds, acc, mu, q => tgD_mo _ _ _ _ _ _ (fun s m q => hC _ _ _ _ (fun b m q => by
    cases b with
    | true => exact hT _ _ _ _ (fun y m q => lcGo_mo hC hT f ds _ _ q) q
    | false => exact lcGo_mo hC hT f ds _ _ q) q) q
structure DTs (X : Cx) (ifs : List Expr) (T : BT) : Prop where
  pt : PTs X ifs (lB X.K T)
  mo : MoB T
section
variable {X : Cx} {pos : Pos}
theorem ptsMono {e : List Expr} {t t' : TT} (h : PTs X e t) (f : ∀ σ H Q, t' σ H Q → t σ H Q) : PTs X e t' := ⟨fun pins s σ H Q I q => h.run pins s σ H Q I (f σ H Q q)⟩
theorem dts_nil : DTs X [] dYes := ⟨ptsMono pts_nil fun σ H Q ⟨r, x, sl, mu, R, q⟩ => q r H (Ext.refl _ _) R.mu, fun _ _ _ _ f q => f _ _ q⟩
theorem dts_one {c : Expr} {T : BT} (h : DB X c T) : DTs X [c] T := ⟨pts_one h.pt, h.mo⟩
theorem lc_to {K : PySem.W.Frag} {I : IT} {t : Tg} {C : BT} {T : ET} {vs : List Nat} (ht : ∀ i ∈ t.ix, i ∈ vs) (hI : MoA I) (hC : MoB C) (hT : MoE T) {σ : L2.St} {H : Hp} {Q : VK} (h : lE K (dLc I t C T vs) σ H Q) : tLc (lI K I) (tgV K t) (lB K C) (lE K T) vs σ H Q := by
  obtain ⟨r, x, sl, mu, R, q⟩ := h
  refine ⟨r, x, sl, mu, R, hI _ _ _ _ (fun ds m q1 r1 H1 J e1 m1 it => ?_) q⟩
  obtain ⟨hz, q1⟩ := q1
  obtain ⟨G, Y, wk, it⟩ := it
  intro p hp
  have R1 := R.ext e1 m1
  refine lc_it wk (fun i H' => ∃ r' mu' acc av, Ext r1 r' H1 H' ∧ MRep K r' (p :: x) H' mu' ∧ H' p = some (.lst av) ∧ DenL K r' (p :: x) H' acc av ∧ acc.length ≤ i ∧ lcGo t C T (wipeD sl vs) (fun acc m => Qd K r1 x H1 Q (.lst acc) m) (ds.drop i) acc mu') ?_ ?_ ?_ ?_
  · refine ⟨r1, m, [], [], (Ext.refl _ _).patch hp, m1.hide hp, upd_same, rfl, Nat.le_refl _, ?_⟩
    rw [List.drop_zero]
    exact lcGo_mo hC hT (fun a m q => Qd.ext e1 q) _ _ _ q1
  · rintro i H' _ ⟨r', mu', acc, av, e', m', _⟩
    exact (it r' (p :: x) H' mu' (e'.fwx hp) m').1
  · rintro i v H' H'' hi ⟨r', mu', acc, av, e', m', hD, da, la, g'⟩ y
    have ed : ds[i]? = some ds[i] := List.getElem?_eq_getElem hi
    obtain ⟨sm, dn⟩ := (it r' (p :: x) H' mu' (e'.fwx hp) m').2 i _ v H'' ed y
    rw [List.drop_eq_getElem_cons hi] at g'
    have e2 : Ext r' r' H' H'' := Ext.same sm
    have Rw : Rep K r' (p :: x) H' (wipe σ vs) (wipeD sl vs) mu' := by
      refine ⟨(R1.wipe vs).len, fun i d h => ?_, m'⟩
      obtain ⟨w, e3, dn⟩ := (R1.wipe vs).at_ i d h
      exact ⟨w, e3, dn.fw (e'.fwx hp)⟩
    refine tg_to (Rw.ext e2 (m'.same sm)) dn g' fun σ2 sl2 st2 R2 q2 => ⟨by rw [wipe_tg ht st2, wipe_wipe], ?_⟩
    refine ⟨r', p :: x, sl2, mu', R2, hC _ _ _ _ (fun b m3 q3 r3 H3 e3 m3' => ?_) q2⟩
    have e23 : Ext r' r3 H' H3 := e2.trans e3
    have np : p ∉ r' := (m'.out p List.mem_cons_self).1
    cases b with
    | false => exact ⟨r3, m3, acc, av, e'.trans e23, m3', e23.keep p _ np hD, DenL.ext e23 _ _ da, by omega, q3⟩
    | true =>
      refine ⟨r3, p :: x, sl2, m3, R2.ext e3 m3', hT _ _ _ _ (fun y m4 q4 r4 H4 w e4 m4' d4 => ?_) q3⟩
      have e24 : Ext r' r4 H' H4 := e23.trans e4
      have np4 : p ∈ p :: x := List.mem_cons_self
      refine ⟨av, e24.keep p _ np hD, ?_, r4, m4, acc ++ [y], av ++ [w], (e'.trans e24).patch hp, m4'.chg np4, upd_same, ?_, ?_, q4⟩
      · rw [← da.length]
        omega
      · exact DenL.append (DenL.chg np4 (DenL.ext e24 _ _ da)) (DenL.one (Den.chg np4 d4))
      · rw [List.length_append]
        simp
        omega
  · rintro H' ⟨r', mu', acc, av, e', m', hD, da, la, g'⟩
    rw [List.drop_length] at g'
    refine g' r' H' _ e' m'.bare ?_
    simp only [Den]
    refine ⟨p, av, rfl, ⟨(m'.out p List.mem_cons_self).1, fun z => ?_, hD⟩, da.bare⟩
    obtain ⟨_, o, e⟩ := m1.out p z
    rw [hp] at e
    cases e
theorem dLc_mo {I : IT} {t : Tg} {C : BT} {T : ET} {vs : List Nat} (hI : MoA I) (hC : MoB C) (hT : MoE T) : MoE (dLc I t C T vs) := fun sl mu Q Q' f q => hI _ _ _ _ (fun ds m q => ⟨q.1, lcGo_mo hC hT (fun a m q => f _ _ q) _ _ _ q.2⟩) q
theorem de_lc {elt tg iter : Expr} {ifs : List Expr} {scope : Scope} {own : List (Str × Nat)} {I : IT} {t : Tg} {C : BT} {T : ET} (hc : X.calm = true) (hN : X.N.Nodup) (hi : DI X tg iter I) (ok : BlkOk X.N X.env.scope scope own) (hv : ∀ i ∈ t.ix, i ∈ own.map (·.2))
    (hg : ∀ (s : Shared) (H : Hp) (c : Addr) (cl : List (Str × Addr)) (fp : List Addr), PG (X.blk s H scope (compEnvC scope cl c X.env) fp) tg (tgV X.K t)) (ht : ∀ (s : Shared) (H : Hp) (c : Addr) (cl : List (Str × Addr)) (fp : List Addr), DTs (X.blk s H scope (compEnvC scope cl c X.env) fp) ifs C)
    (he : ∀ (s : Shared) (H : Hp) (c : Addr) (cl : List (Str × Addr)) (fp : List Addr), DE (X.blk s H scope (compEnvC scope cl c X.env) fp) elt T) (hs : ∀ x, foldedSetIterable iter X.env x = pure x := by intro _; rfl) :
    DE X (.ListComp elt [⟨tg, iter, ifs, 0⟩] scope pos) (dLc I t C T (own.map (·.2))) := by
  have s0 : Shared := X.s_0
  refine ⟨peMono (pe_lc (wi := lI X.K I) (g := tgV X.K t) hc hN hi.pi ok hg (tt := lB X.K C) (te := lE X.K T) (fun s H c cl fp => (ht s H c cl fp).pt) (fun s H c cl fp => (he s H c cl fp).pe) hs) fun σ H Q h => ?_, ?_⟩
  · exact lc_to hv hi.mo (ht s0 (fun _ => none) 0 [] []).mo (he s0 (fun _ => none) 0 [] []).mo h
  · exact dLc_mo hi.mo (ht s0 (fun _ => none) 0 [] []).mo (he s0 (fun _ => none) 0 [] []).mo
theorem ds_setLc {i : Nat} {y : Str} {py : Pos} {elt tg iter : Expr} {ifs : List Expr} {scope : Scope} {own : List (Str × Nat)} {spos : Pos} {I : IT} {t : Tg} {C : BT} {T : ET} (hc : X.calm = true) (hN : X.N.Nodup) (hy : X.N[i]? = some y) (hyl : X.env.scope.names.lookup y = some .local)
    (hsw : swapsWith (.ListComp elt [⟨tg, iter, ifs, 0⟩] scope pos) (some (.Name y py)) spos.line X.env = pure true) (hi : DI X tg iter I) (ok : BlkOk X.N X.env.scope scope own) (hv : ∀ i ∈ t.ix, i ∈ own.map (·.2))
    (hg : ∀ (s : Shared) (H : Hp) (c : Addr) (cl : List (Str × Addr)) (fp : List Addr), PG (X.blk s H scope (compEnvC scope cl c X.env) fp) tg (tgV X.K t)) (ht : ∀ (s : Shared) (H : Hp) (c : Addr) (cl : List (Str × Addr)) (fp : List Addr), DTs (X.blk s H scope (compEnvC scope cl c X.env) fp) ifs C)
    (he : ∀ (s : Shared) (H : Hp) (c : Addr) (cl : List (Str × Addr)) (fp : List Addr), DE (X.blk s H scope (compEnvC scope cl c X.env) fp) elt T) (hs : ∀ x, foldedSetIterable iter X.env x = pure x := by intro _; rfl) :
    DS X (.Assign [.Name y py] (.ListComp elt [⟨tg, iter, ifs, 0⟩] scope pos) spos) (sAsg (dLc I t C T (own.map (·.2))) (.nm i)) := by
  have s0 : Shared := X.s_0
  have mC := (ht s0 (fun _ => none) 0 [] []).mo
  have mT := (he s0 (fun _ => none) 0 [] []).mo
  refine ⟨psMono (ps_setLc (wi := lI X.K I) (g := tgV X.K t) hc hN hy hyl hsw hi.pi ok hg (tt := lB X.K C) (te := lE X.K T) (fun s H c cl fp => (ht s H c cl fp).pt) (fun s H c cl fp => (he s H c cl fp).pe) hs) fun E σ H h => ?_, sAsg_mo (dLc_mo hi.mo mC mT)⟩
  have q := asg_to (t := .nm i) (dLc_mo hi.mo mC mT) h
  exact lc_to hv hi.mo mC mT q

/-! ### defs and their calls -/
abbrev DF := List D → Mu → (D → Mu → Prop) → Prop
def MoF (F : DF) : Prop := ∀ ds, MoG (F ds)
def spD (K : PySem.W.Frag) (n : Nat) (F : DF) : Sp := fun vs H Q _ => vs.length = n ∧ ∃ r x mu ds, DenL K r x H ds vs ∧ MRep K r x H mu ∧ F ds mu (Qd K r x H Q)
def dCall (F : DF) (dds : List D) (T : AT) : ET := fun sl mu Q => T sl mu fun ds m => F (ds ++ dds) m Q
theorem de_call_fn {e : Expr} {es : List Expr} {T : AT} {F : DF} {n : Nat} {dvs : List V} {dds : List D} {E : XK} (h : PE X e (tCall (spD X.K n F) dvs E (lA X.K T))) (ha : DA X es T) (hF : MoF F) (hd : ∀ r x H, DenL X.K r x H dds dvs) (hn : es.length + dds.length = n) : DE X e (dCall F dds T) := by
  refine ⟨peMono h fun σ H Q ⟨r, x, sl, mu, R, q⟩ => ⟨r, x, sl, mu, R, ha.mo _ _ _ _ (fun ds m q1 r1 H1 vs e1 m1 d1 => ?_) (ha.len _ _ _ q)⟩, fun sl mu Q Q' f q => ha.mo _ _ _ _ (fun ds m q => hF _ _ _ _ f q) q⟩
  have l1 := d1.length
  have l2 := (hd r1 x H1).length
  refine ⟨?_, r1, x, m, ds ++ dds, DenL.append d1 (hd _ _ _), m1, hF _ _ _ _ (fun _ _ => Qd.ext e1) q1.2⟩
  rw [List.length_append, ← l1, ← l2, q1.1]
  exact hn
theorem de_call {f : Addr} {fd : FuncData} {ps : List Str} {k n : Nat} {y : Str} {p : Pos} {e : Expr} {es : List Expr} {T : AT} {F : DF} {dvs : List V} {ds : List Value} {dds : List D} (G : FnOk X.prog X.w X.K X.mg X.base CX0 k f fd ps (spD X.K n F)) (hF : MoF F) (hr : Room k X.A) (hg : Gl X y) (hm : X.mg y = some (.ref f)) (hk : PySem.W.keepIn X.K (.ref f) = true) (hb : Binds X.K fd ps ds) (hd : Vals dvs ds)
    (ha : DA X (e :: es) T) (hdd : ∀ r x H, DenL X.K r x H dds dvs) (hn : (e :: es).length + dds.length = n := by rfl) (hdb : (y == ("__debug__" : Str)) = false := by decide) (he : starEach (e :: es) X.env = (false, eval e X.env) :: starEach es X.env := by rfl) (hpl : (backTo pos (starEach es X.env)).any (·.1) = false := by rfl) :
    DE X (.Call (.Name y p) (e :: es) [] pos) (dCall F dds T) :=
  de_call_fn (pe_call G hr hg hm hk hb hd pass0 ha.pa hdb he hpl) ha hF hdd hn
theorem de_call0 {f : Addr} {fd : FuncData} {ps : List Str} {k n : Nat} {y : Str} {p : Pos} {F : DF} {dvs : List V} {ds : List Value} {dds : List D} (G : FnOk X.prog X.w X.K X.mg X.base CX0 k f fd ps (spD X.K n F)) (hF : MoF F) (hr : Room k X.A) (hg : Gl X y) (hm : X.mg y = some (.ref f)) (hk : PySem.W.keepIn X.K (.ref f) = true) (hb : Binds X.K fd ps ds) (hd : Vals dvs ds)
    (hdd : ∀ r x H, DenL X.K r x H dds dvs) (hn : 0 + dds.length = n := by rfl) (hdb : (y == ("__debug__" : Str)) = false := by decide) :
    DE X (.Call (.Name y p) [] [] pos) (dCall F dds dNil) := by
  have h : PE X (.Call (.Name y p) [] [] pos) (tCall (spD X.K n F) dvs E0 (lA X.K dNil)) := peMono (pe_call0 G hr hg hm hk hb hd pass0 hdb) fun σ H Q q => by
    obtain ⟨r, x, sl, mu, R, q⟩ := q
    exact q r H [] (Ext.refl _ _) R.mu rfl
  exact de_call_fn (es := []) h da_nil hF hdd hn
theorem hdNil {K : PySem.W.Frag} : ∀ r x H, DenL K r x H [] [] := fun _ _ _ => rfl
end
def startD (n : Nat) (ds : List D) : Sl := ds.map some ++ List.replicate (n - ds.length) none
def fnE (Q : D → Mu → Prop) : DEnds := ⟨fun _ m => Q .non m, Q, fun _ _ => False, fun _ _ => False⟩
def fnD (n : Nat) (T : SB) : DF := fun ds mu Q => T (fnE Q) (startD n ds) mu
theorem fnE_le {Q Q' : D → Mu → Prop} (f : ∀ d m, Q d m → Q' d m) : (fnE Q).Le (fnE Q') := ⟨fun _ _ q => f _ _ q, fun _ _ q => f _ _ q, fun _ _ q => q, fun _ _ q => q⟩
theorem fnD_mo {n : Nat} {T : SB} (h : MoS T) : MoF (fnD n T) := fun ds mu Q Q' f q => h _ _ _ _ (fnE_le f) q
theorem rep_start {K : PySem.W.Frag} {r x : List Addr} {H : Hp} {mu : Mu} {N : List Str} {ds : List D} {vs : List V} (m : MRep K r x H mu) (d : DenL K r x H ds vs) : Rep K r x H (L2.start N vs) (startD N.length ds) mu := by
  refine ⟨by simp [L2.start, startD, d.length], fun i e h => ?_, m⟩
  unfold startD at h
  unfold L2.start
  by_cases hi : i < ds.length
  · rw [List.getElem?_append_left (by simpa using hi), List.getElem?_map] at h
    rw [List.getElem?_append_left (by simpa [← d.length] using hi), List.getElem?_map]
    cases q : ds[i]? with
    | none =>
      rw [q] at h
      cases h
    | some z =>
      rw [q] at h
      cases h
      obtain ⟨v, e1, dn⟩ := d.get q
      exact ⟨v, by rw [e1]; rfl, dn⟩
  · rw [List.getElem?_append_right (by simpa using hi)] at h
    have := List.mem_of_getElem? h
    have := List.eq_of_mem_replicate this
    cases this
theorem fn_entry {K : PySem.W.Frag} {N : List Str} {T : SB} (hT : MoS T) {n : Nat} {vs : List V} {H : Hp} {Q : VK} {E : XK} (h : spD K n (fnD N.length T) vs H Q E) : lS K T { nx := fun _ H' => Q .non H', rt := Q } (L2.start N vs) H := by
  obtain ⟨_, r, x, mu, ds, d, m, q⟩ := h
  refine ⟨r, x, startD N.length ds, mu, rep_start m d, hT _ _ (fnE (Qd K r x H Q)) _ ⟨fun s m q r' H' σ e' R' => q r' H' .non e' R'.mu rfl, fun _ _ q => q, fun _ _ q => q.elim, fun _ _ q => q.elim⟩ q⟩
section
variable {P : Program} {w : World} {K : PySem.W.Frag} {mg : Str → Option Value} {base : Heap}
theorem fn_ok {x qual : Str} {st : Stmt} {f : Addr} {fd : FuncData} {N ps : List Str} {k : Nat} {T : SB} (F : Fun K x qual st f fd) (S : FnScope N ps (defScope st))
    (body : ∀ (cdv : Value) (A : Around) (outer : List Env) (s : Shared) (H : Hp) (E : XK), Room k (A.deeper (envOfC qual (defScope st) s.heap.objs.size f cdv)) →
      DSs (cxOf CX0 P w K mg base N qual (defScope st) f cdv A outer s H E).nox (defBody st) T) : FnOk P w K mg base CX0 (k + 1) f fd ps (spD K ps.length (fnD N.length T)) :=
  F.ok S (fun vs H Q E h => h.1) fun cdv A outer s H vs Q E hr h => ⟨_, (body cdv A outer s H E hr).ps, fn_entry (body cdv A outer s H E hr).mo h⟩
/-- a promise in other words -/
theorem fn_imp {CX : CXT} {f : Addr} {fd : FuncData} {ps : List Str} {k n : Nat} {F F' : DF} (G : FnOk P w K mg base CX k f fd ps (spD K n F)) (h : ∀ ds mu Q, ds.length = n → F' ds mu Q → F ds mu Q) : FnOk P w K mg base CX k f fd ps (spD K n F') :=
  G.imp fun vs H Q E ⟨z, r, x, mu, ds, d, m, q⟩ => ⟨z, r, x, mu, ds, d, m, h _ _ _ (by rw [d.length, z]) q⟩
end
end DL

namespace DL
open PySem PySem.Spec PyProof.Rows L2

/-! ### operators over data -/
def gI2 (C : Int → Int → Prop) (f : Int → Int → D) : G2 := fun a b mu Q => match a, b with
  | .int i, .int j => C i j ∧ Q (f i j) mu
  | _, _ => False
theorem gI2_mo {C : Int → Int → Prop} {f : Int → Int → D} : ∀ a b, MoG (gI2 C f a b) := fun a b mu Q Q' k h => by
  unfold gI2 at h ⊢
  split at h
  · exact ⟨h.1, k _ _ h.2⟩
  · exact h.elim
section
variable {K : PySem.W.Frag}
theorem Qd.now {r x : List Addr} {H : Hp} {Q : VK} {d : D} {mu : Mu} {v : V} (q : Qd K r x H Q d mu) (m : MRep K r x H mu) (h : Den K r x H d v) : Q v H := q r H v (Ext.refl _ _) m h
theorem L_I {C : Int → Int → Prop} {g : Int → Int → Int} : L2r K (rI C fun i j => .int (g i j)) (gI2 C fun i j => .int (g i j)) :=
  ⟨fun r x H a b v w mu Q m da db h => by
    unfold gI2 at h
    split at h
    · simp only [Den] at da db
      exact ⟨_, _, da, db, h.1, h.2.now m rfl⟩
    · exact h.elim, gI2_mo⟩
/-- bounds that always hold -/
def cTrue : Int → Int → Prop := fun _ _ => True
theorem L_I0 {g : Int → Int → Int} : L2r K (rI0 fun i j => .int (g i j)) (gI2 cTrue fun i j => .int (g i j)) :=
  ⟨fun r x H a b v w mu Q m da db h => by
    unfold gI2 at h
    split at h
    · simp only [Den] at da db
      exact ⟨_, _, da, db, h.2.now m rfl⟩
    · exact h.elim, gI2_mo⟩
theorem L_IB {g : Int → Int → Bool} : L2r K (rI0 fun i j => .bl (g i j)) (gI2 cTrue fun i j => .bl (g i j)) :=
  ⟨fun r x H a b v w mu Q m da db h => by
    unfold gI2 at h
    split at h
    · simp only [Den] at da db
      exact ⟨_, _, da, db, h.2.now m rfl⟩
    · exact h.elim, gI2_mo⟩
def rOr (r r' : R2) : R2 := fun x y H Q => r x y H Q ∨ r' x y H Q

/-- a + b -/
def gAdd : G2 := fun a b mu Q => match a, b with
  | .int i, .int j => Q (.int (i + j)) mu
  | .str i, .str j => i.length + j.length ≤ sizeLine ∧ Q (.str (i ++ j)) mu
  | .lst xs, .lst ys => xs.length + ys.length ≤ sizeLine ∧ Q (.lst (xs ++ ys)) mu
  | .tup xs, .tup ys => xs.length + ys.length ≤ sizeLine ∧ Q (.tup (xs ++ ys)) mu
  | _, _ => False
def rAddA (K : PySem.W.Frag) : R2 := fun x y H Q => ((rI0 fun i j => .int (i + j)) x y H Q ∨ (∃ i j, x = .str i ∧ y = .str j ∧ i.length + j.length ≤ sizeLine ∧ Q (.str (i ++ j)) H)) ∨ (rCat x y H Q ∨ rCatA K x y H Q)
theorem op_addA {X : Cx} : OpR X (binaryOp .Add) (rAddA X.K) := (op_add.or op_add_str).or (op_cat.or op_catA)
theorem L_add : L2r K (rAddA K) gAdd :=
  ⟨fun r x H a b v w mu Q m da db h => by
    unfold gAdd at h
    split at h
    · simp only [Den] at da db
      exact .inl (.inl ⟨_, _, da, db, h.now m rfl⟩)
    · simp only [Den] at da db
      exact .inl (.inr ⟨_, _, da, db, h.1, h.2.now m rfl⟩)
    · simp only [Den] at da db
      obtain ⟨p, vs, rfl, la, l⟩ := da
      obtain ⟨q, ws, rfl, lb, l2⟩ := db
      exact .inr (.inl ⟨p, q, vs, ws, rfl, rfl, la.2.2, lb.2.2, by rw [← l.length, ← l2.length]; exact h.1, new_lst m (l.append l2) h.2⟩)
    · simp only [Den] at da db
      obtain ⟨p, vs, rfl, la, l⟩ := da
      obtain ⟨q, ws, rfl, lb, l2⟩ := db
      have z1 := l.length
      have z2 := l2.length
      refine .inr (.inr ⟨p, q, vs, ws, rfl, rfl, la.sq, lb.sq, by rw [← z1, ← z2]; exact h.1, fun e => ?_, fun e1 e2 => ?_, fun _ _ => new_tup m (l.append l2) h.2⟩)
      · subst e
        refine h.2.now m ?_
        rename_i xs ys
        have : xs = [] := List.length_eq_zero_iff.mp z1
        subst this
        simp only [Den]
        exact ⟨q, ws, rfl, lb, l2⟩
      · subst e2
        refine h.2.now m ?_
        rename_i xs ys
        have : ys = [] := List.length_eq_zero_iff.mp z2
        subst this
        simp only [Den, List.append_nil]
        exact ⟨p, vs, rfl, la, l⟩
    · exact h.elim, fun a b mu Q Q' k h => by
    unfold gAdd at h ⊢
    split at h
    · exact k _ _ h
    · exact ⟨h.1, k _ _ h.2⟩
    · exact ⟨h.1, k _ _ h.2⟩
    · exact ⟨h.1, k _ _ h.2⟩
    · exact h.elim⟩
/-- a * b: ints; a list and an int -/
def rep (xs : List D) : Nat → List D
  | 0 => []
  | n + 1 => xs ++ rep xs n
/-- == -/
def sEq : D → D → Option Bool
  | .non, .non => some true
  | .non, .int _ => some false | .int _, .non => some false | .non, .bl _ => some false | .bl _, .non => some false | .non, .str _ => some false | .str _, .non => some false
  | .int i, .int j => some (decide (i = j))
  | .bl i, .bl j => some (decide (i = j))
  | .str i, .str j => some (decide (i = j))
  | .int _, .str _ => some false | .str _, .int _ => some false | .bl _, .str _ => some false | .str _, .bl _ => some false
  | _, _ => none
mutual
def toPy : D → Option PyData
  | .non => some .none
  | .bl b => some (.bool b)
  | .int i => some (.int i)
  | .str x => some (.str x)
  | .tup ds => (toPyL ds).map .tuple
  | .lst ds => (toPyL ds).map .list
  | _ => none
def toPyL : List D → Option (List PyData)
  | [] => some []
  | d :: ds => match toPy d, toPyL ds with
    | some p, some ps => some (p :: ps)
    | _, _ => none
end
mutual
theorem toPy_dp {r x : List Addr} {H : Hp} : ∀ (d : D) (v : V) (p : PyData), Den K r x H d v → toPy d = some p → Dp K H v p
  | .non, v, p, h, e => by
    simp only [Den] at h
    simp only [toPy] at e
    cases e
    subst h
    exact .non
  | .bl b, v, p, h, e => by
    simp only [Den] at h
    simp only [toPy] at e
    cases e
    subst h
    exact .bl b
  | .int i, v, p, h, e => by
    simp only [Den] at h
    simp only [toPy] at e
    cases e
    subst h
    exact .int i
  | .str z, v, p, h, e => by
    simp only [Den] at h
    simp only [toPy] at e
    cases e
    subst h
    exact .str z
  | .tup ds, v, p, h, e => by
    simp only [Den] at h
    simp only [toPy] at e
    obtain ⟨a, vs, rfl, t, l⟩ := h
    cases q : toPyL ds with
    | none =>
      rw [q] at e
      cases e
    | some ps =>
      rw [q] at e
      cases e
      exact .tup t.sq (toPyL_dp ds vs ps l q)
  | .lst ds, v, p, h, e => by
    simp only [Den] at h
    simp only [toPy] at e
    obtain ⟨a, vs, rfl, t, l⟩ := h
    cases q : toPyL ds with
    | none =>
      rw [q] at e
      cases e
    | some ps =>
      rw [q] at e
      cases e
      exact .lst t.sq (toPyL_dp ds vs ps l q)
  | .ty _, v, p, h, e => by simp [toPy] at e
  | .fn _, v, p, h, e => by simp [toPy] at e
  | .fls _, v, p, h, e => by simp [toPy] at e
  | .dct _ _, v, p, h, e => by simp [toPy] at e
  | .obj _ _ _, v, p, h, e => by simp [toPy] at e
  | .mu _, v, p, h, e => by simp [toPy] at e
theorem toPyL_dp {r x : List Addr} {H : Hp} : ∀ (ds : List D) (vs : List V) (ps : List PyData), DenL K r x H ds vs → toPyL ds = some ps → DpAll K H vs ps
  | [], vs, ps, h, e => by
    simp only [DenL] at h
    simp only [toPyL] at e
    cases e
    subst h
    exact .nil
  | d :: ds, vs, ps, h, e => by
    simp only [DenL] at h
    simp only [toPyL] at e
    obtain ⟨v, vr, rfl, h1, h2⟩ := h
    cases q1 : toPy d with
    | none =>
      rw [q1] at e
      cases e
    | some p =>
      cases q2 : toPyL ds with
      | none =>
        rw [q1, q2] at e
        cases e
      | some pr =>
        rw [q1, q2] at e
        cases e
        exact .cons (toPy_dp d v p h1 q1) (toPyL_dp ds vr pr h2 q2)
end
def gEqN (neg : Bool) : G2 := fun a b mu Q => match sEq a b with
  | some k => Q (.bl (if neg then !k else k)) mu
  | none => match toPy a, toPy b with
    | some p, some q => (SeqAt.shaped p = true ∧ SeqAt.shaped q = true) ∧ Q (.bl (if neg then !PyData.eqv p q else PyData.eqv p q)) mu
    | _, _ => False
theorem gEqN_mo {neg : Bool} : ∀ a b, MoG (gEqN neg a b) := fun a b mu Q Q' k h => by
  unfold gEqN at h ⊢
  split at h
  · exact k _ _ h
  · split at h
    · exact ⟨h.1, k _ _ h.2⟩
    · exact h.elim
theorem sEq_to {r x : List Addr} {H : Hp} {a b : D} {v w : V} {k : Bool} (da : Den K r x H a v) (db : Den K r x H b w) (e : sEq a b = some k) : scal v w = true ∧ decide (v = w) = k := by
  unfold sEq at e
  split at e <;> first
    | (cases e; simp only [Den] at da db; subst da; subst db; exact ⟨rfl, rfl⟩)
    | (cases e; simp only [Den] at da db; subst da; subst db; exact ⟨rfl, by simp⟩)
    | cases e
def rEqA (K : PySem.W.Frag) : R2 := fun x y H Q => rEq x y H Q ∨ rEqD K x y H Q
def rNeA (K : PySem.W.Frag) : R2 := fun x y H Q => rNe x y H Q ∨ rNeD K x y H Q
theorem op_eqA {X : Cx} (hu : X.A.units + 64 < cLine) : OpR X (compareOp .Eq) (rEqA X.K) := op_eq.or (op_eqD hu)
theorem op_neA {X : Cx} (hu : X.A.units + 64 < cLine) : OpR X (compareOp .NotEq) (rNeA X.K) := op_ne.or (op_neD hu)
theorem L_eq : L2r K (rEqA K) (gEqN false) :=
  ⟨fun r x H a b v w mu Q m da db h => by
    unfold gEqN at h
    split at h
    · rename_i k e
      obtain ⟨z1, z2⟩ := sEq_to da db e
      exact .inl ⟨z1, by rw [z2]; exact h.now m rfl⟩
    · split at h
      · rename_i p q e1 e2
        exact .inr ⟨p, q, toPy_dp _ _ _ da e1, toPy_dp _ _ _ db e2, h.1.1, h.1.2, h.2.now m rfl⟩
      · exact h.elim, gEqN_mo⟩
theorem L_ne : L2r K (rNeA K) (gEqN true) :=
  ⟨fun r x H a b v w mu Q m da db h => by
    unfold gEqN at h
    split at h
    · rename_i k e
      obtain ⟨z1, z2⟩ := sEq_to da db e
      exact .inl ⟨z1, by rw [z2]; exact h.now m rfl⟩
    · split at h
      · rename_i p q e1 e2
        exact .inr ⟨p, q, toPy_dp _ _ _ da e1, toPy_dp _ _ _ db e2, h.1.1, h.1.2, h.2.now m rfl⟩
      · exact h.elim, gEqN_mo⟩
/-- is None -/
def isNon : D → Bool
  | .non => true
  | _ => false
def gIsN (neg : Bool) : G2 := fun a b mu Q => match b with
  | .non => Q (.bl (if neg then !isNon a else isNon a)) mu
  | _ => False
theorem den_non {r x : List Addr} {H : Hp} {a : D} {v : V} (h : Den K r x H a v) : decide (v = .non) = isNon a := by
  cases a with
  | non => simp only [Den] at h; subst h; rfl
  | bl _ => simp only [Den] at h; subst h; rfl
  | int _ => simp only [Den] at h; subst h; rfl
  | str _ => simp only [Den] at h; subst h; rfl
  | ty _ => simp only [Den] at h; subst h; rfl
  | fn _ => simp only [Den] at h; subst h; rfl
  | tup _ => simp only [Den] at h; obtain ⟨a, vs, rfl, _⟩ := h; rfl
  | lst _ => simp only [Den] at h; obtain ⟨a, vs, rfl, _⟩ := h; rfl
  | fls _ => simp only [Den] at h; obtain ⟨a, vs, rfl, _⟩ := h; rfl
  | dct _ _ => simp only [Den] at h; obtain ⟨a, vs, rfl, _⟩ := h; rfl
  | obj _ _ _ => simp only [Den] at h; obtain ⟨a, dx, vs, rfl, _⟩ := h; rfl
  | mu _ => simp only [Den] at h; obtain ⟨a, rfl, _⟩ := h; rfl
theorem gIsN_mo {neg : Bool} : ∀ a b, MoG (gIsN neg a b) := fun a b mu Q Q' k h => by
  unfold gIsN at h ⊢
  split at h
  · exact k _ _ h
  · exact h.elim
theorem L_isN : L2r K (fun x y H Q => y = .non ∧ Q (.bl (decide (x = .non))) H) (gIsN false) :=
  ⟨fun r x H a b v w mu Q m da db h => by
    unfold gIsN at h
    split at h
    · simp only [Den] at db
      exact ⟨db, by rw [den_non da]; exact h.now m rfl⟩
    · exact h.elim, gIsN_mo⟩
theorem L_notN : L2r K (fun x y H Q => y = .non ∧ Q (.bl (!decide (x = .non))) H) (gIsN true) :=
  ⟨fun r x H a b v w mu Q m da db h => by
    unfold gIsN at h
    split at h
    · simp only [Den] at db
      exact ⟨db, by rw [den_non da]; exact h.now m rfl⟩
    · exact h.elim, gIsN_mo⟩
/-- x in s (one sign in a text), x in a list or tuple of flat things -/
def flatD : D → Bool
  | .non => true | .bl _ => true | .int _ => true | .str _ => true
  | _ => false
def eqF : D → D → Bool
  | .non, .non => true
  | .bl a, .bl b => a == b
  | .bl a, .int b => (if a then 1 else 0) == b
  | .int a, .bl b => a == (if b then 1 else 0)
  | .int a, .int b => a == b
  | .str a, .str b => a == b
  | _, _ => false
def seqOf : D → Option (List D)
  | .lst ds => some ds
  | .tup ds => some ds
  | _ => none
def gInN (neg : Bool) : G2 := fun a b mu Q => match a, b with
  | .str s, .str z => match s.cps.toList with
    | [c] => Q (.bl (if neg then !decide (c ∈ z.cps.toList) else decide (c ∈ z.cps.toList))) mu
    | _ => False
  | a, b => match seqOf b with
    | some ds => (flatD a = true ∧ ds.all flatD = true) ∧ Q (.bl (if neg then !ds.any (fun y => eqF y a) else ds.any (fun y => eqF y a))) mu
    | none => False
theorem gInN_mo {neg : Bool} : ∀ a b, MoG (gInN neg a b) := fun a b mu Q Q' k h => by
  unfold gInN at h ⊢
  split at h
  · split at h
    · exact k _ _ h
    · exact h.elim
  · split at h
    · exact ⟨h.1, k _ _ h.2⟩
    · exact h.elim
theorem den_flat {r x : List Addr} {H : Hp} {a : D} {v : V} (h : Den K r x H a v) (f : flatD a = true) : flatV v = true := by
  cases a <;> first
    | (simp only [Den] at h; subst h; rfl)
    | cases f
theorem den_eqF {r x : List Addr} {H : Hp} {a b : D} {v w : V} (h : Den K r x H a v) (h' : Den K r x H b w) (f : flatD a = true) (f' : flatD b = true) : eqV v w = eqF a b := by
  cases a <;> first
    | (cases f; done)
    | (cases b <;> first
        | (cases f'; done)
        | (simp only [Den] at h h'; subst h; subst h'; rfl))
theorem denL_flat {r x : List Addr} {H : Hp} : ∀ {ds : List D} {vs : List V}, DenL K r x H ds vs → ds.all flatD = true → vs.all flatV = true
  | [], vs, h, _ => by
    simp only [DenL] at h
    subst h
    rfl
  | d :: ds, vs, h, f => by
    simp only [DenL] at h
    obtain ⟨v, vr, rfl, h1, h2⟩ := h
    simp only [List.all_cons, Bool.and_eq_true] at f ⊢
    exact ⟨den_flat h1 f.1, denL_flat h2 f.2⟩
theorem denL_any {r x : List Addr} {H : Hp} {a : D} {v : V} (ha : Den K r x H a v) (fa : flatD a = true) : ∀ {ds : List D} {vs : List V}, DenL K r x H ds vs → ds.all flatD = true → vs.any (fun y => eqV y v) = ds.any (fun y => eqF y a)
  | [], vs, h, _ => by
    simp only [DenL] at h
    subst h
    rfl
  | d :: ds, vs, h, f => by
    simp only [DenL] at h
    obtain ⟨w, vr, rfl, h1, h2⟩ := h
    simp only [List.all_cons, Bool.and_eq_true] at f
    simp only [List.any_cons]
    rw [den_eqF h1 ha f.1 fa, denL_any ha fa h2 f.2]
theorem seqOf_to {r x : List Addr} {H : Hp} {b : D} {w : V} {ds : List D} (db : Den K r x H b w) (e : seqOf b = some ds) : ∃ p xs, w = .ref p ∧ (SqL K H p xs ∨ SqT K H p xs) ∧ DenL K r x H ds xs := by
  cases b with
  | lst es =>
    cases e
    simp only [Den] at db
    obtain ⟨a, vs, rfl, la, l⟩ := db
    exact ⟨a, vs, rfl, .inl la.sq, l⟩
  | tup es =>
    cases e
    simp only [Den] at db
    obtain ⟨a, vs, rfl, la, l⟩ := db
    exact ⟨a, vs, rfl, .inr la.sq, l⟩
  | _ => cases e
def rInA (K : PySem.W.Frag) (neg : Bool) : R2 := fun x y H Q => (∃ (c : Nat) (z : Str), x = .str ⟨#[c]⟩ ∧ y = .str z ∧ Q (.bl (if neg then !decide (c ∈ z.cps.toList) else decide (c ∈ z.cps.toList))) H) ∨ rIn K neg x y H Q
theorem op_inA {X : Cx} : OpR X (compareOp .In) (rInA X.K false) := op_in_sign.or op_in_seq
theorem op_notInA {X : Cx} : OpR X (compareOp .NotIn) (rInA X.K true) := op_notIn_sign.or op_notIn_seq
theorem L_in {neg : Bool} : L2r K (rInA K neg) (gInN neg) :=
  ⟨fun r x H a b v w mu Q m da db h => by
    unfold gInN at h
    split at h
    · split at h
      · rename_i s z _ c e
        simp only [Den] at da db
        refine .inl ⟨c, z, ?_, db, h.now m rfl⟩
        rw [da]
        obtain ⟨cps⟩ := s
        obtain ⟨l⟩ := cps
        simp at e
        rw [e]
      · exact h.elim
    · split at h
      · rename_i ds e
        obtain ⟨p, xs, rfl, sq, l⟩ := seqOf_to db e
        refine .inr ⟨p, xs, rfl, sq, den_flat da h.1.1, denL_flat l h.1.2, ?_⟩
        have q := h.2
        unfold inV
        rw [denL_any da h.1.1 l h.1.2]
        exact q.now m rfl
      · exact h.elim, gInN_mo⟩
/-- subscripts: a list, a tuple, a text -/
def gIx : G2 := fun a b mu Q => match b with
  | .int i => match a with
    | .str z => z.length ≤ sizeLine ∧ match atI z.cps.toList i with
      | some c => Q (.str ⟨#[c]⟩) mu
      | none => False
    | .mu k => match mu[k]? with
      | some (.lst ds) => match atI ds i with
        | some d => Q d mu
        | none => False
      | _ => False
    | a => match seqOf a with
      | some ds => match atI ds i with
        | some d => Q d mu
        | none => False
      | none => False
  | _ => False
theorem atI_den {r x : List Addr} {H : Hp} {ds : List D} {vs : List V} {i : Int} {d : D} (l : DenL K r x H ds vs) (e : atI ds i = some d) : ∃ v, atI vs i = some v ∧ Den K r x H d v := by
  unfold atI at e ⊢
  rw [l.length] at e
  cases q : ixN vs.length i with
  | none =>
    rw [q] at e
    cases e
  | some j =>
    rw [q] at e
    exact l.get e
theorem gIx_mo : ∀ a b, MoG (gIx a b) := fun a b mu Q Q' k h => by
  unfold gIx at h ⊢
  split at h
  · split at h
    · refine ⟨h.1, ?_⟩
      have q := h.2
      split at q
      · exact k _ _ q
      · exact q.elim
    · split at h
      · split at h
        · exact k _ _ h
        · exact h.elim
      · exact h.elim
    · split at h
      · split at h
        · exact k _ _ h
        · exact h.elim
      · exact h.elim
  · exact h.elim
theorem L_ix : L2r K (rIx K) gIx :=
  ⟨fun r x H a b v w mu Q m da db h => by
    unfold gIx at h
    split at h
    · rename_i i
      simp only [Den] at db
      split at h
      · rename_i z
        simp only [Den] at da
        have q := h.2
        split at q
        · rename_i c e
          exact .inr (.inr ⟨z, i, c, da, db, h.1, e, q.now m rfl⟩)
        · exact q.elim
      · rename_i k
        simp only [Den] at da
        obtain ⟨p, rfl, hk⟩ := da
        split at h
        · rename_i ds e
          split at h
          · rename_i d ed
            obtain ⟨vs, hp, l⟩ := m.at_ k p _ hk e
            obtain ⟨u, eu, dn⟩ := atI_den l ed
            exact .inl ⟨p, vs, i, u, rfl, db, SqL.of hp, eu, h.now m dn⟩
          · exact h.elim
        · exact h.elim
      · split at h
        · rename_i ds e
          split at h
          · rename_i d ed
            obtain ⟨p, xs, rfl, sq, l⟩ := seqOf_to da e
            obtain ⟨u, eu, dn⟩ := atI_den l ed
            rcases sq with sq | sq
            · exact .inl ⟨p, xs, i, u, rfl, db, sq, eu, h.now m dn⟩
            · exact .inr (.inl ⟨p, xs, i, u, rfl, db, sq, eu, h.now m dn⟩)
          · exact h.elim
        · exact h.elim
    · exact h.elim, gIx_mo⟩
end
end DL

namespace DL
open PySem PySem.Spec PyProof.Rows L2

/-! ### calls of built-ins over data -/
section
variable {K : PySem.W.Frag}
def lsAt (mu : Mu) (k : Nat) : Option (List D) := match mu[k]? with
  | some (.lst ds) => some ds
  | _ => none
theorem lsAt_to {r x : List Addr} {H : Hp} {mu : Mu} {k : Nat} {ds : List D} {v : V} (m : MRep K r x H mu) (d : Den K r x H (.mu k) v) (e : lsAt mu k = some ds) : ∃ p xs, v = .ref p ∧ r[k]? = some p ∧ H p = some (.lst xs) ∧ DenL K r x H ds xs := by
  simp only [Den] at d
  obtain ⟨p, rfl, hk⟩ := d
  unfold lsAt at e
  split at e
  · rename_i es e1
    cases e
    obtain ⟨xs, hp, l⟩ := m.at_ k p _ hk e1
    exact ⟨p, xs, rfl, hk, hp, l⟩
  · cases e
/-- the items of a sequence, also of a place of the store -/
def seqM (mu : Mu) : D → Option (List D)
  | .lst ds => some ds
  | .tup ds => some ds
  | .fls ds => some ds
  | .mu k => lsAt mu k
  | _ => none
theorem seqM_to {r x : List Addr} {H : Hp} {mu : Mu} {b : D} {w : V} {ds : List D} (m : MRep K r x H mu) (db : Den K r x H b w) (e : seqM mu b = some ds) : ∃ p xs, w = .ref p ∧ (SqL K H p xs ∨ SqT K H p xs) ∧ DenL K r x H ds xs := by
  cases b with
  | lst es =>
    cases e
    simp only [Den] at db
    obtain ⟨a, vs, rfl, la, l⟩ := db
    exact ⟨a, vs, rfl, .inl la.sq, l⟩
  | fls es =>
    cases e
    simp only [Den] at db
    obtain ⟨a, vs, rfl, la, l⟩ := db
    exact ⟨a, vs, rfl, .inl la.sq, l⟩
  | tup es =>
    cases e
    simp only [Den] at db
    obtain ⟨a, vs, rfl, la, l⟩ := db
    exact ⟨a, vs, rfl, .inr la.sq, l⟩
  | mu k =>
    obtain ⟨p, xs, rfl, _, hp, l⟩ := lsAt_to m db e
    exact ⟨p, xs, rfl, .inl (SqL.of hp), l⟩
  | _ => cases e
/-- len -/
def gLen : GL := fun ds mu Q => match ds with
  | [.str z] => z.length ≤ sizeLine ∧ Q (.int z.length) mu
  | [d] => match seqM mu d with
    | some es => Q (.int es.length) mu
    | none => False
  | _ => False
theorem gLen_mo : ∀ a, MoG (gLen a) := fun a mu Q Q' k h => by
  unfold gLen at h ⊢
  split at h
  · exact ⟨h.1, k _ _ h.2⟩
  · split at h
    · exact k _ _ h
    · exact h.elim
  · exact h.elim
def rLenA (K : PySem.W.Frag) : List V → Hp → VK → Prop := fun xs H Q => (∃ p ys, xs = [.ref p] ∧ (SqL K H p ys ∨ SqT K H p ys) ∧ Q (.int ys.length) H) ∨ ∃ z, xs = [.str z] ∧ z.length ≤ sizeLine ∧ Q (.int z.length) H
theorem callOr {X : Cx} {f : Value} {r r' : List V → Hp → VK → Prop} (h : CallR X f r) (h' : CallR X f r') : CallR X f (fun xs H Q => r xs H Q ∨ r' xs H Q) :=
  fun pins s σ H xs us Q I v q => q.elim (h pins s σ H xs us Q I v) (h' pins s σ H xs us Q I v)
theorem call_lenA {X : Cx} : CallR X (.builtin "len") (rLenA X.K) := callOr call_len_seq call_len_str
theorem L_len : LLr K (rLenA K) gLen :=
  ⟨fun r x H a v mu Q m d h => by
    unfold gLen at h
    split at h
    · simp only [DenL, Den] at d
      obtain ⟨u, _, rfl, rfl, rfl⟩ := d
      exact .inr ⟨_, rfl, h.1, h.2.now m rfl⟩
    · split at h
      · rename_i es e
        simp only [DenL] at d
        obtain ⟨u, _, rfl, d1, rfl⟩ := d
        obtain ⟨p, xs, rfl, sq, l⟩ := seqM_to m d1 e
        exact .inl ⟨p, xs, rfl, sq, by rw [← l.length]; exact h.now m rfl⟩
      · exact h.elim
    · exact h.elim, gLen_mo⟩
/-- int(n) -/
def gInt1 : GL := fun ds mu Q => match ds with
  | [.int i] => Q (.int i) mu
  | [.bl b] => Q (.int (if b then 1 else 0)) mu
  | _ => False
theorem L_int1 : LLr K (fun xs H Q => (∃ i, xs = [.int i] ∧ Q (.int i) H) ∨ ∃ k, xs = [.bl k] ∧ Q (.int (if k then 1 else 0)) H) gInt1 :=
  ⟨fun r x H a v mu Q m d h => by
    unfold gInt1 at h
    split at h
    · simp only [DenL, Den] at d
      obtain ⟨u, _, rfl, rfl, rfl⟩ := d
      exact .inl ⟨_, rfl, h.now m rfl⟩
    · simp only [DenL, Den] at d
      obtain ⟨u, _, rfl, rfl, rfl⟩ := d
      exact .inr ⟨_, rfl, h.now m rfl⟩
    · exact h.elim, fun a mu Q Q' k h => by
    unfold gInt1 at h ⊢
    split at h
    · exact k _ _ h
    · exact k _ _ h
    · exact h.elim⟩
/-- str(n) -/
def gStr1 : GL := fun ds mu Q => match ds with
  | [.int i] => i.natAbs.log2 < 1920 ∧ Q (.str (toString i)) mu
  | _ => False
theorem L_str1 : LLr K (fun xs H Q => ∃ i, xs = [.int i] ∧ i.natAbs.log2 < 1920 ∧ Q (.str (toString i)) H) gStr1 :=
  ⟨fun r x H a v mu Q m d h => by
    unfold gStr1 at h
    split at h
    · simp only [DenL, Den] at d
      obtain ⟨u, _, rfl, rfl, rfl⟩ := d
      exact ⟨_, rfl, h.1, h.2.now m rfl⟩
    · exact h.elim, fun a mu Q Q' k h => by
    unfold gStr1 at h ⊢
    split at h
    · exact ⟨h.1, k _ _ h.2⟩
    · exact h.elim⟩
/-- list(x): a new list; one that will be changed; tuple(x) -/
def gList1 : GL := fun ds mu Q => match ds with
  | [d] => match seqM mu d with
    | some es => Q (.lst es) mu
    | none => False
  | _ => False
def gList1M : GL := fun ds mu Q => match ds with
  | [d] => match seqM mu d with
    | some es => Q (.mu mu.length) (mu ++ [.lst es])
    | none => False
  | _ => False
theorem g1_mo {f : List D → Mu → D × Mu} : ∀ a, MoG (fun mu Q => match a with
  | [d] => match seqM mu d with
    | some es => Q (f es mu).1 (f es mu).2
    | none => False
  | _ => False) := fun a mu Q Q' k h => by
    dsimp only at h ⊢
    split at h
    · split at h
      · exact k _ _ h
      · exact h.elim
    · exact h.elim
def rList1 (K : PySem.W.Frag) : List V → Hp → VK → Prop := fun xs H Q => ∃ p ys, xs = [.ref p] ∧ (SqL K H p ys ∨ SqT K H p ys) ∧ ∀ l, H l = none → Q (.ref l) (upd H l (.lst ys))
theorem L_list1 : LLr K (rList1 K) gList1 :=
  ⟨fun r x H a v mu Q m d h => by
    unfold gList1 at h
    split at h
    · split at h
      · rename_i es e
        simp only [DenL] at d
        obtain ⟨u, _, rfl, d1, rfl⟩ := d
        obtain ⟨p, xs, rfl, sq, l⟩ := seqM_to m d1 e
        exact ⟨p, xs, rfl, sq, new_lst m l h⟩
      · exact h.elim
    · exact h.elim, g1_mo (f := fun es mu => (.lst es, mu))⟩
theorem L_list1M : LLr K (rList1 K) gList1M :=
  ⟨fun r x H a v mu Q m d h => by
    unfold gList1M at h
    split at h
    · split at h
      · rename_i es e
        simp only [DenL] at d
        obtain ⟨u, _, rfl, d1, rfl⟩ := d
        obtain ⟨p, xs, rfl, sq, l⟩ := seqM_to m d1 e
        exact ⟨p, xs, rfl, sq, new_lstM m l h⟩
      · exact h.elim
    · exact h.elim, g1_mo (f := fun es mu => ((D.mu mu.length : D), (mu ++ [MO.lst es] : Mu)))⟩
def gTuple1 : GL := fun ds mu Q => match ds with
  | [.tup es] => Q (.tup es) mu
  | [.lst es] => Q (.tup es) mu
  | _ => False
def rTuple1 (K : PySem.W.Frag) : List V → Hp → VK → Prop := fun xs H Q => ∃ p ys, xs = [.ref p] ∧ ((SqL K H p ys ∧ ∀ l, H l = none → Q (.ref l) (upd H l (.tup ys))) ∨ (SqT K H p ys ∧ Q (.ref p) H))
theorem L_tuple1 : LLr K (rTuple1 K) gTuple1 :=
  ⟨fun r x H a v mu Q m d h => by
    unfold gTuple1 at h
    split at h
    · simp only [DenL] at d
      obtain ⟨u, _, rfl, d1, rfl⟩ := d
      have d2 := d1
      simp only [Den] at d1
      obtain ⟨p, vs, rfl, la, l⟩ := d1
      exact ⟨p, vs, rfl, .inr ⟨la.sq, h.now m d2⟩⟩
    · simp only [DenL] at d
      obtain ⟨u, _, rfl, d1, rfl⟩ := d
      simp only [Den] at d1
      obtain ⟨p, vs, rfl, la, l⟩ := d1
      exact ⟨p, vs, rfl, .inl ⟨la.sq, new_tup m l h⟩⟩
    · exact h.elim, fun a mu Q Q' k h => by
    unfold gTuple1 at h ⊢
    split at h
    · exact k _ _ h
    · exact k _ _ h
    · exact h.elim⟩
/-- all, any of a list of bools -/
def boolsOf : List D → Option (List Bool)
  | [] => some []
  | .bl b :: r => (boolsOf r).map (b :: ·)
  | _ => none
theorem boolsOf_to {r x : List Addr} {H : Hp} : ∀ {ds : List D} {vs : List V} {bs : List Bool}, DenL K r x H ds vs → boolsOf ds = some bs → vs = bs.map V.bl
  | [], vs, bs, h, e => by
    simp only [DenL] at h
    cases e
    subst h
    rfl
  | d :: ds, vs, bs, h, e => by
    simp only [DenL] at h
    obtain ⟨v, vr, rfl, h1, h2⟩ := h
    cases d with
    | bl b =>
      simp only [boolsOf] at e
      cases q : boolsOf ds with
      | none =>
        rw [q] at e
        cases e
      | some z =>
        rw [q] at e
        cases e
        simp only [Den] at h1
        rw [h1, boolsOf_to h2 q]
        rfl
    | _ => cases e
def gBools (f : List Bool → Bool) : GL := fun ds mu Q => match ds with
  | [.lst es] => match boolsOf es with
    | some bs => Q (.bl (f bs)) mu
    | none => False
  | _ => False
theorem L_bools (f : List Bool → Bool) : LLr K (fun vs H Q => ∃ (a : Addr) (bs : List Bool), vs = [V.ref a] ∧ SqL K H a (bs.map V.bl) ∧ Q (.bl (f bs)) H) (gBools f) :=
  ⟨fun r x H a v mu Q m d h => by
    unfold gBools at h
    split at h
    · split at h
      · rename_i bs e
        simp only [DenL] at d
        obtain ⟨u, _, rfl, d1, rfl⟩ := d
        simp only [Den] at d1
        obtain ⟨p, vs, rfl, la, l⟩ := d1
        exact ⟨p, bs, rfl, by rw [← boolsOf_to l e]; exact la.sq, h.now m rfl⟩
      · exact h.elim
    · exact h.elim, fun a mu Q Q' k h => by
    unfold gBools at h ⊢
    split at h
    · split at h
      · exact k _ _ h
      · exact h.elim
    · exact h.elim⟩
def gAllB : GL := gBools fun bs => bs.all id
def gAny : GL := gBools fun bs => bs.any id
theorem L_all : LLr K (rAll K) gAllB := L_bools _
theorem L_any : LLr K (rAny K) gAny := L_bools _
/-- isinstance with built-in classes -/
inductive Kd where
  | non | bl | int | str | tup | lst | dct
  deriving DecidableEq
def Kd.nm : Kd → String
  | .non => "NoneType" | .bl => "bool" | .int => "int" | .str => "str" | .tup => "tuple" | .lst => "list" | .dct => "dict"
def kdOf (n : String) : Option Kd :=
  if n = "int" then some .int else if n = "bool" then some .bl else if n = "str" then some .str else if n = "list" then some .lst else if n = "tuple" then some .tup else if n = "dict" then some .dct else none
theorem kdOf_nm {n : String} {k : Kd} (h : kdOf n = some k) : n = k.nm := by
  unfold kdOf at h
  split at h
  · rename_i e; cases h; exact e
  split at h
  · rename_i e; cases h; exact e
  split at h
  · rename_i e; cases h; exact e
  split at h
  · rename_i e; cases h; exact e
  split at h
  · rename_i e; cases h; exact e
  split at h
  · rename_i e; cases h; exact e
  · cases h
def isK (a b : Kd) : Bool := match a, b with
  | .bl, .int => true
  | a, b => decide (a = b)
theorem isK_kit (a b : Kd) (hb : b ≠ .non) : kitB a.nm b.nm = some (isK a b) := by
  cases a <;> cases b <;> first | exact absurd rfl hb | decide +kernel
def kdD (mu : Mu) : D → Option Kd
  | .non => some .non
  | .bl _ => some .bl
  | .int _ => some .int
  | .str _ => some .str
  | .tup _ => some .tup
  | .lst _ => some .lst
  | .dct _ _ => some .dct
  | .mu k => (lsAt mu k).map fun _ => .lst
  | _ => none
theorem kdD_to {r x : List Addr} {H : Hp} {mu : Mu} {d : D} {v : V} {k : Kd} (m : MRep K r x H mu) (h : Den K r x H d v) (e : kdD mu d = some k) : TyX K H v (.type k.nm) := by
  cases d with
  | non => cases e; simp only [Den] at h; subst h; exact .base .non
  | bl b => cases e; simp only [Den] at h; subst h; exact .base (.bl b)
  | int i => cases e; simp only [Den] at h; subst h; exact .base (.int i)
  | str z => cases e; simp only [Den] at h; subst h; exact .base (.str z)
  | tup ds =>
    cases e
    simp only [Den] at h
    obtain ⟨a, vs, rfl, t, l⟩ := h
    rcases t with t | ⟨o, its, n, e1, e2, _⟩
    · exact .base (.tup t.2.2)
    · exact .kTuple e1 e2
  | lst ds =>
    cases e
    simp only [Den] at h
    obtain ⟨a, vs, rfl, t, l⟩ := h
    exact .base (.lst t.2.2)
  | dct ks ds =>
    cases e
    simp only [Den] at h
    obtain ⟨a, vs, rfl, _, _, t, _⟩ := h
    exact .base (.dK t)
  | mu k =>
    simp only [kdD] at e
    cases q : lsAt mu k with
    | none =>
      rw [q] at e
      cases e
    | some ds =>
      rw [q] at e
      cases e
      obtain ⟨p, xs, rfl, _, hp, l⟩ := lsAt_to m h q
      exact .base (.lst hp)
  | _ => cases e
def kdsOf : List D → Option (List Kd)
  | [] => some []
  | .ty n :: r => match kdOf n, kdsOf r with
    | some k, some ks => some (k :: ks)
    | _, _ => none
  | _ => none
theorem kdOf_ne {n : String} {k : Kd} (h : kdOf n = some k) : k ≠ .non := by
  unfold kdOf at h
  intro e
  subst e
  revert h
  repeat (split; · intro h; cases h)
  intro h; cases h
theorem kdsOf_to {r x : List Addr} {H : Hp} {t : Kd} : ∀ {ds : List D} {vs : List V} {ks : List Kd}, DenL K r x H ds vs → kdsOf ds = some ks → ∃ us, Paired ClsV vs us ∧ PySem.W.kitAny K (.type t.nm) us = some (ks.any (isK t))
  | [], vs, ks, h, e => by
    simp only [DenL] at h
    cases e
    subst h
    exact ⟨[], .nil, kitAny_nil⟩
  | d :: ds, vs, ks, h, e => by
    simp only [DenL] at h
    obtain ⟨v, vr, rfl, h1, h2⟩ := h
    cases d with
    | ty n =>
      simp only [kdsOf] at e
      cases q1 : kdOf n with
      | none =>
        rw [q1] at e
        cases e
      | some k =>
        cases q2 : kdsOf ds with
        | none =>
          rw [q1, q2] at e
          cases e
        | some kr =>
          rw [q1, q2] at e
          cases e
          simp only [Den] at h1
          subst h1
          obtain ⟨us, p, z⟩ := kdsOf_to h2 q2
          have en := kdOf_nm q1
          have kt : PySem.W.kitOne K (.type t.nm) (.type n) = some (isK t k) := by
            rw [en]
            exact kit_ty (isK_kit t k (kdOf_ne q1))
          refine ⟨.type n :: us, .cons (.ty n) p, kitAny_cons kt (fun e => ?_) (fun e => ?_)⟩
          · rw [z, List.any_cons, e, Bool.false_or]
          · rw [List.any_cons, e, Bool.true_or]
    | _ => cases e
def gIsi : GL := fun ds mu Q => match ds with
  | [a, .ty n] => match kdD mu a, kdOf n with
    | some k, some k' => Q (.bl (isK k k')) mu
    | _, _ => False
  | [a, .tup ts] => match kdD mu a, kdsOf ts with
    | some k, some ks => Q (.bl (ks.any (isK k))) mu
    | _, _ => False
  | _ => False
def rIsiA (K : PySem.W.Frag) : List V → Hp → VK → Prop := fun xs H Q => rIsi K xs H Q ∨ (rIsiT K xs H Q ∨ rIsiK K xs H Q)
theorem call_isiA {X : Cx} : CallR X (.builtin "isinstance") (rIsiA X.K) := callOr call_isi (callOr call_isiT call_isiK)
theorem cls_rel : ∀ {vs : List V} {us ws : List Value}, Paired ClsV vs us → Vals vs ws → ws = us := fun p v => ClsV.all p v
theorem L_isi : LLr K (rIsiA K) gIsi :=
  ⟨fun r x H a v mu Q m d h => by
    unfold gIsi at h
    split at h
    · split at h
      · rename_i k k' e1 e2
        simp only [DenL, Den] at d
        obtain ⟨u, _, rfl, d1, w, _, rfl, rfl, rfl⟩ := d
        have en := kdOf_nm e2
        refine .inl ⟨u, _, _, _, _, rfl, .ty _, kdD_to m d1 e1, ?_, h.now m rfl⟩
        rw [en]
        exact kit_ty (isK_kit _ _ (kdOf_ne e2))
      · exact h.elim
    · split at h
      · rename_i k ks e1 e2
        simp only [DenL, Den] at d
        obtain ⟨u, _, rfl, d1, w, _, rfl, ⟨p, ws, rfl, t, l⟩, rfl⟩ := d
        obtain ⟨us, pc, z⟩ := kdsOf_to (t := k) l e2
        rcases t with t | ⟨o, its, n, t1, t2, t3, t4, t5⟩
        · exact .inr (.inl ⟨u, p, ws, _, us, _, rfl, t.2.2, pc, kdD_to m d1 e1, z, h.now m rfl⟩)
        · have eu := cls_rel pc t5
          obtain ⟨oc, od, odt, osl⟩ := o
          simp only at t2 t3
          subst t2
          subst t3
          refine .inr (.inr ⟨u, p, od, its.toList, n, osl, _, _, rfl, ?_, kdD_to m d1 e1, by rw [eu]; exact z, h.now m rfl⟩)
          rw [t1]
      · exact h.elim
    · exact h.elim, fun a mu Q Q' k h => by
    unfold gIsi at h ⊢
    split at h
    · split at h
      · exact k _ _ h
      · exact h.elim
    · split at h
      · exact k _ _ h
      · exact h.elim
    · exact h.elim⟩
end
end DL

namespace DL
open PySem PySem.Spec PyProof.Rows L2

/-! ### slices -/
abbrev OT := Sl → Mu → (Option Int → Mu → Prop) → Prop
def lO (K : PySem.W.Frag) (T : OT) : TO := fun σ H Q => ∃ r x sl mu, Rep K r x H σ sl mu ∧ T sl mu fun o mu' => ∀ r' H', Ext r r' H H' → MRep K r' x H' mu' → Q o H'
structure DO (X : Cx) (e : Option Expr) (T : OT) : Prop where
  po : PO X e (lO X.K T)
  mo : ∀ sl mu (Q Q' : Option Int → Mu → Prop), (∀ d m, Q d m → Q' d m) → T sl mu Q → T sl mu Q'
def dNoPart : OT := fun _ mu Q => Q none mu
def dPart (T : ET) : OT := fun sl mu Q => T sl mu fun d m => match d with
  | .int i => Q (some i) m
  | _ => False
abbrev GS := D → Option Int → Option Int → Mu → (D → Mu → Prop) → Prop
def dSl (g : GS) (T : ET) (L U : OT) : ET := fun sl mu Q => T sl mu fun d m1 => L sl m1 fun lo m2 => U sl m2 fun hi m3 => g d lo hi m3 Q
section
variable {X : Cx} {e : Expr} {lo hi : Option Expr} {T : ET} {L U : OT} {pos p2 : Pos}
theorem poMono {t t' : TO} (h : PO X lo t) (f : ∀ σ H Q, t' σ H Q → t σ H Q) : PO X lo t' := ⟨fun pins s σ H Q I q => h.run pins s σ H Q I (f σ H Q q)⟩
theorem do_none : DO X none dNoPart := ⟨poMono po_none fun σ H Q ⟨r, x, sl, mu, R, q⟩ => q r H (Ext.refl _ _) R.mu, fun _ _ _ _ f q => f _ _ q⟩
theorem do_some (h : DE X e T) : DO X (some e) (dPart T) :=
  ⟨poMono (po_some h.pe) fun σ H Q ⟨r, x, sl, mu, R, q⟩ => ⟨r, x, sl, mu, R, h.mo _ _ _ _ (fun d m q1 r1 H1 v e1 m1 d1 => by
    cases d with
    | int i =>
      simp only [Den] at d1
      exact ⟨i, d1, q1 r1 H1 e1 m1⟩
    | _ => exact q1.elim) q⟩, fun sl mu Q Q' f q => h.mo _ _ _ _ (fun d m q => by
      cases d <;> first | exact f _ _ q | exact q) q⟩
structure LSr (K : PySem.W.Frag) (rs : V → Option Int → Option Int → Hp → VK → Prop) (g : GS) : Prop where
  to : ∀ (r x : List Addr) (H : Hp) (a : D) (v : V) (lo hi : Option Int) (mu : Mu) (Q : VK), MRep K r x H mu → Den K r x H a v → g a lo hi mu (Qd K r x H Q) → rs v lo hi H Q
  mo : ∀ a lo hi, MoG (g a lo hi)
theorem de_slice {rs : V → Option Int → Option Int → Hp → VK → Prop} {g : GS} (hr : SlR X rs) (S : LSr X.K rs g) (he : DE X e T) (hl : DO X lo L) (hu : DO X hi U) : DE X (.Subscript e (.Slice lo hi none p2) pos) (dSl g T L U) := by
  refine ⟨peMono (pe_slice hr he.pe hl.po hu.po) fun σ H Q ⟨r, x, sl, mu, R, q⟩ => ⟨r, x, sl, mu, R, he.mo _ _ _ _ (fun d m q1 r1 H1 v e1 m1 d1 => ?_) q⟩, fun sl mu Q Q' f q => he.mo _ _ _ _ (fun d m q => hl.mo _ _ _ _ (fun o m q => hu.mo _ _ _ _ (fun o m q => S.mo _ _ _ _ _ _ f q) q) q) q⟩
  refine ⟨r1, x, sl, m, R.ext e1 m1, hl.mo _ _ _ _ (fun o m2 q2 r2 H2 e2 m2' => ?_) q1⟩
  refine ⟨r2, x, sl, m2, R.ext (e1.trans e2) m2', hu.mo _ _ _ _ (fun o' m3 q3 r3 H3 e3 m3' => ?_) q2⟩
  exact S.to _ _ _ _ _ _ _ _ _ m3' (Den.ext (e2.trans e3) _ _ d1) (S.mo _ _ _ _ _ _ (fun _ _ => Qd.ext ((e1.trans e2).trans e3)) q3)
end
def cutD (xs : List D) (lo hi : Option Int) : List D := (xs.drop (HT.sIx xs.length 0 lo)).take (HT.sIx xs.length xs.length hi - HT.sIx xs.length 0 lo)
def gSl : GS := fun d lo hi mu Q => match d with
  | .str z => z.length ≤ sizeLine ∧ Q (.str (cutS z lo hi)) mu
  | .tup ds => Q (.tup (cutD ds lo hi)) mu
  | .lst ds => Q (.lst (cutD ds lo hi)) mu
  | .fls ds => Q (.lst (cutD ds lo hi)) mu
  | .mu k => match lsAt mu k with
    | some ds => Q (.lst (cutD ds lo hi)) mu
    | none => False
  | _ => False
section
variable {K : PySem.W.Frag}
theorem cut_den {r x : List Addr} {H : Hp} {ds : List D} {vs : List V} (l : DenL K r x H ds vs) (lo hi : Option Int) : DenL K r x H (cutD ds lo hi) (cutV vs lo hi) := by
  unfold cutD cutV
  rw [l.length]
  exact (l.drop _).take _
def rSlAll (K : PySem.W.Frag) : V → Option Int → Option Int → Hp → VK → Prop := fun x lo hi H Q => rSlS x lo hi H Q ∨ (rSlA K x lo hi H Q ∨ rSlL K x lo hi H Q)
theorem sl_all {X : Cx} : SlR X (rSlAll X.K) := sl_str.or (sl_tupA.or sl_list)
theorem cut_whole {ds : List D} {lo hi : Option Int} (h : HT.sIx ds.length 0 lo = 0 ∧ HT.sIx ds.length ds.length hi = ds.length) : cutD ds lo hi = ds := by
  unfold cutD
  rw [h.1, h.2]
  simp
theorem L_sl : LSr K (rSlAll K) gSl :=
  ⟨fun r x H a v lo hi mu Q m d h => by
    unfold gSl at h
    split at h
    · simp only [Den] at d
      exact .inl ⟨_, d, h.1, h.2.now m rfl⟩
    · rename_i ds
      have d2 := d
      simp only [Den] at d
      obtain ⟨p, vs, rfl, t, l⟩ := d
      refine .inr (.inl ⟨p, vs, rfl, t.sq, fun e => ?_, fun _ => new_tup m (cut_den l lo hi) h⟩)
      rw [← l.length] at e
      rw [cut_whole e] at h
      exact h.now m d2
    · simp only [Den] at d
      obtain ⟨p, vs, rfl, t, l⟩ := d
      exact .inr (.inr ⟨p, vs, rfl, t.sq, new_lst m (cut_den l lo hi) h⟩)
    · simp only [Den] at d
      obtain ⟨p, vs, rfl, t, l⟩ := d
      exact .inr (.inr ⟨p, vs, rfl, t.sq, new_lst m (cut_den l lo hi) h⟩)
    · split at h
      · rename_i ds e
        obtain ⟨p, vs, rfl, _, hp, l⟩ := lsAt_to m d e
        exact .inr (.inr ⟨p, vs, rfl, SqL.of hp, new_lst m (cut_den l lo hi) h⟩)
      · exact h.elim
    · exact h.elim, fun a lo hi mu Q Q' k h => by
    unfold gSl at h ⊢
    split at h
    · exact ⟨h.1, k _ _ h.2⟩
    · exact k _ _ h
    · exact k _ _ h
    · exact k _ _ h
    · split at h
      · exact k _ _ h
      · exact h.elim
    · exact h.elim⟩
/-! ### * ** // % -/
def gMul : G2 := fun a b mu Q => match a, b with
  | .int i, .int j => CMul i j ∧ Q (.int (i * j)) mu
  | .lst xs, .int k => (-(2 ^ 63) ≤ k ∧ k < 2 ^ 63 ∧ xs.length * k.toNat ≤ sizeLine) ∧ Q (.lst (List.replicate k.toNat xs).flatten) mu
  | _, _ => False
def rMulA : R2 := fun x y H Q => (rI CMul fun i j => .int (i * j)) x y H Q ∨ rRep x y H Q
theorem op_mulA {X : Cx} : OpR X (binaryOp .Mult) rMulA := op_mul.or op_rep
theorem denL_rep {r x : List Addr} {H : Hp} {ds : List D} {vs : List V} (l : DenL K r x H ds vs) : ∀ n, DenL K r x H (List.replicate n ds).flatten (List.replicate n vs).flatten
  | 0 => rfl
  | n + 1 => by
    rw [List.replicate_succ, List.replicate_succ, List.flatten_cons, List.flatten_cons]
    exact l.append (denL_rep l n)
theorem L_mul : L2r K rMulA gMul :=
  ⟨fun r x H a b v w mu Q m da db h => by
    unfold gMul at h
    split at h
    · simp only [Den] at da db
      exact .inl ⟨_, _, da, db, h.1, h.2.now m rfl⟩
    · simp only [Den] at da db
      obtain ⟨p, vs, rfl, la, l⟩ := da
      exact .inr ⟨p, _, vs, rfl, db, la.2.2, h.1.1, h.1.2.1, by rw [← l.length]; exact h.1.2.2, new_lst m (denL_rep l _) h.2⟩
    · exact h.elim, fun a b mu Q Q' k h => by
    unfold gMul at h ⊢
    split at h
    · exact ⟨h.1, k _ _ h.2⟩
    · exact ⟨h.1, k _ _ h.2⟩
    · exact h.elim⟩
def cPos (i j : Int) : Prop := 0 < j
abbrev gPow : G2 := gI2 CPow fun i j => .int (i ^ j.toNat)
abbrev gFdiv : G2 := gI2 CDiv fun i j => .int (i / j)
abbrev gMod : G2 := gI2 cPos fun i j => .int (i % j)
abbrev gSub : G2 := gI2 cTrue fun i j => .int (i - j)
abbrev gLt : G2 := gI2 cTrue fun i j => .bl (decide (i < j))
abbrev gLe : G2 := gI2 cTrue fun i j => .bl (decide (i ≤ j))
abbrev gGt : G2 := gI2 cTrue fun i j => .bl (decide (j < i))
abbrev gGe : G2 := gI2 cTrue fun i j => .bl (decide (j ≤ i))
theorem L_pow : L2r K (rI CPow fun i j => .int (i ^ j.toNat)) gPow := L_I
theorem L_fdiv : L2r K (rI CDiv fun i j => .int (i / j)) gFdiv := L_I
theorem L_mod : L2r K (rI (fun _ j => 0 < j) fun i j => .int (i % j)) gMod := L_I
theorem L_sub : L2r K (rI0 fun i j => .int (i - j)) gSub := L_I0
theorem L_lt : L2r K (rI0 fun i j => .bl (decide (i < j))) gLt := L_IB
theorem L_le : L2r K (rI0 fun i j => .bl (decide (i ≤ j))) gLe := L_IB
theorem L_gt : L2r K (rI0 fun i j => .bl (decide (j < i))) gGt := L_IB
theorem L_ge : L2r K (rI0 fun i j => .bl (decide (j ≤ i))) gGe := L_IB
def gNeg : G1 := fun a mu Q => match a with
  | .int i => Q (.int (-i)) mu
  | _ => False
theorem L_neg : L1r K (rU fun i => .int (-i)) gNeg :=
  ⟨fun r x H a v mu Q m d h => by
    unfold gNeg at h
    split at h
    · simp only [Den] at d
      exact ⟨_, d, h.now m rfl⟩
    · exact h.elim, fun a mu Q Q' k h => by
    unfold gNeg at h ⊢
    split at h
    · exact k _ _ h
    · exact h.elim⟩
end
/-! ### o[i] = e, for a list of the store -/
def sSetIx (Te To Ti : ET) : SB := fun E sl mu => Te sl mu fun d m1 => To sl m1 fun o m2 => Ti sl m2 fun i m3 => match o, i with
  | .mu k, .int j => match lsAt m3 k with
    | some ds => match ixN ds.length j with
      | some n => E.nx sl (m3.set k (.lst (ds.set n d)))
      | none => False
    | none => False
  | _, _ => False
section
variable {X : Cx} {o i e : Expr} {Te To Ti : ET} {pos pos' : Pos}
theorem ds_setIx (he : DE X e Te) (ho : DE X o To) (hi : DE X i Ti)
    (ha : ∀ v, assign (.Subscript o i pos') X.env v = (do
      let ov ← holding [v] (eval o X.env)
      let iv ← holding [v, ov] (eval i X.env)
      standAt pos'
      holding [v, ov, iv] (setItem ov iv v)
      release [v, ov, iv] []) := by intro _; rfl)
    (hs : swapsWithSole [.Subscript o i pos'] e pos.line X.env = pure false := by rfl) (hw : swappedStores [.Subscript o i pos'] e X.env = pure none := by rfl)
    (h1 : (assignEach [.Subscript o i pos'] X.env).map (·.2) = [assign (.Subscript o i pos') X.env] := by rfl) : DS X (.Assign [.Subscript o i pos'] e pos) (sSetIx Te To Ti) := by
  refine ⟨psMono (ps_asg he.pe (pg_sub ho.pe hi.pe set_list ha) hs hw h1) fun E σ H ⟨r, x, sl, mu, R, q⟩ => ⟨r, x, sl, mu, R, he.mo _ _ _ _ (fun d m q1 r1 H1 v e1 m1 d1 => ?_) q⟩, fun sl mu A B f q => he.mo _ _ _ _ (fun d m q => ho.mo _ _ _ _ (fun o m q => hi.mo _ _ _ _ (fun i m q => ?_) q) q) q⟩
  · refine ⟨r1, x, sl, m, R.ext e1 m1, ho.mo _ _ _ _ (fun o m2 q2 r2 H2 w e2 m2' d2 => ?_) q1⟩
    refine ⟨r2, x, sl, m2, R.ext (e1.trans e2) m2', hi.mo _ _ _ _ (fun i m3 q3 r3 H3 u e3 m3' d3 => ?_) q2⟩
    split at q3
    · split at q3
      · rename_i k j _ ds el
        split at q3
        · rename_i n en
          simp only [Den] at d3
          obtain ⟨p, xs, rfl, hk, hp, l⟩ := lsAt_to m3' (Den.ext e3 _ _ d2) el
          refine ⟨p, xs, j, n, rfl, d3, hp, by rw [← l.length]; exact en, ?_⟩
          have hm : p ∈ r3 := List.mem_of_getElem? hk
          have e4 : Ext r3 r3 H3 (upd H3 p (.lst (xs.set n v))) := Ext.set hm
          have m4 : MRep X.K r3 x (upd H3 p (.lst (xs.set n v))) (m3.set k (.lst (ds.set n d))) :=
            m3'.set hk ⟨_, upd_same, DenL.ext e4 _ _ (l.set n (Den.ext (e2.trans e3) _ _ d1))⟩
          exact q3 r3 _ σ (((e1.trans e2).trans e3).trans e4) (R.ext (((e1.trans e2).trans e3).trans e4) m4)
        · exact q3.elim
      · exact q3.elim
    · exact q3.elim
  · split at q
    · split at q
      · split at q
        · exact f.nx _ _ q
        · exact q.elim
      · exact q.elim
    · exact q.elim
end
/-! ### methods of built-in things -/
abbrev GM := D → List D → Mu → (D → Mu → Prop) → Prop
def tyD (T : String) (mu : Mu) : D → Bool
  | .str _ => T == "str"
  | .lst _ => T == "list"
  | .fls _ => T == "list"
  | .mu k => T == "list" && (lsAt mu k).isSome
  | .dct _ _ => T == "dict"
  | _ => false
def dMt (T : String) (g : GM) (To : ET) (Ta : AT) : ET := fun sl mu Q => To sl mu fun d m1 => tyD T m1 d = true ∧ Ta sl m1 fun ds m2 => g d ds m2 Q
structure LMr (K : PySem.W.Frag) (rm : V → List V → Hp → VK → Prop) (g : GM) : Prop where
  to : ∀ (r x : List Addr) (H : Hp) (a : D) (v : V) (ds : List D) (vs : List V) (mu : Mu) (Q : VK), MRep K r x H mu → Den K r x H a v → DenL K r x H ds vs → g a ds mu (Qd K r x H Q) → rm v vs H Q
  mo : ∀ a ds, MoG (g a ds)
section
variable {X : Cx} {o e : Expr} {es : List Expr} {To : ET} {Ta : AT} {name : Str} {apos cpos : Pos} {T id : String} {rm : V → List V → Hp → VK → Prop} {g : GM}
theorem tyD_to {K : PySem.W.Frag} {r x : List Addr} {H : Hp} {mu : Mu} {d : D} {v : V} (m : MRep K r x H mu) (h : Den K r x H d v) (e : tyD T mu d = true) : tyV K T v H := by
  cases d with
  | str z => simp only [Den] at h; subst h; exact (show T = "str" by simpa [tyD] using e)
  | lst ds =>
    simp only [Den] at h
    obtain ⟨a, vs, rfl, t, l⟩ := h
    exact .inl ⟨by simpa [tyD] using e, vs, t.sq⟩
  | fls ds =>
    simp only [Den] at h
    obtain ⟨a, vs, rfl, t, l⟩ := h
    exact .inl ⟨by simpa [tyD] using e, vs, t.sq⟩
  | mu k =>
    simp only [tyD, Bool.and_eq_true] at e
    cases q : lsAt mu k with
    | none =>
      rw [q] at e
      exact absurd e.2 (by simp)
    | some ds =>
      obtain ⟨p, xs, rfl, _, hp, l⟩ := lsAt_to m h q
      exact .inl ⟨by simpa using e.1, xs, SqL.of hp⟩
  | dct ks ds =>
    simp only [Den] at h
    obtain ⟨a, vs, rfl, _, _, t, _⟩ := h
    exact .inr (.inr (.inl ⟨by simpa [tyD] using e, .inl ⟨_, t⟩⟩))
  | _ => exact absurd e (by simp [tyD])
theorem de_bm (pa : PlainAttrs T) (slot : Slot T name id) (hty : typeOf (.builtin id) = pure (.type "method_descriptor")) (hm : MtR X id rm) (L : LMr X.K rm g) (ho : DE X o To) (ha : DA X (e :: es) Ta)
    (hbase : attributeBase o name X.env (eval o X.env) = eval o X.env := by rfl)
    (hfew : ((backTo cpos (starEach (e :: es) X.env)).all (fun x => !x.1) && (backToKw cpos (keywordEach [] X.env)).all (fun x => x.1.isSome)
      && decide ((e :: es).length + ([] : List Keyword).length + (if ([] : List Keyword).isEmpty then 0 else 1) < 30)) = true := by rfl)
    (hline : (apos.endLine == cpos.line) = true := by rfl) (hs : starEach (e :: es) X.env = (false, eval e X.env) :: starEach es X.env := by rfl) (hplain : (backTo cpos (starEach es X.env)).any (·.1) = false := by rfl) :
    DE X (.Call (.Attribute o name apos) (e :: es) [] cpos) (dMt T g To Ta) := by
  refine ⟨peMono (pe_bm pa slot hty hm ho.pe ha.pa hbase hfew hline hs hplain) fun σ H Q ⟨r, x, sl, mu, R, q⟩ => ⟨r, x, sl, mu, R, ho.mo _ _ _ _ (fun d m q1 r1 H1 v e1 m1 d1 => ⟨tyD_to m1 d1 q1.1, ?_⟩) q⟩, fun sl mu Q Q' f q => ho.mo _ _ _ _ (fun d m q => ⟨q.1, ha.mo _ _ _ _ (fun ds m q => L.mo _ _ _ _ _ f q) q.2⟩) q⟩
  refine ⟨r1, x, sl, m, R.ext e1 m1, ha.mo _ _ _ _ (fun ds m2 q2 r2 H2 vs e2 m2' d2 => ?_) q1.2⟩
  exact L.to _ _ _ _ _ _ _ _ _ m2' (Den.ext e2 _ _ d1) d2 (L.mo _ _ _ _ _ (fun _ _ => Qd.ext (e1.trans e2)) q2)
theorem de_bm0 (pa : PlainAttrs T) (slot : Slot T name id) (hty : typeOf (.builtin id) = pure (.type "method_descriptor")) (hm : MtR X id rm) (L : LMr X.K rm g) (ho : DE X o To)
    (hbase : attributeBase o name X.env (eval o X.env) = eval o X.env := by rfl) (hline : (apos.endLine == cpos.line) = true := by rfl) : DE X (.Call (.Attribute o name apos) [] [] cpos) (dMt T g To dNil) :=
  ⟨peMono (pe_bm0 pa slot hty hm ho.pe hbase hline) fun σ H Q ⟨r, x, sl, mu, R, q⟩ => ⟨r, x, sl, mu, R, ho.mo _ _ _ _ (fun d m q1 r1 H1 v e1 m1 d1 => ⟨tyD_to m1 d1 q1.1, L.to _ _ _ _ _ [] [] _ _ m1 d1 rfl (L.mo _ _ _ _ _ (fun _ _ => Qd.ext e1) q1.2)⟩) q⟩,
    fun sl mu Q Q' f q => ho.mo _ _ _ _ (fun d m q => ⟨q.1, L.mo _ _ _ _ _ f q.2⟩) q⟩
/-- a list of the store, changed -/
def gChg (f : List D → List D → Option (List D)) : GM := fun d ds mu Q => match d with
  | .mu k => match lsAt mu k with
    | some xs => match f xs ds with
      | some ys => Q .non (mu.set k (.lst ys))
      | none => False
    | none => False
  | _ => False
theorem gChg_mo {f : List D → List D → Option (List D)} : ∀ a ds, MoG (gChg f a ds) := fun a ds mu Q Q' k h => by
  unfold gChg at h ⊢
  split at h
  · split at h
    · split at h
      · exact k _ _ h
      · exact h.elim
    · exact h.elim
  · exact h.elim
theorem chg_to {K : PySem.W.Frag} {f : List D → List D → Option (List D)} {r x : List Addr} {H : Hp} {a : D} {v : V} {ds : List D} {mu : Mu} {Q : VK} (m : MRep K r x H mu) (d : Den K r x H a v) (h : gChg f a ds mu (Qd K r x H Q)) :
    ∃ p xs vs ys, v = .ref p ∧ H p = some (.lst vs) ∧ DenL K r x H xs vs ∧ f xs ds = some ys ∧ ∀ ws, DenL K r x H ys ws → Q .non (upd H p (.lst ws)) := by
  unfold gChg at h
  split at h
  · split at h
    · rename_i k xs e
      split at h
      · rename_i ys ef
        obtain ⟨p, vs, rfl, hk, hp, l⟩ := lsAt_to m d e
        refine ⟨p, xs, vs, ys, rfl, hp, l, ef, fun ws lw => ?_⟩
        have hm : p ∈ r := List.mem_of_getElem? hk
        have e4 : Ext r r H (upd H p (.lst ws)) := Ext.set hm
        exact h r _ _ e4 (m.set hk ⟨ws, upd_same, DenL.ext e4 _ _ lw⟩) rfl
      · exact h.elim
    · exact h.elim
  · exact h.elim
def fAppend (xs ds : List D) : Option (List D) := match ds with
  | [d] => if xs.length < sizeLine then some (xs ++ [d]) else none
  | _ => none
def fInsert (xs ds : List D) : Option (List D) := match ds with
  | [.int i, d] => if xs.length < sizeLine ∧ 0 ≤ i ∧ i < 2 ^ 63 then some (xs.take i.toNat ++ [d] ++ xs.drop i.toNat) else none
  | _ => none
def fClear (xs ds : List D) : Option (List D) := match ds with
  | [] => some []
  | _ => none
theorem L_append {K : PySem.W.Frag} : LMr K rAppend (gChg fAppend) :=
  ⟨fun r x H a v ds vs mu Q m d dl h => by
    obtain ⟨p, xs, ws, ys, rfl, hp, l, ef, q⟩ := chg_to m d h
    unfold fAppend at ef
    split at ef
    · split at ef
      · rename_i hz
        cases ef
        simp only [DenL] at dl
        obtain ⟨u, _, rfl, d1, rfl⟩ := dl
        exact ⟨p, ws, u, rfl, rfl, hp, by rw [← l.length]; exact hz, q _ (l.append (DenL.one d1))⟩
      · cases ef
    · (cases ef)
    , gChg_mo⟩
theorem L_insert {K : PySem.W.Frag} : LMr K (fun x vs H Q => ∃ (l : Addr) (xs : List V) (i : Int) (y : V), x = .ref l ∧ vs = [.int i, y] ∧ H l = some (.lst xs) ∧ xs.length < sizeLine ∧ 0 ≤ i ∧ i < 2 ^ 63 ∧
    Q .non (upd H l (.lst (xs.take i.toNat ++ [y] ++ xs.drop i.toNat)))) (gChg fInsert) :=
  ⟨fun r x H a v ds vs mu Q m d dl h => by
    obtain ⟨p, xs, ws, ys, rfl, hp, l, ef, q⟩ := chg_to m d h
    unfold fInsert at ef
    split at ef
    · split at ef
      · rename_i hz
        cases ef
        simp only [DenL, Den] at dl
        obtain ⟨u, _, rfl, rfl, w, _, rfl, d1, rfl⟩ := dl
        exact ⟨p, ws, _, w, rfl, rfl, hp, by rw [← l.length]; exact hz.1, hz.2.1, hz.2.2, q _ (((l.take _).append (DenL.one d1)).append (l.drop _))⟩
      · cases ef
    · (cases ef)
    , gChg_mo⟩
theorem L_clear {K : PySem.W.Frag} : LMr K rClear (gChg fClear) :=
  ⟨fun r x H a v ds vs mu Q m d dl h => by
    obtain ⟨p, xs, ws, ys, rfl, hp, l, ef, q⟩ := chg_to m d h
    unfold fClear at ef
    split at ef
    · cases ef
      simp only [DenL] at dl
      subst dl
      exact ⟨p, ws, rfl, rfl, hp, q _ rfl⟩
    · (cases ef)
    , gChg_mo⟩
/-- text methods -/
def gTxt0 (C : Str → Prop) (f : Str → D) : GM := fun d ds mu Q => match d, ds with
  | .str a, [] => C a ∧ Q (f a) mu
  | _, _ => False
theorem L_txt0 {K : PySem.W.Frag} {C : Str → Prop} {f : Str → D} {fv : Str → V} (hf : ∀ K r x H a, Den K r x H (f a) (fv a)) : LMr K (fun x xs H Q => ∃ a, x = .str a ∧ xs = [] ∧ C a ∧ Q (fv a) H) (gTxt0 C f) :=
  ⟨fun r x H a v ds vs mu Q m d dl h => by
    unfold gTxt0 at h
    split at h
    · simp only [Den] at d
      simp only [DenL] at dl
      exact ⟨_, d, dl, h.1, h.2.now m (hf _ _ _ _ _)⟩
    · exact h.elim, fun a ds mu Q Q' k h => by
    unfold gTxt0 at h ⊢
    split at h
    · exact ⟨h.1, k _ _ h.2⟩
    · exact h.elim⟩
def cUp (a : Str) : Prop := a.length ≤ 5592405
def gUpper : GM := gTxt0 cUp fun a => .str (Txt.upper a)
theorem L_upper {K : PySem.W.Frag} : LMr K (fun x xs H Q => ∃ a, x = .str a ∧ xs = [] ∧ a.length ≤ 5592405 ∧ Q (.str (Txt.upper a)) H) gUpper := L_txt0 fun _ _ _ _ _ => rfl
def strsOf : List D → Option (List Str)
  | [] => some []
  | .str b :: r => (strsOf r).map (b :: ·)
  | _ => none
theorem strsOf_to {K : PySem.W.Frag} {r x : List Addr} {H : Hp} : ∀ {ds : List D} {vs : List V} {bs : List Str}, DenL K r x H ds vs → strsOf ds = some bs → vs = bs.map V.str
  | [], vs, bs, h, e => by
    simp only [DenL] at h
    cases e
    subst h
    rfl
  | d :: ds, vs, bs, h, e => by
    simp only [DenL] at h
    obtain ⟨v, vr, rfl, h1, h2⟩ := h
    cases d with
    | str b =>
      simp only [strsOf] at e
      cases q : strsOf ds with
      | none =>
        rw [q] at e
        cases e
      | some z =>
        rw [q] at e
        cases e
        simp only [Den] at h1
        rw [h1, strsOf_to h2 q]
        rfl
    | _ => cases e
def gJoin : GM := fun d ds mu Q => match d, ds with
  | .str a, [e] => match seqOf e with
    | some es => match strsOf es with
      | some ys => (ys.map (·.length)).sum + ys.length * a.length ≤ 16777216 ∧ Q (.str (Txt.join a ys)) mu
      | none => False
    | none => False
  | _, _ => False
def rJoin (K : PySem.W.Frag) : V → List V → Hp → VK → Prop := fun x xs H Q => ∃ a p, ∃ ys : List Str, x = .str a ∧ xs = [.ref p] ∧ (SqL K H p (ys.map V.str) ∨ SqT K H p (ys.map V.str)) ∧
    (ys.map (·.length)).sum + ys.length * a.length ≤ 16777216 ∧ Q (.str (Txt.join a ys)) H
theorem L_join {K : PySem.W.Frag} : LMr K (rJoin K) gJoin :=
  ⟨fun r x H a v ds vs mu Q m d dl h => by
    unfold gJoin at h
    split at h
    · simp only [Den] at d
      simp only [DenL] at dl
      obtain ⟨u, _, rfl, d1, rfl⟩ := dl
      split at h
      · rename_i es e1
        split at h
        · rename_i ys e2
          obtain ⟨p, xs, rfl, sq, l⟩ := seqOf_to d1 e1
          have ex := strsOf_to l e2
          subst ex
          exact ⟨_, p, ys, d, rfl, sq, h.1, h.2.now m rfl⟩
        · exact h.elim
      · exact h.elim
    · exact h.elim, fun a ds mu Q Q' k h => by
    unfold gJoin at h ⊢
    split at h
    · split at h
      · split at h
        · exact ⟨h.1, k _ _ h.2⟩
        · exact h.elim
      · exact h.elim
    · exact h.elim⟩
end
end DL

namespace DL
open PySem PySem.Spec PyProof.Rows L2

/-! ### a def of the module, ready to be called -/
structure Fn (P : Program) (w : World) (K : PySem.W.Frag) (mg : Str → Option Value) (base : Heap) (k : Nat) (x : Str) (ps : List Str) (F : DF) : Prop where
  ex : ∃ (f : Addr) (fd : FuncData), FnOk P w K mg base CX0 k f fd ps (spD K ps.length F) ∧ Binds K fd ps [] ∧ KBn K fd ps 0 ps (fun _ ws => ws) (fun _ zs => zs) ∧ PySem.W.keepIn K (.ref f) = true ∧ mg x = some (.ref f)
  mo : ∀ A : Around, Room k A → MoF F
section
variable {X : Cx} {y : Str} {p pos : Pos} {e : Expr} {es : List Expr} {T : AT} {F : DF} {k : Nat} {ps : List Str}
theorem dc_fn (G : Fn X.prog X.w X.K X.mg X.base k y ps F) (hr : Room k X.A) (hg : Gl X y) (ha : DA X (e :: es) T) (hn : (e :: es).length = ps.length := by rfl) (hdb : (y == ("__debug__" : Str)) = false := by decide)
    (he : starEach (e :: es) X.env = (false, eval e X.env) :: starEach es X.env := by rfl) (hpl : (backTo pos (starEach es X.env)).any (·.1) = false := by rfl) : DE X (.Call (.Name y p) (e :: es) [] pos) (dCall F [] T) := by
  obtain ⟨f, fd, g, b, _, kp, m⟩ := G.ex
  exact de_call g (G.mo _ hr) hr hg m kp b .nil ha hdNil hn hdb he hpl
theorem dc_fn0 (G : Fn X.prog X.w X.K X.mg X.base k y [] F) (hr : Room k X.A) (hg : Gl X y) (hdb : (y == ("__debug__" : Str)) = false := by decide) : DE X (.Call (.Name y p) [] [] pos) (dCall F [] dNil) := by
  obtain ⟨f, fd, g, b, _, kp, m⟩ := G.ex
  exact de_call0 g (G.mo _ hr) hr hg m kp b .nil hdNil rfl hdb
/-- f(a = e, ..) with all names in order -/
structure DK (X : Cx) (es : List Keyword) (T : AT) : Prop where
  pk : PK X es (lA X.K T)
  mo : MoA T
  len : ∀ sl mu Q, T sl mu Q → T sl mu fun ds m => ds.length = es.length ∧ Q ds m
theorem pkMono {e : List Keyword} {t t' : TA} (h : PK X e t) (f : ∀ σ H Q, t' σ H Q → t σ H Q) : PK X e t' := ⟨fun pos pins s σ H Q I q => h.run pos pins s σ H Q I (f σ H Q q)⟩
theorem dk_nil : DK X [] dNil := ⟨pkMono pk_nil fun σ H Q ⟨r, x, sl, mu, Rp, q⟩ => q r H [] (Ext.refl _ _) Rp.mu rfl, fun _ _ _ _ f h => f _ _ h, fun _ _ _ h => ⟨rfl, h⟩⟩
theorem dk_cons {nm : Option Str} {kpos : Pos} {kws : List Keyword} {Te : ET} {Tr : AT} (ha : DE X e Te) (hr : DK X kws Tr) : DK X (⟨nm, e, kpos⟩ :: kws) (dCons Te Tr) := by
  refine ⟨pkMono (pk_cons ha.pe hr.pk) fun σ H Q ⟨r, x, sl, mu, Rp, q⟩ => ?_, fun sl mu Q Q' f h => ha.mo _ _ _ _ (fun d m q => hr.mo _ _ _ _ (fun d' m' q' => f _ _ q') q) h, fun sl mu Q h => ha.mo _ _ _ _ (fun d m q => hr.mo _ _ _ _ (fun d' m' q' => ⟨by simp [q'.1], q'.2⟩) (hr.len _ _ _ q)) h⟩
  refine ⟨r, x, sl, mu, Rp, ha.mo _ _ _ _ (fun d m q1 r1 H1 v e1 m1 d1 => ?_) q⟩
  refine ⟨r1, x, sl, m, Rp.ext e1 m1, hr.mo _ _ _ _ (fun ds m' q2 r2 H2 vs e2 m2 d2 => ?_) q1⟩
  exact q2 r2 H2 (v :: vs) (e1.trans e2) m2 ⟨v, vs, rfl, Den.ext e2 _ _ d1, d2⟩
theorem pe_callN0 {CX : CXT} {f : Addr} {fd : FuncData} {ks : List Str} {sp : Sp} {E : XK} {x : Str} {kws : List Keyword} {tk : TA} {g : List Value → List Value → List Value} {gV : List V → List V → List V} (F : FnOk X.prog X.w X.K X.mg X.base CX k f fd ps sp) (hr : Room k X.A) (hg : Gl X x) (hm : X.mg x = some (.ref f)) (hk : PySem.W.keepIn X.K (.ref f) = true) (hb : KBn X.K fd ps 0 ks g gV) (hx : Passes CX X E) (hkw : PK X kws tk)
    (hall : (backToKw pos (keywordEach kws X.env)).all (·.1.isSome) = true := by rfl) (hks : (backToKw pos (keywordEach kws X.env)).filterMap (·.1) = ks := by rfl) (hdb : (x == ("__debug__" : Str)) = false := by decide)
    (hpl : ((backTo pos (starEach [] X.env)).any (·.1) || (backToKw pos (keywordEach kws X.env)).any (·.1.isNone)) = false := by rfl) :
    PE X (.Call (.Name x p) [] kws pos) (fun σ H Q => tk σ H fun zs H2 => zs.length = ks.length ∧ sp (gV [] zs) H2 Q E) := by
  refine ⟨fun pins s σ H Q I h => ?_⟩
  refine wpAny_Call_Name_kw (ld_glob I hg hm ?_ hdb)
  refine PySem.W.callWith_KW0 (h₀ := X.base) I.ok.mod.kin hk hall ?_ hpl
  refine thn (hkw.run pos pins s σ H _ I h) fun ws s2 ⟨zs, H2, I2, rz, l2, q2⟩ => ⟨I2.kIn, ?_⟩
  rw [hks]
  exact run_fnN (us := []) (vs := []) F hr hb hx I2 .nil rz rfl l2 q2
theorem dc_fnK {kws : List Keyword} {Tk : AT} (G : Fn X.prog X.w X.K X.mg X.base k y ps F) (hr : Room k X.A) (hg : Gl X y) (hkw : DK X kws Tk) (hn : kws.length = ps.length := by rfl)
    (hall : (backToKw pos (keywordEach kws X.env)).all (·.1.isSome) = true := by rfl) (hks : (backToKw pos (keywordEach kws X.env)).filterMap (·.1) = ps := by rfl) (hdb : (y == ("__debug__" : Str)) = false := by decide)
    (hpl : ((backTo pos (starEach [] X.env)).any (·.1) || (backToKw pos (keywordEach kws X.env)).any (·.1.isNone)) = false := by rfl) :
    DE X (.Call (.Name y p) [] kws pos) (dCall F [] Tk) := by
  obtain ⟨f, fd, g, _, b, kp, m⟩ := G.ex
  refine ⟨peMono (pe_callN0 g hr hg m kp b pass0 hkw.pk hall hks hdb hpl) fun σ H Q ⟨r, x, sl, mu, R, q⟩ => ⟨r, x, sl, mu, R, hkw.mo _ _ _ _ (fun ds m q1 r1 H1 vs e1 m1 d1 => ?_) (hkw.len _ _ _ q)⟩, fun sl mu Q Q' f q => hkw.mo _ _ _ _ (fun ds m q => G.mo _ hr _ _ _ _ f q) q⟩
  have l1 := d1.length
  have z : vs.length = ps.length := by rw [← l1, q1.1, hn]
  refine ⟨z, z, r1, x, m, ds ++ [], by rw [List.append_nil]; exact d1, m1, G.mo _ hr _ _ _ _ (fun _ _ => Qd.ext e1) q1.2⟩
end
section
variable {P : Program} {w : World} {K : PySem.W.Frag} {mg : Str → Option Value} {base : Heap}
abbrev FnP (K : PySem.W.Frag) (x : Str) (st : Stmt) (f : Addr) (fd : FuncData) : Prop := FunD K x x (defArgs st) (defBody st) (defScope st) [] [] f fd
theorem fn_okD {x qual : Str} {params : Arguments} {body : List Stmt} {scope : Scope} {dvs : List V} {kws : List (Str × V)} {f : Addr} {fd : FuncData} {N ps : List Str} {k : Nat} {T : SB} (F : FunD K x qual params body scope dvs kws f fd) (S : FnScope N ps scope)
    (bd : ∀ (cdv : Value) (A : Around) (outer : List Env) (s : Shared) (H : Hp) (E : XK), Room k (A.deeper (envOfC qual scope s.heap.objs.size f cdv)) →
      DSs (cxOf CX0 P w K mg base N qual scope f cdv A outer s H E).nox body T) : FnOk P w K mg base CX0 (k + 1) f fd ps (spD K ps.length (fnD N.length T)) :=
  F.ok S (fun vs H Q E h => h.1) fun cdv A outer s H vs Q E hr h => ⟨_, PSs.nox (bd cdv A outer s H E hr).ps, fn_entry (bd cdv A outer s H E hr).mo h⟩
theorem moS_of {X : Cx} {st : List Stmt} {T : SB} (h : DSs X st T) : MoS T := h.mo
/-- a def of the module without defaults, its promise by its body -/
theorem fn_mk {x : Str} {st : Stmt} {f : Addr} {fd : FuncData} {N ps : List Str} {k : Nat} {T : SB} (F : FnP K x st f fd) (S : FnScope N ps (defScope st)) (m : mg x = some (.ref f))
    (b : ∀ (kV doc pm : Value) (an : Option Addr) (cdv ct : Value) (us : List Value), us.length = ps.length → bindArgs (PySem.W.fnOf x x (defArgs st) (defBody st) (defScope st) .none kV doc pm an cdv ct) ⟨us, []⟩ = pure (ps.zip us))
    (kb : ∀ (kV doc pm : Value) (an : Option Addr) (cdv ct : Value) (ws : List Value), ws.length = ps.length → bindArgs (PySem.W.fnOf x x (defArgs st) (defBody st) (defScope st) .none kV doc pm an cdv ct) ⟨[], ps.zip ws⟩ = pure (ps.zip ws))
    (bd : ∀ (cdv : Value) (A : Around) (outer : List Env) (s : Shared) (H : Hp) (E : XK), Room k (A.deeper (envOfC x (defScope st) s.heap.objs.size f cdv)) →
      DSs (cxOf CX0 P w K mg base N x (defScope st) f cdv A outer s H E).nox (defBody st) T) : Fn P w K mg base (k + 1) x ps (fnD N.length T) := by
  refine ⟨⟨f, fd, fn_okD F S bd, F.bindsN b, ⟨fun s us ws _ l1 l2 => ?_, fun _ h => h⟩, F.kp, m⟩, fun A hr => fnD_mo (bd .none A [] {} (fun _ => none) E0 (hr.deeper _)).mo⟩
  obtain ⟨oc, od, dV, kV, doc, pm, an, cdv, ct, osl, rfl, _, _, dv, _⟩ := F.ex
  have e : us = [] := List.length_eq_zero_iff.mp l1
  subst e
  rcases dv with ⟨_, rfl⟩ | ⟨h, _⟩
  · exact .of_eq (kb kV doc pm an cdv ct ws l2)
  · exact absurd rfl h
theorem fnok_imp {CX : CXT} {f : Addr} {fd : FuncData} {ps : List Str} {k n : Nat} {sp : Sp} {F' : DF} (G : FnOk P w K mg base CX k f fd ps sp) (hn : n = ps.length) (h : ∀ A, Room k A → ∀ vs H Q E, spD K n F' vs H Q E → sp vs H Q E) : FnOk P w K mg base CX k f fd ps (spD K n F') :=
  ⟨fun vs H Q E q => q.1.trans hn, fun A outer s H args us vs Q E hr e0 b v q => G.run A outer s H args us vs Q E hr e0 b v (h A hr vs H Q E q)⟩
theorem Fn.imp {k : Nat} {x : Str} {ps : List Str} {F F' : DF} (G : Fn P w K mg base k x ps F) (mo : MoF F') (h : ∀ ds mu Q, ds.length = ps.length → F' ds mu Q → F ds mu Q) : Fn P w K mg base k x ps F' := by
  obtain ⟨f, fd, g, r⟩ := G.ex
  exact ⟨⟨f, fd, fn_imp g h, r⟩, fun _ _ => mo⟩
theorem Fn.up {j k : Nat} {x : Str} {ps : List Str} {F : DF} (G : Fn P w K mg base j x ps F) (h : j ≤ k) : Fn P w K mg base k x ps F := by
  obtain ⟨f, fd, g, r⟩ := G.ex
  exact ⟨⟨f, fd, g.mono h, r⟩, fun A hr => G.mo A (hr.mono h)⟩
end
theorem de_globS {X : Cx} {y z : Str} {pos : Pos} (hg : Gl X y) (h : ∃ t, X.mg y = some (.str z t)) (hdb : (y == ("__debug__" : Str)) = false := by decide) : DE X (.Name y pos) (dC (.str z)) := by
  obtain ⟨t, e⟩ := h
  exact de_glob (v := .str z) hg e ⟨t, rfl⟩ (fun _ _ _ _ => rfl) hdb
theorem de_globI {X : Cx} {y : Str} {i : Int} {pos : Pos} (hg : Gl X y) (h : ∃ t, X.mg y = some (.int i t)) (hdb : (y == ("__debug__" : Str)) = false := by decide) : DE X (.Name y pos) (dC (.int i)) := by
  obtain ⟨t, e⟩ := h
  exact de_glob (v := .int i) hg e ⟨t, rfl⟩ (fun _ _ _ _ => rfl) hdb
theorem de_ty {X : Cx} {y : Str} {n : String} {pos : Pos} (hg : Gl X y) (hm : X.mg y = none) (hv : bootBuiltins y = some (.type n)) (hn : y ≠ "__name__" := by decide) (hdb : (y == ("__debug__" : Str)) = false := by decide) : DE X (.Name y pos) (dC (.ty n)) :=
  de_bltn (v := .ty n) hg hm hv rfl (fun _ _ _ _ => rfl) hn hdb
/-! ### the script, the end -/
theorem law_sp {K : PySem.W.Frag} {F : DF} (hF : ∀ ns : List Int, ns.length ≤ 63 → F [.fls (ns.map D.int)] [] fun d _ => d = .bl true) (mo : MoF F) (H : Hp) (a : Addr) (ns : List Int) (hl : ns.length ≤ 63) (hS : SqL K H a (ns.map V.int)) : spD K 1 F [.ref a] H (fun v _ => v = .bl true) fun _ _ _ => False := by
  refine ⟨rfl, [], [], [], [.fls (ns.map D.int)], ⟨.ref a, [], rfl, ?_, rfl⟩, ⟨rfl, List.nodup_nil, fun k a m h => by simp at h, fun a h => by simp at h⟩, mo _ _ _ _ (fun d m e r' H' v _ _ dn => ?_) (hF ns hl)⟩
  · simp only [Den]
    refine ⟨a, ns.map V.int, rfl, ?_, ?_⟩
    · rcases hS with h | h
      · exact .inl ⟨by simp, by simp, h⟩
      · exact .inr h
    · clear hS hl
      induction ns with
      | nil => rfl
      | cons n ns ih => exact ⟨.int n, ns.map V.int, rfl, rfl, ih⟩
  · subst e
    simpa only [Den] using dn
/-! ### a sealed list of the store: what is known of it stays -/
theorem MRep.seal {K : PySem.W.Frag} {r x : List Addr} {H : Hp} {mu : Mu} {k : Nat} {p : List D → Prop} {ds : List D} (m : MRep K r x H (mu.set k (.lst ds))) (hk : mu[k]? = some (.any p)) (hp : p ds) : MRep K r x H mu := by
  have hl : k < mu.length := (List.getElem?_eq_some_iff.mp hk).1
  refine ⟨by simpa using m.len, m.nd, fun j a y h1 h2 => ?_, m.out⟩
  by_cases e : j = k
  · subst e
    rw [hk] at h2
    cases h2
    exact ⟨ds, hp, m.at_ j a _ h1 (List.getElem?_set_self hl)⟩
  · exact m.at_ j a y h1 (by rw [List.getElem?_set_ne (Ne.symm e)]; exact h2)
theorem MRep.unseal {K : PySem.W.Frag} {r x : List Addr} {H : Hp} {mu : Mu} {k : Nat} {p : List D → Prop} (m : MRep K r x H mu) (hk : mu[k]? = some (.any p)) : ∃ ds, p ds ∧ MRep K r x H (mu.set k (.lst ds)) := by
  have hl : k < mu.length := (List.getElem?_eq_some_iff.mp hk).1
  have hl2 : k < r.length := by rw [m.len]; exact hl
  obtain ⟨ds, hp, q⟩ := m.at_ k r[k] _ (List.getElem?_eq_getElem hl2) hk
  refine ⟨ds, hp, by simpa using m.len, m.nd, fun j a y h1 h2 => ?_, m.out⟩
  by_cases e : j = k
  · subst e
    rw [List.getElem?_set_self hl] at h2
    cases h2
    rw [List.getElem?_eq_getElem hl2] at h1
    cases h1
    exact q
  · exact m.at_ j a y h1 (by rw [List.getElem?_set_ne (Ne.symm e)] at h2; exact h2)
/-- a promise over an open list is one over a sealed list -/
def sealF (k : List D → Nat) (p : List D → Prop) (F : DF) : DF := fun ds mu Q => mu[k ds]? = some (.any p) ∧ ∀ bs, p bs → F ds (mu.set (k ds) (.lst bs)) fun d mu' => ∃ bs', p bs' ∧ mu' = mu.set (k ds) (.lst bs') ∧ Q d mu
theorem sealF_mo {k : List D → Nat} {p : List D → Prop} {F : DF} (h : MoF F) : MoF (sealF k p F) := fun ds mu Q Q' f q => ⟨q.1, fun bs hb => h _ _ _ _ (fun d m ⟨bs', h1, h2, h3⟩ => ⟨bs', h1, h2, f _ _ h3⟩) (q.2 bs hb)⟩
theorem Fn.seal {P : Program} {w : World} {K : PySem.W.Frag} {mg : Str → Option Value} {base : Heap} {j : Nat} {x : Str} {ps : List Str} {F : DF} (G : Fn P w K mg base j x ps F) (k : List D → Nat) (p : List D → Prop) : Fn P w K mg base j x ps (sealF k p F) := by
  obtain ⟨f, fd, g, rr⟩ := G.ex
  refine ⟨⟨f, fd, fnok_imp g rfl fun A hr vs H Q E ⟨z, r, x, mu, ds, d, m, q⟩ => ?_, rr⟩, fun A hr => sealF_mo (G.mo A hr)⟩
  obtain ⟨hk, q⟩ := q
  obtain ⟨bs, hb, m'⟩ := m.unseal hk
  refine ⟨z, r, x, _, ds, d, m', G.mo A hr _ _ _ _ (fun e mu' ⟨bs', h1, h2, h3⟩ r' H' v e' mr dn => ?_) (q bs hb)⟩
  subst h2
  exact h3 r' H' v e' (mr.seal hk h1) dn
/-- what stands behind may be told less -/
def Weak (mu mu' : Mu) : Prop := ∀ K r x H, MRep K r x H mu → MRep K r x H mu'
def weakF (F : DF) : DF := fun ds mu Q => F ds mu fun d m => ∃ m', Weak m m' ∧ Q d m'
theorem Fn.weak {P : Program} {w : World} {K : PySem.W.Frag} {mg : Str → Option Value} {base : Heap} {j : Nat} {x : Str} {ps : List Str} {F : DF} (G : Fn P w K mg base j x ps F) : Fn P w K mg base j x ps (weakF F) := by
  obtain ⟨f, fd, g, rr⟩ := G.ex
  refine ⟨⟨f, fd, fnok_imp g rfl fun A hr vs H Q E ⟨z, r, x, mu, ds, d, m, q⟩ => ?_, rr⟩, fun A hr ds mu Q Q' f q => G.mo A hr _ _ _ _ (fun d m ⟨m', h1, h2⟩ => ⟨m', h1, f _ _ h2⟩) q⟩
  exact ⟨z, r, x, mu, ds, d, m, G.mo A hr _ _ _ _ (fun e mu' ⟨m', h1, h2⟩ r' H' v e' mr dn => h2 r' H' v e' (h1 _ _ _ _ mr) dn) q⟩
theorem Weak.seal {mu : Mu} {p : List D → Prop} {ds : List D} (h : p ds) : Weak (mu ++ [.lst ds]) (mu ++ [.any p]) := fun K r x H m => by
  refine ⟨by simpa using m.len, m.nd, fun j a y h1 h2 => ?_, m.out⟩
  by_cases hj : j < mu.length
  · rw [List.getElem?_append_left hj] at h2
    exact m.at_ j a y h1 (by rw [List.getElem?_append_left hj]; exact h2)
  · rw [List.getElem?_append_right (by omega)] at h2
    have ej : j - mu.length = 0 := by
      have := (List.getElem?_eq_some_iff.mp h2).1
      simp at this
      omega
    rw [ej] at h2
    simp at h2
    subst h2
    exact ⟨ds, h, m.at_ j a (.lst ds) h1 (by rw [List.getElem?_append_right (by omega), ej]; rfl)⟩
/-! ### sizes that the heap keeps -/
mutual
def wfD : D → Prop
  | .tup ds => ds.length ≤ sizeLine ∧ wfL ds
  | .lst ds => ds.length ≤ sizeLine ∧ wfL ds
  | .fls ds => ds.length ≤ sizeLine ∧ wfL ds
  | .dct _ ds => wfL ds
  | .obj _ _ ds => wfL ds
  | _ => True
def wfL : List D → Prop
  | [] => True
  | d :: ds => wfD d ∧ wfL ds
end
mutual
theorem den_wf {P : Program} {w : World} {K : PySem.W.Frag} {r x : List Addr} {H : Hp} {h : Heap} (ok : HOk P w H h) : ∀ (d : D) (v : V), Den K r x H d v → wfD d
  | .non, v, _ => by simp only [wfD]
  | .bl b, v, _ => by simp only [wfD]
  | .int i, v, _ => by simp only [wfD]
  | .str z, v, _ => by simp only [wfD]
  | .ty n, v, _ => by simp only [wfD]
  | .fn a, v, _ => by simp only [wfD]
  | .mu k, v, _ => by simp only [wfD]
  | .tup ds, v, q => by
    simp only [Den] at q
    obtain ⟨a, vs, rfl, t, l⟩ := q
    simp only [wfD]
    refine ⟨?_, denL_wf ok ds vs l⟩
    rw [l.length]
    rcases t with t | ⟨o, its, n, _, _, _, z, vl⟩
    · exact (ok a _ t.2.2).1
    · rw [vl.length]
      simpa using z
  | .lst ds, v, q => by
    simp only [Den] at q
    obtain ⟨a, vs, rfl, t, l⟩ := q
    simp only [wfD]
    refine ⟨?_, denL_wf ok ds vs l⟩
    rw [l.length]
    exact (ok a _ t.2.2).1
  | .fls ds, v, q => by
    simp only [Den] at q
    obtain ⟨a, vs, rfl, t, l⟩ := q
    simp only [wfD]
    refine ⟨?_, denL_wf ok ds vs l⟩
    rw [l.length]
    rcases t with ⟨_, _, t⟩ | ⟨o, its, n, _, _, _, _, z, vl⟩
    · exact (t.ok ok).1
    · rw [vl.length]
      simpa using z
  | .dct ks ds, v, q => by
    simp only [Den] at q
    obtain ⟨a, vs, rfl, _, _, t, _, l⟩ := q
    simp only [wfD]
    exact denL_wf ok ds vs l
  | .obj C ns ds, v, q => by
    simp only [Den] at q
    obtain ⟨a, dx, vs, rfl, _, _, t, _, l⟩ := q
    simp only [wfD]
    exact denL_wf ok ds vs l
theorem denL_wf {P : Program} {w : World} {K : PySem.W.Frag} {r x : List Addr} {H : Hp} {h : Heap} (ok : HOk P w H h) : ∀ (ds : List D) (vs : List V), DenL K r x H ds vs → wfL ds
  | [], vs, _ => by simp only [wfL]
  | d :: ds, vs, q => by
    simp only [DenL] at q
    obtain ⟨v, vr, rfl, h1, h2⟩ := q
    simp only [wfL]
    exact ⟨den_wf ok d v h1, denL_wf ok ds vr h2⟩
end
def wfF (F : DF) : DF := fun ds mu Q => wfL ds → F ds mu Q
theorem Fn.wf {P : Program} {w : World} {K : PySem.W.Frag} {mg : Str → Option Value} {base : Heap} {j : Nat} {x : Str} {ps : List Str} {F : DF} (G : Fn P w K mg base j x ps F) : Fn P w K mg base j x ps (wfF F) := by
  obtain ⟨f, fd, g, rr⟩ := G.ex
  refine ⟨⟨f, fd, ⟨fun vs H Q E q => q.1, fun A outer s H args us vs Q E hr e0 b v q => g.run A outer s H args us vs Q E hr e0 b v ?_⟩, rr⟩, fun A hr ds mu Q Q' f q h => G.mo A hr _ _ _ _ f (q h)⟩
  obtain ⟨z, r, x, mu, ds, d, m, q⟩ := q
  exact ⟨z, r, x, mu, ds, d, m, q (denL_wf e0.hok ds vs d)⟩
end DL

namespace DL
open PySem PySem.Spec PyProof.Rows L2
/-! ### readings unfolded, as rewriting rules -/
section
variable {sl : Sl} {mu : Mu} {Q : D → Mu → Prop} {E : DEnds}
@[simp] theorem e_var {i : Nat} : dVar i sl mu Q = match sl[i]? with
  | some (some d) => Q d mu
  | _ => False := rfl
@[simp] theorem e_c {d : D} : dC d sl mu Q = Q d mu := rfl
@[simp] theorem e_op {g : G2} {Ta Tb : ET} : dOp g Ta Tb sl mu Q = Ta sl mu fun a m1 => Tb sl m1 fun b m2 => g a b m2 Q := rfl
@[simp] theorem e_un {g : G1} {Ta : ET} : dUn g Ta sl mu Q = Ta sl mu fun a m1 => g a m1 Q := rfl
@[simp] theorem e_cb {g : GL} {T : AT} : dCB g T sl mu Q = T sl mu fun ds m1 => g ds m1 Q := rfl
@[simp] theorem e_nil {Q : List D → Mu → Prop} : dNil sl mu Q = Q [] mu := rfl
@[simp] theorem e_cons {T : ET} {Tr : AT} {Q : List D → Mu → Prop} : dCons T Tr sl mu Q = T sl mu fun d m1 => Tr sl m1 fun ds m2 => Q (d :: ds) m2 := rfl
@[simp] theorem e_call {F : DF} {dds : List D} {T : AT} : dCall F dds T sl mu Q = T sl mu fun ds m => F (ds ++ dds) m Q := rfl
@[simp] theorem e_test {T : ET} {Q : Bool → Mu → Prop} : dTest T sl mu Q = T sl mu fun d m => match d with
  | .bl b => Q b m
  | _ => False := rfl
@[simp] theorem e_and {T U : BT} {Q : Bool → Mu → Prop} : dAnd T U sl mu Q = T sl mu fun b m => if b = true then U sl m Q else Q false m := rfl
@[simp] theorem e_or {T U : BT} {Q : Bool → Mu → Prop} : dOr T U sl mu Q = T sl mu fun b m => if b = true then Q true m else U sl m Q := rfl
@[simp] theorem e_not {T : BT} {Q : Bool → Mu → Prop} : dNot T sl mu Q = T sl mu fun b m => Q (!b) m := rfl
@[simp] theorem e_andV {T U : ET} : dAndV T U sl mu Q = T sl mu fun d m => match d with
  | .bl b => if b = true then U sl m Q else Q (.bl false) m
  | _ => False := rfl
@[simp] theorem e_orV {T U : ET} : dOrV T U sl mu Q = T sl mu fun d m => match d with
  | .bl b => if b = true then Q (.bl true) m else U sl m Q
  | _ => False := rfl
@[simp] theorem e_notV {T : ET} : dNotV T sl mu Q = T sl mu fun d m => match d with
  | .bl b => Q (.bl (!b)) m
  | _ => False := rfl
@[simp] theorem e_ifE {C : BT} {T U : ET} : dIfE C T U sl mu Q = C sl mu fun b m => if b = true then T sl m Q else U sl m Q := rfl
@[simp] theorem e_chain {g g' : G2} {Ta Tb Tc : ET} : dChain g g' Ta Tb Tc sl mu Q = Ta sl mu fun a m1 => Tb sl m1 fun b m2 => g a b m2 fun z m3 => match z with
  | .bl k => if k = true then Tc sl m3 fun c m4 => g' b c m4 Q else Q (.bl false) m3
  | _ => False := rfl
@[simp] theorem e_yes {Q : Bool → Mu → Prop} : dYes sl mu Q = Q true mu := rfl
@[simp] theorem e_noPart {Q : Option Int → Mu → Prop} : dNoPart sl mu Q = Q none mu := rfl
@[simp] theorem e_part {T : ET} {Q : Option Int → Mu → Prop} : dPart T sl mu Q = T sl mu fun d m => match d with
  | .int i => Q (some i) m
  | _ => False := rfl
@[simp] theorem e_sl {g : GS} {T : ET} {L U : OT} : dSl g T L U sl mu Q = T sl mu fun d m1 => L sl m1 fun lo m2 => U sl m2 fun hi m3 => g d lo hi m3 Q := rfl
@[simp] theorem e_mt {t : String} {g : GM} {To : ET} {Ta : AT} : dMt t g To Ta sl mu Q = To sl mu fun d m1 => tyD t m1 d = true ∧ Ta sl m1 fun ds m2 => g d ds m2 Q := rfl
@[simp] theorem e_lc {I : IT} {t : Tg} {C : BT} {T : ET} {vs : List Nat} : dLc I t C T vs sl mu Q = I sl mu fun ds m => ds.length ≤ sizeLine ∧ lcGo t C T (wipeD sl vs) (fun acc m => Q (.lst acc) m) ds [] m := rfl
@[simp] theorem e_iseq {T : ET} {Q : List D → Mu → Prop} : iSeq T sl mu Q = T sl mu fun d m => match itemsOf d with
  | some ds => Q ds m
  | none => False := rfl
@[simp] theorem e_range1 {T : AT} {Q : List D → Mu → Prop} : iRange1 T sl mu Q = T sl mu fun ds m => match ds with
  | [.int j] => (-(2 ^ 62) ≤ j ∧ j < 2 ^ 62) ∧ Q (rangeD 0 j.toNat) m
  | _ => False := rfl
@[simp] theorem e_range2 {T : AT} {Q : List D → Mu → Prop} : iRange2 T sl mu Q = T sl mu fun ds m => match ds with
  | [.int i, .int j] => (-(2 ^ 62) ≤ i ∧ i < 2 ^ 62 ∧ -(2 ^ 62) ≤ j ∧ j < 2 ^ 62) ∧ Q (rangeD i (j - i).toNat) m
  | _ => False := rfl
@[simp] theorem e_zip {T : AT} {Q : List D → Mu → Prop} : iZipD T sl mu Q = T sl mu fun ds m => match ds with
  | [.lst xs, .lst ys] => Q (pairsD xs ys) m
  | [.tup xs, .tup ys] => Q (pairsD xs ys) m
  | _ => False := rfl
@[simp] theorem e_enum {T : AT} {Q : List D → Mu → Prop} : iEnumD T sl mu Q = T sl mu fun ds m => match ds with
  | [.lst xs] => Q (pairsD (rangeD 0 xs.length) xs) m
  | _ => False := rfl
theorem e_next : sNext E sl mu = E.nx sl mu := rfl
theorem e_seq {T U : SB} : sSeq T U E sl mu = T { E with nx := U E } sl mu := rfl
theorem e_break : sBreak E sl mu = E.bk sl mu := rfl
theorem e_cont : sCont E sl mu = E.ct sl mu := rfl
theorem e_drop {T : ET} : sDrop T E sl mu = T sl mu fun _ m => E.nx sl m := rfl
theorem e_ret {T : ET} : sRet T E sl mu = T sl mu E.rt := rfl
theorem e_retN : sRetN E sl mu = E.rt .non mu := rfl
theorem e_if {C : BT} {T U : SB} : sIf C T U E sl mu = C sl mu fun b m => if b = true then T E sl m else U E sl m := rfl
theorem e_never : sNever E sl mu = False := rfl
theorem e_asg {T : ET} {t : Tg} : sAsg T t E sl mu = T sl mu fun d m => tgD t d sl m E.nx := rfl
theorem e_par {i j : Nat} {T : AT} : sPar i j T E sl mu = T sl mu fun ds m => match ds with
  | [d, e] => E.nx ((sl.set i (some d)).set j (some e)) m
  | _ => False := rfl
theorem e_for {I : IT} {t : Tg} {T : SB} : sFor I t T E sl mu = I sl mu fun ds m => forGo t T E ds sl m := rfl
theorem e_setIx {Te To Ti : ET} : sSetIx Te To Ti E sl mu = Te sl mu fun d m1 => To sl m1 fun o m2 => Ti sl m2 fun i m3 => match o, i with
  | .mu k, .int j => match lsAt m3 k with
    | some ds => match ixN ds.length j with
      | some n => E.nx sl (m3.set k (.lst (ds.set n d)))
      | none => False
    | none => False
  | _, _ => False := rfl
@[simp] theorem e_tgn {i : Nat} {d : D} {Q : Sl → Mu → Prop} : tgD (.nm i) d sl mu Q = Q (sl.set i (some d)) mu := rfl
@[simp] theorem e_tgt {is : List Nat} {ds : List D} {Q : Sl → Mu → Prop} : tgD (.tp is) (.tup ds) sl mu Q = (ds.length = is.length ∧ Q (setAll is ds sl) mu) := rfl
theorem e_fn {n : Nat} {T : SB} {ds : List D} : fnD n T ds mu Q = T (fnE Q) (startD n ds) mu := rfl
@[simp] theorem e_fnEnx {s : Sl} {m : Mu} : (fnE Q).nx s m = Q .non m := rfl
@[simp] theorem e_fnErt : (fnE Q).rt = Q := rfl
@[simp] theorem e_fnErt2 {d : D} {m : Mu} : (fnE Q).rt d m = Q d m := rfl
@[simp] theorem e_for0 {t : Tg} {T : SB} : forGo t T E [] sl mu = E.nx sl mu := rfl
theorem e_forS {t : Tg} {T : SB} {d : D} {ds : List D} : forGo t T E (d :: ds) sl mu = tgD t d sl mu fun s2 m2 => T ⟨forGo t T E ds, E.rt, E.nx, forGo t T E ds⟩ s2 m2 := rfl
@[simp] theorem e_lc0 {t : Tg} {C : BT} {T : ET} {Q : List D → Mu → Prop} {acc : List D} : lcGo t C T sl Q [] acc mu = Q acc mu := rfl
@[simp] theorem e_lcS {t : Tg} {C : BT} {T : ET} {Q : List D → Mu → Prop} {acc ds : List D} {d : D} : lcGo t C T sl Q (d :: ds) acc mu = tgD t d sl mu fun s2 m2 => C s2 m2 fun b m3 => if b = true then T s2 m3 fun y m4 => lcGo t C T sl Q ds (acc ++ [y]) m4 else lcGo t C T sl Q ds acc m3 := rfl
@[simp] theorem e_wipe0 : wipeD sl [] = sl := rfl
@[simp] theorem e_wipeS {v : Nat} {vs : List Nat} : wipeD sl (v :: vs) = (wipeD sl vs).set v none := rfl
@[simp] theorem e_setAll0 : setAll [] [] sl = sl := rfl
@[simp] theorem e_setAllS {i : Nat} {is : List Nat} {d : D} {ds : List D} : setAll (i :: is) (d :: ds) sl = setAll is ds (sl.set i (some d)) := rfl
@[simp] theorem sz {n : Nat} (h : n ≤ 16777216) : n ≤ sizeLine := h
/-- operators on data of known kinds -/
@[simp] theorem g_addI {i j : Int} : gAdd (.int i) (.int j) mu Q = Q (.int (i + j)) mu := rfl
@[simp] theorem g_addS {i j : Str} : gAdd (.str i) (.str j) mu Q = (i.length + j.length ≤ sizeLine ∧ Q (.str (i ++ j)) mu) := rfl
@[simp] theorem g_addL {i j : List D} : gAdd (.lst i) (.lst j) mu Q = (i.length + j.length ≤ sizeLine ∧ Q (.lst (i ++ j)) mu) := rfl
@[simp] theorem g_addT {i j : List D} : gAdd (.tup i) (.tup j) mu Q = (i.length + j.length ≤ sizeLine ∧ Q (.tup (i ++ j)) mu) := rfl
@[simp] theorem g_I2 {C : Int → Int → Prop} {f : Int → Int → D} {i j : Int} : gI2 C f (.int i) (.int j) mu Q = (C i j ∧ Q (f i j) mu) := rfl
@[simp] theorem g_mulI {i j : Int} : gMul (.int i) (.int j) mu Q = (CMul i j ∧ Q (.int (i * j)) mu) := rfl
@[simp] theorem g_mulL {xs : List D} {k : Int} : gMul (.lst xs) (.int k) mu Q = ((-(2 ^ 63) ≤ k ∧ k < 2 ^ 63 ∧ xs.length * k.toNat ≤ sizeLine) ∧ Q (.lst (List.replicate k.toNat xs).flatten) mu) := rfl
@[simp] theorem g_int1 {i : Int} : gInt1 [.int i] mu Q = Q (.int i) mu := rfl
@[simp] theorem g_cTrue {i j : Int} : cTrue i j = True := rfl
@[simp] theorem g_cPos {i j : Int} : cPos i j = (0 < j) := rfl
@[simp] theorem g_tup {ds : List D} : gTupD ds mu Q = (ds.length ≤ sizeLine ∧ Q (.tup ds) mu) := rfl
@[simp] theorem g_lst {ds : List D} : gLstD ds mu Q = (ds.length ≤ sizeLine ∧ Q (.lst ds) mu) := rfl
@[simp] theorem g_lstM {ds : List D} : gLstM ds mu Q = (ds.length ≤ sizeLine ∧ Q (.mu mu.length) (mu ++ [.lst ds])) := rfl
@[simp] theorem g_lenS {z : Str} : gLen [.str z] mu Q = (z.length ≤ sizeLine ∧ Q (.int z.length) mu) := rfl
@[simp] theorem g_lenL {ds : List D} : gLen [.lst ds] mu Q = Q (.int ds.length) mu := rfl
@[simp] theorem g_lenT {ds : List D} : gLen [.tup ds] mu Q = Q (.int ds.length) mu := rfl
@[simp] theorem g_listL {ds : List D} : gList1 [.lst ds] mu Q = Q (.lst ds) mu := rfl
@[simp] theorem g_listT {ds : List D} : gList1 [.tup ds] mu Q = Q (.lst ds) mu := rfl
@[simp] theorem g_listF {ds : List D} : gList1 [.fls ds] mu Q = Q (.lst ds) mu := rfl
@[simp] theorem g_tupT {ds : List D} : gTuple1 [.tup ds] mu Q = Q (.tup ds) mu := rfl
@[simp] theorem g_tupL {ds : List D} : gTuple1 [.lst ds] mu Q = Q (.tup ds) mu := rfl
@[simp] theorem g_slS {z : Str} {lo hi : Option Int} : gSl (.str z) lo hi mu Q = (z.length ≤ sizeLine ∧ Q (.str (cutS z lo hi)) mu) := rfl
@[simp] theorem g_slT {ds : List D} {lo hi : Option Int} : gSl (.tup ds) lo hi mu Q = Q (.tup (cutD ds lo hi)) mu := rfl
@[simp] theorem g_slL {ds : List D} {lo hi : Option Int} : gSl (.lst ds) lo hi mu Q = Q (.lst (cutD ds lo hi)) mu := rfl
@[simp] theorem g_slF {ds : List D} {lo hi : Option Int} : gSl (.fls ds) lo hi mu Q = Q (.lst (cutD ds lo hi)) mu := rfl
@[simp] theorem g_isN {neg : Bool} {a : D} : gIsN neg a .non mu Q = Q (.bl (if neg then !isNon a else isNon a)) mu := rfl
@[simp] theorem g_eqI {neg : Bool} {i j : Int} : gEqN neg (.int i) (.int j) mu Q = Q (.bl (if neg then !decide (i = j) else decide (i = j))) mu := rfl
@[simp] theorem g_eqB {neg : Bool} {i j : Bool} : gEqN neg (.bl i) (.bl j) mu Q = Q (.bl (if neg then !decide (i = j) else decide (i = j))) mu := rfl
@[simp] theorem g_eqS {neg : Bool} {i j : Str} : gEqN neg (.str i) (.str j) mu Q = Q (.bl (if neg then !decide (i = j) else decide (i = j))) mu := rfl
@[simp] theorem g_ixS {z : Str} {i : Int} : gIx (.str z) (.int i) mu Q = (z.length ≤ sizeLine ∧ match atI z.cps.toList i with
      | some c => Q (.str ⟨#[c]⟩) mu
      | none => False) := rfl
@[simp] theorem g_ixL {ds : List D} {i : Int} : gIx (.lst ds) (.int i) mu Q = match atI ds i with
      | some d => Q d mu
      | none => False := rfl
@[simp] theorem g_ixT {ds : List D} {i : Int} : gIx (.tup ds) (.int i) mu Q = match atI ds i with
      | some d => Q d mu
      | none => False := rfl
@[simp] theorem items_l {ds : List D} : itemsOf (.lst ds) = some ds := rfl
@[simp] theorem items_t {ds : List D} : itemsOf (.tup ds) = some ds := rfl
@[simp] theorem items_f {ds : List D} : itemsOf (.fls ds) = some ds := rfl
@[simp] theorem items_s {z : Str} : itemsOf (.str z) = some (z.cps.toList.map fun c => .str ⟨#[c]⟩) := rfl
@[simp] theorem g_bools0 {f : List Bool → Bool} {bs : List Bool} {es : List D} (h : boolsOf es = some bs) : gBools f [.lst es] mu Q = Q (.bl (f bs)) mu := by
  show (match boolsOf es with
    | some bs => Q (.bl (f bs)) mu
    | none => False) = _
  rw [h]
@[simp] theorem lsAt_set {k : Nat} {bs : List D} (h : k < mu.length) : lsAt (mu.set k (.lst bs)) k = some bs := by
  unfold lsAt
  rw [List.getElem?_set_self h]
theorem g_ixM {k : Nat} {i : Int} {ds : List D} (h : lsAt mu k = some ds) : gIx (.mu k) (.int i) mu Q = match atI ds i with
    | some d => Q d mu
    | none => False := by
  have e : mu[k]? = some (.lst ds) := by
    unfold lsAt at h
    split at h
    · rename_i es e
      cases h
      exact e
    · cases h
  show (match mu[k]? with
      | some (.lst ds) => match atI ds i with
        | some d => Q d mu
        | none => False
      | _ => False) = _
  rw [e]
@[simp] theorem g_ixMs {k : Nat} {i : Int} {ds : List D} (h : k < mu.length) : gIx (.mu k) (.int i) (mu.set k (.lst ds)) Q = match atI ds i with
    | some d => Q d (mu.set k (.lst ds))
    | none => False := g_ixM (lsAt_set h)
section
variable {α : Type} {a b c d e f g h : α} {xs : List α}
@[simp] theorem at0 : atI (a :: xs) 0 = some a := by simp [atI, ixN]
@[simp] theorem at1 : atI (a :: b :: xs) 1 = some b := by
  have : (1 : Int) < (xs.length : Int) + 1 + 1 := by omega
  simp [atI, ixN, this]
@[simp] theorem at2 : atI (a :: b :: c :: xs) 2 = some c := by
  have : (2 : Int) < (xs.length : Int) + 1 + 1 + 1 := by omega
  simp [atI, ixN, this]
@[simp] theorem at3 : atI (a :: b :: c :: d :: xs) 3 = some d := by
  have : (3 : Int) < (xs.length : Int) + 1 + 1 + 1 + 1 := by omega
  simp [atI, ixN, this]
@[simp] theorem at4 : atI (a :: b :: c :: d :: e :: xs) 4 = some e := by
  have : (4 : Int) < (xs.length : Int) + 1 + 1 + 1 + 1 + 1 := by omega
  simp [atI, ixN, this]
@[simp] theorem at5 : atI (a :: b :: c :: d :: e :: f :: xs) 5 = some f := by
  have : (5 : Int) < (xs.length : Int) + 1 + 1 + 1 + 1 + 1 + 1 := by omega
  simp [atI, ixN, this]
@[simp] theorem at6 : atI (a :: b :: c :: d :: e :: f :: g :: xs) 6 = some g := by
  have : (6 : Int) < (xs.length : Int) + 1 + 1 + 1 + 1 + 1 + 1 + 1 := by omega
  simp [atI, ixN, this]
@[simp] theorem at7 : atI (a :: b :: c :: d :: e :: f :: g :: h :: xs) 7 = some h := by
  have : (7 : Int) < (xs.length : Int) + 1 + 1 + 1 + 1 + 1 + 1 + 1 + 1 := by omega
  simp [atI, ixN, this]
end
@[simp] theorem ixN50 : ixN 5 0 = some 0 := rfl
@[simp] theorem ixN51 : ixN 5 1 = some 1 := rfl
@[simp] theorem ixN52 : ixN 5 2 = some 2 := rfl
@[simp] theorem ixN53 : ixN 5 3 = some 3 := rfl
@[simp] theorem ixN54 : ixN 5 4 = some 4 := rfl
end
end DL

namespace DL
open PySem PySem.Spec PyProof.Rows L2
/-! ### comprehensions as a whole -/
section
variable {t : Tg} {C : BT} {T : ET} {sl : Sl} {mu : Mu} {Q : List D → Mu → Prop}
theorem lcGo_all {P : D → D → Prop} : ∀ (ds acc : List D), (∀ d ∈ ds, ∀ R : D → Mu → Prop, (∀ y, P d y → R y mu) → tgD t d sl mu fun s2 m2 => T s2 m2 R) →
    (∀ ys, ys.length = ds.length → (∀ p ∈ ds.zip ys, P p.1 p.2) → Q (acc ++ ys) mu) → lcGo t dYes T sl Q ds acc mu
  | [], acc, _, h => by simpa using h [] rfl (by simp)
  | d :: ds, acc, hT, h => by
    simp only [e_lcS, e_yes, if_true]
    refine hT d List.mem_cons_self _ fun y py => ?_
    refine lcGo_all ds (acc ++ [y]) (fun e he => hT e (List.mem_cons_of_mem _ he)) fun ys hl hp => ?_
    rw [List.append_assoc]
    refine h (y :: ys) (by simp [hl]) fun p hp' => ?_
    simp only [List.zip_cons_cons, List.mem_cons] at hp'
    rcases hp' with rfl | hp'
    · exact py
    · exact hp p hp'
theorem lcGo_map {f : D → D} : ∀ (ds acc : List D), (∀ d ∈ ds, ∀ R : D → Mu → Prop, R (f d) mu → tgD t d sl mu fun s2 m2 => T s2 m2 R) → Q (acc ++ ds.map f) mu → lcGo t dYes T sl Q ds acc mu
  | [], acc, _, h => by simpa using h
  | d :: ds, acc, hT, h => by
    simp only [e_lcS, e_yes, if_true]
    refine hT d List.mem_cons_self _ ?_
    refine lcGo_map ds (acc ++ [f d]) (fun e he => hT e (List.mem_cons_of_mem _ he)) ?_
    rw [List.append_assoc]
    exact h
theorem lcGo_filter {f : D → D} {p : D → Bool} : ∀ (ds acc : List D), (∀ d ∈ ds, ∀ (R : D → Mu → Prop) (S : Mu → Prop), (p d = true → R (f d) mu) → (p d = false → S mu) → tgD t d sl mu fun s2 m2 => C s2 m2 fun b m3 => if b = true then T s2 m3 R else S m3) →
    Q (acc ++ (ds.filter p).map f) mu → lcGo t C T sl Q ds acc mu
  | [], acc, _, h => by simpa using h
  | d :: ds, acc, hT, h => by
    simp only [e_lcS]
    refine hT d List.mem_cons_self _ (fun m => lcGo t C T sl Q ds acc m) (fun e => ?_) (fun e => ?_)
    · refine lcGo_filter ds (acc ++ [f d]) (fun e he => hT e (List.mem_cons_of_mem _ he)) ?_
      rw [List.filter_cons, if_pos e] at h
      rw [List.append_assoc]
      exact h
    · refine lcGo_filter ds acc (fun e he => hT e (List.mem_cons_of_mem _ he)) ?_
      rw [List.filter_cons, if_neg (by simp [e])] at h
      exact h
end
/-! ### texts -/
theorem ofString_inj {a b : String} : (Str.ofString a = Str.ofString b) = (a = b) := by
  apply propext
  constructor
  · intro h
    rw [Str.ofString_eq_toList, Str.ofString_eq_toList] at h
    have h2 : a.toList.map Char.toNat = b.toList.map Char.toNat := by
      have := congrArg Str.cps h
      simpa using this
    have h3 : a.toList = b.toList := by
      have inj : ∀ (l m : List Char), l.map Char.toNat = m.map Char.toNat → l = m := by
        intro l
        induction l with
        | nil => intro m hm; cases m with
          | nil => rfl
          | cons _ _ => simp at hm
        | cons c l ih => intro m hm; cases m with
          | nil => simp at hm
          | cons d m =>
            simp only [List.map_cons, List.cons.injEq] at hm
            have : c = d := Char.toNat_inj.mp hm.1
            rw [this, ih m hm.2]
      exact inj _ _ h2
    exact String.toList_inj.mp h3
  · intro h
    rw [h]
theorem str_ext {a b : Str} (h : a.cps.toList = b.cps.toList) : a = b := by
  obtain ⟨⟨x⟩⟩ := a
  obtain ⟨⟨y⟩⟩ := b
  simp at h
  rw [h]
def cl (z : Str) : List Nat := z.cps.toList
theorem cl_def (z : Str) : z.cps.toList = cl z := rfl
theorem cl_mk (l : List Nat) : cl ⟨l.toArray⟩ = l := by simp [cl]
theorem cl_one (c : Nat) : cl ⟨#[c]⟩ = [c] := rfl
theorem cl_append (a b : Str) : cl (a ++ b) = cl a ++ cl b := by
  show ((a.cps ++ b.cps)).toList = a.cps.toList ++ b.cps.toList
  simp
theorem len_cl (z : Str) : z.length = (cl z).length := by
  show z.cps.size = z.cps.toList.length
  simp
theorem cl_cut (z : Str) (lo hi : Option Int) : cl (cutS z lo hi) = ((cl z).drop (HT.sIx z.length 0 lo)).take (HT.sIx z.length z.length hi - HT.sIx z.length 0 lo) := by
  unfold cutS
  rw [cl_mk]
  rfl
theorem cl_take (z : Str) (n : Nat) : cl (cutS z none (some (n : Int))) = (cl z).take n := by
  rw [cl_cut, HT.sIx_none, HT.sIx_nat, len_cl, List.drop_zero, Nat.sub_zero, List.take_eq_take_iff]
  omega
theorem cl_drop (z : Str) (n : Nat) : cl (cutS z (some (n : Int)) none) = (cl z).drop n := by
  rw [cl_cut, HT.sIx_none, HT.sIx_nat, len_cl]
  have e : (cl z).length - min n (cl z).length = ((cl z).drop (min n (cl z).length)).length := by simp
  rw [e, List.take_length]
  by_cases h : n ≤ (cl z).length
  · rw [Nat.min_eq_left h]
  · rw [Nat.min_eq_right (by omega), List.drop_length, List.drop_eq_nil_iff.mpr (by omega)]
theorem cl_join0 : ∀ ys : List Str, cl (Txt.join (Str.ofString "") ys) = ys.flatMap cl := fun ys => by
  rw [TL.join_eq]
  induction ys with
  | nil => rfl
  | cons y ys ih =>
    cases ys with
    | nil => simp [Str.join]
    | cons z r =>
      show cl (y ++ Str.ofString "" ++ Str.join (Str.ofString "") (z :: r)) = _
      rw [cl_append, cl_append, ih]
      have : cl (Str.ofString "") = [] := by decide +kernel
      rw [this]
      simp
/-! ### one statement at a time -/
section
variable {T : ET} {A : AT} {C : BT} {I : IT} {U T1 T2 : SB} {E : DEnds} {sl : Sl} {mu : Mu} {i j : Nat} {t : Tg}
theorem st_asg (h : T sl mu fun d m => U E (sl.set i (some d)) m) : sSeq (sAsg T (.nm i)) U E sl mu := h
theorem st_asgT {is : List Nat} (h : T sl mu fun d m => tgD (.tp is) d sl m (U E)) : sSeq (sAsg T (.tp is)) U E sl mu := h
theorem st_par (h : A sl mu fun ds m => match ds with
    | [d, e] => U E ((sl.set i (some d)).set j (some e)) m
    | _ => False) : sSeq (sPar i j A) U E sl mu := h
theorem st_drop (h : T sl mu fun _ m => U E sl m) : sSeq (sDrop T) U E sl mu := h
theorem st_if (h : C sl mu fun b m => if b = true then T1 { E with nx := U E } sl m else T2 { E with nx := U E } sl m) : sSeq (sIf C T1 T2) U E sl mu := h
theorem st_for (h : I sl mu fun ds m => forGo t T1 { E with nx := U E } ds sl m) : sSeq (sFor I t T1) U E sl mu := h
theorem st_ret (h : T sl mu E.rt) : sRet T E sl mu := h
theorem st_turn {d : D} {ds : List D} (h : tgD t d sl mu fun s2 m2 => T1 ⟨forGo t T1 E ds, E.rt, E.nx, forGo t T1 E ds⟩ s2 m2) : forGo t T1 E (d :: ds) sl mu := h
theorem st_turnN {d : D} {ds : List D} (h : T1 ⟨forGo (.nm i) T1 E ds, E.rt, E.nx, forGo (.nm i) T1 E ds⟩ (sl.set i (some d)) mu) : forGo (.nm i) T1 E (d :: ds) sl mu := h
theorem st_next {X : Sl → Mu → Prop} {Y : D → Mu → Prop} {Z W : Sl → Mu → Prop} (h : X sl mu) : sNext ⟨X, Y, Z, W⟩ sl mu := h
theorem st_if0 (h : C sl mu fun b m => if b = true then T1 E sl m else T2 E sl m) : sIf C T1 T2 E sl mu := h
theorem st_for0 {X : Sl → Mu → Prop} {Y : D → Mu → Prop} {Z W : Sl → Mu → Prop} (h : X sl mu) : forGo t T1 ⟨X, Y, Z, W⟩ [] sl mu := h
theorem st_chk {b : Bool} {A B : Prop} (hb : b = true) (h : B) : (if (!b) = true then A else B) := by
  subst hb
  exact h
/-- if not test: return False -/
theorem st_check {E' : DEnds} {b : Bool} (hb : b = true) (h : E.nx sl mu) : (if (!b) = true then sRet (dC (.bl false)) E sl mu else sNext E sl mu) := by
  subst hb
  exact h
end
end DL

namespace Lw
open PySem PySem.Spec PyProof.Rows L2 DL
/-! The law's own helpers: what they read, and what they promise. -/
def T_begun : SB := (sSeq (sAsg (dC (.int 4921)) (.nm 1))
    (sSeq (sFor (iSeq (dSl gSl (dVar 0) dNoPart (dPart (dC (.int 63))))) (.nm 2) (sAsg (dOp gMod (dCB gInt1 (dCons (dOp gAdd (dOp gAdd (dOp gMul (dVar 1) (dC (.int 46511))) (dOp gMod (dCB gInt1 (dCons (dVar 2) dNil)) (dC (.int 2147480213)))) (dC (.int 101))) dNil)) (dC (.int 2147483587))) (.nm 1)))
    (sRet (dCB gLstM (dCons (dCB gList1 (dCons (dSl gSl (dVar 0) dNoPart (dPart (dC (.int 63)))) dNil)) (dCons (dC (.int 0)) (dCons (dC (.int 0)) (dCons (dVar 1) (dCons (dC (.int 0)) dNil)))))))))
def F_begun : DF := fnD 3 T_begun
def T_number : SB := (sSeq (sSetIx (dOp gAdd (dOp gIx (dVar 0) (dC (.int 4))) (dC (.int 1))) (dVar 0) (dC (.int 4)))
    (sSeq (sIf (dAnd (dTest (dOp (gEqN false) (dOp gIx (dVar 0) (dC (.int 2))) (dC (.int 0)))) (dTest (dOp gLt (dOp gIx (dVar 0) (dC (.int 1))) (dCB gLen (dCons (dOp gIx (dVar 0) (dC (.int 0))) dNil))))) (sSeq (sAsg (dOp gIx (dOp gIx (dVar 0) (dC (.int 0))) (dOp gIx (dVar 0) (dC (.int 1)))) (.nm 3))
    (sSeq (sSetIx (dOp gAdd (dOp gIx (dVar 0) (dC (.int 1))) (dC (.int 1))) (dVar 0) (dC (.int 1)))
    (sIf (dTest (dOp gGe (dVar 3) (dOp gPow (dC (.int 10)) (dC (.int 18))))) (sSetIx (dVar 3) (dVar 0) (dC (.int 2))) (sSetIx (dOp gMod (dCB gInt1 (dCons (dOp gAdd (dOp gAdd (dOp gMul (dOp gIx (dVar 0) (dC (.int 3))) (dC (.int 39119))) (dOp gMul (dOp gMod (dCB gInt1 (dCons (dVar 3) dNil)) (dC (.int 2147480213))) (dC (.int 523)))) (dC (.int 61))) dNil)) (dC (.int 2147483587))) (dVar 0) (dC (.int 3)))))) sNext)
    (sSeq (sIf (dTest (dOp gGt (dOp gIx (dVar 0) (dC (.int 2))) (dC (.int 0)))) (sSeq (sAsg (dOp gMod (dCB gInt1 (dCons (dOp gIx (dVar 0) (dC (.int 2))) dNil)) (dVar 1)) (.nm 4))
    (sSeq (sSetIx (dOp gFdiv (dOp gIx (dVar 0) (dC (.int 2))) (dVar 1)) (dVar 0) (dC (.int 2)))
    (sRet (dVar 4)))) sNext)
    (sSeq (sAsg (dOp gIx (dVar 0) (dC (.int 3))) (.nm 2))
    (sSeq (sSetIx (dOp gMod (dCB gInt1 (dCons (dOp gAdd (dOp gAdd (dOp gAdd (dOp gPow (dVar 2) (dC (.int 3))) (dOp gMul (dVar 2) (dC (.int 30011)))) (dOp gMul (dOp gIx (dVar 0) (dC (.int 4))) (dC (.int 1299689)))) (dC (.int 90001))) dNil)) (dC (.int 2147483587))) (dVar 0) (dC (.int 3)))
    (sRet (dOp gMod (dCB gInt1 (dCons (dOp gAdd (dOp gFdiv (dOp gIx (dVar 0) (dC (.int 3))) (dC (.int 83))) (dOp gMul (dOp gMod (dCB gInt1 (dCons (dOp gIx (dVar 0) (dC (.int 3))) dNil)) (dC (.int 7901))) (dC (.int 59)))) dNil)) (dVar 1))))))))
def F_number : DF := fnD 5 T_number

/-- what stands in a bag -/
def Bag (ds : List D) : Prop := ∃ (cells : List Int) (i r m n : Int), ds = [.lst (cells.map D.int), .int i, .int r, .int m, .int n] ∧ 0 ≤ i ∧ 0 ≤ r ∧ 0 ≤ m ∧ m < 2147483587
theorem cut63 (ns : List Int) : DL.cutD (ns.map D.int) none (some 63) = ((ns.take 63).map D.int) := by
  unfold DL.cutD
  rw [HT.sIx_none, List.length_map]
  have : HT.sIx ns.length ns.length (some 63) = min 63 ns.length := HT.sIx_nat ns.length ns.length 63
  rw [this]
  simp only [List.drop_zero, Nat.sub_zero, List.map_take]
  rw [List.take_eq_take_iff]
  simp
def C_begun : DF := fun ds mu Q => ∃ ns : List Int, ds = [.fls (ns.map D.int)] ∧ Q (.mu mu.length) (mu ++ [.any Bag])
theorem C_begun_mo : MoF C_begun := fun ds mu Q Q' f ⟨ns, h1, h2⟩ => ⟨ns, h1, f _ _ h2⟩
theorem begun_for {E : DEnds} {a : D} {mu : Mu} (h : ∀ (s : Int) (z : Option D), 0 ≤ s → s < 2147483587 → E.nx [some a, some (.int s), z] mu) : ∀ (ns : List Int) (s : Int) (z : Option D), 0 ≤ s → s < 2147483587 →
    forGo (.nm 2) (sAsg (dOp gMod (dCB gInt1 (dCons (dOp gAdd (dOp gAdd (dOp gMul (dVar 1) (dC (.int 46511))) (dOp gMod (dCB gInt1 (dCons (dVar 2) dNil)) (dC (.int 2147480213)))) (dC (.int 101))) dNil)) (dC (.int 2147483587))) (.nm 1)) E (ns.map D.int) [some a, some (.int s), z] mu
  | [], s, z, h1, h2 => h s z h1 h2
  | n :: ns, s, z, h1, h2 => by
    simp [CMul, e_forS, e_next, e_seq, e_break, e_cont, e_drop, e_ret, e_retN, e_if, e_never, e_asg, e_par, e_for, e_setIx, e_fn]
    exact begun_for h ns _ _ (Int.emod_nonneg _ (by decide)) (Int.emod_lt_of_pos _ (by decide))
theorem begun_ok (ds : List D) (mu : Mu) (Q : D → Mu → Prop) (h : C_begun ds mu Q) : weakF F_begun ds mu Q := by
  obtain ⟨ns, rfl, q⟩ := h
  unfold weakF F_begun
  simp [T_begun, startD, cut63, e_next, e_seq, e_break, e_cont, e_drop, e_ret, e_retN, e_if, e_never, e_asg, e_par, e_for, e_setIx, e_fn]
  have hl : List.take 63 (ns.map D.int) = (ns.take 63).map D.int := by rw [List.map_take]
  try rw [hl]
  refine begun_for (fun s z h1 h2 => ?_) (ns.take 63) 4921 none (by decide) (by decide)
  simp [cut63, sizeLine, e_next, e_seq, e_break, e_cont, e_drop, e_ret, e_retN, e_if, e_never, e_asg, e_par, e_for, e_setIx, e_fn]
  refine ⟨_, Weak.seal (p := Bag) ⟨ns.take 63, 0, 0, s, 0, ?_, by decide, by decide, h1, h2⟩, q⟩
  simp
/-- a draw: any number below n -/
def C_number : DF := fun ds mu Q => ∃ (k : Nat) (n : Int), ds = [.mu k, .int n] ∧ mu[k]? = some (.any Bag) ∧ 0 < n ∧ n < 1073741824 ∧ ∀ r, 0 ≤ r → r < n → Q (.int r) mu
theorem C_number_mo : MoF C_number := fun ds mu Q Q' f ⟨k, n, h1, h2, h3, h4, h5⟩ => ⟨k, n, h1, h2, h3, h4, fun r a b => f _ _ (h5 r a b)⟩
def bagAt (ds : List D) : Nat := match ds with
  | .mu k :: _ => k
  | _ => 0
theorem at_int {cells : List Int} {i : Int} (h0 : 0 ≤ i) (h1 : i < cells.length) : ∃ c, atI (cells.map D.int) i = some (.int c) := by
  obtain ⟨j, rfl⟩ := Int.eq_ofNat_of_zero_le h0
  have hj : j < cells.length := by omega
  refine ⟨cells[j], ?_⟩
  have : (cells.map D.int)[j]? = some (.int cells[j]) := by rw [List.getElem?_map, List.getElem?_eq_getElem hj]; rfl
  exact atI_nat this
section
variable {mu : Mu} {Q : D → Mu → Prop} {k : Nat} {n : Int} (h0 : 0 < n) (h1 : n < 1073741824) (q : ∀ r, 0 ≤ r → r < n → Q (.int r) mu) (cells : List Int) (i r m c : Int) (hi : 0 ≤ i) (hr : 0 ≤ r) (hm0 : 0 ≤ m) (hm1 : m < 2147483587)
include h0 h1 q hi hr hm0 hm1
theorem draw_big : 0 < n ∧ CDiv r n ∧ ∃ bs', Bag bs' ∧ mu.set k (MO.lst [D.lst (cells.map D.int), D.int i, D.int (r / n), D.int m, D.int c]) = mu.set (bagAt [D.mu k, D.int n]) (MO.lst bs') ∧ Q (D.int (r % n)) mu :=
  ⟨h0, ⟨h0, h1⟩, _, ⟨cells, i, r / n, m, c, rfl, hi, Int.ediv_nonneg hr (Int.le_of_lt h0), hm0, hm1⟩, rfl, q _ (Int.emod_nonneg _ (by omega)) (Int.emod_lt_of_pos _ h0)⟩
theorem draw_mix : CPow m 3 ∧ CMul m 30011 ∧ CMul c 1299689 ∧ CDiv ((m ^ 3 + m * 30011 + c * 1299689 + 90001) % 2147483587) 83 ∧ CMul ((m ^ 3 + m * 30011 + c * 1299689 + 90001) % 2147483587 % 7901) 59 ∧ 0 < n ∧ ∃ bs', Bag bs' ∧
    mu.set k (MO.lst [D.lst (cells.map D.int), D.int i, D.int r, D.int ((m ^ 3 + m * 30011 + c * 1299689 + 90001) % 2147483587), D.int c]) = mu.set (bagAt [D.mu k, D.int n]) (MO.lst bs') ∧
    Q (D.int (((m ^ 3 + m * 30011 + c * 1299689 + 90001) % 2147483587 / 83 + (m ^ 3 + m * 30011 + c * 1299689 + 90001) % 2147483587 % 7901 * 59) % n)) mu := by
  refine ⟨⟨by decide, by decide, by omega⟩, .inr ⟨by decide, by decide⟩, .inr ⟨by decide, by decide⟩, ⟨by decide, by decide⟩, .inr ⟨by decide, by decide⟩, h0, _, ⟨cells, i, r, _, c, rfl, hi, hr, Int.emod_nonneg _ (by decide), Int.emod_lt_of_pos _ (by decide)⟩, rfl, q _ (Int.emod_nonneg _ (by omega)) (Int.emod_lt_of_pos _ h0)⟩
end
theorem number_ok (ds : List D) (mu : Mu) (Q : D → Mu → Prop) (h : C_number ds mu Q) : sealF bagAt Bag F_number ds mu Q := by
  obtain ⟨k, n, rfl, hk, h0, h1, q⟩ := h
  refine ⟨hk, fun bs hb => ?_⟩
  obtain ⟨cells, i, r, m, c, rfl, hi, hr, hm0, hm1⟩ := hb
  have hl : k < mu.length := (List.getElem?_eq_some_iff.mp hk).1
  show F_number [.mu k, .int n] (mu.set k _) _
  simp [F_number, T_number, startD, hl, e_next, e_seq, e_break, e_cont, e_drop, e_ret, e_retN, e_if, e_never, e_asg, e_par, e_for, e_setIx, e_fn]
  have cp : CPow 10 18 := ⟨by decide, by decide, by decide⟩
  split
  · rename_i er
    split
    · rename_i ei
      obtain ⟨z, ez⟩ := at_int hi ei
      rw [ez]
      simp [cp, hl, e_next, e_seq, e_break, e_cont, e_drop, e_ret, e_retN, e_if, e_never, e_asg, e_par, e_for, e_setIx, e_fn]
      split
      · rename_i hz
        have hz0 : 0 < z := by omega
        simp [hz0, hl, e_next, e_seq, e_break, e_cont, e_drop, e_ret, e_retN, e_if, e_never, e_asg, e_par, e_for, e_setIx, e_fn]
        exact draw_big h0 h1 q cells (i + 1) z m (c + 1) (by omega) (by omega) hm0 hm1
      · subst er
        have c1 : CMul m 39119 := .inr ⟨by decide, by decide⟩
        have c2 : CMul (z % 2147480213) 523 := .inr ⟨by decide, by decide⟩
        simp [c1, c2, hl, e_next, e_seq, e_break, e_cont, e_drop, e_ret, e_retN, e_if, e_never, e_asg, e_par, e_for, e_setIx, e_fn]
        exact draw_mix h0 h1 q cells (i + 1) 0 _ (c + 1) (by omega) (by omega) (Int.emod_nonneg _ (by decide)) (Int.emod_lt_of_pos _ (by decide))
    · split
      · exact draw_big h0 h1 q cells i r m (c + 1) hi hr hm0 hm1
      · exact draw_mix h0 h1 q cells i r m (c + 1) hi hr hm0 hm1
  · split
    · exact draw_big h0 h1 q cells i r m (c + 1) hi hr hm0 hm1
    · exact draw_mix h0 h1 q cells i r m (c + 1) hi hr hm0 hm1
@[simp] theorem c_number {k : Nat} {n : Int} {mu : Mu} {Q : D → Mu → Prop} : C_number [.mu k, .int n] mu Q = (mu[k]? = some (.any Bag) ∧ 0 < n ∧ n < 1073741824 ∧ ∀ r, 0 ≤ r → r < n → Q (.int r) mu) := by
  apply propext
  constructor
  · rintro ⟨k', n', e, h⟩
    simp only [List.cons.injEq, D.mu.injEq, D.int.injEq, and_true] at e
    obtain ⟨rfl, rfl⟩ := e
    exact h
  · intro h
    exact ⟨k, n, rfl, h⟩
/-- it is one of them -/
def InL (e : D) (es : List D) : Prop := e ∈ es
/-- one of some things -/
def T_one : SB := (sRet (dOp gIx (dVar 1) (dCall C_number [] (dCons (dVar 0) (dCons (dCB gLen (dCons (dVar 1) dNil)) dNil)))))
def F_one : DF := fnD 2 T_one
def C_one : DF := fun ds mu Q => ∃ (k : Nat) (d : D) (es : List D), ds = [.mu k, d] ∧ seqOrStr d = some es ∧ mu[k]? = some (.any Bag) ∧ 0 < es.length ∧ es.length ≤ sizeLine ∧ ∀ e ∈ es, Q e mu
where seqOrStr : D → Option (List D)
  | .lst ds => some ds
  | .tup ds => some ds
  | .str z => some (z.cps.toList.map fun c => .str ⟨#[c]⟩)
  | _ => none
theorem C_one_mo : MoF C_one := fun ds mu Q Q' f ⟨k, d, es, h1, h2, h3, h4, h5, h6⟩ => ⟨k, d, es, h1, h2, h3, h4, h5, fun e he => f _ _ (h6 e he)⟩
theorem atI_some {α : Type} {ds : List α} {i : Int} (h0 : 0 ≤ i) (h1 : i < ds.length) : ∃ d, atI ds i = some d ∧ d ∈ ds := by
  obtain ⟨j, rfl⟩ := Int.eq_ofNat_of_zero_le h0
  have hj : j < ds.length := by omega
  exact ⟨ds[j], atI_nat (List.getElem?_eq_getElem hj), List.getElem_mem hj⟩
theorem one_ok (ds : List D) (mu : Mu) (Q : D → Mu → Prop) (h : C_one ds mu Q) : F_one ds mu Q := by
  obtain ⟨k, d, es, rfl, e, hk, h0, h1, q⟩ := h
  have hz : (sizeLine : Int) < 1073741824 := by decide
  cases d with
  | lst xs =>
    cases e
    simp [F_one, T_one, startD, hk, e_next, e_seq, e_break, e_cont, e_drop, e_ret, e_retN, e_if, e_never, e_asg, e_par, e_for, e_setIx, e_fn]
    refine ⟨by simpa [List.ne_nil_iff_length_pos] using h0, by omega, fun r a b => ?_⟩
    obtain ⟨d, e, m⟩ := atI_some a b
    rw [e]
    exact q d m
  | tup xs =>
    cases e
    simp [F_one, T_one, startD, hk, e_next, e_seq, e_break, e_cont, e_drop, e_ret, e_retN, e_if, e_never, e_asg, e_par, e_for, e_setIx, e_fn]
    refine ⟨by simpa [List.ne_nil_iff_length_pos] using h0, by omega, fun r a b => ?_⟩
    obtain ⟨d, e, m⟩ := atI_some a b
    rw [e]
    exact q d m
  | str z =>
    cases e
    rw [List.length_map, cl_def, ← len_cl] at h0 h1
    simp [F_one, T_one, startD, hk, h1, e_next, e_seq, e_break, e_cont, e_drop, e_ret, e_retN, e_if, e_never, e_asg, e_par, e_for, e_setIx, e_fn]
    refine ⟨by omega, by omega, fun r a b => ?_⟩
    obtain ⟨c, e, m⟩ := atI_some (ds := z.cps.toList) a (by rw [cl_def, ← len_cl]; exact b)
    rw [e]
    exact q _ (List.mem_map_of_mem m)
  | _ => cases e
@[simp] theorem c_oneL {k : Nat} {es : List D} {mu : Mu} {Q : D → Mu → Prop} : C_one [.mu k, .lst es] mu Q = (mu[k]? = some (.any Bag) ∧ 0 < es.length ∧ es.length ≤ sizeLine ∧ ∀ e, InL e es → Q e mu) := by
  apply propext
  constructor
  · rintro ⟨k', d', es', e, e2, h⟩
    simp only [List.cons.injEq, D.mu.injEq, and_true] at e
    obtain ⟨rfl, rfl⟩ := e
    cases e2
    exact h
  · intro h
    exact ⟨k, _, es, rfl, rfl, h⟩
@[simp] theorem c_oneT {k : Nat} {es : List D} {mu : Mu} {Q : D → Mu → Prop} : C_one [.mu k, .tup es] mu Q = (mu[k]? = some (.any Bag) ∧ 0 < es.length ∧ es.length ≤ sizeLine ∧ ∀ e, InL e es → Q e mu) := by
  apply propext
  constructor
  · rintro ⟨k', d', es', e, e2, h⟩
    simp only [List.cons.injEq, D.mu.injEq, and_true] at e
    obtain ⟨rfl, rfl⟩ := e
    cases e2
    exact h
  · intro h
    exact ⟨k, _, es, rfl, rfl, h⟩
@[simp] theorem c_oneS {k : Nat} {z : Str} {mu : Mu} {Q : D → Mu → Prop} : C_one [.mu k, .str z] mu Q = (mu[k]? = some (.any Bag) ∧ 0 < z.length ∧ z.length ≤ sizeLine ∧ ∀ c ∈ cl z, Q (.str ⟨#[c]⟩) mu) := by
  apply propext
  constructor
  · rintro ⟨k', d', es', e, e2, h⟩
    simp only [List.cons.injEq, D.mu.injEq, and_true] at e
    obtain ⟨rfl, rfl⟩ := e
    cases e2
    rw [List.length_map, cl_def, ← len_cl] at h
    exact ⟨h.1, h.2.1, h.2.2.1, fun c hc => h.2.2.2 _ (List.mem_map_of_mem hc)⟩
  · intro h
    refine ⟨k, _, _, rfl, rfl, h.1, by rw [List.length_map, cl_def, ← len_cl]; exact h.2.1, by rw [List.length_map, cl_def, ← len_cl]; exact h.2.2.1, fun e he => ?_⟩
    obtain ⟨c, hc, rfl⟩ := List.mem_map.mp he
    exact h.2.2.2 c hc
/-! ### names -/
abbrev abc : Str := "abcdefghijklmnopqrstuvwxyz"
theorem abc_len : abc.length = 26 := by decide +kernel
/-- a name that the laws draw -/
structure Nm (z : Str) : Prop where
  let_ : ∀ c ∈ cl z, c ∈ cl abc
  lo : 1 ≤ z.length
  hi : z.length ≤ 8
  nd : z ≠ "done"
def T_names : SB := (sSeq (sAsg (dC (.str "abcdefghijklmnopqrstuvwxyz")) (.nm 2))
    (sSeq (sAsg (dMt "str" gJoin (dC (.str "")) (dCons (dLc (iRange1 (dCons (dCall C_number [] (dCons (dVar 0) (dCons (dC (.int 8)) dNil))) dNil)) (.nm 7) dYes (dCall C_one [] (dCons (dVar 0) (dCons (dVar 2) dNil))) [7]) dNil)) (.nm 3))
    (sSeq (sAsg (dCB gTupD (dCons (dCall C_number [] (dCons (dVar 0) (dCons (dOp gAdd (dCB gLen (dCons (dVar 3) dNil)) (dC (.int 1))) dNil))) (dCons (dCall C_number [] (dCons (dVar 0) (dCons (dC (.int 26)) dNil))) dNil))) (.tp [4, 5]))
    (sSeq (sAsg (dLc (iRange1 (dCons (dVar 1) dNil)) (.nm 7) dYes (dOp gAdd (dOp gAdd (dSl gSl (dVar 3) dNoPart (dPart (dVar 4))) (dOp gIx (dVar 2) (dOp gMod (dCB gInt1 (dCons (dOp gAdd (dVar 5) (dVar 7)) dNil)) (dC (.int 26))))) (dSl gSl (dVar 3) (dPart (dVar 4)) dNoPart)) [7]) (.nm 6))
    (sRet (dLc (iSeq (dVar 6)) (.nm 8) dYes (dIfE (dTest (dOp (gEqN true) (dVar 8) (dC (.str "done")))) (dVar 8) (dC (.str "donee"))) [8]))))))
def F_names : DF := fnD 9 T_names
def C_names : DF := fun ds mu Q => ∃ (k : Nat) (n : Nat), ds = [.mu k, .int n] ∧ mu[k]? = some (.any Bag) ∧ n ≤ 26 ∧ ∀ zs : List Str, zs.length = n → (∀ z ∈ zs, Nm z) → zs.Nodup → Q (.lst (zs.map D.str)) mu
theorem C_names_mo : MoF C_names := fun ds mu Q Q' f ⟨k, n, h1, h2, h3, h4⟩ => ⟨k, n, h1, h2, h3, fun zs a b c => f _ _ (h4 zs a b c)⟩
theorem signs_of : ∀ ys : List D, (∀ y ∈ ys, ∃ c ∈ cl abc, y = .str ⟨#[c]⟩) → ∃ cs : List Nat, (∀ c ∈ cs, c ∈ cl abc) ∧ ys = cs.map fun c => .str ⟨#[c]⟩
  | [], _ => ⟨[], by simp, rfl⟩
  | y :: ys, h => by
    obtain ⟨c, hc, e⟩ := h y List.mem_cons_self
    obtain ⟨cs, h1, h2⟩ := signs_of ys fun z hz => h z (List.mem_cons_of_mem _ hz)
    refine ⟨c :: cs, fun d hd => ?_, by rw [e, h2]; rfl⟩
    rcases List.mem_cons.mp hd with rfl | hd
    · exact hc
    · exact h1 d hd
theorem strsOf_map (zs : List Str) : strsOf (zs.map D.str) = some zs := by
  induction zs with
  | nil => rfl
  | cons z zs ih =>
    show (strsOf (zs.map D.str)).map (z :: ·) = _
    rw [ih]
    rfl
theorem g_join {a : Str} {zs : List Str} {mu : Mu} {Q : D → Mu → Prop} : gJoin (.str a) [.lst (zs.map D.str)] mu Q = ((zs.map Str.length).sum + zs.length * a.length ≤ 16777216 ∧ Q (.str (Txt.join a zs)) mu) := by
  show (match strsOf (zs.map D.str) with
      | some ys => (ys.map Str.length).sum + ys.length * a.length ≤ 16777216 ∧ Q (.str (Txt.join a ys)) mu
      | none => False) = _
  rw [strsOf_map]
/-- the k-th drawn name, ahead of the exchange of one word -/
def nameAt (st : Str) (at_ : Nat) (i : Nat) : Str := cutS st none (some (at_ : Int)) ++ ⟨#[(cl abc).getD (i % 26) 0]⟩ ++ cutS st (some (at_ : Int)) none
theorem cl_nameAt (st : Str) (at_ i : Nat) : cl (nameAt st at_ i) = (cl st).take at_ ++ (cl abc).getD (i % 26) 0 :: (cl st).drop at_ := by
  unfold nameAt
  rw [cl_append, cl_append, cl_take, cl_drop, cl_one]
  simp
theorem abc_get (i : Nat) : (cl abc)[i % 26]? = some ((cl abc).getD (i % 26) 0) := by
  have h : i % 26 < (cl abc).length := by
    rw [← len_cl, abc_len]
    exact Nat.mod_lt _ (by decide)
  rw [List.getD_eq_getElem?_getD, List.getElem?_eq_getElem h]
  rfl
theorem abc_mem (i : Nat) : (cl abc).getD (i % 26) 0 ∈ cl abc := List.mem_of_getElem? (abc_get i)
theorem abc_nodup : (cl abc).Nodup := by decide +kernel
def unDone (z : Str) : Str := if z = "done" then "donee" else z
theorem nameAt_ok {st : Str} {at_ i : Nat} (h : ∀ c ∈ cl st, c ∈ cl abc) (hl : st.length ≤ 7) : Nm (unDone (nameAt st at_ i)) := by
  unfold unDone
  split
  · exact ⟨by decide +kernel, by decide +kernel, by decide +kernel, by decide +kernel⟩
  · rename_i hd
    have e := cl_nameAt st at_ i
    have hlen : (nameAt st at_ i).length = st.length + 1 := by
      rw [len_cl, e, len_cl]
      simp
      omega
    refine ⟨fun c hc => ?_, by omega, by omega, hd⟩
    rw [e] at hc
    rcases List.mem_append.mp hc with hc | hc
    · exact h c (List.mem_of_mem_take hc)
    · rcases List.mem_cons.mp hc with rfl | hc
      · exact abc_mem i
      · exact h c (List.mem_of_mem_drop hc)
theorem nameAt_inj {st : Str} {at_ i j : Nat} (e : nameAt st at_ i = nameAt st at_ j) : i % 26 = j % 26 := by
  have h := congrArg cl e
  rw [cl_nameAt, cl_nameAt] at h
  have h2 := List.append_cancel_left h
  simp only [List.cons.injEq, and_true] at h2
  have a := abc_get i
  have b := abc_get j
  rw [h2] at a
  exact nd_ix abc_nodup a b
theorem unDone_inj {st : Str} {at_ i j : Nat} (e : unDone (nameAt st at_ i) = unDone (nameAt st at_ j)) : nameAt st at_ i = nameAt st at_ j := by
  have hlen : ∀ i, (nameAt st at_ i).length = st.length + 1 := fun i => by
    rw [len_cl, cl_nameAt, len_cl]
    simp
    omega
  unfold unDone at e
  split at e
  · rename_i h1
    split at e
    · rename_i h2
      rw [h1, h2]
    · have z1 := hlen i
      have z2 := hlen j
      rw [h1] at z1
      rw [← e] at z2
      have q1 : (Str.ofString "done").length = 4 := by decide +kernel
      have q2 : (Str.ofString "donee").length = 5 := by decide +kernel
      omega
  · split at e
    · rename_i h2
      have z1 := hlen i
      have z2 := hlen j
      rw [h2] at z2
      rw [e] at z1
      have q1 : (Str.ofString "done").length = 4 := by decide +kernel
      have q2 : (Str.ofString "donee").length = 5 := by decide +kernel
      omega
    · exact e
theorem names_nodup {st : Str} {at_ f n : Nat} (hn : n ≤ 26) : ((List.range n).map fun i => unDone (nameAt st at_ (f + i))).Nodup := by
  refine List.pairwise_map.mpr (List.Pairwise.imp_of_mem (fun {i j} hi hj hij e => ?_) (List.nodup_range (n := n)))
  rw [List.mem_range] at hi hj
  have := nameAt_inj (unDone_inj e)
  omega
def mkName (st : Str) (a f : Nat) : D → D
  | .int i => .str (nameAt st a (f + i.toNat))
  | _ => .non
def mkDone : D → D
  | .str z => .str (unDone z)
  | _ => .non
theorem names_ok (ds : List D) (mu : Mu) (Q : D → Mu → Prop) (h : C_names ds mu Q) : F_names ds mu Q := by
  obtain ⟨k, n, rfl, hk, hn, q⟩ := h
  have hz : 26 ≤ sizeLine := by decide
  simp [F_names, T_names, startD, hk, e_next, e_seq, e_break, e_cont, e_drop, e_ret, e_retN, e_if, e_never, e_asg, e_par, e_for, e_setIx, e_fn]
  refine ⟨rfl, fun r r0 r8 => ⟨⟨by omega, by omega⟩, by simp [rangeD]; omega, ?_⟩⟩
  refine lcGo_all (P := fun _ y => ∃ c ∈ cl abc, y = .str ⟨#[c]⟩) _ _ (fun d _ R hR => ?_) (fun ys hl hp => ?_)
  · simp [hk]
    refine ⟨by show 0 < abc.length; rw [abc_len]; decide, by show abc.length ≤ _; rw [abc_len]; exact hz, fun c hc => hR _ ⟨c, hc, rfl⟩⟩
  · have hp2 : ∀ y ∈ ys, ∃ c ∈ cl abc, y = .str ⟨#[c]⟩ := fun y hy => by
      obtain ⟨i, hi, e⟩ := List.mem_iff_getElem.mp hy
      have hi2 : i < (rangeD 0 r.toNat).length := by rw [← hl]; exact hi
      exact hp ((rangeD 0 r.toNat)[i], y) (by
        rw [List.mem_iff_getElem]
        exact ⟨i, by rw [List.length_zip]; omega, by rw [List.getElem_zip, e]⟩)
    obtain ⟨cs, hcs, rfl⟩ := signs_of ys hp2
    have hlen : cs.length ≤ 7 := by
      rw [List.length_map] at hl
      rw [hl]
      simp [rangeD]
      omega
    have es : (cs.map fun c => D.str ⟨#[c]⟩) = (cs.map fun c => (⟨#[c]⟩ : Str)).map D.str := by simp
    rw [List.nil_append, es, g_join]
    have ecl : cl (Txt.join (Str.ofString "") (cs.map fun c => (⟨#[c]⟩ : Str))) = cs := by
      rw [cl_join0]
      clear hl hp hp2 hcs hlen es
      induction cs with
      | nil => rfl
      | cons c cs ih =>
        rw [List.map_cons, List.flatMap_cons, ih]
        rfl
    refine ⟨?_, ?_⟩
    · have e0 : (Str.ofString "").length = 0 := by decide +kernel
      rw [e0]
      have : ((cs.map fun c => (⟨#[c]⟩ : Str)).map Str.length).sum = cs.length := by
        clear hl hp hp2 hcs hlen es ecl e0
        induction cs with
        | nil => rfl
        | cons c cs ih =>
          rw [List.map_cons, List.map_cons, List.sum_cons, ih, List.length_cons]
          show 1 + _ = _
          omega
      rw [this]
      simp
      omega
    · generalize Txt.join (Str.ofString "") (cs.map fun c => (⟨#[c]⟩ : Str)) = st at ecl
      have hst : ∀ c ∈ cl st, c ∈ cl abc := by rw [ecl]; exact hcs
      have hsl : st.length ≤ 7 := by rw [len_cl, ecl]; exact hlen
      have hss : st.length ≤ sizeLine := by omega
      simp [hk, hss, e_next, e_seq, e_break, e_cont, e_drop, e_ret, e_retN, e_if, e_never, e_asg, e_par, e_for, e_setIx, e_fn]
      have lt : (st.length : Int) + 1 < 1073741824 := by omega
      simp [lt, hk, hss, e_next, e_seq, e_break, e_cont, e_drop, e_ret, e_retN, e_if, e_never, e_asg, e_par, e_for, e_setIx, e_fn]
      refine fun a a0 a1 f f0 f1 => ⟨by omega, by simp [rangeD]; omega, ?_⟩
      obtain ⟨a, rfl⟩ := Int.eq_ofNat_of_zero_le a0
      obtain ⟨f, rfl⟩ := Int.eq_ofNat_of_zero_le f0
      refine lcGo_map (f := mkName st a f) _ _ (fun d hd R hR => ?_) ?_
      · unfold rangeD at hd
        obtain ⟨i, hi, rfl⟩ := List.mem_map.mp hd
        rw [List.mem_range] at hi
        have z1 : (0 + (i : Int)).toNat = i := by omega
        simp [hss]
        have ea : atI abc.cps.toList (((f : Int) + (i : Int)) % 26) = some ((cl abc).getD ((f + i) % 26) 0) := by
          have : ((f : Int) + (i : Int)) % 26 = (((f + i) % 26 : Nat) : Int) := by omega
          rw [this]
          exact atI_nat (abc_get (f + i))
        refine ⟨by show abc.length ≤ _; rw [abc_len]; exact hz, ?_⟩
        rw [ea]
        simp
        have l1 : (cutS st none (some (a : Int))).length ≤ 7 := by
          rw [len_cl, cl_take]
          rw [len_cl] at hsl
          simp
          omega
        have l2 : (cutS st (some (a : Int)) none).length ≤ 7 := by
          rw [len_cl, cl_drop]
          rw [len_cl] at hsl
          simp
          omega
        have l3 : (⟨#[(cl abc).getD ((f + i) % 26) 0]⟩ : Str).length = 1 := rfl
        have l4 : (cutS st none (some (a : Int)) ++ ⟨#[(cl abc).getD ((f + i) % 26) 0]⟩ : Str).length ≤ 8 := by
          rw [len_cl, cl_append, List.length_append, ← len_cl, ← len_cl, l3]
          omega
        simp only [List.getD_eq_getElem?_getD] at l3 l4
        refine ⟨by omega, by omega, ?_⟩
        simp [mkName] at hR
        exact hR
      · refine ⟨by simp [rangeD]; omega, ?_⟩
        refine lcGo_map (f := mkDone) _ _ (fun d hd R hR => ?_) ?_
        · simp only [List.nil_append] at hd
          obtain ⟨e, he, rfl⟩ := List.mem_map.mp hd
          unfold rangeD at he
          obtain ⟨i, hi, rfl⟩ := List.mem_map.mp he
          simp [mkName]
          simp [mkName, mkDone] at hR
          unfold unDone at hR
          split
          · rename_i h
            rw [if_pos h] at hR
            exact hR
          · rename_i h
            rw [if_neg h] at hR
            exact hR
        · have e : ([] ++ ([] ++ (rangeD 0 n).map (mkName st a f)).map mkDone) = ((List.range n).map fun i => unDone (nameAt st a (f + i))).map D.str := by
            unfold rangeD
            simp [mkName, mkDone]
          rw [e]
          refine q _ (by simp) (fun z hz => ?_) (names_nodup hn)
          obtain ⟨i, _, rfl⟩ := List.mem_map.mp hz
          exact nameAt_ok hst hsl
end Lw

namespace DL
open PySem PySem.Spec PyProof.Rows L2
@[simp] theorem kd_int : kdOf "int" = some .int := by decide
@[simp] theorem kd_bool : kdOf "bool" = some .bl := by decide
@[simp] theorem kd_str : kdOf "str" = some .str := by decide
@[simp] theorem kd_list : kdOf "list" = some .lst := by decide
@[simp] theorem kd_tuple : kdOf "tuple" = some .tup := by decide
@[simp] theorem kd_dict : kdOf "dict" = some .dct := by decide
section
variable {mu : Mu} {Q : D → Mu → Prop}
@[simp] theorem kdD_non : kdD mu .non = some .non := rfl
@[simp] theorem kdD_bl {b : Bool} : kdD mu (.bl b) = some .bl := rfl
@[simp] theorem kdD_int {i : Int} : kdD mu (.int i) = some .int := rfl
@[simp] theorem kdD_str {z : Str} : kdD mu (.str z) = some .str := rfl
@[simp] theorem kdD_tup {ds : List D} : kdD mu (.tup ds) = some .tup := rfl
@[simp] theorem kdD_lst {ds : List D} : kdD mu (.lst ds) = some .lst := rfl
@[simp] theorem g_isi {a : D} {n : String} : gIsi [a, .ty n] mu Q = match kdD mu a, kdOf n with
    | some k, some k' => Q (.bl (isK k k')) mu
    | _, _ => False := rfl
@[simp] theorem g_isiT {a : D} {ts : List D} : gIsi [a, .tup ts] mu Q = match kdD mu a, kdsOf ts with
    | some k, some ks => Q (.bl (ks.any (isK k))) mu
    | _, _ => False := rfl
@[simp] theorem kds0 : kdsOf [] = some [] := rfl
@[simp] theorem kdsS {n : String} {r : List D} : kdsOf (.ty n :: r) = match kdOf n, kdsOf r with
    | some k, some ks => some (k :: ks)
    | _, _ => none := rfl
end
end DL
namespace Lw
open PySem PySem.Spec PyProof.Rows L2 DL
def T_equal (F : DF) : SB := (sSeq (sIf (dTest (dCB gIsi (dCons (dVar 1) (dCons (dCB gTupD (dCons (dC (.ty "list")) (dCons (dC (.ty "tuple")) dNil))) dNil)))) (sSeq (sIf (dOr (dTest (dOp (gEqN true) (dCB gIsi (dCons (dVar 0) (dCons (dC (.ty "list")) dNil))) (dCB gIsi (dCons (dVar 1) (dCons (dC (.ty "list")) dNil))))) (dTest (dOp (gEqN true) (dCB gIsi (dCons (dVar 0) (dCons (dC (.ty "tuple")) dNil))) (dCB gIsi (dCons (dVar 1) (dCons (dC (.ty "tuple")) dNil)))))) (sRet (dC (.bl false))) sNext)
    (sRet (dAndV (dOp (gEqN false) (dCB gLen (dCons (dVar 0) dNil)) (dCB gLen (dCons (dVar 1) dNil))) (dCB gAllB (dCons (dLc (iZipD (dCons (dVar 0) (dCons (dVar 1) dNil))) (.tp [2, 3]) dYes (dCall F [] (dCons (dVar 2) (dCons (dVar 3) dNil))) [2, 3]) dNil))))) sNext)
    (sSeq (sIf (dOr (dTest (dOp (gIsN false) (dVar 0) (dC .non))) (dOr (dTest (dOp (gIsN false) (dVar 1) (dC .non))) (dTest (dOp (gEqN true) (dCB gIsi (dCons (dVar 0) (dCons (dC (.ty "bool")) dNil))) (dCB gIsi (dCons (dVar 1) (dCons (dC (.ty "bool")) dNil))))))) (sRet (dAndV (dOp (gIsN false) (dVar 0) (dC .non)) (dOp (gIsN false) (dVar 1) (dC .non)))) sNext)
    (sRet (dAndV (dOp (gEqN false) (dCB gIsi (dCons (dVar 0) (dCons (dC (.ty "int")) dNil))) (dCB gIsi (dCons (dVar 1) (dCons (dC (.ty "int")) dNil)))) (dAndV (dOp (gEqN false) (dCB gIsi (dCons (dVar 0) (dCons (dC (.ty "str")) dNil))) (dCB gIsi (dCons (dVar 1) (dCons (dC (.ty "str")) dNil)))) (dOp (gEqN false) (dVar 0) (dVar 1)))))))
def F_equal : Nat → DF
  | 0 => fun _ _ _ => False
  | n + 1 => fnD 4 (T_equal (F_equal n))
mutual
def beqD : D → D → Bool
  | .non, .non => true
  | .bl a, .bl b => decide (a = b)
  | .int a, .int b => decide (a = b)
  | .str a, .str b => decide (a = b)
  | .tup xs, .tup ys => beqL xs ys
  | .lst xs, .lst ys => beqL xs ys
  | _, _ => false
def beqL : List D → List D → Bool
  | [], [] => true
  | x :: xs, y :: ys => beqD x y && beqL xs ys
  | _, _ => false
end
mutual
def plain : D → Bool
  | .non => true
  | .bl _ => true
  | .int _ => true
  | .str _ => true
  | .tup ds => plainL ds
  | .lst ds => plainL ds
  | _ => false
def plainL : List D → Bool
  | [] => true
  | d :: ds => plain d && plainL ds
end
mutual
def dep : D → Nat
  | .tup ds => depL ds + 1
  | .lst ds => depL ds + 1
  | _ => 0
def depL : List D → Nat
  | [] => 0
  | d :: ds => max (dep d) (depL ds)
end
mutual
theorem beqD_refl : ∀ d : D, plain d = true → beqD d d = true
  | .non, _ => rfl
  | .bl _, _ => by simp [beqD]
  | .int _, _ => by simp [beqD]
  | .str _, _ => by simp [beqD]
  | .tup ds, h => by
    simp only [plain] at h
    simp only [beqD]
    exact beqL_refl ds h
  | .lst ds, h => by
    simp only [plain] at h
    simp only [beqD]
    exact beqL_refl ds h
  | .ty _, h => by simp [plain] at h
  | .fn _, h => by simp [plain] at h
  | .fls _, h => by simp [plain] at h
  | .dct _ _, h => by simp [plain] at h
  | .obj _ _ _, h => by simp [plain] at h
  | .mu _, h => by simp [plain] at h
theorem beqL_refl : ∀ ds : List D, plainL ds = true → beqL ds ds = true
  | [], _ => rfl
  | d :: ds, h => by
    simp only [plainL, Bool.and_eq_true] at h
    simp only [beqL, Bool.and_eq_true]
    exact ⟨beqD_refl d h.1, beqL_refl ds h.2⟩
end
theorem plainL_mem : ∀ {ds : List D} {d : D}, plainL ds = true → d ∈ ds → plain d = true
  | e :: ds, d, h, m => by
    simp only [plainL, Bool.and_eq_true] at h
    rcases List.mem_cons.mp m with rfl | m
    · exact h.1
    · exact plainL_mem h.2 m
theorem depL_mem : ∀ {ds : List D} {d : D}, d ∈ ds → dep d ≤ depL ds
  | e :: ds, d, m => by
    simp only [depL]
    rcases List.mem_cons.mp m with rfl | m
    · omega
    · have := depL_mem m
      omega
def pairEq : D → D
  | .tup [a, b] => .bl (beqD a b)
  | _ => .non
theorem bools_pairs : ∀ xs ys : List D, xs.length = ys.length → ∃ bs, boolsOf ((pairsD xs ys).map pairEq) = some bs ∧ bs.all id = beqL xs ys
  | [], [], _ => ⟨[], rfl, rfl⟩
  | x :: xs, y :: ys, h => by
    obtain ⟨bs, h1, h2⟩ := bools_pairs xs ys (by simpa using h)
    refine ⟨beqD x y :: bs, ?_, by simp [beqL, h2]⟩
    show (boolsOf ((pairsD xs ys).map pairEq)).map (beqD x y :: ·) = _
    rw [h1]
    rfl
  | [], _ :: _, h => by simp at h
  | _ :: _, [], h => by simp at h
theorem beqL_len : ∀ {xs ys : List D}, xs.length ≠ ys.length → beqL xs ys = false
  | [], [], h => absurd rfl h
  | [], _ :: _, _ => rfl
  | _ :: _, [], _ => rfl
  | x :: xs, y :: ys, h => by
    simp only [beqL]
    rw [beqL_len (by simpa using h), Bool.and_false]
def C_equal (n : Nat) : DF := fun ds mu Q => ∃ a b, ds = [a, b] ∧ plain a = true ∧ plain b = true ∧ dep b < n ∧ Q (.bl (beqD a b)) mu
theorem C_equal_mo (n : Nat) : MoF (C_equal n) := fun ds mu Q Q' f ⟨a, b, h1, h2, h3, h4, h5⟩ => ⟨a, b, h1, h2, h3, h4, f _ _ h5⟩
theorem wfL_mem : ∀ {ds : List D} {d : D}, wfL ds → d ∈ ds → wfD d
  | e :: ds, d, h, m => by
    simp only [wfL] at h
    rcases List.mem_cons.mp m with rfl | m
    · exact h.1
    · exact wfL_mem h.2 m
theorem pairs_len {xs ys : List D} (h : xs.length ≤ sizeLine) : (pairsD xs ys).length ≤ sizeLine := by
  unfold pairsD
  rw [List.length_map, List.length_zip]
  omega
section
variable {n : Nat} {mu : Mu} {R : D → Mu → Prop} {xs ys : List D} {sl : Sl} (ih : ∀ a b (Q : D → Mu → Prop), wfD a → wfD b → plain a = true → plain b = true → dep b < n → Q (.bl (beqD a b)) mu → F_equal n [a, b] mu Q)
include ih
theorem equal_seq {a b : D} {Q : D → Mu → Prop} (wx : wfL xs) (wy : wfL ys) (hx : plainL xs = true) (hy : plainL ys = true) (hd : depL ys < n) (hl : xs.length = ys.length) (q : Q (.bl (beqL xs ys)) mu) :
    lcGo (.tp [2, 3]) dYes (dCall (F_equal n) [] (dCons (dVar 2) (dCons (dVar 3) dNil))) [some a, some b, none, none] (fun acc m => gAllB [.lst acc] m Q) (pairsD xs ys) [] mu := by
  refine lcGo_map (f := pairEq) _ _ (fun d hd' R' hR => ?_) ?_
  · unfold pairsD at hd'
    obtain ⟨p, hp, rfl⟩ := List.mem_map.mp hd'
    have m1 := (List.of_mem_zip hp).1
    have m2 := (List.of_mem_zip hp).2
    simp
    exact ih _ _ _ (wfL_mem wx m1) (wfL_mem wy m2) (plainL_mem hx m1) (plainL_mem hy m2) (by have := depL_mem m2; omega) hR
  · obtain ⟨bs, h1, h2⟩ := bools_pairs xs ys hl
    rw [List.nil_append]
    unfold gAllB
    rw [g_bools0 h1, h2]
    exact q
end
theorem equal_ok0 : ∀ (n : Nat) (mu : Mu) (a b : D) (Q : D → Mu → Prop), wfD a → wfD b → plain a = true → plain b = true → dep b < n → Q (.bl (beqD a b)) mu → F_equal n [a, b] mu Q
  | 0, _, _, _, _, _, _, _, _, h, _ => absurd h (Nat.not_lt_zero _)
  | n + 1, mu, a, b, Q, wa, wb, ha, hb, hd, q => by
    have ih := equal_ok0 n mu
    have z2 : 2 ≤ sizeLine := by decide
    unfold F_equal
    cases b with
    | tup ys =>
      simp only [dep] at hd
      simp only [plain] at hb
      simp only [wfD] at wb
      cases a with
      | tup xs =>
        simp only [plain] at ha
        simp only [beqD] at q
        simp only [wfD] at wa
        simp [T_equal, startD, isK, z2, e_next, e_seq, e_break, e_cont, e_drop, e_ret, e_retN, e_if, e_never, e_asg, e_par, e_for, e_setIx, e_fn]
        split
        · rename_i e
          have e2 : xs.length = ys.length := by omega
          exact ⟨pairs_len wa.1, equal_seq ih wa.2 wb.2 ha hb (by omega) e2 q⟩
        · rename_i e
          rw [beqL_len (by omega)] at q
          exact q
      | non | bl _ | int _ | str _ | lst _ =>
        simp only [beqD] at q
        simp [T_equal, startD, isK, z2, e_next, e_seq, e_break, e_cont, e_drop, e_ret, e_retN, e_if, e_never, e_asg, e_par, e_for, e_setIx, e_fn]
        exact q
      | _ => simp [plain] at ha
    | lst ys =>
      simp only [dep] at hd
      simp only [plain] at hb
      simp only [wfD] at wb
      cases a with
      | lst xs =>
        simp only [plain] at ha
        simp only [beqD] at q
        simp only [wfD] at wa
        simp [T_equal, startD, isK, z2, e_next, e_seq, e_break, e_cont, e_drop, e_ret, e_retN, e_if, e_never, e_asg, e_par, e_for, e_setIx, e_fn]
        split
        · rename_i e
          have e2 : xs.length = ys.length := by omega
          exact ⟨pairs_len wa.1, equal_seq ih wa.2 wb.2 ha hb (by omega) e2 q⟩
        · rename_i e
          rw [beqL_len (by omega)] at q
          exact q
      | non | bl _ | int _ | str _ | tup _ =>
        simp only [beqD] at q
        simp [T_equal, startD, isK, z2, e_next, e_seq, e_break, e_cont, e_drop, e_ret, e_retN, e_if, e_never, e_asg, e_par, e_for, e_setIx, e_fn]
        exact q
      | _ => simp [plain] at ha
    | non | bl _ | int _ | str _ =>
      cases a with
      | non | bl _ | int _ | str _ | tup _ | lst _ =>
        simp only [beqD] at q
        simp [T_equal, startD, isK, z2, DL.isNon, e_next, e_seq, e_break, e_cont, e_drop, e_ret, e_retN, e_if, e_never, e_asg, e_par, e_for, e_setIx, e_fn]
        exact q
      | _ => simp [plain] at ha
    | _ => simp [plain] at hb
theorem equal_ok (n : Nat) (ds : List D) (mu : Mu) (Q : D → Mu → Prop) (h : C_equal n ds mu Q) : wfF (F_equal n) ds mu Q := by
  obtain ⟨a, b, rfl, ha, hb, hd, q⟩ := h
  intro w
  simp only [wfL] at w
  exact equal_ok0 n mu a b Q w.1 w.2.1 ha hb hd q
@[simp] theorem c_equal {n : Nat} {a b : D} {mu : Mu} {Q : D → Mu → Prop} : C_equal n [a, b] mu Q = (plain a = true ∧ plain b = true ∧ dep b < n ∧ Q (.bl (beqD a b)) mu) := by
  apply propext
  constructor
  · rintro ⟨a', b', e, h⟩
    simp only [List.cons.injEq, and_true] at e
    obtain ⟨rfl, rfl⟩ := e
    exact h
  · intro h
    exact ⟨a, b, rfl, h⟩
end Lw

namespace DL
open PySem PySem.Spec PyProof.Rows L2
/-! ### a dict of the module's top, only read: x.get(key, other) -/
/-- what a written dict with text keys holds -/
structure KTab (K : PySem.W.Frag) (w : World) (a : Addr) (tab : List (Str × V)) : Prop where
  ex : ∃ es n, KDict K w a es n ∧ ∀ z : Str, RelO (tab.lookup z) (findBy Value.isStrOf es z)
def tKGet2 (a : Addr) (tab : List (Str × V)) (ty tx : TE) : TE := fun σ H Q => ty σ H fun y H2 => tx σ H2 fun z H3 => ∃ s, y = .str s ∧ Q ((tab.lookup s).getD z) H3
section
variable {X : Cx} {e f : Expr} {y : Str} {p apos cpos : Pos} {ty tx : TE} {a : Addr} {tab : List (Str × V)}
theorem pe_kget2 (T : KTab X.K X.w a tab) (hg : Gl X y) (hm : X.mg y = some (.ref a)) (he : PE X e ty) (hf : PE X f tx) (m : M2 X (.Name y p) "get" apos e f cpos) (hdb : (y == ("__debug__" : Str)) = false := by decide) :
    PE X (.Call (.Attribute (.Name y p) "get" apos) [e, f] [] cpos) (tKGet2 a tab ty tx) := by
  obtain ⟨es, n, D, hF⟩ := T.ex
  refine ⟨fun pins s σ H Q I h => ?_⟩
  refine wpAny_Call_method m.base m.few m.line PySem.F.plainAttrs_dict PySem.F.slot_dict_get PySem.F.type_dict_get (ld_glob I hg hm ?_ hdb)
  have mo : s.heap.MapOf (strKind X.prog X.w) a (fun k => findBy Value.isStrOf es k) := PySem.W.mapOf_K I.kIn D.at_ D.lit
  refine ⟨mo.typeIs, fun b eb => ?_, ?_⟩
  · cases eb
    exact ⟨_, I.kIn a _ D.at_, rfl⟩
  rw [m.trees]
  refine Calls.callWith_builtin rfl (Calls.evalArgs_plain (Calls.spliced_cons (thn (he.run pins s σ H _ I h) fun iv s2 ⟨v, H2, I2, ry, q2⟩ =>
    Calls.spliced_cons (thn (hf.run pins s2 σ H2 _ I2 q2) fun fv s3 ⟨z, H3, I3, rz, sx, ev, q3⟩ => Calls.spliced_nil ?_))))
  subst ev
  obtain ⟨t, rfl⟩ := ry
  have mo3 : s3.heap.MapOf (strKind X.prog X.w) a (fun k => findBy Value.isStrOf es k) := PySem.W.mapOf_K I3.kIn D.at_ D.lit
  refine call_meetsIn PySem.F.slot_dict_get mo3.typeIs PySem.F.entry_dict_get (PySem.F.args_dict_get_3 _ _ _) (meets_dict_get_default (strKind X.prog X.w) a (PySem.strKind_is X.prog X.w sx t) D.low fv) ⟨_, mo3, ?_⟩
  refine ⟨_, H3, I3.tok _, ?_, q3⟩
  have r := hF sx
  cases q1 : tab.lookup sx with
  | none =>
    rw [q1] at r
    rw [r.none_of]
    exact rz
  | some v1 =>
    rw [q1] at r
    obtain ⟨u, e1, r1⟩ := r.some_of
    rw [e1]
    exact r1
end
/-! from the head's facts -/
def tabGo : List DictEntry → List (Str × V) → Bool
  | [], [] => true
  | e :: es, q :: t => (match e.key with
    | .str y _ => decide (y = q.1)
    | _ => false) && (He.relB q.2 e.val && tabGo es t)
  | _, _ => false
def tabB (K : PySem.W.Frag) (a : Addr) (tab : List (Str × V)) : Bool := match K.lookup a with
  | some ⟨_, _, .dict es _, _⟩ => tabGo es.toList tab
  | _ => false
theorem tabGo_ok (z : Str) : ∀ (es : List DictEntry) (tab : List (Str × V)), tabGo es tab = true → RelO (tab.lookup z) ((es.find? fun e => Value.isStrOf z e.key).map (·.val))
  | [], [], _ => trivial
  | [], _ :: _, h => by cases h
  | _ :: _, [], h => by cases h
  | e :: es, q :: t, h => by
    simp only [tabGo, Bool.and_eq_true] at h
    obtain ⟨h1, h2, h3⟩ := h
    obtain ⟨k, ha, vl⟩ := e
    cases ha with
    | str y tk =>
      have ey : y = q.1 := of_decide_eq_true h1
      obtain ⟨q1, q2⟩ := q
      simp only at ey
      subst ey
      rw [List.lookup_cons, List.find?_cons]
      by_cases c : z = y
      · subst c
        have e1 : (z == z) = true := by simp
        have e2 : Value.isStrOf z (Value.str z tk) = true := by simp [Value.isStrOf]
        rw [e1]
        simp only [e2]
        exact He.relB_ok h2
      · have e1 : (z == y) = false := by simp [c]
        have e2 : Value.isStrOf z (Value.str y tk) = false := by
          simp only [Value.isStrOf]
          first
            | exact beq_eq_false_iff_ne.mpr (fun q => c q.symm)
            | exact beq_eq_false_iff_ne.mpr c
            | exact decide_eq_false (fun q => c q.symm)
            | exact decide_eq_false c
        rw [e1]
        simp only [e2]
        exact tabGo_ok z es t h3
    | _ => cases h1
theorem ktab_ok {K : PySem.W.Frag} {w : World} {a : Addr} {tab : List (Str × V)} (h : ∃ es n, KDict K w a es n) (b : tabB K a tab = true) : KTab K w a tab := by
  obtain ⟨es, n, D⟩ := h
  unfold tabB at b
  rw [D.at_] at b
  refine ⟨es, n, D, fun z => ?_⟩
  have := tabGo_ok z es.toList tab b
  unfold findBy
  rw [← Array.find?_toList]
  exact this
theorem tat_of {K : PySem.W.Frag} {a : Addr} {vs : List V} (h : ∀ H, SqT K H a vs) (r x : List Addr) (H : Hp) : TAt K r x H a vs := by
  rcases h (fun _ => none) with (h | ⟨o, h⟩) | h
  · cases h
  · cases h
  · exact .inr h
theorem de_globT {X : Cx} {y : Str} {ds : List D} {vs : List V} {pos : Pos} (hg : Gl X y) (h : ∃ a, X.mg y = some (.ref a) ∧ ∀ H, SqT X.K H a vs) (hd : ∀ r x H, DenL X.K r x H ds vs) (hdb : (y == ("__debug__" : Str)) = false := by decide) : DE X (.Name y pos) (dC (.tup ds)) := by
  obtain ⟨a, e, q⟩ := h
  refine de_globK (v := .ref a) hg e rfl (fun r x H => ?_) hdb
  simp only [Den]
  exact ⟨a, vs, rfl, tat_of q r x H, hd r x H⟩
def intTab (t : List (Str × Int)) : List (Str × V) := t.map fun q => (q.1, .int q.2)
theorem lookup_intTab (t : List (Str × Int)) (z : Str) : (intTab t).lookup z = (t.lookup z).map V.int := by
  induction t with
  | nil => rfl
  | cons q t ih =>
    obtain ⟨a, b⟩ := q
    show List.lookup z ((a, V.int b) :: intTab t) = _
    rw [List.lookup_cons, List.lookup_cons, ih]
    cases (z == a) <;> rfl
def dKGet (t : List (Str × Int)) (Ty Tx : ET) : ET := fun sl mu Q => Ty sl mu fun y m1 => Tx sl m1 fun z m2 => match y with
  | .str s => Q (match t.lookup s with
    | some i => .int i
    | none => z) m2
  | _ => False
theorem de_kget {X : Cx} {e f : Expr} {y : Str} {p apos cpos : Pos} {Ty Tx : ET} {t : List (Str × Int)} (hg : Gl X y) (h : ∃ a, X.mg y = some (.ref a) ∧ KTab X.K X.w a (intTab t)) (he : DE X e Ty) (hf : DE X f Tx) (m : M2 X (.Name y p) "get" apos e f cpos := by exact ⟨rfl, rfl, rfl, rfl⟩) (hdb : (y == ("__debug__" : Str)) = false := by decide) :
    DE X (.Call (.Attribute (.Name y p) "get" apos) [e, f] [] cpos) (dKGet t Ty Tx) := by
  obtain ⟨a, em, T⟩ := h
  refine ⟨peMono (pe_kget2 T hg em he.pe hf.pe m hdb) fun σ H Q ⟨r, x, sl, mu, R, q⟩ => ⟨r, x, sl, mu, R, he.mo _ _ _ _ (fun d m q1 r1 H1 v e1 m1 d1 => ?_) q⟩, fun sl mu Q Q' f q => he.mo _ _ _ _ (fun d m q => hf.mo _ _ _ _ (fun d' m' q => ?_) q) q⟩
  · refine ⟨r1, x, sl, m, R.ext e1 m1, hf.mo _ _ _ _ (fun d' m' q2 r2 H2 w e2 m2 d2 => ?_) q1⟩
    cases d with
    | str s =>
      simp only [Den] at d1
      refine ⟨s, d1, ?_⟩
      rw [lookup_intTab]
      have q2 : Qd X.K r x H Q (match t.lookup s with
        | some i => D.int i
        | none => d') m' := q2
      cases c : t.lookup s with
      | none =>
        rw [c] at q2
        exact q2 r2 H2 w (e1.trans e2) m2 d2
      | some i =>
        rw [c] at q2
        exact q2 r2 H2 (.int i) (e1.trans e2) m2 rfl
    | _ => exact q2.elim
  · cases d <;> first | exact f _ _ q | exact q
end DL

namespace DL
open PySem PySem.Spec PyProof.Rows L2
/-! ### x in a list or tuple of data, nested -/
open Classical in
noncomputable def eqR (h : Heap) (e : PyData) (u : Value) : Bool := decide (∃ d as, Reads h u d as ∧ SeqAt.shaped d = true ∧ PyData.eqv d e = true)
open Classical in
theorem eqR_of {h : Heap} {e d : PyData} {u : Value} {as : List Addr} (r : Reads h u d as) (sd : SeqAt.shaped d = true) : eqR h e u = PyData.eqv d e := by
  unfold eqR
  cases q : PyData.eqv d e with
  | true => exact decide_eq_true ⟨d, as, r, sd, q⟩
  | false =>
    refine decide_eq_false ?_
    rintro ⟨d', as', r', sd', q'⟩
    have := SeqAt.Reads.unique d d' u as as' (SeqAt.canLay_of_shaped sd) r r'
    subst this
    rw [q] at q'
    cases q'
theorem any_eqR {h : Heap} {e : PyData} : ∀ {us : List Value} {ds : List PyData} {as : List Addr}, ReadsAll h us ds as → ds.all SeqAt.shaped = true → us.any (eqR h e) = ds.any fun d => PyData.eqv d e
  | _, _, _, .nil, _ => rfl
  | _, _, _, .cons r t, f => by
    rw [List.all_cons, Bool.and_eq_true] at f
    rw [List.any_cons, List.any_cons, eqR_of r f.1, any_eqR t f.2]
theorem mem_eqR {A : Around} {s : Shared} {e : PyData} {v : Value} {bs : List Addr} (rv : Reads s.heap v e bs) (se : SeqAt.shaped e = true) (hu : A.units + e.depth < cLine) : ∀ {us : List Value} {ds : List PyData} {as : List Addr}, ReadsAll s.heap us ds as → ds.all SeqAt.shaped = true → ∀ u ∈ us, SeqAt.EqAt A s u v (eqR s.heap e u)
  | _, _, _, .nil, _ => fun u hu => by cases hu
  | _, _, _, .cons r t, f => fun u hu' => by
    rw [List.all_cons, Bool.and_eq_true] at f
    rcases List.mem_cons.mp hu' with rfl | h
    · rw [eqR_of r f.1]
      exact SeqAt.eqAt_reads _ _ A s _ _ _ _ r rv (SeqAt.canLay_of_shaped f.1) (SeqAt.canLay_of_shaped se) (by
        have := Nat.min_le_right (PyData.depth (by assumption)) e.depth
        omega)
    · exact mem_eqR rv se hu t f.2 u h
def rInD (K : PySem.W.Frag) (neg : Bool) : R2 := fun x y H Q => ∃ p xs e ds, y = .ref p ∧ (SqL K H p xs ∨ SqT K H p xs) ∧ Dp K H x e ∧ DpAll K H xs ds ∧ SeqAt.shaped e = true ∧ e.depth ≤ 32 ∧ ds.all SeqAt.shaped = true ∧ Q (.bl (if neg then !ds.any (fun d => PyData.eqv d e) else ds.any (fun d => PyData.eqv d e))) H
section
variable {X : Cx}
theorem op_inD (hu : X.A.units + 64 < cLine) : OpR X (compareOp .In) (rInD X.K false) := by
  intro pins s σ H x y v u Q I rx ry h
  obtain ⟨p, xs, e, ds, rfl, hq, hx, hs, se, de, sd, q⟩ := h
  cases ry
  obtain ⟨bs, rv⟩ := Dp.reads I e x v hx rx
  have hu1 : X.A.in1.units + e.depth < cLine := by
    have : X.A.in1.units ≤ X.A.units + 1 := by first | exact Nat.le_refl _ | (simp [Around.in1, Around.units] <;> omega)
    omega
  rcases hq with hq | hq
  · obtain ⟨its, r, pl, hz⟩ := I.list hq
    obtain ⟨as, ra⟩ := Dp.readsAll I ds xs its hs r
    refine SeqAt.in_listAt (eqR s.heap e) pl.isList (fun w hw => mem_eqR rv se hu1 ra sd w (by simpa using hw)) ⟨.bl _, H, I, rfl, ?_⟩
    rw [show its.toArray.any (eqR s.heap e) = its.any (eqR s.heap e) by simp, any_eqR ra sd]
    exact q
  · obtain ⟨its, r, pl, hz⟩ := I.tuple hq
    obtain ⟨as, ra⟩ := Dp.readsAll I ds xs its hs r
    refine SeqAt.in_tupleAt (eqR s.heap e) pl (fun w hw => mem_eqR rv se hu1 ra sd w (by simpa using hw)) ⟨.bl _, H, I, rfl, ?_⟩
    rw [show its.toArray.any (eqR s.heap e) = its.any (eqR s.heap e) by simp, any_eqR ra sd]
    exact q
theorem op_notInD (hu : X.A.units + 64 < cLine) : OpR X (compareOp .NotIn) (rInD X.K true) := by
  intro pins s σ H x y v u Q I rx ry h
  obtain ⟨p, xs, e, ds, rfl, hq, hx, hs, se, de, sd, q⟩ := h
  cases ry
  obtain ⟨bs, rv⟩ := Dp.reads I e x v hx rx
  have hu1 : X.A.in1.units + e.depth < cLine := by
    have : X.A.in1.units ≤ X.A.units + 1 := by first | exact Nat.le_refl _ | (simp [Around.in1, Around.units] <;> omega)
    omega
  rcases hq with hq | hq
  · obtain ⟨its, r, pl, hz⟩ := I.list hq
    obtain ⟨as, ra⟩ := Dp.readsAll I ds xs its hs r
    refine SeqAt.notIn_listAt (eqR s.heap e) pl.isList (fun w hw => mem_eqR rv se hu1 ra sd w (by simpa using hw)) ⟨.bl _, H, I, rfl, ?_⟩
    rw [show its.toArray.any (eqR s.heap e) = its.any (eqR s.heap e) by simp, any_eqR ra sd]
    exact q
  · obtain ⟨its, r, pl, hz⟩ := I.tuple hq
    obtain ⟨as, ra⟩ := Dp.readsAll I ds xs its hs r
    refine SeqAt.notIn_tupleAt (eqR s.heap e) pl (fun w hw => mem_eqR rv se hu1 ra sd w (by simpa using hw)) ⟨.bl _, H, I, rfl, ?_⟩
    rw [show its.toArray.any (eqR s.heap e) = its.any (eqR s.heap e) by simp, any_eqR ra sd]
    exact q
end
def deepD (a b : D) : Bool := match seqOf b with
  | some ds => !(flatD a && ds.all flatD)
  | none => false
def gInD (neg : Bool) : G2 := fun a b mu Q => match toPy a, (seqOf b).bind toPyL with
  | some e, some ps => (SeqAt.shaped e = true ∧ e.depth ≤ 32 ∧ ps.all SeqAt.shaped = true) ∧ Q (.bl (if neg then !ps.any (fun d => PyData.eqv d e) else ps.any (fun d => PyData.eqv d e))) mu
  | _, _ => False
def gInA (neg : Bool) : G2 := fun a b mu Q => if deepD a b = true then gInD neg a b mu Q else gInN neg a b mu Q
def rInAA (K : PySem.W.Frag) (neg : Bool) : R2 := fun x y H Q => rInA K neg x y H Q ∨ rInD K neg x y H Q
theorem op_inAA {X : Cx} (hu : X.A.units + 64 < cLine) : OpR X (compareOp .In) (rInAA X.K false) := op_inA.or (op_inD hu)
theorem op_notInAA {X : Cx} (hu : X.A.units + 64 < cLine) : OpR X (compareOp .NotIn) (rInAA X.K true) := op_notInA.or (op_notInD hu)
theorem gInA_mo {neg : Bool} : ∀ a b, MoG (gInA neg a b) := fun a b mu Q Q' k h => by
  unfold gInA at h ⊢
  split at h
  · rw [if_pos (by assumption)]
    unfold gInD at h ⊢
    split at h
    · exact ⟨h.1, k _ _ h.2⟩
    · exact h.elim
  · rw [if_neg (by assumption)]
    exact gInN_mo a b mu Q Q' k h
theorem L_inA {K : PySem.W.Frag} {neg : Bool} : L2r K (rInAA K neg) (gInA neg) :=
  ⟨fun r x H a b v w mu Q m da db h => by
    unfold gInA at h
    split at h
    · unfold gInD at h
      split at h
      · rename_i e ps e1 e2
        cases q : seqOf b with
        | none => rw [q] at e2; cases e2
        | some ds =>
          rw [q] at e2
          obtain ⟨p, xs, rfl, sq, l⟩ := seqOf_to db q
          exact .inr ⟨p, xs, e, ps, rfl, sq, toPy_dp _ _ _ da e1, toPyL_dp _ _ _ l e2, h.1.1, h.1.2.1, h.1.2.2, h.2.now m rfl⟩
      · exact h.elim
    · exact .inl (L_in.1 r x H a b v w mu Q m da db h), gInA_mo⟩
@[simp] theorem g_inAs {neg : Bool} {a : D} {z : Str} {mu : Mu} {Q : D → Mu → Prop} : gInA neg a (.str z) mu Q = gInN neg a (.str z) mu Q := rfl
end DL

namespace Law
open PySem PySem.Spec PyProof.Rows L2 DL
def top (i : Nat) : Stmt := PySem.Challenge.pw_onceclicked_k13_forms_of_events.main.body.getD i (.Pass ⟨0, 0, 0, 0⟩)
structure Gs (K : PySem.W.Frag) (w : World) (mg : Str → Option Value) : Prop where
  b_all : mg "all" = none
  b_bool : mg "bool" = none
  b_int : mg "int" = none
  b_isinstance : mg "isinstance" = none
  b_len : mg "len" = none
  b_list : mg "list" = none
  b_range : mg "range" = none
  b_str : mg "str" = none
  b_tuple : mg "tuple" = none
  b_zip : mg "zip" = none
  c_FORMS : ∃ a, mg "FORMS" = some (.ref a) ∧ KTab K w a (intTab [("ask", 1), ("beat", 1), ("come", 2), ("lose", 2), ("look", 3), ("press", 3)])
  c_VISITORS : ∃ a, mg "VISITORS" = some (.ref a) ∧ ∀ H, SqT K H a [.str "person", .str "reader"]
/-! is_event -/
abbrev s_is_event : Stmt := top 3
abbrev N_is_event : List Str := ["value"]
theorem sc_is_event : FnScope N_is_event ["value"] (defScope s_is_event) := ⟨rfl, rfl, rfl, by decide +kernel, rfl, by decide +kernel, by decide +kernel⟩
def T_is_event : SB := (sSeq (sIf (dOr (dNot (dTest (dCB gIsi (dCons (dVar 0) (dCons (dC (.ty "tuple")) dNil))))) (dOr (dTest (dOp (gEqN false) (dCB gLen (dCons (dVar 0) dNil)) (dC (.int 0)))) (dNot (dTest (dCB gIsi (dCons (dOp gIx (dVar 0) (dC (.int 0))) (dCons (dC (.ty "str")) dNil))))))) (sRet (dC (.bl false))) sNext)
    (sSeq (sIf (dTest (dOp (gEqN true) (dKGet [("ask", 1), ("beat", 1), ("come", 2), ("lose", 2), ("look", 3), ("press", 3)] (dOp gIx (dVar 0) (dC (.int 0))) (dC (.int 0))) (dCB gLen (dCons (dVar 0) dNil)))) (sRet (dC (.bl false))) sNext)
    (sRet (dOrV (dOp gLt (dCB gLen (dCons (dVar 0) dNil)) (dC (.int 3))) (dOp (gInA false) (dOp gIx (dVar 0) (dC (.int 1))) (dC (.tup [.str "person", .str "reader"])))))))
def F_is_event : DF := fnD 1 T_is_event
theorem ok_is_event {P : Program} {w : World} {K : PySem.W.Frag} {mg : Str → Option Value} {base : Heap} (g : Gs K w mg) {f : Addr} {fd : FuncData} (Fd : FnP K "is_event" s_is_event f fd) (m : mg "is_event" = some (.ref f)) : Fn P w K mg base 1 "is_event" ["value"] F_is_event := by
  have body : ∀ (cdv : Value) (A : Around) (outer : List Env) (s : Shared) (H : Hp) (E : XK), Room 0 (A.deeper (envOfC "is_event" (defScope s_is_event) s.heap.objs.size f cdv)) → DSs (cxOf CX0 P w K mg base N_is_event "is_event" (defScope s_is_event) f cdv A outer s H E).nox (defBody s_is_event) T_is_event := fun cdv A outer s H E hr =>
    (dss_cons (ds_if (DW.db (dw_or (db_not (db_val (de_callB call_isiA L_isi rfl g.b_isinstance (by decide +kernel) (da_cons (dv 0) (da_cons (de_ty rfl g.b_tuple (by decide +kernel)) da_nil))))) (dw_or (db_cmp (op_eqA hr.units) L_eq (de_callB call_lenA L_len rfl g.b_len (by decide +kernel) (da_cons (dv 0) da_nil)) de_int (nomark _)) (dw_or1 (db_not (db_val (de_callB call_isiA L_isi rfl g.b_isinstance (by decide +kernel) (da_cons (de_ix ix_seq L_ix (dv 0) de_int (fun _ _ => rfl)) (da_cons (de_ty rfl g.b_str (by decide +kernel)) da_nil))))))))) (dss_one (ds_ret de_bl)) dss_nil)
    (dss_cons (ds_if (db_cmp (op_neA hr.units) L_ne (de_kget rfl g.c_FORMS (de_ix ix_seq L_ix (dv 0) de_int (fun _ _ => rfl)) de_int) (de_callB call_lenA L_len rfl g.b_len (by decide +kernel) (da_cons (dv 0) da_nil)) (nomark _)) (dss_one (ds_ret de_bl)) dss_nil)
    (dss_one (ds_ret (de_or (de_cmp op_lt L_lt (de_callB call_lenA L_len rfl g.b_len (by decide +kernel) (da_cons (dv 0) da_nil)) de_int (nomark _)) (de_one (de_cmp (op_inAA hr.units) L_inA (de_ix ix_seq L_ix (dv 0) de_int (fun _ _ => rfl)) (de_globT (ds := [.str "person", .str "reader"]) (vs := [.str "person", .str "reader"]) rfl g.c_VISITORS (fun _ _ _ => ⟨_, _, rfl, rfl, ⟨_, _, rfl, rfl, rfl⟩⟩)) rfl)))))))
  exact fn_mk Fd sc_is_event m (fun _ _ _ _ _ _ us hl => match us, hl with | [_], _ => rfl) (fun _ _ _ _ _ _ us hl => match us, hl with | [_], _ => rfl) body
/-! begun -/
abbrev s_begun : Stmt := top 5
abbrev N_begun : List Str := ["_law_script", "_law_stirred", "_law_cell"]
theorem sc_begun : FnScope N_begun ["_law_script"] (defScope s_begun) := ⟨rfl, rfl, rfl, by decide +kernel, rfl, by decide +kernel, by decide +kernel⟩
abbrev T_begun := Lw.T_begun
abbrev F_begun := Lw.F_begun
theorem ok_begun {P : Program} {w : World} {K : PySem.W.Frag} {mg : Str → Option Value} {base : Heap} (g : Gs K w mg) {f : Addr} {fd : FuncData} (Fd : FnP K "_law_begun" s_begun f fd) (m : mg "_law_begun" = some (.ref f)) : Fn P w K mg base 1 "_law_begun" ["_law_script"] F_begun := by
  have body : ∀ (cdv : Value) (A : Around) (outer : List Env) (s : Shared) (H : Hp) (E : XK), Room 0 (A.deeper (envOfC "_law_begun" (defScope s_begun) s.heap.objs.size f cdv)) → DSs (cxOf CX0 P w K mg base N_begun "_law_begun" (defScope s_begun) f cdv A outer s H E).nox (defBody s_begun) T_begun := fun cdv A outer s H E hr =>
    (dss_cons (ds_set (i := 1) sc_begun.nd rfl (by first | exact .inl rfl | exact .inr rfl) de_int)
    (dss_cons (ds_for PassesOwn.never rfl (di_seq (de_slice sl_all L_sl (dv 0) do_none (do_some de_int))) (pg_name (i := 2) sc_begun.nd rfl (by first | exact .inl rfl | exact .inr rfl)) (dss_one (ds_set (i := 1) sc_begun.nd rfl (by first | exact .inl rfl | exact .inr rfl) (de_op op_mod L_mod (de_callTy call_int1 L_int1 rfl g.b_int (by decide +kernel) (da_cons (de_op op_addA L_add (de_op op_addA L_add (de_op op_mulA L_mul (dv 1) de_int) (de_op op_mod L_mod (de_callTy call_int1 L_int1 rfl g.b_int (by decide +kernel) (da_cons (dv 2) da_nil)) de_int)) de_int) da_nil)) de_int))))
    (dss_one (ds_ret (de_lstM (da_cons (de_callTy call_list_of L_list1 rfl g.b_list (by decide +kernel) (da_cons (de_slice sl_all L_sl (dv 0) do_none (do_some de_int)) da_nil)) (da_cons de_int (da_cons de_int (da_cons (dv 1) (da_cons de_int da_nil))))))))))
  exact fn_mk Fd sc_begun m (fun _ _ _ _ _ _ us hl => match us, hl with | [_], _ => rfl) (fun _ _ _ _ _ _ us hl => match us, hl with | [_], _ => rfl) body
/-! number -/
abbrev s_number : Stmt := top 6
abbrev N_number : List Str := ["_law_bag", "_law_many", "_law_mixed", "_law_cell", "_law_digit"]
theorem sc_number : FnScope N_number ["_law_bag", "_law_many"] (defScope s_number) := ⟨rfl, rfl, rfl, by decide +kernel, rfl, by decide +kernel, by decide +kernel⟩
abbrev T_number := Lw.T_number
abbrev F_number := Lw.F_number
theorem ok_number {P : Program} {w : World} {K : PySem.W.Frag} {mg : Str → Option Value} {base : Heap} (g : Gs K w mg) {f : Addr} {fd : FuncData} (Fd : FnP K "_law_number" s_number f fd) (m : mg "_law_number" = some (.ref f)) : Fn P w K mg base 1 "_law_number" ["_law_bag", "_law_many"] F_number := by
  have body : ∀ (cdv : Value) (A : Around) (outer : List Env) (s : Shared) (H : Hp) (E : XK), Room 0 (A.deeper (envOfC "_law_number" (defScope s_number) s.heap.objs.size f cdv)) → DSs (cxOf CX0 P w K mg base N_number "_law_number" (defScope s_number) f cdv A outer s H E).nox (defBody s_number) T_number := fun cdv A outer s H E hr =>
    (dss_cons (ds_setIx (de_op op_addA L_add (de_ix ix_seq L_ix (dv 0) de_int (fun _ _ => rfl)) de_int) (dv 0) de_int)
    (dss_cons (ds_if (DW.db (dw_and (db_cmp (op_eqA hr.units) L_eq (de_ix ix_seq L_ix (dv 0) de_int (fun _ _ => rfl)) de_int (nomark _)) (dw_and1 (db_cmp op_lt L_lt (de_ix ix_seq L_ix (dv 0) de_int (fun _ _ => rfl)) (de_callB call_lenA L_len rfl g.b_len (by decide +kernel) (da_cons (de_ix ix_seq L_ix (dv 0) de_int (fun _ _ => rfl)) da_nil)) (nomark _))))) (dss_cons (ds_set (i := 3) sc_number.nd rfl (by first | exact .inl rfl | exact .inr rfl) (de_ix ix_seq L_ix (de_ix ix_seq L_ix (dv 0) de_int (fun _ _ => rfl)) (de_ix ix_seq L_ix (dv 0) de_int (fun _ _ => rfl)) (fun _ _ => rfl)))
    (dss_cons (ds_setIx (de_op op_addA L_add (de_ix ix_seq L_ix (dv 0) de_int (fun _ _ => rfl)) de_int) (dv 0) de_int)
    (dss_one (ds_if (db_cmp op_ge L_ge (dv 3) (de_op op_pow L_pow de_int de_int) (nomark _)) (dss_one (ds_setIx (dv 3) (dv 0) de_int)) (dss_one (ds_setIx (de_op op_mod L_mod (de_callTy call_int1 L_int1 rfl g.b_int (by decide +kernel) (da_cons (de_op op_addA L_add (de_op op_addA L_add (de_op op_mulA L_mul (de_ix ix_seq L_ix (dv 0) de_int (fun _ _ => rfl)) de_int) (de_op op_mulA L_mul (de_op op_mod L_mod (de_callTy call_int1 L_int1 rfl g.b_int (by decide +kernel) (da_cons (dv 3) da_nil)) de_int) de_int)) de_int) da_nil)) de_int) (dv 0) de_int)))))) dss_nil)
    (dss_cons (ds_if (db_cmp op_gt L_gt (de_ix ix_seq L_ix (dv 0) de_int (fun _ _ => rfl)) de_int (nomark _)) (dss_cons (ds_set (i := 4) sc_number.nd rfl (by first | exact .inl rfl | exact .inr rfl) (de_op op_mod L_mod (de_callTy call_int1 L_int1 rfl g.b_int (by decide +kernel) (da_cons (de_ix ix_seq L_ix (dv 0) de_int (fun _ _ => rfl)) da_nil)) (dv 1)))
    (dss_cons (ds_setIx (de_op op_fdiv L_fdiv (de_ix ix_seq L_ix (dv 0) de_int (fun _ _ => rfl)) (dv 1)) (dv 0) de_int)
    (dss_one (ds_ret (dv 4))))) dss_nil)
    (dss_cons (ds_set (i := 2) sc_number.nd rfl (by first | exact .inl rfl | exact .inr rfl) (de_ix ix_seq L_ix (dv 0) de_int (fun _ _ => rfl)))
    (dss_cons (ds_setIx (de_op op_mod L_mod (de_callTy call_int1 L_int1 rfl g.b_int (by decide +kernel) (da_cons (de_op op_addA L_add (de_op op_addA L_add (de_op op_addA L_add (de_op op_pow L_pow (dv 2) de_int) (de_op op_mulA L_mul (dv 2) de_int)) (de_op op_mulA L_mul (de_ix ix_seq L_ix (dv 0) de_int (fun _ _ => rfl)) de_int)) de_int) da_nil)) de_int) (dv 0) de_int)
    (dss_one (ds_ret (de_op op_mod L_mod (de_callTy call_int1 L_int1 rfl g.b_int (by decide +kernel) (da_cons (de_op op_addA L_add (de_op op_fdiv L_fdiv (de_ix ix_seq L_ix (dv 0) de_int (fun _ _ => rfl)) de_int) (de_op op_mulA L_mul (de_op op_mod L_mod (de_callTy call_int1 L_int1 rfl g.b_int (by decide +kernel) (da_cons (de_ix ix_seq L_ix (dv 0) de_int (fun _ _ => rfl)) da_nil)) de_int) de_int)) da_nil)) (dv 1)))))))))
  exact fn_mk Fd sc_number m (fun _ _ _ _ _ _ us hl => match us, hl with | [_, _], _ => rfl) (fun _ _ _ _ _ _ us hl => match us, hl with | [_, _], _ => rfl) body
/-! one -/
abbrev s_one : Stmt := top 7
abbrev N_one : List Str := ["_law_bag", "_law_things"]
theorem sc_one : FnScope N_one ["_law_bag", "_law_things"] (defScope s_one) := ⟨rfl, rfl, rfl, by decide +kernel, rfl, by decide +kernel, by decide +kernel⟩
abbrev T_one := Lw.T_one
abbrev F_one := Lw.F_one
theorem ok_one {P : Program} {w : World} {K : PySem.W.Frag} {mg : Str → Option Value} {base : Heap} (g : Gs K w mg) {f : Addr} {fd : FuncData} (Fd : FnP K "_law_one" s_one f fd) (m : mg "_law_one" = some (.ref f)) (h_number : Fn P w K mg base 1 "_law_number" ["_law_bag", "_law_many"] Lw.C_number) : Fn P w K mg base 2 "_law_one" ["_law_bag", "_law_things"] F_one := by
  have body : ∀ (cdv : Value) (A : Around) (outer : List Env) (s : Shared) (H : Hp) (E : XK), Room 1 (A.deeper (envOfC "_law_one" (defScope s_one) s.heap.objs.size f cdv)) → DSs (cxOf CX0 P w K mg base N_one "_law_one" (defScope s_one) f cdv A outer s H E).nox (defBody s_one) T_one := fun cdv A outer s H E hr =>
    (dss_one (ds_ret (de_ix ix_seq L_ix (dv 1) (dc_fn h_number (hr.mono (by omega)) rfl (da_cons (dv 0) (da_cons (de_callB call_lenA L_len rfl g.b_len (by decide +kernel) (da_cons (dv 1) da_nil)) da_nil))) (fun _ _ => rfl))))
  exact fn_mk Fd sc_one m (fun _ _ _ _ _ _ us hl => match us, hl with | [_, _], _ => rfl) (fun _ _ _ _ _ _ us hl => match us, hl with | [_, _], _ => rfl) body
/-! event_words -/
abbrev s_event_words : Stmt := top 8
abbrev N_event_words : List Str := ["_law_bag", "_law_many", "_law_word", "_law_at"]
theorem sc_event_words : FnScope N_event_words ["_law_bag", "_law_many"] (defScope s_event_words) := ⟨rfl, rfl, rfl, by decide +kernel, rfl, by decide +kernel, by decide +kernel⟩
def T_event_words : SB := (sSeq (sAsg (dCall Lw.C_one [] (dCons (dVar 0) (dCons (dCB gLstD (dCons (dC (.str "ask")) (dCons (dC (.str "ask")) (dCons (dC (.str "beat")) (dCons (dC (.str "come")) (dCons (dC (.str "come")) (dCons (dC (.str "lose")) (dCons (dC (.str "look")) (dCons (dC (.str "look")) (dCons (dC (.str "look")) (dCons (dC (.str "press")) (dCons (dC (.str "press")) dNil)))))))))))) dNil))) (.nm 2))
    (sSeq (sAsg (dIfE (dAnd (dTest (dOp gGt (dVar 1) (dC (.int 0)))) (dTest (dOp gGt (dCall Lw.C_number [] (dCons (dVar 0) (dCons (dC (.int 12)) dNil))) (dC (.int 0))))) (dCall Lw.C_number [] (dCons (dVar 0) (dCons (dVar 1) dNil))) (dVar 1)) (.nm 3))
    (sSeq (sIf (dTest (dOp (gInA false) (dVar 2) (dCB gTupD (dCons (dC (.str "ask")) (dCons (dC (.str "beat")) dNil))))) (sRet (dCB gTupD (dCons (dVar 2) dNil))) sNext)
    (sRet (dIfE (dTest (dOp (gInA false) (dVar 2) (dCB gTupD (dCons (dC (.str "come")) (dCons (dC (.str "lose")) dNil))))) (dCB gTupD (dCons (dVar 2) (dCons (dVar 3) dNil))) (dCB gTupD (dCons (dVar 2) (dCons (dCall Lw.C_one [] (dCons (dVar 0) (dCons (dCB gLstD (dCons (dC (.str "person")) (dCons (dC (.str "person")) (dCons (dC (.str "reader")) dNil)))) dNil))) (dCons (dVar 3) dNil)))))))))
def F_event_words : DF := fnD 4 T_event_words
theorem ok_event_words {P : Program} {w : World} {K : PySem.W.Frag} {mg : Str → Option Value} {base : Heap} (g : Gs K w mg) {f : Addr} {fd : FuncData} (Fd : FnP K "_law_event_words" s_event_words f fd) (m : mg "_law_event_words" = some (.ref f)) (h_one : Fn P w K mg base 2 "_law_one" ["_law_bag", "_law_things"] Lw.C_one) (h_number : Fn P w K mg base 1 "_law_number" ["_law_bag", "_law_many"] Lw.C_number) : Fn P w K mg base 3 "_law_event_words" ["_law_bag", "_law_many"] F_event_words := by
  have body : ∀ (cdv : Value) (A : Around) (outer : List Env) (s : Shared) (H : Hp) (E : XK), Room 2 (A.deeper (envOfC "_law_event_words" (defScope s_event_words) s.heap.objs.size f cdv)) → DSs (cxOf CX0 P w K mg base N_event_words "_law_event_words" (defScope s_event_words) f cdv A outer s H E).nox (defBody s_event_words) T_event_words := fun cdv A outer s H E hr =>
    (dss_cons (ds_set (i := 2) sc_event_words.nd rfl (by first | exact .inl rfl | exact .inr rfl) (dc_fn h_one (hr.mono (by omega)) rfl (da_cons (dv 0) (da_cons (de_lst (da_cons de_str (da_cons de_str (da_cons de_str (da_cons de_str (da_cons de_str (da_cons de_str (da_cons de_str (da_cons de_str (da_cons de_str (da_cons de_str (da_cons de_str da_nil)))))))))))) da_nil))))
    (dss_cons (ds_set (i := 3) sc_event_words.nd rfl (by first | exact .inl rfl | exact .inr rfl) (de_ifE (DW.db (dw_and (db_cmp op_gt L_gt (dv 1) de_int (nomark _)) (dw_and1 (db_cmp op_gt L_gt (dc_fn h_number (hr.mono (by omega)) rfl (da_cons (dv 0) (da_cons de_int da_nil))) de_int (nomark _))))) (dc_fn h_number (hr.mono (by omega)) rfl (da_cons (dv 0) (da_cons (dv 1) da_nil))) (dv 1)))
    (dss_cons (ds_if (db_cmp (op_inAA hr.units) L_inA (dv 2) (de_tup (da_cons de_str (da_cons de_str da_nil))) rfl) (dss_one (ds_ret (de_tup (da_cons (dv 2) da_nil)))) dss_nil)
    (dss_one (ds_ret (de_ifE (db_cmp (op_inAA hr.units) L_inA (dv 2) (de_tup (da_cons de_str (da_cons de_str da_nil))) rfl) (de_tup (da_cons (dv 2) (da_cons (dv 3) da_nil))) (de_tup (da_cons (dv 2) (da_cons (dc_fn h_one (hr.mono (by omega)) rfl (da_cons (dv 0) (da_cons (de_lst (da_cons de_str (da_cons de_str (da_cons de_str da_nil)))) da_nil))) (da_cons (dv 3) da_nil))))))))))
  exact fn_mk Fd sc_event_words m (fun _ _ _ _ _ _ us hl => match us, hl with | [_, _], _ => rfl) (fun _ _ _ _ _ _ us hl => match us, hl with | [_, _], _ => rfl) body
/-! equal -/
abbrev s_equal : Stmt := top 9
abbrev N_equal : List Str := ["_law_a", "_law_b", "_law_c", "_law_d"]
theorem sc_equal : FnScope N_equal ["_law_a", "_law_b"] (defScope s_equal) := ⟨rfl, rfl, rfl, by decide +kernel, rfl, by decide +kernel, by decide +kernel⟩
abbrev T_equal := Lw.T_equal
abbrev F_equal := Lw.F_equal
theorem ok_equal {P : Program} {w : World} {K : PySem.W.Frag} {mg : Str → Option Value} {base : Heap} (g : Gs K w mg) {f : Addr} {fd : FuncData} (Fd : FnP K "_law_equal" s_equal f fd) (m : mg "_law_equal" = some (.ref f)) : ∀ n : Nat, Fn P w K mg base (n + 1) "_law_equal" ["_law_a", "_law_b"] (F_equal n)
  | 0 => (fn_mk (T := sNever) (k := 0) Fd sc_equal m (fun _ _ _ _ _ _ us hl => match us, hl with | [_, _], _ => rfl) (fun _ _ _ _ _ _ us hl => match us, hl with | [_, _], _ => rfl) (fun cdv A outer s H E hr => ⟨pssMono pss_never fun E σ H ⟨r, x, sl, mu, R, q⟩ => q, fun _ _ _ _ _ q => q⟩)).imp (fun _ _ _ _ _ q => q) (fun _ _ _ _ q => q)
  | n + 1 => by
    have h_equal := ok_equal g Fd m (P := P) (w := w) (base := base) n
    exact fn_mk (k := n + 1) Fd sc_equal m (fun _ _ _ _ _ _ us hl => match us, hl with | [_, _], _ => rfl) (fun _ _ _ _ _ _ us hl => match us, hl with | [_, _], _ => rfl) (fun cdv A outer s H E hr => (dss_cons (ds_if (db_val (de_callB call_isiA L_isi rfl g.b_isinstance (by decide +kernel) (da_cons (dv 1) (da_cons (de_tup (da_cons (de_ty rfl g.b_list (by decide +kernel)) (da_cons (de_ty rfl g.b_tuple (by decide +kernel)) da_nil))) da_nil)))) (dss_cons (ds_if (DW.db (dw_or (db_cmp (op_neA hr.units) L_ne (de_callB call_isiA L_isi rfl g.b_isinstance (by decide +kernel) (da_cons (dv 0) (da_cons (de_ty rfl g.b_list (by decide +kernel)) da_nil))) (de_callB call_isiA L_isi rfl g.b_isinstance (by decide +kernel) (da_cons (dv 1) (da_cons (de_ty rfl g.b_list (by decide +kernel)) da_nil))) (nomark _)) (dw_or1 (db_cmp (op_neA hr.units) L_ne (de_callB call_isiA L_isi rfl g.b_isinstance (by decide +kernel) (da_cons (dv 0) (da_cons (de_ty rfl g.b_tuple (by decide +kernel)) da_nil))) (de_callB call_isiA L_isi rfl g.b_isinstance (by decide +kernel) (da_cons (dv 1) (da_cons (de_ty rfl g.b_tuple (by decide +kernel)) da_nil))) (nomark _))))) (dss_one (ds_ret de_bl)) dss_nil)
    (dss_one (ds_ret (de_and (de_cmp (op_eqA hr.units) L_eq (de_callB call_lenA L_len rfl g.b_len (by decide +kernel) (da_cons (dv 0) da_nil)) (de_callB call_lenA L_len rfl g.b_len (by decide +kernel) (da_cons (dv 1) da_nil)) (nomark _)) (de_one (de_callB (cr_all rfl) L_all rfl g.b_all (by decide +kernel) (da_cons (de_lc (own := [("_law_c", 2), ("_law_d", 3)]) rfl sc_equal.nd (di_zip rfl g.b_zip (da_cons (dv 0) (da_cons (dv 1) da_nil))) (blkOk_by (own := [("_law_c", 2), ("_law_d", 3)]) (N := N_equal) (sc := defScope s_equal) (by decide +kernel)) (by decide) (fun _ _ _ _ _ => (pg_tup rfl (pgs_cons (pg_name (i := 2) sc_equal.nd rfl (by first | exact .inl rfl | exact .inr rfl)) (pgs_cons (pg_name (i := 3) sc_equal.nd rfl (by first | exact .inl rfl | exact .inr rfl)) pgs_nil)))) (fun _ _ _ _ _ => dts_nil) (fun _ _ _ _ _ => (dc_fn h_equal (hr.mono (by omega)) rfl (da_cons (dv 2) (da_cons (dv 3) da_nil))))) da_nil))))))) dss_nil)
    (dss_cons (ds_if (DW.db (dw_or (db_cmp op_isN L_isN (dv 0) de_non (nomark _)) (dw_or (db_cmp op_isN L_isN (dv 1) de_non (nomark _)) (dw_or1 (db_cmp (op_neA hr.units) L_ne (de_callB call_isiA L_isi rfl g.b_isinstance (by decide +kernel) (da_cons (dv 0) (da_cons (de_ty rfl g.b_bool (by decide +kernel)) da_nil))) (de_callB call_isiA L_isi rfl g.b_isinstance (by decide +kernel) (da_cons (dv 1) (da_cons (de_ty rfl g.b_bool (by decide +kernel)) da_nil))) (nomark _)))))) (dss_one (ds_ret (de_and (de_cmp op_isN L_isN (dv 0) de_non (nomark _)) (de_one (de_cmp op_isN L_isN (dv 1) de_non (nomark _)))))) dss_nil)
    (dss_one (ds_ret (de_and (de_cmp (op_eqA hr.units) L_eq (de_callB call_isiA L_isi rfl g.b_isinstance (by decide +kernel) (da_cons (dv 0) (da_cons (de_ty rfl g.b_int (by decide +kernel)) da_nil))) (de_callB call_isiA L_isi rfl g.b_isinstance (by decide +kernel) (da_cons (dv 1) (da_cons (de_ty rfl g.b_int (by decide +kernel)) da_nil))) (nomark _)) (de_and (de_cmp (op_eqA hr.units) L_eq (de_callB call_isiA L_isi rfl g.b_isinstance (by decide +kernel) (da_cons (dv 0) (da_cons (de_ty rfl g.b_str (by decide +kernel)) da_nil))) (de_callB call_isiA L_isi rfl g.b_isinstance (by decide +kernel) (da_cons (dv 1) (da_cons (de_ty rfl g.b_str (by decide +kernel)) da_nil))) (nomark _)) (de_one (de_cmp (op_eqA hr.units) L_eq (dv 0) (dv 1) (nomark _))))))))))
/-! law -/
abbrev s_law : Stmt := top 10
abbrev N_law : List Str := ["_law_script", "_law_bag", "_law_turn", "_law_ev", "_law_odd", "_law_loose", "_law_bad", "_law_found", "_law_one_here"]
theorem sc_law : FnScope N_law ["_law_script"] (defScope s_law) := ⟨rfl, rfl, rfl, by decide +kernel, rfl, by decide +kernel, by decide +kernel⟩
def T_law : SB := (sSeq (sAsg (dCall Lw.C_begun [] (dCons (dVar 0) dNil)) (.nm 1))
    (sSeq (sFor (iRange1 (dCons (dC (.int 10)) dNil)) (.nm 2) (sSeq (sAsg (dCall F_event_words [] (dCons (dVar 1) (dCons (dCall Lw.C_number [] (dCons (dVar 1) (dCons (dC (.int 4)) dNil))) dNil))) (.nm 3))
    (sSeq (sAsg (dCall Lw.C_one [] (dCons (dVar 1) (dCons (dCB gLstD (dCons (dC .non) (dCons (dC (.bl true)) (dCons (dC (.str "0")) (dCons (dOp gSub (dC (.int 0)) (dC (.int 1))) (dCons (dCB gLstD (dCons (dC (.int 1)) dNil)) (dCons (dCB gTupD (dCons (dC (.int 1)) dNil)) (dCons (dOp gPow (dC (.int 10)) (dC (.int 20))) (dCons (dOp gIx (dVar 3) (dC (.int 0))) dNil))))))))) dNil))) (.nm 4))
    (sSeq (sAsg (dIfE (dTest (dOp gGt (dCB gLen (dCons (dVar 3) dNil)) (dC (.int 1)))) (dOp gAdd (dSl gSl (dVar 3) dNoPart (dPart (dOp gSub (dCB gLen (dCons (dVar 3) dNil)) (dC (.int 1))))) (dCB gTupD (dCons (dVar 4) dNil))) (dVar 3)) (.nm 5))
    (sSeq (sAsg (dCB gLstD (dCons (dCB gList1 (dCons (dVar 3) dNil)) (dCons (dOp gAdd (dVar 3) (dCB gTupD (dCons (dC (.int 0)) dNil))) (dCons (dCB gTupD dNil) (dCons (dC .non) (dCons (dOp gIx (dVar 3) (dC (.int 0))) (dCons (dOp gAdd (dCB gTupD (dCons (dMt "str" gUpper (dOp gIx (dVar 3) (dC (.int 0))) dNil) dNil)) (dSl gSl (dVar 3) (dPart (dC (.int 1))) dNoPart)) (dCons (dOp gAdd (dCB gTupD (dCons (dC (.str "stop")) dNil)) (dSl gSl (dVar 3) (dPart (dC (.int 1))) dNoPart)) (dCons (dOp gAdd (dCB gTupD (dCons (dCB gLstD (dCons (dOp gIx (dVar 3) (dC (.int 0))) dNil)) dNil)) (dSl gSl (dVar 3) (dPart (dC (.int 1))) dNoPart)) (dCons (dOp gAdd (dCB gTupD (dCons (dC (.int 3)) dNil)) (dSl gSl (dVar 3) (dPart (dC (.int 1))) dNoPart)) dNil)))))))))) (.nm 6))
    (sSeq (sAsg (dOp gAdd (dVar 6) (dCB gLstD (dCons (dCB gTupD (dCons (dC (.str "look")) (dCons (dC (.str "Person")) (dCons (dC (.int 0)) dNil)))) (dCons (dCB gTupD (dCons (dC (.str "press")) (dCons (dC .non) (dCons (dC (.int 0)) dNil)))) (dCons (dCB gTupD (dCons (dC (.str "look")) (dCons (dC (.int 0)) dNil))) (dCons (dCB gTupD (dCons (dC (.str "come")) (dCons (dC (.str "person")) (dCons (dC (.int 0)) dNil)))) (dCons (dCB gTupD (dCons (dC (.str "ask")) (dCons (dC (.int 0)) dNil))) (dCons (dCB gTupD (dCons (dC (.str "look")) (dCons (dCB gLstD (dCons (dC (.str "person")) dNil)) (dCons (dC (.int 0)) dNil)))) dNil)))))))) (.nm 6))
    (sSeq (sAsg (dOp gAdd (dCB gLstD (dCons (dCall F_is_event [] (dCons (dVar 3) dNil)) (dCons (dCall F_is_event [] (dCons (dVar 5) dNil)) dNil))) (dLc (iSeq (dVar 6)) (.nm 8) dYes (dCall F_is_event [] (dCons (dVar 8) dNil)) [8])) (.nm 7))
    (sIf (dNot (dTest (dCall (Lw.C_equal 6) [] (dCons (dVar 7) (dCons (dOp gAdd (dCB gLstD (dCons (dC (.bl true)) (dCons (dC (.bl true)) dNil))) (dOp gMul (dCB gLstD (dCons (dC (.bl false)) dNil)) (dCB gLen (dCons (dVar 6) dNil)))) dNil))))) (sRet (dC (.bl false))) sNext))))))))
    (sRet (dC (.bl true)))))
def F_law : DF := fnD 9 T_law
theorem ok_law {P : Program} {w : World} {K : PySem.W.Frag} {mg : Str → Option Value} {base : Heap} (g : Gs K w mg) {f : Addr} {fd : FuncData} (Fd : FnP K "law" s_law f fd) (h_begun : Fn P w K mg base 1 "_law_begun" ["_law_script"] Lw.C_begun) (h_number : Fn P w K mg base 1 "_law_number" ["_law_bag", "_law_many"] Lw.C_number) (h_event_words : Fn P w K mg base 3 "_law_event_words" ["_law_bag", "_law_many"] F_event_words) (h_one : Fn P w K mg base 2 "_law_one" ["_law_bag", "_law_things"] Lw.C_one) (h_is_event : Fn P w K mg base 1 "is_event" ["value"] F_is_event) (h_equal : Fn P w K mg base 7 "_law_equal" ["_law_a", "_law_b"] (Lw.C_equal 6)) : FnOk P w K mg base CX0 8 f fd ["_law_script"] (spD K 1 F_law) ∧ ∀ A : Around, Room 8 A → MoF F_law := by
  have body : ∀ (cdv : Value) (A : Around) (outer : List Env) (s : Shared) (H : Hp) (E : XK), Room 7 (A.deeper (envOfC "law" (defScope s_law) s.heap.objs.size f cdv)) → DSs (cxOf CX0 P w K mg base N_law "law" (defScope s_law) f cdv A outer s H E).nox (defBody s_law) T_law := fun cdv A outer s H E hr =>
    (dss_cons (ds_set (i := 1) sc_law.nd rfl (by first | exact .inl rfl | exact .inr rfl) (dc_fn h_begun (hr.mono (by omega)) rfl (da_cons (dv 0) da_nil)))
    (dss_cons (ds_for PassesOwn.never rfl (di_range1 rfl g.b_range (da_cons de_int da_nil)) (pg_name (i := 2) sc_law.nd rfl (by first | exact .inl rfl | exact .inr rfl)) (dss_cons (ds_set (i := 3) sc_law.nd rfl (by first | exact .inl rfl | exact .inr rfl) (dc_fn h_event_words (hr.mono (by omega)) rfl (da_cons (dv 1) (da_cons (dc_fn h_number (hr.mono (by omega)) rfl (da_cons (dv 1) (da_cons de_int da_nil))) da_nil))))
    (dss_cons (ds_set (i := 4) sc_law.nd rfl (by first | exact .inl rfl | exact .inr rfl) (dc_fn h_one (hr.mono (by omega)) rfl (da_cons (dv 1) (da_cons (de_lst (da_cons de_non (da_cons de_bl (da_cons de_str (da_cons (de_op op_sub L_sub de_int de_int) (da_cons (de_lst (da_cons de_int da_nil)) (da_cons (de_tup (da_cons de_int da_nil)) (da_cons (de_op op_pow L_pow de_int de_int) (da_cons (de_ix ix_seq L_ix (dv 3) de_int (fun _ _ => rfl)) da_nil))))))))) da_nil))))
    (dss_cons (ds_set (i := 5) sc_law.nd rfl (by first | exact .inl rfl | exact .inr rfl) (de_ifE (db_cmp op_gt L_gt (de_callB call_lenA L_len rfl g.b_len (by decide +kernel) (da_cons (dv 3) da_nil)) de_int (nomark _)) (de_op op_addA L_add (de_slice sl_all L_sl (dv 3) do_none (do_some (de_op op_sub L_sub (de_callB call_lenA L_len rfl g.b_len (by decide +kernel) (da_cons (dv 3) da_nil)) de_int))) (de_tup (da_cons (dv 4) da_nil))) (dv 3)))
    (dss_cons (ds_set (i := 6) sc_law.nd rfl (by first | exact .inl rfl | exact .inr rfl) (de_lst (da_cons (de_callTy call_list_of L_list1 rfl g.b_list (by decide +kernel) (da_cons (dv 3) da_nil)) (da_cons (de_op op_addA L_add (dv 3) (de_tup (da_cons de_int da_nil))) (da_cons (de_tup da_nil) (da_cons de_non (da_cons (de_ix ix_seq L_ix (dv 3) de_int (fun _ _ => rfl)) (da_cons (de_op op_addA L_add (de_tup (da_cons (de_bm0 PySem.F.plainAttrs_str PySem.F.slot_str_upper PySem.F.type_str_upper mt_upper L_upper (de_ix ix_seq L_ix (dv 3) de_int (fun _ _ => rfl))) da_nil)) (de_slice sl_all L_sl (dv 3) (do_some de_int) do_none)) (da_cons (de_op op_addA L_add (de_tup (da_cons de_str da_nil)) (de_slice sl_all L_sl (dv 3) (do_some de_int) do_none)) (da_cons (de_op op_addA L_add (de_tup (da_cons (de_lst (da_cons (de_ix ix_seq L_ix (dv 3) de_int (fun _ _ => rfl)) da_nil)) da_nil)) (de_slice sl_all L_sl (dv 3) (do_some de_int) do_none)) (da_cons (de_op op_addA L_add (de_tup (da_cons de_int da_nil)) (de_slice sl_all L_sl (dv 3) (do_some de_int) do_none)) da_nil)))))))))))
    (dss_cons (ds_set (i := 6) sc_law.nd rfl (by first | exact .inl rfl | exact .inr rfl) (de_op op_addA L_add (dv 6) (de_lst (da_cons (de_tup (da_cons de_str (da_cons de_str (da_cons de_int da_nil)))) (da_cons (de_tup (da_cons de_str (da_cons de_non (da_cons de_int da_nil)))) (da_cons (de_tup (da_cons de_str (da_cons de_int da_nil))) (da_cons (de_tup (da_cons de_str (da_cons de_str (da_cons de_int da_nil)))) (da_cons (de_tup (da_cons de_str (da_cons de_int da_nil))) (da_cons (de_tup (da_cons de_str (da_cons (de_lst (da_cons de_str da_nil)) (da_cons de_int da_nil)))) da_nil)))))))))
    (dss_cons (ds_set (i := 7) sc_law.nd rfl (by first | exact .inl rfl | exact .inr rfl) (de_op op_addA L_add (de_lst (da_cons (dc_fn h_is_event (hr.mono (by omega)) rfl (da_cons (dv 3) da_nil)) (da_cons (dc_fnK h_is_event (hr.mono (by omega)) rfl (dk_cons (dv 5) dk_nil)) da_nil))) (de_lc (own := [("_law_one_here", 8)]) rfl sc_law.nd (di_seq (dv 6)) (blkOk_by (own := [("_law_one_here", 8)]) (N := N_law) (sc := defScope s_law) (by decide +kernel)) (by decide) (fun _ _ _ _ _ => (pg_name (i := 8) sc_law.nd rfl (by first | exact .inl rfl | exact .inr rfl))) (fun _ _ _ _ _ => dts_nil) (fun _ _ _ _ _ => (dc_fn h_is_event (hr.mono (by omega)) rfl (da_cons (dv 8) da_nil))))))
    (dss_one (ds_if (db_not (db_val (dc_fn h_equal (hr.mono (by omega)) rfl (da_cons (dv 7) (da_cons (de_op op_addA L_add (de_lst (da_cons de_bl (da_cons de_bl da_nil))) (de_op op_mulA L_mul (de_lst (da_cons de_bl da_nil)) (de_callB call_lenA L_len rfl g.b_len (by decide +kernel) (da_cons (dv 6) da_nil)))) da_nil))))) (dss_one (ds_ret de_bl)) dss_nil)))))))))
    (dss_one (ds_ret de_bl))))
  exact ⟨fn_okD Fd sc_law body, fun A hr => fnD_mo (body .none A [] {} (fun _ => none) E0 (hr.deeper _)).mo⟩
end Law

namespace Law
open PySem PySem.Spec PyProof.Rows L2 DL
open Lw (Bag Nm abc abc_len)
section
variable {mu : Mu} {Q : D → Mu → Prop}
/-- what FORMS tells of a word -/
def lenOf (z : Str) : Int := ((([("ask", 1), ("beat", 1), ("come", 2), ("lose", 2), ("look", 3), ("press", 3)] : List (Str × Int)).lookup z).getD 0)
@[simp] theorem k_get {sl : Sl} {Ty : ET} : dKGet [("ask", 1), ("beat", 1), ("come", 2), ("lose", 2), ("look", 3), ("press", 3)] Ty (dC (.int 0)) sl mu Q = Ty sl mu fun y m => match y with
  | .str z => Q (.int (lenOf z)) m
  | _ => False := by
  unfold dKGet lenOf
  congr 1
  funext y m
  cases y with
  | str z =>
    show Q _ _ = Q _ _
    cases (([("ask", 1), ("beat", 1), ("come", 2), ("lose", 2), ("look", 3), ("press", 3)] : List (Str × Int)).lookup z) <;> rfl
  | _ => rfl
theorem at0 {d : D} {ds : List D} : atI (d :: ds) 0 = some d := by
  have : ixN (ds.length + 1) 0 = some 0 := by simp [ixN]
  simp [atI, this]
theorem ev_head {z : Str} {ds : List D} (h : lenOf z ≠ (ds.length : Int) + 1) (q : Q (.bl false) mu) : F_is_event [.tup (.str z :: ds)] mu Q := by
  have h0 : ¬ ((ds.length : Int) + 1 = 0) := by omega
  simp [F_is_event, T_is_event, startD, isK, e_next, e_seq, e_break, e_cont, e_drop, e_ret, e_retN, e_if, e_never, e_asg, e_par, e_for, e_setIx, e_fn, h, h0, at0, q]
theorem ev_oi {i : Int} {ds : List D} (q : Q (.bl false) mu) : F_is_event [.tup (.int i :: ds)] mu Q := by
  have h0 : ¬ ((ds.length : Int) + 1 = 0) := by omega
  simp [F_is_event, T_is_event, startD, isK, e_next, e_seq, e_break, e_cont, e_drop, e_ret, e_retN, e_if, e_never, e_asg, e_par, e_for, e_setIx, e_fn, h0, at0, q]
theorem ev_ol {es : List D} {ds : List D} (q : Q (.bl false) mu) : F_is_event [.tup (.lst es :: ds)] mu Q := by
  have h0 : ¬ ((ds.length : Int) + 1 = 0) := by omega
  simp [F_is_event, T_is_event, startD, isK, e_next, e_seq, e_break, e_cont, e_drop, e_ret, e_retN, e_if, e_never, e_asg, e_par, e_for, e_setIx, e_fn, h0, at0, q]
theorem ev_1 {z : Str} (h : lenOf z = 1) (q : Q (.bl true) mu) : F_is_event [.tup [.str z]] mu Q := by
  simp [F_is_event, T_is_event, startD, isK, e_next, e_seq, e_break, e_cont, e_drop, e_ret, e_retN, e_if, e_never, e_asg, e_par, e_for, e_setIx, e_fn, h, q]
theorem ev_2 {z : Str} {d : D} (h : lenOf z = 2) (q : Q (.bl true) mu) : F_is_event [.tup [.str z, d]] mu Q := by
  simp [F_is_event, T_is_event, startD, isK, e_next, e_seq, e_break, e_cont, e_drop, e_ret, e_retN, e_if, e_never, e_asg, e_par, e_for, e_setIx, e_fn, h, q]
theorem ev_3 {z : Str} {d e : D} (h : lenOf z = 3) (q : gInA false d (D.tup [D.str "person", D.str "reader"]) mu Q) : F_is_event [.tup [.str z, d, e]] mu Q := by
  simp [F_is_event, T_is_event, startD, isK, e_next, e_seq, e_break, e_cont, e_drop, e_ret, e_retN, e_if, e_never, e_asg, e_par, e_for, e_setIx, e_fn, h]
  exact q
theorem ev_0 (q : Q (.bl false) mu) : F_is_event [.tup []] mu Q := by
  simp [F_is_event, T_is_event, startD, isK, e_next, e_seq, e_break, e_cont, e_drop, e_ret, e_retN, e_if, e_never, e_asg, e_par, e_for, e_setIx, e_fn, q]
theorem ev_lst {ds : List D} (q : Q (.bl false) mu) : F_is_event [.lst ds] mu Q := by
  simp [F_is_event, T_is_event, startD, isK, e_next, e_seq, e_break, e_cont, e_drop, e_ret, e_retN, e_if, e_never, e_asg, e_par, e_for, e_setIx, e_fn, q]
theorem ev_non (q : Q (.bl false) mu) : F_is_event [.non] mu Q := by
  simp [F_is_event, T_is_event, startD, isK, e_next, e_seq, e_break, e_cont, e_drop, e_ret, e_retN, e_if, e_never, e_asg, e_par, e_for, e_setIx, e_fn, q]
theorem ev_str {z : Str} (q : Q (.bl false) mu) : F_is_event [.str z] mu Q := by
  simp [F_is_event, T_is_event, startD, isK, e_next, e_seq, e_break, e_cont, e_drop, e_ret, e_retN, e_if, e_never, e_asg, e_par, e_for, e_setIx, e_fn, q]
theorem in_vis {v : D} (h : v = .str "person" ∨ v = .str "reader") (q : Q (.bl true) mu) : gInA false v (D.tup [D.str "person", D.str "reader"]) mu Q := by
  rcases h with rfl | rfl
  · show (_ ∧ _) ∧ Q (.bl _) mu
    refine ⟨⟨rfl, rfl⟩, ?_⟩
    rw [show ([D.str "person", D.str "reader"].any fun y => eqF y (.str "person")) = true by decide +kernel]
    exact q
  · show (_ ∧ _) ∧ Q (.bl _) mu
    refine ⟨⟨rfl, rfl⟩, ?_⟩
    rw [show ([D.str "person", D.str "reader"].any fun y => eqF y (.str "reader")) = true by decide +kernel]
    exact q
theorem in_vis0 {v : D} (f : flatD v = true) (h : ([D.str "person", D.str "reader"].any fun y => eqF y v) = false) (q : Q (.bl false) mu) : gInA false v (D.tup [D.str "person", D.str "reader"]) mu Q := by
  cases v <;> first
    | (cases f; done)
    | (show (_ ∧ _) ∧ Q (.bl _) mu
       refine ⟨⟨rfl, rfl⟩, ?_⟩
       rw [h]
       exact q)
theorem in_visL (q : Q (.bl false) mu) : gInA false (.lst [.str "person"]) (D.tup [D.str "person", D.str "reader"]) mu Q := by
  show (_ ∧ _ ∧ _) ∧ Q (.bl _) mu
  refine ⟨⟨by decide +kernel, by decide +kernel, by decide +kernel⟩, ?_⟩
  rw [if_neg (by decide)]
  rw [show (List.any [PyData.str "person", PyData.str "reader"] fun d => PyData.eqv d (.list [.str "person"])) = false by decide +kernel]
  exact q
/-- an event -/
inductive Ev : D → Prop
  | one {z : Str} : lenOf z = 1 → lenOf (Txt.upper z) = 0 → z.length ≤ 5 → Ev (.tup [.str z])
  | two {z : Str} {a : Int} : lenOf z = 2 → lenOf (Txt.upper z) = 0 → z.length ≤ 5 → Ev (.tup [.str z, .int a])
  | three {z : Str} {v : D} {a : Int} : lenOf z = 3 → lenOf (Txt.upper z) = 0 → z.length ≤ 5 → v = .str "person" ∨ v = .str "reader" → Ev (.tup [.str z, v, .int a])
theorem at_ok {sl : Sl} {r : Int} (r0 : 0 ≤ r) (r4 : r < 4) (hb : mu[0]? = some (.any Bag)) (h0 : sl[0]? = some (some (.mu 0))) (h1 : sl[1]? = some (some (.int r))) (q : ∀ a, Q (.int a) mu) :
    dIfE (dAnd (dTest (dOp gGt (dVar 1) (dC (D.int 0)))) (dTest (dOp gGt (dCall Lw.C_number [] (dCons (dVar 0) (dCons (dC (D.int 12)) dNil))) (dC (D.int 0))))) (dCall Lw.C_number [] (dCons (dVar 0) (dCons (dVar 1) dNil))) (dVar 1) sl mu Q := by
  simp [h0, h1]
  split
  · refine ⟨hb, fun a a0 a1 => ?_⟩
    split
    · refine ⟨hb, by omega, by omega, fun a a0 a1 => q a⟩
    · exact q r
  · exact q r
def in1 (z : Str) : Bool := [D.str "ask", D.str "beat"].any fun y => eqF y (.str z)
def in2 (z : Str) : Bool := [D.str "come", D.str "lose"].any fun y => eqF y (.str z)
def sort3 (z : Str) : Bool := (lenOf z == 1 && in1 z) || (lenOf z == 2 && !in1 z && in2 z) || (lenOf z == 3 && !in1 z && !in2 z)
def wordB (z : Str) : Bool := sort3 z && lenOf (Txt.upper z) == 0 && decide (z.length ≤ 5)
theorem word_ok {e : D} (he : e ∈ [D.str "ask", D.str "ask", D.str "beat", D.str "come", D.str "come", D.str "lose", D.str "look", D.str "look", D.str "look", D.str "press", D.str "press"]) : ∃ z : Str, e = .str z ∧ wordB z = true := by
  simp only [List.mem_cons, List.not_mem_nil, or_false] at he
  rcases he with rfl | rfl | rfl | rfl | rfl | rfl | rfl | rfl | rfl | rfl | rfl <;> exact ⟨_, rfl, by decide +kernel⟩
theorem words_ok {r : Int} (r0 : 0 ≤ r) (r4 : r < 4) (hb : mu[0]? = some (.any Bag)) (q : ∀ d, Ev d → Q d mu) : F_event_words [.mu 0, .int r] mu Q := by
  show sSeq _ _ _ _ _
  refine st_asg ?_
  refine ⟨by decide, 0, _, _, rfl, rfl, hb, by decide, by decide, fun e he => ?_⟩
  obtain ⟨z, rfl, hz⟩ := word_ok he
  simp only [wordB, Bool.and_eq_true, decide_eq_true_eq, beq_iff_eq] at hz
  obtain ⟨⟨hs, hu⟩, hl⟩ := hz
  refine st_asg ?_
  refine at_ok r0 r4 hb rfl rfl fun a => ?_
  refine st_if ?_
  refine ⟨by decide, ⟨rfl, rfl⟩, ?_⟩
  show (if in1 z = true then _ else _)
  simp only [sort3, Bool.or_eq_true, Bool.and_eq_true, beq_iff_eq, Bool.not_eq_true'] at hs
  rcases hs with (⟨h1, h2⟩ | ⟨⟨h1, h2⟩, h3⟩) | ⟨⟨h1, h2⟩, h3⟩
  · rw [if_pos h2]
    refine st_ret ?_
    exact ⟨show 1 ≤ sizeLine by decide, q _ (.one h1 hu hl)⟩
  · rw [if_neg (by rw [h2]; decide)]
    refine st_next ?_
    refine st_ret ?_
    refine ⟨by decide, ⟨rfl, rfl⟩, ?_⟩
    show (if in2 z = true then _ else _)
    rw [if_pos h3]
    exact ⟨show 2 ≤ sizeLine by decide, q _ (.two h1 hu hl)⟩
  · rw [if_neg (by rw [h2]; decide)]
    refine st_next ?_
    refine st_ret ?_
    refine ⟨by decide, ⟨rfl, rfl⟩, ?_⟩
    show (if in2 z = true then _ else _)
    rw [if_neg (by rw [h3]; decide)]
    refine ⟨by decide, 0, _, _, rfl, rfl, hb, by decide, by decide, fun v hv => ?_⟩
    refine ⟨show 3 ≤ sizeLine by decide, q _ (.three h1 hu hl ?_)⟩
    simp only [List.mem_cons, List.not_mem_nil, or_false] at hv
    rcases hv with rfl | rfl | rfl
    · exact .inl rfl
    · exact .inl rfl
    · exact .inr rfl
end
theorem ev_shape {d : D} (h : Ev d) : ∃ (z : Str) (rest : List D) (lo : D → D), d = .tup (.str z :: rest) ∧ lenOf z = (rest.length : Int) + 1 ∧ lenOf (Txt.upper z) = 0 ∧ z.length ≤ 5 ∧ rest.length ≤ 2 ∧
    (∀ (sl : Sl) (o : D) (mu : Mu) (Q : D → Mu → Prop), sl[3]? = some (some d) → sl[4]? = some (some o) → Q (lo o) mu → dIfE (dTest (dOp gGt (dCB gLen (dCons (dVar 3) dNil)) (dC (.int 1)))) (dOp gAdd (dSl gSl (dVar 3) dNoPart (dPart (dOp gSub (dCB gLen (dCons (dVar 3) dNil)) (dC (.int 1))))) (dCB gTupD (dCons (dVar 4) dNil))) (dVar 3) sl mu Q) ∧
    (∀ (mu : Mu) (Q : D → Mu → Prop), Q (.bl true) mu → F_is_event [d] mu Q) ∧ ∀ (o : D) (mu : Mu) (Q : D → Mu → Prop), Q (.bl true) mu → F_is_event [lo o] mu Q := by
  have hz : 3 ≤ sizeLine := by decide
  have hz1 : 1 ≤ sizeLine := by decide
  have hz2 : 2 ≤ sizeLine := by decide
  cases h with
  | @one z h1 hu hl =>
    refine ⟨z, [], fun _ => .tup [.str z], rfl, h1, hu, hl, by decide, fun sl o mu Q h3 h4 q => ?_, fun mu Q q => ev_1 h1 q, fun o mu Q q => ev_1 h1 q⟩
    simp [h3, h4]
    exact q
  | @two z a h1 hu hl =>
    refine ⟨z, [.int a], fun o => .tup [.str z, o], rfl, h1, hu, hl, show 1 ≤ 2 by decide, fun sl o mu Q h3 h4 q => ?_, fun mu Q q => ev_2 h1 q, fun o mu Q q => ev_2 h1 q⟩
    simp [h3, h4, hz, hz1, hz2]
    exact ⟨hz2, q⟩
  | @three z v a h1 hu hl hv =>
    refine ⟨z, [v, .int a], fun o => .tup [.str z, v, o], rfl, h1, hu, hl, show 2 ≤ 2 by decide, fun sl o mu Q h3 h4 q => ?_, fun mu Q q => ev_3 h1 (in_vis hv q), fun o mu Q q => ev_3 h1 (in_vis hv q)⟩
    simp [h3, h4, hz, hz1, hz2]
    exact ⟨hz, q⟩
section
variable {sl : Sl} {mu : Mu} {Q : D → Mu → Prop} {z : Str} {rest : List D}
theorem odd_ok (hb : mu[0]? = some (.any Bag)) (h1 : sl[1]? = some (some (.mu 0))) (h3 : sl[3]? = some (some (.tup (.str z :: rest)))) (q : ∀ o, Q o mu) :
    dCall Lw.C_one [] (dCons (dVar 1) (dCons (dCB gLstD (dCons (dC .non) (dCons (dC (.bl true)) (dCons (dC (.str "0")) (dCons (dOp gSub (dC (.int 0)) (dC (.int 1))) (dCons (dCB gLstD (dCons (dC (.int 1)) dNil)) (dCons (dCB gTupD (dCons (dC (.int 1)) dNil)) (dCons (dOp gPow (dC (.int 10)) (dC (.int 20))) (dCons (dOp gIx (dVar 3) (dC (.int 0))) dNil))))))))) dNil)) sl mu Q := by
  have cp : CPow 10 20 := ⟨by decide, by decide, by decide⟩
  have z1 : 1 ≤ sizeLine := by decide
  have z8 : 8 ≤ sizeLine := by decide
  simp [h1, h3, at0, cp, z1, z8, hb]
  exact fun e _ => q e
theorem cut1 : cutD (D.str z :: rest) (some 1) none = rest := by
  show ((D.str z :: rest).drop (HT.sIx (rest.length + 1) 0 (some 1))).take (HT.sIx (rest.length + 1) (rest.length + 1) none - HT.sIx (rest.length + 1) 0 (some 1)) = rest
  have h1 : HT.sIx (rest.length + 1) 0 (some 1) = 1 := by
    simp [HT.sIx] <;> omega
  have h2 : HT.sIx (rest.length + 1) (rest.length + 1) none = rest.length + 1 := rfl
  rw [h1, h2]
  simp
theorem bad1_ok (h3 : sl[3]? = some (some (.tup (.str z :: rest)))) (hz : z.length ≤ 5) (hr : rest.length ≤ 2) (q : Q (.lst [.lst (.str z :: rest), .tup (.str z :: rest ++ [.int 0]), .tup [], .non, .str z, .tup (.str (Txt.upper z) :: rest), .tup (.str "stop" :: rest), .tup (.lst [.str z] :: rest), .tup (.int 3 :: rest)]) mu) :
    dCB gLstD (dCons (dCB gList1 (dCons (dVar 3) dNil)) (dCons (dOp gAdd (dVar 3) (dCB gTupD (dCons (dC (.int 0)) dNil))) (dCons (dCB gTupD dNil) (dCons (dC .non) (dCons (dOp gIx (dVar 3) (dC (.int 0))) (dCons (dOp gAdd (dCB gTupD (dCons (dMt "str" gUpper (dOp gIx (dVar 3) (dC (.int 0))) dNil) dNil)) (dSl gSl (dVar 3) (dPart (dC (.int 1))) dNoPart)) (dCons (dOp gAdd (dCB gTupD (dCons (dC (.str "stop")) dNil)) (dSl gSl (dVar 3) (dPart (dC (.int 1))) dNoPart)) (dCons (dOp gAdd (dCB gTupD (dCons (dCB gLstD (dCons (dOp gIx (dVar 3) (dC (.int 0))) dNil)) dNil)) (dSl gSl (dVar 3) (dPart (dC (.int 1))) dNoPart)) (dCons (dOp gAdd (dCB gTupD (dCons (dC (.int 3)) dNil)) (dSl gSl (dVar 3) (dPart (dC (.int 1))) dNoPart)) dNil))))))))) sl mu Q := by
  have z0 : 100 ≤ sizeLine := by decide
  have a1 : rest.length + 1 + 1 ≤ sizeLine := by omega
  have a2 : 1 + rest.length ≤ sizeLine := by omega
  have z1 : 1 ≤ sizeLine := by decide
  have t1 : ∀ R : D → Mu → Prop, R (.lst (.str z :: rest)) mu → dCB gList1 (dCons (dVar 3) dNil) sl mu R := fun R h => by simp [h3]; exact h
  have t2 : ∀ R : D → Mu → Prop, R (.tup (.str z :: rest ++ [.int 0])) mu → dOp gAdd (dVar 3) (dCB gTupD (dCons (dC (.int 0)) dNil)) sl mu R := fun R h => by simp [h3, a1, z1]; exact h
  have t3 : ∀ R : D → Mu → Prop, R (.tup []) mu → dCB gTupD dNil sl mu R := fun R h => ⟨Nat.zero_le _, h⟩
  have t5 : ∀ R : D → Mu → Prop, R (.str z) mu → dOp gIx (dVar 3) (dC (.int 0)) sl mu R := fun R h => by simp [h3, at0]; exact h
  have tc : ∀ R : D → Mu → Prop, R (.tup rest) mu → dSl gSl (dVar 3) (dPart (dC (.int 1))) dNoPart sl mu R := fun R h => by simp [h3, cut1]; exact h
  have t6 : ∀ R : D → Mu → Prop, R (.tup (.str (Txt.upper z) :: rest)) mu → dOp gAdd (dCB gTupD (dCons (dMt "str" gUpper (dOp gIx (dVar 3) (dC (.int 0))) dNil) dNil)) (dSl gSl (dVar 3) (dPart (dC (.int 1))) dNoPart) sl mu R := fun R h =>
    t5 _ ⟨rfl, show z.length ≤ 5592405 by omega, z1, tc _ ⟨a2, h⟩⟩
  have t7 : ∀ R : D → Mu → Prop, R (.tup (.str "stop" :: rest)) mu → dOp gAdd (dCB gTupD (dCons (dC (.str "stop")) dNil)) (dSl gSl (dVar 3) (dPart (dC (.int 1))) dNoPart) sl mu R := fun R h => ⟨z1, tc _ ⟨a2, h⟩⟩
  have t8 : ∀ R : D → Mu → Prop, R (.tup (.lst [.str z] :: rest)) mu → dOp gAdd (dCB gTupD (dCons (dCB gLstD (dCons (dOp gIx (dVar 3) (dC (.int 0))) dNil)) dNil)) (dSl gSl (dVar 3) (dPart (dC (.int 1))) dNoPart) sl mu R := fun R h => t5 _ ⟨z1, z1, tc _ ⟨a2, h⟩⟩
  have t9 : ∀ R : D → Mu → Prop, R (.tup (.int 3 :: rest)) mu → dOp gAdd (dCB gTupD (dCons (dC (.int 3)) dNil)) (dSl gSl (dVar 3) (dPart (dC (.int 1))) dNoPart) sl mu R := fun R h => ⟨z1, tc _ ⟨a2, h⟩⟩
  exact t1 _ (t2 _ (t3 _ (t5 _ (t6 _ (t7 _ (t8 _ (t9 _ ⟨show 9 ≤ sizeLine by decide, q⟩)))))))
theorem bad2_ok {bs : List D} (h6 : sl[6]? = some (some (.lst bs))) (hb : bs.length = 9) (q : Q (.lst (bs ++ [.tup [.str "look", .str "Person", .int 0], .tup [.str "press", .non, .int 0], .tup [.str "look", .int 0], .tup [.str "come", .str "person", .int 0], .tup [.str "ask", .int 0], .tup [.str "look", .lst [.str "person"], .int 0]])) mu) :
    dOp gAdd (dVar 6) (dCB gLstD (dCons (dCB gTupD (dCons (dC (.str "look")) (dCons (dC (.str "Person")) (dCons (dC (.int 0)) dNil)))) (dCons (dCB gTupD (dCons (dC (.str "press")) (dCons (dC .non) (dCons (dC (.int 0)) dNil)))) (dCons (dCB gTupD (dCons (dC (.str "look")) (dCons (dC (.int 0)) dNil))) (dCons (dCB gTupD (dCons (dC (.str "come")) (dCons (dC (.str "person")) (dCons (dC (.int 0)) dNil)))) (dCons (dCB gTupD (dCons (dC (.str "ask")) (dCons (dC (.int 0)) dNil))) (dCons (dCB gTupD (dCons (dC (.str "look")) (dCons (dCB gLstD (dCons (dC (.str "person")) dNil)) (dCons (dC (.int 0)) dNil)))) dNil))))))) sl mu Q := by
  have z0 : 100 ≤ sizeLine := by decide
  have z1 : 1 ≤ sizeLine := by decide
  have z2 : 2 ≤ sizeLine := by decide
  have z3 : 3 ≤ sizeLine := by decide
  have z6 : 6 ≤ sizeLine := by decide
  have z15 : 15 ≤ sizeLine := by decide
  have t0 : ∀ R : D → Mu → Prop, R (.lst bs) mu → dVar 6 sl mu R := fun R h => by simp [h6]; exact h
  exact t0 _ ⟨z3, z3, z2, z3, z2, z1, z3, z6, show bs.length + 6 ≤ sizeLine by omega, q⟩
def bads (z : Str) (rest : List D) : List D := [.lst (.str z :: rest), .tup (.str z :: rest ++ [.int 0]), .tup [], .non, .str z, .tup (.str (Txt.upper z) :: rest), .tup (.str "stop" :: rest), .tup (.lst [.str z] :: rest), .tup (.int 3 :: rest)] ++ [.tup [.str "look", .str "Person", .int 0], .tup [.str "press", .non, .int 0], .tup [.str "look", .int 0], .tup [.str "come", .str "person", .int 0], .tup [.str "ask", .int 0], .tup [.str "look", .lst [.str "person"], .int 0]]
theorem bads_ok (hL : lenOf z = (rest.length : Int) + 1) (hu : lenOf (Txt.upper z) = 0) {d : D} (hd : d ∈ bads z rest) (q : Q (.bl false) mu) : F_is_event [d] mu Q := by
  simp only [bads, List.mem_append, List.mem_cons, List.not_mem_nil, or_false] at hd
  rcases hd with (rfl | rfl | rfl | rfl | rfl | rfl | rfl | rfl | rfl) | (rfl | rfl | rfl | rfl | rfl | rfl)
  · exact ev_lst q
  · exact ev_head (by simp; omega) q
  · exact ev_0 q
  · exact ev_non q
  · exact ev_str q
  · exact ev_head (by omega) q
  · exact ev_head (by rw [show lenOf "stop" = 0 by decide +kernel]; omega) q
  · exact ev_ol q
  · exact ev_oi q
  · exact ev_3 (by decide +kernel) (in_vis0 rfl (by decide +kernel) q)
  · exact ev_3 (by decide +kernel) (in_vis0 rfl (by decide +kernel) q)
  · exact ev_head (by decide +kernel) q
  · exact ev_head (by decide +kernel) q
  · exact ev_head (by decide +kernel) q
  · exact ev_3 (by decide +kernel) (in_visL q)
theorem found_ok {d lo : D} (h3 : sl[3]? = some (some d)) (h5 : sl[5]? = some (some lo)) (h6 : sl[6]? = some (some (.lst (bads z rest)))) (h8 : sl.length = 9) (hL : lenOf z = (rest.length : Int) + 1) (hu : lenOf (Txt.upper z) = 0)
    (e1 : ∀ (mu : Mu) (Q : D → Mu → Prop), Q (.bl true) mu → F_is_event [d] mu Q) (e2 : ∀ (mu : Mu) (Q : D → Mu → Prop), Q (.bl true) mu → F_is_event [lo] mu Q) (q : Q (.lst ([.bl true, .bl true] ++ List.replicate 15 (.bl false))) mu) :
    dOp gAdd (dCB gLstD (dCons (dCall F_is_event [] (dCons (dVar 3) dNil)) (dCons (dCall F_is_event [] (dCons (dVar 5) dNil)) dNil))) (dLc (iSeq (dVar 6)) (.nm 8) dYes (dCall F_is_event [] (dCons (dVar 8) dNil)) [8]) sl mu Q := by
  have z2 : 2 ≤ sizeLine := by decide
  have z15 : 15 ≤ sizeLine := by decide
  have z17 : 17 ≤ sizeLine := by decide
  simp only [e_op, e_cb, e_cons, e_call, e_var, e_nil, h3, h5, List.append_nil]
  refine e1 _ _ (e2 _ _ ⟨z2, ?_⟩)
  simp only [e_lc, e_iseq, e_var, h6]
  refine ⟨z15, lcGo_map (f := fun _ => .bl false) _ _ (fun d hd R hR => ?_) ?_⟩
  · simp [h8]
    exact bads_ok hL hu hd hR
  · exact ⟨z17, q⟩
end
/-- the slots between two turns -/
def Sls (a : D) (sl : Sl) : Prop := ∃ z2 z3 z4 z5 z6 z7 : Option D, sl = [some a, some (.mu 0), z2, z3, z4, z5, z6, z7, none]
theorem law_ok (ns : List Int) (hl : ns.length ≤ 63) : F_law [.fls (ns.map D.int)] [] fun d _ => d = .bl true := by
  show sSeq _ _ _ _ _
  refine st_asg ?_
  refine ⟨ns, rfl, ?_⟩
  refine st_for ?_
  simp
  generalize rangeD 0 10 = ts
  suffices h : ∀ (sl : Sl), Sls (.fls (ns.map D.int)) sl → forGo _ _ _ ts sl [.any Bag] from h _ ⟨none, none, none, none, none, none, rfl⟩
  induction ts with
  | nil =>
    rintro _ ⟨z2, z3, z4, z5, z6, z7, rfl⟩
    simp only [e_for0]
    refine st_ret ?_
    exact rfl
  | cons t ts ih =>
    rintro _ ⟨z2, z3, z4, z5, z6, z7, rfl⟩
    refine st_turnN ?_
    refine st_asg ?_
    refine ⟨0, 4, rfl, rfl, by decide, by decide, fun r r0 r1 => ?_⟩
    refine words_ok r0 r1 rfl fun ev hev => ?_
    obtain ⟨z, rest, lo, rfl, hL, hu, hz, hr, hlo, hev1, hlo1⟩ := ev_shape hev
    refine st_asg ?_
    refine odd_ok rfl rfl rfl fun o => ?_
    refine st_asg ?_
    refine hlo _ o _ _ rfl rfl ?_
    refine st_asg ?_
    refine bad1_ok rfl hz hr ?_
    refine st_asg ?_
    refine bad2_ok rfl rfl ?_
    refine st_asg ?_
    refine found_ok (z := z) (rest := rest) rfl rfl rfl rfl hL hu hev1 (hlo1 o) ?_
    refine st_if0 ?_
    refine ⟨show 2 ≤ sizeLine by decide, show 1 ≤ sizeLine by decide, ⟨show (-(2 ^ 63) : Int) ≤ 15 by decide, show (15 : Int) < 2 ^ 63 by decide, show 15 ≤ sizeLine by decide⟩, show 17 ≤ sizeLine by decide, _, _, rfl, rfl, rfl, show Lw.dep (D.lst ([D.bl true, D.bl true] ++ (List.replicate 15 [D.bl false]).flatten)) < 6 by decide, ?_⟩
    refine st_chk rfl ?_
    refine st_next ?_
    exact ih _ ⟨_, _, _, _, _, _, rfl⟩
end Law

namespace Law
open PySem PySem.Spec PyProof.Rows L2 DL
def d_is_event : He.DefD := ⟨("is_event", none), "is_event", "is_event", defArgs s_is_event, defBody s_is_event, defScope s_is_event, [], []⟩
def d_begun : He.DefD := ⟨("_law_begun", none), "_law_begun", "_law_begun", defArgs s_begun, defBody s_begun, defScope s_begun, [], []⟩
def d_number : He.DefD := ⟨("_law_number", none), "_law_number", "_law_number", defArgs s_number, defBody s_number, defScope s_number, [], []⟩
def d_one : He.DefD := ⟨("_law_one", none), "_law_one", "_law_one", defArgs s_one, defBody s_one, defScope s_one, [], []⟩
def d_event_words : He.DefD := ⟨("_law_event_words", none), "_law_event_words", "_law_event_words", defArgs s_event_words, defBody s_event_words, defScope s_event_words, [], []⟩
def d_equal : He.DefD := ⟨("_law_equal", none), "_law_equal", "_law_equal", defArgs s_equal, defBody s_equal, defScope s_equal, [], []⟩
def d_law : He.DefD := ⟨("law", none), "law", "law", defArgs s_law, defBody s_law, defScope s_law, [], []⟩
def fn : List He.DefD := [d_is_event, d_begun, d_number, d_one, d_event_words, d_equal, d_law]
def ts : List He.Tab := [(fun K => He.ga K "FORMS", ["ask", "beat", "come", "lose", "look", "press"])]
def ex (K : PySem.W.Frag) : Bool := (tabB K (He.ga K "FORMS") (intTab [("ask", 1), ("beat", 1), ("come", 2), ("lose", 2), ("look", 3), ("press", 3)]) && (He.tupB K "VISITORS" [.str "person", .str "reader"] && true))
def fa : List He.Fa := [.glo "is_event", .glo "_law_begun", .glo "_law_number", .glo "_law_one", .glo "_law_event_words", .glo "_law_equal", .glo "law", .free "all", .free "bool", .free "int", .free "isinstance", .free "len", .free "list", .free "range", .free "str", .free "tuple", .free "zip", .glo "FORMS", .glo "VISITORS"]
def loose : List Str := ["FORMS", "VISITORS", "is_event", "_law_begun", "_law_number", "_law_one", "_law_event_words", "_law_equal"]
abbrev R : PySem.W.OpenRow := PySem.W.OpenLaw.row PySem.Challenge.rw_onceclicked_k13_forms_of_events
abbrev hk : PySem.W.Hook := He.hookX 5 fa fn ts [] ex
def ob (s : PySem.W.SharedT) : He.AlX := He.obsX 5 fa fn ts [] ex (HandSHeadRun.getT s)
theorem ob_eq (s : PySem.W.SharedT) : ob s = hk.obs s.abs := He.obsX_eq (HandSHeadRun.getT_eq s)
theorem run (w : World) : HandSHeadRun.RunEq R (PySem.W.view R.prog [10]) hk ob 2000 loose w := by
  refine PySem.W.byRow2 "special-get-raises" (P := fun w => HandSHeadRun.RunEq R (PySem.W.view R.prog [10]) hk ob 2000 loose w) (fun w => ?_) (fun w => ?_) w
  · intro os
    kernel_rfl
  · intro os
    kernel_rfl
theorem facts {P : Program} {w : World} {K : PySem.W.Frag} {h : Heap} {mg : Str → Option Value} {f : Addr} (X : K.In h) (G : h.Ns mainGlobals mg) (hfa : mg ("law" : Str) = some (.ref f)) (ct : He.SaysT fa fn ts w K) (cm : ex K = true) :
    ∃ fd : FuncData, (∀ (s : Shared) (v : Value), BindsTo s fd ⟨[v], []⟩ [("_law_script", v)]) ∧ ∀ base : Heap, FnOk P w K mg base CX0 8 f fd ["_law_script"] (spD K 1 F_law) ∧ ∀ A : Around, Room 8 A → MoF F_law := by
  have c := ct.d
  obtain ⟨fd0, D0⟩ := c.def_ 0 (d := d_is_event) rfl
  have m0 := He.glo_ok X G (c.fact 0 (f := .glo "is_event") rfl)
  obtain ⟨fd1, D1⟩ := c.def_ 1 (d := d_begun) rfl
  have m1 := He.glo_ok X G (c.fact 1 (f := .glo "_law_begun") rfl)
  obtain ⟨fd2, D2⟩ := c.def_ 2 (d := d_number) rfl
  have m2 := He.glo_ok X G (c.fact 2 (f := .glo "_law_number") rfl)
  obtain ⟨fd3, D3⟩ := c.def_ 3 (d := d_one) rfl
  have m3 := He.glo_ok X G (c.fact 3 (f := .glo "_law_one") rfl)
  obtain ⟨fd4, D4⟩ := c.def_ 4 (d := d_event_words) rfl
  have m4 := He.glo_ok X G (c.fact 4 (f := .glo "_law_event_words") rfl)
  obtain ⟨fd5, D5⟩ := c.def_ 5 (d := d_equal) rfl
  have m5 := He.glo_ok X G (c.fact 5 (f := .glo "_law_equal") rfl)
  obtain ⟨fd6, D6⟩ := c.def_ 6 (d := d_law) rfl
  have m6 := He.glo_ok X G (c.fact 6 (f := .glo "law") rfl)
  obtain ⟨e0, cm⟩ := Bool.and_eq_true_iff.mp cm
  obtain ⟨e1, cm⟩ := Bool.and_eq_true_iff.mp cm
  have g : Gs K w mg := ⟨He.free_ok X G (c.fact 7 (f := .free "all") rfl), He.free_ok X G (c.fact 8 (f := .free "bool") rfl), He.free_ok X G (c.fact 9 (f := .free "int") rfl), He.free_ok X G (c.fact 10 (f := .free "isinstance") rfl), He.free_ok X G (c.fact 11 (f := .free "len") rfl), He.free_ok X G (c.fact 12 (f := .free "list") rfl), He.free_ok X G (c.fact 13 (f := .free "range") rfl), He.free_ok X G (c.fact 14 (f := .free "str") rfl), He.free_ok X G (c.fact 15 (f := .free "tuple") rfl), He.free_ok X G (c.fact 16 (f := .free "zip") rfl), ⟨_, He.glo_ok X G (c.fact 17 (f := .glo "FORMS") rfl), ktab_ok (ct.tab 0 rfl) e0⟩, ⟨_, He.glo_ok X G (c.fact 18 (f := .glo "VISITORS") rfl), fun H => He.tupB_ok e1 H⟩⟩
  have e := hfa.symm.trans m6
  cases e
  have b := FunD.bindsA (ps := ["_law_script"]) D6 fun _ _ _ _ _ _ us hl => match us, hl with | [_], _ => rfl
  refine ⟨fd6, fun s v => b s [v] rfl, fun base => ?_⟩
  have h_is_event := ok_is_event (P := P) (w := w) (base := base) g D0 m0
  have h_begun := (ok_begun (P := P) (w := w) (base := base) g D1 m1).weak.imp Lw.C_begun_mo fun ds mu Q _ h => Lw.begun_ok ds mu Q h
  have h_number := ((ok_number (P := P) (w := w) (base := base) g D2 m2).seal Lw.bagAt Lw.Bag).imp Lw.C_number_mo fun ds mu Q _ h => Lw.number_ok ds mu Q h
  have h_one := (ok_one (P := P) (w := w) (base := base) g D3 m3 h_number).imp Lw.C_one_mo fun ds mu Q _ h => Lw.one_ok ds mu Q h
  have h_event_words := ok_event_words (P := P) (w := w) (base := base) g D4 m4 h_one h_number
  have h_equal := ((ok_equal (P := P) (w := w) (base := base) g D5 m5) 6).wf.imp (Lw.C_equal_mo 6) fun ds mu Q _ h => Lw.equal_ok 6 ds mu Q h
  have h_law := ok_law (P := P) (w := w) (base := base) g D6 h_begun h_number h_event_words h_one h_is_event h_equal
  exact h_law
end Law
open PySem PySem.W PySem.Calls PyProof.Rows
set_option maxRecDepth 100000 in
set_option maxHeartbeats 0 in
theorem PySem.Challenge.cw_onceclicked_k13_forms_of_events_holds : PySem.Challenge.rw_onceclicked_k13_forms_of_events.Holds := by
  w_on; o_law
  refine HandSHeadRun.head_any (r := OpenLaw.row PySem.Challenge.rw_onceclicked_k13_forms_of_events) (q := view (OpenLaw.row PySem.Challenge.rw_onceclicked_k13_forms_of_events).prog [10]) (H := Law.hk) (ob := Law.ob) (M := 2000) (loose := Law.loose) (d := HandSHeadRun.topDef (OpenLaw.row PySem.Challenge.rw_onceclicked_k13_forms_of_events).prog 10) (kwd := []) Law.ob_eq
    (by kernel_rfl) (fun s => by kernel_rfl) Law.run (by kernel_rfl) (by kernel_rfl) (by kernel_rfl) (by rfl) (by first | assumption | decide +kernel) (by decide +kernel) ⟨rfl, rfl, rfl, rfl, rfl, by decide +kernel⟩ ?hw ?hc
  case hw => w_witness2
  case hc =>
    have hr : L2.Room 8 callerA := ⟨rfl, by decide, by decide⟩
    refine L2.walk_ofE (l := PySem.Challenge.rw_onceclicked_k13_forms_of_events) (n := 63) (k := 8) (x := "_law_script") (CX := L2.CX0) rfl (by decide) (by kernel_rfl) hr ?F (fun _ _ _ _ z => z)
    intro w mg fa h Y G hmg0
    obtain ⟨K, KX, c⟩ := Y
    have hmg : mg ("law" : PySem.Str) = some (.ref fa) := by
      have e : (HandSHeadRun.topDef (OpenLaw.row PySem.Challenge.rw_onceclicked_k13_forms_of_events).prog 10).name = ("law" : PySem.Str) := by kernel_rfl
      rw [← e]
      exact hmg0
    obtain ⟨fd, hb, hF⟩ := Law.facts (P := (PySem.Challenge.rw_onceclicked_k13_forms_of_events).prog) (w := w) KX G hmg c.t c.more
    exact ⟨K, fd, DL.spD K 1 Law.F_law, KX, hb, fun H a ns hl _ hS => DL.law_sp Law.law_ok ((hF h).2 _ hr) H a ns hl hS, fun base _ _ => (hF base).1⟩

