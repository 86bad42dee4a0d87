import PyProof.Rows.All
import Wide.All
import OpenK.AllK
import KE.KPairComp
import Wide.FinOn
import PySem.Challenge.RW_tk0034_01
set_option Elab.async false
/-! part M1 -/
section
open PySem PySem.W PyProof.Rows PySem.Calls
namespace Mine
/-- plain data -/
inductive D where
  | int (i : Int)
  | bool (b : Bool)
  | none
  | tup (l : List D)
  | lst (l : List D)
abbrev Store := Addr → Option Obj
abbrev tupObj (vs : List Value) (n : Nat) : Obj := { cls := .type "tuple", data := .seq vs.toArray n }
abbrev listObj (vs : List Value) (n : Nat) : Obj := { cls := .type "list", data := .seq vs.toArray n }
mutual
noncomputable def IsD (S : Store) (v : Value) : D → Prop
  | .int i => ∃ t, v = .int i t
  | .bool b => v = .bool b
  | .none => v = .none
  | .tup ds => ∃ a vs n, v = .ref a ∧ S a = some (tupObj vs n) ∧ IsL S vs ds
  | .lst ds => ∃ a vs n, v = .ref a ∧ S a = some (listObj vs n) ∧ IsL S vs ds
noncomputable def IsL (S : Store) (vs : List Value) : List D → Prop
  | [] => vs = []
  | d :: ds => ∃ v r, vs = v :: r ∧ IsD S v d ∧ IsL S r ds
end
noncomputable def Le (S S' : Store) : Prop := ∀ a o, S a = some o → S' a = some o
theorem Le.refl (S : Store) : Le S S := fun _ _ e => e
theorem Le.trans {S S' S'' : Store} (x : Le S S') (y : Le S' S'') : Le S S'' := fun a o e => y a o (x a o e)
mutual
theorem IsD.mono {S S' : Store} (x : Le S S') {v : Value} : ∀ {d : D}, IsD S v d → IsD S' v d
  | .int _, h => h
  | .bool _, h => h
  | .none, h => h
  | .tup _, ⟨a, vs, n, e, h, r⟩ => ⟨a, vs, n, e, x _ _ h, IsL.mono x r⟩
  | .lst _, ⟨a, vs, n, e, h, r⟩ => ⟨a, vs, n, e, x _ _ h, IsL.mono x r⟩
theorem IsL.mono {S S' : Store} (x : Le S S') {vs : List Value} : ∀ {ds : List D}, IsL S vs ds → IsL S' vs ds
  | [], h => h
  | _ :: _, ⟨v, r, e, h, t⟩ => ⟨v, r, e, IsD.mono x h, IsL.mono x t⟩
end
theorem IsL.length {S : Store} : ∀ {vs : List Value} {ds : List D}, IsL S vs ds → vs.length = ds.length
  | _, [], h => by rw [show _ = [] from h]; rfl
  | _, _ :: _, ⟨_, _, e, _, t⟩ => by rw [e, List.length_cons, List.length_cons, IsL.length t]
theorem IsL.get {S : Store} : ∀ {vs : List Value} {ds : List D}, IsL S vs ds → ∀ {i : Nat} {d : D}, ds[i]? = some d → ∃ v, vs[i]? = some v ∧ IsD S v d
  | _, [], _, _, _, e => by simp at e
  | _, _ :: _, ⟨v, r, e, h, t⟩, 0, d, e' => ⟨v, by rw [e]; rfl, by simp at e'; subst e'; exact h⟩
  | _, _ :: _, ⟨v, r, e, h, t⟩, i + 1, d, e' => by
    obtain ⟨u, hu, hd⟩ := IsL.get t (i := i) (d := d) (by simpa using e')
    exact ⟨u, by rw [e]; simpa using hu, hd⟩
theorem IsL.append {S : Store} : ∀ {vs ws : List Value} {ds es : List D}, IsL S vs ds → IsL S ws es → IsL S (vs ++ ws) (ds ++ es)
  | _, _, [], _, h, h' => by rw [show _ = [] from h]; exact h'
  | _, _, _ :: _, _, ⟨v, r, e, h, t⟩, h' => ⟨v, r ++ _, by rw [e]; rfl, h, IsL.append t h'⟩
theorem IsL.one {S : Store} {v : Value} {d : D} (h : IsD S v d) : IsL S [v] [d] := ⟨v, [], rfl, h, rfl⟩
theorem IsL.take {S : Store} : ∀ {vs : List Value} {ds : List D} (k : Nat), IsL S vs ds → IsL S (vs.take k) (ds.take k)
  | _, _, 0, _ => by simp [IsL]
  | _, [], k + 1, h => by rw [show _ = [] from h]; rfl
  | _, _ :: _, k + 1, ⟨v, r, e, h, t⟩ => ⟨v, r.take k, by rw [e]; rfl, h, IsL.take k t⟩
theorem IsL.drop {S : Store} : ∀ {vs : List Value} {ds : List D} (k : Nat), IsL S vs ds → IsL S (vs.drop k) (ds.drop k)
  | _, _, 0, h => by simpa using h
  | _, [], k + 1, h => by rw [show _ = [] from h]; rfl
  | _, _ :: _, k + 1, ⟨v, r, e, h, t⟩ => by rw [e]; exact IsL.drop k t
theorem IsL.reverse {S : Store} : ∀ {vs : List Value} {ds : List D}, IsL S vs ds → IsL S vs.reverse ds.reverse
  | _, [], h => by rw [show _ = [] from h]; rfl
  | _, _ :: _, ⟨v, r, e, h, t⟩ => by rw [e, List.reverse_cons, List.reverse_cons]; exact IsL.append (IsL.reverse t) (IsL.one h)
/-- what a name of the frame holds: data that stands, or a list of its own that may still be filled -/
inductive LV where
  | val (d : D)
  | own (ds : List D)
abbrev Lo := List (Option LV)
noncomputable def gl : Lo → Nat → Option LV
  | [], _ => none
  | a :: _, 0 => a
  | _ :: l, n + 1 => gl l n
noncomputable def sl : Lo → Nat → Option LV → Lo
  | [], _, _ => []
  | _ :: l, 0, v => v :: l
  | a :: l, n + 1, v => a :: sl l n v
theorem gl_sl_ne : ∀ {lo : Lo} {i j : Nat} {v : Option LV}, i ≠ j → gl (sl lo i v) j = gl lo j
  | [], _, _, _, _ => rfl
  | _ :: _, 0, 0, _, h => absurd rfl h
  | _ :: _, 0, _ + 1, _, _ => rfl
  | _ :: _, _ + 1, 0, _, _ => rfl
  | _ :: l, i + 1, j + 1, _, h => gl_sl_ne (lo := l) (fun e => h (by rw [e]))
theorem gl_sl_self : ∀ {lo : Lo} {i : Nat} {v : Option LV} {x : LV}, gl (sl lo i v) i = some x → v = some x
  | [], _, _, _, h => by cases h
  | _ :: _, 0, _, _, h => h
  | _ :: l, i + 1, _, _, h => gl_sl_self (lo := l) h
noncomputable def put (S : Store) (a : Addr) (o : Obj) : Store := fun b => if b = a then some o else S b
theorem put_self {S : Store} {a : Addr} {o : Obj} : put S a o a = some o := by simp [put]
theorem put_ne {S : Store} {a b : Addr} {o : Obj} (h : b ≠ a) : put S a o b = S b := by simp [put, h]
theorem put_le {S : Store} {a : Addr} {o : Obj} (h : S a = none) : Le S (put S a o) := fun b x e => by
  by_cases q : b = a
  · subst q; rw [h] at e; cases e
  · rw [put_ne q]; exact e
noncomputable def Place (env : Env) (hid : List (Addr × Obj)) (m : Str → Option Value) (x : Str) (v : Value) : Prop :=
  (env.kindOf x = some .local ∧ m x = some v) ∨ (∃ c o, env.kindOf x = some .cell ∧ env.cells.lookup x = some c ∧ (c, o) ∈ hid ∧ o.data = .cell (some v))
structure OwnAt (env : Env) (h₀ : Heap) (hid : List (Addr × Obj)) (S : Store) (h : Heap) (a : Addr) (ds : List D) : Prop where
  s : S a = none
  b : h₀.get? a = none
  l : a ≠ env.locals
  hd : ∀ p ∈ hid, p.1 ≠ a
  it : ∃ vs n, h.get? a = some (listObj vs n) ∧ IsL S vs ds
structure Inv (env : Env) (h₀ : Heap) (S₀ : Store) (ns : List Str) (hid : List (Addr × Obj)) (S : Store) (lo : Lo) (m : Str → Option Value) (ad : Nat → Addr) (h : Heap) : Prop where
  fr : Fr h₀ env.locals h m
  sub : ∀ a o, S a = some o → h.get? a = some o
  sL : S env.locals = none
  new : ∀ a o, S a = some o → S₀ a = some o ∨ h₀.get? a = none
  hidOk : ∀ p ∈ hid, h.get? p.1 = some p.2 ∧ S p.1 = none ∧ h₀.get? p.1 = none ∧ p.1 ≠ env.locals
  vals : ∀ i x d, ns[i]? = some x → gl lo i = some (.val d) → ∃ v, Place env hid m x v ∧ IsD S v d
  owns : ∀ i x ds, ns[i]? = some x → gl lo i = some (.own ds) → env.kindOf x = some .local ∧ m x = some (.ref (ad i)) ∧ OwnAt env h₀ hid S h (ad i) ds
  apart : ∀ i j di dj, gl lo i = some (.own di) → gl lo j = some (.own dj) → ad i = ad j → i = j
  inn : ∀ i ds, gl lo i = some (.own ds) → ∃ x, ns[i]? = some x
section
variable {env : Env} {h₀ : Heap} {S₀ : Store} {ns : List Str} {hid : List (Addr × Obj)} {S : Store} {lo : Lo} {m : Str → Option Value} {ad : Nat → Addr} {h : Heap}
/-- the heap grows; all but the frame's own dict stands -/
theorem Inv.grow (I : Inv env h₀ S₀ ns hid S lo m ad h) {h' : Heap} (F : Fr h₀ env.locals h' m) (g : ∀ a o, a ≠ env.locals → h.get? a = some o → h'.get? a = some o) : Inv env h₀ S₀ ns hid S lo m ad h' where
  fr := F
  sub := fun a o e => g a o (fun q => by rw [q, I.sL] at e; cases e) (I.sub a o e)
  sL := I.sL
  new := I.new
  hidOk := fun p hp => let ⟨a, b, c, d⟩ := I.hidOk p hp; ⟨g _ _ d a, b, c, d⟩
  vals := I.vals
  owns := fun i x ds e e' => let ⟨a, b, c⟩ := I.owns i x ds e e'; ⟨a, b, ⟨c.s, c.b, c.l, c.hd, let ⟨vs, n, e, q⟩ := c.it; ⟨vs, n, g _ _ c.l e, q⟩⟩⟩
  apart := I.apart
  inn := I.inn
theorem Inv.ext (I : Inv env h₀ S₀ ns hid S lo m ad h) {h' : Heap} (g : ∀ a o, h.get? a = some o → h'.get? a = some o) : Inv env h₀ S₀ ns hid S lo m ad h' :=
  I.grow (I.fr.grownK g) fun a o _ e => g a o e
/-- a made object is laid into the store -/
theorem Inv.lay (I : Inv env h₀ S₀ ns hid S lo m ad h) {a : Addr} {o : Obj} (e : h.get? a = some o) (hs : S a = none) (hb : h₀.get? a = none) (hl : a ≠ env.locals) (hh : ∀ p ∈ hid, p.1 ≠ a)
    (ho : ∀ i ds, gl lo i = some (.own ds) → ad i ≠ a) : Inv env h₀ S₀ ns hid (put S a o) lo m ad h where
  fr := I.fr
  sub := fun b x q => by
    by_cases z : b = a
    · subst z; rw [put_self] at q; cases q; exact e
    · rw [put_ne z] at q; exact I.sub b x q
  sL := by rw [put_ne (Ne.symm hl)]; exact I.sL
  new := fun b x q => by
    by_cases z : b = a
    · subst z; exact .inr hb
    · rw [put_ne z] at q; exact I.new b x q
  hidOk := fun p hp => let ⟨x, y, z, t⟩ := I.hidOk p hp; ⟨x, by rw [put_ne (hh p hp)]; exact y, z, t⟩
  vals := fun i x d e e' => let ⟨v, p, q⟩ := I.vals i x d e e'; ⟨v, p, q.mono (put_le hs)⟩
  owns := fun i x ds e e' => let ⟨p, q, c⟩ := I.owns i x ds e e'; ⟨p, q, ⟨by rw [put_ne (ho i ds e')]; exact c.s, c.b, c.l, c.hd, let ⟨vs, n, e, q⟩ := c.it; ⟨vs, n, e, q.mono (put_le hs)⟩⟩⟩
  apart := I.apart
  inn := I.inn
/-- an address that held nothing -/
theorem Inv.fresh (I : Inv env h₀ S₀ ns hid S lo m ad h) {a : Addr} (e : h.get? a = none) : S a = none ∧ h₀.get? a = none ∧ a ≠ env.locals ∧ (∀ p ∈ hid, p.1 ≠ a) ∧ (∀ i ds, gl lo i = some (.own ds) → ad i ≠ a) := by
  refine ⟨?_, ?_, ?_, ?_, ?_⟩
  · cases q : S a with
    | none => rfl
    | some o => rw [I.sub a o q] at e; cases e
  · cases q : h₀.get? a with
    | none => rfl
    | some o => rw [I.fr.keep a o q] at e; cases e
  · rintro rfl
    obtain ⟨o, _, _, ho, _⟩ := I.fr.ns
    rw [ho] at e; cases e
  · rintro p hp rfl
    rw [(I.hidOk p hp).1] at e; cases e
  · rintro i ds hi rfl
    obtain ⟨x, hx⟩ := I.inn i ds hi
    obtain ⟨_, _, c⟩ := I.owns i x ds hx hi
    obtain ⟨vs, n, q, _⟩ := c.it
    rw [q] at e; cases e
theorem get_size (h : Heap) : h.get? h.objs.size = none := by
  cases q : h.get? h.objs.size with
  | none => rfl
  | some o => exact absurd (Heap.lt_size q) (Nat.lt_irrefl _)
/-- a pushed object, laid -/
theorem Inv.push (I : Inv env h₀ S₀ ns hid S lo m ad h) (o : Obj) (hf : o.isFreed = false) : Inv env h₀ S₀ ns hid (put S h.objs.size o) lo m ad (h.push o) ∧ Le S (put S h.objs.size o) := by
  have f := I.fresh (get_size h)
  have I' := I.ext (h' := h.push o) fun a x e => Heap.get?_push_of_some _ e
  exact ⟨I'.lay (Heap.get?_push_size _ hf) f.1 f.2.1 f.2.2.1 f.2.2.2.1 f.2.2.2.2, put_le f.1⟩
theorem nodup_get : ∀ {ns : List Str}, ns.Nodup → ∀ {i j : Nat} {x : Str}, ns[i]? = some x → ns[j]? = some x → i = j
  | [], _, i, _, _, h, _ => by simp at h
  | y :: r, hn, 0, 0, _, _, _ => rfl
  | y :: r, hn, 0, j + 1, x, h, h' => by
    simp at h h'; subst h
    exact absurd (List.mem_of_getElem? h') (List.nodup_cons.mp hn).1
  | y :: r, hn, i + 1, 0, x, h, h' => by
    simp at h h'; subst h'
    exact absurd (List.mem_of_getElem? h) (List.nodup_cons.mp hn).1
  | y :: r, hn, i + 1, j + 1, x, h, h' => by
    simp at h h'
    rw [nodup_get (List.nodup_cons.mp hn).2 h h']
/-- a name is stored: data that stands -/
theorem Inv.storeVal (I : Inv env h₀ S₀ ns hid S lo m ad h) (hnd : ns.Nodup) {h' : Heap} {i : Nat} {x : Str} {v : Value} {d : D} (hx : ns[i]? = some x) (hk : env.kindOf x = some .local) (hn : h'.Ns env.locals (fun y => if y = x then some v else m y)) (hs : Heap.SameBut env.locals h h')
    (hd : IsD S v d) : Inv env h₀ S₀ ns hid S (sl lo i (some (.val d))) (fun y => if y = x then some v else m y) ad h' where
  fr := I.fr.set hn hs
  sub := fun a o e => (hs.2 a fun q => by rw [q, I.sL] at e; cases e).trans (I.sub a o e)
  sL := I.sL
  new := I.new
  hidOk := fun p hp => let ⟨a, b, c, d⟩ := I.hidOk p hp; ⟨(hs.2 _ d).trans a, b, c, d⟩
  vals := fun j y d' e e' => by
    by_cases q : i = j
    · subst q
      rw [hx] at e; cases e
      have := gl_sl_self e'
      cases this
      exact ⟨v, .inl ⟨hk, by simp⟩, hd⟩
    · rw [gl_sl_ne q] at e'
      have hne : y ≠ x := fun z => q (nodup_get hnd hx (z ▸ e))
      obtain ⟨u, p, r⟩ := I.vals j y d' e e'
      refine ⟨u, ?_, r⟩
      rcases p with ⟨p1, p2⟩ | p
      · exact .inl ⟨p1, by simp only [if_neg hne]; exact p2⟩
      · exact .inr p
  owns := fun j y ds e e' => by
    by_cases q : i = j
    · subst q
      have := gl_sl_self e'
      cases this
    · rw [gl_sl_ne q] at e'
      have hne : y ≠ x := fun z => q (nodup_get hnd hx (z ▸ e))
      obtain ⟨a, b, c⟩ := I.owns j y ds e e'
      exact ⟨a, by simp only [if_neg hne]; exact b, ⟨c.s, c.b, c.l, c.hd, let ⟨vs, n, e, r⟩ := c.it; ⟨vs, n, (hs.2 _ c.l).trans e, r⟩⟩⟩
  apart := fun j k dj dk e e' => by
    have a : i ≠ j := fun q => by subst q; have := gl_sl_self e; cases this
    have b : i ≠ k := fun q => by subst q; have := gl_sl_self e'; cases this
    rw [gl_sl_ne a] at e; rw [gl_sl_ne b] at e'
    exact I.apart j k dj dk e e'
  inn := fun j ds e => by
    have a : i ≠ j := fun q => by subst q; have := gl_sl_self e; cases this
    rw [gl_sl_ne a] at e
    exact I.inn j ds e
/-- a name is stored: a list of its own -/
theorem Inv.storeOwn (I : Inv env h₀ S₀ ns hid S lo m ad h) (hnd : ns.Nodup) {h' : Heap} {i : Nat} {x : Str} {a : Addr} {ds : List D} (hx : ns[i]? = some x) (hk : env.kindOf x = some .local) (hn : h'.Ns env.locals (fun y => if y = x then some (.ref a) else m y)) (hs : Heap.SameBut env.locals h h')
    (ho : OwnAt env h₀ hid S h a ds) (hap : ∀ j dj, gl lo j = some (.own dj) → ad j ≠ a) :
    Inv env h₀ S₀ ns hid S (sl lo i (some (.own ds))) (fun y => if y = x then some (.ref a) else m y) (fun j => if j = i then a else ad j) h' where
  fr := I.fr.set hn hs
  sub := fun a o e => (hs.2 a fun q => by rw [q, I.sL] at e; cases e).trans (I.sub a o e)
  sL := I.sL
  new := I.new
  hidOk := fun p hp => let ⟨a, b, c, d⟩ := I.hidOk p hp; ⟨(hs.2 _ d).trans a, b, c, d⟩
  vals := fun j y d' e e' => by
    by_cases q : i = j
    · subst q
      have := gl_sl_self e'
      cases this
    · rw [gl_sl_ne q] at e'
      have hne : y ≠ x := fun z => q (nodup_get hnd hx (z ▸ e))
      obtain ⟨u, p, r⟩ := I.vals j y d' e e'
      refine ⟨u, ?_, r⟩
      rcases p with ⟨p1, p2⟩ | p
      · exact .inl ⟨p1, by simp only [if_neg hne]; exact p2⟩
      · exact .inr p
  owns := fun j y ds' e e' => by
    by_cases q : i = j
    · subst q
      rw [hx] at e; cases e
      have := gl_sl_self e'
      cases this
      refine ⟨hk, by simp, ?_⟩
      simp only [if_true]
      exact ⟨ho.s, ho.b, ho.l, ho.hd, let ⟨vs, n, e, r⟩ := ho.it; ⟨vs, n, (hs.2 _ ho.l).trans e, r⟩⟩
    · rw [gl_sl_ne q] at e'
      have hne : y ≠ x := fun z => q (nodup_get hnd hx (z ▸ e))
      obtain ⟨a, b, c⟩ := I.owns j y ds' e e'
      simp only [if_neg (Ne.symm q)]
      exact ⟨a, by simp only [if_neg hne]; exact b, ⟨c.s, c.b, c.l, c.hd, let ⟨vs, n, e, r⟩ := c.it; ⟨vs, n, (hs.2 _ c.l).trans e, r⟩⟩⟩
  apart := fun j k dj dk e e' q => by
    by_cases p : i = j
    · by_cases r : i = k
      · rw [← p, ← r]
      · rw [gl_sl_ne r] at e'
        simp only [if_pos p.symm, if_neg (Ne.symm r)] at q
        exact absurd q.symm (hap k dk e')
    · by_cases r : i = k
      · rw [gl_sl_ne p] at e
        simp only [if_neg (Ne.symm p), if_pos r.symm] at q
        exact absurd q (hap j dj e)
      · rw [gl_sl_ne p] at e; rw [gl_sl_ne r] at e'
        simp only [if_neg (Ne.symm p), if_neg (Ne.symm r)] at q
        exact I.apart j k dj dk e e' q
  inn := fun j dj e => by
    by_cases q : i = j
    · exact ⟨x, q ▸ hx⟩
    · rw [gl_sl_ne q] at e
      exact I.inn j dj e
/-- a list of a name's own stands from here on -/
theorem Inv.freeze (I : Inv env h₀ S₀ ns hid S lo m ad h) {i : Nat} {ds : List D} (e : gl lo i = some (.own ds)) :
    ∃ S' x, ns[i]? = some x ∧ env.kindOf x = some .local ∧ m x = some (.ref (ad i)) ∧ Le S S' ∧ IsD S' (.ref (ad i)) (.lst ds) ∧ Inv env h₀ S₀ ns hid S' (sl lo i (some (.val (.lst ds)))) m ad h := by
  obtain ⟨x, hx⟩ := I.inn i ds e
  obtain ⟨hk, hm, c⟩ := I.owns i x ds hx e
  obtain ⟨vs, n, hg, hl⟩ := c.it
  have le : Le S (put S (ad i) (listObj vs n)) := put_le c.s
  have hd : IsD (put S (ad i) (listObj vs n)) (.ref (ad i)) (.lst ds) := ⟨ad i, vs, n, rfl, put_self, hl.mono le⟩
  refine ⟨put S (ad i) (listObj vs n), x, hx, hk, hm, le, hd, ?_⟩
  exact {
    fr := I.fr
    sub := fun b o q => by
      by_cases z : b = ad i
      · subst z; rw [put_self] at q; cases q; exact hg
      · rw [put_ne z] at q; exact I.sub b o q
    sL := by rw [put_ne (Ne.symm c.l)]; exact I.sL
    new := fun b o q => by
      by_cases z : b = ad i
      · subst z; exact .inr c.b
      · rw [put_ne z] at q; exact I.new b o q
    hidOk := fun p hp => let ⟨a, b, d, f⟩ := I.hidOk p hp; ⟨a, by rw [put_ne (c.hd p hp)]; exact b, d, f⟩
    vals := fun j y d' e1 e2 => by
      by_cases q : i = j
      · subst q
        have := gl_sl_self e2
        cases this
        rw [hx] at e1; cases e1
        exact ⟨_, .inl ⟨hk, hm⟩, hd⟩
      · rw [gl_sl_ne q] at e2
        obtain ⟨u, p, r⟩ := I.vals j y d' e1 e2
        exact ⟨u, p, r.mono le⟩
    owns := fun j y ds' e1 e2 => by
      have q : i ≠ j := fun q => by subst q; have := gl_sl_self e2; cases this
      rw [gl_sl_ne q] at e2
      obtain ⟨p1, p2, c'⟩ := I.owns j y ds' e1 e2
      have z : ad j ≠ ad i := fun z => q (I.apart i j ds ds' e e2 z.symm)
      exact ⟨p1, p2, ⟨by rw [put_ne z]; exact c'.s, c'.b, c'.l, c'.hd, let ⟨vs', n', e, r⟩ := c'.it; ⟨vs', n', e, r.mono le⟩⟩⟩
    apart := fun j k dj dk e1 e2 => by
      have a : i ≠ j := fun q => by subst q; have := gl_sl_self e1; cases this
      have b : i ≠ k := fun q => by subst q; have := gl_sl_self e2; cases this
      rw [gl_sl_ne a] at e1; rw [gl_sl_ne b] at e2
      exact I.apart j k dj dk e1 e2
    inn := fun j dj e1 => by
      have a : i ≠ j := fun q => by subst q; have := gl_sl_self e1; cases this
      rw [gl_sl_ne a] at e1
      exact I.inn j dj e1 }
end
end Mine
end
/-! part M2 -/
section
open PySem PySem.W PyProof.Rows PySem.Calls
namespace Mine
/-- what the top stands by -/
structure Gd (mg mb : Str → Option Value) (h : Heap) : Prop where
  g : h.Ns mainGlobals mg
  b : h.Ns builtinsNs mb
  nolimit : h.NoLimit
  builtins : ∀ x : Str, x ≠ "__name__" → mb x = bootBuiltins x
structure Cx where
  prog : Program
  w : World
  mg : Str → Option Value
  mb : Str → Option Value
  hb : Heap
  Sb : Store
structure Cx.Ok (C : Cx) : Prop where
  gd : Gd C.mg C.mb C.hb
  sb : ∀ a o, C.Sb a = some o → C.hb.get? a = some o
noncomputable def Ext (h h' : Heap) : Prop := ∀ a o, h.get? a = some o → h'.get? a = some o
theorem Ext.refl (h : Heap) : Ext h h := fun _ _ e => e
theorem Ext.trans {h h' h'' : Heap} (x : Ext h h') (y : Ext h' h'') : Ext h h'' := fun a o e => y a o (x a o e)
structure Room (A : Around) (n : Nat) : Prop where
  hd : A.handled = none
  dp : A.depth + n < recursionLimit
  un : A.units + 10 * n + 100 < cLine
theorem Room.mono {A : Around} {n k : Nat} (r : Room A n) (h : k ≤ n) : Room A k := ⟨r.hd, by have := r.dp; omega, by have := r.un; omega⟩
theorem Room.deeper {A : Around} {n : Nat} (r : Room A (n + 1)) (env : Env) : Room (A.deeper env) n := ⟨r.hd, by
  have h1 := r.dp
  show A.depth + 1 + n < recursionLimit
  omega, by
  have h1 := r.un
  show A.units + 3 + 10 * n + 100 < cLine
  omega⟩
abbrev EF := Lo → Option (D × Lo)
abbrev TF := Lo → Option (Bool × Lo)
abbrev AF := Lo → Option (List D × Lo)
noncomputable def EOk (C : Cx) (n : Nat) (env : Env) (ns : List Str) (e : Expr) (F : EF) : Prop :=
  ∀ (A : Around) (h₀ : Heap) (S₀ : Store) (hid : List (Addr × Obj)) (S : Store) (lo : Lo) (m : Str → Option Value) (ad : Nat → Addr) (s : Shared) (Q : Value → Shared → Prop) (E : Value → Shared → Prop) (d : D) (lo' : Lo),
    Room A n → Ext C.hb h₀ → Le C.Sb S → Inv env h₀ S₀ ns hid S lo m ad s.heap → F lo = some (d, lo') →
    (∀ v S' h' tk, Le S S' → Inv env h₀ S₀ ns hid S' lo' m ad h' → IsD S' v d → Q v { s with heap := h', toks := tk }) →
    wpAny (model C.prog C.w) A (eval e env) Q E s
noncomputable def TOk (C : Cx) (n : Nat) (env : Env) (ns : List Str) (e : Expr) (F : TF) : Prop :=
  ∀ (A : Around) (h₀ : Heap) (S₀ : Store) (hid : List (Addr × Obj)) (S : Store) (lo : Lo) (m : Str → Option Value) (ad : Nat → Addr) (s : Shared) (Q : Bool → Shared → Prop) (E : Value → Shared → Prop) (d : Bool) (lo' : Lo),
    Room A n → Ext C.hb h₀ → Le C.Sb S → Inv env h₀ S₀ ns hid S lo m ad s.heap → F lo = some (d, lo') →
    (∀ S' h' tk, Le S S' → Inv env h₀ S₀ ns hid S' lo' m ad h' → Q d { s with heap := h', toks := tk }) →
    wpAny (model C.prog C.w) A (isTrue e env (eval e env)) Q E s
noncomputable def AOk (C : Cx) (n : Nat) (env : Env) (ns : List Str) (es : List Expr) (F : AF) : Prop :=
  ∀ (pos : Pos) (A : Around) (h₀ : Heap) (S₀ : Store) (hid : List (Addr × Obj)) (S : Store) (lo : Lo) (m : Str → Option Value) (ad : Nat → Addr) (s : Shared) (Q : List Value → Shared → Prop) (E : Value → Shared → Prop) (ds : List D) (lo' : Lo),
    Room A n → Ext C.hb h₀ → Le C.Sb S → Inv env h₀ S₀ ns hid S lo m ad s.heap → F lo = some (ds, lo') →
    (∀ vs S' h' tk, Le S S' → Inv env h₀ S₀ ns hid S' lo' m ad h' → IsL S' vs ds → Q vs { s with heap := h', toks := tk }) →
    wpAny (model C.prog C.w) A (spliced (backTo pos (starEach es env))) Q E s
/-! ## the pure side -/
noncomputable def fit (a : Int) : Bool := Nat.blt a.natAbs 18446744073709551616
theorem fit_lt {a : Int} (h : fit a = true) : a.natAbs < 2 ^ 64 := by
  have : Nat.ble (a.natAbs + 1) 18446744073709551616 = true := h
  have := Nat.le_of_ble_eq_true this
  omega
theorem fit_mul {a b : Int} (h : fit a = true) : IntMulOk a b := by
  have := fit_lt h
  exact IntMulOk.of_left (intBits_le_64 (by omega) (by omega))
theorem fit_pylong {a b : Int} (h : fit b = true) : Builtin.divisionGoesByPylong a b = false := by
  have := fit_lt h
  refine PyProof.noPylong_of_log2 ?_
  rcases Nat.eq_zero_or_pos b.natAbs with h0 | hp
  · rw [h0]; decide
  · have : b.natAbs.log2 < 64 := (Nat.log2_lt (Nat.ne_of_gt hp)).mpr this
    omega
noncomputable def isNil : List D → Bool
  | [] => true
  | _ => false
noncomputable def nonzero (b : Int) : Bool := !(Nat.beq b.natAbs 0)
theorem nonzero_ne {b : Int} (h : nonzero b = true) : b ≠ 0 := by
  rintro rfl
  simp [nonzero] at h
noncomputable def rep : Nat → List D → List D
  | 0, _ => []
  | n + 1, l => l ++ rep n l
noncomputable def opD : Operator → D → D → Option D
  | .Add, .int a, .int b => some (.int (a + b))
  | .Add, .lst a, .lst b => cond (Nat.blt (a.length + b.length) 1000) (some (.lst (a ++ b))) none
  | .Sub, .int a, .int b => some (.int (a - b))
  | .Sub, .bool a, .bool b => some (.int (b2i a - b2i b))
  | .Mult, .int a, .int b => cond (fit a) (some (.int (a * b))) none
  | .Mult, .lst [d], .int b => cond (Nat.blt b.natAbs 1000) (some (.lst (List.replicate b.toNat d))) none
  | .FloorDiv, .int a, .int b => cond (nonzero b && fit b) (some (.int (a.fdiv b))) none
  | .Mod, .int a, .int b => cond (nonzero b) (some (.int (a.fmod b))) none
  | .Pow, .int a, .int b => cond (fit a && Nat.ble b.natAbs 1000) (match b with | .ofNat n => some (.int (a ^ n)) | _ => none) none
  | _, _, _ => none
mutual
noncomputable def toPy : D → PyData
  | .int i => .int i
  | .bool b => .bool b
  | .none => .none
  | .tup l => .tuple (toPys l)
  | .lst l => .list (toPys l)
noncomputable def toPys : List D → List PyData
  | [] => []
  | d :: l => toPy d :: toPys l
end
mutual
theorem canLay_toPy : ∀ d : D, (toPy d).canLay0 = true
  | .int _ => rfl
  | .bool _ => rfl
  | .none => rfl
  | .tup l => by simp only [toPy, PyData.canLay0]; exact canLays_toPy l
  | .lst l => by simp only [toPy, PyData.canLay0]; exact canLays_toPy l
theorem canLays_toPy : ∀ l : List D, PyData.canLayAll0 (toPys l) = true
  | [] => rfl
  | d :: l => by simp only [toPys, PyData.canLayAll0, canLay_toPy d, canLays_toPy l, Bool.and_self]
end
mutual
theorem IsD.reads {S : Store} {h : Heap} (sub : ∀ a o, S a = some o → h.get? a = some o) {v : Value} : ∀ {d : D}, IsD S v d → ∃ as, Reads h v (toPy d) as
  | .int i, ⟨t, e⟩ => ⟨[], e ▸ .int i t⟩
  | .bool b, e => ⟨[], (show v = .bool b from e) ▸ .bool b⟩
  | .none, e => ⟨[], (show v = .none from e) ▸ .none⟩
  | .tup l, ⟨a, vs, n, e, hs, hl⟩ => by
    obtain ⟨as, r⟩ := IsL.reads sub hl
    subst e
    exact ⟨as, .tuple (vs := vs.toArray) (n := n) (sub _ _ hs) rfl rfl r⟩
  | .lst l, ⟨a, vs, n, e, hs, hl⟩ => by
    obtain ⟨as, r⟩ := IsL.reads sub hl
    subst e
    exact ⟨a :: as, .list (vs := vs.toArray) (n := n) (sub _ _ hs) rfl rfl r⟩
theorem IsL.reads {S : Store} {h : Heap} (sub : ∀ a o, S a = some o → h.get? a = some o) {vs : List Value} : ∀ {ds : List D}, IsL S vs ds → ∃ as, ReadsAll h vs (toPys ds) as
  | [], e => ⟨[], (show vs = [] from e) ▸ .nil⟩
  | d :: ds, ⟨v, r, e, hd, hl⟩ => by
    obtain ⟨as, x⟩ := IsD.reads sub hd
    obtain ⟨bs, y⟩ := IsL.reads sub hl
    subst e
    exact ⟨as ++ bs, .cons x y⟩
end
theorem ltI_eq (a b : Int) : PySem.W.Z.ltB a b = decide (a < b) := by
  cases q : PySem.W.Z.ltB a b with
  | true => exact (decide_eq_true ((PySem.W.Z.ltB_iff a b).mp q)).symm
  | false => exact (decide_eq_false fun z => by rw [(PySem.W.Z.ltB_iff a b).mpr z] at q; cases q).symm
noncomputable def cmpD : CmpOp → D → D → Option Bool
  | .Eq, a, b => cond (Nat.ble (toPy a).depth 64) (some (PyData.eqv (toPy a) (toPy b))) none
  | .NotEq, a, b => cond (Nat.ble (toPy a).depth 64) (some (!PyData.eqv (toPy a) (toPy b))) none
  | .Lt, .int a, .int b => some (PySem.W.Z.ltB a b)
  | .LtE, .int a, .int b => some (!PySem.W.Z.ltB b a)
  | .Gt, .int a, .int b => some (PySem.W.Z.ltB b a)
  | .GtE, .int a, .int b => some (!PySem.W.Z.ltB a b)
  | _, _, _ => none
section
variable {C : Cx} {A : Around} {E : Value → Shared → Prop} {s : Shared} {S : Store} {va vb : Value} {a b : D} {c : Bool} {n : Nat}
theorem cmp_ok {op : CmpOp} {Q : Value → Shared → Prop} (R : Room A n) (sub : ∀ a o, S a = some o → s.heap.get? a = some o) (da : IsD S va a) (db : IsD S vb b) (h : cmpD op a b = some c) (hq : Q (.bool c) s) :
    wpAny (model C.prog C.w) A (compareOp op va vb) Q E s := by
  have un : A.units + 64 < cLine := by have := R.un; omega
  have room : ∀ x : Nat, x ≤ 64 → A.units + min x (toPy b).depth < cLine := fun x hx => by
    have := Nat.min_le_left x (toPy b).depth
    omega
  unfold cmpD at h
  split at h
  · cases q : Nat.ble (toPy a).depth 64 with
    | false => rw [q] at h; cases h
    | true =>
      rw [q] at h; cases h
      obtain ⟨_, ra⟩ := da.reads sub
      obtain ⟨_, rb⟩ := db.reads sub
      exact SeqAt.compareEq_reads ra rb (canLay_toPy _) (canLay_toPy _) (room _ (Nat.le_of_ble_eq_true q)) hq
  · cases q : Nat.ble (toPy a).depth 64 with
    | false => rw [q] at h; cases h
    | true =>
      rw [q] at h; cases h
      obtain ⟨_, ra⟩ := da.reads sub
      obtain ⟨_, rb⟩ := db.reads sub
      exact SeqAt.compareNe_reads ra rb (canLay_toPy _) (canLay_toPy _) (room _ (Nat.le_of_ble_eq_true q)) hq
  · cases h
    obtain ⟨t, rfl⟩ := da
    obtain ⟨u, rfl⟩ := db
    refine P.lt_int ?_
    rw [ltI_eq] at hq; exact hq
  · cases h
    obtain ⟨t, rfl⟩ := da
    obtain ⟨u, rfl⟩ := db
    refine P.le_int ?_
    rename_i x y
    have e : (!PySem.W.Z.ltB y x) = decide (x ≤ y) := by rw [ltI_eq, ← decide_not]; exact decide_eq_decide.mpr Int.not_lt
    rw [e] at hq; exact hq
  · cases h
    obtain ⟨t, rfl⟩ := da
    obtain ⟨u, rfl⟩ := db
    refine P.gt_int ?_
    rw [ltI_eq] at hq; exact hq
  · cases h
    obtain ⟨t, rfl⟩ := da
    obtain ⟨u, rfl⟩ := db
    refine P.ge_int ?_
    rename_i x y
    have e : (!PySem.W.Z.ltB x y) = decide (x ≥ y) := by rw [ltI_eq, ← decide_not]; exact decide_eq_decide.mpr Int.not_lt
    rw [e] at hq; exact hq
  · cases h
end
end Mine
end
/-! part M3 -/
section
open PySem PySem.W PyProof.Rows PySem.Calls
namespace Mine
/-! ## the whole ledger -/
noncomputable def ledAt (h₀ h : Heap) (L a : Addr) : Option (Addr × Obj) := if a = L then none else match h.get? a, h₀.get? a with
  | some o, none => some (a, o)
  | _, _ => none
noncomputable def led (h₀ h : Heap) (L : Addr) : List (Addr × Obj) := (List.range h.objs.size).filterMap (ledAt h₀ h L)
theorem led_at {h₀ h : Heap} {L a : Addr} {p : Addr × Obj} (e : ledAt h₀ h L a = some p) : p.1 = a ∧ a ≠ L ∧ h.get? a = some p.2 ∧ h₀.get? a = none := by
  unfold ledAt at e
  split at e
  · cases e
  · rename_i hne
    split at e
    · rename_i o q1 q2
      cases e
      exact ⟨rfl, hne, q1, q2⟩
    · cases e
theorem news_led (h₀ h : Heap) (L : Addr) : News h₀ L h (led h₀ h L) := fun p hp => by
  obtain ⟨a, _, e⟩ := List.mem_filterMap.mp hp
  obtain ⟨rfl, h1, h2, h3⟩ := led_at e
  exact ⟨h2, h1, h3⟩
theorem led_mem {h₀ h : Heap} {L a : Addr} {o : Obj} (e : h.get? a = some o) (hl : a ≠ L) (hb : h₀.get? a = none) : (a, o) ∈ led h₀ h L :=
  List.mem_filterMap.mpr ⟨a, List.mem_range.mpr (Heap.lt_size e), by unfold ledAt; rw [if_neg hl, e, hb]⟩
theorem led_grow {h₀ h h' : Heap} {L : Addr} {m m' : Str → Option Value} {x : List (Addr × Obj)} (F : Fr h₀ L h m) (F' : Fr h₀ L h' m') (N : News h₀ L h' (x ++ led h₀ h L)) : ∀ a o, a ≠ L → h.get? a = some o → h'.get? a = some o := fun a o hl e => by
  cases q : h₀.get? a with
  | none => exact (N (a, o) (List.mem_append_right _ (led_mem e hl q))).1
  | some o' =>
    have := F.keep a o' q
    rw [e] at this; cases this
    exact F'.keep a o q
section
variable {env : Env} {h₀ : Heap} {S₀ : Store} {ns : List Str} {hid : List (Addr × Obj)} {S : Store} {lo lo' : Lo} {m : Str → Option Value} {ad : Nat → Addr} {h : Heap}
theorem Inv.made (I : Inv env h₀ S₀ ns hid S lo m ad h) {h' : Heap} {a : Addr} {o : Obj} (F' : Fr h₀ env.locals h' m) (N : News h₀ env.locals h' ((a, o) :: led h₀ h env.locals)) (ha : h.get? a = none) :
    Inv env h₀ S₀ ns hid (put S a o) lo m ad h' ∧ Le S (put S a o) := by
  have f := I.fresh ha
  have I' := I.grow F' (led_grow (x := [(a, o)]) I.fr F' N)
  exact ⟨I'.lay (N _ (.head _)).1 f.1 f.2.1 f.2.2.1 f.2.2.2.1 f.2.2.2.2, put_le f.1⟩
/-- an object stands new on a heap that keeps all -/
theorem Inv.madeK (I : Inv env h₀ S₀ ns hid S lo m ad h) {h' : Heap} {a : Addr} {o : Obj} (hk : ∀ b x, h.get? b = some x → h'.get? b = some x) (e : h'.get? a = some o) (ha : h.get? a = none) :
    Inv env h₀ S₀ ns hid (put S a o) lo m ad h' ∧ Le S (put S a o) := by
  have f := I.fresh ha
  exact ⟨(I.ext hk).lay e f.1 f.2.1 f.2.2.1 f.2.2.2.1 f.2.2.2.2, put_le f.1⟩
end
theorem IsL.toList {S : Store} {vs : List Value} {ds : List D} (h : IsL S vs ds) : IsL S vs.toArray.toList ds := by simpa using h
theorem IsL.replicate {S : Store} {v : Value} {d : D} (h : IsD S v d) : ∀ n : Nat, IsL S (List.replicate n v) (List.replicate n d)
  | 0 => rfl
  | n + 1 => ⟨v, List.replicate n v, rfl, h, IsL.replicate h n⟩
theorem foldl_one (v : Value) : ∀ (n : Nat) (a : Array Value), List.foldl (fun x1 x2 => x1 ++ x2) a (List.replicate n #[v]) = a ++ (List.replicate n v).toArray
  | 0, a => by simp
  | n + 1, a => by
    rw [List.replicate_succ, List.foldl_cons, foldl_one v n, List.replicate_succ]
    apply Array.ext'
    simp
section
variable {C : Cx} {A : Around} {E : Value → Shared → Prop} {s : Shared} {n : Nat}
variable {env : Env} {h₀ : Heap} {S₀ : Store} {ns : List Str} {hid : List (Addr × Obj)} {S : Store} {lo : Lo} {m : Str → Option Value} {ad : Nat → Addr}
theorem size_of_blt {a b k : Nat} (h : Nat.blt (a + b) k = true) : a + b < k := Nat.le_of_ble_eq_true h
theorem op_ok {op : Operator} {va vb : Value} {a b d : D} {Q : Value → Shared → Prop} (I : Inv env h₀ S₀ ns hid S lo m ad s.heap) (da : IsD S va a) (db : IsD S vb b) (h : opD op a b = some d)
    (hq : ∀ v S' h' tk, Le S S' → Inv env h₀ S₀ ns hid S' lo m ad h' → IsD S' v d → Q v { s with heap := h', toks := tk }) : wpAny (model C.prog C.w) A (binaryOp op va vb) Q E s := by
  unfold opD at h
  split at h
  · cases h
    obtain ⟨t, rfl⟩ := da
    obtain ⟨u, rfl⟩ := db
    exact P.add_int (hq _ S _ _ (Le.refl S) I ⟨_, rfl⟩)
  · rename_i la lb
    cases q : Nat.blt (la.length + lb.length) 1000 with
    | false => rw [q] at h; cases h
    | true =>
      rw [q] at h; cases h
      obtain ⟨x, vs, n1, rfl, hx, hl⟩ := da
      obtain ⟨y, ws, n2, rfl, hy, hr⟩ := db
      have lt := size_of_blt q
      have l1 := hl.length
      have l2 := hr.length
      refine P.add_list (I.sub _ _ hx) (I.sub _ _ hy) ?_ (by simp only [List.size_toArray, PySem.sizeLine_eq]; omega)
      have p := I.push { cls := .type "list", data := .seq (vs.toArray ++ ws.toArray) } rfl
      refine hq _ _ _ s.toks p.2 p.1 ⟨_, vs ++ ws, 0, rfl, ?_, (hl.append hr).mono p.2⟩
      rw [put_self]
      simp
  · cases h
    obtain ⟨t, rfl⟩ := da
    obtain ⟨u, rfl⟩ := db
    exact P.sub_int (hq _ S _ _ (Le.refl S) I ⟨_, rfl⟩)
  · cases h
    have ea : va = .bool _ := da
    have eb : vb = .bool _ := db
    subst ea; subst eb
    exact sub_bool (hq _ S _ _ (Le.refl S) I ⟨_, rfl⟩)
  · rename_i x y
    cases q : fit x with
    | false => rw [q] at h; cases h
    | true =>
      rw [q] at h; cases h
      obtain ⟨t, rfl⟩ := da
      obtain ⟨u, rfl⟩ := db
      exact P.mul_int (hq _ S _ _ (Le.refl S) I ⟨_, rfl⟩) (fit_mul q)
  · rename_i x y
    cases q : Nat.blt y.natAbs 1000 with
    | false => rw [q] at h; cases h
    | true =>
      rw [q] at h; cases h
      obtain ⟨c, vs, n1, rfl, hx, hl⟩ := da
      obtain ⟨u, rfl⟩ := db
      obtain ⟨v, r, rfl, hv, hr⟩ := hl
      have hr' : r = [] := hr
      subst hr'
      have lt : y.natAbs < 1000 := Nat.le_of_ble_eq_true q
      refine mul_list (h₀ := h₀) (L := env.locals) (m := m) (news := led h₀ s.heap env.locals) I.fr (news_led _ _ _) (I.sub _ _ hx) (by omega) (by omega) ?_ fun h' F' N' => ?_
      · have : y.toNat ≤ 1000 := by omega
        simp only [List.size_toArray, List.length_cons, List.length_nil]; omega
      · have p := I.made F' N' (get_size _)
        refine hq _ _ _ s.toks p.2 p.1 ⟨_, List.replicate y.toNat v, 0, rfl, ?_, (IsL.replicate hv _).mono p.2⟩
        rw [put_self]
        have e : (if (#[v] : Array Value).isEmpty = true then 0 else y.toNat) = y.toNat := by simp
        show some ({ cls := .type "list", data := .seq (List.foldl (fun x1 x2 => x1 ++ x2) #[] (List.replicate (if (#[v] : Array Value).isEmpty = true then 0 else y.toNat) #[v])) } : Obj) = _
        rw [e, foldl_one]
        simp
  · rename_i x y
    cases q : (nonzero y && fit y) with
    | false => rw [q] at h; cases h
    | true =>
      rw [q] at h; cases h
      obtain ⟨t, rfl⟩ := da
      obtain ⟨u, rfl⟩ := db
      rw [Bool.and_eq_true] at q
      exact floordiv_int (nonzero_ne q.1) (hq _ S _ _ (Le.refl S) I ⟨_, rfl⟩) (.inl (fit_pylong q.2))
  · rename_i x y
    cases q : nonzero y with
    | false => rw [q] at h; cases h
    | true =>
      rw [q] at h; cases h
      obtain ⟨t, rfl⟩ := da
      obtain ⟨u, rfl⟩ := db
      exact mod_int' (nonzero_ne q) (hq _ S _ _ (Le.refl S) I ⟨_, rfl⟩)
  · rename_i x y
    cases q : (fit x && Nat.ble y.natAbs 1000) with
    | false => rw [q] at h; cases h
    | true =>
      rw [q] at h
      rw [Bool.and_eq_true] at q
      obtain ⟨t, rfl⟩ := da
      obtain ⟨u, rfl⟩ := db
      cases y with
      | negSucc k => cases h
      | ofNat k =>
        cases h
        have := Nat.le_of_ble_eq_true q.2
        have hk : k ≤ 1000 := by simpa using this
        exact pow_int_small (Int.natCast_nonneg k) (by show ((k : Nat) : Int) ≤ 1000000; omega) (fit_lt q.1) (hq _ S _ _ (Le.refl S) I ⟨_, rfl⟩)
  · cases h
end
/-! ## expressions -/
section
variable {C : Cx} {n : Nat} {env : Env} {ns : List Str}
noncomputable def intF (i : Int) : EF := fun lo => some (.int i, lo)
theorem EOk.cint {i k pos} : EOk C n env ns (.Constant (.int i) k pos) (intF i) := fun A h₀ S₀ hid S lo m ad s Q E d lo' R X B I e hq => by
  cases e
  exact wpAny_Constant_int (hq _ S _ _ (Le.refl S) I ⟨_, rfl⟩)
noncomputable def boolF (b : Bool) : EF := fun lo => some (.bool b, lo)
theorem EOk.cbool {b k pos} : EOk C n env ns (.Constant (.bool b) k pos) (boolF b) := fun A h₀ S₀ hid S lo m ad s Q E d lo' R X B I e hq => by
  cases e
  exact wpAny_Constant_bool (hq _ S s.heap s.toks (Le.refl S) I rfl)
noncomputable def noneF : EF := fun lo => some (.none, lo)
theorem EOk.cnone {k pos} : EOk C n env ns (.Constant .none k pos) noneF := fun A h₀ S₀ hid S lo m ad s Q E d lo' R X B I e hq => by
  cases e
  exact wpAny_Constant_none (hq _ S s.heap s.toks (Le.refl S) I rfl)
noncomputable def nameF (i : Nat) : EF := fun lo => match gl lo i with
  | some (.val d) => some (d, lo)
  | some (.own ds) => some (.lst ds, sl lo i (some (.val (.lst ds))))
  | none => none
theorem place_load {A : Around} {x : Str} {pos : Pos} {v : Value} {h₀ : Heap} {S₀ S : Store} {hid : List (Addr × Obj)} {lo : Lo} {m : Str → Option Value} {ad : Nat → Addr} {s : Shared} {Q : Value → Shared → Prop} {E : Value → Shared → Prop}
    (hk : env.scope.kind = .function) (hd : (x == ("__debug__" : Str)) = false) (I : Inv env h₀ S₀ ns hid S lo m ad s.heap) (p : Place env hid m x v) (q : Q v s) : wpAny (model C.prog C.w) A (eval (.Name x pos) env) Q E s := by
  rcases p with ⟨h1, h2⟩ | ⟨c, o, h1, h2, h3, h4⟩
  · exact wpAny_Name (wpAny_loadName_local hk h1 I.fr.ns h2 q) hd
  · exact wpAny_Name (wpAny_loadName_cell hk h1 h2 ⟨o, (I.hidOk _ h3).1, h4⟩ q) hd
theorem EOk.name {x : Str} {pos : Pos} (i : Nat) (hx : ns[i]? = some x) (hk : env.scope.kind = .function) (hd : (x == ("__debug__" : Str)) = false) : EOk C n env ns (.Name x pos) (nameF i) := fun A h₀ S₀ hid S lo m ad s Q E d lo' R X B I e hq => by
  unfold nameF at e
  split at e
  · rename_i d' q
    cases e
    obtain ⟨v, p, hv⟩ := I.vals i x _ hx q
    exact place_load hk hd I p (hq v S s.heap s.toks (Le.refl S) I hv)
  · rename_i ds q
    cases e
    obtain ⟨S', x', hx', hk', hm, le, hd', I'⟩ := I.freeze q
    rw [hx] at hx'; cases hx'
    exact place_load hk hd I (.inl ⟨hk', hm⟩) (hq _ S' s.heap s.toks le I' hd')
  · cases e
/-- a name of the top that holds data -/
noncomputable def gvalF (d : D) : EF := fun lo => some (d, lo)
theorem EOk.gval {x : Str} {pos : Pos} {v : Value} {d : D} (ok : C.Ok) (hg : C.mg x = some v) (hv : IsD C.Sb v d) (hx : env.kindOf x = some .globalImplicit) (hk : env.scope.kind = .function) (hgl : env.globals = mainGlobals) (hd : (x == ("__debug__" : Str)) = false) :
    EOk C n env ns (.Name x pos) (gvalF d) := fun A h₀ S₀ hid S lo m ad s Q E d' lo' R X B I e hq => by
  cases e
  exact Name_function_global hk hx (loadGlobal_global (env := env) (by rw [hgl]; exact (ok.gd.g.keeps X).keeps I.fr.keep) hg (hq v S s.heap s.toks (Le.refl S) I (hv.mono B))) hd
noncomputable def binF (op : Operator) (f g : EF) : EF := fun lo => match f lo with
  | some (a, lo1) => match g lo1 with
    | some (b, lo2) => match opD op a b with
      | some d => some (d, lo2)
      | none => none
    | none => none
  | none => none
theorem EOk.bin {l r : Expr} {op : Operator} {pos : Pos} {f g : EF} (hl : EOk C n env ns l f) (hr : EOk C n env ns r g) : EOk C n env ns (.BinOp l op r pos) (binF op f g) := fun A h₀ S₀ hid S lo m ad s Q E d lo' R X B I e hq => by
  unfold binF at e
  split at e
  · rename_i a lo1 q1
    split at e
    · rename_i b lo2 q2
      split at e
      · rename_i d' q3
        cases e
        refine wpAny_BinOp (hl _ _ _ _ _ _ _ _ _ _ _ _ _ R X B I q1 fun va S1 h1 t1 le1 I1 d1 => hr _ _ _ _ _ _ _ _ _ _ _ _ _ R X (B.trans le1) I1 q2 fun vb S2 h2 t2 le2 I2 d2 => ?_)
        exact op_ok I2 (d1.mono le2) d2 q3 fun v S3 h3 t3 le3 I3 d3 => hq v S3 h3 t3 ((le1.trans le2).trans le3) I3 d3
      · cases e
    · cases e
  · cases e
noncomputable def negF (f : EF) : EF := fun lo => match f lo with
  | some (.int a, lo1) => some (.int (-a), lo1)
  | _ => none
theorem EOk.neg {x : Expr} {pos : Pos} {f : EF} (hx : EOk C n env ns x f) : EOk C n env ns (.UnaryOp .USub x pos) (negF f) := fun A h₀ S₀ hid S lo m ad s Q E d lo' R X B I e hq => by
  unfold negF at e
  split at e
  · rename_i a lo1 q1
    cases e
    refine wpAny_UnaryOp (hx _ _ _ _ _ _ _ _ _ _ _ _ _ R X B I q1 fun va S1 h1 t1 le1 I1 d1 => ?_)
    obtain ⟨t, rfl⟩ := d1
    exact P.neg_int (hq _ S1 _ _ le1 I1 ⟨_, rfl⟩)
  · cases e
noncomputable def cmpB (op : CmpOp) (f g : EF) : TF := fun lo => match f lo with
  | some (a, lo1) => match g lo1 with
    | some (b, lo2) => match cmpD op a b with
      | some c => some (c, lo2)
      | none => none
    | none => none
  | none => none
noncomputable def boolOf (f : TF) : EF := fun lo => match f lo with
  | some (b, lo1) => some (.bool b, lo1)
  | none => none
theorem EOk.cmp {l r : Expr} {op : CmpOp} {pos : Pos} {f g : EF} (hl : EOk C n env ns l f) (hr : EOk C n env ns r g) (hm : behindInMarks op r = false) : EOk C n env ns (.Compare l [op] [r] pos) (boolOf (cmpB op f g)) := fun A h₀ S₀ hid S lo m ad s Q E d lo' R X B I e hq => by
  unfold boolOf at e
  split at e
  · rename_i c lo3 q0
    cases e
    unfold cmpB at q0
    split at q0
    · rename_i a lo1 q1
      split at q0
      · rename_i b lo2 q2
        split at q0
        · rename_i c' q3
          cases q0
          refine wpAny_Compare1 (hl _ _ _ _ _ _ _ _ _ _ _ _ _ R X B I q1 fun va S1 h1 t1 le1 I1 d1 => hr _ _ _ _ _ _ _ _ _ _ _ _ _ R X (B.trans le1) I1 q2 fun vb S2 h2 t2 le2 I2 d2 => ?_) hm
          exact cmp_ok R I2.sub (d1.mono le2) d2 q3 (hq _ S2 h2 t2 (le1.trans le2) I2 rfl)
        · cases q0
      · cases q0
    · cases q0
  · cases e
theorem TOk.cmp {l r : Expr} {op : CmpOp} {pos : Pos} {f g : EF} (hl : EOk C n env ns l f) (hr : EOk C n env ns r g) (hm : behindInMarks op r = false) : TOk C n env ns (.Compare l [op] [r] pos) (cmpB op f g) := fun A h₀ S₀ hid S lo m ad s Q E d lo' R X B I q0 hq => by
  unfold cmpB at q0
  split at q0
  · rename_i a lo1 q1
    split at q0
    · rename_i b lo2 q2
      split at q0
      · rename_i c' q3
        cases q0
        refine wpAny_isTrue_Compare1 (hl _ _ _ _ _ _ _ _ _ _ _ _ _ R X B I q1 fun va S1 h1 t1 le1 I1 d1 => hr _ _ _ _ _ _ _ _ _ _ _ _ _ R X (B.trans le1) I1 q2 fun vb S2 h2 t2 le2 I2 d2 => ?_) hm
        exact cmp_ok R I2.sub (d1.mono le2) d2 q3 (wpAny_truthy_bool (hq S2 h2 t2 (le1.trans le2) I2))
      · cases q0
    · cases q0
  · cases q0
/-- a test by its value: a bool or an int -/
noncomputable def truF (f : EF) : TF := fun lo => match f lo with
  | some (.bool b, lo1) => some (b, lo1)
  | _ => none
theorem TOk.value {x : Expr} {f : EF} (hx : EOk C n env ns x f) (he : isTrue x env (eval x env) = (do let v ← eval x env; standAt x.pos; holding [v] (truthy v))) : TOk C n env ns x (truF f) := fun A h₀ S₀ hid S lo m ad s Q E d lo' R X B I e hq => by
  unfold truF at e
  split at e
  · rename_i b lo1 q1
    cases e
    refine wpAny_isTrue_value (hx _ _ _ _ _ _ _ _ _ _ _ _ _ R X B I q1 fun va S1 h1 t1 le1 I1 d1 => ?_) he
    have e : va = .bool d := d1
    subst e
    exact wpAny_truthy_bool (hq S1 h1 t1 le1 I1)
  · cases e
noncomputable def andF (f g : TF) : TF := fun lo => match f lo with
  | some (true, lo1) => g lo1
  | some (false, lo1) => some (false, lo1)
  | none => none
noncomputable def orF (f g : TF) : TF := fun lo => match f lo with
  | some (true, lo1) => some (true, lo1)
  | some (false, lo1) => g lo1
  | none => none
theorem TOk.and2 {x y : Expr} {pos : Pos} {f g : TF} (hx : TOk C n env ns x f) (hy : TOk C n env ns y g) : TOk C n env ns (.BoolOp .And [x, y] pos) (andF f g) := fun A h₀ S₀ hid S lo m ad s Q E d lo' R X B I e hq => by
  refine wpAny_isTrue_BoolOp (wpAny_allTrue_And_cons ?_)
  unfold andF at e
  split at e
  · rename_i lo1 q1
    refine hx _ _ _ _ _ _ _ _ _ _ _ _ _ R X B I q1 fun S1 h1 t1 le1 I1 => ?_
    rw [if_pos rfl]
    refine wpAny_allTrue_And_cons (hy _ _ _ _ _ _ _ _ _ _ _ _ _ R X (B.trans le1) I1 e fun S2 h2 t2 le2 I2 => ?_)
    cases d with
    | true => exact wpAny_allTrue_And_nil (hq S2 h2 t2 (le1.trans le2) I2)
    | false => exact hq S2 h2 t2 (le1.trans le2) I2
  · rename_i lo1 q1
    cases e
    exact hx _ _ _ _ _ _ _ _ _ _ _ _ _ R X B I q1 fun S1 h1 t1 le1 I1 => hq S1 h1 t1 le1 I1
  · cases e
theorem TOk.or2 {x y : Expr} {pos : Pos} {f g : TF} (hx : TOk C n env ns x f) (hy : TOk C n env ns y g) : TOk C n env ns (.BoolOp .Or [x, y] pos) (orF f g) := fun A h₀ S₀ hid S lo m ad s Q E d lo' R X B I e hq => by
  refine wpAny_isTrue_BoolOp (wpAny_allTrue_Or_cons ?_)
  unfold orF at e
  split at e
  · rename_i lo1 q1
    cases e
    exact hx _ _ _ _ _ _ _ _ _ _ _ _ _ R X B I q1 fun S1 h1 t1 le1 I1 => hq S1 h1 t1 le1 I1
  · rename_i lo1 q1
    refine hx _ _ _ _ _ _ _ _ _ _ _ _ _ R X B I q1 fun S1 h1 t1 le1 I1 => ?_
    rw [if_neg Bool.false_ne_true]
    refine wpAny_allTrue_Or_cons (hy _ _ _ _ _ _ _ _ _ _ _ _ _ R X (B.trans le1) I1 e fun S2 h2 t2 le2 I2 => ?_)
    cases d with
    | true => exact hq S2 h2 t2 (le1.trans le2) I2
    | false => exact wpAny_allTrue_Or_nil (hq S2 h2 t2 (le1.trans le2) I2)
  · cases e
/-- a conjunction as a value, of bools -/
noncomputable def vandF (f g : EF) : EF := fun lo => match f lo with
  | some (.bool true, lo1) => g lo1
  | some (.bool false, lo1) => some (.bool false, lo1)
  | _ => none
theorem EOk.and2 {x y : Expr} {pos : Pos} {f g : EF} (hx : EOk C n env ns x f) (hy : EOk C n env ns y g) : EOk C n env ns (.BoolOp .And [x, y] pos) (vandF f g) := fun A h₀ S₀ hid S lo m ad s Q E d lo' R X B I e hq => by
  refine wpAny_And2 ?_
  unfold vandF at e
  split at e
  · rename_i lo1 q1
    refine hx _ _ _ _ _ _ _ _ _ _ _ _ _ R X B I q1 fun va S1 h1 t1 le1 I1 d1 => ?_
    have z : va = .bool true := d1
    subst z
    refine wpAny_truthy_bool ?_
    rw [if_pos rfl]
    exact hy _ _ _ _ _ _ _ _ _ _ _ _ _ R X (B.trans le1) I1 e fun v S2 h2 t2 le2 I2 d2 => hq v S2 h2 t2 (le1.trans le2) I2 d2
  · rename_i lo1 q1
    cases e
    refine hx _ _ _ _ _ _ _ _ _ _ _ _ _ R X B I q1 fun va S1 h1 t1 le1 I1 d1 => ?_
    have z : va = .bool false := d1
    subst z
    refine wpAny_truthy_bool ?_
    rw [if_neg Bool.false_ne_true]
    exact hq _ S1 h1 t1 le1 I1 rfl
  · cases e
noncomputable def iteF (t : TF) (f g : EF) : EF := fun lo => match t lo with
  | some (true, lo1) => f lo1
  | some (false, lo1) => g lo1
  | none => none
theorem EOk.ite {t x y : Expr} {pos : Pos} {tf : TF} {f g : EF} (ht : TOk C n env ns t tf) (hx : EOk C n env ns x f) (hy : EOk C n env ns y g) : EOk C n env ns (.IfExp t x y pos) (iteF tf f g) := fun A h₀ S₀ hid S lo m ad s Q E d lo' R X B I e hq => by
  refine wpAny_IfExp ?_
  unfold iteF at e
  split at e
  · rename_i lo1 q1
    refine ht _ _ _ _ _ _ _ _ _ _ _ _ _ R X B I q1 fun S1 h1 t1 le1 I1 => ?_
    rw [if_pos rfl]
    exact hx _ _ _ _ _ _ _ _ _ _ _ _ _ R X (B.trans le1) I1 e fun v S2 h2 t2 le2 I2 d2 => hq v S2 h2 t2 (le1.trans le2) I2 d2
  · rename_i lo1 q1
    refine ht _ _ _ _ _ _ _ _ _ _ _ _ _ R X B I q1 fun S1 h1 t1 le1 I1 => ?_
    rw [if_neg Bool.false_ne_true]
    exact hy _ _ _ _ _ _ _ _ _ _ _ _ _ R X (B.trans le1) I1 e fun v S2 h2 t2 le2 I2 d2 => hq v S2 h2 t2 (le1.trans le2) I2 d2
  · cases e
/-! lists of expressions -/
noncomputable def nilA : AF := fun lo => some ([], lo)
noncomputable def consA (f : EF) (g : AF) : AF := fun lo => match f lo with
  | some (d, lo1) => match g lo1 with
    | some (ds, lo2) => some (d :: ds, lo2)
    | none => none
  | none => none
theorem AOk.nil : AOk C n env ns [] nilA := fun pos A h₀ S₀ hid S lo m ad s Q E d lo' R X B I e hq => by
  cases e
  exact wpAny_items_nil (hq [] S s.heap s.toks (Le.refl S) I rfl)
theorem AOk.cons {x : Expr} {xs : List Expr} {f : EF} {g : AF} (hx : EOk C n env ns x f) (hy : AOk C n env ns xs g) (he : starEach (x :: xs) env = (false, eval x env) :: starEach xs env) : AOk C n env ns (x :: xs) (consA f g) := fun pos A h₀ S₀ hid S lo m ad s Q E d lo' R X B I e hq => by
  unfold consA at e
  split at e
  · rename_i d1 lo1 q1
    split at e
    · rename_i ds lo2 q2
      cases e
      refine wpAny_items_cons (hx _ _ _ _ _ _ _ _ _ _ _ _ _ R X B I q1 fun va S1 h1 t1 le1 I1 e1 => hy _ _ _ _ _ _ _ _ _ _ _ _ _ _ R X (B.trans le1) I1 q2 fun vs S2 h2 t2 le2 I2 e2 => ?_) he
      exact hq (va :: vs) S2 h2 t2 (le1.trans le2) I2 ⟨va, vs, rfl, e1.mono le2, e2⟩
    · cases e
  · cases e
noncomputable def tupF (f : AF) : EF := fun lo => match f lo with
  | some (ds, lo1) => cond (Nat.blt ds.length 1000) (some (.tup ds, lo1)) none
  | none => none
noncomputable def lstF (f : AF) : EF := fun lo => match f lo with
  | some (ds, lo1) => cond (Nat.blt ds.length 1000) (some (.lst ds, lo1)) none
  | none => none
theorem EOk.tup {xs : List Expr} {k : Nat} {pos : Pos} {f : AF} (hx : AOk C n env ns xs f) : EOk C n env ns (.Tuple xs k pos) (tupF f) := fun A h₀ S₀ hid S lo m ad s Q E d lo' R X B I e hq => by
  unfold tupF at e
  split at e
  · rename_i ds lo1 q1
    cases q : Nat.blt ds.length 1000 with
    | false => rw [q] at e; cases e
    | true =>
      rw [q] at e; cases e
      have lt : ds.length < 1000 := Nat.le_of_ble_eq_true q
      refine wpAny_Tuple (hx _ _ _ _ _ _ _ _ _ _ _ _ _ _ R X B I q1 fun vs S1 h1 t1 le1 I1 e1 => ⟨by have := e1.length; simp only [PySem.sizeLine_eq]; omega, ?_⟩)
      have p := I1.push (tupObj vs 0) rfl
      exact hq _ _ _ t1 (le1.trans p.2) p.1 ⟨_, vs, 0, rfl, put_self, e1.mono p.2⟩
  · cases e
theorem EOk.lst {xs : List Expr} {pos : Pos} {f : AF} (hx : AOk C n env ns xs f) : EOk C n env ns (.List xs pos) (lstF f) := fun A h₀ S₀ hid S lo m ad s Q E d lo' R X B I e hq => by
  unfold lstF at e
  split at e
  · rename_i ds lo1 q1
    cases q : Nat.blt ds.length 1000 with
    | false => rw [q] at e; cases e
    | true =>
      rw [q] at e; cases e
      have lt : ds.length < 1000 := Nat.le_of_ble_eq_true q
      refine wpAny_List (hx _ _ _ _ _ _ _ _ _ _ _ _ _ _ R X B I q1 fun vs S1 h1 t1 le1 I1 e1 => ⟨by have := e1.length; simp only [PySem.sizeLine_eq]; omega, ?_⟩)
      have p := I1.push (listObj vs 0) rfl
      exact hq _ _ _ t1 (le1.trans p.2) p.1 ⟨_, vs, 0, rfl, put_self, e1.mono p.2⟩
  · cases e
end
end Mine
end
/-! part M4 -/
section
open PySem PySem.W PyProof.Rows PySem.Calls
namespace Mine
noncomputable def at? : List D → Nat → Option D
  | [], _ => none
  | d :: _, 0 => some d
  | _ :: l, n + 1 => at? l n
theorem at?_eq : ∀ {l : List D} {i : Nat} {d : D}, at? l i = some d → l[i]? = some d
  | [], _, _, h => by cases h
  | _ :: _, 0, _, h => by simpa [at?] using h
  | _ :: l, i + 1, _, h => by simpa using at?_eq (l := l) (i := i) h
noncomputable def idx (l : List D) (k : Int) : Option D := cond (Nat.blt l.length 1000) (match k with
  | .ofNat k => at? l k
  | .negSucc k => cond (Nat.blt k l.length) (at? l (l.length - 1 - k)) none) none
noncomputable def subD : D → D → Option D
  | .lst l, .int k => idx l k
  | .tup l, .int (.ofNat k) => idx l (.ofNat k)
  | _, _ => none
section
variable {C : Cx} {A : Around} {E : Value → Shared → Prop} {s : Shared} {S : Store}
theorem item_list {value slice : Expr} {a : Addr} {vs : List Value} {nn : Nat} {l : List D} {k : Int} {t : Tok} {d : D} {Q : Value → Shared → Prop} (hg : s.heap.get? a = some (listObj vs nn)) (hl : IsL S vs l) (h : idx l k = some d)
    (hs : ∀ o i, subscripted slice false o i = operate [o, i] (getItem o i)) (hq : ∀ v, IsD S v d → Q v s) : wpAny (model C.prog C.w) A (subscriptTail value slice (.ref a) (.int k t)) Q E s := by
  have il : s.heap.IsList a vs.toArray := ⟨_, hg, rfl, nn, rfl⟩
  unfold idx at h
  cases q : Nat.blt l.length 1000 with
  | false => rw [q] at h; cases h
  | true =>
    rw [q] at h
    have lt : l.length < 1000 := Nat.le_of_ble_eq_true q
    have len := hl.length
    cases k with
    | ofNat k =>
      obtain ⟨v, hv, hd⟩ := hl.get (at?_eq h)
      have hk : k < vs.length := (List.getElem?_eq_some_iff.mp hv).1
      refine tail_any il.typeIs slot_list_getitem.lookup (wpAny_getItem_list il (Int.natCast_nonneg k) (by show ((k : Nat) : Int) < 2 ^ 63; omega) (x := v) (by simpa using hv) (hq v hd)) (hs _ _)
    | negSucc k =>
      cases q2 : Nat.blt k l.length with
      | false => simp only [q2] at h; cases h
      | true =>
        simp only [q2] at h
        have lt2 : k < l.length := Nat.le_of_ble_eq_true q2
        obtain ⟨v, hv, hd⟩ := hl.get (at?_eq h)
        have e : (Int.negSucc k + (vs.toArray.size : Nat)).toNat = l.length - 1 - k := by simp only [List.size_toArray]; omega
        refine tail_any il.typeIs slot_list_getitem.lookup (wpAny_getItem_list_neg il (by omega) (by simp only [List.size_toArray]; omega) (by omega) (x := v) (by rw [e]; simpa using hv) (hq v hd)) (hs _ _)
theorem sub_ok {value slice : Expr} {va vb : Value} {a b d : D} {Q : Value → Shared → Prop} (sub : ∀ a o, S a = some o → s.heap.get? a = some o) (da : IsD S va a) (db : IsD S vb b) (h : subD a b = some d)
    (hs : ∀ o i, subscripted slice false o i = operate [o, i] (getItem o i)) (hq : ∀ v, IsD S v d → Q v s) : wpAny (model C.prog C.w) A (subscriptTail value slice va vb) Q E s := by
  unfold subD at h
  split at h
  · obtain ⟨x, vs, nn, rfl, hx, hl⟩ := da
    obtain ⟨u, rfl⟩ := db
    exact item_list (sub _ _ hx) hl h hs hq
  · rename_i l k
    obtain ⟨x, vs, nn, rfl, hx, hl⟩ := da
    obtain ⟨u, rfl⟩ := db
    have it : IsTup s.heap x vs.toArray := ⟨_, sub _ _ hx, rfl, nn, rfl⟩
    unfold idx at h
    cases q : Nat.blt l.length 1000 with
    | false => rw [q] at h; cases h
    | true =>
      rw [q] at h
      have lt : l.length < 1000 := Nat.le_of_ble_eq_true q
      have len := hl.length
      obtain ⟨v, hv, hd⟩ := hl.get (at?_eq h)
      have hk : k < vs.length := (List.getElem?_eq_some_iff.mp hv).1
      have hk' : k < vs.toArray.size := by simpa using hk
      refine tail_any it.typeIs PyProof.Rows.slot_tuple_getitem.lookup (getItem_tuple it (by have := Int.natCast_nonneg k; show -(2 ^ 63) ≤ ((k : Nat) : Int); omega) (by show ((k : Nat) : Int) < 2 ^ 63; omega) (PySem.seqIndex_of (Int.natCast_nonneg k) (by show ((k : Nat) : Int) < _; omega)) (x := v) (by simpa using hv) (hq v hd)) (hs _ _)
  · cases h
end
section
variable {C : Cx} {n : Nat} {env : Env} {ns : List Str}
noncomputable def subF (f g : EF) : EF := fun lo => match f lo with
  | some (a, lo1) => match g lo1 with
    | some (b, lo2) => match subD a b with
      | some d => some (d, lo2)
      | none => none
    | none => none
  | none => none
theorem EOk.sub {v i : Expr} {pos : Pos} {f g : EF} (hv : EOk C n env ns v f) (hi : EOk C n env ns i g) (hs : ∀ o x, subscripted i false o x = operate [o, x] (getItem o x)) : EOk C n env ns (.Subscript v i pos) (subF f g) := fun A h₀ S₀ hid S lo m ad s Q E d lo' R X B I e hq => by
  unfold subF at e
  split at e
  · rename_i a lo1 q1
    split at e
    · rename_i b lo2 q2
      split at e
      · rename_i d' q3
        cases e
        refine Subscript_ (hv _ _ _ _ _ _ _ _ _ _ _ _ _ R X B I q1 fun va S1 h1 t1 le1 I1 d1 => hi _ _ _ _ _ _ _ _ _ _ _ _ _ R X (B.trans le1) I1 q2 fun vb S2 h2 t2 le2 I2 d2 => ?_)
        exact sub_ok I2.sub (d1.mono le2) d2 q3 hs fun u hu => hq u S2 h2 t2 (le1.trans le2) I2 hu
      · cases e
    · cases e
  · cases e
/-- an item of a name's own list, which goes on being its own -/
noncomputable def subOwnF (i : Nat) (g : EF) : EF := fun lo => match gl lo i with
  | some (.own _) => match g lo with
    | some (.int k, lo1) => match gl lo1 i with
      | some (.own ds) => match idx ds k with
        | some d => some (d, lo1)
        | none => none
      | _ => none
    | _ => none
  | some (.val a) => match g lo with
    | some (b, lo1) => match subD a b with
      | some d => some (d, lo1)
      | none => none
    | none => none
  | none => none
theorem EOk.subName {x : Str} {npos : Pos} {ie : Expr} {pos : Pos} {g : EF} (i : Nat) (hx : ns[i]? = some x) (hk : env.scope.kind = .function) (hd : (x == ("__debug__" : Str)) = false)
    (hi : EOk C n env ns ie g) (hs : ∀ o x, subscripted ie false o x = operate [o, x] (getItem o x)) : EOk C n env ns (.Subscript (.Name x npos) ie pos) (subOwnF i g) := fun A h₀ S₀ hid S lo m ad s Q E d lo' R X B I e hq => by
  unfold subOwnF at e
  split at e
  · rename_i ds0 q0
    split at e
    · rename_i k lo1 q1
      split at e
      · rename_i ds q2
        split at e
        · rename_i d' q3
          cases e
          obtain ⟨hk', hm, c⟩ := I.owns i x ds0 hx q0
          refine Subscript_ (place_load hk hd I (.inl ⟨hk', hm⟩) (hi _ _ _ _ _ _ _ _ _ _ _ _ _ R X B I q1 fun vb S2 h2 t2 le2 I2 d2 => ?_))
          obtain ⟨t, rfl⟩ := d2
          obtain ⟨_, _, c2⟩ := I2.owns i x ds hx q2
          obtain ⟨vs, nn, hg, hl⟩ := c2.it
          exact item_list hg hl q3 hs fun u hu => hq u S2 h2 t2 le2 I2 hu
        · cases e
      · cases e
    · cases e
  · rename_i a q0
    split at e
    · rename_i b lo1 q1
      split at e
      · rename_i d' q3
        cases e
        obtain ⟨v, p, hv⟩ := I.vals i x _ hx q0
        refine Subscript_ (place_load hk hd I p (hi _ _ _ _ _ _ _ _ _ _ _ _ _ R X B I q1 fun vb S2 h2 t2 le2 I2 d2 => ?_))
        exact sub_ok I2.sub (hv.mono le2) d2 q3 hs fun u hu => hq u S2 h2 t2 le2 I2 hu
      · cases e
    · cases e
  · cases e
/-- the first items of a list -/
noncomputable def uptoF (f g : EF) : EF := fun lo => match f lo with
  | some (.lst l, lo1) => match g lo1 with
    | some (.int (.ofNat k), lo2) => cond (Nat.blt l.length 1000) (some (.lst (l.take k), lo2)) none
    | _ => none
  | _ => none
theorem EOk.upto {v u : Expr} {p pos : Pos} {f g : EF} (hv : EOk C n env ns v f) (hu : EOk C n env ns u g) : EOk C n env ns (.Subscript v (.Slice none (some u) none p) pos) (uptoF f g) := fun A h₀ S₀ hid S lo m ad s Q E d lo' R X B I e hq => by
  unfold uptoF at e
  split at e
  · rename_i l lo1 q1
    split at e
    · rename_i k lo2 q2
      cases q : Nat.blt l.length 1000 with
      | false => rw [q] at e; cases e
      | true =>
        rw [q] at e; cases e
        have lt : l.length < 1000 := Nat.le_of_ble_eq_true q
        refine Subscript_ (hv _ _ _ _ _ _ _ _ _ _ _ _ _ R X B I q1 fun va S1 h1 t1 le1 I1 d1 => wpAny_Slice ?_)
        rw [evalPart_none]
        refine wpAny_pure ?_
        rw [evalPart_some]
        refine hu _ _ _ _ _ _ _ _ _ _ _ _ _ R X (B.trans le1) I1 q2 fun vb S2 h2 t2 le2 I2 d2 => ?_
        refine wpAny_pure ?_
        obtain ⟨a, vs, nn, rfl, hx, hl⟩ := d1.mono le2
        obtain ⟨t, rfl⟩ := d2
        have len := hl.length
        have il : h2.IsList a vs.toArray := ⟨_, I2.sub _ _ hx, rfl, nn, rfl⟩
        have I3 := I2.ext (h' := h2.push { cls := .type "slice", data := .fields #[Value.none, .int (Int.ofNat k) t, .none] }) fun a x e => Heap.get?_push_of_some _ e
        have il3 : (h2.push { cls := .type "slice", data := .fields #[Value.none, .int (Int.ofNat k) t, .none] }).IsList a vs.toArray := ⟨_, Heap.get?_push_of_some _ (I2.sub _ _ hx), rfl, nn, rfl⟩
        refine tail_any (T := "list") (ops := [.ref h2.objs.size, .ref a]) (Heap.IsList.typeIs (s := { s with heap := h2.push { cls := .type "slice", data := .fields #[Value.none, .int (Int.ofNat k) t, .none] }, toks := t2 }) il3) list_getitem_lookup
          (wpAny_getItem_list_slice (s := { s with heap := h2.push { cls := .type "slice", data := .fields #[Value.none, .int (Int.ofNat k) t, .none] }, toks := t2 }) il3 (Heap.IsSliceOf.new ..) .none (.int _ t) .none (by simp) ?_ (by simp only [List.size_toArray, PySem.sizeLine_eq]; omega)) rfl
        have pk : slicePick vs.toArray none (some (Int.ofNat k)) none = (vs.take k).toArray := by
          have := slicePick_upto' vs.toArray k
          simpa using this
        rw [pk]
        have P3 := I3.push (listObj (vs.take k) 0) rfl
        exact hq _ _ _ t2 ((le1.trans le2).trans P3.2) P3.1 ⟨_, vs.take k, 0, rfl, put_self, (hl.take k).mono P3.2⟩
    · cases e
  · cases e
/-- a list backwards -/
noncomputable def revF (f g : EF) : EF := fun lo => match f lo with
  | some (.lst l, lo1) => match g lo1 with
    | some (.int (.negSucc 0), lo2) => cond (Nat.blt l.length 1000) (some (.lst l.reverse, lo2)) none
    | _ => none
  | _ => none
theorem EOk.rev {v u : Expr} {p pos : Pos} {f g : EF} (hv : EOk C n env ns v f) (hu : EOk C n env ns u g) : EOk C n env ns (.Subscript v (.Slice none none (some u) p) pos) (revF f g) := fun A h₀ S₀ hid S lo m ad s Q E d lo' R X B I e hq => by
  unfold revF at e
  split at e
  · rename_i l lo1 q1
    split at e
    · rename_i lo2 q2
      cases q : Nat.blt l.length 1000 with
      | false => rw [q] at e; cases e
      | true =>
        rw [q] at e; cases e
        have lt : l.length < 1000 := Nat.le_of_ble_eq_true q
        refine Subscript_ (hv _ _ _ _ _ _ _ _ _ _ _ _ _ R X B I q1 fun va S1 h1 t1 le1 I1 d1 => wpAny_Slice ?_)
        rw [evalPart_none]
        refine wpAny_pure (wpAny_pure ?_)
        rw [evalPart_some]
        refine hu _ _ _ _ _ _ _ _ _ _ _ _ _ R X (B.trans le1) I1 q2 fun vb S2 h2 t2 le2 I2 d2 => ?_
        obtain ⟨a, vs, nn, rfl, hx, hl⟩ := d1.mono le2
        obtain ⟨t, rfl⟩ := d2
        have len := hl.length
        have I3 := I2.ext (h' := h2.push { cls := .type "slice", data := .fields #[Value.none, .none, .int (Int.negSucc 0) t] }) fun a x e => Heap.get?_push_of_some _ e
        have il3 : (h2.push { cls := .type "slice", data := .fields #[Value.none, .none, .int (Int.negSucc 0) t] }).IsList a vs.toArray := ⟨_, Heap.get?_push_of_some _ (I2.sub _ _ hx), rfl, nn, rfl⟩
        refine tail_any (T := "list") (ops := [.ref a, .ref h2.objs.size]) (Heap.IsList.typeIs (s := { s with heap := h2.push { cls := .type "slice", data := .fields #[Value.none, .none, .int (Int.negSucc 0) t] }, toks := t2 }) il3) list_getitem_lookup
          (wpAny_getItem_list_slice (s := { s with heap := h2.push { cls := .type "slice", data := .fields #[Value.none, .none, .int (Int.negSucc 0) t] }, toks := t2 }) il3 (Heap.IsSliceOf.new ..) .none .none (.int _ t) (by simp) ?_ (by simp only [List.size_toArray, PySem.sizeLine_eq]; omega)) rfl
        have pk : slicePick vs.toArray none none (some (Int.negSucc 0)) = vs.reverse.toArray := by
          have := krv_pick vs.toArray
          simpa using this
        rw [pk]
        have P3 := I3.push (listObj vs.reverse 0) rfl
        exact hq _ _ _ t2 ((le1.trans le2).trans P3.2) P3.1 ⟨_, vs.reverse, 0, rfl, put_self, hl.reverse.mono P3.2⟩
    · cases e
  · cases e
/-! ## calls -/
end
noncomputable def Spec (C : Cx) (f : Addr) (k : Nat) (G : List D → Option D) : Prop :=
  ∀ (A : Around) (s : Shared) (S : Store) (vs : List Value) (ds : List D) (d : D) (R : Result → Shared → Prop), Room A k → Ext C.hb s.heap → Le C.Sb S → (∀ a o, S a = some o → s.heap.get? a = some o) → IsL S vs ds → G ds = some d →
    (∀ v S' h' tk, Ext s.heap h' → Le S S' → (∀ a o, S' a = some o → h'.get? a = some o) → (∀ a o, S' a = some o → S a = some o ∨ s.heap.get? a = none) → IsD S' v d → R (.ok (.ret v)) { s with heap := h', toks := tk }) →
    codeAny (model C.prog C.w) A (.call (.ref f) ⟨vs, []⟩) R s
section
variable {env : Env} {h₀ : Heap} {S₀ : Store} {ns : List Str} {hid : List (Addr × Obj)} {S S' : Store} {lo : Lo} {m : Str → Option Value} {ad : Nat → Addr} {h h' : Heap}
theorem Inv.adopt (I : Inv env h₀ S₀ ns hid S lo m ad h) (x : Ext h h') (le : Le S S') (sub : ∀ a o, S' a = some o → h'.get? a = some o) (fr : ∀ a o, S' a = some o → S a = some o ∨ h.get? a = none) : Inv env h₀ S₀ ns hid S' lo m ad h' := by
  have I' := I.ext x
  have none_at : ∀ a o, h.get? a = some o → S a = none → S' a = none := fun a o e e' => by
    cases q : S' a with
    | none => rfl
    | some o' =>
      rcases fr a o' q with z | z
      · rw [e'] at z; cases z
      · rw [e] at z; cases z
  exact {
    fr := I'.fr
    sub := sub
    sL := by obtain ⟨o, _, _, ho, _⟩ := I.fr.ns; exact none_at _ _ ho I.sL
    new := fun a o e => by
      rcases fr a o e with z | z
      · exact I.new a o z
      · exact .inr (I.fresh z).2.1
    hidOk := fun p hp => let ⟨a, b, c, d⟩ := I'.hidOk p hp; ⟨a, none_at _ _ (I.hidOk p hp).1 b, c, d⟩
    vals := fun i y d e e' => let ⟨v, p, q⟩ := I.vals i y d e e'; ⟨v, p, q.mono le⟩
    owns := fun i y ds e e' => let ⟨p, q, c⟩ := I'.owns i y ds e e'; ⟨p, q, ⟨by
      obtain ⟨_, _, c0⟩ := I.owns i y ds e e'
      obtain ⟨vs, n, g, _⟩ := c0.it
      exact none_at _ _ g c.s, c.b, c.l, c.hd, let ⟨vs, n, e, q⟩ := c.it; ⟨vs, n, e, q.mono le⟩⟩⟩
    apart := I.apart
    inn := I.inn }
end
section
variable {C : Cx} {n : Nat} {env : Env} {ns : List Str}
noncomputable def callF (g : AF) (G : List D → Option D) : EF := fun lo => match g lo with
  | some (ds, lo1) => match G ds with
    | some d => some (d, lo1)
    | none => none
  | none => none
theorem EOk.call {x : Str} {npos pos : Pos} {f : Addr} {k : Nat} {e1 : Expr} {es : List Expr} {g : AF} {G : List D → Option D} {fo : Obj} {fd : FuncData} (ok : C.Ok) (hg : C.mg x = some (.ref f)) (hf : C.hb.get? f = some fo) (hdt : fo.data = .func fd) (sp : Spec C f k G) (hkn : k ≤ n)
    (ha : AOk C n env ns (e1 :: es) g) (he : starEach (e1 :: es) env = (false, eval e1 env) :: starEach es env) (hx : env.kindOf x = some .globalImplicit) (hk : env.scope.kind = .function) (hgl : env.globals = mainGlobals) (hd : (x == ("__debug__" : Str)) = false) :
    EOk C n env ns (.Call (.Name x npos) (e1 :: es) [] pos) (callF g G) := fun A h₀ S₀ hid S lo m ad s Q E d lo' R X B I e hq => by
  unfold callF at e
  split at e
  · rename_i ds lo1 q1
    split at e
    · rename_i d' q2
      cases e
      refine Call_ (Name_function_global hk hx (loadGlobal_global (env := env) (by rw [hgl]; exact (ok.gd.g.keeps X).keeps I.fr.keep) hg ?_) hd)
      refine callWith_def hdt (ha _ _ _ _ _ _ _ _ _ _ _ _ _ _ R X B I q1 fun vs S1 h1 t1 le1 I1 d1 => ⟨I1.fr.keep _ _ (X _ _ hf), wpAny_call (sp _ _ _ _ _ _ _ (R.mono hkn) (X.trans I1.fr.keep) (B.trans le1) I1.sub d1 q2 fun v S2 h2 t2 x2 le2 sub2 fr2 d2 => ?_)⟩) he
      exact hq v S2 h2 t2 (le1.trans le2) (I1.adopt x2 le2 sub2 fr2) d2
    · cases e
  · cases e
/-- a call of a built-in thing -/
noncomputable def BSpec (C : Cx) (b : Value) (k : Nat) (G : List D → Option D) : Prop :=
  ∀ (A : Around) (env : Env) (ns : List Str) (h₀ : Heap) (S₀ : Store) (hid : List (Addr × Obj)) (S : Store) (lo : Lo) (m : Str → Option Value) (ad : Nat → Addr) (s : Shared) (Q : Value → Shared → Prop) (E : Value → Shared → Prop) (vs : List Value) (ds : List D) (d : D),
    Room A k → Inv env h₀ S₀ ns hid S lo m ad s.heap → IsL S vs ds → G ds = some d → (∀ v S' h' tk, Le S S' → Inv env h₀ S₀ ns hid S' lo m ad h' → IsD S' v d → Q v { s with heap := h', toks := tk }) →
    wpAny (model C.prog C.w) A (PySem.call b vs) Q E s
theorem EOk.bcall {x : Str} {npos pos : Pos} {id : String} {e1 : Expr} {es : List Expr} {g : AF} {G : List D → Option D} (ok : C.Ok) (hg : C.mg x = none) (hb : bootBuiltins x = some (.builtin id)) (hnm : x ≠ "__name__") (sp : BSpec C (.builtin id) n G)
    (ha : AOk C n env ns (e1 :: es) g) (he : starEach (e1 :: es) env = (false, eval e1 env) :: starEach es env) (hpl : ∀ pos, (backTo pos (starEach es env)).any (·.1) = false) (hx : env.kindOf x = some .globalImplicit) (hk : env.scope.kind = .function) (hgl : env.globals = mainGlobals) (hbl : env.builtins = builtinsNs) (hd : (x == ("__debug__" : Str)) = false) :
    EOk C n env ns (.Call (.Name x npos) (e1 :: es) [] pos) (callF g G) := fun A h₀ S₀ hid S lo m ad s Q E d lo' R X B I e hq => by
  unfold callF at e
  split at e
  · rename_i ds lo1 q1
    split at e
    · rename_i d' q2
      cases e
      refine Call_ (Name_function_global hk hx (loadGlobal_builtin (env := env) (by rw [hgl]; exact (ok.gd.g.keeps X).keeps I.fr.keep) hg (by rw [hbl]; exact (ok.gd.b.keeps X).keeps I.fr.keep) ((ok.gd.builtins x hnm).trans hb) ?_) hd)
      refine callWith_builtin1 (ha _ _ _ _ _ _ _ _ _ _ _ _ _ _ R X B I q1 fun vs S1 h1 t1 le1 I1 d1 => ?_) he (hpl _)
      exact sp _ _ _ _ _ _ _ _ _ _ _ _ _ _ _ _ R I1 d1 q2 fun v S2 h2 t2 le2 I2 d2 => hq v S2 h2 t2 (le1.trans le2) I2 d2
    · cases e
  · cases e
theorem EOk.tcall {x : Str} {npos pos : Pos} {T : String} {e1 : Expr} {es : List Expr} {g : AF} {G : List D → Option D} (ok : C.Ok) (hg : C.mg x = none) (hb : bootBuiltins x = some (.type T)) (hnm : x ≠ "__name__") (sp : BSpec C (.type T) n G)
    (ha : AOk C n env ns (e1 :: es) g) (he : starEach (e1 :: es) env = (false, eval e1 env) :: starEach es env) (hpl : ∀ pos, (backTo pos (starEach es env)).any (·.1) = false) (hx : env.kindOf x = some .globalImplicit) (hk : env.scope.kind = .function) (hgl : env.globals = mainGlobals) (hbl : env.builtins = builtinsNs) (hd : (x == ("__debug__" : Str)) = false) :
    EOk C n env ns (.Call (.Name x npos) (e1 :: es) [] pos) (callF g G) := fun A h₀ S₀ hid S lo m ad s Q E d lo' R X B I e hq => by
  unfold callF at e
  split at e
  · rename_i ds lo1 q1
    split at e
    · rename_i d' q2
      cases e
      refine Call_ (Name_function_global hk hx (loadGlobal_builtin (env := env) (by rw [hgl]; exact (ok.gd.g.keeps X).keeps I.fr.keep) hg (by rw [hbl]; exact (ok.gd.b.keeps X).keeps I.fr.keep) ((ok.gd.builtins x hnm).trans hb) ?_) hd)
      refine Pv.callWith_type1 (ha _ _ _ _ _ _ _ _ _ _ _ _ _ _ R X B I q1 fun vs S1 h1 t1 le1 I1 d1 => ?_) he (hpl _)
      exact sp _ _ _ _ _ _ _ _ _ _ _ _ _ _ _ _ R I1 d1 q2 fun v S2 h2 t2 le2 I2 d2 => hq v S2 h2 t2 (le1.trans le2) I2 d2
    · cases e
  · cases e
noncomputable def lenG : List D → Option D
  | [.lst l] => cond (Nat.blt l.length 1000) (some (.int (.ofNat l.length))) none
  | _ => none
theorem len_ok {k : Nat} : BSpec C (.builtin "len") k lenG := fun A env ns h₀ S₀ hid S lo m ad s Q E vs ds d R I hl h hq => by
  unfold lenG at h
  split at h
  · rename_i l
    cases q : Nat.blt l.length 1000 with
    | false => rw [q] at h; cases h
    | true =>
      rw [q] at h; cases h
      have lt : l.length < 1000 := Nat.le_of_ble_eq_true q
      obtain ⟨v, r, rfl, hv, hr⟩ := hl
      have hr' : r = [] := hr
      subst hr'
      obtain ⟨a, ws, nn, rfl, hx, hw⟩ := hv
      have len := hw.length
      refine PyProof.Rows.len_list (l := a) (items := ws.toArray) ⟨_, I.sub _ _ hx, rfl, nn, rfl⟩ (by simp only [List.size_toArray]; omega) ?_
      exact hq _ S s.heap _ (Le.refl S) I ⟨s.toks + 1, by simp [len]⟩
  · cases h
noncomputable def absG : List D → Option D
  | [.int i] => some (.int (.ofNat i.natAbs))
  | _ => none
theorem abs_ok {k : Nat} : BSpec C (.builtin "abs") k absG := fun A env ns h₀ S₀ hid S lo m ad s Q E vs ds d R I hl h hq => by
  unfold absG at h
  split at h
  · rename_i i
    cases h
    obtain ⟨v, r, rfl, hv, hr⟩ := hl
    have hr' : r = [] := hr
    subst hr'
    obtain ⟨t, rfl⟩ := hv
    refine call_abs_int fun u tk => hq _ S s.heap tk (Le.refl S) I ⟨u, ?_⟩
    congr 1
    show _ = ((i.natAbs : Nat) : Int)
    split <;> omega
  · cases h
noncomputable def maxG : List D → Option D
  | [.int a, .int b] => some (.int (cond (PySem.W.Z.ltB a b) b a))
  | _ => none
noncomputable def minG : List D → Option D
  | [.int a, .int b] => some (.int (cond (PySem.W.Z.ltB b a) b a))
  | _ => none
theorem two_ints {S : Store} {vs : List Value} {a b : Int} (h : IsL S vs [.int a, .int b]) : ∃ t u, vs = [.int a t, .int b u] := by
  obtain ⟨v, r, rfl, ⟨t, rfl⟩, v', r', rfl, ⟨u, rfl⟩, hr⟩ := h
  have hr' : r' = [] := hr
  subst hr'
  exact ⟨t, u, rfl⟩
theorem max_ok {k : Nat} : BSpec C (.builtin "max") k maxG := fun A env ns h₀ S₀ hid S lo m ad s Q E vs ds d R I hl h hq => by
  unfold maxG at h
  split at h
  · rename_i a b
    cases h
    obtain ⟨t, u, rfl⟩ := two_ints hl
    refine max_two_ints R.hd fun h' tk x => hq _ S h' tk (Le.refl S) (I.ext x) ?_
    rw [ltI_eq]
    by_cases c : a < b
    · rw [if_pos c, decide_eq_true c]; exact ⟨u, rfl⟩
    · rw [if_neg c, decide_eq_false c]; exact ⟨t, rfl⟩
  · cases h
theorem min_ok {k : Nat} : BSpec C (.builtin "min") k minG := fun A env ns h₀ S₀ hid S lo m ad s Q E vs ds d R I hl h hq => by
  unfold minG at h
  split at h
  · rename_i a b
    cases h
    obtain ⟨t, u, rfl⟩ := two_ints hl
    refine min_two_ints R.hd fun h' tk x => hq _ S h' tk (Le.refl S) (I.ext x) ?_
    rw [ltI_eq]
    by_cases c : b < a
    · rw [if_pos c, decide_eq_true c]; exact ⟨u, rfl⟩
    · rw [if_neg c, decide_eq_false c]; exact ⟨t, rfl⟩
  · cases h
noncomputable def listG : List D → Option D
  | [.lst l] => cond (Nat.blt l.length 1000) (some (.lst l)) none
  | _ => none
theorem list_ok {k : Nat} : BSpec C (.type "list") k listG := fun A env ns h₀ S₀ hid S lo m ad s Q E vs ds d R I hl h hq => by
  unfold listG at h
  split at h
  · rename_i l
    cases q : Nat.blt l.length 1000 with
    | false => rw [q] at h; cases h
    | true =>
      rw [q] at h; cases h
      have lt : l.length < 1000 := Nat.le_of_ble_eq_true q
      obtain ⟨v, r, rfl, hv, hr⟩ := hl
      have hr' : r = [] := hr
      subst hr'
      obtain ⟨a, ws, nn, rfl, hx, hw⟩ := hv
      have len := hw.length
      refine call_list_seq a (.inl rfl) (I.sub _ _ hx) rfl rfl (fun h' c' hk e => ?_) (by simp only [List.size_toArray, PySem.sizeLine_eq]; omega)
      have p := I.madeK hk e (get_size _)
      exact hq _ _ h' s.toks p.2 p.1 ⟨_, ws, c', rfl, put_self, hw.mono p.2⟩
  · cases h
end
end Mine
end
/-! part M5 -/
section
open PySem PySem.W PyProof.Rows PySem.Calls
namespace Mine
inductive Fl where
  | next
  | ret (d : D)
noncomputable def FlIs (S : Store) : Flow → Fl → Prop
  | .next, .next => True
  | .ret v, .ret d => IsD S v d
  | _, _ => False
theorem FlIs.mono {S S' : Store} (x : Le S S') : ∀ {f : Flow} {g : Fl}, FlIs S f g → FlIs S' f g
  | .next, .next, _ => trivial
  | .ret _, .ret _, h => IsD.mono x h
  | .next, .ret _, h => h
  | .ret _, .next, h => h
  | .brk, .next, h => h
  | .brk, .ret _, h => h
  | .cont, .next, h => h
  | .cont, .ret _, h => h
abbrev SF := Lo → Option (Fl × Lo)
noncomputable def SOk (C : Cx) (n : Nat) (env : Env) (ns : List Str) (st : List Stmt) (F : SF) : Prop :=
  ∀ (A : Around) (h₀ : Heap) (S₀ : Store) (hid : List (Addr × Obj)) (S : Store) (lo : Lo) (m : Str → Option Value) (ad : Nat → Addr) (s : Shared) (Q : Flow → Shared → Prop) (E : Value → Shared → Prop) (d : Fl) (lo' : Lo),
    Room A n → Ext C.hb h₀ → Le C.Sb S → Inv env h₀ S₀ ns hid S lo m ad s.heap → F lo = some (d, lo') →
    (∀ f S' m' ad' h' tk, Le S S' → Inv env h₀ S₀ ns hid S' lo' m' ad' h' → FlIs S' f d → Q f { s with heap := h', toks := tk }) →
    wpAny (model C.prog C.w) A (execs st env) Q E s
noncomputable def XOk (C : Cx) (n : Nat) (env : Env) (ns : List Str) (st : Stmt) (F : SF) : Prop :=
  ∀ (A : Around) (h₀ : Heap) (S₀ : Store) (hid : List (Addr × Obj)) (S : Store) (lo : Lo) (m : Str → Option Value) (ad : Nat → Addr) (s : Shared) (Q : Flow → Shared → Prop) (E : Value → Shared → Prop) (d : Fl) (lo' : Lo),
    Room A n → Ext C.hb h₀ → Le C.Sb S → Inv env h₀ S₀ ns hid S lo m ad s.heap → F lo = some (d, lo') →
    (∀ f S' m' ad' h' tk, Le S S' → Inv env h₀ S₀ ns hid S' lo' m' ad' h' → FlIs S' f d → Q f { s with heap := h', toks := tk }) →
    wpAny (model C.prog C.w) A (exec st env) Q E s
/-- a value, or a new list that is nobody's yet -/
noncomputable def HasLV (env : Env) (h₀ : Heap) (hid : List (Addr × Obj)) (S : Store) (lo : Lo) (ad : Nat → Addr) (h : Heap) (v : Value) : LV → Prop
  | .val d => IsD S v d
  | .own ds => ∃ a, v = .ref a ∧ OwnAt env h₀ hid S h a ds ∧ ∀ j dj, gl lo j = some (.own dj) → ad j ≠ a
abbrev VF := Lo → Option (LV × Lo)
noncomputable def VOk (C : Cx) (n : Nat) (env : Env) (ns : List Str) (e : Expr) (F : VF) : Prop :=
  ∀ (A : Around) (h₀ : Heap) (S₀ : Store) (hid : List (Addr × Obj)) (S : Store) (lo : Lo) (m : Str → Option Value) (ad : Nat → Addr) (s : Shared) (Q : Value → Shared → Prop) (E : Value → Shared → Prop) (d : LV) (lo' : Lo),
    Room A n → Ext C.hb h₀ → Le C.Sb S → Inv env h₀ S₀ ns hid S lo m ad s.heap → F lo = some (d, lo') →
    (∀ v S' h' tk, Le S S' → Inv env h₀ S₀ ns hid S' lo' m ad h' → HasLV env h₀ hid S' lo' ad h' v d → Q v { s with heap := h', toks := tk }) →
    wpAny (model C.prog C.w) A (eval e env) Q E s
section
variable {env : Env} {h₀ : Heap} {S₀ : Store} {ns : List Str} {hid : List (Addr × Obj)} {S S' : Store} {lo : Lo} {m : Str → Option Value} {ad : Nat → Addr} {h h' : Heap}
theorem Place.mono {hid' : List (Addr × Obj)} (hs : ∀ p ∈ hid, p ∈ hid') {x : Str} {v : Value} : Place env hid m x v → Place env hid' m x v
  | .inl h => .inl h
  | .inr ⟨c, o, a, b, d, e⟩ => .inr ⟨c, o, a, b, hs _ d, e⟩
/-- an object is hidden from what goes on -/
theorem Inv.hide (I : Inv env h₀ S₀ ns hid S lo m ad h) {a : Addr} {o : Obj} (e : h.get? a = some o) (hs : S a = none) (hb : h₀.get? a = none) (hl : a ≠ env.locals) (ho : ∀ i ds, gl lo i = some (.own ds) → ad i ≠ a) :
    Inv env h₀ S₀ ns ((a, o) :: hid) S lo m ad h where
  fr := I.fr
  sub := I.sub
  sL := I.sL
  new := I.new
  hidOk := fun p hp => by
    rcases List.mem_cons.mp hp with rfl | hp
    · exact ⟨e, hs, hb, hl⟩
    · exact I.hidOk p hp
  vals := fun i x d e e' => let ⟨v, p, q⟩ := I.vals i x d e e'; ⟨v, p.mono fun _ h => .tail _ h, q⟩
  owns := fun i x ds e e' => let ⟨p, q, c⟩ := I.owns i x ds e e'; ⟨p, q, ⟨c.s, c.b, c.l, fun p hp => by
    rcases List.mem_cons.mp hp with rfl | hp
    · exact Ne.symm (ho i ds e')
    · exact c.hd p hp, c.it⟩⟩
  apart := I.apart
  inn := I.inn
theorem Inv.unhide {a : Addr} {o : Obj} (I : Inv env h₀ S₀ ns ((a, o) :: hid) S lo m ad h) (hc : ∀ v, o.data ≠ .cell v) :
    Inv env h₀ S₀ ns hid S lo m ad h ∧ h.get? a = some o ∧ S a = none ∧ h₀.get? a = none ∧ a ≠ env.locals ∧ (∀ i ds, gl lo i = some (.own ds) → ad i ≠ a) := by
  have z := I.hidOk (a, o) (.head _)
  refine ⟨?_, z.1, z.2.1, z.2.2.1, z.2.2.2, fun i ds e => ?_⟩
  · exact {
      fr := I.fr
      sub := I.sub
      sL := I.sL
      new := I.new
      hidOk := fun p hp => I.hidOk p (.tail _ hp)
      vals := fun i x d e e' => by
        obtain ⟨v, p, q⟩ := I.vals i x d e e'
        refine ⟨v, ?_, q⟩
        rcases p with p | ⟨c, o', p1, p2, p3, p4⟩
        · exact .inl p
        · rcases List.mem_cons.mp p3 with e | p3
          · cases e; exact absurd p4 (hc _)
          · exact .inr ⟨c, o', p1, p2, p3, p4⟩
      owns := fun i x ds e e' => let ⟨p, q, c⟩ := I.owns i x ds e e'; ⟨p, q, ⟨c.s, c.b, c.l, fun p hp => c.hd p (.tail _ hp), c.it⟩⟩
      apart := I.apart
      inn := I.inn }
  · obtain ⟨x, hx⟩ := I.inn i ds e
    obtain ⟨_, _, c⟩ := I.owns i x ds hx e
    exact Ne.symm (c.hd (a, o) (.head _))
/-- hidden, while what goes on keeps it: then again as it was -/
noncomputable def gOf (v : Value) (h : Heap) : LV → List (Addr × Obj)
  | .val _ => []
  | .own _ => match v with
    | .ref a => match h.get? a with
      | some o => [(a, o)]
      | none => []
    | _ => []
theorem HasLV.guard {v : Value} {x : LV} (I : Inv env h₀ S₀ ns hid S lo m ad h) (H : HasLV env h₀ hid S lo ad h v x) : Inv env h₀ S₀ ns (gOf v h x ++ hid) S lo m ad h := by
  cases x with
  | val d => exact I
  | own ds =>
    obtain ⟨a, rfl, c, hj⟩ := H
    obtain ⟨vs, n, hg, hl⟩ := c.it
    have e : gOf (.ref a) h (.own ds) = [(a, listObj vs n)] := by simp only [gOf, hg]
    rw [e]
    exact I.hide hg c.s c.b c.l hj
theorem HasLV.again {v : Value} {x : LV} {lo2 : Lo} {m2 : Str → Option Value} {ad2 : Nat → Addr} {h2 : Heap} {S2 : Store} (H : HasLV env h₀ hid S lo ad h v x) (le : Le S S2) (I : Inv env h₀ S₀ ns (gOf v h x ++ hid) S2 lo2 m2 ad2 h2) :
    Inv env h₀ S₀ ns hid S2 lo2 m2 ad2 h2 ∧ HasLV env h₀ hid S2 lo2 ad2 h2 v x := by
  cases x with
  | val d => exact ⟨I, IsD.mono le H⟩
  | own ds =>
    obtain ⟨a, rfl, c, hj⟩ := H
    obtain ⟨vs, n, hg, hl⟩ := c.it
    have e : gOf (.ref a) h (.own ds) = [(a, listObj vs n)] := by simp only [gOf, hg]
    rw [e] at I
    obtain ⟨I', h1, h2, h3, h4, h5⟩ := I.unhide fun v q => by cases q
    exact ⟨I', a, rfl, ⟨h2, h3, h4, c.hd, vs, n, h1, hl.mono le⟩, h5⟩
theorem HasLV.hid_of {v : Value} {x : LV} {g : List (Addr × Obj)} (H : HasLV env h₀ (g ++ hid) S lo ad h v x) : HasLV env h₀ hid S lo ad h v x := by
  cases x with
  | val d => exact H
  | own ds =>
    obtain ⟨a, e, c, hj⟩ := H
    exact ⟨a, e, ⟨c.s, c.b, c.l, fun p hp => c.hd p (List.mem_append_right _ hp), c.it⟩, hj⟩
theorem Inv.storeLV (I : Inv env h₀ S₀ ns hid S lo m ad h) (hnd : ns.Nodup) {i : Nat} {x : Str} {v : Value} {d : LV} (hx : ns[i]? = some x) (hk : env.kindOf x = some .local) (hn : h'.Ns env.locals (fun y => if y = x then some v else m y)) (hs : Heap.SameBut env.locals h h')
    (hd : HasLV env h₀ hid S lo ad h v d) : ∃ ad', Inv env h₀ S₀ ns hid S (sl lo i (some d)) (fun y => if y = x then some v else m y) ad' h' := by
  cases d with
  | val d => exact ⟨ad, I.storeVal hnd hx hk hn hs hd⟩
  | own ds =>
    obtain ⟨a, rfl, c, hj⟩ := hd
    exact ⟨_, I.storeOwn hnd hx hk hn hs c hj⟩
end
section
variable {C : Cx} {n : Nat} {env : Env} {ns : List Str}
noncomputable def valV (f : EF) : VF := fun lo => match f lo with
  | some (d, lo1) => some (.val d, lo1)
  | none => none
theorem VOk.val {e : Expr} {f : EF} (he : EOk C n env ns e f) : VOk C n env ns e (valV f) := fun A h₀ S₀ hid S lo m ad s Q E d lo' R X B I e hq => by
  unfold valV at e
  split at e
  · rename_i d' lo1 q1
    cases e
    exact he _ _ _ _ _ _ _ _ _ _ _ _ _ R X B I q1 fun v S1 h1 t1 le1 I1 d1 => hq v S1 h1 t1 le1 I1 d1
  · cases e
noncomputable def ownV (f : AF) : VF := fun lo => match f lo with
  | some (ds, lo1) => cond (Nat.blt ds.length 1000) (some (.own ds, lo1)) none
  | none => none
theorem VOk.lst {xs : List Expr} {pos : Pos} {f : AF} (hx : AOk C n env ns xs f) : VOk C n env ns (.List xs pos) (ownV f) := fun A h₀ S₀ hid S lo m ad s Q E d lo' R X B I e hq => by
  unfold ownV at e
  split at e
  · rename_i ds lo1 q1
    cases q : Nat.blt ds.length 1000 with
    | false => rw [q] at e; cases e
    | true =>
      rw [q] at e; cases e
      have lt : ds.length < 1000 := Nat.le_of_ble_eq_true q
      refine wpAny_List (hx _ _ _ _ _ _ _ _ _ _ _ _ _ _ R X B I q1 fun vs S1 h1 t1 le1 I1 e1 => ⟨by have := e1.length; simp only [PySem.sizeLine_eq]; omega, ?_⟩)
      have f := I1.fresh (get_size h1)
      exact hq _ S1 _ t1 le1 (I1.ext fun a o e => Heap.get?_push_of_some _ e) ⟨_, rfl, ⟨f.1, f.2.1, f.2.2.1, f.2.2.2.1, vs, 0, Heap.get?_push_size _ rfl, e1⟩, f.2.2.2.2⟩
  · cases e
/-! ## statements -/
noncomputable def nilS : SF := fun lo => some (.next, lo)
theorem SOk.nil : SOk C n env ns [] nilS := fun A h₀ S₀ hid S lo m ad s Q E d lo' R X B I e hq => by
  cases e
  exact wpAny_execs_nil (hq .next S m ad s.heap s.toks (Le.refl S) I trivial)
noncomputable def seqS (f g : SF) : SF := fun lo => match f lo with
  | some (.next, lo1) => g lo1
  | some (.ret d, lo1) => some (.ret d, lo1)
  | none => none
theorem SOk.cons {st : Stmt} {r : List Stmt} {f g : SF} (hx : XOk C n env ns st f) (hr : SOk C n env ns r g) : SOk C n env ns (st :: r) (seqS f g) := fun A h₀ S₀ hid S lo m ad s Q E d lo' R X B I e hq => by
  unfold seqS at e
  split at e
  · rename_i lo1 q1
    refine wpAny_execs_cons (hx _ _ _ _ _ _ _ _ _ _ _ _ _ R X B I q1 fun f S1 m1 ad1 h1 t1 le1 I1 f1 => ?_)
    cases f with
    | next => exact hr _ _ _ _ _ _ _ _ _ _ _ _ _ R X (B.trans le1) I1 e fun f S2 m2 ad2 h2 t2 le2 I2 f2 => hq f S2 m2 ad2 h2 t2 (le1.trans le2) I2 f2
    | ret v => exact f1.elim
    | brk => exact f1.elim
    | cont => exact f1.elim
  · rename_i d' lo1 q1
    cases e
    refine wpAny_execs_cons (hx _ _ _ _ _ _ _ _ _ _ _ _ _ R X B I q1 fun f S1 m1 ad1 h1 t1 le1 I1 f1 => ?_)
    cases f with
    | next => exact f1.elim
    | ret v => exact hq (.ret v) S1 m1 ad1 h1 t1 le1 I1 f1
    | brk => exact f1.elim
    | cont => exact f1.elim
  · cases e
noncomputable def neverS : SF := fun _ => none
theorem XOk.never {st : Stmt} : XOk C n env ns st neverS := fun A h₀ S₀ hid S lo m ad s Q E d lo' R X B I e hq => by cases e
noncomputable def retS (f : EF) : SF := fun lo => match f lo with
  | some (d, lo1) => some (.ret d, lo1)
  | none => none
theorem XOk.ret {x : Expr} {pos : Pos} {f : EF} (hx : EOk C n env ns x f) : XOk C n env ns (.Return (some x) pos) (retS f) := fun A h₀ S₀ hid S lo m ad s Q E d lo' R X B I e hq => by
  unfold retS at e
  split at e
  · rename_i d' lo1 q1
    cases e
    exact wpAny_Return_some (hx _ _ _ _ _ _ _ _ _ _ _ _ _ R X B I q1 fun v S1 h1 t1 le1 I1 d1 => hq (.ret v) S1 m ad h1 t1 le1 I1 d1)
  · cases e
noncomputable def iteS (t : TF) (f g : SF) : SF := fun lo => match t lo with
  | some (true, lo1) => f lo1
  | some (false, lo1) => g lo1
  | none => none
theorem XOk.ite {t : Expr} {x y : List Stmt} {pos : Pos} {tf : TF} {f g : SF} (ht : TOk C n env ns t tf) (hx : SOk C n env ns x f) (hy : SOk C n env ns y g) : XOk C n env ns (.If t x y pos) (iteS tf f g) := fun A h₀ S₀ hid S lo m ad s Q E d lo' R X B I e hq => by
  refine wpAny_If ?_
  unfold iteS at e
  split at e
  · rename_i lo1 q1
    refine ht _ _ _ _ _ _ _ _ _ _ _ _ _ R X B I q1 fun S1 h1 t1 le1 I1 => ?_
    rw [if_pos rfl]
    exact hx _ _ _ _ _ _ _ _ _ _ _ _ _ R X (B.trans le1) I1 e fun f S2 m2 ad2 h2 t2 le2 I2 f2 => hq f S2 m2 ad2 h2 t2 (le1.trans le2) I2 f2
  · rename_i lo1 q1
    refine ht _ _ _ _ _ _ _ _ _ _ _ _ _ R X B I q1 fun S1 h1 t1 le1 I1 => ?_
    rw [if_neg Bool.false_ne_true]
    exact hy _ _ _ _ _ _ _ _ _ _ _ _ _ R X (B.trans le1) I1 e fun f S2 m2 ad2 h2 t2 le2 I2 f2 => hq f S2 m2 ad2 h2 t2 (le1.trans le2) I2 f2
  · cases e
noncomputable def asgS (i : Nat) (f : VF) : SF := fun lo => match f lo with
  | some (d, lo1) => some (.next, sl lo1 i (some d))
  | none => none
theorem notcls (hk : env.scope.kind = .function) : (env.scope.kind == .class || (env.scope.kind == .module && env.locals != env.globals)) = false := by rw [hk]; rfl
theorem XOk.asg {x : Str} {npos pos : Pos} {e : Expr} {f : VF} (i : Nat) (hx : ns[i]? = some x) (hl : env.kindOf x = some .local) (hk : env.scope.kind = .function) (hnd : ns.Nodup)
    (he : VOk C n env ns e f) (hs : swapsWith e (some (.Name x npos)) pos.line env = pure false) : XOk C n env ns (.Assign [.Name x npos] e pos) (asgS i f) := fun A h₀ S₀ hid S lo m ad s Q E d lo' R X B I q hq => by
  unfold asgS at q
  split at q
  · rename_i d' lo1 q1
    cases q
    refine wpAny_Assign_Name (he _ _ _ _ _ _ _ _ _ _ _ _ _ R X B I q1 fun v S1 h1 t1 le1 I1 d1 => ?_) hs
    refine wpAny_storeName_local hl I1.fr.ns (fun h' hn hsb => ?_) (notcls hk)
    obtain ⟨ad', I2⟩ := I1.storeLV hnd hx hl hn hsb d1
    exact hq .next S1 _ ad' h' _ le1 I2 trivial
  · cases q
/-- two names at once -/
noncomputable def asg2S (i j : Nat) (f g : VF) : SF := fun lo => match f lo with
  | some (d, lo1) => match g lo1 with
    | some (d2, lo2) => some (.next, sl (sl lo2 j (some d2)) i (some d))
    | none => none
  | none => none
theorem XOk.asg2 {x y : Str} {p1 p2 tpos vpos pos : Pos} {k kv : Nat} {e1 e2 : Expr} {f g : VF} (i j : Nat) (hx : ns[i]? = some x) (hy : ns[j]? = some y) (hlx : env.kindOf x = some .local) (hly : env.kindOf y = some .local) (hk : env.scope.kind = .function) (hnd : ns.Nodup)
    (h1 : VOk C n env ns e1 f) (h2 : VOk C n env ns e2 g) (hst1 : starEach [e1, e2] env = (false, eval e1 env) :: starEach [e2] env) (hst2 : starEach [e2] env = (false, eval e2 env) :: starEach [] env)
    (hs : swapsWithSole [.Tuple [.Name x p1, .Name y p2] k tpos] (.Tuple [e1, e2] kv vpos) pos.line env = pure false) (hw : swappedStores [.Tuple [.Name x p1, .Name y p2] k tpos] (.Tuple [e1, e2] kv vpos) env = pure (some [x, y])) :
    XOk C n env ns (.Assign [.Tuple [.Name x p1, .Name y p2] k tpos] (.Tuple [e1, e2] kv vpos) pos) (asg2S i j f g) := fun A h₀ S₀ hid S lo m ad s Q E d lo' R X B I q hq => by
  unfold asg2S at q
  split at q
  · rename_i d1 lo1 q1
    split at q
    · rename_i d2 lo2 q2
      cases q
      refine Assign_Tuple_swapped (names := [x, y]) ?_ hs hw
      refine wpAny_Tuple (wpAny_items_cons ?_ hst1)
      refine h1 _ _ _ _ _ _ _ _ _ _ _ _ _ R X B I q1 fun v1 S1 hp1 t1 le1 I1 H1 => ?_
      refine wpAny_items_cons ?_ hst2
      refine h2 _ _ _ _ _ _ _ _ _ _ _ _ _ R X (B.trans le1) (H1.guard I1) q2 fun v2 S2 hp2 t2 le2 I2 H2 => ?_
      refine wpAny_items_nil ⟨by simp [PySem.sizeLine_eq], ?_⟩
      -- the tuple, made and unpacked
      have G2 := H2.guard I2
      have G3 := G2.ext (h' := hp2.push (tupObj [v1, v2] 0)) fun a o e => Heap.get?_push_of_some _ e
      refine unpackItems_tuple (items := [v1, v2].toArray) R.hd ⟨_, Heap.get?_push_size _ rfl, rfl, 0, rfl⟩ fun h4 e4 => ?_
      have x4 : Ext (hp2.push (tupObj [v1, v2] 0)) h4 := fun a o e => e4 a o (fun z => by
        rw [z] at e
        have := get_size (hp2.push (tupObj [v1, v2] 0))
        exact absurd (e.symm.trans this) (by simp)) e
      have G4 := G3.ext x4
      obtain ⟨J4, H2'⟩ := H2.again (Le.refl S2) G4
      show wpAny _ _ (do holding [v1] (bindName env y v2); (do holding [] (bindName env x v1); pure ())) _ _ _
      refine wpAny_bind (wpAny_holding (wpAny_bindName (wpAny_storeName_local hly J4.fr.ns (fun h5 hn5 hs5 => ?_) (notcls hk))))
      obtain ⟨ad5, J5⟩ := J4.storeLV hnd hy hly hn5 hs5 H2'
      obtain ⟨J6, H1'⟩ := H1.again le2 J5
      refine wpAny_bind (wpAny_holding (wpAny_bindName (wpAny_storeName_local hlx J6.fr.ns (fun h7 hn7 hs7 => ?_) (notcls hk))))
      obtain ⟨ad7, J7⟩ := J6.storeLV hnd hx hlx hn7 hs7 H1'
      exact wpAny_pure (hq .next S2 _ ad7 h7 _ (le1.trans le2) J7 trivial)
    · cases q
  · cases q
/-- an item is laid onto a name's own list -/
noncomputable def appS (i : Nat) (f : EF) : SF := fun lo => match gl lo i with
  | some (.own _) => match f lo with
    | some (d, lo1) => match gl lo1 i with
      | some (.own ds) => cond (Nat.blt ds.length 1000) (some (.next, sl lo1 i (some (.own (ds ++ [d]))))) none
      | _ => none
    | none => none
  | _ => none
theorem XOk.app {x : Str} {np apos cpos pos : Pos} {e : Expr} {f : EF} {pl : Sem Bool} (i : Nat) (hx : ns[i]? = some x) (hk : env.scope.kind = .function) (hd : (x == ("__debug__" : Str)) = false)
    (he : EOk C n env ns e f) (hst : starEach [e] env = [(false, eval e env)])
    (hc : eval (.Call (.Attribute (.Name x np) "append" apos) [e] [] cpos) env = (do
      let ov ← eval (.Name x np) env
      standAt apos.atName
      let (f, first) ← holding [ov] (getMethod ov "append" pl)
      callWith cpos f first (backTo cpos (starEach [e] env)) []))
    (hi : interactive env = false) (hs : swapsWith (.Call (.Attribute (.Name x np) "append" apos) [e] [] cpos) none pos.line env = pure false) :
    XOk C n env ns (.Expr (.Call (.Attribute (.Name x np) "append" apos) [e] [] cpos) pos) (appS i f) := fun A h₀ S₀ hid S lo m ad s Q E d lo' R X B I q hq => by
  unfold appS at q
  split at q
  · rename_i ds0 q0
    split at q
    · rename_i d1 lo1 q1
      split at q
      · rename_i ds q2
        cases q3 : Nat.blt ds.length 1000 with
        | false => rw [q3] at q; cases q
        | true =>
          rw [q3] at q; cases q
          have lt : ds.length < 1000 := Nat.le_of_ble_eq_true q3
          obtain ⟨hl, hm, c⟩ := I.owns i x ds0 hx q0
          obtain ⟨vs0, n0, hg0, _⟩ := c.it
          refine wpAny_Expr (MethodCall_ (place_load hk hd I (.inl ⟨hl, hm⟩) ?_) hc) hi hs
          refine getMethod_list_append hg0 rfl rfl ?_
          refine callWith_method1 (wpAny_items_cons ?_ (by rw [hst]; rfl)) (by rw [hst]; rfl) rfl
          refine he _ _ _ _ _ _ _ _ _ _ _ _ _ R X B I q1 fun v S2 h2 t2 le2 I2 d2 => ?_
          refine wpAny_items_nil ?_
          obtain ⟨_, hm2, c2⟩ := I2.owns i x ds hx q2
          obtain ⟨vs, nn, hg, hl2⟩ := c2.it
          have len := hl2.length
          refine append_at hg (fun h3 hs3 hg3 => ?_) (by simp only [List.size_toArray, PySem.sizeLine_eq]; omega)
          have ei : ∀ ds', gl (sl lo1 i (some (.own (ds ++ [d1])))) i = some (.own ds') → ds' = ds ++ [d1] := fun ds' z => by
            have := gl_sl_self z
            cases this; rfl
          refine hq .next S2 m ad h3 t2 le2 ?_ trivial
          exact {
            fr := ⟨I2.fr.ns.sameBut hs3 (Ne.symm c2.l), fun b o e => (hs3.2 b fun z => by rw [z, c2.b] at e; cases e).trans (I2.fr.keep b o e), I2.fr.above⟩
            sub := fun a o e => (hs3.2 a fun z => by rw [z, c2.s] at e; cases e).trans (I2.sub a o e)
            sL := I2.sL
            new := I2.new
            hidOk := fun p hp => let ⟨a, b, c, d⟩ := I2.hidOk p hp; ⟨(hs3.2 _ (c2.hd p hp)).trans a, b, c, d⟩
            vals := fun j y d' e1 e2 => by
              have z : i ≠ j := fun z => by subst z; have := gl_sl_self e2; cases this
              rw [gl_sl_ne z] at e2
              exact I2.vals j y d' e1 e2
            owns := fun j y ds' e1 e2 => by
              by_cases z : i = j
              · subst z
                rw [hx] at e1; cases e1
                rw [ei ds' e2]
                refine ⟨hl, hm2, ⟨c2.s, c2.b, c2.l, c2.hd, vs ++ [v], nn + 1, ?_, hl2.append (IsL.one d2)⟩⟩
                rw [hg3]; simp
              · rw [gl_sl_ne z] at e2
                obtain ⟨p1, p2, c'⟩ := I2.owns j y ds' e1 e2
                have za : ad j ≠ ad i := fun za => z (I2.apart i j ds ds' q2 e2 za.symm)
                exact ⟨p1, p2, ⟨c'.s, c'.b, c'.l, c'.hd, let ⟨vs', n', e, r⟩ := c'.it; ⟨vs', n', (hs3.2 _ za).trans e, r⟩⟩⟩
            apart := fun j k dj dk e1 e2 zz => by
              by_cases zj : i = j
              · by_cases zk : i = k
                · rw [← zj, ← zk]
                · rw [gl_sl_ne zk] at e2
                  subst zj
                  exact I2.apart i k ds dk q2 e2 zz
              · by_cases zk : i = k
                · rw [gl_sl_ne zj] at e1
                  subst zk
                  exact I2.apart j i dj ds e1 q2 zz
                · rw [gl_sl_ne zj] at e1; rw [gl_sl_ne zk] at e2
                  exact I2.apart j k dj dk e1 e2 zz
            inn := fun j dj e1 => by
              by_cases z : i = j
              · exact ⟨x, z ▸ hx⟩
              · rw [gl_sl_ne z] at e1
                exact I2.inn j dj e1 }
      · cases q
    · cases q
  · cases q
end
end Mine
end
/-! part M6 -/
section
open PySem PySem.W PyProof.Rows PySem.Calls
namespace Mine
section
variable {env : Env} {h₀ : Heap} {S₀ : Store} {ns : List Str} {hid : List (Addr × Obj)} {S S' : Store} {lo : Lo} {m : Str → Option Value} {ad : Nat → Addr} {h h' : Heap}
/-- all but one address stands, and that one is nobody's -/
theorem Inv.keepBut (I : Inv env h₀ S₀ ns hid S lo m ad h) {a : Addr} (hs : S a = none) (hb : h₀.get? a = none) (hl : a ≠ env.locals) (hh : ∀ p ∈ hid, p.1 ≠ a) (ho : ∀ i ds, gl lo i = some (.own ds) → ad i ≠ a)
    (k : ∀ b o, b ≠ a → h.get? b = some o → h'.get? b = some o) : Inv env h₀ S₀ ns hid S lo m ad h' where
  fr := ⟨I.fr.ns.at' fun o e => k _ o (Ne.symm hl) e, fun b o e => k b o (fun z => by rw [z, hb] at e; cases e) (I.fr.keep b o e), I.fr.above⟩
  sub := fun b o e => k b o (fun z => by rw [z, hs] at e; cases e) (I.sub b o e)
  sL := I.sL
  new := I.new
  hidOk := fun p hp => let ⟨x, y⟩ := I.hidOk p hp; ⟨k _ _ (hh p hp) x, y⟩
  vals := I.vals
  owns := fun i x ds e e' => let ⟨p, q, c⟩ := I.owns i x ds e e'; ⟨p, q, ⟨c.s, c.b, c.l, c.hd, let ⟨vs, n, e, q⟩ := c.it; ⟨vs, n, k _ _ (ho i ds e') e, q⟩⟩⟩
  apart := I.apart
  inn := I.inn
/-- a hidden object turns -/
theorem Inv.rehide {a : Addr} {o o' : Obj} (I : Inv env h₀ S₀ ns ((a, o) :: hid) S lo m ad h) (hc : ∀ v, o.data ≠ .cell v) (hh : ∀ p ∈ hid, p.1 ≠ a) (k : ∀ b o, b ≠ a → h.get? b = some o → h'.get? b = some o) (e : h'.get? a = some o') :
    Inv env h₀ S₀ ns ((a, o') :: hid) S lo m ad h' := by
  obtain ⟨I', _, h2, h3, h4, h5⟩ := I.unhide hc
  exact (I'.keepBut h2 h3 h4 hh h5 k).hide e h2 h3 h4 h5
end
/-- an iterator that hands out what is told -/
noncomputable def Iter (C : Cx) (A : Around) (env : Env) (h₀ : Heap) (hid : List (Addr × Obj)) (S : Store) (lo : Lo) (ad : Nat → Addr) (h : Heap) (it : Value) (ds : List D) : Prop :=
  ∃ I fp P St, it = .ref I ∧ Walks C.prog C.w A I fp [I] ds.length P St ∧ St 0 h ∧ (∀ i v, i < ds.length → P i v → ∃ d, ds[i]? = some d ∧ IsD S v d) ∧ (∀ i h, St i h → ∃ o, h.get? I = some o ∧ ∀ v, o.data ≠ .cell v) ∧
    S I = none ∧ h₀.get? I = none ∧ I ≠ env.locals ∧ (∀ p ∈ hid, p.1 ≠ I) ∧ (∀ i ds, gl lo i = some (.own ds) → ad i ≠ I) ∧ (∀ b ∈ fp, b = I ∨ ∃ o, S b = some o)
noncomputable def IOk (C : Cx) (n : Nat) (env : Env) (ns : List Str) (e : Expr) (F : AF) : Prop :=
  ∀ (A : Around) (h₀ : Heap) (S₀ : Store) (hid : List (Addr × Obj)) (S : Store) (lo : Lo) (m : Str → Option Value) (ad : Nat → Addr) (s : Shared) (Q : Value → Shared → Prop) (E : Value → Shared → Prop) (ds : List D) (lo' : Lo),
    Room A n → Ext C.hb h₀ → Le C.Sb S → Inv env h₀ S₀ ns hid S lo m ad s.heap → F lo = some (ds, lo') →
    (∀ it S' h' tk, Le S S' → Inv env h₀ S₀ ns hid S' lo' m ad h' → Iter C A env h₀ hid S' lo' ad h' it ds → Q it { s with heap := h', toks := tk }) →
    wpAny (model C.prog C.w) A (eval e env) (fun x s₁ => wpAny (model C.prog C.w) A (pyIter x) Q E s₁) E s
noncomputable def upTo : Nat → Int → List D
  | 0, _ => []
  | n + 1, a => .int a :: upTo n (a + 1)
theorem upTo_length : ∀ (n : Nat) (a : Int), (upTo n a).length = n
  | 0, _ => rfl
  | n + 1, a => by rw [upTo, List.length_cons, upTo_length n]
theorem upTo_get : ∀ (n : Nat) (a : Int) (i : Nat), i < n → (upTo n a)[i]? = some (.int (a + i))
  | 0, _, _, h => by omega
  | n + 1, a, 0, _ => by simp [upTo]
  | n + 1, a, i + 1, h => by
    rw [upTo, List.getElem?_cons_succ, upTo_get n (a + 1) i (by omega)]
    congr 2
    push_cast
    omega
noncomputable def small (a : Int) : Bool := Nat.blt a.natAbs 1000
noncomputable def rangeOf (a b : Int) : Option (List D) := cond (small a && small b) (some (upTo (b - a).toNat a)) none
noncomputable def rangeI (f : AF) : AF := fun lo => match f lo with
  | some ([.int b], lo1) => match rangeOf 0 b with
    | some l => some (l, lo1)
    | none => none
  | some ([.int a, .int b], lo1) => match rangeOf a b with
    | some l => some (l, lo1)
    | none => none
  | _ => none
theorem one_int {S : Store} {vs : List Value} {a : Int} (h : IsL S vs [.int a]) : ∃ t, vs = [.int a t] := by
  obtain ⟨v, r, rfl, ⟨t, rfl⟩, hr⟩ := h
  have hr' : r = [] := hr
  subst hr'
  exact ⟨t, rfl⟩
section
variable {C : Cx} {n : Nat} {env : Env} {ns : List Str}
theorem iter_range {A : Around} {E : Value → Shared → Prop} {s : Shared} {h₀ : Heap} {S₀ S : Store} {hid : List (Addr × Obj)} {lo : Lo} {m : Str → Option Value} {ad : Nat → Addr} {a b : Int} {r : Addr} {t u v : Tok} {l : List D} {Q : Value → Shared → Prop} (R : Room A n)
    (I : Inv env h₀ S₀ ns hid S lo m ad s.heap) (hr : IsRange s.heap r a b 1 t u v) (h : rangeOf a b = some l)
    (hq : ∀ it S' h' tk, Le S S' → Inv env h₀ S₀ ns hid S' lo m ad h' → Iter C A env h₀ hid S' lo ad h' it l → Q it { s with heap := h', toks := tk }) : wpAny (model C.prog C.w) A (pyIter (.ref r)) Q E s := by
  unfold rangeOf at h
  cases q : (small a && small b) with
  | false => rw [q] at h; cases h
  | true =>
    rw [q] at h; cases h
    rw [Bool.and_eq_true] at q
    have ha : a.natAbs < 1000 := Nat.le_of_ble_eq_true q.1
    have hb : b.natAbs < 1000 := Nat.le_of_ble_eq_true q.2
    refine wpAny_pyIter_range hr (small_one (by omega) (by omega) (by omega) (by omega)) ?_
    have f := I.fresh (get_size s.heap)
    refine hq _ S _ s.toks (Le.refl S) (I.ext fun a o e => Heap.get?_push_of_some _ e) ⟨s.heap.objs.size, [s.heap.objs.size], _, _, rfl, Walks.range R.hd s.heap.objs.size a 1 _, ?_, ?_, ?_, f.1, f.2.1, f.2.2.1, f.2.2.2.1, f.2.2.2.2, ?_⟩
    · rw [upTo_length]
      have e : Builtin.Range.rangeSize a b 1 = (((b - a).toNat : Nat) : Int) := by rw [rangeSize_one]; split <;> omega
      have e1 : a + ((0 : Nat) : Int) * 1 = a := by simp
      have e2 : (((b - a).toNat : Nat) : Int) - ((0 : Nat) : Int) = Builtin.Range.rangeSize a b 1 := by rw [e]; omega
      rw [e1, e2]
      exact Heap.get?_push_size _ rfl
    · rintro i v hi ⟨t, rfl⟩
      rw [upTo_length] at hi
      exact ⟨_, upTo_get _ _ _ hi, t, by rw [Int.mul_one]⟩
    · intro i h hst
      exact ⟨_, hst, fun v z => by cases z⟩
    · intro b hb
      exact .inl (by simpa using hb)
theorem IOk.range {x : Str} {npos pos : Pos} {e1 : Expr} {es : List Expr} {g : AF} (ok : C.Ok) (hg : C.mg x = none) (hb : bootBuiltins x = some (.type "range")) (hnm : x ≠ "__name__")
    (ha : AOk C n env ns (e1 :: es) g) (he : starEach (e1 :: es) env = (false, eval e1 env) :: starEach es env) (hpl : ∀ pos, (backTo pos (starEach es env)).any (·.1) = false) (hx : env.kindOf x = some .globalImplicit) (hk : env.scope.kind = .function) (hgl : env.globals = mainGlobals) (hbl : env.builtins = builtinsNs) (hd : (x == ("__debug__" : Str)) = false) :
    IOk C n env ns (.Call (.Name x npos) (e1 :: es) [] pos) (rangeI g) := fun A h₀ S₀ hid S lo m ad s Q E ds lo' R X B I e hq => by
  have enter : ∀ ds1 lo1, g lo = some (ds1, lo1) → (∀ vs S1 h1 t1, Le S S1 → Inv env h₀ S₀ ns hid S1 lo1 m ad h1 → IsL S1 vs ds1 → wpAny (model C.prog C.w) A (PySem.call (.type "range") vs) (fun x s₁ => wpAny (model C.prog C.w) A (pyIter x) Q E s₁) E { s with heap := h1, toks := t1 }) →
      wpAny (model C.prog C.w) A (eval (.Call (.Name x npos) (e1 :: es) [] pos) env) (fun x s₁ => wpAny (model C.prog C.w) A (pyIter x) Q E s₁) E s := fun ds1 lo1 q1 hh => by
    refine Call_ (Name_function_global hk hx (loadGlobal_builtin (env := env) (by rw [hgl]; exact (ok.gd.g.keeps X).keeps I.fr.keep) hg (by rw [hbl]; exact (ok.gd.b.keeps X).keeps I.fr.keep) ((ok.gd.builtins x hnm).trans hb) ?_) hd)
    exact Pv.callWith_type1 (ha _ _ _ _ _ _ _ _ _ _ _ _ _ _ R X B I q1 fun vs S1 h1 t1 le1 I1 d1 => hh vs S1 h1 t1 le1 I1 d1) he (hpl _)
  unfold rangeI at e
  split at e
  · rename_i b lo1 q1
    split at e
    · rename_i l q2
      cases e
      refine enter _ _ q1 fun vs S1 h1 t1 le1 I1 d1 => ?_
      obtain ⟨t, rfl⟩ := one_int d1
      refine call_range_1 ?_
      have I2 := I1.ext (h' := h1.push { cls := .type "range", data := .fields #[.int 0 t1, .int b t, .int 1 (t1 + 1)] }) fun a o e => Heap.get?_push_of_some _ e
      exact iter_range R I2 (IsRange.new ..) q2 fun it S3 h3 t3 le3 I3 J3 => hq it S3 h3 t3 (le1.trans le3) I3 J3
    · cases e
  · rename_i a b lo1 q1
    split at e
    · rename_i l q2
      cases e
      refine enter _ _ q1 fun vs S1 h1 t1 le1 I1 d1 => ?_
      obtain ⟨t, u, rfl⟩ := two_ints d1
      refine call_range_2 ?_
      have I2 := I1.ext (h' := h1.push { cls := .type "range", data := .fields #[.int a t, .int b u, .int 1 t1] }) fun a o e => Heap.get?_push_of_some _ e
      exact iter_range R I2 (IsRange.new ..) q2 fun it S3 h3 t3 le3 I3 J3 => hq it S3 h3 t3 (le1.trans le3) I3 J3
    · cases e
  · cases e
noncomputable def seqI (f : EF) : AF := fun lo => match f lo with
  | some (.lst l, lo1) => some (l, lo1)
  | some (.tup l, lo1) => some (l, lo1)
  | _ => none
theorem IOk.seq {e : Expr} {f : EF} (he : EOk C n env ns e f) : IOk C n env ns e (seqI f) := fun A h₀ S₀ hid S lo m ad s Q E ds lo' R X B I e hq => by
  unfold seqI at e
  split at e
  · rename_i l lo1 q1
    cases e
    refine he _ _ _ _ _ _ _ _ _ _ _ _ _ R X B I q1 fun v S1 h1 t1 le1 I1 d1 => ?_
    obtain ⟨a, vs, nn, rfl, hx, hl⟩ := d1
    have il : h1.IsList a vs.toArray := ⟨_, I1.sub _ _ hx, rfl, nn, rfl⟩
    have len := hl.length
    have lt : a < h1.objs.size := Heap.lt_size (I1.sub _ _ hx)
    refine wpAny_pyIter_list il ?_
    have f := I1.fresh (get_size h1)
    have W := Walks.list (prog := C.prog) (w := C.w) (A := A) R.hd h1.objs.size a (Nat.ne_of_lt lt) vs.toArray
    have e : vs.toArray.size = ds.length := by rw [List.size_toArray]; exact len
    rw [e] at W
    refine hq _ S1 _ t1 le1 (I1.ext fun a o e => Heap.get?_push_of_some _ e) ⟨h1.objs.size, _, _, _, rfl, W, ⟨⟨_, Heap.get?_push_size _ rfl, rfl, rfl⟩, ⟨_, Heap.get?_push_of_some _ (I1.sub _ _ hx), rfl, nn, rfl⟩⟩, ?_, ?_, f.1, f.2.1, f.2.2.1, f.2.2.2.1, f.2.2.2.2, ?_⟩
    · intro i v hi hP
      have hlt : i < vs.length := by omega
      obtain ⟨u, hu, hd⟩ := hl.get (d := ds[i]) (List.getElem?_eq_getElem hi)
      have hP' : vs[i]? = some v := by simpa using hP
      rw [hu] at hP'; cases hP'
      exact ⟨_, List.getElem?_eq_getElem hi, hd⟩
    · rintro i h ⟨⟨o, ho, _, hd⟩, _⟩
      exact ⟨o, ho, fun v z => by rw [hd] at z; cases z⟩
    · intro b hb
      rcases List.mem_cons.mp hb with rfl | hb
      · exact .inl rfl
      · rw [List.mem_singleton.mp hb]; exact .inr ⟨_, hx⟩
  · rename_i l lo1 q1
    cases e
    refine he _ _ _ _ _ _ _ _ _ _ _ _ _ R X B I q1 fun v S1 h1 t1 le1 I1 d1 => ?_
    obtain ⟨a, vs, nn, rfl, hx, hl⟩ := d1
    have il : h1.IsTuple a vs.toArray := ⟨_, I1.sub _ _ hx, rfl, nn, rfl⟩
    have len := hl.length
    have lt : a < h1.objs.size := Heap.lt_size (I1.sub _ _ hx)
    refine wpAny_pyIter_tuple il ?_
    have f := I1.fresh (get_size h1)
    have W := Walks.tuple (prog := C.prog) (w := C.w) (A := A) R.hd h1.objs.size a (Nat.ne_of_lt lt) vs.toArray
    have e : vs.toArray.size = ds.length := by rw [List.size_toArray]; exact len
    rw [e] at W
    refine hq _ S1 _ t1 le1 (I1.ext fun a o e => Heap.get?_push_of_some _ e) ⟨h1.objs.size, _, _, _, rfl, W, ⟨⟨_, Heap.get?_push_size _ rfl, rfl, rfl⟩, ⟨_, Heap.get?_push_of_some _ (I1.sub _ _ hx), rfl, nn, rfl⟩⟩, ?_, ?_, f.1, f.2.1, f.2.2.1, f.2.2.2.1, f.2.2.2.2, ?_⟩
    · intro i v hi hP
      have hlt : i < vs.length := by omega
      obtain ⟨u, hu, hd⟩ := hl.get (d := ds[i]) (List.getElem?_eq_getElem hi)
      have hP' : vs[i]? = some v := by simpa using hP
      rw [hu] at hP'; cases hP'
      exact ⟨_, List.getElem?_eq_getElem hi, hd⟩
    · rintro i h ⟨⟨o, ho, _, hd⟩, _⟩
      exact ⟨o, ho, fun v z => by rw [hd] at z; cases z⟩
    · intro b hb
      rcases List.mem_cons.mp hb with rfl | hb
      · exact .inl rfl
      · rw [List.mem_singleton.mp hb]; exact .inr ⟨_, hx⟩
  · cases e
/-! ## loops -/
noncomputable def whileF (t : TF) (b : SF) : Nat → SF
  | 0, _ => none
  | k + 1, lo => match t lo with
    | some (true, lo1) => match b lo1 with
      | some (.next, lo2) => whileF t b k lo2
      | some (.ret d, lo2) => some (.ret d, lo2)
      | none => none
    | some (false, lo1) => some (.next, lo1)
    | none => none
theorem XOk.whil {t : Expr} {x : List Stmt} {pos : Pos} {tf : TF} {f : SF} (k : Nat) (ht : TOk C n env ns t tf) (hx : SOk C n env ns x f) : XOk C n env ns (.While t x [] pos) (whileF tf f k) := fun A h₀ S₀ hid S lo m ad s Q E d lo' R X B I e hq => by
  refine wpAny_While (codeAny_whileLoop (fun k s' => ∃ S1 lo1 m1 ad1 h1 t1, s' = { s with heap := h1, toks := t1 } ∧ Le S S1 ∧ Inv env h₀ S₀ ns hid S1 lo1 m1 ad1 h1 ∧ whileF tf f k lo1 = some (d, lo')) ?_ k ⟨S, lo, m, ad, s.heap, s.toks, rfl, Le.refl S, I, e⟩)
  rintro k s' ⟨S1, lo1, m1, ad1, h1, t1, rfl, le1, I1, e1⟩
  cases k with
  | zero => cases e1
  | succ k =>
    unfold whileF at e1
    split at e1
    · rename_i lo2 q2
      refine ht _ _ _ _ _ _ _ _ _ _ _ _ _ R X (B.trans le1) I1 q2 fun S2 h2 t2 le2 I2 => ?_
      rw [if_pos rfl]
      split at e1
      · rename_i lo3 q3
        refine hx _ _ _ _ _ _ _ _ _ _ _ _ _ R X (B.trans (le1.trans le2)) I2 q3 fun f S3 m3 ad3 h3 t3 le3 I3 f3 => ?_
        cases f with
        | next => exact ⟨k, Nat.lt_succ_self k, S3, lo3, m3, ad3, h3, t3, rfl, (le1.trans le2).trans le3, I3, e1⟩
        | ret v => exact f3.elim
        | brk => exact f3.elim
        | cont => exact f3.elim
      · rename_i d3 lo3 q3
        cases e1
        refine hx _ _ _ _ _ _ _ _ _ _ _ _ _ R X (B.trans (le1.trans le2)) I2 q3 fun f S3 m3 ad3 h3 t3 le3 I3 f3 => ?_
        cases f with
        | next => exact f3.elim
        | ret v => exact hq (.ret v) S3 m3 ad3 h3 t3 ((le1.trans le2).trans le3) I3 f3
        | brk => exact f3.elim
        | cont => exact f3.elim
      · cases e1
    · rename_i lo2 q2
      cases e1
      refine ht _ _ _ _ _ _ _ _ _ _ _ _ _ R X (B.trans le1) I1 q2 fun S2 h2 t2 le2 I2 => ?_
      rw [if_neg Bool.false_ne_true]
      exact wpAny_execs_nil (hq .next S2 m1 ad1 h2 t2 (le1.trans le2) I2 trivial)
    · cases e1
noncomputable def forF (i : Nat) (b : SF) : List D → SF
  | [], lo => some (.next, lo)
  | d :: ds, lo => match b (sl lo i (some (.val d))) with
    | some (.next, lo2) => forF i b ds lo2
    | some (.ret d, lo2) => some (.ret d, lo2)
    | none => none
noncomputable def forS (i : Nat) (f : AF) (b : SF) : SF := fun lo => match f lo with
  | some (ds, lo1) => forF i b ds lo1
  | none => none
theorem drop_get {α : Type} {l : List α} {j : Nat} {d : α} (h : l[j]? = some d) : l.drop j = d :: l.drop (j + 1) := by
  obtain ⟨hl, he⟩ := List.getElem?_eq_some_iff.mp h
  rw [List.drop_eq_getElem_cons hl, he]
theorem XOk.fori {x : Str} {px pos : Pos} {e : Expr} {b : List Stmt} {f : AF} {g : SF} (i : Nat) (hx : ns[i]? = some x) (hl : env.kindOf x = some .local) (hk : env.scope.kind = .function) (hnd : ns.Nodup)
    (he : IOk C n env ns e f) (hb : SOk C n env ns b g) (hs : ∀ v, foldedSetIterable e env v = pure v) : XOk C n env ns (.For (.Name x px) e b [] pos) (forS i f g) := fun A h₀ S₀ hid S lo m ad s Q E d lo' R X B I q hq => by
  unfold forS at q
  split at q
  · rename_i ds lo1 q1
    refine wpAny_For (he _ _ _ _ _ _ _ _ _ _ _ _ _ R X B I q1 fun it S1 h1 t1 le1 I1 J1 => ?_) hs
    obtain ⟨It, fp, P, St, rfl, W, hst, hP, hob, f1, f2, f3, f4, f5, hfp⟩ := J1
    obtain ⟨o1, ho1, hc1⟩ := hob _ _ hst
    refine codeAny_forLoop (fun k s' => ∃ j S2 lo2 m2 ad2 h2 t2 o2, k = ds.length + 1 - j ∧ j ≤ ds.length ∧ s' = { s with heap := h2, toks := t2 } ∧ Le S1 S2 ∧ Inv env h₀ S₀ ns ((It, o2) :: hid) S2 lo2 m2 ad2 h2 ∧ (∀ v, o2.data ≠ .cell v) ∧ St j h2 ∧ forF i g (ds.drop j) lo2 = some (d, lo')) ?_ (ds.length + 1)
      ⟨0, S1, lo1, m, ad, h1, t1, o1, rfl, Nat.zero_le _, rfl, Le.refl S1, I1.hide ho1 f1 f2 f3 f5, hc1, hst, q⟩
    rintro k s' ⟨j, S2, lo2, m2, ad2, h2, t2, o2, rfl, hj, rfl, le2, I2, hc2, hst2, e2⟩
    by_cases hlt : j < ds.length
    · refine W.item j _ _ _ hlt hst2 fun v h3 t3 hPv hst3 hk3 => ?_
      obtain ⟨d3, hd3, hv3⟩ := hP j v hlt hPv
      obtain ⟨o3, ho3, hc3⟩ := hob _ _ hst3
      have k3 : ∀ b o, b ≠ It → h2.get? b = some o → h3.get? b = some o := fun b o hb e => hk3 b o (by simpa using hb) e
      have I3 := I2.rehide hc2 f4 k3 ho3
      refine wpAny_assign_Name (wpAny_storeName_local hl I3.fr.ns (fun h4 hn4 hs4 => ?_) (notcls hk))
      have I4 := I3.storeVal hnd hx hl hn4 hs4 (hv3.mono le2)
      have hst4 : St (j + 1) h4 := W.frame _ _ _ hst3 fun b hb o e => by
        refine (hs4.2 b fun z => ?_).trans e
        rcases hfp b hb with rfl | ⟨ob, hob'⟩
        · exact f3 z
        · have := I3.sL
          rw [← z, le2 _ _ hob'] at this
          cases this
      rw [drop_get hd3] at e2
      unfold forF at e2
      split at e2
      · rename_i lo5 q5
        refine hb _ _ _ _ _ _ _ _ _ _ _ _ _ R X ((B.trans le1).trans le2) I4 q5 fun f S5 m5 ad5 h5 t5 le5 I5 f5 => ?_
        have hst5 : St (j + 1) h5 := W.frame _ _ _ hst4 fun b hb o e => by
          rcases hfp b hb with rfl | ⟨ob, hob'⟩
          · have z1 := (I4.hidOk _ (.head _)).1
            have z2 := (I5.hidOk _ (.head _)).1
            rw [z1] at e; cases e; exact z2
          · have z1 := I4.sub _ _ (le2 _ _ hob')
            rw [z1] at e; cases e
            exact I5.sub _ _ (le5 _ _ (le2 _ _ hob'))
        cases f with
        | next => exact ⟨ds.length + 1 - (j + 1), by omega, j + 1, S5, lo5, m5, ad5, h5, t5, o3, rfl, hlt, rfl, le2.trans le5, I5, hc3, hst5, e2⟩
        | ret v => exact f5.elim
        | brk => exact f5.elim
        | cont => exact f5.elim
      · rename_i d5 lo5 q5
        cases e2
        refine hb _ _ _ _ _ _ _ _ _ _ _ _ _ R X ((B.trans le1).trans le2) I4 q5 fun f S5 m5 ad5 h5 t5 le5 I5 f5 => ?_
        cases f with
        | next => exact f5.elim
        | ret v => exact hq (.ret v) S5 m5 ad5 h5 t5 ((le1.trans le2).trans le5) (I5.unhide hc3).1 f5
        | brk => exact f5.elim
        | cont => exact f5.elim
      · cases e2
    · have hin : j = ds.length := by omega
      subst hin
      rw [List.drop_length] at e2
      cases e2
      refine W.done _ _ _ hst2 fun h3 t3 hk3 => wpAny_execs_nil ?_
      obtain ⟨I3, _, z2, z3, z4, z5⟩ := I2.unhide hc2
      exact hq .next S2 m2 ad2 h3 t3 (le1.trans le2) (I3.keepBut z2 z3 z4 f4 z5 fun b o hb e => hk3 b o (by simpa using hb) e) trivial
  · cases q
end
end Mine
end
/-! part M7 -/
section
open PySem PySem.W PyProof.Rows PySem.Calls
namespace Mine
theorem bindL_none {ko : Str → Option NameKind} {p : Str} : ∀ {bs : List (Str × Value)} {m : Str → Option Value}, (∀ x ∈ bs, x.1 ≠ p) → bindL ko bs m p = m p
  | [], _, _ => rfl
  | (n, v) :: r, m, h => by
    unfold bindL
    rw [bindL_none fun x hx => h x (.tail _ hx)]
    split
    · have : p ≠ n := fun z => h (n, v) (.head _) z.symm
      simp only [if_neg this]
    · rfl
theorem bindC_none {ko : Str → Option NameKind} {p : Str} : ∀ {bs : List (Str × Value)} {m : Str → Option Value}, (∀ x ∈ bs, x.1 ≠ p) → bindC ko bs m p = m p
  | [], _, _ => rfl
  | (n, v) :: r, m, h => by
    unfold bindC
    rw [bindC_none fun x hx => h x (.tail _ hx)]
    split
    · rfl
    · have : p ≠ n := fun z => h (n, v) (.head _) z.symm
      simp only [if_neg this]
theorem zip_names {p : Str} : ∀ {ps : List Str} {vs : List Value}, p ∉ ps → ∀ x ∈ ps.zip vs, x.1 ≠ p
  | [], _, _, _, hx => by simp at hx
  | _ :: _, [], _, _, hx => by simp at hx
  | q :: ps, v :: vs, h, x, hx => by
    rcases List.mem_cons.mp (by simpa using hx) with rfl | hx
    · exact fun z => h (z ▸ .head _)
    · exact zip_names (fun z => h (.tail _ z)) x hx
theorem bindL_get {ko : Str → Option NameKind} {p : Str} {v : Value} (hk : ko p = some .local) : ∀ {ps : List Str} {vs : List Value} {m : Str → Option Value} {i : Nat}, ps.Nodup → ps[i]? = some p → vs[i]? = some v → bindL ko (ps.zip vs) m p = some v
  | [], _, _, _, _, h, _ => by simp at h
  | q :: ps, [], _, _, _, _, h => by simp at h
  | q :: ps, u :: vs, m, 0, hn, h, h' => by
    simp at h h'; subst h h'
    show bindL ko ((q, u) :: ps.zip vs) m q = some u
    unfold bindL
    rw [bindL_none (zip_names (List.nodup_cons.mp hn).1), if_pos hk]
    simp
  | q :: ps, u :: vs, m, i + 1, hn, h, h' => by
    show bindL ko ((q, u) :: ps.zip vs) m p = some v
    unfold bindL
    exact bindL_get hk (List.nodup_cons.mp hn).2 (by simpa using h) (by simpa using h')
theorem bindC_get {ko : Str → Option NameKind} {p : Str} {v : Value} (hk : ¬ ko p = some .local) : ∀ {ps : List Str} {vs : List Value} {m : Str → Option Value} {i : Nat}, ps.Nodup → ps[i]? = some p → vs[i]? = some v → bindC ko (ps.zip vs) m p = some v
  | [], _, _, _, _, h, _ => by simp at h
  | q :: ps, [], _, _, _, _, h => by simp at h
  | q :: ps, u :: vs, m, 0, hn, h, h' => by
    simp at h h'; subst h h'
    show bindC ko ((q, u) :: ps.zip vs) m q = some u
    unfold bindC
    rw [bindC_none (zip_names (List.nodup_cons.mp hn).1), if_neg hk]
    simp
  | q :: ps, u :: vs, m, i + 1, hn, h, h' => by
    show bindC ko ((q, u) :: ps.zip vs) m p = some v
    unfold bindC
    exact bindC_get hk (List.nodup_cons.mp hn).2 (by simpa using h) (by simpa using h')
noncomputable def lo0 : List D → Nat → Lo
  | [], n => List.replicate n none
  | d :: ds, n => some (.val d) :: lo0 ds n
theorem lo0_get : ∀ {ds : List D} {n i : Nat} {x : LV}, gl (lo0 ds n) i = some x → ∃ d, ds[i]? = some d ∧ x = .val d
  | [], n, i, x, h => by
    exfalso
    have : ∀ n i, gl (List.replicate n (none : Option LV)) i = none := by
      intro n
      induction n with
      | zero => intro i; rfl
      | succ n ih => intro i; cases i with
        | zero => rfl
        | succ i => exact ih i
    rw [show lo0 [] n = List.replicate n none from rfl, this] at h
    cases h
  | d :: ds, n, 0, x, h => by cases h; exact ⟨d, rfl, rfl⟩
  | d :: ds, n, i + 1, x, h => by
    obtain ⟨d', h1, h2⟩ := lo0_get (ds := ds) (n := n) (i := i) h
    exact ⟨d', by simpa using h1, h2⟩
noncomputable def hidOf (h : Heap) (cs : List (Str × Addr)) : List (Addr × Obj) := cs.filterMap fun x => (h.get? x.2).map fun o => (x.2, o)
noncomputable def sameLen {α β : Type} : List α → List β → Bool
  | [], [] => true
  | _ :: l, _ :: r => sameLen l r
  | _, _ => false
theorem sameLen_eq {α β : Type} : ∀ {l : List α} {r : List β}, sameLen l r = true → l.length = r.length
  | [], [], _ => rfl
  | _ :: l, _ :: r, h => by rw [List.length_cons, List.length_cons, sameLen_eq (l := l) (r := r) h]
  | [], _ :: _, h => by cases h
  | _ :: _, [], h => by cases h
noncomputable def runF (ps : List Str) (k : Nat) (F : SF) : List D → Option D := fun ds => cond (sameLen ps ds) (match F (lo0 ds k) with
  | some (.ret d, _) => some d
  | some (.next, _) => some .none
  | none => none) none
theorem Spec.of {C : Cx} {f : Addr} {fo : Obj} {fd : FuncData} {body : List Stmt} {ps ns : List Str} {n k : Nat} {F : SF} (ok : C.Ok) (hf : C.hb.get? f = some fo) (hdt : fo.data = .func fd) (hcd : C.hb.CodeRec fd.code fd.qualname) (hbody : fd.body = .stmts body)
    (hbind : ∀ vs : List Value, vs.length = ps.length → bindArgs fd ⟨vs, []⟩ = pure (ps.zip vs)) (hclo : fd.closure = []) (hps : ps.Nodup)
    (hkind : ∀ L, ∀ p ∈ ps, fd.scope.names.lookup p = some .local ∨ (fd.scope.names.lookup p = some .cell ∧ ((cellsFrom L fd.scope.names []).lookup p).isSome = true))
    (hns : ∀ i p, i < ps.length → ns[i]? = some p → ps[i]? = some p)
    (hco : fd.scope.isCoroutine = false) (hgen : fd.scope.isGenerator = false) (hk : fd.scope.kind = .function)
    (hb : ∀ L, SOk C n (callEnvC fd L f) ns body F) : Spec C f (n + 1) (runF ps k F) := fun A s S vs ds d R Rm X B sub hvs hG hR => by
  unfold runF at hG
  cases hsl : sameLen ps ds with
  | false => rw [hsl] at hG; cases hG
  | true =>
    rw [hsl] at hG
    have hlen : vs.length = ps.length := hvs.length.trans (sameLen_eq hsl).symm
    cases hF : F (lo0 ds k) with
    | none => rw [hF] at hG; cases hG
    | some r =>
      obtain ⟨fl, lo'⟩ := r
      rw [hF] at hG
      · refine codeAny_call_cells (binds := ps.zip vs) (by have := Rm.dp; omega) (X _ _ hf) hdt (ok.gd.nolimit.keeps X) (hcd.keeps X) hbody (hbind vs hlen) hclo (fun x hx => hkind _ x.1 (by
          have := List.of_mem_zip (a := x.1) (b := x.2) (l₁ := ps) (l₂ := vs) (by simpa using hx)
          exact this.1)) (fun s₁ IC => ?_) hco hgen hk
        have same := IC.toInCall.same
        obtain ⟨h1, t1, e1⟩ := same
        subst e1
        have keep : ∀ b o, s.heap.get? b = some o → h1.get? b = some o := IC.toInCall.keep
        have locL : (callEnvC fd s.heap.objs.size f).locals = s.heap.objs.size := rfl
        have szL : s.heap.get? s.heap.objs.size = none := get_size _
        have none_of : ∀ a, s.heap.get? a = none → S a = none := fun a e => by
          cases q : S a with
          | none => rfl
          | some o => rw [sub _ _ q] at e; cases e
        have cellAt : ∀ nm c, (callEnvC fd s.heap.objs.size f).cells.lookup nm = some c → ∃ o, h1.get? c = some o ∧ o.data = .cell (bindC (callEnvC fd s.heap.objs.size f).kindOf (ps.zip vs) (fun _ => none) nm) := fun nm c hc => IC.cell nm c hc
        have I : Inv (callEnvC fd s.heap.objs.size f) s.heap S ns (hidOf h1 (callEnvC fd s.heap.objs.size f).cells) S (lo0 ds k) (bindL (callEnvC fd s.heap.objs.size f).kindOf (ps.zip vs) fun _ => none) (fun _ => 0) h1 := {
          fr := ⟨IC.toInCall.ns, keep, IC.toInCall.fresh⟩
          sub := fun a o e => keep _ _ (sub a o e)
          sL := none_of _ szL
          new := fun a o e => .inl e
          hidOk := fun p hp => by
            obtain ⟨x, hx, e⟩ := List.mem_filterMap.mp hp
            cases q : h1.get? x.2 with
            | none => rw [q] at e; cases e
            | some o =>
              rw [q] at e
              cases e
              have ab : s.heap.objs.size < x.2 := IC.above x.1 x.2 hx
              have nn : s.heap.get? x.2 = none := by
                cases z : s.heap.get? x.2 with
                | none => rfl
                | some o' => exact absurd (Heap.lt_size z) (Nat.not_lt.mpr (Nat.le_of_lt ab))
              exact ⟨q, none_of _ nn, nn, Nat.ne_of_gt ab⟩
          vals := fun i x d e e' => by
            obtain ⟨d2, h1', h2'⟩ := lo0_get e'
            cases h2'
            have hi : i < ds.length := (List.getElem?_eq_some_iff.mp h1').1
            have hi' : i < ps.length := by have := sameLen_eq hsl; omega
            have hp := hns i x hi' e
            obtain ⟨v, hv, hd⟩ := hvs.get h1'
            refine ⟨v, ?_, hd⟩
            rcases hkind (s.heap.objs.size + 1) x (List.mem_of_getElem? hp) with z | ⟨z, z'⟩
            · exact .inl ⟨z, bindL_get (ko := (callEnvC fd s.heap.objs.size f).kindOf) z hps hp hv⟩
            · obtain ⟨c, hc⟩ := Option.isSome_iff_exists.mp z'
              obtain ⟨o, ho, hd'⟩ := cellAt x c hc
              refine .inr ⟨c, o, z, hc, ?_, ?_⟩
              · exact List.mem_filterMap.mpr ⟨(x, c), mem_of_lookup hc, by rw [ho]; rfl⟩
              · rw [hd', bindC_get (ko := (callEnvC fd s.heap.objs.size f).kindOf) (by show ¬ fd.scope.names.lookup x = _; rw [z]; decide) hps hp hv]
          owns := fun i x ds' e e' => by
            obtain ⟨d2, _, h2'⟩ := lo0_get e'
            cases h2'
          apart := fun i j di dj e e' => by
            obtain ⟨d2, _, h2'⟩ := lo0_get e
            cases h2'
          inn := fun i ds' e => by
            obtain ⟨d2, _, h2'⟩ := lo0_get e
            cases h2' }
        refine hb _ _ _ _ _ _ _ _ _ _ _ _ _ _ (Rm.deeper _) X B I hF fun f S2 m2 ad2 h2 t2 le2 I2 f2 => ?_
        cases fl with
        | next =>
          cases hG
          cases f with
          | next => exact hR .none S2 h2 t2 I2.fr.keep le2 I2.sub I2.new rfl
          | ret v => exact f2.elim
          | brk => exact f2.elim
          | cont => exact f2.elim
        | ret d' =>
          cases hG
          cases f with
          | ret v => exact hR v S2 h2 t2 I2.fr.keep le2 I2.sub I2.new f2
          | next => exact f2.elim
          | brk => exact f2.elim
          | cont => exact f2.elim
theorem bind1 {fd : FuncData} {p : Str} (h : ∀ a, bindArgs fd ⟨[a], []⟩ = pure [(p, a)]) : ∀ vs : List Value, vs.length = [p].length → bindArgs fd ⟨vs, []⟩ = pure ([p].zip vs)
  | [a], _ => h a
  | [], h => by cases h
  | _ :: _ :: _, h => by simp at h
theorem bind2 {fd : FuncData} {p q : Str} (h : ∀ a b, bindArgs fd ⟨[a, b], []⟩ = pure [(p, a), (q, b)]) : ∀ vs : List Value, vs.length = [p, q].length → bindArgs fd ⟨vs, []⟩ = pure ([p, q].zip vs)
  | [a, b], _ => h a b
  | [], h => by cases h
  | [_], h => by simp at h
  | _ :: _ :: _ :: _, h => by simp at h
theorem bind3 {fd : FuncData} {p q r : Str} (h : ∀ a b c, bindArgs fd ⟨[a, b, c], []⟩ = pure [(p, a), (q, b), (r, c)]) : ∀ vs : List Value, vs.length = [p, q, r].length → bindArgs fd ⟨vs, []⟩ = pure ([p, q, r].zip vs)
  | [a, b, c], _ => h a b c
  | [], h => by cases h
  | [_], h => by simp at h
  | [_, _], h => by simp at h
  | _ :: _ :: _ :: _ :: _, h => by simp at h
theorem hns_app (ps rest : List Str) : ∀ i p, i < ps.length → (ps ++ rest)[i]? = some p → ps[i]? = some p := fun i p h e => by rw [List.getElem?_append_left h] at e; exact e
section
variable {C : Cx} {n : Nat} {env : Env} {ns : List Str}
noncomputable def neverF : EF := fun _ => none
theorem EOk.never {e : Expr} : EOk C n env ns e neverF := fun A h₀ S₀ hid S lo m ad s Q E d lo' R X B I q hq => by cases q
/-- a call for nothing but its end -/
noncomputable def exprS (f : EF) : SF := fun lo => match f lo with
  | some (.none, lo1) => some (.next, lo1)
  | _ => none
theorem XOk.expr {e : Expr} {pos : Pos} {f : EF} (he : EOk C n env ns e f) (hi : interactive env = false) (hs : swapsWith e none pos.line env = pure false) : XOk C n env ns (.Expr e pos) (exprS f) := fun A h₀ S₀ hid S lo m ad s Q E d lo' R X B I q hq => by
  unfold exprS at q
  split at q
  · rename_i lo1 q1
    cases q
    refine wpAny_Expr (he _ _ _ _ _ _ _ _ _ _ _ _ _ R X B I q1 fun v S1 h1 t1 le1 I1 d1 => ?_) hi hs
    have z : v = .none := d1
    subst z
    exact hq .next S1 m ad h1 t1 le1 I1 trivial
  · cases q
end
end Mine
end
/-! part M8 -/
section
open PySem PySem.W PyProof.Rows PySem.Calls
namespace Mine
/-- what a turn binds -/
inductive TK where
  | one (i : Nat)
  | two (i j : Nat)
noncomputable def bndOf : TK → D → Lo → Lo
  | .one i, d, lo => sl lo i (some (.val d))
  | .two i j, .tup [a, b], lo => sl (sl lo i (some (.val a))) j (some (.val b))
  | .two _ _, _, lo => lo
noncomputable def TgOk (env : Env) (ns : List Str) : TK → Expr → Prop
  | .one i, t => ∃ x p, t = .Name x p ∧ ns[i]? = some x ∧ env.kindOf x = some .local ∧ env.scope.kind = .function ∧ ns.Nodup
  | .two i j, t => ∃ x y p1 p2 kk tp, t = .Tuple [.Name x p1, .Name y p2] kk tp ∧ ns[i]? = some x ∧ ns[j]? = some y ∧ env.kindOf x = some .local ∧ env.kindOf y = some .local ∧ env.scope.kind = .function ∧ ns.Nodup
theorem TgOk.two {env : Env} {ns : List Str} {i j : Nat} {target : Expr} (h : TgOk env ns (.two i j) target) : ∃ x y p1 p2 kk tp, target = .Tuple [.Name x p1, .Name y p2] kk tp ∧ ns[i]? = some x ∧ ns[j]? = some y ∧ env.kindOf x = some .local ∧ env.kindOf y = some .local ∧ env.scope.kind = .function ∧ ns.Nodup := h
noncomputable def Off (hs hid : List (Addr × Obj)) : Prop := ∀ p ∈ hs, ∀ q ∈ hid, q.1 ≠ p.1
noncomputable def NoCell (hs : List (Addr × Obj)) : Prop := ∀ p ∈ hs, ∀ v, p.2.data ≠ .cell v
section
variable {env : Env} {h₀ : Heap} {S₀ : Store} {ns : List Str} {hid hid' : List (Addr × Obj)} {S S' : Store} {lo : Lo} {m : Str → Option Value} {ad : Nat → Addr} {h h' : Heap}
theorem Inv.perm (I : Inv env h₀ S₀ ns hid S lo m ad h) (hp : ∀ p, p ∈ hid ↔ p ∈ hid') : Inv env h₀ S₀ ns hid' S lo m ad h where
  fr := I.fr
  sub := I.sub
  sL := I.sL
  new := I.new
  hidOk := fun p h => I.hidOk p ((hp p).mpr h)
  vals := fun i x d e e' => let ⟨v, p, q⟩ := I.vals i x d e e'; ⟨v, p.mono fun p h => (hp p).mp h, q⟩
  owns := fun i x ds e e' => let ⟨p, q, c⟩ := I.owns i x ds e e'; ⟨p, q, ⟨c.s, c.b, c.l, fun p h => c.hd p ((hp p).mpr h), c.it⟩⟩
  apart := I.apart
  inn := I.inn
theorem Inv.drop {hs : List (Addr × Obj)} (I : Inv env h₀ S₀ ns (hs ++ hid) S lo m ad h) (hc : NoCell hs) : Inv env h₀ S₀ ns hid S lo m ad h where
  fr := I.fr
  sub := I.sub
  sL := I.sL
  new := I.new
  hidOk := fun p h => I.hidOk p (List.mem_append_right _ h)
  vals := fun i x d e e' => by
    obtain ⟨v, p, q⟩ := I.vals i x d e e'
    refine ⟨v, ?_, q⟩
    rcases p with p | ⟨c, o, p1, p2, p3, p4⟩
    · exact .inl p
    · rcases List.mem_append.mp p3 with z | z
      · exact absurd p4 (hc _ z _)
      · exact .inr ⟨c, o, p1, p2, z, p4⟩
  owns := fun i x ds e e' => let ⟨p, q, c⟩ := I.owns i x ds e e'; ⟨p, q, ⟨c.s, c.b, c.l, fun p h => c.hd p (List.mem_append_right _ h), c.it⟩⟩
  apart := I.apart
  inn := I.inn
/-- the heap turns at the hidden objects hs alone -/
theorem Inv.keepButs {hs : List (Addr × Obj)} (I : Inv env h₀ S₀ ns (hs ++ hid) S lo m ad h) (hc : NoCell hs) (off : Off hs hid) (k : ∀ b o, (∀ p ∈ hs, b ≠ p.1) → h.get? b = some o → h'.get? b = some o) : Inv env h₀ S₀ ns hid S lo m ad h' := by
  have I' := I.drop hc
  have z : ∀ p ∈ hs, S p.1 = none ∧ h₀.get? p.1 = none ∧ p.1 ≠ env.locals := fun p hp => (I.hidOk p (List.mem_append_left _ hp)).2
  exact {
    fr := ⟨I.fr.ns.at' fun o e => k _ o (fun p hp => Ne.symm (z p hp).2.2) e, fun b o e => k b o (fun p hp q => by rw [q, (z p hp).2.1] at e; cases e) (I.fr.keep b o e), I.fr.above⟩
    sub := fun b o e => k b o (fun p hp q => by rw [q, (z p hp).1] at e; cases e) (I.sub b o e)
    sL := I.sL
    new := I.new
    hidOk := fun q hq => let ⟨x, y⟩ := I'.hidOk q hq; ⟨k _ _ (fun p hp => off p hp q hq) x, y⟩
    vals := I'.vals
    owns := fun i x ds e e' => let ⟨p, q, c⟩ := I'.owns i x ds e e'; ⟨p, q, ⟨c.s, c.b, c.l, c.hd, let ⟨vs, n, e, r⟩ := c.it; ⟨vs, n, k _ _ (fun p hp => by
      obtain ⟨_, _, c'⟩ := I.owns i x ds ‹_› e'
      exact Ne.symm (c'.hd p (List.mem_append_left _ hp))) e, r⟩⟩⟩
    apart := I.apart
    inn := I.inn }
theorem Inv.hides {hs : List (Addr × Obj)} (I : Inv env h₀ S₀ ns hid S lo m ad h) (hz : ∀ p ∈ hs, h.get? p.1 = some p.2 ∧ S p.1 = none ∧ h₀.get? p.1 = none ∧ p.1 ≠ env.locals) (ho : ∀ p ∈ hs, ∀ i ds, gl lo i = some (.own ds) → ad i ≠ p.1) : Inv env h₀ S₀ ns (hs ++ hid) S lo m ad h where
  fr := I.fr
  sub := I.sub
  sL := I.sL
  new := I.new
  hidOk := fun p hp => (List.mem_append.mp hp).elim (hz p) (I.hidOk p)
  vals := fun i x d e e' => let ⟨v, p, q⟩ := I.vals i x d e e'; ⟨v, p.mono fun _ h => List.mem_append_right _ h, q⟩
  owns := fun i x ds e e' => let ⟨p, q, c⟩ := I.owns i x ds e e'; ⟨p, q, ⟨c.s, c.b, c.l, fun p hp => (List.mem_append.mp hp).elim (fun hp => Ne.symm (ho p hp i ds e')) (c.hd p), c.it⟩⟩
  apart := I.apart
  inn := I.inn
theorem Inv.rehides {hs hs' : List (Addr × Obj)} (I : Inv env h₀ S₀ ns (hs ++ hid) S lo m ad h) (hc : NoCell hs) (off : Off hs hid) (k : ∀ b o, (∀ p ∈ hs, b ≠ p.1) → h.get? b = some o → h'.get? b = some o)
    (hn : hs'.map (·.1) = hs.map (·.1)) (hg : ∀ p ∈ hs', h'.get? p.1 = some p.2) : Inv env h₀ S₀ ns (hs' ++ hid) S lo m ad h' := by
  have pre : ∀ p ∈ hs', ∃ q ∈ hs, q.1 = p.1 := fun p hp => by
    have : p.1 ∈ hs.map (·.1) := hn ▸ List.mem_map_of_mem hp
    obtain ⟨q, hq, e⟩ := List.mem_map.mp this
    exact ⟨q, hq, e⟩
  refine (I.keepButs hc off k).hides (fun p hp => ?_) fun p hp i ds e => ?_
  · obtain ⟨q, hq, e⟩ := pre p hp
    have z := I.hidOk q (List.mem_append_left _ hq)
    rw [e] at z
    exact ⟨hg p hp, z.2⟩
  · obtain ⟨q, hq, e'⟩ := pre p hp
    obtain ⟨x, hx⟩ := I.inn i ds e
    obtain ⟨_, _, c⟩ := I.owns i x ds hx e
    have := c.hd q (List.mem_append_left _ hq)
    rw [e'] at this
    exact Ne.symm this
end
structure Head (C : Cx) (A : Around) (env : Env) (h₀ : Heap) (S₀ : Store) (ns : List Str) (target : Expr) (it : Value) (ds : List D) (bnd : D → Lo → Lo) (Its : Nat → Store → List (Addr × Obj) → Prop) : Prop where
  mono : ∀ j S S' hs, Its j S hs → Le S S' → Its j S' hs
  nocell : ∀ j S hs, Its j S hs → NoCell hs
  next : ∀ (j : Nat) (hid hs : List (Addr × Obj)) (S : Store) (lo : Lo) (m : Str → Option Value) (ad : Nat → Addr) (s : Shared) (d : D) (Q : Unit → Shared → Prop) (E : Value → Shared → Prop), Its j S hs → Inv env h₀ S₀ ns (hs ++ hid) S lo m ad s.heap → Off hs hid → ds[j]? = some d →
    (∀ hs' m' ad' h' tk, Its (j + 1) S hs' → hs'.map (·.1) = hs.map (·.1) → Inv env h₀ S₀ ns (hs' ++ hid) S (bnd d lo) m' ad' h' → Q () { s with heap := h', toks := tk }) →
    ∀ (W : Option Value → Shared → Prop), (∀ v s₁, wpAny (model C.prog C.w) A (letOwnedTupleGo target it v) (fun _ s₂ => wpAny (model C.prog C.w) A (assign target env v) Q E s₂) E s₁ → W (some v) s₁) → wpAny (model C.prog C.w) A (pyNext it) W E s
  done : ∀ (hid hs : List (Addr × Obj)) (S : Store) (lo : Lo) (m : Str → Option Value) (ad : Nat → Addr) (s : Shared) (Q : Option Value → Shared → Prop) (E : Value → Shared → Prop), Its ds.length S hs → Inv env h₀ S₀ ns (hs ++ hid) S lo m ad s.heap → Off hs hid →
    (∀ h' tk, Inv env h₀ S₀ ns hid S lo m ad h' → Q none { s with heap := h', toks := tk }) → wpAny (model C.prog C.w) A (pyNext it) Q E s
  self : ∀ (j : Nat) (hid hs : List (Addr × Obj)) (S : Store) (lo : Lo) (m : Str → Option Value) (ad : Nat → Addr) (s : Shared) (Q : Value → Shared → Prop) (E : Value → Shared → Prop), Its j S hs → Inv env h₀ S₀ ns (hs ++ hid) S lo m ad s.heap → Q it s → wpAny (model C.prog C.w) A (pyIter it) Q E s
/-- a source of turns: its objects, and that it heads the turns of any frame -/
noncomputable def Src (C : Cx) (A : Around) (h₀ : Heap) (S₀ : Store) (tk : TK) (it : Value) (ds : List D) (S : Store) (hs : List (Addr × Obj)) : Prop :=
  ∃ Its : Nat → Store → List (Addr × Obj) → Prop, Its 0 S hs ∧ ∀ env ns target, TgOk env ns tk target → Head C A env h₀ S₀ ns target it ds (bndOf tk) Its
noncomputable def HOk (C : Cx) (n : Nat) (env : Env) (ns : List Str) (e : Expr) (tk : TK) (F : AF) : Prop :=
  ∀ (A : Around) (h₀ : Heap) (S₀ : Store) (hid : List (Addr × Obj)) (S : Store) (lo : Lo) (m : Str → Option Value) (ad : Nat → Addr) (s : Shared) (Q : Value → Shared → Prop) (E : Value → Shared → Prop) (ds : List D) (lo' : Lo),
    Room A n → Ext C.hb h₀ → Le C.Sb S → Inv env h₀ S₀ ns hid S lo m ad s.heap → F lo = some (ds, lo') →
    (∀ it S' h' tk' hs, Le S S' → Inv env h₀ S₀ ns (hs ++ hid) S' lo' m ad h' → NoCell hs → Off hs hid → Src C A h₀ S₀ tk it ds S' hs → Q it { s with heap := h', toks := tk' }) →
    wpAny (model C.prog C.w) A (eval e env) (fun x s₁ => wpAny (model C.prog C.w) A (pyIter x) Q E s₁) E s
section
variable {C : Cx} {n : Nat} {env : Env} {ns : List Str}
theorem HOk.of {e : Expr} {f : AF} (i : Nat) (he : IOk C n env ns e f) : HOk C n env ns e (.one i) f := fun A h₀ S₀ hid S lo m ad s Q E ds lo' R X B I q hq => by
  refine he _ _ _ _ _ _ _ _ _ _ _ _ _ R X B I q fun it S1 h1 t1 le1 I1 J1 => ?_
  obtain ⟨It, fp, P, St, rfl, W, hst, hP, hob, f1, f2, f3, f4, f5, hfp⟩ := J1
  obtain ⟨o1, ho1, hc1⟩ := hob _ _ hst
  have nc1 : NoCell [(It, o1)] := fun p hp => by rw [List.mem_singleton.mp hp]; exact hc1
  have st_at : ∀ j h h' o, St j h → (∀ a o, S1 a = some o → h.get? a = some o) → h.get? It = some o → h'.get? It = some o → (∀ a o, S1 a = some o → h'.get? a = some o) → St j h' := fun j h h' o hs sb e e' sb' => W.frame _ _ _ hs fun b hb o' x => by
    rcases hfp b hb with rfl | ⟨ob, hob'⟩
    · rw [e] at x; cases x; exact e'
    · have := sb _ _ hob'; rw [this] at x; cases x; exact sb' _ _ hob'
  refine hq _ S1 h1 t1 [(It, o1)] le1 (I1.hide ho1 f1 f2 f3 f5) nc1 (fun p hp q hq' => by rw [List.mem_singleton.mp hp]; exact f4 q hq') ⟨fun j S' hs => ∃ o, hs = [(It, o)] ∧ (∀ v, o.data ≠ .cell v) ∧ Le S1 S' ∧ ∀ h, h.get? It = some o → (∀ a o, S1 a = some o → h.get? a = some o) → St j h,
    ⟨o1, rfl, hc1, Le.refl S1, fun h e sb => st_at 0 h1 h o1 hst I1.sub ho1 e sb⟩, ?_⟩
  rintro env' ns' target tg
  obtain ⟨x, px, rfl, hx, hl, hk, hnd⟩ := tg
  exact {
    mono := fun j S S' hs ⟨o, a, b, c, d⟩ le => ⟨o, a, b, c.trans le, d⟩
    nocell := fun j S hs ⟨o, a, b, _⟩ p hp => by rw [a] at hp; rw [List.mem_singleton.mp hp]; exact b
    next := fun j hid' hs S' lo2 m2 ad2 s2 d Q2 E2 ⟨o2, e2, hc2, le2, hst2⟩ I2 off hd hq2 W2 hW2 => by
      subst e2
      have lt : j < ds.length := (List.getElem?_eq_some_iff.mp hd).1
      refine W.item j _ _ _ lt (hst2 _ (I2.hidOk (It, o2) (.head _)).1 fun a o e => I2.sub _ _ (le2 _ _ e)) fun v h3 t3 hPv hst3 hk3 => hW2 v _ ?_
      obtain ⟨d3, hd3, hv3⟩ := hP j v lt hPv
      rw [hd] at hd3; cases hd3
      obtain ⟨o3, ho3, hc3⟩ := hob _ _ hst3
      have k3 : ∀ b o, (∀ p ∈ [(It, o2)], b ≠ p.1) → s2.heap.get? b = some o → h3.get? b = some o := fun b o hb e => hk3 b o (by simpa using hb) e
      have nc2 : NoCell [(It, o2)] := fun p hp => by rw [List.mem_singleton.mp hp]; exact hc2
      have I3 := I2.rehides (hs' := [(It, o3)]) nc2 off k3 rfl fun p hp => by rw [List.mem_singleton.mp hp]; exact ho3
      refine wpAny_of_eq (show letOwnedTupleGo (.Name x px) (.ref It) v = pure () from rfl) ?_
      refine wpAny_assign_Name (wpAny_storeName_local hl I3.fr.ns (fun h4 hn4 hs4 => ?_) (notcls hk))
      have I4 := I3.storeVal hnd hx hl hn4 hs4 (hv3.mono le2)
      exact hq2 [(It, o3)] _ _ h4 _ ⟨o3, rfl, hc3, le2, fun h e sb => st_at _ h3 h o3 hst3 (fun a o e => I3.sub _ _ (le2 _ _ e)) ho3 e sb⟩ rfl I4
    done := fun hid' hs S' lo2 m2 ad2 s2 Q2 E2 ⟨o2, e2, hc2, le2, hst2⟩ I2 off hq2 => by
      subst e2
      have nc2 : NoCell [(It, o2)] := fun p hp => by rw [List.mem_singleton.mp hp]; exact hc2
      exact W.done _ _ _ (hst2 _ (I2.hidOk (It, o2) (.head _)).1 fun a o e => I2.sub _ _ (le2 _ _ e)) fun h3 t3 hk3 => hq2 h3 t3 (I2.keepButs nc2 off fun b o hb e => hk3 b o (by simpa using hb) e)
    self := fun j hid' hs S' lo2 m2 ad2 s2 Q2 E2 ⟨o2, e2, hc2, le2, hst2⟩ I2 q => by
      subst e2
      exact W.self j _ _ _ (hst2 _ (I2.hidOk (It, o2) (.head _)).1 fun a o e => I2.sub _ _ (le2 _ _ e)) q }
noncomputable def enumL : Nat → List D → List D
  | _, [] => []
  | i, d :: ds => .tup [.int (.ofNat i), d] :: enumL (i + 1) ds
theorem enumL_length : ∀ (i : Nat) (ds : List D), (enumL i ds).length = ds.length
  | _, [] => rfl
  | i, _ :: ds => by rw [enumL, List.length_cons, List.length_cons, enumL_length]
theorem enumL_get : ∀ (i j : Nat) (ds : List D) (d : D), (enumL i ds)[j]? = some d → ∃ x, ds[j]? = some x ∧ d = .tup [.int ((i + j : Nat) : Int), x]
  | _, _, [], _, h => by simp [enumL] at h
  | i, 0, x :: ds, d, h => by simp [enumL] at h; exact ⟨x, rfl, h.symm⟩
  | i, j + 1, x :: ds, d, h => by
    rw [enumL, List.getElem?_cons_succ] at h
    obtain ⟨y, h1, h2⟩ := enumL_get (i + 1) j ds d h
    exact ⟨y, by simpa using h1, by rw [h2]; congr 3; omega⟩
noncomputable def enumI (f : EF) : AF := fun lo => match f lo with
  | some (.lst l, lo1) => some (enumL 0 l, lo1)
  | _ => none
theorem HOk.enum {x : Str} {npos pos : Pos} {e1 : Expr} {f : EF} (i k2 : Nat) (ok : C.Ok) (hg : C.mg x = none) (hb : bootBuiltins x = some (.type "enumerate")) (hnm : x ≠ "__name__")
    (ha : EOk C n env ns e1 f) (he : starEach [e1] env = (false, eval e1 env) :: starEach [] env) (hx : env.kindOf x = some .globalImplicit) (hk : env.scope.kind = .function) (hgl : env.globals = mainGlobals) (hbl : env.builtins = builtinsNs) (hd : (x == ("__debug__" : Str)) = false) :
    HOk C n env ns (.Call (.Name x npos) [e1] [] pos) (.two i k2) (enumI f) := fun A h₀ S₀ hid S lo m ad s Q E ds lo' R X B I q hq => by
  unfold enumI at q
  split at q
  · rename_i l lo1 q1
    cases q
    refine Call_ (Name_function_global hk hx (loadGlobal_builtin (env := env) (by rw [hgl]; exact (ok.gd.g.keeps X).keeps I.fr.keep) hg (by rw [hbl]; exact (ok.gd.b.keeps X).keeps I.fr.keep) ((ok.gd.builtins x hnm).trans hb) ?_) hd)
    refine Pv.callWith_type1 (wpAny_items_cons (ha _ _ _ _ _ _ _ _ _ _ _ _ _ R X B I q1 fun v S1 h1 t1 le1 I1 d1 => wpAny_items_nil ?_) he) he rfl
    obtain ⟨a, vs, nn, rfl, hxs, hl⟩ := d1
    have len := hl.length
    have il : h1.IsList a vs.toArray := ⟨_, I1.sub _ _ hxs, rfl, nn, rfl⟩
    refine call_enumerate_list (s := { s with heap := h1, toks := t1 }) il fun h2 he2 hi2 hz2 hk2 => ?_
    refine wpAny_pyIter_enum he2 ?_
    obtain ⟨oi, hoi, hci, hdi⟩ := id hi2
    have fe := I1.fresh (a := h1.objs.size + 1) (by
      cases z : h1.get? (h1.objs.size + 1) with
      | none => rfl
      | some o => exact absurd (Heap.lt_size z) (Nat.not_lt.mpr (Nat.le_succ _)))
    have fi := I1.fresh (get_size h1)
    have lta : a < h1.objs.size := Heap.lt_size (I1.sub _ _ hxs)
    let oe : Obj := { cls := .type "enumerate", data := .fields #[.none, .bool false, .ref h1.objs.size, rawInt 0, .none, .none] }
    have hoe : h2.get? (h1.objs.size + 1) = some oe := he2
    have W := WalksT.enumerate (prog := C.prog) (w := C.w) (A := A) R.hd (h1.objs.size + 1) h1.objs.size a (Nat.succ_ne_self _) (Nat.ne_of_lt (Nat.lt_succ_of_lt lta)) (Nat.ne_of_lt lta) vs.toArray
    have ele : (enumL 0 l).length = vs.toArray.size := by rw [enumL_length, List.size_toArray]; exact len.symm
    have I2 := I1.ext hk2
    have hob : ∀ (i : Nat) (h : Heap), (∃ old, IsEnum h (h1.objs.size + 1) h1.objs.size i old) ∧ h.IsListIter h1.objs.size a i ∧ h.IsList a vs.toArray →
        ∃ o o', h.get? (h1.objs.size + 1) = some o ∧ h.get? h1.objs.size = some o' ∧ (∀ v, o.data ≠ .cell v) ∧ ∀ v, o'.data ≠ .cell v := fun i h ⟨⟨old, z⟩, ⟨o', z', _, z2⟩, _⟩ =>
      ⟨_, o', z, z', (fun v y => by cases y), fun v y => by rw [z2] at y; cases y⟩
    have st_at : ∀ (j : Nat) h h' o o', ((∃ old, IsEnum h (h1.objs.size + 1) h1.objs.size j old) ∧ h.IsListIter h1.objs.size a j ∧ h.IsList a vs.toArray) → (∀ b o, S1 b = some o → h.get? b = some o) → h.get? (h1.objs.size + 1) = some o → h.get? h1.objs.size = some o' →
        h'.get? (h1.objs.size + 1) = some o → h'.get? h1.objs.size = some o' → (∀ b o, S1 b = some o → h'.get? b = some o) → ((∃ old, IsEnum h' (h1.objs.size + 1) h1.objs.size j old) ∧ h'.IsListIter h1.objs.size a j ∧ h'.IsList a vs.toArray) :=
      fun j h h' o o' hs sb e1 e2 e1' e2' sb' => W.frame _ _ _ hs fun b hb ob x => by
        rcases List.mem_cons.mp hb with rfl | hb
        · rw [e1] at x; cases x; exact e1'
        · rcases List.mem_cons.mp hb with rfl | hb
          · rw [e2] at x; cases x; exact e2'
          · rw [List.mem_singleton.mp hb] at x ⊢
            rw [sb _ _ hxs] at x; cases x; exact sb' _ _ hxs
    have hst0 : (∃ old, IsEnum h2 (h1.objs.size + 1) h1.objs.size ((0 : Nat) : Int) old) ∧ h2.IsListIter h1.objs.size a 0 ∧ h2.IsList a vs.toArray := ⟨⟨_, he2⟩, hi2, ⟨_, hk2 _ _ (I1.sub _ _ hxs), rfl, nn, rfl⟩⟩
    have nc : NoCell [(h1.objs.size + 1, oe), (h1.objs.size, oi)] := fun p hp => by
      rcases List.mem_cons.mp hp with rfl | hp
      · intro v y; cases y
      · rw [List.mem_singleton.mp hp]; intro v y; rw [hdi] at y; cases y
    refine hq _ S1 h2 t1 [(h1.objs.size + 1, oe), (h1.objs.size, oi)] le1 (I2.hides (fun p hp => ?_) fun p hp => ?_) nc (fun p hp q hq' => ?_) ⟨fun j S' hs => ∃ o o', hs = [(h1.objs.size + 1, o), (h1.objs.size, o')] ∧ (∀ v, o.data ≠ .cell v) ∧ (∀ v, o'.data ≠ .cell v) ∧ Le S1 S' ∧
        ∀ h, h.get? (h1.objs.size + 1) = some o → h.get? h1.objs.size = some o' → (∀ b o, S1 b = some o → h.get? b = some o) → ((∃ old, IsEnum h (h1.objs.size + 1) h1.objs.size j old) ∧ h.IsListIter h1.objs.size a j ∧ h.IsList a vs.toArray),
      ⟨oe, oi, rfl, (fun v y => by cases y), (fun v y => by rw [hdi] at y; cases y), Le.refl S1, fun h e1 e2 sb => st_at 0 h2 h oe oi hst0 I2.sub hoe hoi e1 e2 sb⟩, ?_⟩
    · rcases List.mem_cons.mp hp with rfl | hp
      · exact ⟨hoe, fe.1, fe.2.1, fe.2.2.1⟩
      · rw [List.mem_singleton.mp hp]; exact ⟨hoi, fi.1, fi.2.1, fi.2.2.1⟩
    · rcases List.mem_cons.mp hp with rfl | hp
      · exact fe.2.2.2.2
      · rw [List.mem_singleton.mp hp]; exact fi.2.2.2.2
    · rcases List.mem_cons.mp hp with rfl | hp
      · exact fe.2.2.2.1 q hq'
      · rw [List.mem_singleton.mp hp]; exact fi.2.2.2.1 q hq'
    · rintro env' ns' target tg
      · obtain ⟨x1, y1, p1, p2, kk, tp, rfl, hx1, hy1, hlx, hly, hk', hnd⟩ := tg.two
        exact {
          mono := fun j S S' hs ⟨o, o', a, b, b', c, d⟩ le => ⟨o, o', a, b, b', c.trans le, d⟩
          nocell := fun j S hs ⟨o, o', a, b, b', _⟩ p hp => by
            rw [a] at hp
            rcases List.mem_cons.mp hp with rfl | hp
            · exact b
            · rw [List.mem_singleton.mp hp]; exact b'
          next := fun j hid' hs S' lo2 m2 ad2 s2 d Q2 E2 ⟨o2, o2', e2, hc2, hc2', le2, hst2⟩ I2 off hd hq2 W2 hW2 => by
            subst e2
            have lt : j < vs.toArray.size := by rw [← ele]; exact (List.getElem?_eq_some_iff.mp hd).1
            have nc2 : NoCell [(h1.objs.size + 1, o2), (h1.objs.size, o2')] := fun p hp => by
              rcases List.mem_cons.mp hp with rfl | hp
              · exact hc2
              · rw [List.mem_singleton.mp hp]; exact hc2'
            refine W.item j _ _ _ lt (hst2 _ (I2.hidOk _ (.head _)).1 (I2.hidOk _ (.tail _ (.head _))).1 fun a o e => I2.sub _ _ (le2 _ _ e)) fun T vals h3 t3 hPv _ hT hMid hk3 => hW2 (.ref T) _ ?_
            obtain ⟨t, xv, hxv, rfl⟩ := hPv
            obtain ⟨y, hy, rfl⟩ := enumL_get 0 j l d hd
            obtain ⟨u, hu, hud⟩ := hl.get hy
            have hxv' : vs[j]? = some xv := by simpa using hxv
            have euv : u = xv := Option.some.inj (hu.symm.trans hxv')
            subst euv
            refine W.go _ _ _ j T _ _ _ hMid fun h4 hst4 hk4 => ?_
            have hT4 : h4.IsTuple T #[.int (j : Int) t, u] := hT.at fun o e => hk4 T o (W.apart j T h3 hMid) e
            have k4 : ∀ b o, (∀ p ∈ [(h1.objs.size + 1, o2), (h1.objs.size, o2')], b ≠ p.1) → s2.heap.get? b = some o → h4.get? b = some o := fun b o hb e => by
              have nb : b ∉ [h1.objs.size + 1, h1.objs.size] := fun z => by
                rcases List.mem_cons.mp z with z | z
                · exact hb _ (.head _) z
                · exact hb _ (.tail _ (.head _)) (List.mem_singleton.mp z)
              exact hk4 b o nb (hk3 b o nb e)
            obtain ⟨o4, o4', g4, g4', n4, n4'⟩ := hob _ _ hst4
            have I4 := I2.rehides (hs' := [(h1.objs.size + 1, o4), (h1.objs.size, o4')]) nc2 off k4 rfl fun p hp => by
              rcases List.mem_cons.mp hp with rfl | hp
              · exact g4
              · rw [List.mem_singleton.mp hp]; exact g4'
            refine wpAny_assign_Tuple R.hd hT4 rfl rfl fun h5 hx5 => ?_
            replace hx5 : Heap.ExtBut h4.objs.size h4 h5 := hx5
            have up5 : ∀ b o, h4.get? b = some o → h5.get? b = some o := fun b o x => hx5 b o (Nat.ne_of_lt (Heap.lt_size x)) x
            have I5 := I4.ext up5
            show wpAny _ A (do holding [u] (assign (.Name x1 p1) env' (.int (j : Int) t)); do holding [] (assign (.Name y1 p2) env' u); pure ()) _ _ _
            refine wpAny_bind (wpAny_holding (wpAny_assign_Name (wpAny_storeName_local hlx I5.fr.ns (fun h6 hn6 hs6 => ?_) (notcls hk'))))
            have I6 := I5.storeVal (d := .int (j : Int)) hnd hx1 hlx hn6 hs6 ⟨t, rfl⟩
            refine wpAny_bind (wpAny_holding (wpAny_assign_Name (wpAny_storeName_local hly I6.fr.ns (fun h7 hn7 hs7 => wpAny_pure ?_) (notcls hk'))))
            have I7 := I6.storeVal hnd hy1 hly hn7 hs7 (hud.mono le2)
            have e0 : ((0 + j : Nat) : Int) = (j : Int) := by omega
            have I8 := I7
            rw [← e0] at I8
            exact hq2 [(h1.objs.size + 1, o4), (h1.objs.size, o4')] _ ad2 h7 _ ⟨o4, o4', rfl, n4, n4', le2, fun h g g' sb => st_at _ h4 h o4 o4' hst4 (fun a o e => I4.sub _ _ (le2 _ _ e)) g4 g4' g g' sb⟩ rfl I8
          done := fun hid' hs S' lo2 m2 ad2 s2 Q2 E2 ⟨o2, o2', e2, hc2, hc2', le2, hst2⟩ I2 off hq2 => by
            subst e2
            have nc2 : NoCell [(h1.objs.size + 1, o2), (h1.objs.size, o2')] := fun p hp => by
              rcases List.mem_cons.mp hp with rfl | hp
              · exact hc2
              · rw [List.mem_singleton.mp hp]; exact hc2'
            rw [ele] at hst2
            refine W.done _ _ _ (hst2 _ (I2.hidOk _ (.head _)).1 (I2.hidOk _ (.tail _ (.head _))).1 fun a o e => I2.sub _ _ (le2 _ _ e)) fun h3 t3 hk3 => hq2 h3 t3 (I2.keepButs nc2 off fun b o hb e => hk3 b o (fun z => ?_) e)
            rcases List.mem_cons.mp z with z | z
            · exact hb _ (.head _) z
            · exact hb _ (.tail _ (.head _)) (List.mem_singleton.mp z)
          self := fun j hid' hs S' lo2 m2 ad2 s2 Q2 E2 ⟨o2, o2', e2, hc2, hc2', le2, hst2⟩ I2 q => by
            subst e2
            exact W.self j _ _ _ (hst2 _ (I2.hidOk _ (.head _)).1 (I2.hidOk _ (.tail _ (.head _))).1 fun a o e => I2.sub _ _ (le2 _ _ e)) q }
  · cases q
end
end Mine
end
/-! part M9 -/
section
open PySem PySem.W PyProof.Rows PySem.Calls
namespace Mine
noncomputable def forH (bnd : D → Lo → Lo) (b : SF) : List D → SF
  | [], lo => some (.next, lo)
  | d :: ds, lo => match b (bnd d lo) with
    | some (.next, lo2) => forH bnd b ds lo2
    | some (.ret d, lo2) => some (.ret d, lo2)
    | none => none
noncomputable def forHS (tk : TK) (f : AF) (b : SF) : SF := fun lo => match f lo with
  | some (ds, lo1) => forH (bndOf tk) b ds lo1
  | none => none
section
variable {C : Cx} {n : Nat} {env : Env} {ns : List Str}
theorem XOk.forh {target : Expr} {pos : Pos} {e : Expr} {b : List Stmt} {tk : TK} {f : AF} {g : SF} (tg : TgOk env ns tk target) (he : HOk C n env ns e tk f) (hb : SOk C n env ns b g) (hs : ∀ v, foldedSetIterable e env v = pure v) :
    XOk C n env ns (.For target e b [] pos) (forHS tk f g) := fun A h₀ S₀ hid S lo m ad s Q E d lo' R X B I q hq => by
  unfold forHS at q
  split at q
  · rename_i ds lo1 q1
    refine wpAny_For (he _ _ _ _ _ _ _ _ _ _ _ _ _ R X B I q1 fun it S1 h1 t1 hs1 le1 I1 nc1 off1 src => ?_) hs
    obtain ⟨Its, i0, hd⟩ := src
    have H := hd env ns target tg
    refine codeAny_forLoop_any (fun k s' => ∃ j S2 lo2 m2 ad2 h2 t2 hs2, k = ds.length + 1 - j ∧ j ≤ ds.length ∧ s' = { s with heap := h2, toks := t2 } ∧ Le S1 S2 ∧ Inv env h₀ S₀ ns (hs2 ++ hid) S2 lo2 m2 ad2 h2 ∧ Its j S2 hs2 ∧ Off hs2 hid ∧ forH (bndOf tk) g (ds.drop j) lo2 = some (d, lo')) ?_ (ds.length + 1)
      ⟨0, S1, lo1, m, ad, h1, t1, hs1, rfl, Nat.zero_le _, rfl, Le.refl S1, I1, i0, off1, q⟩
    rintro k s' ⟨j, S2, lo2, m2, ad2, h2, t2, hs2, rfl, hj, rfl, le2, I2, i2, off2, e2⟩
    by_cases hlt : j < ds.length
    · have hd3 : ds[j]? = some ds[j] := List.getElem?_eq_getElem hlt
      refine H.next j hid hs2 S2 lo2 m2 ad2 _ _ _ _ i2 I2 off2 hd3 (fun hs4 m4 ad4 h4 t4 i4 n4 I4 => ?_) _ (fun v s₁ z => z)
      have off4 : Off hs4 hid := fun p hp q hq' => by
        have : p.1 ∈ hs2.map (·.1) := n4 ▸ List.mem_map_of_mem hp
        obtain ⟨p', hp', e⟩ := List.mem_map.mp this
        rw [← e]; exact off2 p' hp' q hq'
      rw [drop_get hd3] at e2
      unfold forH at e2
      split at e2
      · rename_i lo5 q5
        refine hb _ _ _ _ _ _ _ _ _ _ _ _ _ R X ((B.trans le1).trans le2) I4 q5 fun f S5 m5 ad5 h5 t5 le5 I5 f5 => ?_
        cases f with
        | next => exact ⟨ds.length + 1 - (j + 1), by omega, j + 1, S5, lo5, m5, ad5, h5, t5, hs4, rfl, hlt, rfl, le2.trans le5, I5, H.mono _ _ _ _ i4 le5, off4, e2⟩
        | ret v => exact f5.elim
        | brk => exact f5.elim
        | cont => exact f5.elim
      · rename_i d5 lo5 q5
        cases e2
        refine hb _ _ _ _ _ _ _ _ _ _ _ _ _ R X ((B.trans le1).trans le2) I4 q5 fun f S5 m5 ad5 h5 t5 le5 I5 f5 => ?_
        cases f with
        | next => exact f5.elim
        | ret v => exact hq (.ret v) S5 m5 ad5 h5 t5 ((le1.trans le2).trans le5) (I5.drop (H.nocell _ _ _ i4)) f5
        | brk => exact f5.elim
        | cont => exact f5.elim
      · cases e2
    · have hin : j = ds.length := by omega
      subst hin
      rw [List.drop_length] at e2
      cases e2
      exact H.done hid hs2 S2 lo' m2 ad2 _ _ _ i2 I2 off2 fun h3 t3 I3 => wpAny_execs_nil (hq .next S2 m2 ad2 h3 t3 (le1.trans le2) I3 trivial)
  · cases q
end
/-! ## a list by a comprehension -/
noncomputable def noOwn : Lo → Bool
  | [] => true
  | some (.own _) :: _ => false
  | _ :: l => noOwn l
theorem noOwn_no : ∀ {lo : Lo}, noOwn lo = true → ∀ {i : Nat} {ds : List D}, gl lo i ≠ some (.own ds)
  | [], _, i, ds => by intro h; cases h
  | none :: l, h, 0, ds => by intro h; cases h
  | some (.val _) :: l, h, 0, ds => by intro h; cases h
  | some (.own _) :: l, h, _, ds => by cases h
  | none :: l, h, i + 1, ds => noOwn_no (lo := l) h (i := i)
  | some (.val _) :: l, h, i + 1, ds => noOwn_no (lo := l) h (i := i)
/-- the names of the outer frame that the block reads -/
noncomputable def capt : List Nat → Lo → Option Lo
  | [], _ => some []
  | i :: is, lo => match gl lo i with
    | some (.val d) => match capt is lo with
      | some l => some (some (.val d) :: l)
      | none => none
    | _ => none
theorem capt_get : ∀ {is : List Nat} {lo l : Lo}, capt is lo = some l → ∀ {j : Nat} {x : LV}, gl l j = some x → ∃ i d, is[j]? = some i ∧ gl lo i = some (.val d) ∧ x = .val d
  | [], _, _, h, j, x, h' => by cases h; cases h'
  | i :: is, lo, l, h, j, x, h' => by
    unfold capt at h
    split at h
    · rename_i d q
      split at h
      · rename_i l' q'
        cases h
        cases j with
        | zero => cases h'; exact ⟨i, d, rfl, q, rfl⟩
        | succ j =>
          obtain ⟨i', d', a, b, c⟩ := capt_get q' (j := j) (x := x) h'
          exact ⟨i', d', by simpa using a, b, c⟩
      · cases h
    · cases h
noncomputable def blanks : Nat → Lo
  | 0 => []
  | n + 1 => none :: blanks n
noncomputable def mapF (bnd : D → Lo → Lo) (g : EF) : List D → Lo → Option (List D)
  | [], _ => some []
  | d :: ds, lo => match g (bnd d lo) with
    | some (r, lo1) => match mapF bnd g ds lo1 with
      | some rs => some (r :: rs)
      | none => none
    | none => none
/-- k: how many names the block binds -/
noncomputable def compF (tk : TK) (k : Nat) (is : List Nat) (f : AF) (g : EF) : EF := fun lo => match f lo with
  | some (ds, lo1) => cond (noOwn lo1 && Nat.blt ds.length 1000) (match capt is lo1 with
    | some l => match mapF (bndOf tk) g ds (blanks k ++ l) with
      | some rs => some (.lst rs, lo1)
      | none => none
    | none => none) none
  | none => none
theorem gl_blanks : ∀ (k : Nat) (l : Lo) (i : Nat) {x : LV}, gl (blanks k ++ l) i = some x → ∃ j, i = k + j ∧ gl l j = some x
  | 0, l, i, x, h => ⟨i, by omega, h⟩
  | k + 1, l, 0, x, h => by cases h
  | k + 1, l, i + 1, x, h => by
    obtain ⟨j, e, h'⟩ := gl_blanks k l i (x := x) h
    exact ⟨j, by omega, h'⟩
theorem mapF_length (bnd : D → Lo → Lo) (g : EF) : ∀ {ds : List D} {lo : Lo} {rs : List D}, mapF bnd g ds lo = some rs → rs.length = ds.length
  | [], _, _, h => by cases h; rfl
  | d :: ds, lo, rs, h => by
    unfold mapF at h
    split at h
    · split at h
      · rename_i rs' q
        cases h
        rw [List.length_cons, List.length_cons, mapF_length bnd g q]
      · cases h
    · cases h
section
variable {C : Cx} {n : Nat} {env : Env} {ns : List Str}
/-- how the block's free names stand to the outer frame's -/
noncomputable def Hc (env : Env) (ns : List Str) (scope : Scope) (cl : List (Str × Addr)) (is : List Nat) (cns : List Str) : Prop :=
  ∀ (j i : Nat) (x : Str), is[j]? = some i → cns[j]? = some x → ns[i]? = some x ∧ env.kindOf x = some .cell ∧ cl.lookup x = env.cells.lookup x ∧ ∀ Cc, (compEnvC scope cl Cc env).kindOf x = some .cell
theorem Hc.nil {scope : Scope} {cl : List (Str × Addr)} {cns : List Str} : Hc env ns scope cl [] cns := fun j i x h _ => by simp at h
theorem Hc.cons {scope : Scope} {cl : List (Str × Addr)} {is : List Nat} {cns : List Str} {i : Nat} {x : Str} (h1 : ns[i]? = some x) (h2 : env.kindOf x = some .cell) (h3 : cl.lookup x = env.cells.lookup x) (h4 : ∀ Cc, (compEnvC scope cl Cc env).kindOf x = some .cell) (r : Hc env ns scope cl is cns) : Hc env ns scope cl (i :: is) (x :: cns)
  | 0, i', x', a, b => by simp at a b; subst a b; exact ⟨h1, h2, h3, h4⟩
  | j + 1, i', x', a, b => r j i' x' (by simpa using a) (by simpa using b)
theorem EOk.comp {elt target iter : Expr} {scope : Scope} {pos : Pos} {cl : List (Str × Addr)} {tk : TK} {bs cns : List Str} {is : List Nat} {f : AF} {g : EF}
    (hit : HOk C n env ns iter tk f) (hel : ∀ Cc, EOk C n (compEnvC scope cl Cc env) (bs ++ cns) elt g) (tg : ∀ Cc, TgOk (compEnvC scope cl Cc env) (bs ++ cns) tk target)
    (hclos : closureFor scope env = pure cl) (hcell : ∀ y ∈ scope.names, y.2 ≠ .cell) (hkind : scope.kind = .function) (hnames : ∀ y ∈ scope.names, y.2 = .local → scope.names.lookup y.1 = some .local)
    (hs : ∀ v, foldedSetIterable iter env v = pure v)
    (hc : Hc env ns scope cl is cns) :
    EOk C n env ns (.ListComp elt [⟨target, iter, [], 0⟩] scope pos) (compF tk bs.length is f g) := fun A h₀ S₀ hid S lo m ad s Q E d lo' R X B I q hq => by
  unfold compF at q
  split at q
  · rename_i ds lo1 q1
    cases q2 : (noOwn lo1 && Nat.blt ds.length 1000) with
    | false => rw [q2] at q; cases q
    | true =>
      rw [q2] at q
      rw [Bool.and_eq_true] at q2
      have lt : ds.length < 1000 := Nat.le_of_ble_eq_true q2.2
      have no : ∀ {i ds}, gl lo1 i ≠ some (.own ds) := fun {i ds} => noOwn_no q2.1
      cases q3 : capt is lo1 with
      | none => rw [q3] at q; cases q
      | some l =>
        rw [q3] at q
        cases q4 : mapF (bndOf tk) g ds (blanks bs.length ++ l) with
        | none => simp only [q4] at q; cases q
        | some rs =>
          simp only [q4] at q
          cases q
          rw [eval_ListComp]
          refine wpAny_comprehension_free (use := none) rfl hs hclos hkind hnames (hit _ _ _ _ _ _ _ _ _ _ _ _ _ R X B I q1 fun it S1 h1 t1 hs1 le1 I1 nc1 off1 src => ?_)
          obtain ⟨Its, i0, hd⟩ := src
          obtain ⟨oL, esL, epL, hoL, hdL, hkL, hfL⟩ := I1.fr.ns
          -- the list, the block's own dict
          refine wpAny_newObj_type (wpAny_newFunctionEnv hcell (by intro y hy; simp at hy) (fun h3 hn3 hs3 => ?_) hkind)
          generalize hD : h1.objs.size = Da at *
          have hDn : h1.get? Da = none := hD ▸ get_size h1
          have fD := I1.fresh hDn
          generalize hH2 : h1.push { cls := .type "list", data := .seq ([] : List Value).toArray } = h2 at *
          have k12 : ∀ b o, h1.get? b = some o → h2.get? b = some o := fun b o e => hH2 ▸ Heap.get?_push_of_some _ e
          have hD2 : h2.get? Da = some (listObj [] 0) := by rw [← hH2, ← hD]; exact Heap.get?_push_size _ rfl
          have I2 := I1.ext k12
          have hCn : h2.get? h2.objs.size = none := get_size h2
          have fC := I2.fresh hCn
          have k23 : ∀ b o, h2.get? b = some o → h3.get? b = some o := fun b o e => (hs3.2 b fun z => by rw [z, hCn] at e; cases e).trans (Heap.get?_push_of_some _ e)
          have I3 := I2.ext k23
          have hDC : Da ≠ h2.objs.size := fun z => by rw [← z, hD2] at hCn; cases hCn
          have hLC : env.locals ≠ h2.objs.size := Ne.symm fC.2.2.1
          have hoL3 : h3.get? env.locals = some oL := k23 _ _ (k12 _ _ hoL)
          have hcL : ∀ v, oL.data ≠ .cell v := fun v z => by rw [hdL] at z; cases z
          -- the block's frame
          have hoff : ∀ p ∈ hs1 ++ hid, h1.get? p.1 = some p.2 := fun p hp => (I1.hidOk p hp).1
          have neD : ∀ p ∈ hs1 ++ hid, p.1 ≠ Da := fun p hp z => by have := hoff p hp; rw [z, hDn] at this; cases this
          have neL : ∀ p ∈ hs1 ++ hid, p.1 ≠ env.locals := fun p hp => (I1.hidOk p hp).2.2.2
          have offB : Off hs1 ((Da, listObj [] 0) :: (env.locals, oL) :: hid) := fun p hp r hr => by
            rcases List.mem_cons.mp hr with rfl | hr
            · exact Ne.symm (neD p (List.mem_append_left _ hp))
            · rcases List.mem_cons.mp hr with rfl | hr
              · exact Ne.symm (neL p (List.mem_append_left _ hp))
              · exact off1 p hp r hr
          have J3 : Inv (compEnvC scope cl h2.objs.size env) h₀ S₀ (bs ++ cns) (hs1 ++ ((Da, listObj [] 0) :: (env.locals, oL) :: hid)) S1 (blanks bs.length ++ l) (fun x => ([] : List (Str × Value)).reverse.lookup x) (fun _ => 0) h3 := {
            fr := ⟨hn3, I3.fr.keep, Nat.le_trans I3.fr.above (Nat.le_of_lt (Heap.lt_size (k12 _ _ hoL)))⟩
            sub := I3.sub
            sL := fC.1
            new := I3.new
            hidOk := fun p hp => by
              have inC : ∀ p ∈ hs1 ++ hid, h3.get? p.1 = some p.2 ∧ S1 p.1 = none ∧ h₀.get? p.1 = none ∧ p.1 ≠ h2.objs.size := fun p hp => by
                have z := I3.hidOk p hp
                exact ⟨z.1, z.2.1, z.2.2.1, fC.2.2.2.1 p hp⟩
              rcases List.mem_append.mp hp with hp | hp
              · exact inC p (List.mem_append_left _ hp)
              · rcases List.mem_cons.mp hp with rfl | hp
                · exact ⟨k23 _ _ hD2, fD.1, fD.2.1, hDC⟩
                · rcases List.mem_cons.mp hp with rfl | hp
                  · refine ⟨hoL3, I1.sL, ?_, hLC⟩
                    cases z : h₀.get? env.locals with
                    | none => rfl
                    | some o => exact absurd (Heap.lt_size z) (Nat.not_lt.mpr I1.fr.above)
                  · exact inC p (List.mem_append_right _ hp)
            vals := fun i x d e e' => by
              obtain ⟨j, rfl, e2⟩ := gl_blanks _ _ _ e'
              obtain ⟨i', d', a, b, c⟩ := capt_get q3 e2
              cases c
              rw [List.getElem?_append_right (Nat.le_add_right _ _), Nat.add_sub_cancel_left] at e
              obtain ⟨h1', h2', h3', h4'⟩ := hc j i' x a e
              obtain ⟨v, p, hv⟩ := I1.vals i' x d h1' b
              refine ⟨v, ?_, hv⟩
              rcases p with ⟨p1, _⟩ | ⟨c, o, p1, p2, p3, p4⟩
              · rw [h2'] at p1; cases p1
              · refine .inr ⟨c, o, h4' _, h3'.trans p2, ?_, p4⟩
                rcases List.mem_append.mp p3 with z | z
                · exact List.mem_append_left _ z
                · exact List.mem_append_right _ (.tail _ (.tail _ z))
            owns := fun i x ds e e' => by
              obtain ⟨j, rfl, e2⟩ := gl_blanks _ _ _ e'
              obtain ⟨i', d', a, b, c⟩ := capt_get q3 e2
              cases c
            apart := fun i j di dj e e' => by
              obtain ⟨j, rfl, e2⟩ := gl_blanks _ _ _ e
              obtain ⟨i', d', a, b, c⟩ := capt_get q3 e2
              cases c
            inn := fun i ds e => by
              obtain ⟨j, rfl, e2⟩ := gl_blanks _ _ _ e
              obtain ⟨i', d', a, b, c⟩ := capt_get q3 e2
              cases c }
          have H := hd (compEnvC scope cl h2.objs.size env) (bs ++ cns) target (tg _)
          have loop : codeAny (model C.prog C.w) A (.compLoop (.ListComp elt [⟨target, iter, [], 0⟩] scope pos) 0 it (.ref Da) (compEnvC scope cl h2.objs.size env)) (compPost (model C.prog C.w) A E none Q (.ref Da) h2.objs.size) { s with heap := h3, toks := t1 } := by
            refine kcp_loop (fun k s' => ∃ j S4 lo4 m4 ad4 h4 t4 hs4 vs4 n4 rs4 rest, k = ds.length + 1 - j ∧ j ≤ ds.length ∧ s' = { s with heap := h4, toks := t4 } ∧ Le S1 S4 ∧
              Inv (compEnvC scope cl h2.objs.size env) h₀ S₀ (bs ++ cns) (hs4 ++ ((Da, listObj vs4 n4) :: (env.locals, oL) :: hid)) S4 lo4 m4 ad4 h4 ∧ Its j S4 hs4 ∧ Off hs4 ((Da, listObj vs4 n4) :: (env.locals, oL) :: hid) ∧
              IsL S4 vs4 rs4 ∧ mapF (bndOf tk) g (ds.drop j) lo4 = some rest ∧ rs4 ++ rest = rs ∧ rs4.length = j) ?_ (ds.length + 1)
              ⟨0, S1, _, _, _, h3, t1, hs1, [], 0, [], rs, rfl, Nat.zero_le _, rfl, Le.refl S1, J3, i0, offB, rfl, by rw [List.drop_zero]; exact q4, rfl, rfl⟩
            rintro k s' ⟨j, S4, lo4, m4, ad4, h4, t4, hs4, vs4, n4, rs4, rest, rfl, hj, rfl, le4, I4, i4, off4, hl4, e4, er, ej⟩
            by_cases hlt : j < ds.length
            · have hd3 : ds[j]? = some ds[j] := List.getElem?_eq_getElem hlt
              rw [drop_get hd3] at e4
              unfold mapF at e4
              split at e4
              · rename_i r lo6 q6
                split at e4
                · rename_i rest' q7
                  cases e4
                  refine H.next j _ hs4 S4 lo4 m4 ad4 _ _ _ _ i4 I4 off4 hd3 (fun hs5 m5 ad5 h5 t5 i5 n5 I5 => ?_) _ (fun v s₁ z => z)
                  have off5 : Off hs5 ((Da, listObj vs4 n4) :: (env.locals, oL) :: hid) := fun p hp r hr => by
                    have : p.1 ∈ hs4.map (·.1) := n5 ▸ List.mem_map_of_mem hp
                    obtain ⟨p', hp', e⟩ := List.mem_map.mp this
                    rw [← e]; exact off4 p' hp' r hr
                  refine hel _ _ _ _ _ _ _ _ _ _ _ _ _ _ R X ((B.trans le1).trans le4) I5 q6 fun v S6 h6 t6 le6 I6 d6 => ?_
                  have len4 := hl4.length
                  refine append_at (I6.hidOk (Da, listObj vs4 n4) (List.mem_append_right _ (.head _))).1 (fun h7 hs7 hg7 => ?_) (by simp only [List.size_toArray, PySem.sizeLine_eq]; omega)
                  -- the list's object is first, then turned
                  have P6 : Inv (compEnvC scope cl h2.objs.size env) h₀ S₀ (bs ++ cns) ([(Da, listObj vs4 n4)] ++ (hs5 ++ (env.locals, oL) :: hid)) S6 lo6 m5 ad5 h6 := I6.perm fun p => by
                    simp only [List.mem_append, List.mem_cons, List.not_mem_nil, or_false]
                    constructor
                    · rintro (z | z | z | z)
                      · exact .inr (.inl z)
                      · exact .inl z
                      · exact .inr (.inr (.inl z))
                      · exact .inr (.inr (.inr z))
                    · rintro (z | z | z | z)
                      · exact .inr (.inl z)
                      · exact .inl z
                      · exact .inr (.inr (.inl z))
                      · exact .inr (.inr (.inr z))
                  have ncD : NoCell [(Da, listObj vs4 n4)] := fun p hp => by rw [List.mem_singleton.mp hp]; intro v z; cases z
                  have offD : Off [(Da, listObj vs4 n4)] (hs5 ++ (env.locals, oL) :: hid) := fun p hp r hr => by
                    rw [List.mem_singleton.mp hp]
                    rcases List.mem_append.mp hr with hr | hr
                    · exact fun z => off5 r hr (Da, listObj vs4 n4) (.head _) z.symm
                    · rcases List.mem_cons.mp hr with rfl | hr
                      · exact Ne.symm fD.2.2.1
                      · exact neD r (List.mem_append_right _ hr)
                  have hg7' : h7.get? Da = some (listObj (vs4 ++ [v]) (n4 + 1)) := by rw [hg7]; simp
                  have P7 := P6.rehides (hs' := [(Da, listObj (vs4 ++ [v]) (n4 + 1))]) ncD offD (fun b o hb e => (hs7.2 b (hb _ (.head _))).trans e) rfl fun p hp => by rw [List.mem_singleton.mp hp]; exact hg7'
                  have I7 : Inv (compEnvC scope cl h2.objs.size env) h₀ S₀ (bs ++ cns) (hs5 ++ ((Da, listObj (vs4 ++ [v]) (n4 + 1)) :: (env.locals, oL) :: hid)) S6 lo6 m5 ad5 h7 := P7.perm fun p => by
                    simp only [List.mem_append, List.mem_cons, List.not_mem_nil, or_false]
                    constructor
                    · rintro (z | z | z | z)
                      · exact .inr (.inl z)
                      · exact .inl z
                      · exact .inr (.inr (.inl z))
                      · exact .inr (.inr (.inr z))
                    · rintro (z | z | z | z)
                      · exact .inr (.inl z)
                      · exact .inl z
                      · exact .inr (.inr (.inl z))
                      · exact .inr (.inr (.inr z))
                  have off7 : Off hs5 ((Da, listObj (vs4 ++ [v]) (n4 + 1)) :: (env.locals, oL) :: hid) := fun p hp r hr => by
                    rcases List.mem_cons.mp hr with rfl | hr
                    · exact off5 p hp (Da, listObj vs4 n4) (.head _)
                    · exact off5 p hp r (.tail _ hr)
                  exact ⟨ds.length + 1 - (j + 1), by omega, j + 1, S6, lo6, m5, ad5, h7, t6, hs5, vs4 ++ [v], n4 + 1, rs4 ++ [r], rest', rfl, hlt, rfl, le4.trans le6, I7, H.mono _ _ _ _ i5 le6, off7, (hl4.mono le6).append (IsL.one d6), q7, by rw [← er]; simp, by rw [List.length_append, ej]; rfl⟩
                · cases e4
              · cases e4
            · have hin : j = ds.length := by omega
              subst hin
              rw [List.drop_length] at e4
              cases e4
              rw [List.append_nil] at er
              subst er
              refine H.done _ hs4 S4 lo4 m4 ad4 _ _ _ i4 I4 off4 fun h5 t5 I5 => ?_
              refine ⟨m4, I5.fr.ns, fun h6 hs6 => ?_⟩
              have gD : h5.get? Da = some (listObj vs4 n4) := (I5.hidOk _ (.head _)).1
              have zD := I5.hidOk _ (.head _)
              have zL := I5.hidOk (env.locals, oL) (.tail _ (.head _))
              have k56 : ∀ b o, b ≠ h2.objs.size → h5.get? b = some o → h6.get? b = some o := fun b o hb e => (hs6.2 b hb).trans e
              have I6 : Inv env h₀ S₀ ns hid S4 lo' m ad h6 := {
                fr := ⟨⟨oL, esL, epL, k56 _ _ hLC zL.1, hdL, hkL, hfL⟩, fun b o e => k56 b o (fun z => by rw [z, fC.2.1] at e; cases e) (I5.fr.keep b o e), I1.fr.above⟩
                sub := fun b o e => k56 b o (fun z => by have := I5.sL; rw [show (compEnvC scope cl h2.objs.size env).locals = h2.objs.size from rfl, ← z, e] at this; cases this) (I5.sub b o e)
                sL := zL.2.1
                new := I5.new
                hidOk := fun p hp => by
                  have z := I5.hidOk p (.tail _ (.tail _ hp))
                  exact ⟨k56 _ _ z.2.2.2 z.1, z.2.1, z.2.2.1, (I1.hidOk p (List.mem_append_right _ hp)).2.2.2⟩
                vals := fun i x d e e' => by
                  obtain ⟨v, p, hv⟩ := (I1.drop nc1).vals i x d e e'
                  exact ⟨v, p, hv.mono le4⟩
                owns := fun i x ds e e' => absurd e' no
                apart := fun i j di dj e _ => absurd e no
                inn := fun i ds e => absurd e no }
              have z6 := I6.lay (a := Da) (o := listObj vs4 n4) (k56 _ _ hDC gD) zD.2.1 zD.2.2.1 fD.2.2.1 (fun p hp => neD p (List.mem_append_right _ hp)) fun i ds e => absurd e no
              exact hq (.ref Da) _ h6 t5 ((le1.trans le4).trans (put_le zD.2.1)) z6 ⟨Da, vs4, n4, rfl, put_self, hl4.mono (put_le zD.2.1)⟩
          exact codeAny_compStart_list loop (H.self 0 _ hs1 S1 _ _ _ _ _ _ i0 J3 loop)
  · cases q
end
end Mine
end
/-! part HDM -/
section
open PySem PySem.W PyProof.Rows
set_option maxRecDepth 100000
set_option maxHeartbeats 8000000
namespace Mine
open_top hd for PySem.Challenge.rw_tk0034_01
end Mine
end
/-! part M10 -/
section
open PySem PySem.W PyProof.Rows PySem.Calls
set_option maxRecDepth 100000
set_option maxHeartbeats 8000000
namespace Mine
structure Kx (C : Cx) : Prop where
  ok : C.Ok
  X : (hd.heap_39 C.w.params).In C.hb
  r0 : IsD C.Sb (.ref 49) (.tup [.int 0, .int 1])
  r1 : IsD C.Sb (.ref 50) (.tup [.int 1, .int 1])
theorem Kx.g {C : Cx} (k : Kx C) {x : Str} {v : Value} (e : nsIn (hd.heap_39 C.w.params) mainGlobals x = some (some v)) : C.mg x = some v := mg_of k.X k.ok.gd.g e
theorem Kx.g0 {C : Cx} (k : Kx C) {x : Str} (e : nsIn (hd.heap_39 C.w.params) mainGlobals x = some none) : C.mg x = none := mg_none_of k.X k.ok.gd.g e
noncomputable def sbK : Store := fun a => cond (Nat.beq a 49) (some (tupObj [.int 0 242, .int 1 243] 0)) (cond (Nat.beq a 50) (some (tupObj [.int 1 245, .int 1 246] 0)) none)
theorem sbK_cases {a : Addr} {o : Obj} (h : sbK a = some o) : (a = 49 ∧ o = tupObj [.int 0 242, .int 1 243] 0) ∨ (a = 50 ∧ o = tupObj [.int 1 245, .int 1 246] 0) := by
  unfold sbK at h
  cases q : Nat.beq a 49 with
  | true => rw [q] at h; cases h; exact .inl ⟨Nat.eq_of_beq_eq_true q, rfl⟩
  | false =>
    rw [q] at h
    cases r : Nat.beq a 50 with
    | true => rw [r] at h; cases h; exact .inr ⟨Nat.eq_of_beq_eq_true r, rfl⟩
    | false => rw [r] at h; cases h
theorem sbK_sub {P : Params} {h : Heap} (X : (hd.heap_39 P).In h) {a : Addr} {o : Obj} (e : sbK a = some o) : h.get? a = some o := by
  rcases sbK_cases e with ⟨rfl, rfl⟩ | ⟨rfl, rfl⟩
  · exact X _ _ rfl
  · exact X _ _ rfl
theorem sbK_none {a : Addr} {h : Heap} {P : Params} (X : (hd.heap_39 P).In h) (n : h.get? a = none) : sbK a = none := by
  cases q : sbK a with
  | none => rfl
  | some o => rw [sbK_sub X q] at n; cases n
theorem sbK_r0 : IsD sbK (.ref 49) (.tup [.int 0, .int 1]) := ⟨49, _, 0, rfl, rfl, ⟨_, _, rfl, ⟨242, rfl⟩, ⟨_, _, rfl, ⟨243, rfl⟩, rfl⟩⟩⟩
theorem sbK_r1 : IsD sbK (.ref 50) (.tup [.int 1, .int 1]) := ⟨50, _, 0, rfl, rfl, ⟨_, _, rfl, ⟨245, rfl⟩, ⟨_, _, rfl, ⟨246, rfl⟩, rfl⟩⟩⟩
end Mine
end
/-! part G1 -/
section
open PySem PySem.W PyProof.Rows PySem.Calls
set_option maxRecDepth 100000
set_option maxHeartbeats 8000000
namespace Mine
noncomputable def F_gcd : SF := (seqS (asg2S 0 1 (valV (callF (consA (nameF 0) nilA) absG)) (valV (callF (consA (nameF 1) nilA) absG))) (seqS (whileF (cmpB .NotEq (nameF 1) (intF 0)) (seqS (asg2S 0 1 (valV (nameF 1)) (valV (binF .Mod (nameF 0) (nameF 1)))) nilS) 60) (seqS (retS (nameF 0)) nilS)))
noncomputable def G_gcd : List D → Option D := runF ["a", "b"] 0 F_gcd
theorem sp_gcd {C : Cx} (k : Kx C) : Spec C 41 1 G_gcd :=
  Spec.of (n := 0) (ps := ["a", "b"]) (ns := ["a", "b"]) k.ok (k.X _ _ rfl) rfl (codeRec_of k.X rfl) rfl (bind2 fun _ _ => rfl) rfl (by decide) (fun _ => List.forall_mem_cons.mpr ⟨.inl rfl, List.forall_mem_cons.mpr ⟨.inl rfl, fun _ h => nomatch h⟩⟩) (hns_app ["a", "b"] []) rfl rfl rfl fun _ => (SOk.cons (XOk.asg2 0 1 rfl rfl rfl rfl rfl (by decide) (VOk.val (EOk.bcall k.ok (k.g0 rfl) PyProof.Rows.boot_abs (by decide) abs_ok (AOk.cons (EOk.name 0 rfl rfl rfl) AOk.nil rfl) rfl (fun _ => rfl) rfl rfl rfl rfl rfl)) (VOk.val (EOk.bcall k.ok (k.g0 rfl) PyProof.Rows.boot_abs (by decide) abs_ok (AOk.cons (EOk.name 1 rfl rfl rfl) AOk.nil rfl) rfl (fun _ => rfl) rfl rfl rfl rfl rfl)) rfl rfl rfl rfl) (SOk.cons (XOk.whil 60 (TOk.cmp (EOk.name 1 rfl rfl rfl) EOk.cint rfl) (SOk.cons (XOk.asg2 0 1 rfl rfl rfl rfl rfl (by decide) (VOk.val (EOk.name 1 rfl rfl rfl)) (VOk.val (EOk.bin (EOk.name 0 rfl rfl rfl) (EOk.name 1 rfl rfl rfl))) rfl rfl rfl rfl) SOk.nil)) (SOk.cons (XOk.ret (EOk.name 0 rfl rfl rfl)) SOk.nil)))
noncomputable def F_rat : SF := (seqS (iteS (cmpB .Eq (nameF 1) (intF 0)) (seqS neverS nilS) nilS) (seqS (asgS 2 (valV (iteF (cmpB .Gt (nameF 1) (intF 0)) (callF (consA (nameF 0) (consA (nameF 1) nilA)) G_gcd) (binF .Sub (intF 0) (callF (consA (nameF 0) (consA (nameF 1) nilA)) G_gcd))))) (seqS (retS (tupF (consA (binF .FloorDiv (nameF 0) (nameF 2)) (consA (binF .FloorDiv (nameF 1) (nameF 2)) nilA)))) nilS)))
noncomputable def G_rat : List D → Option D := runF ["top", "bottom"] 1 F_rat
theorem sp_rat {C : Cx} (k : Kx C) : Spec C 57 2 G_rat :=
  Spec.of (n := 1) (ps := ["top", "bottom"]) (ns := ["top", "bottom", "g"]) k.ok (k.X _ _ rfl) rfl (codeRec_of k.X rfl) rfl (bind2 fun _ _ => rfl) rfl (by decide) (fun _ => List.forall_mem_cons.mpr ⟨.inl rfl, List.forall_mem_cons.mpr ⟨.inl rfl, fun _ h => nomatch h⟩⟩) (hns_app ["top", "bottom"] ["g"]) rfl rfl rfl fun _ => (SOk.cons (XOk.ite (TOk.cmp (EOk.name 1 rfl rfl rfl) EOk.cint rfl) (SOk.cons XOk.never SOk.nil) SOk.nil) (SOk.cons (XOk.asg 2 rfl rfl rfl (by decide) (VOk.val (EOk.ite (TOk.cmp (EOk.name 1 rfl rfl rfl) EOk.cint rfl) (EOk.call k.ok (k.g rfl) (k.X _ _ rfl) rfl (sp_gcd k) (by decide) (AOk.cons (EOk.name 0 rfl rfl rfl) (AOk.cons (EOk.name 1 rfl rfl rfl) AOk.nil rfl) rfl) rfl rfl rfl rfl rfl) (EOk.bin EOk.cint (EOk.call k.ok (k.g rfl) (k.X _ _ rfl) rfl (sp_gcd k) (by decide) (AOk.cons (EOk.name 0 rfl rfl rfl) (AOk.cons (EOk.name 1 rfl rfl rfl) AOk.nil rfl) rfl) rfl rfl rfl rfl rfl)))) rfl) (SOk.cons (XOk.ret (EOk.tup (AOk.cons (EOk.bin (EOk.name 0 rfl rfl rfl) (EOk.name 2 rfl rfl rfl)) (AOk.cons (EOk.bin (EOk.name 1 rfl rfl rfl) (EOk.name 2 rfl rfl rfl)) AOk.nil rfl) rfl))) SOk.nil)))
noncomputable def F_radd : SF := (seqS (retS (callF (consA (binF .Add (binF .Mult (subOwnF 0 (intF 0)) (subOwnF 1 (intF 1))) (binF .Mult (subOwnF 1 (intF 0)) (subOwnF 0 (intF 1)))) (consA (binF .Mult (subOwnF 0 (intF 1)) (subOwnF 1 (intF 1))) nilA)) G_rat)) nilS)
noncomputable def G_radd : List D → Option D := runF ["a", "b"] 0 F_radd
theorem sp_radd {C : Cx} (k : Kx C) : Spec C 64 3 G_radd :=
  Spec.of (n := 2) (ps := ["a", "b"]) (ns := ["a", "b"]) k.ok (k.X _ _ rfl) rfl (codeRec_of k.X rfl) rfl (bind2 fun _ _ => rfl) rfl (by decide) (fun _ => List.forall_mem_cons.mpr ⟨.inl rfl, List.forall_mem_cons.mpr ⟨.inl rfl, fun _ h => nomatch h⟩⟩) (hns_app ["a", "b"] []) rfl rfl rfl fun _ => (SOk.cons (XOk.ret (EOk.call k.ok (k.g rfl) (k.X _ _ rfl) rfl (sp_rat k) (by decide) (AOk.cons (EOk.bin (EOk.bin (EOk.subName 0 rfl rfl rfl EOk.cint (fun _ _ => rfl)) (EOk.subName 1 rfl rfl rfl EOk.cint (fun _ _ => rfl))) (EOk.bin (EOk.subName 1 rfl rfl rfl EOk.cint (fun _ _ => rfl)) (EOk.subName 0 rfl rfl rfl EOk.cint (fun _ _ => rfl)))) (AOk.cons (EOk.bin (EOk.subName 0 rfl rfl rfl EOk.cint (fun _ _ => rfl)) (EOk.subName 1 rfl rfl rfl EOk.cint (fun _ _ => rfl))) AOk.nil rfl) rfl) rfl rfl rfl rfl rfl)) SOk.nil)
noncomputable def F_rsub : SF := (seqS (retS (callF (consA (binF .Sub (binF .Mult (subOwnF 0 (intF 0)) (subOwnF 1 (intF 1))) (binF .Mult (subOwnF 1 (intF 0)) (subOwnF 0 (intF 1)))) (consA (binF .Mult (subOwnF 0 (intF 1)) (subOwnF 1 (intF 1))) nilA)) G_rat)) nilS)
noncomputable def G_rsub : List D → Option D := runF ["a", "b"] 0 F_rsub
theorem sp_rsub {C : Cx} (k : Kx C) : Spec C 71 3 G_rsub :=
  Spec.of (n := 2) (ps := ["a", "b"]) (ns := ["a", "b"]) k.ok (k.X _ _ rfl) rfl (codeRec_of k.X rfl) rfl (bind2 fun _ _ => rfl) rfl (by decide) (fun _ => List.forall_mem_cons.mpr ⟨.inl rfl, List.forall_mem_cons.mpr ⟨.inl rfl, fun _ h => nomatch h⟩⟩) (hns_app ["a", "b"] []) rfl rfl rfl fun _ => (SOk.cons (XOk.ret (EOk.call k.ok (k.g rfl) (k.X _ _ rfl) rfl (sp_rat k) (by decide) (AOk.cons (EOk.bin (EOk.bin (EOk.subName 0 rfl rfl rfl EOk.cint (fun _ _ => rfl)) (EOk.subName 1 rfl rfl rfl EOk.cint (fun _ _ => rfl))) (EOk.bin (EOk.subName 1 rfl rfl rfl EOk.cint (fun _ _ => rfl)) (EOk.subName 0 rfl rfl rfl EOk.cint (fun _ _ => rfl)))) (AOk.cons (EOk.bin (EOk.subName 0 rfl rfl rfl EOk.cint (fun _ _ => rfl)) (EOk.subName 1 rfl rfl rfl EOk.cint (fun _ _ => rfl))) AOk.nil rfl) rfl) rfl rfl rfl rfl rfl)) SOk.nil)
noncomputable def F_rmul : SF := (seqS (retS (callF (consA (binF .Mult (subOwnF 0 (intF 0)) (subOwnF 1 (intF 0))) (consA (binF .Mult (subOwnF 0 (intF 1)) (subOwnF 1 (intF 1))) nilA)) G_rat)) nilS)
noncomputable def G_rmul : List D → Option D := runF ["a", "b"] 0 F_rmul
theorem sp_rmul {C : Cx} (k : Kx C) : Spec C 78 3 G_rmul :=
  Spec.of (n := 2) (ps := ["a", "b"]) (ns := ["a", "b"]) k.ok (k.X _ _ rfl) rfl (codeRec_of k.X rfl) rfl (bind2 fun _ _ => rfl) rfl (by decide) (fun _ => List.forall_mem_cons.mpr ⟨.inl rfl, List.forall_mem_cons.mpr ⟨.inl rfl, fun _ h => nomatch h⟩⟩) (hns_app ["a", "b"] []) rfl rfl rfl fun _ => (SOk.cons (XOk.ret (EOk.call k.ok (k.g rfl) (k.X _ _ rfl) rfl (sp_rat k) (by decide) (AOk.cons (EOk.bin (EOk.subName 0 rfl rfl rfl EOk.cint (fun _ _ => rfl)) (EOk.subName 1 rfl rfl rfl EOk.cint (fun _ _ => rfl))) (AOk.cons (EOk.bin (EOk.subName 0 rfl rfl rfl EOk.cint (fun _ _ => rfl)) (EOk.subName 1 rfl rfl rfl EOk.cint (fun _ _ => rfl))) AOk.nil rfl) rfl) rfl rfl rfl rfl rfl)) SOk.nil)
noncomputable def F_rdiv : SF := (seqS (retS (callF (consA (binF .Mult (subOwnF 0 (intF 0)) (subOwnF 1 (intF 1))) (consA (binF .Mult (subOwnF 0 (intF 1)) (subOwnF 1 (intF 0))) nilA)) G_rat)) nilS)
noncomputable def G_rdiv : List D → Option D := runF ["a", "b"] 0 F_rdiv
theorem sp_rdiv {C : Cx} (k : Kx C) : Spec C 85 3 G_rdiv :=
  Spec.of (n := 2) (ps := ["a", "b"]) (ns := ["a", "b"]) k.ok (k.X _ _ rfl) rfl (codeRec_of k.X rfl) rfl (bind2 fun _ _ => rfl) rfl (by decide) (fun _ => List.forall_mem_cons.mpr ⟨.inl rfl, List.forall_mem_cons.mpr ⟨.inl rfl, fun _ h => nomatch h⟩⟩) (hns_app ["a", "b"] []) rfl rfl rfl fun _ => (SOk.cons (XOk.ret (EOk.call k.ok (k.g rfl) (k.X _ _ rfl) rfl (sp_rat k) (by decide) (AOk.cons (EOk.bin (EOk.subName 0 rfl rfl rfl EOk.cint (fun _ _ => rfl)) (EOk.subName 1 rfl rfl rfl EOk.cint (fun _ _ => rfl))) (AOk.cons (EOk.bin (EOk.subName 0 rfl rfl rfl EOk.cint (fun _ _ => rfl)) (EOk.subName 1 rfl rfl rfl EOk.cint (fun _ _ => rfl))) AOk.nil rfl) rfl) rfl rfl rfl rfl rfl)) SOk.nil)
noncomputable def F_is_vast : SF := (seqS (asgS 1 (valV (callF (consA (callF (consA (subOwnF 0 (intF 0)) nilA) absG) (consA (subOwnF 0 (intF 1)) nilA)) maxG))) (seqS (retS (vandF (boolOf (cmpB .GtE (nameF 1) (binF .Pow (intF 2) (intF 64)))) neverF)) nilS))
noncomputable def G_is_vast : List D → Option D := runF ["a"] 1 F_is_vast
theorem sp_is_vast {C : Cx} (k : Kx C) : Spec C 92 1 G_is_vast :=
  Spec.of (n := 0) (ps := ["a"]) (ns := ["a", "greatest"]) k.ok (k.X _ _ rfl) rfl (codeRec_of k.X rfl) rfl (bind1 fun _ => rfl) rfl (by decide) (fun _ => List.forall_mem_cons.mpr ⟨.inl rfl, fun _ h => nomatch h⟩) (hns_app ["a"] ["greatest"]) rfl rfl rfl fun _ => (SOk.cons (XOk.asg 1 rfl rfl rfl (by decide) (VOk.val (EOk.bcall k.ok (k.g0 rfl) PyProof.Rows.boot_max (by decide) max_ok (AOk.cons (EOk.bcall k.ok (k.g0 rfl) PyProof.Rows.boot_abs (by decide) abs_ok (AOk.cons (EOk.subName 0 rfl rfl rfl EOk.cint (fun _ _ => rfl)) AOk.nil rfl) rfl (fun _ => rfl) rfl rfl rfl rfl rfl) (AOk.cons (EOk.subName 0 rfl rfl rfl EOk.cint (fun _ _ => rfl)) AOk.nil rfl) rfl) rfl (fun _ => rfl) rfl rfl rfl rfl rfl)) rfl) (SOk.cons (XOk.ret (EOk.and2 (EOk.cmp (EOk.name 1 rfl rfl rfl) (EOk.bin EOk.cint EOk.cint) rfl) EOk.never)) SOk.nil))
noncomputable def F_rcompare : SF := (seqS (asgS 2 (valV (binF .Sub (binF .Mult (subOwnF 0 (intF 0)) (subOwnF 1 (intF 1))) (binF .Mult (subOwnF 1 (intF 0)) (subOwnF 0 (intF 1)))))) (seqS (retS (binF .Sub (boolOf (cmpB .Gt (nameF 2) (intF 0))) (boolOf (cmpB .Lt (nameF 2) (intF 0))))) nilS))
noncomputable def G_rcompare : List D → Option D := runF ["a", "b"] 1 F_rcompare
theorem sp_rcompare {C : Cx} (k : Kx C) : Spec C 99 1 G_rcompare :=
  Spec.of (n := 0) (ps := ["a", "b"]) (ns := ["a", "b", "off"]) k.ok (k.X _ _ rfl) rfl (codeRec_of k.X rfl) rfl (bind2 fun _ _ => rfl) rfl (by decide) (fun _ => List.forall_mem_cons.mpr ⟨.inl rfl, List.forall_mem_cons.mpr ⟨.inl rfl, fun _ h => nomatch h⟩⟩) (hns_app ["a", "b"] ["off"]) rfl rfl rfl fun _ => (SOk.cons (XOk.asg 2 rfl rfl rfl (by decide) (VOk.val (EOk.bin (EOk.bin (EOk.subName 0 rfl rfl rfl EOk.cint (fun _ _ => rfl)) (EOk.subName 1 rfl rfl rfl EOk.cint (fun _ _ => rfl))) (EOk.bin (EOk.subName 1 rfl rfl rfl EOk.cint (fun _ _ => rfl)) (EOk.subName 0 rfl rfl rfl EOk.cint (fun _ _ => rfl))))) rfl) (SOk.cons (XOk.ret (EOk.bin (EOk.cmp (EOk.name 2 rfl rfl rfl) EOk.cint rfl) (EOk.cmp (EOk.name 2 rfl rfl rfl) EOk.cint rfl))) SOk.nil))
noncomputable def F_cut : SF := (seqS (retS (binF .Add (callF (consA (uptoF (nameF 0) (nameF 1)) nilA) listG) (binF .Mult (lstF (consA (gvalF (.tup [.int 0, .int 1])) nilA)) (binF .Sub (nameF 1) (callF (consA (nameF 0) nilA) lenG))))) nilS)
noncomputable def G_cut : List D → Option D := runF ["a", "order"] 0 F_cut
theorem sp_cut {C : Cx} (k : Kx C) : Spec C 106 1 G_cut :=
  Spec.of (n := 0) (ps := ["a", "order"]) (ns := ["a", "order"]) k.ok (k.X _ _ rfl) rfl (codeRec_of k.X rfl) rfl (bind2 fun _ _ => rfl) rfl (by decide) (fun _ => List.forall_mem_cons.mpr ⟨.inl rfl, List.forall_mem_cons.mpr ⟨.inl rfl, fun _ h => nomatch h⟩⟩) (hns_app ["a", "order"] []) rfl rfl rfl fun _ => (SOk.cons (XOk.ret (EOk.bin (EOk.tcall k.ok (k.g0 rfl) Pv.boot_list (by decide) list_ok (AOk.cons (EOk.upto (EOk.name 0 rfl rfl rfl) (EOk.name 1 rfl rfl rfl)) AOk.nil rfl) rfl (fun _ => rfl) rfl rfl rfl rfl rfl) (EOk.bin (EOk.lst (AOk.cons (EOk.gval k.ok (k.g rfl) k.r0 rfl rfl rfl rfl) AOk.nil rfl)) (EOk.bin (EOk.name 1 rfl rfl rfl) (EOk.bcall k.ok (k.g0 rfl) boot_len (by decide) len_ok (AOk.cons (EOk.name 0 rfl rfl rfl) AOk.nil rfl) rfl (fun _ => rfl) rfl rfl rfl rfl rfl))))) SOk.nil)
noncomputable def F_let : SF := (seqS (iteS (truF (callF (consA (nameF 0) nilA) G_is_vast)) (seqS neverS nilS) nilS) (seqS (retS (nameF 0)) nilS))
noncomputable def G_let : List D → Option D := runF ["number"] 0 F_let
theorem sp_let {C : Cx} (k : Kx C) : Spec C 113 2 G_let :=
  Spec.of (n := 1) (ps := ["number"]) (ns := ["number"]) k.ok (k.X _ _ rfl) rfl (codeRec_of k.X rfl) rfl (bind1 fun _ => rfl) rfl (by decide) (fun _ => List.forall_mem_cons.mpr ⟨.inl rfl, fun _ h => nomatch h⟩) (hns_app ["number"] []) rfl rfl rfl fun _ => (SOk.cons (XOk.ite (TOk.value (EOk.call k.ok (k.g rfl) (k.X _ _ rfl) rfl (sp_is_vast k) (by decide) (AOk.cons (EOk.name 0 rfl rfl rfl) AOk.nil rfl) rfl rfl rfl rfl rfl) rfl) (SOk.cons XOk.never SOk.nil) SOk.nil) (SOk.cons (XOk.ret (EOk.name 0 rfl rfl rfl)) SOk.nil))
noncomputable def F_sadd : SF := (seqS (retS (compF (.one 0) 1 [0, 1] (rangeI (consA (callF (consA (callF (consA (nameF 0) nilA) lenG) (consA (callF (consA (nameF 1) nilA) lenG) nilA)) minG) nilA)) (callF (consA (subOwnF 1 (nameF 0)) (consA (subOwnF 2 (nameF 0)) nilA)) G_radd))) nilS)
noncomputable def G_sadd : List D → Option D := runF ["a", "b"] 0 F_sadd
theorem sp_sadd {C : Cx} (k : Kx C) : Spec C 118 4 G_sadd :=
  Spec.of (n := 3) (ps := ["a", "b"]) (ns := ["a", "b"]) k.ok (k.X _ _ rfl) rfl (codeRec_of k.X rfl) rfl (bind2 fun _ _ => rfl) rfl (by decide) (fun _ => List.forall_mem_cons.mpr ⟨.inr ⟨rfl, rfl⟩, List.forall_mem_cons.mpr ⟨.inr ⟨rfl, rfl⟩, fun _ h => nomatch h⟩⟩) (hns_app ["a", "b"] []) rfl rfl rfl fun _ => (SOk.cons (XOk.ret (EOk.comp (bs := ["at"]) (cns := ["a", "b"]) (HOk.of 0 (IOk.range k.ok (k.g0 rfl) PyProof.Rows.boot_range (by decide) (AOk.cons (EOk.bcall k.ok (k.g0 rfl) PyProof.Rows.boot_min (by decide) min_ok (AOk.cons (EOk.bcall k.ok (k.g0 rfl) boot_len (by decide) len_ok (AOk.cons (EOk.name 0 rfl rfl rfl) AOk.nil rfl) rfl (fun _ => rfl) rfl rfl rfl rfl rfl) (AOk.cons (EOk.bcall k.ok (k.g0 rfl) boot_len (by decide) len_ok (AOk.cons (EOk.name 1 rfl rfl rfl) AOk.nil rfl) rfl (fun _ => rfl) rfl rfl rfl rfl rfl) AOk.nil rfl) rfl) rfl (fun _ => rfl) rfl rfl rfl rfl rfl) AOk.nil rfl) rfl (fun _ => rfl) rfl rfl rfl rfl rfl)) (fun _ => (EOk.call k.ok (k.g rfl) (k.X _ _ rfl) rfl (sp_radd k) (by decide) (AOk.cons (EOk.subName 1 rfl rfl rfl (EOk.name 0 rfl rfl rfl) (fun _ _ => rfl)) (AOk.cons (EOk.subName 2 rfl rfl rfl (EOk.name 0 rfl rfl rfl) (fun _ _ => rfl)) AOk.nil rfl) rfl) rfl rfl rfl rfl rfl)) (fun _ => ⟨_, _, rfl, rfl, rfl, rfl, by decide⟩) rfl (by decide) rfl (by decide) (fun _ => rfl) (Hc.cons rfl rfl rfl (fun _ => rfl) (Hc.cons rfl rfl rfl (fun _ => rfl) Hc.nil)))) SOk.nil)
noncomputable def F_sscale : SF := (seqS (retS (compF (.one 0) 1 [0] (seqI (nameF 1)) (callF (consA (nameF 1) (consA (nameF 0) nilA)) G_rmul))) nilS)
noncomputable def G_sscale : List D → Option D := runF ["number", "a"] 0 F_sscale
theorem sp_sscale {C : Cx} (k : Kx C) : Spec C 123 4 G_sscale :=
  Spec.of (n := 3) (ps := ["number", "a"]) (ns := ["number", "a"]) k.ok (k.X _ _ rfl) rfl (codeRec_of k.X rfl) rfl (bind2 fun _ _ => rfl) rfl (by decide) (fun _ => List.forall_mem_cons.mpr ⟨.inr ⟨rfl, rfl⟩, List.forall_mem_cons.mpr ⟨.inl rfl, fun _ h => nomatch h⟩⟩) (hns_app ["number", "a"] []) rfl rfl rfl fun _ => (SOk.cons (XOk.ret (EOk.comp (bs := ["one"]) (cns := ["number"]) (HOk.of 0 (IOk.seq (EOk.name 1 rfl rfl rfl))) (fun _ => (EOk.call k.ok (k.g rfl) (k.X _ _ rfl) rfl (sp_rmul k) (by decide) (AOk.cons (EOk.name 1 rfl rfl rfl) (AOk.cons (EOk.name 0 rfl rfl rfl) AOk.nil rfl) rfl) rfl rfl rfl rfl rfl)) (fun _ => ⟨_, _, rfl, rfl, rfl, rfl, by decide⟩) rfl (by decide) rfl (by decide) (fun _ => rfl) (Hc.cons rfl rfl rfl (fun _ => rfl) Hc.nil))) SOk.nil)
noncomputable def F_mixed : SF := (seqS (asgS 3 (valV (gvalF (.tup [.int 0, .int 1])))) (seqS (forHS (.one 4) (rangeI (consA (binF .Add (nameF 2) (intF 1)) nilA)) (seqS (iteS (andF (cmpB .NotEq (subOwnF 0 (nameF 4)) (gvalF (.tup [.int 0, .int 1]))) (cmpB .NotEq (subOwnF 1 (binF .Sub (nameF 2) (nameF 4))) (gvalF (.tup [.int 0, .int 1])))) (seqS (asgS 3 (valV (callF (consA (nameF 3) (consA (callF (consA (subOwnF 0 (nameF 4)) (consA (subOwnF 1 (binF .Sub (nameF 2) (nameF 4))) nilA)) G_rmul) nilA)) G_radd))) nilS) nilS) nilS)) (seqS (retS (nameF 3)) nilS)))
noncomputable def G_mixed : List D → Option D := runF ["a", "b", "at"] 2 F_mixed
theorem sp_mixed {C : Cx} (k : Kx C) : Spec C 130 4 G_mixed :=
  Spec.of (n := 3) (ps := ["a", "b", "at"]) (ns := ["a", "b", "at", "found", "spot"]) k.ok (k.X _ _ rfl) rfl (codeRec_of k.X rfl) rfl (bind3 fun _ _ _ => rfl) rfl (by decide) (fun _ => List.forall_mem_cons.mpr ⟨.inl rfl, List.forall_mem_cons.mpr ⟨.inl rfl, List.forall_mem_cons.mpr ⟨.inl rfl, fun _ h => nomatch h⟩⟩⟩) (hns_app ["a", "b", "at"] ["found", "spot"]) rfl rfl rfl fun _ => (SOk.cons (XOk.asg 3 rfl rfl rfl (by decide) (VOk.val (EOk.gval k.ok (k.g rfl) k.r0 rfl rfl rfl rfl)) rfl) (SOk.cons (XOk.forh ⟨_, _, rfl, rfl, rfl, rfl, by decide⟩ (HOk.of 4 (IOk.range k.ok (k.g0 rfl) PyProof.Rows.boot_range (by decide) (AOk.cons (EOk.bin (EOk.name 2 rfl rfl rfl) EOk.cint) AOk.nil rfl) rfl (fun _ => rfl) rfl rfl rfl rfl rfl)) (SOk.cons (XOk.ite (TOk.and2 (TOk.cmp (EOk.subName 0 rfl rfl rfl (EOk.name 4 rfl rfl rfl) (fun _ _ => rfl)) (EOk.gval k.ok (k.g rfl) k.r0 rfl rfl rfl rfl) rfl) (TOk.cmp (EOk.subName 1 rfl rfl rfl (EOk.bin (EOk.name 2 rfl rfl rfl) (EOk.name 4 rfl rfl rfl)) (fun _ _ => rfl)) (EOk.gval k.ok (k.g rfl) k.r0 rfl rfl rfl rfl) rfl)) (SOk.cons (XOk.asg 3 rfl rfl rfl (by decide) (VOk.val (EOk.call k.ok (k.g rfl) (k.X _ _ rfl) rfl (sp_radd k) (by decide) (AOk.cons (EOk.name 3 rfl rfl rfl) (AOk.cons (EOk.call k.ok (k.g rfl) (k.X _ _ rfl) rfl (sp_rmul k) (by decide) (AOk.cons (EOk.subName 0 rfl rfl rfl (EOk.name 4 rfl rfl rfl) (fun _ _ => rfl)) (AOk.cons (EOk.subName 1 rfl rfl rfl (EOk.bin (EOk.name 2 rfl rfl rfl) (EOk.name 4 rfl rfl rfl)) (fun _ _ => rfl)) AOk.nil rfl) rfl) rfl rfl rfl rfl rfl) AOk.nil rfl) rfl) rfl rfl rfl rfl rfl)) rfl) SOk.nil) SOk.nil) SOk.nil) (fun _ => rfl)) (SOk.cons (XOk.ret (EOk.name 3 rfl rfl rfl)) SOk.nil)))
noncomputable def F_smul : SF := (seqS (retS (compF (.one 0) 1 [0, 1] (rangeI (consA (callF (consA (callF (consA (nameF 0) nilA) lenG) (consA (callF (consA (nameF 1) nilA) lenG) nilA)) minG) nilA)) (callF (consA (callF (consA (nameF 1) (consA (nameF 2) (consA (nameF 0) nilA))) G_mixed) nilA) G_let))) nilS)
noncomputable def G_smul : List D → Option D := runF ["a", "b"] 0 F_smul
theorem sp_smul {C : Cx} (k : Kx C) : Spec C 135 5 G_smul :=
  Spec.of (n := 4) (ps := ["a", "b"]) (ns := ["a", "b"]) k.ok (k.X _ _ rfl) rfl (codeRec_of k.X rfl) rfl (bind2 fun _ _ => rfl) rfl (by decide) (fun _ => List.forall_mem_cons.mpr ⟨.inr ⟨rfl, rfl⟩, List.forall_mem_cons.mpr ⟨.inr ⟨rfl, rfl⟩, fun _ h => nomatch h⟩⟩) (hns_app ["a", "b"] []) rfl rfl rfl fun _ => (SOk.cons (XOk.ret (EOk.comp (bs := ["at"]) (cns := ["a", "b"]) (HOk.of 0 (IOk.range k.ok (k.g0 rfl) PyProof.Rows.boot_range (by decide) (AOk.cons (EOk.bcall k.ok (k.g0 rfl) PyProof.Rows.boot_min (by decide) min_ok (AOk.cons (EOk.bcall k.ok (k.g0 rfl) boot_len (by decide) len_ok (AOk.cons (EOk.name 0 rfl rfl rfl) AOk.nil rfl) rfl (fun _ => rfl) rfl rfl rfl rfl rfl) (AOk.cons (EOk.bcall k.ok (k.g0 rfl) boot_len (by decide) len_ok (AOk.cons (EOk.name 1 rfl rfl rfl) AOk.nil rfl) rfl (fun _ => rfl) rfl rfl rfl rfl rfl) AOk.nil rfl) rfl) rfl (fun _ => rfl) rfl rfl rfl rfl rfl) AOk.nil rfl) rfl (fun _ => rfl) rfl rfl rfl rfl rfl)) (fun _ => (EOk.call k.ok (k.g rfl) (k.X _ _ rfl) rfl (sp_let k) (by decide) (AOk.cons (EOk.call k.ok (k.g rfl) (k.X _ _ rfl) rfl (sp_mixed k) (by decide) (AOk.cons (EOk.name 1 rfl rfl rfl) (AOk.cons (EOk.name 2 rfl rfl rfl) (AOk.cons (EOk.name 0 rfl rfl rfl) AOk.nil rfl) rfl) rfl) rfl rfl rfl rfl rfl) AOk.nil rfl) rfl rfl rfl rfl rfl)) (fun _ => ⟨_, _, rfl, rfl, rfl, rfl, by decide⟩) rfl (by decide) rfl (by decide) (fun _ => rfl) (Hc.cons rfl rfl rfl (fun _ => rfl) (Hc.cons rfl rfl rfl (fun _ => rfl) Hc.nil)))) SOk.nil)
noncomputable def F_sinverse : SF := (seqS (iteS (andF (cmpB .Gt (callF (consA (nameF 0) nilA) lenG) (intF 0)) (cmpB .Eq (subOwnF 0 (intF 0)) (gvalF (.tup [.int 0, .int 1])))) (seqS neverS nilS) nilS) (seqS (asgS 1 (ownV nilA)) (seqS (forHS (.one 2) (rangeI (consA (callF (consA (nameF 0) nilA) lenG) nilA)) (seqS (asgS 3 (valV (iteF (cmpB .Eq (nameF 2) (intF 0)) (gvalF (.tup [.int 1, .int 1])) (gvalF (.tup [.int 0, .int 1]))))) (seqS (forHS (.one 4) (rangeI (consA (intF 1) (consA (binF .Add (nameF 2) (intF 1)) nilA))) (seqS (asgS 3 (valV (callF (consA (nameF 3) (consA (callF (consA (subOwnF 0 (nameF 4)) (consA (subOwnF 1 (binF .Sub (nameF 2) (nameF 4))) nilA)) G_rmul) nilA)) G_rsub))) nilS)) (seqS (appS 1 (callF (consA (callF (consA (nameF 3) (consA (subOwnF 0 (intF 0)) nilA)) G_rdiv) nilA) G_let)) nilS)))) (seqS (retS (nameF 1)) nilS))))
noncomputable def G_sinverse : List D → Option D := runF ["a"] 4 F_sinverse
theorem sp_sinverse {C : Cx} (k : Kx C) : Spec C 142 4 G_sinverse :=
  Spec.of (n := 3) (ps := ["a"]) (ns := ["a", "found", "at", "total", "spot"]) k.ok (k.X _ _ rfl) rfl (codeRec_of k.X rfl) rfl (bind1 fun _ => rfl) rfl (by decide) (fun _ => List.forall_mem_cons.mpr ⟨.inl rfl, fun _ h => nomatch h⟩) (hns_app ["a"] ["found", "at", "total", "spot"]) rfl rfl rfl fun _ => (SOk.cons (XOk.ite (TOk.and2 (TOk.cmp (EOk.bcall k.ok (k.g0 rfl) boot_len (by decide) len_ok (AOk.cons (EOk.name 0 rfl rfl rfl) AOk.nil rfl) rfl (fun _ => rfl) rfl rfl rfl rfl rfl) EOk.cint rfl) (TOk.cmp (EOk.subName 0 rfl rfl rfl EOk.cint (fun _ _ => rfl)) (EOk.gval k.ok (k.g rfl) k.r0 rfl rfl rfl rfl) rfl)) (SOk.cons XOk.never SOk.nil) SOk.nil) (SOk.cons (XOk.asg 1 rfl rfl rfl (by decide) (VOk.lst AOk.nil) rfl) (SOk.cons (XOk.forh ⟨_, _, rfl, rfl, rfl, rfl, by decide⟩ (HOk.of 2 (IOk.range k.ok (k.g0 rfl) PyProof.Rows.boot_range (by decide) (AOk.cons (EOk.bcall k.ok (k.g0 rfl) boot_len (by decide) len_ok (AOk.cons (EOk.name 0 rfl rfl rfl) AOk.nil rfl) rfl (fun _ => rfl) rfl rfl rfl rfl rfl) AOk.nil rfl) rfl (fun _ => rfl) rfl rfl rfl rfl rfl)) (SOk.cons (XOk.asg 3 rfl rfl rfl (by decide) (VOk.val (EOk.ite (TOk.cmp (EOk.name 2 rfl rfl rfl) EOk.cint rfl) (EOk.gval k.ok (k.g rfl) k.r1 rfl rfl rfl rfl) (EOk.gval k.ok (k.g rfl) k.r0 rfl rfl rfl rfl))) rfl) (SOk.cons (XOk.forh ⟨_, _, rfl, rfl, rfl, rfl, by decide⟩ (HOk.of 4 (IOk.range k.ok (k.g0 rfl) PyProof.Rows.boot_range (by decide) (AOk.cons EOk.cint (AOk.cons (EOk.bin (EOk.name 2 rfl rfl rfl) EOk.cint) AOk.nil rfl) rfl) rfl (fun _ => rfl) rfl rfl rfl rfl rfl)) (SOk.cons (XOk.asg 3 rfl rfl rfl (by decide) (VOk.val (EOk.call k.ok (k.g rfl) (k.X _ _ rfl) rfl (sp_rsub k) (by decide) (AOk.cons (EOk.name 3 rfl rfl rfl) (AOk.cons (EOk.call k.ok (k.g rfl) (k.X _ _ rfl) rfl (sp_rmul k) (by decide) (AOk.cons (EOk.subName 0 rfl rfl rfl (EOk.name 4 rfl rfl rfl) (fun _ _ => rfl)) (AOk.cons (EOk.subName 1 rfl rfl rfl (EOk.bin (EOk.name 2 rfl rfl rfl) (EOk.name 4 rfl rfl rfl)) (fun _ _ => rfl)) AOk.nil rfl) rfl) rfl rfl rfl rfl rfl) AOk.nil rfl) rfl) rfl rfl rfl rfl rfl)) rfl) SOk.nil) (fun _ => rfl)) (SOk.cons (XOk.app 1 rfl rfl rfl (EOk.call k.ok (k.g rfl) (k.X _ _ rfl) rfl (sp_let k) (by decide) (AOk.cons (EOk.call k.ok (k.g rfl) (k.X _ _ rfl) rfl (sp_rdiv k) (by decide) (AOk.cons (EOk.name 3 rfl rfl rfl) (AOk.cons (EOk.subName 0 rfl rfl rfl EOk.cint (fun _ _ => rfl)) AOk.nil rfl) rfl) rfl rfl rfl rfl rfl) AOk.nil rfl) rfl rfl rfl rfl rfl) rfl rfl rfl rfl) SOk.nil))) (fun _ => rfl)) (SOk.cons (XOk.ret (EOk.name 1 rfl rfl rfl)) SOk.nil))))
noncomputable def F_sderive : SF := (seqS (retS (compF (.one 0) 1 [0] (rangeI (consA (intF 1) (consA (callF (consA (nameF 0) nilA) lenG) nilA))) (callF (consA (tupF (consA (nameF 0) (consA (intF 1) nilA))) (consA (subOwnF 1 (nameF 0)) nilA)) G_rmul))) nilS)
noncomputable def G_sderive : List D → Option D := runF ["a"] 0 F_sderive
theorem sp_sderive {C : Cx} (k : Kx C) : Spec C 147 4 G_sderive :=
  Spec.of (n := 3) (ps := ["a"]) (ns := ["a"]) k.ok (k.X _ _ rfl) rfl (codeRec_of k.X rfl) rfl (bind1 fun _ => rfl) rfl (by decide) (fun _ => List.forall_mem_cons.mpr ⟨.inr ⟨rfl, rfl⟩, fun _ h => nomatch h⟩) (hns_app ["a"] []) rfl rfl rfl fun _ => (SOk.cons (XOk.ret (EOk.comp (bs := ["at"]) (cns := ["a"]) (HOk.of 0 (IOk.range k.ok (k.g0 rfl) PyProof.Rows.boot_range (by decide) (AOk.cons EOk.cint (AOk.cons (EOk.bcall k.ok (k.g0 rfl) boot_len (by decide) len_ok (AOk.cons (EOk.name 0 rfl rfl rfl) AOk.nil rfl) rfl (fun _ => rfl) rfl rfl rfl rfl rfl) AOk.nil rfl) rfl) rfl (fun _ => rfl) rfl rfl rfl rfl rfl)) (fun _ => (EOk.call k.ok (k.g rfl) (k.X _ _ rfl) rfl (sp_rmul k) (by decide) (AOk.cons (EOk.tup (AOk.cons (EOk.name 0 rfl rfl rfl) (AOk.cons EOk.cint AOk.nil rfl) rfl)) (AOk.cons (EOk.subName 1 rfl rfl rfl (EOk.name 0 rfl rfl rfl) (fun _ _ => rfl)) AOk.nil rfl) rfl) rfl rfl rfl rfl rfl)) (fun _ => ⟨_, _, rfl, rfl, rfl, rfl, by decide⟩) rfl (by decide) rfl (by decide) (fun _ => rfl) (Hc.cons rfl rfl rfl (fun _ => rfl) Hc.nil))) SOk.nil)
noncomputable def F_sintegrate : SF := (seqS (retS (binF .Add (lstF (consA (gvalF (.tup [.int 0, .int 1])) nilA)) (compF (.one 0) 1 [0] (rangeI (consA (callF (consA (nameF 0) nilA) lenG) nilA)) (callF (consA (subOwnF 1 (nameF 0)) (consA (tupF (consA (binF .Add (nameF 0) (intF 1)) (consA (intF 1) nilA))) nilA)) G_rdiv)))) nilS)
noncomputable def G_sintegrate : List D → Option D := runF ["a"] 0 F_sintegrate
theorem sp_sintegrate {C : Cx} (k : Kx C) : Spec C 152 4 G_sintegrate :=
  Spec.of (n := 3) (ps := ["a"]) (ns := ["a"]) k.ok (k.X _ _ rfl) rfl (codeRec_of k.X rfl) rfl (bind1 fun _ => rfl) rfl (by decide) (fun _ => List.forall_mem_cons.mpr ⟨.inr ⟨rfl, rfl⟩, fun _ h => nomatch h⟩) (hns_app ["a"] []) rfl rfl rfl fun _ => (SOk.cons (XOk.ret (EOk.bin (EOk.lst (AOk.cons (EOk.gval k.ok (k.g rfl) k.r0 rfl rfl rfl rfl) AOk.nil rfl)) (EOk.comp (bs := ["at"]) (cns := ["a"]) (HOk.of 0 (IOk.range k.ok (k.g0 rfl) PyProof.Rows.boot_range (by decide) (AOk.cons (EOk.bcall k.ok (k.g0 rfl) boot_len (by decide) len_ok (AOk.cons (EOk.name 0 rfl rfl rfl) AOk.nil rfl) rfl (fun _ => rfl) rfl rfl rfl rfl rfl) AOk.nil rfl) rfl (fun _ => rfl) rfl rfl rfl rfl rfl)) (fun _ => (EOk.call k.ok (k.g rfl) (k.X _ _ rfl) rfl (sp_rdiv k) (by decide) (AOk.cons (EOk.subName 1 rfl rfl rfl (EOk.name 0 rfl rfl rfl) (fun _ _ => rfl)) (AOk.cons (EOk.tup (AOk.cons (EOk.bin (EOk.name 0 rfl rfl rfl) EOk.cint) (AOk.cons EOk.cint AOk.nil rfl) rfl)) AOk.nil rfl) rfl) rfl rfl rfl rfl rfl)) (fun _ => ⟨_, _, rfl, rfl, rfl, rfl, by decide⟩) rfl (by decide) rfl (by decide) (fun _ => rfl) (Hc.cons rfl rfl rfl (fun _ => rfl) Hc.nil)))) SOk.nil)
noncomputable def F_need_begin : SF := (seqS (iteS (andF (cmpB .Gt (callF (consA (nameF 0) nilA) lenG) (intF 0)) (cmpB .NotEq (callF (consA (subOwnF 0 (intF 0)) (consA (nameF 1) nilA)) G_rcompare) (intF 0))) (seqS neverS nilS) nilS) nilS)
noncomputable def G_need_begin : List D → Option D := runF ["a", "number"] 0 F_need_begin
theorem sp_need_begin {C : Cx} (k : Kx C) : Spec C 159 2 G_need_begin :=
  Spec.of (n := 1) (ps := ["a", "number"]) (ns := ["a", "number"]) k.ok (k.X _ _ rfl) rfl (codeRec_of k.X rfl) rfl (bind2 fun _ _ => rfl) rfl (by decide) (fun _ => List.forall_mem_cons.mpr ⟨.inl rfl, List.forall_mem_cons.mpr ⟨.inl rfl, fun _ h => nomatch h⟩⟩) (hns_app ["a", "number"] []) rfl rfl rfl fun _ => (SOk.cons (XOk.ite (TOk.and2 (TOk.cmp (EOk.bcall k.ok (k.g0 rfl) boot_len (by decide) len_ok (AOk.cons (EOk.name 0 rfl rfl rfl) AOk.nil rfl) rfl (fun _ => rfl) rfl rfl rfl rfl rfl) EOk.cint rfl) (TOk.cmp (EOk.call k.ok (k.g rfl) (k.X _ _ rfl) rfl (sp_rcompare k) (by decide) (AOk.cons (EOk.subName 0 rfl rfl rfl EOk.cint (fun _ _ => rfl)) (AOk.cons (EOk.name 1 rfl rfl rfl) AOk.nil rfl) rfl) rfl rfl rfl rfl rfl) EOk.cint rfl)) (SOk.cons XOk.never SOk.nil) SOk.nil) SOk.nil)
noncomputable def F_sexp : SF := (seqS (exprS (callF (consA (nameF 0) (consA (gvalF (.tup [.int 0, .int 1])) nilA)) G_need_begin)) (seqS (asgS 1 (ownV nilA)) (seqS (forHS (.one 2) (rangeI (consA (callF (consA (nameF 0) nilA) lenG) nilA)) (seqS (asgS 3 (valV (gvalF (.tup [.int 0, .int 1])))) (seqS (forHS (.one 4) (rangeI (consA (intF 1) (consA (binF .Add (nameF 2) (intF 1)) nilA))) (seqS (asgS 3 (valV (callF (consA (nameF 3) (consA (callF (consA (callF (consA (tupF (consA (nameF 4) (consA (intF 1) nilA))) (consA (subOwnF 0 (nameF 4)) nilA)) G_rmul) (consA (subOwnF 1 (binF .Sub (nameF 2) (nameF 4))) nilA)) G_rmul) nilA)) G_radd))) nilS)) (seqS (appS 1 (iteF (cmpB .Eq (nameF 2) (intF 0)) (gvalF (.tup [.int 1, .int 1])) (callF (consA (callF (consA (nameF 3) (consA (tupF (consA (nameF 2) (consA (intF 1) nilA))) nilA)) G_rdiv) nilA) G_let))) nilS)))) (seqS (retS (nameF 1)) nilS))))
noncomputable def G_sexp : List D → Option D := runF ["a"] 4 F_sexp
theorem sp_sexp {C : Cx} (k : Kx C) : Spec C 166 4 G_sexp :=
  Spec.of (n := 3) (ps := ["a"]) (ns := ["a", "found", "at", "total", "spot"]) k.ok (k.X _ _ rfl) rfl (codeRec_of k.X rfl) rfl (bind1 fun _ => rfl) rfl (by decide) (fun _ => List.forall_mem_cons.mpr ⟨.inl rfl, fun _ h => nomatch h⟩) (hns_app ["a"] ["found", "at", "total", "spot"]) rfl rfl rfl fun _ => (SOk.cons (XOk.expr (EOk.call k.ok (k.g rfl) (k.X _ _ rfl) rfl (sp_need_begin k) (by decide) (AOk.cons (EOk.name 0 rfl rfl rfl) (AOk.cons (EOk.gval k.ok (k.g rfl) k.r0 rfl rfl rfl rfl) AOk.nil rfl) rfl) rfl rfl rfl rfl rfl) rfl rfl) (SOk.cons (XOk.asg 1 rfl rfl rfl (by decide) (VOk.lst AOk.nil) rfl) (SOk.cons (XOk.forh ⟨_, _, rfl, rfl, rfl, rfl, by decide⟩ (HOk.of 2 (IOk.range k.ok (k.g0 rfl) PyProof.Rows.boot_range (by decide) (AOk.cons (EOk.bcall k.ok (k.g0 rfl) boot_len (by decide) len_ok (AOk.cons (EOk.name 0 rfl rfl rfl) AOk.nil rfl) rfl (fun _ => rfl) rfl rfl rfl rfl rfl) AOk.nil rfl) rfl (fun _ => rfl) rfl rfl rfl rfl rfl)) (SOk.cons (XOk.asg 3 rfl rfl rfl (by decide) (VOk.val (EOk.gval k.ok (k.g rfl) k.r0 rfl rfl rfl rfl)) rfl) (SOk.cons (XOk.forh ⟨_, _, rfl, rfl, rfl, rfl, by decide⟩ (HOk.of 4 (IOk.range k.ok (k.g0 rfl) PyProof.Rows.boot_range (by decide) (AOk.cons EOk.cint (AOk.cons (EOk.bin (EOk.name 2 rfl rfl rfl) EOk.cint) AOk.nil rfl) rfl) rfl (fun _ => rfl) rfl rfl rfl rfl rfl)) (SOk.cons (XOk.asg 3 rfl rfl rfl (by decide) (VOk.val (EOk.call k.ok (k.g rfl) (k.X _ _ rfl) rfl (sp_radd k) (by decide) (AOk.cons (EOk.name 3 rfl rfl rfl) (AOk.cons (EOk.call k.ok (k.g rfl) (k.X _ _ rfl) rfl (sp_rmul k) (by decide) (AOk.cons (EOk.call k.ok (k.g rfl) (k.X _ _ rfl) rfl (sp_rmul k) (by decide) (AOk.cons (EOk.tup (AOk.cons (EOk.name 4 rfl rfl rfl) (AOk.cons EOk.cint AOk.nil rfl) rfl)) (AOk.cons (EOk.subName 0 rfl rfl rfl (EOk.name 4 rfl rfl rfl) (fun _ _ => rfl)) AOk.nil rfl) rfl) rfl rfl rfl rfl rfl) (AOk.cons (EOk.subName 1 rfl rfl rfl (EOk.bin (EOk.name 2 rfl rfl rfl) (EOk.name 4 rfl rfl rfl)) (fun _ _ => rfl)) AOk.nil rfl) rfl) rfl rfl rfl rfl rfl) AOk.nil rfl) rfl) rfl rfl rfl rfl rfl)) rfl) SOk.nil) (fun _ => rfl)) (SOk.cons (XOk.app 1 rfl rfl rfl (EOk.ite (TOk.cmp (EOk.name 2 rfl rfl rfl) EOk.cint rfl) (EOk.gval k.ok (k.g rfl) k.r1 rfl rfl rfl rfl) (EOk.call k.ok (k.g rfl) (k.X _ _ rfl) rfl (sp_let k) (by decide) (AOk.cons (EOk.call k.ok (k.g rfl) (k.X _ _ rfl) rfl (sp_rdiv k) (by decide) (AOk.cons (EOk.name 3 rfl rfl rfl) (AOk.cons (EOk.tup (AOk.cons (EOk.name 2 rfl rfl rfl) (AOk.cons EOk.cint AOk.nil rfl) rfl)) AOk.nil rfl) rfl) rfl rfl rfl rfl rfl) AOk.nil rfl) rfl rfl rfl rfl rfl)) rfl rfl rfl rfl) SOk.nil))) (fun _ => rfl)) (SOk.cons (XOk.ret (EOk.name 1 rfl rfl rfl)) SOk.nil))))
noncomputable def F_slog : SF := (seqS (exprS (callF (consA (nameF 0) (consA (gvalF (.tup [.int 1, .int 1])) nilA)) G_need_begin)) (seqS (iteS (cmpB .Eq (callF (consA (nameF 0) nilA) lenG) (intF 0)) (seqS (retS (lstF nilA)) nilS) nilS) (seqS (retS (callF (consA (callF (consA (callF (consA (nameF 0) nilA) G_sderive) (consA (callF (consA (nameF 0) nilA) G_sinverse) nilA)) G_smul) nilA) G_sintegrate)) nilS)))
noncomputable def G_slog : List D → Option D := runF ["a"] 0 F_slog
theorem sp_slog {C : Cx} (k : Kx C) : Spec C 173 6 G_slog :=
  Spec.of (n := 5) (ps := ["a"]) (ns := ["a"]) k.ok (k.X _ _ rfl) rfl (codeRec_of k.X rfl) rfl (bind1 fun _ => rfl) rfl (by decide) (fun _ => List.forall_mem_cons.mpr ⟨.inl rfl, fun _ h => nomatch h⟩) (hns_app ["a"] []) rfl rfl rfl fun _ => (SOk.cons (XOk.expr (EOk.call k.ok (k.g rfl) (k.X _ _ rfl) rfl (sp_need_begin k) (by decide) (AOk.cons (EOk.name 0 rfl rfl rfl) (AOk.cons (EOk.gval k.ok (k.g rfl) k.r1 rfl rfl rfl rfl) AOk.nil rfl) rfl) rfl rfl rfl rfl rfl) rfl rfl) (SOk.cons (XOk.ite (TOk.cmp (EOk.bcall k.ok (k.g0 rfl) boot_len (by decide) len_ok (AOk.cons (EOk.name 0 rfl rfl rfl) AOk.nil rfl) rfl (fun _ => rfl) rfl rfl rfl rfl rfl) EOk.cint rfl) (SOk.cons (XOk.ret (EOk.lst AOk.nil)) SOk.nil) SOk.nil) (SOk.cons (XOk.ret (EOk.call k.ok (k.g rfl) (k.X _ _ rfl) rfl (sp_sintegrate k) (by decide) (AOk.cons (EOk.call k.ok (k.g rfl) (k.X _ _ rfl) rfl (sp_smul k) (by decide) (AOk.cons (EOk.call k.ok (k.g rfl) (k.X _ _ rfl) rfl (sp_sderive k) (by decide) (AOk.cons (EOk.name 0 rfl rfl rfl) AOk.nil rfl) rfl rfl rfl rfl rfl) (AOk.cons (EOk.call k.ok (k.g rfl) (k.X _ _ rfl) rfl (sp_sinverse k) (by decide) (AOk.cons (EOk.name 0 rfl rfl rfl) AOk.nil rfl) rfl rfl rfl rfl rfl) AOk.nil rfl) rfl) rfl rfl rfl rfl rfl) AOk.nil rfl) rfl rfl rfl rfl rfl)) SOk.nil)))
noncomputable def F_ssin_cos : SF := (seqS (exprS (callF (consA (nameF 0) (consA (gvalF (.tup [.int 0, .int 1])) nilA)) G_need_begin)) (seqS (asg2S 2 3 (ownV nilA) (ownV nilA)) (seqS (forHS (.one 1) (rangeI (consA (callF (consA (nameF 0) nilA) lenG) nilA)) (seqS (asg2S 5 6 (valV (gvalF (.tup [.int 0, .int 1]))) (valV (gvalF (.tup [.int 0, .int 1])))) (seqS (forHS (.one 4) (rangeI (consA (intF 1) (consA (binF .Add (nameF 1) (intF 1)) nilA))) (seqS (asgS 7 (valV (callF (consA (tupF (consA (nameF 4) (consA (intF 1) nilA))) (consA (subOwnF 0 (nameF 4)) nilA)) G_rmul))) (seqS (asgS 5 (valV (callF (consA (nameF 5) (consA (callF (consA (nameF 7) (consA (subOwnF 3 (binF .Sub (nameF 1) (nameF 4))) nilA)) G_rmul) nilA)) G_radd))) (seqS (asgS 6 (valV (callF (consA (nameF 6) (consA (callF (consA (nameF 7) (consA (subOwnF 2 (binF .Sub (nameF 1) (nameF 4))) nilA)) G_rmul) nilA)) G_rsub))) nilS)))) (seqS (appS 2 (iteF (cmpB .Eq (nameF 1) (intF 0)) (gvalF (.tup [.int 0, .int 1])) (callF (consA (callF (consA (nameF 5) (consA (tupF (consA (nameF 1) (consA (intF 1) nilA))) nilA)) G_rdiv) nilA) G_let))) (seqS (appS 3 (iteF (cmpB .Eq (nameF 1) (intF 0)) (gvalF (.tup [.int 1, .int 1])) (callF (consA (callF (consA (nameF 6) (consA (tupF (consA (nameF 1) (consA (intF 1) nilA))) nilA)) G_rdiv) nilA) G_let))) nilS))))) (seqS (retS (tupF (consA (nameF 2) (consA (nameF 3) nilA)))) nilS))))
noncomputable def G_ssin_cos : List D → Option D := runF ["a"] 7 F_ssin_cos
theorem sp_ssin_cos {C : Cx} (k : Kx C) : Spec C 180 4 G_ssin_cos :=
  Spec.of (n := 3) (ps := ["a"]) (ns := ["a", "at", "sines", "others", "spot", "one", "other", "moved"]) k.ok (k.X _ _ rfl) rfl (codeRec_of k.X rfl) rfl (bind1 fun _ => rfl) rfl (by decide) (fun _ => List.forall_mem_cons.mpr ⟨.inl rfl, fun _ h => nomatch h⟩) (hns_app ["a"] ["at", "sines", "others", "spot", "one", "other", "moved"]) rfl rfl rfl fun _ => (SOk.cons (XOk.expr (EOk.call k.ok (k.g rfl) (k.X _ _ rfl) rfl (sp_need_begin k) (by decide) (AOk.cons (EOk.name 0 rfl rfl rfl) (AOk.cons (EOk.gval k.ok (k.g rfl) k.r0 rfl rfl rfl rfl) AOk.nil rfl) rfl) rfl rfl rfl rfl rfl) rfl rfl) (SOk.cons (XOk.asg2 2 3 rfl rfl rfl rfl rfl (by decide) (VOk.lst AOk.nil) (VOk.lst AOk.nil) rfl rfl rfl rfl) (SOk.cons (XOk.forh ⟨_, _, rfl, rfl, rfl, rfl, by decide⟩ (HOk.of 1 (IOk.range k.ok (k.g0 rfl) PyProof.Rows.boot_range (by decide) (AOk.cons (EOk.bcall k.ok (k.g0 rfl) boot_len (by decide) len_ok (AOk.cons (EOk.name 0 rfl rfl rfl) AOk.nil rfl) rfl (fun _ => rfl) rfl rfl rfl rfl rfl) AOk.nil rfl) rfl (fun _ => rfl) rfl rfl rfl rfl rfl)) (SOk.cons (XOk.asg2 5 6 rfl rfl rfl rfl rfl (by decide) (VOk.val (EOk.gval k.ok (k.g rfl) k.r0 rfl rfl rfl rfl)) (VOk.val (EOk.gval k.ok (k.g rfl) k.r0 rfl rfl rfl rfl)) rfl rfl rfl rfl) (SOk.cons (XOk.forh ⟨_, _, rfl, rfl, rfl, rfl, by decide⟩ (HOk.of 4 (IOk.range k.ok (k.g0 rfl) PyProof.Rows.boot_range (by decide) (AOk.cons EOk.cint (AOk.cons (EOk.bin (EOk.name 1 rfl rfl rfl) EOk.cint) AOk.nil rfl) rfl) rfl (fun _ => rfl) rfl rfl rfl rfl rfl)) (SOk.cons (XOk.asg 7 rfl rfl rfl (by decide) (VOk.val (EOk.call k.ok (k.g rfl) (k.X _ _ rfl) rfl (sp_rmul k) (by decide) (AOk.cons (EOk.tup (AOk.cons (EOk.name 4 rfl rfl rfl) (AOk.cons EOk.cint AOk.nil rfl) rfl)) (AOk.cons (EOk.subName 0 rfl rfl rfl (EOk.name 4 rfl rfl rfl) (fun _ _ => rfl)) AOk.nil rfl) rfl) rfl rfl rfl rfl rfl)) rfl) (SOk.cons (XOk.asg 5 rfl rfl rfl (by decide) (VOk.val (EOk.call k.ok (k.g rfl) (k.X _ _ rfl) rfl (sp_radd k) (by decide) (AOk.cons (EOk.name 5 rfl rfl rfl) (AOk.cons (EOk.call k.ok (k.g rfl) (k.X _ _ rfl) rfl (sp_rmul k) (by decide) (AOk.cons (EOk.name 7 rfl rfl rfl) (AOk.cons (EOk.subName 3 rfl rfl rfl (EOk.bin (EOk.name 1 rfl rfl rfl) (EOk.name 4 rfl rfl rfl)) (fun _ _ => rfl)) AOk.nil rfl) rfl) rfl rfl rfl rfl rfl) AOk.nil rfl) rfl) rfl rfl rfl rfl rfl)) rfl) (SOk.cons (XOk.asg 6 rfl rfl rfl (by decide) (VOk.val (EOk.call k.ok (k.g rfl) (k.X _ _ rfl) rfl (sp_rsub k) (by decide) (AOk.cons (EOk.name 6 rfl rfl rfl) (AOk.cons (EOk.call k.ok (k.g rfl) (k.X _ _ rfl) rfl (sp_rmul k) (by decide) (AOk.cons (EOk.name 7 rfl rfl rfl) (AOk.cons (EOk.subName 2 rfl rfl rfl (EOk.bin (EOk.name 1 rfl rfl rfl) (EOk.name 4 rfl rfl rfl)) (fun _ _ => rfl)) AOk.nil rfl) rfl) rfl rfl rfl rfl rfl) AOk.nil rfl) rfl) rfl rfl rfl rfl rfl)) rfl) SOk.nil))) (fun _ => rfl)) (SOk.cons (XOk.app 2 rfl rfl rfl (EOk.ite (TOk.cmp (EOk.name 1 rfl rfl rfl) EOk.cint rfl) (EOk.gval k.ok (k.g rfl) k.r0 rfl rfl rfl rfl) (EOk.call k.ok (k.g rfl) (k.X _ _ rfl) rfl (sp_let k) (by decide) (AOk.cons (EOk.call k.ok (k.g rfl) (k.X _ _ rfl) rfl (sp_rdiv k) (by decide) (AOk.cons (EOk.name 5 rfl rfl rfl) (AOk.cons (EOk.tup (AOk.cons (EOk.name 1 rfl rfl rfl) (AOk.cons EOk.cint AOk.nil rfl) rfl)) AOk.nil rfl) rfl) rfl rfl rfl rfl rfl) AOk.nil rfl) rfl rfl rfl rfl rfl)) rfl rfl rfl rfl) (SOk.cons (XOk.app 3 rfl rfl rfl (EOk.ite (TOk.cmp (EOk.name 1 rfl rfl rfl) EOk.cint rfl) (EOk.gval k.ok (k.g rfl) k.r1 rfl rfl rfl rfl) (EOk.call k.ok (k.g rfl) (k.X _ _ rfl) rfl (sp_let k) (by decide) (AOk.cons (EOk.call k.ok (k.g rfl) (k.X _ _ rfl) rfl (sp_rdiv k) (by decide) (AOk.cons (EOk.name 6 rfl rfl rfl) (AOk.cons (EOk.tup (AOk.cons (EOk.name 1 rfl rfl rfl) (AOk.cons EOk.cint AOk.nil rfl) rfl)) AOk.nil rfl) rfl) rfl rfl rfl rfl rfl) AOk.nil rfl) rfl rfl rfl rfl rfl)) rfl rfl rfl rfl) SOk.nil)))) (fun _ => rfl)) (SOk.cons (XOk.ret (EOk.tup (AOk.cons (EOk.name 2 rfl rfl rfl) (AOk.cons (EOk.name 3 rfl rfl rfl) AOk.nil rfl) rfl))) SOk.nil))))
noncomputable def F_ssin : SF := (seqS (retS (subF (callF (consA (nameF 0) nilA) G_ssin_cos) (intF 0))) nilS)
noncomputable def G_ssin : List D → Option D := runF ["a"] 0 F_ssin
theorem sp_ssin {C : Cx} (k : Kx C) : Spec C 187 5 G_ssin :=
  Spec.of (n := 4) (ps := ["a"]) (ns := ["a"]) k.ok (k.X _ _ rfl) rfl (codeRec_of k.X rfl) rfl (bind1 fun _ => rfl) rfl (by decide) (fun _ => List.forall_mem_cons.mpr ⟨.inl rfl, fun _ h => nomatch h⟩) (hns_app ["a"] []) rfl rfl rfl fun _ => (SOk.cons (XOk.ret (EOk.sub (EOk.call k.ok (k.g rfl) (k.X _ _ rfl) rfl (sp_ssin_cos k) (by decide) (AOk.cons (EOk.name 0 rfl rfl rfl) AOk.nil rfl) rfl rfl rfl rfl rfl) EOk.cint (fun _ _ => rfl))) SOk.nil)
noncomputable def F_scos : SF := (seqS (retS (subF (callF (consA (nameF 0) nilA) G_ssin_cos) (intF 1))) nilS)
noncomputable def G_scos : List D → Option D := runF ["a"] 0 F_scos
theorem sp_scos {C : Cx} (k : Kx C) : Spec C 194 5 G_scos :=
  Spec.of (n := 4) (ps := ["a"]) (ns := ["a"]) k.ok (k.X _ _ rfl) rfl (codeRec_of k.X rfl) rfl (bind1 fun _ => rfl) rfl (by decide) (fun _ => List.forall_mem_cons.mpr ⟨.inl rfl, fun _ h => nomatch h⟩) (hns_app ["a"] []) rfl rfl rfl fun _ => (SOk.cons (XOk.ret (EOk.sub (EOk.call k.ok (k.g rfl) (k.X _ _ rfl) rfl (sp_ssin_cos k) (by decide) (AOk.cons (EOk.name 0 rfl rfl rfl) AOk.nil rfl) rfl rfl rfl rfl rfl) EOk.cint (fun _ _ => rfl))) SOk.nil)
noncomputable def F_law_numbers : SF := (seqS (asg2S 1 2 (ownV nilA) (valV (intF 1))) (seqS (forHS (.two 3 4) (enumI (nameF 0)) (seqS (asgS 2 (valV (binF .Mult (nameF 2) (callF (consA (nameF 3) (consA (intF 1) nilA)) maxG)))) (seqS (iteS (cmpB .NotEq (binF .Mod (binF .Mult (subOwnF 4 (intF 0)) (nameF 2)) (subOwnF 4 (intF 1))) (intF 0)) (seqS (retS noneF) nilS) nilS) (seqS (appS 1 (binF .FloorDiv (binF .Mult (subOwnF 4 (intF 0)) (nameF 2)) (subOwnF 4 (intF 1)))) nilS)))) (seqS (retS (nameF 1)) nilS)))
noncomputable def G_law_numbers : List D → Option D := runF ["series"] 4 F_law_numbers
theorem sp_law_numbers {C : Cx} (k : Kx C) : Spec C 208 1 G_law_numbers :=
  Spec.of (n := 0) (ps := ["series"]) (ns := ["series", "found", "many", "at", "number"]) k.ok (k.X _ _ rfl) rfl (codeRec_of k.X rfl) rfl (bind1 fun _ => rfl) rfl (by decide) (fun _ => List.forall_mem_cons.mpr ⟨.inl rfl, fun _ h => nomatch h⟩) (hns_app ["series"] ["found", "many", "at", "number"]) rfl rfl rfl fun _ => (SOk.cons (XOk.asg2 1 2 rfl rfl rfl rfl rfl (by decide) (VOk.lst AOk.nil) (VOk.val EOk.cint) rfl rfl rfl rfl) (SOk.cons (XOk.forh ⟨_, _, _, _, _, _, rfl, rfl, rfl, rfl, rfl, rfl, by decide⟩ (HOk.enum 3 4 k.ok (k.g0 rfl) PyProof.Rows.boot_enumerate (by decide) (EOk.name 0 rfl rfl rfl) rfl rfl rfl rfl rfl rfl) (SOk.cons (XOk.asg 2 rfl rfl rfl (by decide) (VOk.val (EOk.bin (EOk.name 2 rfl rfl rfl) (EOk.bcall k.ok (k.g0 rfl) PyProof.Rows.boot_max (by decide) max_ok (AOk.cons (EOk.name 3 rfl rfl rfl) (AOk.cons EOk.cint AOk.nil rfl) rfl) rfl (fun _ => rfl) rfl rfl rfl rfl rfl))) rfl) (SOk.cons (XOk.ite (TOk.cmp (EOk.bin (EOk.bin (EOk.subName 4 rfl rfl rfl EOk.cint (fun _ _ => rfl)) (EOk.name 2 rfl rfl rfl)) (EOk.subName 4 rfl rfl rfl EOk.cint (fun _ _ => rfl))) EOk.cint rfl) (SOk.cons (XOk.ret EOk.cnone) SOk.nil) SOk.nil) (SOk.cons (XOk.app 1 rfl rfl rfl (EOk.bin (EOk.bin (EOk.subName 4 rfl rfl rfl EOk.cint (fun _ _ => rfl)) (EOk.name 2 rfl rfl rfl)) (EOk.subName 4 rfl rfl rfl EOk.cint (fun _ _ => rfl))) rfl rfl rfl rfl) SOk.nil))) (fun _ => rfl)) (SOk.cons (XOk.ret (EOk.name 1 rfl rfl rfl)) SOk.nil)))
noncomputable def F_law_zigzags : SF := (seqS (asg2S 2 3 (ownV (consA (intF 1) nilA)) (valV (lstF (consA (intF 1) nilA)))) (seqS (forHS (.one 1) (rangeI (consA (intF 1) (consA (nameF 0) nilA))) (seqS (asgS 4 (ownV (consA (intF 0) nilA))) (seqS (forHS (.one 5) (seqI (revF (nameF 3) (negF (intF 1)))) (seqS (appS 4 (binF .Add (subOwnF 4 (negF (intF 1))) (nameF 5))) nilS)) (seqS (asgS 3 (valV (nameF 4))) (seqS (appS 2 (subOwnF 3 (negF (intF 1)))) nilS))))) (seqS (retS (nameF 2)) nilS)))
noncomputable def G_law_zigzags : List D → Option D := runF ["size"] 5 F_law_zigzags
theorem sp_law_zigzags {C : Cx} (k : Kx C) : Spec C 215 1 G_law_zigzags :=
  Spec.of (n := 0) (ps := ["size"]) (ns := ["size", "n", "found", "row", "later", "number"]) k.ok (k.X _ _ rfl) rfl (codeRec_of k.X rfl) rfl (bind1 fun _ => rfl) rfl (by decide) (fun _ => List.forall_mem_cons.mpr ⟨.inl rfl, fun _ h => nomatch h⟩) (hns_app ["size"] ["n", "found", "row", "later", "number"]) rfl rfl rfl fun _ => (SOk.cons (XOk.asg2 2 3 rfl rfl rfl rfl rfl (by decide) (VOk.lst (AOk.cons EOk.cint AOk.nil rfl)) (VOk.val (EOk.lst (AOk.cons EOk.cint AOk.nil rfl))) rfl rfl rfl rfl) (SOk.cons (XOk.forh ⟨_, _, rfl, rfl, rfl, rfl, by decide⟩ (HOk.of 1 (IOk.range k.ok (k.g0 rfl) PyProof.Rows.boot_range (by decide) (AOk.cons EOk.cint (AOk.cons (EOk.name 0 rfl rfl rfl) AOk.nil rfl) rfl) rfl (fun _ => rfl) rfl rfl rfl rfl rfl)) (SOk.cons (XOk.asg 4 rfl rfl rfl (by decide) (VOk.lst (AOk.cons EOk.cint AOk.nil rfl)) rfl) (SOk.cons (XOk.forh ⟨_, _, rfl, rfl, rfl, rfl, by decide⟩ (HOk.of 5 (IOk.seq (EOk.rev (EOk.name 3 rfl rfl rfl) (EOk.neg EOk.cint)))) (SOk.cons (XOk.app 4 rfl rfl rfl (EOk.bin (EOk.subName 4 rfl rfl rfl (EOk.neg EOk.cint) (fun _ _ => rfl)) (EOk.name 5 rfl rfl rfl)) rfl rfl rfl rfl) SOk.nil) (fun _ => rfl)) (SOk.cons (XOk.asg 3 rfl rfl rfl (by decide) (VOk.val (EOk.name 4 rfl rfl rfl)) rfl) (SOk.cons (XOk.app 2 rfl rfl rfl (EOk.subName 3 rfl rfl rfl (EOk.neg EOk.cint) (fun _ _ => rfl)) rfl rfl rfl rfl) SOk.nil)))) (fun _ => rfl)) (SOk.cons (XOk.ret (EOk.name 2 rfl rfl rfl)) SOk.nil)))
noncomputable def F_law_lots : SF := (seqS (asg2S 2 3 (ownV (consA (intF 1) nilA)) (valV (lstF (consA (intF 1) nilA)))) (seqS (forHS (.one 1) (rangeI (consA (intF 1) (consA (nameF 0) nilA))) (seqS (appS 2 (subOwnF 3 (negF (intF 1)))) (seqS (asgS 4 (ownV (consA (subOwnF 3 (negF (intF 1))) nilA))) (seqS (forHS (.one 5) (seqI (nameF 3)) (seqS (appS 4 (binF .Add (subOwnF 4 (negF (intF 1))) (nameF 5))) nilS)) (seqS (asgS 3 (valV (nameF 4))) nilS))))) (seqS (retS (nameF 2)) nilS)))
noncomputable def G_law_lots : List D → Option D := runF ["size"] 5 F_law_lots
theorem sp_law_lots {C : Cx} (k : Kx C) : Spec C 222 1 G_law_lots :=
  Spec.of (n := 0) (ps := ["size"]) (ns := ["size", "n", "found", "row", "later", "number"]) k.ok (k.X _ _ rfl) rfl (codeRec_of k.X rfl) rfl (bind1 fun _ => rfl) rfl (by decide) (fun _ => List.forall_mem_cons.mpr ⟨.inl rfl, fun _ h => nomatch h⟩) (hns_app ["size"] ["n", "found", "row", "later", "number"]) rfl rfl rfl fun _ => (SOk.cons (XOk.asg2 2 3 rfl rfl rfl rfl rfl (by decide) (VOk.lst (AOk.cons EOk.cint AOk.nil rfl)) (VOk.val (EOk.lst (AOk.cons EOk.cint AOk.nil rfl))) rfl rfl rfl rfl) (SOk.cons (XOk.forh ⟨_, _, rfl, rfl, rfl, rfl, by decide⟩ (HOk.of 1 (IOk.range k.ok (k.g0 rfl) PyProof.Rows.boot_range (by decide) (AOk.cons EOk.cint (AOk.cons (EOk.name 0 rfl rfl rfl) AOk.nil rfl) rfl) rfl (fun _ => rfl) rfl rfl rfl rfl rfl)) (SOk.cons (XOk.app 2 rfl rfl rfl (EOk.subName 3 rfl rfl rfl (EOk.neg EOk.cint) (fun _ _ => rfl)) rfl rfl rfl rfl) (SOk.cons (XOk.asg 4 rfl rfl rfl (by decide) (VOk.lst (AOk.cons (EOk.subName 3 rfl rfl rfl (EOk.neg EOk.cint) (fun _ _ => rfl)) AOk.nil rfl)) rfl) (SOk.cons (XOk.forh ⟨_, _, rfl, rfl, rfl, rfl, by decide⟩ (HOk.of 5 (IOk.seq (EOk.name 3 rfl rfl rfl))) (SOk.cons (XOk.app 4 rfl rfl rfl (EOk.bin (EOk.subName 4 rfl rfl rfl (EOk.neg EOk.cint) (fun _ _ => rfl)) (EOk.name 5 rfl rfl rfl)) rfl rfl rfl rfl) SOk.nil) (fun _ => rfl)) (SOk.cons (XOk.asg 3 rfl rfl rfl (by decide) (VOk.val (EOk.name 4 rfl rfl rfl)) rfl) SOk.nil)))) (fun _ => rfl)) (SOk.cons (XOk.ret (EOk.name 2 rfl rfl rfl)) SOk.nil)))
noncomputable def F_law_up_and_down_right : SF := (seqS (asg2S 2 3 (valV (callF (consA (lstF (consA (tupF (consA (intF 0) (consA (intF 1) nilA))) (consA (tupF (consA (intF 1) (consA (intF 1) nilA))) nilA))) (consA (nameF 0) nilA)) G_cut)) (valV (callF (consA (lstF (consA (tupF (consA (intF 1) (consA (intF 1) nilA))) nilA)) (consA (nameF 0) nilA)) G_cut))) (seqS (asg2S 4 5 (valV (callF (consA (nameF 2) nilA) G_ssin)) (valV (callF (consA (callF (consA (nameF 2) nilA) G_scos) nilA) G_sinverse))) (seqS (asg2S 6 7 (valV (callF (consA (callF (consA (nameF 3) (consA (nameF 4) nilA)) G_sadd) (consA (nameF 5) nilA)) G_smul)) (valV (callF (consA (nameF 4) (consA (nameF 5) nilA)) G_smul))) (seqS (asgS 1 (valV (callF (consA (nameF 0) nilA) G_law_zigzags))) (seqS (iteS (orF (cmpB .NotEq (callF (consA (nameF 6) nilA) G_law_numbers) (nameF 1)) (cmpB .NotEq (callF (consA (nameF 7) nilA) G_law_numbers) (compF (.two 0 1) 2 [] (enumI (nameF 1)) (iteF (cmpB .Eq (binF .Mod (nameF 0) (intF 2)) (intF 1)) (nameF 1) (intF 0))))) (seqS (retS (boolF false)) nilS) nilS) (seqS (iteS (cmpB .NotEq (callF (consA (nameF 7) nilA) G_sderive) (uptoF (callF (consA (nameF 3) (consA (callF (consA (nameF 7) (consA (nameF 7) nilA)) G_smul) nilA)) G_sadd) (binF .Sub (nameF 0) (intF 1)))) (seqS (retS (boolF false)) nilS) nilS) (seqS (retS (boolOf (cmpB .Eq (callF (consA (tupF (consA (intF 2) (consA (intF 1) nilA))) (consA (callF (consA (nameF 6) nilA) G_sderive) nilA)) G_sscale) (uptoF (callF (consA (nameF 3) (consA (callF (consA (nameF 6) (consA (nameF 6) nilA)) G_smul) nilA)) G_sadd) (binF .Sub (nameF 0) (intF 1)))))) nilS)))))))
noncomputable def G_law_up_and_down_right : List D → Option D := runF ["size"] 7 F_law_up_and_down_right
theorem sp_law_up_and_down_right {C : Cx} (k : Kx C) : Spec C 227 6 G_law_up_and_down_right :=
  Spec.of (n := 5) (ps := ["size"]) (ns := ["size", "due", "x", "one", "sines", "under", "whole", "odd"]) k.ok (k.X _ _ rfl) rfl (codeRec_of k.X rfl) rfl (bind1 fun _ => rfl) rfl (by decide) (fun _ => List.forall_mem_cons.mpr ⟨.inl rfl, fun _ h => nomatch h⟩) (hns_app ["size"] ["due", "x", "one", "sines", "under", "whole", "odd"]) rfl rfl rfl fun _ => (SOk.cons (XOk.asg2 2 3 rfl rfl rfl rfl rfl (by decide) (VOk.val (EOk.call k.ok (k.g rfl) (k.X _ _ rfl) rfl (sp_cut k) (by decide) (AOk.cons (EOk.lst (AOk.cons (EOk.tup (AOk.cons EOk.cint (AOk.cons EOk.cint AOk.nil rfl) rfl)) (AOk.cons (EOk.tup (AOk.cons EOk.cint (AOk.cons EOk.cint AOk.nil rfl) rfl)) AOk.nil rfl) rfl)) (AOk.cons (EOk.name 0 rfl rfl rfl) AOk.nil rfl) rfl) rfl rfl rfl rfl rfl)) (VOk.val (EOk.call k.ok (k.g rfl) (k.X _ _ rfl) rfl (sp_cut k) (by decide) (AOk.cons (EOk.lst (AOk.cons (EOk.tup (AOk.cons EOk.cint (AOk.cons EOk.cint AOk.nil rfl) rfl)) AOk.nil rfl)) (AOk.cons (EOk.name 0 rfl rfl rfl) AOk.nil rfl) rfl) rfl rfl rfl rfl rfl)) rfl rfl rfl rfl) (SOk.cons (XOk.asg2 4 5 rfl rfl rfl rfl rfl (by decide) (VOk.val (EOk.call k.ok (k.g rfl) (k.X _ _ rfl) rfl (sp_ssin k) (by decide) (AOk.cons (EOk.name 2 rfl rfl rfl) AOk.nil rfl) rfl rfl rfl rfl rfl)) (VOk.val (EOk.call k.ok (k.g rfl) (k.X _ _ rfl) rfl (sp_sinverse k) (by decide) (AOk.cons (EOk.call k.ok (k.g rfl) (k.X _ _ rfl) rfl (sp_scos k) (by decide) (AOk.cons (EOk.name 2 rfl rfl rfl) AOk.nil rfl) rfl rfl rfl rfl rfl) AOk.nil rfl) rfl rfl rfl rfl rfl)) rfl rfl rfl rfl) (SOk.cons (XOk.asg2 6 7 rfl rfl rfl rfl rfl (by decide) (VOk.val (EOk.call k.ok (k.g rfl) (k.X _ _ rfl) rfl (sp_smul k) (by decide) (AOk.cons (EOk.call k.ok (k.g rfl) (k.X _ _ rfl) rfl (sp_sadd k) (by decide) (AOk.cons (EOk.name 3 rfl rfl rfl) (AOk.cons (EOk.name 4 rfl rfl rfl) AOk.nil rfl) rfl) rfl rfl rfl rfl rfl) (AOk.cons (EOk.name 5 rfl rfl rfl) AOk.nil rfl) rfl) rfl rfl rfl rfl rfl)) (VOk.val (EOk.call k.ok (k.g rfl) (k.X _ _ rfl) rfl (sp_smul k) (by decide) (AOk.cons (EOk.name 4 rfl rfl rfl) (AOk.cons (EOk.name 5 rfl rfl rfl) AOk.nil rfl) rfl) rfl rfl rfl rfl rfl)) rfl rfl rfl rfl) (SOk.cons (XOk.asg 1 rfl rfl rfl (by decide) (VOk.val (EOk.call k.ok (k.g rfl) (k.X _ _ rfl) rfl (sp_law_zigzags k) (by decide) (AOk.cons (EOk.name 0 rfl rfl rfl) AOk.nil rfl) rfl rfl rfl rfl rfl)) rfl) (SOk.cons (XOk.ite (TOk.or2 (TOk.cmp (EOk.call k.ok (k.g rfl) (k.X _ _ rfl) rfl (sp_law_numbers k) (by decide) (AOk.cons (EOk.name 6 rfl rfl rfl) AOk.nil rfl) rfl rfl rfl rfl rfl) (EOk.name 1 rfl rfl rfl) rfl) (TOk.cmp (EOk.call k.ok (k.g rfl) (k.X _ _ rfl) rfl (sp_law_numbers k) (by decide) (AOk.cons (EOk.name 7 rfl rfl rfl) AOk.nil rfl) rfl rfl rfl rfl rfl) (EOk.comp (bs := ["n", "number"]) (cns := []) (HOk.enum 0 1 k.ok (k.g0 rfl) PyProof.Rows.boot_enumerate (by decide) (EOk.name 1 rfl rfl rfl) rfl rfl rfl rfl rfl rfl) (fun _ => (EOk.ite (TOk.cmp (EOk.bin (EOk.name 0 rfl rfl rfl) EOk.cint) EOk.cint rfl) (EOk.name 1 rfl rfl rfl) EOk.cint)) (fun _ => ⟨_, _, _, _, _, _, rfl, rfl, rfl, rfl, rfl, rfl, by decide⟩) rfl (by decide) rfl (by decide) (fun _ => rfl) Hc.nil) rfl)) (SOk.cons (XOk.ret EOk.cbool) SOk.nil) SOk.nil) (SOk.cons (XOk.ite (TOk.cmp (EOk.call k.ok (k.g rfl) (k.X _ _ rfl) rfl (sp_sderive k) (by decide) (AOk.cons (EOk.name 7 rfl rfl rfl) AOk.nil rfl) rfl rfl rfl rfl rfl) (EOk.upto (EOk.call k.ok (k.g rfl) (k.X _ _ rfl) rfl (sp_sadd k) (by decide) (AOk.cons (EOk.name 3 rfl rfl rfl) (AOk.cons (EOk.call k.ok (k.g rfl) (k.X _ _ rfl) rfl (sp_smul k) (by decide) (AOk.cons (EOk.name 7 rfl rfl rfl) (AOk.cons (EOk.name 7 rfl rfl rfl) AOk.nil rfl) rfl) rfl rfl rfl rfl rfl) AOk.nil rfl) rfl) rfl rfl rfl rfl rfl) (EOk.bin (EOk.name 0 rfl rfl rfl) EOk.cint)) rfl) (SOk.cons (XOk.ret EOk.cbool) SOk.nil) SOk.nil) (SOk.cons (XOk.ret (EOk.cmp (EOk.call k.ok (k.g rfl) (k.X _ _ rfl) rfl (sp_sscale k) (by decide) (AOk.cons (EOk.tup (AOk.cons EOk.cint (AOk.cons EOk.cint AOk.nil rfl) rfl)) (AOk.cons (EOk.call k.ok (k.g rfl) (k.X _ _ rfl) rfl (sp_sderive k) (by decide) (AOk.cons (EOk.name 6 rfl rfl rfl) AOk.nil rfl) rfl rfl rfl rfl rfl) AOk.nil rfl) rfl) rfl rfl rfl rfl rfl) (EOk.upto (EOk.call k.ok (k.g rfl) (k.X _ _ rfl) rfl (sp_sadd k) (by decide) (AOk.cons (EOk.name 3 rfl rfl rfl) (AOk.cons (EOk.call k.ok (k.g rfl) (k.X _ _ rfl) rfl (sp_smul k) (by decide) (AOk.cons (EOk.name 6 rfl rfl rfl) (AOk.cons (EOk.name 6 rfl rfl rfl) AOk.nil rfl) rfl) rfl rfl rfl rfl rfl) AOk.nil rfl) rfl) rfl rfl rfl rfl rfl) (EOk.bin (EOk.name 0 rfl rfl rfl) EOk.cint)) rfl)) SOk.nil)))))))
end Mine
end
/-! part G3 -/
section
open PySem PySem.W PyProof.Rows PySem.Calls
set_option maxRecDepth 100000
set_option maxHeartbeats 8000000
namespace Mine
noncomputable def fdOf (P : Params) (a : Addr) : Option FuncData := match (hd.heap_39 P).lookup a with
  | some o => match o.data with
    | .func fd => some fd
    | _ => none
  | none => none
noncomputable def lawTail (P : Params) : List Stmt := match fdOf P 234 with
  | some fd => match fd.body with
    | .stmts b => b.drop 3
    | _ => []
  | none => []
noncomputable def lawScope (P : Params) : Scope := match fdOf P 234 with
  | some fd => fd.scope
  | none => { kind := .function, names := [], isGenerator := false, isCoroutine := false }
noncomputable def F_law : SF := (seqS (asg2S 5 6 (valV (callF (consA (lstF (consA (tupF (consA (intF 0) (consA (intF 1) nilA))) (consA (tupF (consA (intF 1) (consA (intF 1) nilA))) nilA))) (consA (nameF 0) nilA)) G_cut)) (valV (callF (consA (lstF (consA (tupF (consA (negF (intF 1)) (consA (intF 1) nilA))) nilA)) (consA (nameF 0) nilA)) G_cut))) (seqS (asgS 1 (valV (callF (consA (nameF 5) nilA) G_sexp))) (seqS (asgS 2 (valV (callF (consA (callF (consA (nameF 1) (consA (nameF 6) nilA)) G_sadd) nilA) G_sexp))) (seqS (asgS 3 (valV (callF (consA (nameF 2) nilA) G_law_numbers))) (seqS (iteS (orF (cmpB .NotEq (nameF 3) (callF (consA (nameF 0) nilA) G_law_lots)) (cmpB .NotEq (callF (consA (callF (consA (nameF 2) nilA) G_slog) nilA) G_sderive) (uptoF (nameF 1) (binF .Sub (nameF 0) (intF 1))))) (seqS (retS (boolF false)) nilS) nilS) (seqS (forHS (.one 4) (seqI (tupF (consA (intF 2) (consA (intF 3) (consA (intF 5) nilA))))) (seqS (forHS (.one 7) (rangeI (consA (binF .Sub (nameF 0) (nameF 4)) nilA)) (seqS (iteS (cmpB .NotEq (binF .Mod (binF .Sub (binF .Sub (subOwnF 3 (binF .Add (nameF 7) (nameF 4))) (subOwnF 3 (nameF 7))) (subOwnF 3 (binF .Add (nameF 7) (intF 1)))) (nameF 4)) (intF 0)) (seqS (retS (boolF false)) nilS) nilS) nilS)) nilS)) (seqS (retS (boolF true)) nilS)))))))
noncomputable def G_law : List D → Option D := runF ["size"] 7 F_law
noncomputable def law_names : List Str := ["size", "growth", "told", "numbers", "p", "x", "one", "n"]
theorem law_tail {C : Cx} (k : Kx C) (L fa : Addr) (c : Value) : SOk C 6 (envOf "law" (lawScope C.w.params) L fa c) law_names (lawTail C.w.params) F_law :=
  (SOk.cons (XOk.asg2 5 6 rfl rfl rfl rfl rfl (by decide) (VOk.val (EOk.call k.ok (k.g rfl) (k.X _ _ rfl) rfl (sp_cut k) (by decide) (AOk.cons (EOk.lst (AOk.cons (EOk.tup (AOk.cons EOk.cint (AOk.cons EOk.cint AOk.nil rfl) rfl)) (AOk.cons (EOk.tup (AOk.cons EOk.cint (AOk.cons EOk.cint AOk.nil rfl) rfl)) AOk.nil rfl) rfl)) (AOk.cons (EOk.name 0 rfl rfl rfl) AOk.nil rfl) rfl) rfl rfl rfl rfl rfl)) (VOk.val (EOk.call k.ok (k.g rfl) (k.X _ _ rfl) rfl (sp_cut k) (by decide) (AOk.cons (EOk.lst (AOk.cons (EOk.tup (AOk.cons (EOk.neg EOk.cint) (AOk.cons EOk.cint AOk.nil rfl) rfl)) AOk.nil rfl)) (AOk.cons (EOk.name 0 rfl rfl rfl) AOk.nil rfl) rfl) rfl rfl rfl rfl rfl)) rfl rfl rfl rfl) (SOk.cons (XOk.asg 1 rfl rfl rfl (by decide) (VOk.val (EOk.call k.ok (k.g rfl) (k.X _ _ rfl) rfl (sp_sexp k) (by decide) (AOk.cons (EOk.name 5 rfl rfl rfl) AOk.nil rfl) rfl rfl rfl rfl rfl)) rfl) (SOk.cons (XOk.asg 2 rfl rfl rfl (by decide) (VOk.val (EOk.call k.ok (k.g rfl) (k.X _ _ rfl) rfl (sp_sexp k) (by decide) (AOk.cons (EOk.call k.ok (k.g rfl) (k.X _ _ rfl) rfl (sp_sadd k) (by decide) (AOk.cons (EOk.name 1 rfl rfl rfl) (AOk.cons (EOk.name 6 rfl rfl rfl) AOk.nil rfl) rfl) rfl rfl rfl rfl rfl) AOk.nil rfl) rfl rfl rfl rfl rfl)) rfl) (SOk.cons (XOk.asg 3 rfl rfl rfl (by decide) (VOk.val (EOk.call k.ok (k.g rfl) (k.X _ _ rfl) rfl (sp_law_numbers k) (by decide) (AOk.cons (EOk.name 2 rfl rfl rfl) AOk.nil rfl) rfl rfl rfl rfl rfl)) rfl) (SOk.cons (XOk.ite (TOk.or2 (TOk.cmp (EOk.name 3 rfl rfl rfl) (EOk.call k.ok (k.g rfl) (k.X _ _ rfl) rfl (sp_law_lots k) (by decide) (AOk.cons (EOk.name 0 rfl rfl rfl) AOk.nil rfl) rfl rfl rfl rfl rfl) rfl) (TOk.cmp (EOk.call k.ok (k.g rfl) (k.X _ _ rfl) rfl (sp_sderive k) (by decide) (AOk.cons (EOk.call k.ok (k.g rfl) (k.X _ _ rfl) rfl (sp_slog k) (by decide) (AOk.cons (EOk.name 2 rfl rfl rfl) AOk.nil rfl) rfl rfl rfl rfl rfl) AOk.nil rfl) rfl rfl rfl rfl rfl) (EOk.upto (EOk.name 1 rfl rfl rfl) (EOk.bin (EOk.name 0 rfl rfl rfl) EOk.cint)) rfl)) (SOk.cons (XOk.ret EOk.cbool) SOk.nil) SOk.nil) (SOk.cons (XOk.forh ⟨_, _, rfl, rfl, rfl, rfl, by decide⟩ (HOk.of 4 (IOk.seq (EOk.tup (AOk.cons EOk.cint (AOk.cons EOk.cint (AOk.cons EOk.cint AOk.nil rfl) rfl) rfl)))) (SOk.cons (XOk.forh ⟨_, _, rfl, rfl, rfl, rfl, by decide⟩ (HOk.of 7 (IOk.range k.ok (k.g0 rfl) PyProof.Rows.boot_range (by decide) (AOk.cons (EOk.bin (EOk.name 0 rfl rfl rfl) (EOk.name 4 rfl rfl rfl)) AOk.nil rfl) rfl (fun _ => rfl) rfl rfl rfl rfl rfl)) (SOk.cons (XOk.ite (TOk.cmp (EOk.bin (EOk.bin (EOk.bin (EOk.subName 3 rfl rfl rfl (EOk.bin (EOk.name 7 rfl rfl rfl) (EOk.name 4 rfl rfl rfl)) (fun _ _ => rfl)) (EOk.subName 3 rfl rfl rfl (EOk.name 7 rfl rfl rfl) (fun _ _ => rfl))) (EOk.subName 3 rfl rfl rfl (EOk.bin (EOk.name 7 rfl rfl rfl) EOk.cint) (fun _ _ => rfl))) (EOk.name 4 rfl rfl rfl)) EOk.cint rfl) (SOk.cons (XOk.ret EOk.cbool) SOk.nil) SOk.nil) SOk.nil) (fun _ => rfl)) SOk.nil) (fun _ => rfl)) (SOk.cons (XOk.ret EOk.cbool) SOk.nil)))))))
noncomputable def isTrueD : Option D → Bool
  | some (.bool b) => b
  | _ => false
end Mine
end
/-! part G4 -/
section
open PySem PySem.W PyProof.Rows PySem.Calls
set_option maxRecDepth 100000
set_option maxHeartbeats 8000000
namespace Mine
theorem u5 : isTrueD (G_law_up_and_down_right [.int 5]) = true := by decide +kernel
theorem u6 : isTrueD (G_law_up_and_down_right [.int 6]) = true := by decide +kernel
theorem u7 : isTrueD (G_law_up_and_down_right [.int 7]) = true := by decide +kernel
theorem t5 : isTrueD (G_law [.int 5]) = true := by decide +kernel
theorem t6 : isTrueD (G_law [.int 6]) = true := by decide +kernel
theorem t7 : isTrueD (G_law [.int 7]) = true := by decide +kernel
end Mine
end
/-! part G5 -/
section
open PySem PySem.W PyProof.Rows PySem.Calls
set_option maxRecDepth 100000
set_option maxHeartbeats 8000000
namespace Mine
theorem isTrueD_eq {x : Option D} (h : isTrueD x = true) : x = some (.bool true) := by
  unfold isTrueD at h
  split at h
  · rw [h]
  · cases h
theorem size_ok (y : Int) : 7 - y.fmod 3 = 5 ∨ 7 - y.fmod 3 = 6 ∨ 7 - y.fmod 3 = 7 := by
  rw [Int.fmod_eq_emod_of_nonneg _ (by decide)]
  omega
theorem up_true {i : Int} (hi : i = 5 ∨ i = 6 ∨ i = 7) : G_law_up_and_down_right [.int i] = some (.bool true) := by
  rcases hi with rfl | rfl | rfl
  · exact isTrueD_eq u5
  · exact isTrueD_eq u6
  · exact isTrueD_eq u7
theorem law_true {i : Int} (hi : i = 5 ∨ i = 6 ∨ i = 7) : G_law [.int i] = some (.bool true) := by
  rcases hi with rfl | rfl | rfl
  · exact isTrueD_eq t5
  · exact isTrueD_eq t6
  · exact isTrueD_eq t7
theorem runF_ret {ps : List Str} {k : Nat} {F : SF} {ds : List D} (h : runF ps k F ds = some (.bool true)) : ∃ lo', F (lo0 ds k) = some (.ret (.bool true), lo') := by
  unfold runF at h
  cases q : sameLen ps ds with
  | false => rw [q] at h; cases h
  | true =>
    rw [q] at h
    cases r : F (lo0 ds k) with
    | none => rw [r] at h; cases h
    | some p =>
      obtain ⟨f, lo'⟩ := p
      rw [r] at h
      cases f with
      | next => cases h
      | ret d => cases h; exact ⟨lo', rfl⟩
theorem mkKx {prog P' : Program} {w : World} {mg mb : Str → Option Value} {h : Heap} {loose : List Str} {mean : ExcName → Option Value} (X : (hd.heap_39 w.params).In h) (T : Top P' loose mean mg mb h) : Kx ⟨prog, w, mg, mb, h, sbK⟩ where
  ok := ⟨⟨T.g, T.b, T.nolimit, T.builtins⟩, fun _ _ e => sbK_sub X e⟩
  X := X
  r0 := sbK_r0
  r1 := sbK_r1
theorem endA {prog P' : Program} {w : World} {mg mb : Str → Option Value} {h : Heap} {loose : List Str} {mean : ExcName → Option Value} {A : Around} {Q : Value → Shared → Prop} {E : Value → Shared → Prop} {s : Shared} {L : Addr} {m : Str → Option Value} {i : Int} {t : Tok}
    (X : (hd.heap_39 w.params).In h) (T : Top P' loose mean mg mb h) (F : Fr h L s.heap m) (Rm : Room A 6) (hi : i = 5 ∨ i = 6 ∨ i = 7) (hq : ∀ h' tk, (∀ b o, h.get? b = some o → h'.get? b = some o) → Q (.bool true) { s with heap := h', toks := tk }) :
    wpAny (model prog w) A (call (.ref 227) [.int i t]) Q E s := by
  have k : Kx ⟨prog, w, mg, mb, h, sbK⟩ := mkKx X T
  refine wpAny_call ((sp_law_up_and_down_right k) A s sbK [.int i t] [.int i] (.bool true) _ Rm F.keep (Le.refl _) (fun a o e => F.keep _ _ (sbK_sub X e)) (IsL.one ⟨t, rfl⟩) (up_true hi) fun v S' h' tk x _ _ _ hv => ?_)
  have e : v = .bool true := hv
  subst e
  exact hq h' tk fun b o e => x b o (F.keep b o e)
theorem endB {prog P' : Program} {w : World} {mg mb : Str → Option Value} {h : Heap} {loose : List Str} {mean : ExcName → Option Value} {A : Around} {Q : Flow → Shared → Prop} {E : Value → Shared → Prop} {s : Shared} {L fa : Addr} {c : Value} {m : Str → Option Value} {i : Int} {t : Tok}
    (X : (hd.heap_39 w.params).In h) (T : Top P' loose mean mg mb h) (F : Fr h L s.heap m) (hs : m "size" = some (.int i t)) (Rm : Room A 6) (hi : i = 5 ∨ i = 6 ∨ i = 7) (hq : ∀ h' tk, (∀ b o, h.get? b = some o → h'.get? b = some o) → Q (.ret (.bool true)) { s with heap := h', toks := tk }) :
    wpAny (model prog w) A (execs (lawTail w.params) (envOf "law" (lawScope w.params) L fa c)) Q E s := by
  have k : Kx ⟨prog, w, mg, mb, h, sbK⟩ := mkKx X T
  obtain ⟨lo', hF⟩ := runF_ret (law_true hi)
  have nL : h.get? L = none := by
    cases q : h.get? L with
    | none => rfl
    | some o => exact absurd (Heap.lt_size q) (Nat.not_lt.mpr F.above)
  have I : Inv (envOf "law" (lawScope w.params) L fa c) h sbK law_names [] sbK (lo0 [.int i] (law_names.length - 1)) m (fun _ => 0) s.heap := {
    fr := F
    sub := fun a o e => F.keep _ _ (sbK_sub X e)
    sL := sbK_none X nL
    new := fun a o e => .inl e
    hidOk := fun p hp => by cases hp
    vals := fun j x d e e' => by
      obtain ⟨d2, h1, h2⟩ := lo0_get e'
      cases h2
      cases j with
      | zero =>
        cases h1
        cases e
        exact ⟨_, .inl ⟨rfl, hs⟩, ⟨t, rfl⟩⟩
      | succ j => simp at h1
    owns := fun j x ds' e e' => by
      obtain ⟨d2, _, h2⟩ := lo0_get e'
      cases h2
    apart := fun j j' di dj e e' => by
      obtain ⟨d2, _, h2⟩ := lo0_get e
      cases h2
    inn := fun j ds' e => by
      obtain ⟨d2, _, h2⟩ := lo0_get e
      cases h2 }
  refine law_tail k L fa c A h sbK [] sbK _ m (fun _ => 0) s Q E (.ret (.bool true)) lo' Rm (Ext.refl _) (Le.refl _) I hF fun f S' m' ad' h' tk _ I' hf => ?_
  cases f with
  | ret v =>
    have e : v = .bool true := hf
    subst e
    exact hq h' tk I'.fr.keep
  | next => exact hf.elim
  | brk => exact hf.elim
  | cont => exact hf.elim
theorem roomA (env : Env) : Room (callerA.deeper env) 6 := ⟨rfl, by show 1 + claimMargin + 1 + 6 < recursionLimit; decide, by show 4 + 3 + 10 * 6 + 100 < cLine; decide⟩
theorem good {c : ClaimW} {cl : Str → Option Addr} {mean : ExcName → Option Value} {args : List WData} {s₁ : Shared} {h' : Heap} {tk : Nat} {dr : _} (keep : ∀ b o, s₁.heap.get? b = some o → h'.get? b = some o) (hg : s₁.gens = #[]) (hn : ∀ cls, c.raises args cls = false) (hp : c.post args (.bool true) args = true) :
    GoodW c cl mean args s₁ (.ok (.ret (.bool true))) { heap := h', gens := s₁.gens, drawn := dr, toks := tk, os := s₁.os } :=
  ⟨.inl ⟨_, .bool true, [], rfl, hn, .bool true, hp, unshared_nil⟩, keep, rfl, hg⟩
end Mine
end
/-! part L2 -/
section
open PySem PySem.W PyProof.Rows
set_option maxRecDepth 100000
set_option maxHeartbeats 8000000
namespace Mine
theorem stopB {prog : Program} {w : World} {A : Around} {Q : Flow → Shared → Prop} {E : Value → Shared → Prop} {s : Shared} {a : List Expr} {b : Nat} {c : Pos} {t : List Expr} {v : Expr} {p : Pos} {rest : List Stmt} {env : Env} (h : wpAny (model prog w) A (execs (Stmt.Assign (Expr.Tuple a b c :: t) v p :: rest) env) Q E s) :
    wpAny (model prog w) A (execs (Stmt.Assign (Expr.Tuple a b c :: t) v p :: rest) env) Q E s := h
theorem stopA {prog : Program} {w : World} {A : Around} {Q : Value → Shared → Prop} {E : Value → Shared → Prop} {s : Shared} {vs : List Value} (h : wpAny (model prog w) A (call (Value.ref 227) vs) Q E s) :
    wpAny (model prog w) A (call (Value.ref 227) vs) Q E s := h
theorem post_true (ns : List Int) : PySem.Challenge.rw_tk0034_01.row.claim.post [ofPy (PyData.list (List.map PyData.int ns))] (WData.bool true) [ofPy (PyData.list (List.map PyData.int ns))] = true := by
  w_on
  wrow_post
end Mine
theorem PySem.Challenge.cw_tk0034_01_holds : PySem.Challenge.rw_tk0034_01.Holds :=
  Mine.hd (by
    k_go0
    all_goals (try k_fold)
    all_goals (repeat' ((fail_if_success (with_reducible refine Mine.stopB ?_)); (fail_if_success (with_reducible refine Mine.stopA ?_)); (first | (k_unfold; (try dsimp only)) | (k_end; wrow_close) | walk1 | (dsimp only; walk1) | (leave1; walk_say "STEP leave1"; try dsimp only) | fail "no step")))
    all_goals first
      | (with_reducible refine Mine.stopA ?_
         k_dflt (refine Mine.endA (by assumption) (by assumption) (by assumption) (Mine.roomA _) (by first | exact Mine.size_ok _ | decide) ?_))
      | (with_reducible refine Mine.stopB ?_
         k_dflt (refine Mine.endB (by assumption) (by assumption) (by assumption) rfl (Mine.roomA _) (by first | exact Mine.size_ok _ | decide) ?_))
      | skip
    all_goals intro h'' tk'' keep''
    all_goals (try k_unfold)
    all_goals (try dsimp only)
    all_goals exact Mine.good keep'' (by assumption) (fun _ => rfl) (Mine.post_true _))
end
