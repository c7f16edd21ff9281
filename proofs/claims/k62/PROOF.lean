import PyProof.Rows.All
import Wide.All
import OpenK.AllK
import Wide.FinOn
import HandS.ForMost
import HandS.Exc
import HandS.ExcOwn
import HandS.WordsExc
import HandS.Wide
import HandS.IsInst
import HandS.TupAny
import HandS.EndBits
import HandS.Zip
import HandS.TupMul
import HandS.Conv
import KE.GoesEnum
import HandS.Iter
import HandS.Deep
import HandS.SetFor
import HandS.SortInts
import HandS.Defaults
import HandS.MakeKwOnly
import HandS.Head0
import HandS.Head1
import HandS.Head2
import HandS.HeadHook1
import HandS.HeadHook2
import HandS.Strs
import PyProof.ReprLen
import PySem.Challenge.RW_agohands_k62_copies_that_fit
set_option Elab.async false
set_option linter.all false
set_option maxRecDepth 100000
set_option maxHeartbeats 2000000
/-! DCore: data, cells, the relation between data and the abstract heap, runs and what they promise. -/
namespace DL
open PySem PySem.Spec PyProof.Rows L2

/-- data: what a name may hold. lst: a list that is only read; ref: a cell that may change; adr: a thing of the written part -/
inductive D where
  | non | bl (b : Bool) | int (i : Int) | str (s : Str) | tup (ds : List D) | lst (ds : List D) | ref (n : Nat) | adr (a : Addr) | ty (n : String)
/-- a cell -/
inductive C where
  | lst (ds : List D) | dct (kvs : List (D × D)) | ins (cls : Addr) (fs : List (Str × D))
abbrev Sto := List C
/-- where the cells lie; lists in the making -/
structure Ow where
  ph : List Addr
  rs : List Addr
def Ow.has (o : Ow) (a : Addr) : Prop := a ∈ o.ph ∨ a ∈ o.rs
def Ow.rsv (o : Ow) (a : Addr) : Ow := ⟨o.ph, o.rs ++ [a]⟩
def Ow.add (o : Ow) (a : Addr) : Ow := ⟨o.ph ++ [a], o.rs⟩

/-- the written part's tuples, lists -/
def KTu (K : PySem.W.Frag) (a : Addr) (xs : List V) : Prop :=
  ∃ (o : Obj) (its : Array Value) (n : Nat), K.lookup a = some o ∧ o.cls = .type "tuple" ∧ o.data = .seq its n ∧ its.size ≤ sizeLine ∧ Vals xs its.toList
def KLi (K : PySem.W.Frag) (a : Addr) (xs : List V) : Prop :=
  ∃ (o : Obj) (its : Array Value) (n : Nat), K.lookup a = some o ∧ o.cls = .type "list" ∧ o.dict = none ∧ o.data = .seq its n ∧ its.size ≤ sizeLine ∧ Vals xs its.toList
def TuAt (K : PySem.W.Frag) (o : Ow) (H : Hp) (a : Addr) (xs : List V) : Prop := (Rd H a (.tup xs) ∧ ¬ o.has a) ∨ KTu K a xs
def LiAt (K : PySem.W.Frag) (o : Ow) (H : Hp) (a : Addr) (xs : List V) : Prop := (Rd H a (.lst xs) ∧ ¬ o.has a) ∨ KLi K a xs
mutual
inductive Rp (K : PySem.W.Frag) (o : Ow) (H : Hp) : V → D → Prop
  | non : Rp K o H .non .non
  | bl (b : Bool) : Rp K o H (.bl b) (.bl b)
  | int (i : Int) : Rp K o H (.int i) (.int i)
  | str (x : Str) : Rp K o H (.str x) (.str x)
  | ty (n : String) : Rp K o H (.ty n) (.ty n)
  | adr (a : Addr) : Rp K o H (.ref a) (.adr a)
  | ref {a : Addr} {n : Nat} : o.ph[n]? = some a → Rp K o H (.ref a) (.ref n)
  | tup {a : Addr} {xs : List V} {ds : List D} : TuAt K o H a xs → RpL K o H xs ds → Rp K o H (.ref a) (.tup ds)
  | lst {a : Addr} {xs : List V} {ds : List D} : LiAt K o H a xs → RpL K o H xs ds → Rp K o H (.ref a) (.lst ds)
inductive RpL (K : PySem.W.Frag) (o : Ow) (H : Hp) : List V → List D → Prop
  | nil : RpL K o H [] []
  | cons {v : V} {vs : List V} {d : D} {ds : List D} : Rp K o H v d → RpL K o H vs ds → RpL K o H (v :: vs) (d :: ds)
end

/-- on the way: cells may change, new cells come, new lists are laid aside -/
structure Rch (o : Ow) (H : Hp) (o' : Ow) (H' : Hp) : Prop where
  pre : ∃ l, o'.ph = o.ph ++ l ∧ ∀ a ∈ l, H a = none
  rs : ∃ l, o'.rs = o.rs ++ l ∧ ∀ a ∈ l, H a = none
  keep : ∀ a u, H a = some u → a ∉ o.ph → H' a = some u
  stay : ∀ a, H a ≠ none → H' a ≠ none
structure Step (o : Ow) (H : Hp) (o' : Ow) (H' : Hp) : Prop extends Rch o H o' H' where
  same : o'.rs = o.rs
theorem Step.mk' {o o' : Ow} {H H' : Hp} (pre : ∃ l, o'.ph = o.ph ++ l ∧ ∀ a ∈ l, H a = none) (same : o'.rs = o.rs) (keep : ∀ a u, H a = some u → a ∉ o.ph → H' a = some u) (stay : ∀ a, H a ≠ none → H' a ≠ none) : Step o H o' H' :=
  ⟨⟨pre, ⟨[], by rw [same, List.append_nil], fun _ h => nomatch h⟩, keep, stay⟩, same⟩
theorem Rch.free {o o' : Ow} {H H' : Hp} (a : Rch o H o' H') {x : Addr} (h : H' x = none) : H x = none := by
  cases q : H x with
  | none => rfl
  | some u => exact absurd h (a.stay x (by rw [q]; intro z; cases z))
theorem Step.free {o o' : Ow} {H H' : Hp} (a : Step o H o' H') {x : Addr} (h : H' x = none) : H x = none := a.toRch.free h
theorem Rch.refl (o : Ow) (H : Hp) : Rch o H o H := ⟨⟨[], by simp, fun _ h => nomatch h⟩, ⟨[], by simp, fun _ h => nomatch h⟩, fun _ _ h _ => h, fun _ h => h⟩
theorem Step.refl (o : Ow) (H : Hp) : Step o H o H := ⟨.refl o H, rfl⟩
theorem Rch.trans {o o1 o2 : Ow} {H H1 H2 : Hp} (a : Rch o H o1 H1) (b : Rch o1 H1 o2 H2) : Rch o H o2 H2 := by
  obtain ⟨l1, e1, n1⟩ := a.pre
  obtain ⟨l2, e2, n2⟩ := b.pre
  obtain ⟨l3, e3, n3⟩ := a.rs
  obtain ⟨l4, e4, n4⟩ := b.rs
  refine ⟨⟨l1 ++ l2, by rw [e2, e1, List.append_assoc], fun x hx => ?_⟩, ⟨l3 ++ l4, by rw [e4, e3, List.append_assoc], fun x hx => ?_⟩, fun x u h hn => ?_, fun x h => b.stay x (a.stay x h)⟩
  · rcases List.mem_append.mp hx with h | h
    · exact n1 x h
    · exact a.free (n2 x h)
  · rcases List.mem_append.mp hx with h | h
    · exact n3 x h
    · exact a.free (n4 x h)
  · refine b.keep x u (a.keep x u h hn) fun hm => ?_
    rw [e1] at hm
    rcases List.mem_append.mp hm with z | z
    · exact hn z
    · have := n1 x z
      rw [h] at this
      cases this
theorem Step.trans {o o1 o2 : Ow} {H H1 H2 : Hp} (a : Step o H o1 H1) (b : Step o1 H1 o2 H2) : Step o H o2 H2 := ⟨a.toRch.trans b.toRch, b.same.trans a.same⟩
theorem Rch.has {o o' : Ow} {H H' : Hp} (s : Rch o H o' H') {a : Addr} {u : HO} (h : H a = some u) (n : ¬ o.has a) : ¬ o'.has a := by
  obtain ⟨l, e, f⟩ := s.pre
  obtain ⟨l', e', f'⟩ := s.rs
  rintro (z | z)
  · rw [e] at z
    rcases List.mem_append.mp z with z | z
    · exact n (.inl z)
    · have := f a z
      rw [h] at this
      cases this
  · rw [e'] at z
    rcases List.mem_append.mp z with z | z
    · exact n (.inr z)
    · have := f' a z
      rw [h] at this
      cases this
theorem rd_step {o o' : Ow} {H H' : Hp} (s : Rch o H o' H') {a : Addr} {u : HO} (h : Rd H a u) (n : ¬ o.has a) : Rd H' a u ∧ ¬ o'.has a := by
  rcases h with h | ⟨ob, h⟩
  · exact ⟨.inl (s.keep a _ h fun z => n (.inl z)), s.has h n⟩
  · exact ⟨.inr ⟨ob, s.keep a _ h fun z => n (.inl z)⟩, s.has h n⟩
section
variable {K : PySem.W.Frag} {o o' : Ow} {H H' : Hp}
theorem TuAt.step (s : Rch o H o' H') {a : Addr} {xs : List V} (h : TuAt K o H a xs) : TuAt K o' H' a xs := by
  rcases h with ⟨h, n⟩ | h
  · exact .inl (rd_step s h n)
  · exact .inr h
theorem LiAt.step (s : Rch o H o' H') {a : Addr} {xs : List V} (h : LiAt K o H a xs) : LiAt K o' H' a xs := by
  rcases h with ⟨h, n⟩ | h
  · exact .inl (rd_step s h n)
  · exact .inr h
theorem TuAt.sq {a : Addr} {xs : List V} (h : TuAt K o H a xs) : SqT K H a xs := by
  rcases h with ⟨h, _⟩ | h
  · exact .inl h
  · exact .inr h
theorem LiAt.sq {a : Addr} {xs : List V} (h : LiAt K o H a xs) : SqL K H a xs := by
  rcases h with ⟨h, _⟩ | h
  · exact .inl h
  · exact .inr h
theorem ph_step (s : Rch o H o' H') {n : Nat} {a : Addr} (h : o.ph[n]? = some a) : o'.ph[n]? = some a := by
  obtain ⟨l, e, _⟩ := s.pre
  rw [e, List.getElem?_append_left (List.getElem?_eq_some_iff.mp h).1]
  exact h
mutual
theorem Rp.step (s : Rch o H o' H') : ∀ {v : V} {d : D}, Rp K o H v d → Rp K o' H' v d
  | _, _, .non => .non
  | _, _, .bl b => .bl b
  | _, _, .int i => .int i
  | _, _, .str x => .str x
  | _, _, .ty n => .ty n
  | _, _, .adr a => .adr a
  | _, _, .ref h => .ref (ph_step s h)
  | _, _, .tup h r => .tup (h.step s) (RpL.step s r)
  | _, _, .lst h r => .lst (h.step s) (RpL.step s r)
theorem RpL.step (s : Rch o H o' H') : ∀ {vs : List V} {ds : List D}, RpL K o H vs ds → RpL K o' H' vs ds
  | _, _, .nil => .nil
  | _, _, .cons h r => .cons (Rp.step s h) (RpL.step s r)
end
/-- a list in the making is left out of account -/
theorem has_unrsv {p a : Addr} (h : ¬ (o.rsv p).has a) : ¬ o.has a := fun z => h (z.elim .inl fun z => .inr (List.mem_append_left _ z))
theorem has_rsv {p a : Addr} (h : ¬ o.has a) (e : a ≠ p) : ¬ (o.rsv p).has a := fun z => by
  rcases z with z | z
  · exact h (.inl z)
  · rcases List.mem_append.mp z with z | z
    · exact h (.inr z)
    · exact e (by simpa using z)
mutual
theorem Rp.unrsv {p : Addr} : ∀ {v : V} {d : D}, Rp K (o.rsv p) H v d → Rp K o H v d
  | _, _, .non => .non
  | _, _, .bl b => .bl b
  | _, _, .int i => .int i
  | _, _, .str x => .str x
  | _, _, .ty n => .ty n
  | _, _, .adr a => .adr a
  | _, _, .ref h => .ref h
  | _, _, .tup h r => .tup (h.imp (fun z => ⟨z.1, has_unrsv z.2⟩) id) (RpL.unrsv r)
  | _, _, .lst h r => .lst (h.imp (fun z => ⟨z.1, has_unrsv z.2⟩) id) (RpL.unrsv r)
theorem RpL.unrsv {p : Addr} : ∀ {vs : List V} {ds : List D}, RpL K (o.rsv p) H vs ds → RpL K o H vs ds
  | _, _, .nil => .nil
  | _, _, .cons h r => .cons (Rp.unrsv h) (RpL.unrsv r)
end
theorem rd_ne {a p : Addr} {u : HO} (h : Rd H a u) (hp : H p = none) : a ≠ p := by
  rcases h with h | ⟨_, h⟩
  · exact ne_of_none h hp
  · exact ne_of_none h hp
mutual
/-- a new address may be laid aside -/
theorem Rp.rsv {p : Addr} (hp : H p = none) : ∀ {v : V} {d : D}, Rp K o H v d → Rp K (o.rsv p) H v d
  | _, _, .non => .non
  | _, _, .bl b => .bl b
  | _, _, .int i => .int i
  | _, _, .str x => .str x
  | _, _, .ty n => .ty n
  | _, _, .adr a => .adr a
  | _, _, .ref h => .ref h
  | _, _, .tup h r => .tup (h.imp (fun z => ⟨z.1, has_rsv z.2 (rd_ne z.1 hp)⟩) id) (RpL.rsv hp r)
  | _, _, .lst h r => .lst (h.imp (fun z => ⟨z.1, has_rsv z.2 (rd_ne z.1 hp)⟩) id) (RpL.rsv hp r)
theorem RpL.rsv {p : Addr} (hp : H p = none) : ∀ {vs : List V} {ds : List D}, RpL K o H vs ds → RpL K (o.rsv p) H vs ds
  | _, _, .nil => .nil
  | _, _, .cons h r => .cons (Rp.rsv hp h) (RpL.rsv hp r)
end
theorem has_add {p a : Addr} (h : ¬ (o.rsv p).has a) : ¬ (o.add p).has a := fun z => by
  rcases z with z | z
  · rcases List.mem_append.mp z with z | z
    · exact h (.inl z)
    · exact h (.inr (List.mem_append_right _ z))
  · exact h (.inr (List.mem_append_left _ z))
mutual
/-- what was laid aside becomes a cell -/
theorem Rp.toCell {p : Addr} : ∀ {v : V} {d : D}, Rp K (o.rsv p) H v d → Rp K (o.add p) H v d
  | _, _, .non => .non
  | _, _, .bl b => .bl b
  | _, _, .int i => .int i
  | _, _, .str x => .str x
  | _, _, .ty n => .ty n
  | _, _, .adr a => .adr a
  | _, _, .ref (n := n) (a := a) h => .ref (by
      have h' : o.ph[n]? = some a := h
      show (o.ph ++ [p])[n]? = some a
      rw [List.getElem?_append_left (List.getElem?_eq_some_iff.mp h').1]
      exact h')
  | _, _, .tup h r => .tup (h.imp (fun z => ⟨z.1, has_add z.2⟩) id) (RpL.toCell r)
  | _, _, .lst h r => .lst (h.imp (fun z => ⟨z.1, has_add z.2⟩) id) (RpL.toCell r)
theorem RpL.toCell {p : Addr} : ∀ {vs : List V} {ds : List D}, RpL K (o.rsv p) H vs ds → RpL K (o.add p) H vs ds
  | _, _, .nil => .nil
  | _, _, .cons h r => .cons (Rp.toCell h) (RpL.toCell r)
end
theorem RpL.length : ∀ {vs : List V} {ds : List D}, RpL K o H vs ds → vs.length = ds.length
  | _, _, .nil => rfl
  | _, _, .cons _ r => by rw [List.length_cons, List.length_cons, RpL.length r]
theorem RpL.append : ∀ {vs ws : List V} {ds es : List D}, RpL K o H vs ds → RpL K o H ws es → RpL K o H (vs ++ ws) (ds ++ es)
  | _, _, _, _, .nil, s => s
  | _, _, _, _, .cons h r, s => .cons h (RpL.append r s)
theorem RpL.get : ∀ {vs : List V} {ds : List D} {i : Nat} {d : D}, RpL K o H vs ds → ds[i]? = some d → ∃ v, vs[i]? = some v ∧ Rp K o H v d
  | _, _, _, _, .nil, e => by simp at e
  | _, _, 0, _, .cons h _, e => by simp at e; subst e; exact ⟨_, rfl, h⟩
  | _, _, i + 1, d, .cons _ r, e => by
    obtain ⟨v, h1, h2⟩ := RpL.get (i := i) (d := d) r (by simpa using e)
    exact ⟨v, by simpa using h1, h2⟩
theorem RpL.getV : ∀ {vs : List V} {ds : List D} {i : Nat} {v : V}, RpL K o H vs ds → vs[i]? = some v → ∃ d, ds[i]? = some d ∧ Rp K o H v d
  | _, _, _, _, .nil, e => by simp at e
  | _, _, 0, _, .cons h _, e => by simp at e; subst e; exact ⟨_, rfl, h⟩
  | _, _, i + 1, d, .cons _ r, e => by
    obtain ⟨v, h1, h2⟩ := RpL.getV (i := i) (v := d) r (by simpa using e)
    exact ⟨v, by simpa using h1, h2⟩
theorem RpL.set {v : V} {d : D} (h : Rp K o H v d) : ∀ {vs : List V} {ds : List D} (i : Nat), RpL K o H vs ds → RpL K o H (vs.set i v) (ds.set i d)
  | _, _, _, .nil => .nil
  | _, _, 0, .cons _ r => .cons h r
  | _, _, i + 1, .cons q r => .cons q (RpL.set h i r)
theorem RpL.take : ∀ {vs : List V} {ds : List D} (n : Nat), RpL K o H vs ds → RpL K o H (vs.take n) (ds.take n)
  | _, _, 0, _ => .nil
  | _, _, _ + 1, .nil => .nil
  | _, _, n + 1, .cons h r => .cons h (RpL.take n r)
theorem RpL.drop : ∀ {vs : List V} {ds : List D} (n : Nat), RpL K o H vs ds → RpL K o H (vs.drop n) (ds.drop n)
  | _, _, 0, r => r
  | _, _, _ + 1, .nil => .nil
  | _, _, n + 1, .cons _ r => RpL.drop n r
theorem RpL.reverse {vs : List V} {ds : List D} (h : RpL K o H vs ds) : RpL K o H vs.reverse ds.reverse := by
  induction vs generalizing ds with
  | nil => cases h; exact .nil
  | cons v vs ih =>
    cases h with
    | cons a b =>
      rw [List.reverse_cons, List.reverse_cons]
      exact (ih b).append (.cons a .nil)
end

theorem nodup_snoc {l : List Addr} {p : Addr} (h : p ∉ l) : (l ++ [p]).Nodup ↔ l.Nodup := by
  rw [List.nodup_append]
  exact ⟨fun z => z.1, fun z => ⟨z, by simp, fun a ha b hb => by
    have e : b = p := by simpa using hb
    rw [e]
    exact fun q => h (q ▸ ha)⟩⟩
/-! ### cells -/
def FsR (K : PySem.W.Frag) (o : Ow) (H : Hp) : List (Str × V) → List (Str × D) → Prop := Paired fun p q => p.1 = q.1 ∧ Rp K o H p.2 q.2
/-- keys of dicts: ints, texts; tuples of these -/
inductive KeyD : D → Key → Prop
  | int (i : Int) : KeyD (.int i) (.inl i)
  | str (x : Str) : KeyD (.str x) (.inr x)
inductive CR (K : PySem.W.Frag) (o : Ow) (H : Hp) (a : Addr) : C → Prop
  | lst {vs : List V} {ds : List D} : H a = some (.lst vs) → RpL K o H vs ds → CR K o H a (.lst ds)
  | dK {kvs : List (Key × V)} {es : List (D × D)} : H a = some (.dK kvs) → Paired (fun (p : Key × V) (q : D × D) => KeyD q.1 p.1 ∧ Rp K o H p.2 q.2) kvs es → CR K o H a (.dct es)
  | dT {kvs : List (List Key × V)} {es : List (D × D)} : H a = some (.dT kvs) → Paired (fun (p : List Key × V) (q : D × D) => (∃ ks, q.1 = .tup ks ∧ Paired KeyD ks p.1) ∧ Rp K o H p.2 q.2) kvs es → CR K o H a (.dct es)
  | ins {cls dx : Addr} {fs : List (Str × V)} {gs : List (Str × D)} : H a = some (.ins cls dx fs) → FsR K o H fs gs → CR K o H a (.ins cls gs)
theorem CR.there {K : PySem.W.Frag} {o : Ow} {H : Hp} {a : Addr} {c : C} (h : CR K o H a c) : H a ≠ none := by
  cases h with
  | lst e _ => rw [e]; intro z; cases z
  | dK e _ => rw [e]; intro z; cases z
  | dT e _ => rw [e]; intro z; cases z
  | ins e _ => rw [e]; intro z; cases z
/-- the content moves on where the cell itself stands as it stood -/
theorem CR.step {K : PySem.W.Frag} {o o' : Ow} {H H' : Hp} {a : Addr} {c : C} (s : Rch o H o' H') (e : H' a = H a) (h : CR K o H a c) : CR K o' H' a c := by
  cases h with
  | lst q r => exact .lst (e.trans q) (r.step s)
  | dK q r => exact .dK (e.trans q) (Paired.mapP r fun _ _ z => ⟨z.1, z.2.step s⟩)
  | dT q r => exact .dT (e.trans q) (Paired.mapP r fun _ _ z => ⟨z.1, z.2.step s⟩)
  | ins q r => exact .ins (e.trans q) (Paired.mapP r fun _ _ z => ⟨z.1, z.2.step s⟩)

structure StR (K : PySem.W.Frag) (o : Ow) (st : Sto) (H : Hp) : Prop where
  len : o.ph.length = st.length
  nd : o.ph.Nodup
  cell : ∀ (n : Nat) (a : Addr) (c : C), o.ph[n]? = some a → st[n]? = some c → CR K o H a c
  aside : ∀ a ∈ o.rs, a ∉ o.ph ∧ H a ≠ none
  rnd : o.rs.Nodup
section
variable {K : PySem.W.Frag} {o o' : Ow} {H H' : Hp} {st st' : Sto}
theorem StR.at (h : StR K o st H) {n : Nat} {c : C} (e : st[n]? = some c) : ∃ a, o.ph[n]? = some a ∧ CR K o H a c := by
  have hn : n < o.ph.length := by rw [h.len]; exact (List.getElem?_eq_some_iff.mp e).1
  exact ⟨_, List.getElem?_eq_getElem hn, h.cell n _ c (List.getElem?_eq_getElem hn) e⟩
theorem StR.there (h : StR K o st H) {a : Addr} (ha : o.has a) : H a ≠ none := by
  rcases ha with ha | ha
  · obtain ⟨n, hn, e⟩ := List.getElem_of_mem ha
    have hs : n < st.length := by rw [← h.len]; exact hn
    exact (h.cell n a _ (by rw [List.getElem?_eq_getElem hn, e]) (List.getElem?_eq_getElem hs)).there
  · exact (h.aside a ha).2
theorem StR.fresh (h : StR K o st H) {p : Addr} (hp : H p = none) : ¬ o.has p := fun z => h.there z hp
/-- a new thing of no cell is laid -/
theorem step_new {p : Addr} {u : HO} (hp : H p = none) : Step o H o (upd H p u) :=
  .mk' ⟨[], by simp, fun _ h => nomatch h⟩ rfl (fun a w h _ => by rw [upd_ne (ne_of_none h hp)]; exact h) (fun a h => by
    by_cases e : a = p
    · rw [e, upd_same]; intro z; cases z
    · rw [upd_ne e]; exact h)
theorem StR.new (h : StR K o st H) {p : Addr} {u : HO} (hp : H p = none) : StR K o st (upd H p u) :=
  ⟨h.len, h.nd, fun n a c e1 e2 => by
    have q := h.cell n a c e1 e2
    exact q.step (step_new hp).toRch (upd_ne (fun z => q.there (by rw [z]; exact hp))), fun a ha => ⟨(h.aside a ha).1, (step_new (o := o) hp).stay a (h.aside a ha).2⟩, h.rnd⟩
/-- .. and laid aside -/
theorem StR.rsv (h : StR K o st H) {p : Addr} {u : HO} (hp : H p = none) : StR K (o.rsv p) st (upd H p u) := by
  have hs := h.new (u := u) hp
  have hr : p ∉ o.rs := fun z => h.fresh hp (.inr z)
  refine ⟨h.len, h.nd, fun n a c e1 e2 => ?_, fun a ha => ?_, (nodup_snoc hr).mpr h.rnd⟩
  · have q := h.cell n a c e1 e2
    have ne : a ≠ p := fun z => q.there (by rw [z]; exact hp)
    have e : upd H p u a = H a := upd_ne ne
    have s : Rch (o.rsv p) H (o.rsv p) (upd H p u) := ⟨⟨[], by simp, fun _ h => nomatch h⟩, ⟨[], by simp, fun _ h => nomatch h⟩, (step_new (o := o) hp).keep, (step_new (o := o) hp).stay⟩
    cases q with
    | lst q r => exact .lst (e.trans q) ((r.rsv hp).step s)
    | dK q r => exact .dK (e.trans q) (Paired.mapP r fun _ _ z => ⟨z.1, (z.2.rsv hp).step s⟩)
    | dT q r => exact .dT (e.trans q) (Paired.mapP r fun _ _ z => ⟨z.1, (z.2.rsv hp).step s⟩)
    | ins q r => exact .ins (e.trans q) (Paired.mapP r fun _ _ z => ⟨z.1, (z.2.rsv hp).step s⟩)
  · rcases List.mem_append.mp ha with z | z
    · exact hs.aside a z
    · have e : a = p := by simpa using z
      rw [e]
      exact ⟨fun m => h.fresh hp (.inl m), by rw [upd_same]; intro z; cases z⟩
/-- taken out of what lies aside -/
theorem StR.unrsv {p : Addr} (h : StR K (o.rsv p) st H) : StR K o st H :=
  ⟨h.len, h.nd, fun n a c e1 e2 => by
    cases h.cell n a c e1 e2 with
    | lst q r => exact .lst q r.unrsv
    | dK q r => exact .dK q (Paired.mapP r fun _ _ z => ⟨z.1, z.2.unrsv⟩)
    | dT q r => exact .dT q (Paired.mapP r fun _ _ z => ⟨z.1, z.2.unrsv⟩)
    | ins q r => exact .ins q (Paired.mapP r fun _ _ z => ⟨z.1, z.2.unrsv⟩), fun a ha => h.aside a (List.mem_append_left _ ha), h.rnd.sublist (List.sublist_append_left _ _)⟩
/-- what lies aside becomes the next cell -/
theorem StR.toCell {p : Addr} {c : C} (h : StR K (o.rsv p) st H) (hc : CR K (o.add p) H p c) : StR K (o.add p) (st ++ [c]) H := by
  have hp := h.aside p (List.mem_append_right _ (List.mem_singleton_self p))
  have hp1 : p ∉ o.ph := hp.1
  refine ⟨by show (o.ph ++ [p]).length = _; rw [List.length_append, List.length_append]; exact congrArg (· + 1) h.len, (nodup_snoc hp1).mpr h.nd, fun n a c' e1 e2 => ?_, fun a ha => ?_, h.rnd.sublist (List.sublist_append_left _ _)⟩
  · have hl : o.ph.length = st.length := h.len
    by_cases hn : n < o.ph.length
    · have e1' : o.ph[n]? = some a := by
        have : (o.ph ++ [p])[n]? = some a := e1
        rw [List.getElem?_append_left hn] at this
        exact this
      rw [List.getElem?_append_left (by omega)] at e2
      cases h.cell n a c' e1' e2 with
      | lst q r => exact .lst q r.toCell
      | dK q r => exact .dK q (Paired.mapP r fun _ _ z => ⟨z.1, z.2.toCell⟩)
      | dT q r => exact .dT q (Paired.mapP r fun _ _ z => ⟨z.1, z.2.toCell⟩)
      | ins q r => exact .ins q (Paired.mapP r fun _ _ z => ⟨z.1, z.2.toCell⟩)
    · have e1' : (o.ph ++ [p])[n]? = some a := e1
      rw [List.getElem?_append_right (by omega)] at e1' e2
      have hz : n - o.ph.length = 0 := by
        have := (List.getElem?_eq_some_iff.mp e1').1
        simp at this
        omega
      rw [hz] at e1'
      rw [← hl, hz] at e2
      simp at e1' e2
      subst e1'
      subst e2
      exact hc
  · have ha' : a ∈ o.rs := ha
    have q := h.aside a (List.mem_append_left _ ha')
    refine ⟨fun m => ?_, q.2⟩
    have m' : a ∈ o.ph ++ [p] := m
    rcases List.mem_append.mp m' with z | z
    · exact q.1 z
    · have e : a = p := by simpa using z
      subst e
      have hr : (o.rs ++ [a]).Nodup := h.rnd
      rw [List.nodup_append] at hr
      exact hr.2.2 a ha' a (List.mem_singleton_self a) rfl
end
end DL

set_option Elab.async false
set_option linter.all false
set_option maxRecDepth 100000
set_option maxHeartbeats 2000000
/-! DRun: runs over data, what a reading has to do with a run, the judgements' pairs. -/
namespace DL
open PySem PySem.Spec PyProof.Rows L2

structure Ex where
  cls : Value
  fs : Option (List (Str × D))
inductive R (α : Type) where
  | ok (a : α) (st : Sto) | ex (e : Ex) (st : Sto) | bad
namespace R
variable {α β : Type}
def bind (r : R α) (k : α → Sto → R β) : R β := match r with
  | .ok a st => k a st
  | .ex e st => .ex e st
  | .bad => .bad
end R
abbrev En := List (Option D)
abbrev ME := En → Sto → R D
abbrev MT := En → Sto → R Bool
abbrev MA := En → Sto → R (List D)
/-- what a statement ends with -/
inductive Fl where
  | nx (r : En) | rt (d : D) | bk (r : En) | ct (r : En) | xc (e : Ex) (r : En)
abbrev MS := En → Sto → R Fl
def R.bindS {α : Type} (r : R α) (rho : En) (k : α → Sto → R Fl) : R Fl := match r with
  | .ok a st => k a st
  | .ex e st => .ok (.xc e rho) st
  | .bad => .bad

def Wp (K : PySem.W.Frag) (o : Ow) (H : Hp) {α : Type} (r : R α) (E : Ex → Ow → Hp → Prop) (Q : α → Sto → Ow → Hp → Prop) : Prop := match r with
  | .ok a st' => ∀ o' H', Step o H o' H' → StR K o' st' H' → Q a st' o' H'
  | .ex e st' => ∀ o' H', Step o H o' H' → StR K o' st' H' → E e o' H'
  | .bad => False
section
variable {K : PySem.W.Frag} {o o' : Ow} {H H' : Hp} {α β : Type} {E E' : Ex → Ow → Hp → Prop} {Q Q' : α → Sto → Ow → Hp → Prop} {Qb : β → Sto → Ow → Hp → Prop}
theorem Wp.base {r : R α} (s : Step o H o' H') (h : Wp K o H r E Q) : Wp K o' H' r E Q := by
  cases r with
  | ok a st => exact fun o2 H2 s2 hs => h o2 H2 (s.trans s2) hs
  | ex e st => exact fun o2 H2 s2 hs => h o2 H2 (s.trans s2) hs
  | bad => exact h
theorem Wp.imp {r : R α} (h : Wp K o H r E Q) (hE : ∀ e o H, E e o H → E' e o H) (hQ : ∀ a st o2 H2, Step o H o2 H2 → StR K o2 st H2 → Q a st o2 H2 → Q' a st o2 H2) : Wp K o H r E' Q' := by
  cases r with
  | ok a st => exact fun o2 H2 s2 hs => hQ _ _ _ _ s2 hs (h o2 H2 s2 hs)
  | ex e st => exact fun o2 H2 s2 hs => hE _ _ _ (h o2 H2 s2 hs)
  | bad => exact h
theorem Wp.bind {r : R α} {k : α → Sto → R β} (h : Wp K o H (r.bind k) E Qb) : Wp K o H r E (fun a st' o' H' => Wp K o' H' (k a st') E Qb) := by
  cases r with
  | ok a st =>
    intro o2 H2 s2 hs
    exact Wp.base s2 (show Wp K o H (k a st) E Qb from h)
  | ex e st => exact h
  | bad => exact h
theorem Wp.ok {a : α} {st : Sto} (hs : StR K o st H) (h : Wp K o H (.ok a st) E Q) : Q a st o H := h o H (.refl o H) hs
end

structure EnvR (K : PySem.W.Frag) (o : Ow) (H : Hp) (rho : En) (sg : L2.St) : Prop where
  len : rho.length = sg.length
  get : ∀ (i : Nat) (d : D), rho[i]? = some (some d) → ∃ v, sg[i]? = some (some v) ∧ Rp K o H v d
/-- the dict of an exception in the air -/
def ExAt (K : PySem.W.Frag) (o : Ow) (H : Hp) (e : Ex) (d : Option Addr) : Prop := match e.fs, d with
  | none, none => True
  | some gs, some a => ∃ fs, H a = some (.xd fs) ∧ ¬ o.has a ∧ FsR K o H fs gs
  | _, _ => False
def EW (K : PySem.W.Frag) (W : WX) (sg : L2.St) : Ex → Ow → Hp → Prop := fun e o H => ∀ d, ExAt K o H e d → W e.cls d sg H
/-- no exception is let out -/
abbrev W0 : WX := fun _ _ _ _ => False
section
variable {K : PySem.W.Frag} {o o' : Ow} {H H' : Hp} {rho : En} {sg : L2.St}
theorem EnvR.step (h : EnvR K o H rho sg) (s : Rch o H o' H') : EnvR K o' H' rho sg :=
  ⟨h.len, fun i d e => let ⟨v, e1, r⟩ := h.get i d e; ⟨v, e1, r.step s⟩⟩
theorem EnvR.set (h : EnvR K o H rho sg) {v : V} {d : D} (r : Rp K o H v d) (i : Nat) : EnvR K o H (rho.set i (some d)) (sg.set i (some v)) := by
  refine ⟨by rw [List.length_set, List.length_set]; exact h.len, fun j d' e => ?_⟩
  by_cases hj : i = j
  · subst hj
    by_cases hi : i < rho.length
    · rw [List.getElem?_set_self hi] at e
      cases e
      exact ⟨v, List.getElem?_set_self (by rw [← h.len]; exact hi), r⟩
    · rw [List.getElem?_eq_none (by rw [List.length_set]; omega)] at e
      cases e
  · rw [List.getElem?_set_ne hj] at e
    obtain ⟨w, e1, q⟩ := h.get j d' e
    exact ⟨w, by rw [List.getElem?_set_ne hj]; exact e1, q⟩
def wipeR (rho : En) : List Nat → En
  | [] => rho
  | v :: vs => (wipeR rho vs).set v none
theorem EnvR.unset (h : EnvR K o H rho sg) (i : Nat) : EnvR K o H (rho.set i none) (sg.set i none) := by
  refine ⟨by rw [List.length_set, List.length_set]; exact h.len, fun j d' e => ?_⟩
  by_cases hj : i = j
  · subst hj
    by_cases hi : i < rho.length
    · rw [List.getElem?_set_self hi] at e
      cases e
    · rw [List.getElem?_eq_none (by rw [List.length_set]; omega)] at e
      cases e
  · rw [List.getElem?_set_ne hj] at e
    obtain ⟨w, e1, q⟩ := h.get j d' e
    exact ⟨w, by rw [List.getElem?_set_ne hj]; exact e1, q⟩
theorem EnvR.wipe (h : EnvR K o H rho sg) : ∀ vs : List Nat, EnvR K o H (wipeR rho vs) (L2.wipe sg vs)
  | [] => h
  | v :: vs => (EnvR.wipe h vs).unset v
theorem EnvR.rsv (h : EnvR K o H rho sg) {p : Addr} (hp : H p = none) : EnvR K (o.rsv p) H rho sg :=
  ⟨h.len, fun i d e => let ⟨v, e1, r⟩ := h.get i d e; ⟨v, e1, r.rsv hp⟩⟩
theorem EnvR.unrsv {p : Addr} (h : EnvR K (o.rsv p) H rho sg) : EnvR K o H rho sg :=
  ⟨h.len, fun i d e => let ⟨v, e1, r⟩ := h.get i d e; ⟨v, e1, r.unrsv⟩⟩
end

/-! ### a reading does what a run says -/
def Rt (K : PySem.W.Frag) (W : WX) (t : TE) (m : ME) : Prop := ∀ (rho : En) (sg : L2.St) (o : Ow) (st : Sto) (H : Hp) (Q : VK), EnvR K o H rho sg → StR K o st H →
  Wp K o H (m rho st) (EW K W sg) (fun d _ o' H' => ∀ v, Rp K o' H' v d → Q v H') → t sg H Q
def RtT (K : PySem.W.Frag) (W : WX) (t : TT) (m : MT) : Prop := ∀ (rho : En) (sg : L2.St) (o : Ow) (st : Sto) (H : Hp) (Q : Bool → Hp → Prop), EnvR K o H rho sg → StR K o st H →
  Wp K o H (m rho st) (EW K W sg) (fun b _ o' H' => Q b H') → t sg H Q
def RtA (K : PySem.W.Frag) (W : WX) (t : TA) (m : MA) : Prop := ∀ (rho : En) (sg : L2.St) (o : Ow) (st : Sto) (H : Hp) (Q : List V → Hp → Prop), EnvR K o H rho sg → StR K o st H →
  Wp K o H (m rho st) (EW K W sg) (fun ds _ o' H' => ∀ vs, RpL K o' H' vs ds → Q vs H') → t sg H Q
/-- a new list, lying aside -/
def RtF (K : PySem.W.Frag) (W : WX) (t : TE) (m : MA) : Prop := ∀ (rho : En) (sg : L2.St) (o : Ow) (st : Sto) (H : Hp) (Q : VK), EnvR K o H rho sg → StR K o st H →
  (match m rho st with
   | .ok ds st' => ∀ o' H' p vs, Step o H o' H' → H p = none → StR K (o'.rsv p) st' H' → H' p = some (.lst vs) → RpL K (o'.rsv p) H' vs ds → Q (.ref p) H'
   | .ex e st' => ∀ o' H', Step o H o' H' → StR K o' st' H' → EW K W sg e o' H'
   | .bad => False) → t sg H Q
def SQ (K : PySem.W.Frag) (D : Ends) (W : WX) (f : Fl) (o : Ow) (H : Hp) : Prop := match f with
  | .nx r => ∀ sg, EnvR K o H r sg → D.nx sg H
  | .bk r => ∀ sg, EnvR K o H r sg → D.bk sg H
  | .ct r => ∀ sg, EnvR K o H r sg → D.ct sg H
  | .rt d => ∀ v, Rp K o H v d → D.rt v H
  | .xc e r => ∀ sg d, EnvR K o H r sg → ExAt K o H e d → W e.cls d sg H
def RtS (K : PySem.W.Frag) (W : WX) (t : TS) (m : MS) : Prop := ∀ (rho : En) (sg : L2.St) (o : Ow) (st : Sto) (H : Hp) (D : Ends), EnvR K o H rho sg → StR K o st H →
  Wp K o H (m rho st) (fun _ _ _ => False) (fun f _ o' H' => SQ K D W f o' H') → t D sg H
abbrev MG := D → En → Sto → R En
def RtG (K : PySem.W.Frag) (g : TG) (m : MG) : Prop := ∀ (rho : En) (sg : L2.St) (o : Ow) (st : Sto) (H : Hp) (v : V) (d : D) (Q : L2.St → Hp → Prop), EnvR K o H rho sg → StR K o st H → Rp K o H v d →
  Wp K o H (m d rho st) (fun _ _ _ => False) (fun r _ o' H' => ∀ sg', EnvR K o' H' r sg' → Q sg' H') → g v sg H Q

/-! ### the pairs -/
structure PD (X : Cx) (W : WX) (e : Expr) (t : TE) (m : ME) : Prop where
  pe : PE X e t
  rt : Rt X.K W t m
structure PDT (X : Cx) (W : WX) (e : Expr) (t : TT) (m : MT) : Prop where
  pe : PT X e t
  rt : RtT X.K W t m
structure PDW (X : Cx) (W : WX) (e : Expr) (t : TT) (m : MT) : Prop where
  pe : PW X e t
  rt : RtT X.K W t m
structure PDA (X : Cx) (W : WX) (es : List Expr) (t : TA) (m : MA) : Prop where
  pe : PA X es t
  rt : RtA X.K W t m
structure PDF (X : Cx) (W : WX) (e : Expr) (t : TE) (m : MA) : Prop where
  pe : PE X e t
  rt : RtF X.K W t m
structure PDS (X : Cx) (W : WX) (s : Stmt) (t : TS) (m : MS) : Prop where
  pe : PS X s t
  rt : RtS X.K W t m
structure PDB (X : Cx) (W : WX) (s : List Stmt) (t : TS) (m : MS) : Prop where
  pe : PSs X s t
  rt : RtS X.K W t m
structure PDG (X : Cx) (e : Expr) (t : TG) (m : MG) : Prop where
  pe : PG X e t
  rt : RtG X.K t m
/-- what every rule may ask of the context -/
structure Cok (X : Cx) (W : WX) (k : Nat) : Prop where
  tk : Takes X W
  po : PassesOwn (model X.prog X.w) X.A X.env X.xe
  calm : X.calm = true
  nd : X.N.Nodup
  room : Room k X.A
  gd : X.A.guards = some []
theorem Cok.blk {X : Cx} {W : WX} {k : Nat} (c : Cok X W k) (s : Shared) (H : Hp) (scope : Scope) (cenv : Env) (fp : List Addr) : Cok (X.blk s H scope cenv fp) W0 k :=
  ⟨takes0, PassesOwn.never, c.calm, c.nd, c.room, c.gd⟩
theorem Cok.hu {X : Cx} {W : WX} {k : Nat} (c : Cok X W k) : X.A.units + 1 < cLine := hu_of c.room

/-! ### runs of expressions -/
def mVar (i : Nat) : ME := fun rho st => match rho[i]? with
  | some (some d) => .ok d st
  | _ => .bad
def mC (d : D) : ME := fun _ st => .ok d st
def mNil : MA := fun _ st => .ok [] st
def mCons (m : ME) (ms : MA) : MA := fun rho st => (m rho st).bind fun d st => (ms rho st).bind fun ds st => .ok (d :: ds) st
def mOp (g : D → D → Sto → R D) (a b : ME) : ME := fun rho st => (a rho st).bind fun x st => (b rho st).bind fun y st => g x y st
def mUn (g : D → Sto → R D) (a : ME) : ME := fun rho st => (a rho st).bind fun x st => g x st
def mB (a : ME) : MT := fun rho st => (a rho st).bind fun x st => match x with
  | .bl b => .ok b st
  | _ => .bad
def mAnd (a b : MT) : MT := fun rho st => (a rho st).bind fun x st => if x = true then b rho st else .ok false st
def mOr (a b : MT) : MT := fun rho st => (a rho st).bind fun x st => if x = true then .ok true st else b rho st
def mNot (a : MT) : MT := fun rho st => (a rho st).bind fun x st => .ok (!x) st
def mIf (c : MT) (a b : ME) : ME := fun rho st => (c rho st).bind fun x st => if x = true then a rho st else b rho st
/-- values of and, or, not (bools) -/
def mAndV (a b : ME) : ME := fun rho st => (a rho st).bind fun x st => match x with
  | .bl true => b rho st
  | .bl false => .ok (.bl false) st
  | _ => .bad
def mOrV (a b : ME) : ME := fun rho st => (a rho st).bind fun x st => match x with
  | .bl true => .ok (.bl true) st
  | .bl false => b rho st
  | _ => .bad
def mNotV (a : ME) : ME := fun rho st => (a rho st).bind fun x st => match x with
  | .bl b => .ok (.bl (!b)) st
  | _ => .bad
def mTup (a : MA) : ME := fun rho st => (a rho st).bind fun ds st => if ds.length ≤ sizeLine then .ok (.tup ds) st else .bad
def mLst (a : MA) : MA := fun rho st => (a rho st).bind fun ds st => if ds.length ≤ sizeLine then .ok ds st else .bad
/-- a new list, read only | a cell -/
def mFix (a : MA) : ME := fun rho st => (a rho st).bind fun ds st => .ok (.lst ds) st
def mNew (a : MA) : ME := fun rho st => (a rho st).bind fun ds st => .ok (.ref st.length) (st ++ [.lst ds])
def mCall (g : List D → Sto → R D) (a : MA) : ME := fun rho st => (a rho st).bind fun ds st => g ds st
/-- a call by values, of a built-in function -/
def mFn (g : List D → Sto → R D) (a : MA) : ME := mCall g a

/-! ### rules: expressions -/
section
variable {X : Cx} {W : WX} {k : Nat} {pos : Pos} {a b c e : Expr} {es : List Expr} {ta tb te : TE} {ma mb me : ME} {tA tB' tC' : TT} {mA mB' mC' : MT}
theorem pd_var {i : Nat} {x : Str} {pos : Pos} (hN : X.N[i]? = some x := by rfl) (hv : Vis X.env.scope x := by first | exact Or.inl rfl | exact Or.inr (Or.inl rfl) | exact Or.inr (Or.inr rfl)) (hd : (x == ("__debug__" : Str)) = false := by decide)
    (hcd : (x == ("__classdict__" : Str)) = false := by decide) : PD X W (.Name x pos) (tVar i) (mVar i) := by
  refine ⟨pe_var hN hv hd hcd, fun rho sg o st H Q he hs h => ?_⟩
  unfold mVar at h
  cases e : rho[i]? with
  | none => rw [e] at h; exact h.elim
  | some q =>
    cases q with
    | none => rw [e] at h; exact h.elim
    | some d =>
      rw [e] at h
      obtain ⟨v, e1, r⟩ := he.get i d e
      exact ⟨v, e1, Wp.ok hs h v r⟩
theorem rt_c {v : V} {d : D} {K : PySem.W.Frag} (r : ∀ o H, Rp K o H v d) : Rt K W (L2.tC v) (mC d) := fun rho sg o st H Q he hs h => Wp.ok hs h v (r o H)
theorem pd_int {i j} : PD X W (.Constant (.int i) j pos) (L2.tC (.int i)) (mC (.int i)) := ⟨pe_int, rt_c fun _ _ => .int i⟩
theorem pd_bl {i j} : PD X W (.Constant (.bool i) j pos) (L2.tC (.bl i)) (mC (.bl i)) := ⟨pe_bl, rt_c fun _ _ => .bl i⟩
theorem pd_non {j} : PD X W (.Constant .none j pos) (L2.tC .non) (mC .non) := ⟨pe_non, rt_c fun _ _ => .non⟩
theorem pd_str {i j} : PD X W (.Constant (.str i) j pos) (L2.tC (.str i)) (mC (.str i)) := ⟨pe_str, rt_c fun _ _ => .str i⟩
/-- a constant int of the module -/
theorem pd_gint {x : Str} {i : Int} {u : Value} (hm : X.mg x = some u) (r : RelV (.int i) u) (hg : Gl X x := by rfl) (hd : (x == ("__debug__" : Str)) = false := by decide) : PD X W (.Name x pos) (L2.tC (.int i)) (mC (.int i)) := ⟨pe_glob hg hm r hd, rt_c fun _ _ => .int i⟩
theorem pd_gstr {x : Str} {i : Str} {u : Value} (hm : X.mg x = some u) (r : RelV (.str i) u) (hg : Gl X x := by rfl) (hd : (x == ("__debug__" : Str)) = false := by decide) : PD X W (.Name x pos) (L2.tC (.str i)) (mC (.str i)) := ⟨pe_glob hg hm r hd, rt_c fun _ _ => .str i⟩
/-- a built-in type as a value -/
theorem pd_ty {x : Str} {n : String} (hm : X.mg x = none) (hv : bootBuiltins x = some (.type n)) (hg : Gl X x := by rfl) (hn : x ≠ "__name__" := by decide) (hd : (x == ("__debug__" : Str)) = false := by decide) :
    PD X W (.Name x pos) (L2.tC (.ty n)) (mC (.ty n)) := ⟨pe_bltn hg hm hv rfl hn hd, rt_c fun _ _ => .ty n⟩
theorem pda_nil : PDA X W [] tNil mNil := ⟨pa_nil, fun rho sg o st H Q he hs h => Wp.ok hs h [] .nil⟩
theorem pda_cons {t : TA} {m : MA} (h1 : PD X W e te me) (h2 : PDA X W es t m) (hst : starEach (e :: es) X.env = (false, eval e X.env) :: starEach es X.env := by rfl) : PDA X W (e :: es) (tCons te t) (mCons me m) := by
  refine ⟨pa_cons h1.pe h2.pe hst, fun rho sg o st H Q he hs h => ?_⟩
  refine h1.rt rho sg o st H _ he hs ((Wp.bind h).imp (fun _ _ _ z => z) fun d st1 o1 H1 s1 hs1 h => ?_)
  intro v rv
  refine h2.rt rho sg o1 st1 H1 _ (he.step s1.toRch) hs1 ((Wp.bind h).imp (fun _ _ _ z => z) fun ds st2 o2 H2 s2 hs2 h => ?_)
  intro vs rvs
  exact Wp.ok hs2 h (v :: vs) (.cons (rv.step s2.toRch) rvs)
/-- a two-place operation by values -/
def OpD (K : PySem.W.Frag) (r : R2) (g : D → D → Sto → R D) : Prop := ∀ (o : Ow) (st : Sto) (H : Hp) (v w : V) (x y : D) (Q : VK), StR K o st H → Rp K o H v x → Rp K o H w y →
  Wp K o H (g x y st) (fun _ _ _ => False) (fun d _ o' H' => ∀ v, Rp K o' H' v d → Q v H') → r v w H Q
def UnD (K : PySem.W.Frag) (r : V → Hp → VK → Prop) (g : D → Sto → R D) : Prop := ∀ (o : Ow) (st : Sto) (H : Hp) (v : V) (x : D) (Q : VK), StR K o st H → Rp K o H v x →
  Wp K o H (g x st) (fun _ _ _ => False) (fun d _ o' H' => ∀ v, Rp K o' H' v d → Q v H') → r v H Q
def FnD (K : PySem.W.Frag) (r : List V → Hp → VK → Prop) (g : List D → Sto → R D) : Prop := ∀ (o : Ow) (st : Sto) (H : Hp) (vs : List V) (ds : List D) (Q : VK), StR K o st H → RpL K o H vs ds →
  Wp K o H (g ds st) (fun _ _ _ => False) (fun d _ o' H' => ∀ v, Rp K o' H' v d → Q v H') → r vs H Q
/-- .. that never raises -/
def NoEx (g : D → D → Sto → R D) : Prop := ∀ x y st e st', g x y st ≠ .ex e st'
theorem Wp.noE {K : PySem.W.Frag} {o : Ow} {H : Hp} {α : Type} {r : R α} {E E' : Ex → Ow → Hp → Prop} {Q : α → Sto → Ow → Hp → Prop} (n : ∀ e st', r ≠ .ex e st') (h : Wp K o H r E Q) : Wp K o H r E' Q := by
  cases r with
  | ok a st => exact h
  | ex e st => exact absurd rfl (n e st)
  | bad => exact h
theorem rt_op {K : PySem.W.Frag} {r : R2} {g : D → D → Sto → R D} (hg : OpD K r g) (n : NoEx g) (ha : Rt K W ta ma) (hb : Rt K W tb mb) : Rt K W (tOp r ta tb) (mOp g ma mb) := by
  intro rho sg o st H Q he hs h
  refine ha rho sg o st H _ he hs ((Wp.bind h).imp (fun _ _ _ z => z) fun d st1 o1 H1 s1 hs1 h => ?_)
  intro v rv
  refine hb rho sg o1 st1 H1 _ (he.step s1.toRch) hs1 ((Wp.bind h).imp (fun _ _ _ z => z) fun d2 st2 o2 H2 s2 hs2 h => ?_)
  intro w rw'
  exact hg o2 st2 H2 v w d d2 Q hs2 (rv.step s2.toRch) rw' (h.noE (n _ _ _))
theorem pd_op {op : Operator} {r : R2} {g : D → D → Sto → R D} (ho : OpR X (binaryOp op) r) (hg : OpD X.K r g) (n : NoEx g) (ha : PD X W a ta ma) (hb : PD X W b tb mb) : PD X W (.BinOp a op b pos) (tOp r ta tb) (mOp g ma mb) :=
  ⟨pe_op ho ha.pe hb.pe, rt_op hg n ha.rt hb.rt⟩
theorem pd_cmp {op : CmpOp} {r : R2} {g : D → D → Sto → R D} (ho : OpR X (compareOp op) r) (hg : OpD X.K r g) (n : NoEx g) (ha : PD X W a ta ma) (hb : PD X W b tb mb) (hm : behindInMarks op b = false := by first | exact nobehind _ (by decide) (by decide) | rfl) :
    PD X W (.Compare a [op] [b] pos) (tOp r ta tb) (mOp g ma mb) := ⟨pe_cmpR ho ha.pe hb.pe hm, rt_op hg n ha.rt hb.rt⟩
theorem rt_un {K : PySem.W.Frag} {r : V → Hp → VK → Prop} {g : D → Sto → R D} (hg : UnD K r g) (n : ∀ x st e st', g x st ≠ .ex e st') (ha : Rt K W ta ma) : Rt K W (tUn r ta) (mUn g ma) := by
  intro rho sg o st H Q he hs h
  refine ha rho sg o st H _ he hs ((Wp.bind h).imp (fun _ _ _ z => z) fun d st1 o1 H1 s1 hs1 h => ?_)
  intro v rv
  exact hg o1 st1 H1 v d Q hs1 rv (h.noE (n _ _))
theorem pd_un {op : UnaryOp} {r : V → Hp → VK → Prop} {g : D → Sto → R D} (ho : UnR X (unaryOp op) r) (hg : UnD X.K r g) (n : ∀ x st e st', g x st ≠ .ex e st') (ha : PD X W a ta ma) : PD X W (.UnaryOp op a pos) (tUn r ta) (mUn g ma) :=
  ⟨pe_un ho ha.pe, rt_un hg n ha.rt⟩
/-- a value that is a bool, as a test -/
theorem rt_B {K : PySem.W.Frag} (ha : Rt K W ta ma) : RtT K W (tB ta) (mB ma) := by
  intro rho sg o st H Q he hs h
  refine ha rho sg o st H _ he hs ((Wp.bind h).imp (fun _ _ _ z => z) fun d st1 o1 H1 s1 hs1 h => ?_)
  intro v rv
  cases rv with
  | bl b => exact ⟨b, rfl, Wp.ok hs1 h⟩
  | _ => exact False.elim h
theorem pdt_val (h : PD X W e te me) (he : ∀ whole, isTrue e X.env whole = (do let v ← whole; standAt e.pos; holding [v] (truthy v)) := by intro _; rfl) : PDT X W e (tB te) (mB me) := ⟨pt_val h.pe he, rt_B h.rt⟩
theorem pdt_cmp {op : CmpOp} {r : R2} {g : D → D → Sto → R D} (ho : OpR X (compareOp op) r) (hg : OpD X.K r g) (n : NoEx g) (ha : PD X W a ta ma) (hb : PD X W b tb mb) (hm : behindInMarks op b = false := by first | exact nobehind _ (by decide) (by decide) | rfl) :
    PDT X W (.Compare a [op] [b] pos) (tTest (tOp r ta tb)) (mB (mOp g ma mb)) := ⟨pt_cmpR ho ha.pe hb.pe hm, rt_B (rt_op hg n ha.rt hb.rt)⟩
theorem rt_and {K : PySem.W.Frag} (ha : RtT K W tA mA) (hb : RtT K W tB' mB') : RtT K W (tAnd tA tB') (mAnd mA mB') := by
  intro rho sg o st H Q he hs h
  refine ha rho sg o st H _ he hs ((Wp.bind h).imp (fun _ _ _ z => z) fun d st1 o1 H1 s1 hs1 h => ?_)
  cases d with
  | true => exact hb rho sg o1 st1 H1 _ (he.step s1.toRch) hs1 h
  | false => exact Wp.ok hs1 h
theorem rt_or {K : PySem.W.Frag} (ha : RtT K W tA mA) (hb : RtT K W tB' mB') : RtT K W (tOr tA tB') (mOr mA mB') := by
  intro rho sg o st H Q he hs h
  refine ha rho sg o st H _ he hs ((Wp.bind h).imp (fun _ _ _ z => z) fun d st1 o1 H1 s1 hs1 h => ?_)
  cases d with
  | true => exact Wp.ok hs1 h
  | false => exact hb rho sg o1 st1 H1 _ (he.step s1.toRch) hs1 h
theorem pdw_and1 (ha : PDT X W a tA mA) : PDW X W (.BoolOp .And [a] pos) tA mA := ⟨pw_and1 ha.pe, ha.rt⟩
theorem pdw_or1 (ha : PDT X W a tA mA) : PDW X W (.BoolOp .Or [a] pos) tA mA := ⟨pw_or1 ha.pe, ha.rt⟩
theorem pdw_and {rest : List Expr} (ha : PDT X W a tA mA) (hb : PDW X W (.BoolOp .And (b :: rest) pos) tB' mB') : PDW X W (.BoolOp .And (a :: b :: rest) pos) (tAnd tA tB') (mAnd mA mB') := ⟨pw_and ha.pe hb.pe, rt_and ha.rt hb.rt⟩
theorem pdw_or {rest : List Expr} (ha : PDT X W a tA mA) (hb : PDW X W (.BoolOp .Or (b :: rest) pos) tB' mB') : PDW X W (.BoolOp .Or (a :: b :: rest) pos) (tOr tA tB') (mOr mA mB') := ⟨pw_or ha.pe hb.pe, rt_or ha.rt hb.rt⟩
theorem PDW.t (h : PDW X W e tA mA) : PDT X W e tA mA := ⟨h.pe.pt, h.rt⟩
theorem pdt_not (ha : PDT X W a tA mA) : PDT X W (.UnaryOp .Not a pos) (tNot tA) (mNot mA) := by
  refine ⟨pt_not ha.pe, fun rho sg o st H Q he hs h => ?_⟩
  exact ha.rt rho sg o st H _ he hs ((Wp.bind h).imp (fun _ _ _ z => z) fun d st1 o1 H1 s1 hs1 h => Wp.ok hs1 h)
theorem pd_one {op : BoolOp} (h : PD X W a ta ma) : PD X W (.BoolOp op [a] pos) ta ma := ⟨pe_one h.pe, h.rt⟩
theorem pd_and {rest : List Expr} (ha : PD X W a ta ma) (hb : PD X W (.BoolOp .And (b :: rest) pos) tb mb) : PD X W (.BoolOp .And (a :: b :: rest) pos) (tAndV ta tb) (mAndV ma mb) := by
  refine ⟨pe_and ha.pe hb.pe, fun rho sg o st H Q he hs h => ?_⟩
  refine ha.rt rho sg o st H _ he hs ((Wp.bind h).imp (fun _ _ _ z => z) fun d st1 o1 H1 s1 hs1 h => ?_)
  intro v rv
  cases rv with
  | bl b =>
    cases b with
    | true => exact ⟨true, rfl, hb.rt rho sg o1 st1 H1 _ (he.step s1.toRch) hs1 h⟩
    | false => exact ⟨false, rfl, Wp.ok hs1 h _ (.bl false)⟩
  | _ => exact False.elim h
theorem pd_or {rest : List Expr} (ha : PD X W a ta ma) (hb : PD X W (.BoolOp .Or (b :: rest) pos) tb mb) : PD X W (.BoolOp .Or (a :: b :: rest) pos) (tOrV ta tb) (mOrV ma mb) := by
  refine ⟨pe_or ha.pe hb.pe, fun rho sg o st H Q he hs h => ?_⟩
  refine ha.rt rho sg o st H _ he hs ((Wp.bind h).imp (fun _ _ _ z => z) fun d st1 o1 H1 s1 hs1 h => ?_)
  intro v rv
  cases rv with
  | bl b =>
    cases b with
    | true => exact ⟨true, rfl, Wp.ok hs1 h _ (.bl true)⟩
    | false => exact ⟨false, rfl, hb.rt rho sg o1 st1 H1 _ (he.step s1.toRch) hs1 h⟩
  | _ => exact False.elim h
theorem pd_not (ha : PD X W a ta ma) : PD X W (.UnaryOp .Not a pos) (tNotV ta) (mNotV ma) := by
  refine ⟨pe_not ha.pe, fun rho sg o st H Q he hs h => ?_⟩
  refine ha.rt rho sg o st H _ he hs ((Wp.bind h).imp (fun _ _ _ z => z) fun d st1 o1 H1 s1 hs1 h => ?_)
  intro v rv
  cases rv with
  | bl b => exact ⟨b, rfl, Wp.ok hs1 h _ (.bl _)⟩
  | _ => exact False.elim h
theorem pd_ifExp (hc : PDT X W c tA mA) (ha : PD X W a ta ma) (hb : PD X W b tb mb) : PD X W (.IfExp c a b pos) (tIf tA ta tb) (mIf mA ma mb) := by
  refine ⟨pe_ifExp hc.pe ha.pe hb.pe, fun rho sg o st H Q he hs h => ?_⟩
  refine hc.rt rho sg o st H _ he hs ((Wp.bind h).imp (fun _ _ _ z => z) fun d st1 o1 H1 s1 hs1 h => ?_)
  cases d with
  | true => exact ha.rt rho sg o1 st1 H1 _ (he.step s1.toRch) hs1 h
  | false => exact hb.rt rho sg o1 st1 H1 _ (he.step s1.toRch) hs1 h
theorem pd_tup {x1 : Nat} {t : TA} {m : MA} (h : PDA X W es t m) : PD X W (.Tuple es x1 pos) (tTup t) (mTup m) := by
  refine ⟨pe_tup h.pe, fun rho sg o st H Q he hs hw => ?_⟩
  refine h.rt rho sg o st H _ he hs ((Wp.bind hw).imp (fun _ _ _ z => z) fun ds st1 o1 H1 s1 hs1 h => ?_)
  intro vs rv
  by_cases hl : ds.length ≤ sizeLine
  · rw [if_pos hl] at h
    refine ⟨by rw [rv.length]; exact hl, fun p hp => ?_⟩
    have s2 : Step o1 H1 o1 (upd H1 p (.tup vs)) := step_new hp
    exact h o1 _ s2 (hs1.new hp) _ (.tup (.inl ⟨.inl upd_same, hs1.fresh hp⟩) (rv.step s2.toRch))
  · rw [if_neg hl] at h
    exact h.elim
theorem pdf_lst {t : TA} {m : MA} (h : PDA X W es t m) : PDF X W (.List es pos) (tLst t) (mLst m) := by
  refine ⟨pe_lst h.pe, fun rho sg o st H Q he hs hw => ?_⟩
  refine h.rt rho sg o st H _ he hs ?_
  unfold mLst at hw
  cases q : m rho st with
  | bad => rw [q] at hw; exact hw.elim
  | ex e st1 => rw [q] at hw; exact hw
  | ok ds st1 =>
    rw [q] at hw
    intro o1 H1 s1 hs1 vs rv
    by_cases hl : ds.length ≤ sizeLine
    · have hw2 : ∀ o' H' p vs, Step o H o' H' → H p = none → StR X.K (o'.rsv p) st1 H' → H' p = some (.lst vs) → RpL X.K (o'.rsv p) H' vs ds → Q (.ref p) H' := by
        have hw' := hw
        simp only [R.bind, if_pos hl] at hw'
        exact hw'
      refine ⟨by rw [rv.length]; exact hl, fun p hp => ?_⟩
      have s2 : Step o1 H1 o1 (upd H1 p (.lst vs)) := step_new hp
      exact hw2 o1 _ p vs (s1.trans s2) (s1.free hp) (hs1.rsv hp) upd_same ((rv.rsv hp).step (show Rch (o1.rsv p) H1 (o1.rsv p) (upd H1 p (.lst vs)) from ⟨⟨[], by simp, fun _ h => nomatch h⟩, ⟨[], by simp, fun _ h => nomatch h⟩, s2.keep, s2.stay⟩))
    · simp only [R.bind, if_neg hl] at hw
end
end DL

set_option Elab.async false
set_option linter.all false
set_option maxRecDepth 100000
set_option maxHeartbeats 2000000
/-! DStm: what is owned may change; statements, loops, comprehensions, defs, calls. -/
namespace DL
open PySem PySem.Spec PyProof.Rows L2

/-! ### changes of what is owned -/
section
variable {K : PySem.W.Frag} {o o' : Ow} {H H' : Hp} {st st' : Sto}
theorem rd_upd {a p : Addr} {u w : HO} (h : Rd H a u) (ne : a ≠ p) : Rd (upd H p w) a u := by
  rcases h with h | ⟨ob, h⟩
  · exact .inl ((upd_ne ne).trans h)
  · exact .inr ⟨ob, (upd_ne ne).trans h⟩
theorem ne_has {a p : Addr} (hp : o.has p) (h : ¬ o.has a) : a ≠ p := fun z => h (z ▸ hp)
mutual
theorem Rp.upd {p : Addr} {w : HO} (hp : o.has p) : ∀ {v : V} {d : D}, Rp K o H v d → Rp K o (L2.upd H p w) v d
  | _, _, .non => .non
  | _, _, .bl b => .bl b
  | _, _, .int i => .int i
  | _, _, .str x => .str x
  | _, _, .ty n => .ty n
  | _, _, .adr a => .adr a
  | _, _, .ref h => .ref h
  | _, _, .tup h r => .tup (h.imp (fun z => ⟨rd_upd z.1 (ne_has hp z.2), z.2⟩) id) (RpL.upd hp r)
  | _, _, .lst h r => .lst (h.imp (fun z => ⟨rd_upd z.1 (ne_has hp z.2), z.2⟩) id) (RpL.upd hp r)
theorem RpL.upd {p : Addr} {w : HO} (hp : o.has p) : ∀ {vs : List V} {ds : List D}, RpL K o H vs ds → RpL K o (L2.upd H p w) vs ds
  | _, _, .nil => .nil
  | _, _, .cons h r => .cons (Rp.upd hp h) (RpL.upd hp r)
end
theorem CR.upd {a p : Addr} {w : HO} {c : C} (hp : o.has p) (ne : a ≠ p) (h : CR K o H a c) : CR K o (L2.upd H p w) a c := by
  cases h with
  | lst q r => exact .lst ((upd_ne ne).trans q) (r.upd hp)
  | dK q r => exact .dK ((upd_ne ne).trans q) (Paired.mapP r fun _ _ z => ⟨z.1, z.2.upd hp⟩)
  | dT q r => exact .dT ((upd_ne ne).trans q) (Paired.mapP r fun _ _ z => ⟨z.1, z.2.upd hp⟩)
  | ins q r => exact .ins ((upd_ne ne).trans q) (Paired.mapP r fun _ _ z => ⟨z.1, z.2.upd hp⟩)
theorem stay_upd {p : Addr} {w : HO} (a : Addr) (h : H a ≠ none) : L2.upd H p w a ≠ none := by
  by_cases e : a = p
  · rw [e, upd_same]; intro z; cases z
  · rw [upd_ne e]; exact h
/-- a list in the making grows -/
theorem StR.updAside {p : Addr} {w : HO} (h : StR K o st H) (hp : p ∈ o.rs) : StR K o st (L2.upd H p w) :=
  ⟨h.len, h.nd, fun n a c e1 e2 => (h.cell n a c e1 e2).upd (.inr hp) (fun z => (h.aside p hp).1 (z ▸ List.mem_of_getElem? e1)), fun a ha => ⟨(h.aside a ha).1, stay_upd a (h.aside a ha).2⟩, h.rnd⟩
theorem Step.at {p : Addr} {w : HO} (s : Step o H o' H') (hp : H p = none) : Step o H o' (L2.upd H' p w) :=
  .mk' s.pre s.same (fun a u h n => by rw [upd_ne (ne_of_none h hp)]; exact s.keep a u h n) (fun a h => stay_upd a (s.stay a h))
theorem Step.unrsv {p : Addr} (s : Step (o.rsv p) H o' H') : Step o H ⟨o'.ph, o.rs⟩ H' := .mk' s.pre rfl s.keep s.stay
theorem Step.eta {p : Addr} (s : Step (o.rsv p) H o' H') : o' = (Ow.mk o'.ph o.rs).rsv p := by
  have e := s.same
  cases o'
  simp only [Ow.rsv] at e ⊢
  rw [e]
/-- a cell is changed -/
theorem step_cell {a : Addr} {w : HO} (ha : a ∈ o.ph) : Step o H o (L2.upd H a w) :=
  .mk' ⟨[], by simp, fun _ h => nomatch h⟩ rfl (fun b u h n => by rw [upd_ne (show b ≠ a from fun z => n (z ▸ ha))]; exact h) (fun b h => stay_upd b h)
theorem ix_inj {l : List Addr} (hN : l.Nodup) {i j : Nat} {x : Addr} (a : l[i]? = some x) (b : l[j]? = some x) : i = j := by
  obtain ⟨h1, e1⟩ := List.getElem?_eq_some_iff.mp a
  obtain ⟨h2, e2⟩ := List.getElem?_eq_some_iff.mp b
  exact (List.getElem_inj hN).mp (e1.trans e2.symm)
theorem StR.updCell {n : Nat} {a : Addr} {w : HO} {c : C} (h : StR K o st H) (e : o.ph[n]? = some a) (hc : CR K o (L2.upd H a w) a c) : StR K o (st.set n c) (L2.upd H a w) := by
  have ha : a ∈ o.ph := List.mem_of_getElem? e
  refine ⟨by rw [List.length_set]; exact h.len, h.nd, fun m b c' e1 e2 => ?_, fun b hb => ⟨(h.aside b hb).1, stay_upd b (h.aside b hb).2⟩, h.rnd⟩
  by_cases hm : n = m
  · subst hm
    have hl : n < st.length := by rw [← h.len]; exact (List.getElem?_eq_some_iff.mp e).1
    rw [List.getElem?_set_self hl] at e2
    cases e2
    rw [e] at e1
    cases e1
    exact hc
  · rw [List.getElem?_set_ne hm] at e2
    exact (h.cell m b c' e1 e2).upd (.inl ha) (fun z => hm (ix_inj h.nd e (z ▸ e1)))
theorem rch_new {p : Addr} {w : HO} (hp : H p = none) : Rch o H (o.rsv p) (L2.upd H p w) :=
  ⟨⟨[], by simp [Ow.rsv], fun _ h => nomatch h⟩, ⟨[p], rfl, fun a h => by
    have e : a = p := by simpa using h
    rw [e]; exact hp⟩, fun a u h _ => by rw [upd_ne (ne_of_none h hp)]; exact h, fun a h => stay_upd a h⟩
theorem Rch.of_step' {p : Addr} (s : Rch o H o' H') (es : o'.rs = o.rs) (hp : H p = none) : Rch o H (o'.rsv p) H' :=
  ⟨s.pre, ⟨[p], by show o'.rs ++ [p] = _; rw [es], fun a h => by
    have e : a = p := by simpa using h
    rw [e]; exact hp⟩, s.keep, s.stay⟩
end

/-! ### runs of statements -/
def R.bindN {α β : Type} (r : R α) (k : α → Sto → R β) : R β := match r with
  | .ok a st => k a st
  | _ => .bad
def mNext : MS := fun rho st => .ok (.nx rho) st
def mSeq (a b : MS) : MS := fun rho st => (a rho st).bindN fun f st1 => match f with
  | .nx r => b r st1
  | f => .ok f st1
def mSet (i : Nat) (e : ME) : MS := fun rho st => (e rho st).bindS rho fun d st1 => .ok (.nx (rho.set i (some d))) st1
def mAsg (e : ME) (g : MG) : MS := fun rho st => (e rho st).bindS rho fun d st1 => (g d rho st1).bindN fun r st2 => .ok (.nx r) st2
def mDrop (e : ME) : MS := fun rho st => (e rho st).bindS rho fun _ st1 => .ok (.nx rho) st1
def mRet (e : ME) : MS := fun rho st => (e rho st).bindS rho fun d st1 => .ok (.rt d) st1
def mRetN : MS := fun _ st => .ok (.rt .non) st
def mIfS (c : MT) (a b : MS) : MS := fun rho st => (c rho st).bindS rho fun x st1 => if x = true then a rho st1 else b rho st1
def mBrk : MS := fun rho st => .ok (.bk rho) st
def mCnt : MS := fun rho st => .ok (.ct rho) st
def mBad : MS := fun _ _ => .bad
/-- a, b = x, y -/
def mPar (i j : Nat) (a : MA) : MS := fun rho st => (a rho st).bindS rho fun ds st1 => match ds with
  | [x, y] => .ok (.nx ((rho.set i (some x)).set j (some y))) st1
  | _ => .bad
/-- what is walked: the items, and the cells that must stand as they stood -/
structure Src where
  items : List D
  cells : List (Nat × List D)
def good (cells : List (Nat × List D)) (st : Sto) : Prop := ∀ p ∈ cells, st[p.1]? = some (.lst p.2)
abbrev MI := En → Sto → R Src
open Classical in
noncomputable def forLoop (cells : List (Nat × List D)) (g : MG) (b : MS) : List D → MS
  | [] => fun rho st => if good cells st then .ok (.nx rho) st else .bad
  | d :: ds => fun rho st => if good cells st then (g d rho st).bindN fun r st1 => (b r st1).bindN fun f st2 => match f with
      | .nx r2 => forLoop cells g b ds r2 st2
      | .ct r2 => forLoop cells g b ds r2 st2
      | .bk r2 => .ok (.nx r2) st2
      | f => .ok f st2
    else .bad
noncomputable def mFor (i : MI) (g : MG) (b : MS) : MS := fun rho st => (i rho st).bindS rho fun s st1 => forLoop s.cells g b s.items rho st1
def whileLoop (c : MT) (b : MS) : Nat → MS
  | 0 => fun _ _ => .bad
  | n + 1 => fun rho st => (c rho st).bindS rho fun x st1 => if x = true then (b rho st1).bindN fun f st2 => match f with
      | .nx r2 => whileLoop c b n r2 st2
      | .ct r2 => whileLoop c b n r2 st2
      | .bk r2 => .ok (.nx r2) st2
      | f => .ok f st2
    else .ok (.nx rho) st1
open Classical in
noncomputable def lcLoop (cells : List (Nat × List D)) (g : MG) (t : MT) (e : ME) (rho : En) : List D → List D → Sto → R (List D)
  | [], acc, st => if good cells st then .ok acc st else .bad
  | d :: ds, acc, st => if good cells st then (g d rho st).bindN fun r st1 => (t r st1).bindN fun b st2 =>
      if b = true then (e r st2).bindN fun y st3 => if acc.length < sizeLine then lcLoop cells g t e rho ds (acc ++ [y]) st3 else .bad
      else lcLoop cells g t e rho ds acc st2
    else .bad
noncomputable def mLc (i : MI) (g : MG) (t : MT) (e : ME) (vs : List Nat) : MA := fun rho st => (i rho st).bind fun s st1 => lcLoop s.cells g t e (wipeR rho vs) s.items [] st1
def mYes : MT := fun _ st => .ok true st
def gNm (i : Nat) : MG := fun d rho st => .ok (rho.set i (some d)) st
def gSeq (gs : List MG) : List D → En → Sto → R En := fun ds rho st => match gs, ds with
  | [], [] => .ok rho st
  | g :: gs, d :: ds => (g d rho st).bindN fun r st1 => gSeq gs ds r st1
  | _, _ => .bad
/-- a, b, .. = a tuple -/
def gTp (gs : List MG) : MG := fun d rho st => match d with
  | .tup ds => if ds.length = gs.length then gSeq gs ds rho st else .bad
  | _ => .bad

/-! ### what is walked -/
def ItR (K : PySem.W.Frag) (J : It) (s : Src) (o : Ow) (H : Hp) : Prop := ∀ (o1 : Ow) (st1 : Sto) (H1 : Hp), Rch o H o1 H1 → StR K o1 st1 H1 → good s.cells st1 →
  (∀ (i : Nat) (d : D), s.items[i]? = some d → J.go i H1 ∧ ∀ x H2, J.yld i H1 x H2 → Step o1 H1 o1 H2 ∧ StR K o1 st1 H2 ∧ Rp K o1 H2 x d) ∧ J.stop s.items.length H1
def RtI (K : PySem.W.Frag) (W : WX) (t : TI) (m : MI) : Prop := ∀ (rho : En) (sg : L2.St) (o : Ow) (st : Sto) (H : Hp) (Q : It → Hp → Prop), EnvR K o H rho sg → StR K o st H →
  Wp K o H (m rho st) (EW K W sg) (fun s _ o' H' => ∀ J, ItR K J s o' H' → Q J H') → t sg H Q
structure PDI (X : Cx) (W : WX) (tg e : Expr) (t : TI) (m : MI) : Prop where
  pe : PI X tg e t
  rt : RtI X.K W t m
/-- a target stores at tgs alone -/
def RtJ (K : PySem.W.Frag) (g : TG) (m : MG) (tgs : List Nat) : Prop := ∀ (rho : En) (sg : L2.St) (o : Ow) (st : Sto) (H : Hp) (v : V) (d : D) (Q : L2.St → Hp → Prop), EnvR K o H rho sg → StR K o st H → Rp K o H v d →
  Wp K o H (m d rho st) (fun _ _ _ => False) (fun r _ o' H' => ∀ sg', EnvR K o' H' r sg' → sg'.length = sg.length → (∀ j, j ∉ tgs → sg'[j]? = sg[j]?) → Q sg' H') → g v sg H Q
def RtJs (K : PySem.W.Frag) (g : TGs) (ms : List MG) (tgs : List Nat) : Prop := ∀ (rho : En) (sg : L2.St) (o : Ow) (st : Sto) (H : Hp) (vs : List V) (ds : List D) (Q : L2.St → Hp → Prop), EnvR K o H rho sg → StR K o st H → RpL K o H vs ds →
  Wp K o H (gSeq ms ds rho st) (fun _ _ _ => False) (fun r _ o' H' => ∀ sg', EnvR K o' H' r sg' → sg'.length = sg.length → (∀ j, j ∉ tgs → sg'[j]? = sg[j]?) → Q sg' H') → g vs sg H Q
structure PDJ (X : Cx) (e : Expr) (t : TG) (m : MG) (tgs : List Nat) : Prop where
  pe : PG X e t
  rt : RtJ X.K t m tgs
structure PDJs (X : Cx) (es : List Expr) (t : TGs) (m : List MG) (tgs : List Nat) : Prop where
  pe : PGs X es t
  rt : RtJs X.K t m tgs
theorem Wp.bindN {K : PySem.W.Frag} {o : Ow} {H : Hp} {α β : Type} {r : R α} {k : α → Sto → R β} {E E' : Ex → Ow → Hp → Prop} {Q : β → Sto → Ow → Hp → Prop} (h : Wp K o H (r.bindN k) E Q) : Wp K o H r E' (fun a st' o' H' => Wp K o' H' (k a st') E Q) := by
  cases r with
  | ok a st => exact fun o2 H2 s2 hs => Wp.base s2 (show Wp K o H (k a st) E Q from h)
  | ex e st => exact False.elim h
  | bad => exact h
theorem Wp.bindS {K : PySem.W.Frag} {o : Ow} {H : Hp} {α : Type} {r : R α} {rho : En} {sg : L2.St} {k : α → Sto → R Fl} {D : Ends} {W : WX} {E : Ex → Ow → Hp → Prop} (he : EnvR K o H rho sg) (h : Wp K o H (r.bindS rho k) E (fun f _ o' H' => SQ K D W f o' H')) :
    Wp K o H r (EW K W sg) (fun a st' o' H' => Wp K o' H' (k a st') E (fun f _ o' H' => SQ K D W f o' H')) := by
  cases r with
  | ok a st => exact fun o2 H2 s2 hs => Wp.base s2 (show Wp K o H (k a st) E _ from h)
  | ex e st => exact fun o2 H2 s2 hs d hd => h o2 H2 s2 hs sg d (he.step s2.toRch) hd
  | bad => exact h

section
variable {X : Cx} {W : WX} {k : Nat} {pos : Pos} {a b c e : Expr} {es : List Expr} {ta tb te : TE} {ma mb me : ME} {tA tB' tC' : TT} {mA mB' mC' : MT} {s s1 s2 : Stmt} {ss : List Stmt} {t u : TS} {m n : MS}
theorem pdj_name {i : Nat} {x : Str} (c : Cok X W k) (hi : X.N[i]? = some x := by rfl) (hx : Loc X.env.scope x := by first | exact Or.inl rfl | exact Or.inr rfl) (hf : X.fn x = true ∨ X.env.scope.names.lookup x = some .local := by first | exact .inl rfl | exact .inr rfl | assumption) :
    PDJ X (.Name x pos) (gName i) (gNm i) [i] := by
  refine ⟨pg_name c.nd hi hx hf, fun rho sg o st H v d Q he hs r h => ?_⟩
  refine Wp.ok hs h _ (he.set r i) (List.length_set ..) fun j hj => ?_
  rw [List.getElem?_set_ne (fun z => hj (by simp [z]))]
theorem pdjs_nil : PDJs X [] gNil [] [] := by
  refine ⟨pgs_nil, fun rho sg o st H vs ds Q he hs r h => ?_⟩
  cases r with
  | nil => exact ⟨rfl, Wp.ok hs h _ he rfl fun _ _ => rfl⟩
  | cons _ _ => exact h.elim
theorem pdjs_cons {g : TG} {gs : TGs} {mg : MG} {mgs : List MG} {t1 t2 : List Nat} (h1 : PDJ X e g mg t1) (h2 : PDJs X es gs mgs t2) (hst : (assignEach (e :: es) X.env).map (·.2) = assign e X.env :: (assignEach es X.env).map (·.2) := by rfl) :
    PDJs X (e :: es) (gCons g gs) (mg :: mgs) (t1 ++ t2) := by
  refine ⟨pgs_cons h1.pe h2.pe hst, fun rho sg o st H vs ds Q he hs r h => ?_⟩
  cases r with
  | nil => exact h.elim
  | @cons v vs d ds rv rr =>
    have h' : Wp X.K o H ((mg d rho st).bindN fun r st1 => gSeq mgs ds r st1) (fun _ _ _ => False) (fun r _ o' H' => ∀ sg', EnvR X.K o' H' r sg' → sg'.length = sg.length → (∀ j, j ∉ t1 ++ t2 → sg'[j]? = sg[j]?) → Q sg' H') := h
    refine ⟨v, vs, rfl, h1.rt rho sg o st H v d _ he hs rv ((Wp.bindN h').imp (fun _ _ _ z => z) fun r1 st1 o1 H1 s1 hs1 h => ?_)⟩
    intro sg1 he1 hl1 hk1
    refine h2.rt r1 sg1 o1 st1 H1 vs ds _ he1 hs1 (rr.step s1.toRch) (h.imp (fun _ _ _ z => z) fun r2 st2 o2 H2 s2 hs2 q => ?_)
    intro sg2 he2 hl2 hk2
    exact q sg2 he2 (hl2.trans hl1) fun j hj => (hk2 j fun z => hj (List.mem_append_right _ z)).trans (hk1 j fun z => hj (List.mem_append_left _ z))
theorem pdj_tup {kk nn : Nat} {gs : TGs} {mgs : List MG} {tgs : List Nat} (c : Cok X W k) (h : PDJs X es gs mgs tgs) (hl : mgs.length = nn := by rfl) (hn : (assignEach es X.env).length = nn := by rfl) (hst : (assignEach es X.env).findIdx? (·.1) = none := by rfl) :
    PDJ X (.Tuple es kk pos) (gTup X.K nn gs) (gTp mgs) tgs := by
  refine ⟨pg_tup c.calm h.pe hn hst, fun rho sg o st H v d Q he hs r hw => ?_⟩
  cases r with
  | @tup a xs ds ta rl =>
    have hw' : Wp X.K o H (if ds.length = mgs.length then gSeq mgs ds rho st else .bad) (fun _ _ _ => False) (fun r _ o' H' => ∀ sg', EnvR X.K o' H' r sg' → sg'.length = sg.length → (∀ j, j ∉ tgs → sg'[j]? = sg[j]?) → Q sg' H') := hw
    by_cases hd : ds.length = mgs.length
    · rw [if_pos hd] at hw'
      exact ⟨a, xs, rfl, ta.sq, by rw [rl.length, hd, hl], h.rt rho sg o st H xs ds Q he hs rl hw'⟩
    · rw [if_neg hd] at hw'
      exact hw'.elim
  | _ => exact False.elim hw

/-! ### statements -/
theorem pdb_nil : PDB X W [] tNext mNext := ⟨pss_nil, fun rho sg o st H D he hs h => Wp.ok hs h sg he⟩
theorem rt_seq {K : PySem.W.Frag} (h1 : RtS K W t m) (h2 : RtS K W u n) : RtS K W (tSeq t u) (mSeq m n) := by
  intro rho sg o st H D he hs h
  refine h1 rho sg o st H { D with nx := u D } he hs ((Wp.bindN h).imp (fun _ _ _ z => z) fun f st1 o1 H1 s1 hs1 h => ?_)
  cases f with
  | nx r => exact fun sg1 he1 => h2 r sg1 o1 st1 H1 D he1 hs1 h
  | rt d => exact Wp.ok hs1 h
  | bk r => exact Wp.ok hs1 h
  | ct r => exact Wp.ok hs1 h
  | xc e r => exact Wp.ok hs1 h
theorem pdb_cons (h1 : PDS X W s t m) (h2 : PDB X W ss u n) : PDB X W (s :: ss) (tSeq t u) (mSeq m n) := ⟨pss_cons h1.pe h2.pe, rt_seq h1.rt h2.rt⟩
theorem pdb_one (h1 : PDS X W s t m) : PDB X W [s] t m := ⟨pss_one h1.pe, h1.rt⟩
theorem pds_pass : PDS X W (.Pass pos) tNext mNext := ⟨ps_pass, fun rho sg o st H D he hs h => Wp.ok hs h sg he⟩
theorem pds_break : PDS X W (.Break pos) tBreak mBrk := ⟨ps_break, fun rho sg o st H D he hs h => Wp.ok hs h sg he⟩
theorem pds_continue : PDS X W (.Continue pos) tCont mCnt := ⟨ps_continue, fun rho sg o st H D he hs h => Wp.ok hs h sg he⟩
theorem pds_doc {x : Str} {j pos'} : PDS X W (.Expr (.Constant (.str x) j pos) pos') tNext mNext := ⟨ps_doc, fun rho sg o st H D he hs h => Wp.ok hs h sg he⟩
theorem pds_never : PDS X W s tNever mBad := ⟨ps_never, fun rho sg o st H D he hs h => h⟩
theorem pds_expr (h : PD X W e te me) (hs : swapsWith e none pos.line X.env = pure false := by rfl) : PDS X W (.Expr e pos) (tDrop te) (mDrop me) := by
  refine ⟨ps_expr h.pe hs, fun rho sg o st H D he hs h' => ?_⟩
  refine h.rt rho sg o st H _ he hs ((Wp.bindS he h').imp (fun _ _ _ z => z) fun d st1 o1 H1 s1 hs1 h => ?_)
  exact fun v _ => Wp.ok hs1 h sg (he.step s1.toRch)
theorem pds_ret (h : PD X W e te me) : PDS X W (.Return (some e) pos) (tRet te) (mRet me) := by
  refine ⟨ps_ret h.pe, fun rho sg o st H D he hs h' => ?_⟩
  refine h.rt rho sg o st H _ he hs ((Wp.bindS he h').imp (fun _ _ _ z => z) fun d st1 o1 H1 s1 hs1 h => ?_)
  exact fun v rv => Wp.ok hs1 h v rv
theorem pds_retN : PDS X W (.Return none pos) tRetN mRetN := ⟨ps_retN, fun rho sg o st H D he hs h => Wp.ok hs h .non .non⟩
theorem pds_if {x y : List Stmt} (hc : PDT X W c tA mA) (ha : PDB X W x t m) (hb : PDB X W y u n) : PDS X W (.If c x y pos) (tIfS tA t u) (mIfS mA m n) := by
  refine ⟨ps_if hc.pe ha.pe hb.pe, fun rho sg o st H D he hs h' => ?_⟩
  refine hc.rt rho sg o st H _ he hs ((Wp.bindS he h').imp (fun _ _ _ z => z) fun d st1 o1 H1 s1 hs1 h => ?_)
  cases d with
  | true => exact ha.rt rho sg o1 st1 H1 D (he.step s1.toRch) hs1 h
  | false => exact hb.rt rho sg o1 st1 H1 D (he.step s1.toRch) hs1 h
theorem rt_set {K : PySem.W.Frag} {i : Nat} (h : Rt K W te me) : RtS K W (tAsg te (gName i)) (mSet i me) := by
  intro rho sg o st H D he hs h'
  refine h rho sg o st H _ he hs ((Wp.bindS he h').imp (fun _ _ _ z => z) fun d st1 o1 H1 s1 hs1 h => ?_)
  exact fun v rv => Wp.ok hs1 h _ ((he.step s1.toRch).set rv i)
theorem pds_set {i : Nat} {x : Str} {pos' : Pos} (c : Cok X W k) (h : PD X W e te me) (hi : X.N[i]? = some x := by rfl) (hx : Loc X.env.scope x := by first | exact Or.inl rfl | exact Or.inr rfl) (hs : swapsWith e (some (.Name x pos')) pos.line X.env = pure false := by rfl)
    (hf : X.fn x = true ∨ X.env.scope.names.lookup x = some .local := by first | exact .inl rfl | exact .inr rfl | assumption) : PDS X W (.Assign [.Name x pos'] e pos) (tAsg te (gName i)) (mSet i me) := ⟨ps_set c.nd hi hx h.pe hs hf, rt_set h.rt⟩
theorem rt_asg {K : PySem.W.Frag} {g : TG} {mg : MG} {tgs : List Nat} (h : Rt K W te me) (hg : RtJ K g mg tgs) : RtS K W (tAsg te g) (mAsg me mg) := by
  intro rho sg o st H D he hs h'
  refine h rho sg o st H _ he hs ((Wp.bindS he h').imp (fun _ _ _ z => z) fun d st1 o1 H1 s1 hs1 h => ?_)
  intro v rv
  refine hg rho sg o1 st1 H1 v d _ (he.step s1.toRch) hs1 rv ((Wp.bindN h).imp (fun _ _ _ z => z) fun r st2 o2 H2 s2 hs2 h => ?_)
  exact fun sg' he' _ _ => Wp.ok hs2 h sg' he'
theorem pds_asg {tg : Expr} {g : TG} {mg : MG} {tgs : List Nat} (h : PD X W e te me) (hg : PDJ X tg g mg tgs) (hs : swapsWithSole [tg] e pos.line X.env = pure false := by rfl) (hw : swappedStores [tg] e X.env = pure none := by rfl)
    (h1 : (assignEach [tg] X.env).map (·.2) = [assign tg X.env] := by rfl) : PDS X W (.Assign [tg] e pos) (tAsg te g) (mAsg me mg) := ⟨ps_asg h.pe hg.pe hs hw h1, rt_asg h.rt hg.rt⟩
theorem pds_par {i j : Nat} {x y : Str} {ta : TA} {ma : MA} {px py pt : Pos} {kt k2 pt2} (c : Cok X W k) (ha : PDA X W [a, b] ta ma) (hi : X.N[i]? = some x := by rfl) (hj : X.N[j]? = some y := by rfl) (hij : i ≠ j := by decide)
    (hx : X.env.scope.names.lookup x = some .local := by rfl) (hy : X.env.scope.names.lookup y = some .local := by rfl)
    (hw : swappedStores [.Tuple [.Name x px, .Name y py] kt pt] (.Tuple [a, b] k2 pt2) X.env = pure (some [x, y]) := by rfl)
    (hs : swapsWithSole [.Tuple [.Name x px, .Name y py] kt pt] (.Tuple [a, b] k2 pt2) pos.line X.env = pure false := by rfl) :
    PDS X W (.Assign [.Tuple [.Name x px, .Name y py] kt pt] (.Tuple [a, b] k2 pt2) pos) (tPar i j ta) (mPar i j ma) := by
  refine ⟨ps_par c.calm c.nd hi hj hij hx hy ha.pe hw hs, fun rho sg o st H D he hs h' => ?_⟩
  refine ha.rt rho sg o st H _ he hs ((Wp.bindS he h').imp (fun _ _ _ z => z) fun ds st1 o1 H1 s1 hs1 h => ?_)
  intro vs rv
  cases rv with
  | nil => exact h.elim
  | cons r1 rr =>
    cases rr with
    | nil => exact h.elim
    | cons r2 rr =>
      cases rr with
      | nil => exact ⟨_, _, rfl, Wp.ok hs1 h _ (((he.step s1.toRch).set r1 i).set r2 j)⟩
      | cons _ _ => exact h.elim

/-! ### loops -/
theorem drop_at {α : Type} {l : List α} {i : Nat} (h : i < l.length) : l.drop i = l[i] :: l.drop (i + 1) := by
  rw [List.drop_eq_getElem_cons h]
theorem rt_for {K : PySem.W.Frag} {wi : TI} {mi : MI} {g : TG} {mg : MG} {tgs : List Nat} {tb : TS} {mb : MS} (hi : RtI K W wi mi) (hg : RtJ K g mg tgs) (hb : RtS K W tb mb) : RtS K W (tFor wi g tb) (mFor mi mg mb) := by
  intro rho sg o st H D he hs h'
  refine hi rho sg o st H _ he hs ((Wp.bindS he h').imp (fun _ _ _ z => z) fun S st1 o1 H1 s1 hs1 h => ?_)
  intro J hJ
  refine ⟨fun i m sg' H' => m = S.items.length - i ∧ i ≤ S.items.length ∧ ∃ rho' o' st', Step o1 H1 o' H' ∧ StR K o' st' H' ∧ EnvR K o' H' rho' sg' ∧ Wp K o' H' (forLoop S.cells mg mb (S.items.drop i) rho' st') (fun _ _ _ => False) (fun f _ o' H' => SQ K D W f o' H'),
    ⟨S.items.length, by simp, Nat.zero_le _, rho, o1, st1, .refl _ _, hs1, he.step s1.toRch, by rw [List.drop_zero]; exact h⟩, ?_⟩
  rintro i m sg' H' ⟨rfl, hle, rho', o', st', s', hs', he', hw⟩
  by_cases hlt : i < S.items.length
  · rw [drop_at hlt] at hw
    unfold forLoop at hw
    by_cases hgd : good S.cells st'
    · rw [if_pos hgd] at hw
      obtain ⟨it, _⟩ := hJ o' st' H' s'.toRch hs' hgd
      obtain ⟨hgo, hy⟩ := it i _ (List.getElem?_eq_getElem hlt)
      refine .inr ⟨hgo, fun sg2 H2 => ∃ rho2 o2 st2, Step o1 H1 o2 H2 ∧ StR K o2 st2 H2 ∧ EnvR K o2 H2 rho2 sg2 ∧ Wp K o2 H2 (forLoop S.cells mg mb (S.items.drop (i + 1)) rho2 st2) (fun _ _ _ => False) (fun f _ o' H' => SQ K D W f o' H'),
        fun sg2 H2 ⟨rho2, o2, st2, q1, q2, q3, q4⟩ => ⟨S.items.length - (i + 1), by omega, rfl, hlt, rho2, o2, st2, q1, q2, q3, q4⟩, fun x H2 y => ?_⟩
      obtain ⟨s2, hs2, rx⟩ := hy x H2 y
      refine hg rho' sg' o' st' H2 x _ _ (he'.step s2.toRch) hs2 rx ((Wp.bindN (hw.base s2)).imp (fun _ _ _ z => z) fun r3 st3 o3 H3 s3 hs3 hw => ?_)
      intro sg3 he3 _ _
      refine hb r3 sg3 o3 st3 H3 _ he3 hs3 ((Wp.bindN hw).imp (fun _ _ _ z => z) fun f st4 o4 H4 s4 hs4 hw => ?_)
      have sAll : Step o1 H1 o4 H4 := ((s'.trans s2).trans s3).trans s4
      cases f with
      | nx r => exact fun sg4 he4 => ⟨r, o4, st4, sAll, hs4, he4, hw⟩
      | ct r => exact fun sg4 he4 => ⟨r, o4, st4, sAll, hs4, he4, hw⟩
      | bk r => exact Wp.ok hs4 hw
      | rt d => exact Wp.ok hs4 hw
      | xc e r => exact Wp.ok hs4 hw
    · rw [if_neg hgd] at hw
      exact hw.elim
  · have e : i = S.items.length := by omega
    subst e
    rw [List.drop_length] at hw
    unfold forLoop at hw
    by_cases hgd : good S.cells st'
    · rw [if_pos hgd] at hw
      obtain ⟨_, stp⟩ := hJ o' st' H' s'.toRch hs' hgd
      exact .inl ⟨stp, Wp.ok hs' hw sg' he'⟩
    · rw [if_neg hgd] at hw
      exact hw.elim
theorem pds_for {tg iter : Expr} {body : List Stmt} {wi : TI} {mi : MI} {g : TG} {mg : MG} {tgs : List Nat} {tb : TS} {mb : MS} (c : Cok X W k) (hi : PDI X W tg iter wi mi) (hg : PDJ X tg g mg tgs) (hb : PDB X W body tb mb)
    (hs : ∀ x, foldedSetIterable iter X.env x = pure x := by intro _; rfl) : PDS X W (.For tg iter body [] pos) (tFor wi g tb) (mFor mi mg mb) := ⟨ps_for c.po c.calm hi.pe hg.pe hb.pe hs, rt_for hi.rt hg.rt hb.rt⟩
theorem rt_while {K : PySem.W.Frag} {tc : TT} {mc : MT} {tb : TS} {mb : MS} {n0 : Nat} (hc : RtT K W tc mc) (hb : RtS K W tb mb) : RtS K W (tWhile tc tb) (whileLoop mc mb n0) := by
  intro rho sg o st H D he hs h'
  refine ⟨fun m sg' H' => ∃ rho' o' st', Step o H o' H' ∧ StR K o' st' H' ∧ EnvR K o' H' rho' sg' ∧ Wp K o' H' (whileLoop mc mb m rho' st') (fun _ _ _ => False) (fun f _ o' H' => SQ K D W f o' H'),
    ⟨n0, rho, o, st, .refl _ _, hs, he, h'⟩, ?_⟩
  rintro m sg' H' ⟨rho', o', st', s', hs', he', hw⟩
  cases m with
  | zero => exact hw.elim
  | succ m =>
    unfold whileLoop at hw
    refine hc rho' sg' o' st' H' _ he' hs' ((Wp.bindS he' hw).imp (fun _ _ _ z => z) fun b st2 o2 H2 s2 hs2 hw => ?_)
    cases b with
    | false => exact Wp.ok hs2 hw sg' (he'.step s2.toRch)
    | true =>
      rw [if_pos rfl]
      refine ⟨fun sg3 H3 => ∃ rho3 o3 st3, Step o H o3 H3 ∧ StR K o3 st3 H3 ∧ EnvR K o3 H3 rho3 sg3 ∧ Wp K o3 H3 (whileLoop mc mb m rho3 st3) (fun _ _ _ => False) (fun f _ o' H' => SQ K D W f o' H'),
        fun sg3 H3 q => ⟨m, Nat.lt_succ_self m, q⟩, ?_⟩
      rw [if_pos rfl] at hw
      refine hb rho' sg' o2 st2 H2 _ (he'.step s2.toRch) hs2 ((Wp.bindN hw).imp (fun _ _ _ z => z) fun f st4 o4 H4 s4 hs4 hw => ?_)
      have sAll : Step o H o4 H4 := (s'.trans s2).trans s4
      cases f with
      | nx r => exact fun sg4 he4 => ⟨r, o4, st4, sAll, hs4, he4, hw⟩
      | ct r => exact fun sg4 he4 => ⟨r, o4, st4, sAll, hs4, he4, hw⟩
      | bk r => exact Wp.ok hs4 hw
      | rt d => exact Wp.ok hs4 hw
      | xc e r => exact Wp.ok hs4 hw
theorem pds_while {c : Expr} {body : List Stmt} {tc : TT} {mc : MT} {tb : TS} {mb : MS} (n0 : Nat) (ck : Cok X W k) (hc : PDT X W c tc mc) (hb : PDB X W body tb mb) : PDS X W (.While c body [] pos) (tWhile tc tb) (whileLoop mc mb n0) :=
  ⟨ps_while ck.po hc.pe hb.pe, rt_while hc.rt hb.rt⟩
end
end DL

set_option Elab.async false
set_option linter.all false
set_option maxRecDepth 100000
set_option maxHeartbeats 2000000
/-! DComp: comprehensions, new lists, defs and their calls. -/
namespace DL
open PySem PySem.Spec PyProof.Rows L2

theorem wipe_get (a : L2.St) (j : Nat) : ∀ vs : List Nat, (L2.wipe a vs)[j]? = if j ∈ vs ∧ j < a.length then some none else a[j]?
  | [] => by simp [L2.wipe]
  | v :: vs => by
    unfold L2.wipe
    by_cases h : v = j
    · subst h
      by_cases hl : v < a.length
      · rw [List.getElem?_set_self (by rw [wipe_length]; exact hl), if_pos ⟨List.mem_cons_self, hl⟩]
      · rw [List.getElem?_eq_none (by rw [List.length_set, wipe_length]; omega), if_neg (fun z => hl z.2), List.getElem?_eq_none (by omega)]
    · rw [List.getElem?_set_ne h, wipe_get a j vs]
      have e : (j ∈ v :: vs ∧ j < a.length) ↔ (j ∈ vs ∧ j < a.length) := by
        constructor
        · rintro ⟨z, l⟩
          rcases List.mem_cons.mp z with z | z
          · exact absurd z.symm h
          · exact ⟨z, l⟩
        · rintro ⟨z, l⟩
          exact ⟨List.mem_cons_of_mem _ z, l⟩
      simp only [e]
theorem wipe_eq {a b : L2.St} {vs : List Nat} (hl : a.length = b.length) (h : ∀ j, j ∉ vs → a[j]? = b[j]?) : L2.wipe a vs = L2.wipe b vs := by
  apply List.ext_getElem?
  intro j
  rw [wipe_get, wipe_get, hl]
  by_cases hj : j ∈ vs
  · by_cases hb : j < b.length
    · rw [if_pos ⟨hj, hb⟩, if_pos ⟨hj, hb⟩]
    · rw [if_neg (fun z => hb z.2), if_neg (fun z => hb z.2), List.getElem?_eq_none (by omega), List.getElem?_eq_none (by omega)]
  · rw [if_neg (fun z => hj z.1), if_neg (fun z => hj z.1)]
    exact h j hj
theorem wipe_wipe (a : L2.St) (vs : List Nat) : L2.wipe (L2.wipe a vs) vs = L2.wipe a vs := by
  apply wipe_eq (wipe_length ..)
  intro j hj
  rw [wipe_get, if_neg (fun z => hj z.1)]

section
variable {K : PySem.W.Frag} {W : WX} {wi : TI} {mi : MI} {g : TG} {mg : MG} {tgs vs : List Nat} {tt : TT} {mt : MT} {te : TE} {me : ME}
theorem rt_lc (hi : RtI K W wi mi) (hg : RtJ K g mg tgs) (hsub : ∀ j ∈ tgs, j ∈ vs) (ht : RtT K W0 tt mt) (he : Rt K W0 te me) : RtF K W (tLc wi g tt te vs) (mLc mi mg mt me vs) := by
  intro rho sg o st H Q hE hS h
  refine hi rho sg o st H _ hE hS ?_
  unfold mLc at h
  cases q : mi rho st with
  | bad => rw [q] at h; exact h.elim
  | ex e st1 => rw [q] at h; exact h
  | ok S st1 =>
    rw [q] at h
    intro o1 H1 s1 hs1 J hJ D hD
    -- what is wanted of the run's end
    let Fin : R (List DL.D) → Prop := fun r => match r with
      | .ok ds st' => ∀ o' H' p vs, Step o H o' H' → H p = none → StR K (o'.rsv p) st' H' → H' p = some (.lst vs) → RpL K (o'.rsv p) H' vs ds → Q (.ref p) H'
      | .ex e st' => ∀ o' H', Step o H o' H' → StR K o' st' H' → EW K W sg e o' H'
      | .bad => False
    have h0 : Fin (lcLoop S.cells mg mt me (wipeR rho vs) S.items [] st1) := h
    have hp1 : ∀ {o' : Ow} {H' : Hp}, Step o1 H1 o' H' → Rch o1 H1 (o'.rsv D) H' := fun s => s.toRch.of_step' s.same hD
    refine ⟨fun i m H' => m = S.items.length - i ∧ i ≤ S.items.length ∧ ∃ acc ys o' st', Step o1 H1 o' H' ∧ StR K (o'.rsv D) st' H' ∧ H' D = some (.lst ys) ∧ RpL K (o'.rsv D) H' ys acc ∧ Fin (lcLoop S.cells mg mt me (wipeR rho vs) (S.items.drop i) acc st'),
      ⟨S.items.length, by simp, Nat.zero_le _, [], [], o1, st1, (Step.refl _ _).at hD, hs1.rsv hD, upd_same, .nil, by rw [List.drop_zero]; exact h0⟩, ?_⟩
    rintro i m H' ⟨rfl, hle, acc, ys, o', st', s', hs', eD, rl, hw⟩
    have hch : Rch o1 H1 (o'.rsv D) H' := hp1 s'
    by_cases hlt : i < S.items.length
    · rw [drop_at hlt] at hw
      unfold lcLoop at hw
      by_cases hgd : good S.cells st'
      · rw [if_pos hgd] at hw
        obtain ⟨it, _⟩ := hJ (o'.rsv D) st' H' hch hs' hgd
        obtain ⟨hgo, hy⟩ := it i _ (List.getElem?_eq_getElem hlt)
        refine .inr ⟨hgo, fun H2 => ∃ acc ys o2 st2, Step o1 H1 o2 H2 ∧ StR K (o2.rsv D) st2 H2 ∧ H2 D = some (.lst ys) ∧ RpL K (o2.rsv D) H2 ys acc ∧ Fin (lcLoop S.cells mg mt me (wipeR rho vs) (S.items.drop (i + 1)) acc st2),
          fun H2 z => ⟨S.items.length - (i + 1), by omega, rfl, hlt, z⟩, fun x H2 y => ?_⟩
        obtain ⟨s2, hs2, rx⟩ := hy x H2 y
        have hE2 : EnvR K (o'.rsv D) H2 (wipeR rho vs) (L2.wipe sg vs) := (((hE.step s1.toRch).step hch).step s2.toRch).wipe vs
        refine hg (wipeR rho vs) (L2.wipe sg vs) (o'.rsv D) st' H2 x _ _ hE2 hs2 rx ?_
        cases q3 : mg S.items[i] (wipeR rho vs) st' with
        | bad => rw [q3] at hw; exact hw.elim
        | ex e st3 => rw [q3] at hw; exact hw.elim
        | ok r3 st3 =>
          rw [q3] at hw
          intro o3 H3 s3 hs3 sg3 he3 hl3 hk3
          refine ⟨?_, ?_⟩
          · rw [← wipe_wipe sg vs]
            exact wipe_eq hl3 fun j hj => hk3 j fun z => hj (hsub j z)
          refine ht r3 sg3 o3 st3 H3 _ he3 hs3 ?_
          have hw : Fin ((mt r3 st3).bindN fun b st2 => if b = true then (me r3 st2).bindN fun y st3 => if acc.length < sizeLine then lcLoop S.cells mg mt me (wipeR rho vs) (S.items.drop (i + 1)) (acc ++ [y]) st3 else .bad
            else lcLoop S.cells mg mt me (wipeR rho vs) (S.items.drop (i + 1)) acc st2) := hw
          cases q4 : mt r3 st3 with
          | bad => rw [q4] at hw; exact hw.elim
          | ex e st4 => rw [q4] at hw; exact hw.elim
          | ok b st4 =>
            rw [q4] at hw
            intro o4 H4 s4 hs4
            have sAll4 : Step (o'.rsv D) H' o4 H4 := (s2.trans s3).trans s4
            have e4 := sAll4.eta
            have dIn : D ∉ o'.ph := (hs'.aside D (List.mem_append_right _ (List.mem_singleton_self D))).1
            cases b with
            | false =>
              rw [if_neg Bool.false_ne_true]
              refine ⟨acc, ys, ⟨o4.ph, o'.rs⟩, st4, s'.trans sAll4.unrsv, by rw [← e4]; exact hs4, sAll4.keep D _ eD dIn, by rw [← e4]; exact rl.step sAll4.toRch, hw⟩
            | true =>
              rw [if_pos rfl]
              have hw : Fin ((me r3 st4).bindN fun y st3 => if acc.length < sizeLine then lcLoop S.cells mg mt me (wipeR rho vs) (S.items.drop (i + 1)) (acc ++ [y]) st3 else .bad) := hw
              refine he r3 sg3 o4 st4 H4 _ (he3.step s4.toRch) hs4 ?_
              cases q5 : me r3 st4 with
              | bad => rw [q5] at hw; exact hw.elim
              | ex e st5 => rw [q5] at hw; exact hw.elim
              | ok y5 st5 =>
                rw [q5] at hw
                intro o5 H5 s5 hs5 v5 rv5
                have hw : Fin (if acc.length < sizeLine then lcLoop S.cells mg mt me (wipeR rho vs) (S.items.drop (i + 1)) (acc ++ [y5]) st5 else .bad) := hw
                by_cases hz : acc.length < sizeLine
                · rw [if_pos hz] at hw
                  have sAll5 : Step (o'.rsv D) H' o5 H5 := sAll4.trans s5
                  have e5 := sAll5.eta
                  have rl5 := rl.step sAll5.toRch
                  have hr5 : o5.has D := by rw [e5]; exact .inr (List.mem_append_right _ (List.mem_singleton_self D))
                  have hr5' : D ∈ o5.rs := by rw [e5]; exact List.mem_append_right _ (List.mem_singleton_self D)
                  refine ⟨ys, sAll5.keep D _ eD dIn, by rw [rl.length]; exact hz, acc ++ [y5], ys ++ [v5], ⟨o5.ph, o'.rs⟩, st5, (s'.trans sAll5.unrsv).at hD, ?_, upd_same, ?_, hw⟩
                  · rw [← e5]
                    exact hs5.updAside hr5'
                  · rw [← e5]
                    exact (rl5.append (.cons rv5 .nil)).upd hr5
                · rw [if_neg hz] at hw
                  exact hw.elim
      · rw [if_neg hgd] at hw
        exact hw.elim
    · have e : i = S.items.length := by omega
      subst e
      rw [List.drop_length] at hw
      unfold lcLoop at hw
      by_cases hgd : good S.cells st'
      · rw [if_pos hgd] at hw
        obtain ⟨_, stp⟩ := hJ (o'.rsv D) st' H' hch hs' hgd
        exact .inl ⟨stp, hw o' H' D ys (s1.trans s') (s1.free hD) hs' eD rl⟩
      · rw [if_neg hgd] at hw
        exact hw.elim
end
end DL

set_option Elab.async false
set_option linter.all false
set_option maxRecDepth 100000
set_option maxHeartbeats 2000000
/-! DFun: new lists as data or cells; defs and their calls. -/
namespace DL
open PySem PySem.Spec PyProof.Rows L2

section
variable {K : PySem.W.Frag} {W : WX} {te : TE} {ma : MA}
theorem rt_fix (h : RtF K W te ma) : Rt K W te (mFix ma) := by
  intro rho sg o st H Q hE hS hw
  refine h rho sg o st H Q hE hS ?_
  unfold mFix at hw
  cases q : ma rho st with
  | bad => rw [q] at hw; exact hw.elim
  | ex e st1 => rw [q] at hw; exact hw
  | ok ds st1 =>
    rw [q] at hw
    intro o1 H1 p vs s1 hp hs1 eD rl
    have np : ¬ o1.has p := fun z => by
      rcases z with z | z
      · exact (hs1.aside p (List.mem_append_right _ (List.mem_singleton_self p))).1 z
      · have hr : (o1.rs ++ [p]).Nodup := hs1.rnd
        rw [List.nodup_append] at hr
        exact hr.2.2 p z p (List.mem_singleton_self p) rfl
    exact hw o1 H1 s1 hs1.unrsv _ (.lst (.inl ⟨.inl eD, np⟩) rl.unrsv)
theorem rt_new (h : RtF K W te ma) : Rt K W te (mNew ma) := by
  intro rho sg o st H Q hE hS hw
  refine h rho sg o st H Q hE hS ?_
  unfold mNew at hw
  cases q : ma rho st with
  | bad => rw [q] at hw; exact hw.elim
  | ex e st1 => rw [q] at hw; exact hw
  | ok ds st1 =>
    rw [q] at hw
    intro o1 H1 p vs s1 hp hs1 eD rl
    have hl : o1.ph.length = st1.length := hs1.len
    have hc : CR K (o1.add p) H1 p (.lst ds) := .lst eD rl.toCell
    have s2 : Step o H (o1.add p) H1 := by
      obtain ⟨l, e, f⟩ := s1.pre
      exact .mk' ⟨l ++ [p], by show o1.ph ++ [p] = _; rw [e, List.append_assoc], fun a ha => by
        rcases List.mem_append.mp ha with z | z
        · exact f a z
        · have e : a = p := by simpa using z
          rw [e]; exact hp⟩ s1.same s1.keep s1.stay
    refine hw (o1.add p) H1 s2 (hs1.toCell hc) _ (.ref ?_)
    show (o1.ph ++ [p])[st1.length]? = some p
    rw [← hl, List.getElem?_concat_length]
end
section
variable {X : Cx} {W : WX} {k : Nat} {pos : Pos} {e : Expr} {te : TE} {ma : MA}
theorem pd_fix (h : PDF X W e te ma) : PD X W e te (mFix ma) := ⟨h.pe, rt_fix h.rt⟩
theorem pd_new (h : PDF X W e te ma) : PD X W e te (mNew ma) := ⟨h.pe, rt_new h.rt⟩
/-- what a clause's tests do -/
structure PDTs (X : Cx) (ifs : List Expr) (t : TT) (m : MT) : Prop where
  pe : PTs X ifs t
  rt : RtT X.K W0 t m
theorem pdts_nil : PDTs X [] tYes mYes := ⟨pts_nil, fun rho sg o st H Q he hs h => Wp.ok hs h⟩
theorem pdts_one {c : Expr} {t : TT} {m : MT} (h : PDT X W0 c t m) : PDTs X [c] t m := ⟨pts_one h.pe, h.rt⟩
/-- what the elements of a comprehension need, over every block -/
structure Blk (X : Cx) (tg : Expr) (ifs : List Expr) (elt : Expr) (scope : Scope) (g : TG) (mg : MG) (tgs : List Nat) (tt : TT) (mt : MT) (te : TE) (me : ME) : Prop where
  g : ∀ (s : Shared) (H : Hp) (C : Addr) (cl : List (Str × Addr)) (fp : List Addr), PDJ (X.blk s H scope (compEnvC scope cl C X.env) fp) tg g mg tgs
  t : ∀ (s : Shared) (H : Hp) (C : Addr) (cl : List (Str × Addr)) (fp : List Addr), PDTs (X.blk s H scope (compEnvC scope cl C X.env) fp) ifs tt mt
  e : ∀ (s : Shared) (H : Hp) (C : Addr) (cl : List (Str × Addr)) (fp : List Addr), PD (X.blk s H scope (compEnvC scope cl C X.env) fp) W0 elt te me
theorem Blk.rg {X : Cx} {tg : Expr} {ifs : List Expr} {elt : Expr} {scope : Scope} {g : TG} {mg : MG} {tgs : List Nat} {tt : TT} {mt : MT} {te : TE} {me : ME} (b : Blk X tg ifs elt scope g mg tgs tt mt te me) (s : Shared) : RtJ X.K g mg tgs ∧ RtT X.K W0 tt mt ∧ Rt X.K W0 te me :=
  ⟨(b.g s (fun _ => none) 0 [] []).rt, (b.t s (fun _ => none) 0 [] []).rt, (b.e s (fun _ => none) 0 [] []).rt⟩
theorem pdf_lc {elt tg iter : Expr} {ifs : List Expr} {scope : Scope} {own : List (Str × Nat)} {wi : TI} {mi : MI} {g : TG} {mg : MG} {tgs : List Nat} {tt : TT} {mt : MT} {te : TE} {me : ME} (c : Cok X W k) (hi : PDI X W tg iter wi mi) (hblk : blkC X.N X.env.scope scope own = true)
    (b : Blk X tg ifs elt scope g mg tgs tt mt te me) (hsub : ∀ j ∈ tgs, j ∈ own.map (·.2)) (hs : ∀ x, foldedSetIterable iter X.env x = pure x := by intro _; rfl) :
    PDF X W (.ListComp elt [⟨tg, iter, ifs, 0⟩] scope pos) (tLc wi g tt te (own.map (·.2))) (mLc mi mg mt me (own.map (·.2))) := by
  refine ⟨pe_lc c.calm c.nd hi.pe (blkOk_by hblk) (fun s H C cl fp => (b.g s H C cl fp).pe) (fun s H C cl fp => (b.t s H C cl fp).pe) (fun s H C cl fp => (b.e s H C cl fp).pe) hs, ?_⟩
  obtain ⟨r1, r2, r3⟩ := b.rg X.s_0
  exact rt_lc hi.rt r1 hsub r2 r3
/-- name = [..] -/
theorem pds_setLc {i : Nat} {y : Str} {py : Pos} {spos : Pos} {elt tg iter : Expr} {ifs : List Expr} {scope : Scope} {own : List (Str × Nat)} {wi : TI} {mi : MI} {g : TG} {mg : MG} {tgs : List Nat} {tt : TT} {mt : MT} {te : TE} {me m : ME} (c : Cok X W k)
    (hsw : swapsWith (.ListComp elt [⟨tg, iter, ifs, 0⟩] scope pos) (some (.Name y py)) spos.line X.env = pure true) (hi : PDI X W tg iter wi mi) (hblk : blkC X.N X.env.scope scope own = true)
    (b : Blk X tg ifs elt scope g mg tgs tt mt te me) (hsub : ∀ j ∈ tgs, j ∈ own.map (·.2)) (hm : Rt X.K W (tLc wi g tt te (own.map (·.2))) m)
    (hy : X.N[i]? = some y := by rfl) (hyl : X.env.scope.names.lookup y = some .local := by rfl) (hs : ∀ x, foldedSetIterable iter X.env x = pure x := by intro _; rfl) :
    PDS X W (.Assign [.Name y py] (.ListComp elt [⟨tg, iter, ifs, 0⟩] scope pos) spos) (tAsg (tLc wi g tt te (own.map (·.2))) (gName i)) (mSet i m) :=
  ⟨ps_setLc c.calm c.nd hy hyl hsw hi.pe (blkOk_by hblk) (fun s H C cl fp => (b.g s H C cl fp).pe) (fun s H C cl fp => (b.t s H C cl fp).pe) (fun s H C cl fp => (b.e s H C cl fp).pe) hs, rt_set hm⟩
theorem rt_lcB {elt tg iter : Expr} {ifs : List Expr} {scope : Scope} {vs : List Nat} {wi : TI} {mi : MI} {g : TG} {mg : MG} {tgs : List Nat} {tt : TT} {mt : MT} {te : TE} {me : ME} (hi : PDI X W tg iter wi mi) (b : Blk X tg ifs elt scope g mg tgs tt mt te me) (hsub : ∀ j ∈ tgs, j ∈ vs) :
    RtF X.K W (tLc wi g tt te vs) (mLc mi mg mt me vs) := by
  obtain ⟨r1, r2, r3⟩ := b.rg X.s_0
  exact rt_lc hi.rt r1 hsub r2 r3
end

/-! ### defs -/
/-- a def's run: its body from the parameters, n more names -/
def fnRun (n : Nat) (b : MS) (ds : List D) (st : Sto) : R D := (b (ds.map some ++ List.replicate n none) st).bindN fun f st1 => match f with
  | .nx _ => .ok .non st1
  | .rt d => .ok d st1
  | .xc e _ => .ex e st1
  | _ => .bad
def spD (K : PySem.W.Frag) (np : Nat) (g : List D → Sto → R D) : Sp := fun vs H Q E => vs.length = np ∧ ∃ (o : Ow) (st : Sto) (ds : List D), StR K o st H ∧ RpL K o H vs ds ∧
  Wp K o H (g ds st) (fun e o' H' => ∀ d, ExAt K o' H' e d → E e.cls d H') (fun d _ o' H' => ∀ v, Rp K o' H' v d → Q v H')
theorem envR_start {K : PySem.W.Frag} {o : Ow} {H : Hp} {N : List Str} {vs : List V} {ds : List D} (r : RpL K o H vs ds) {n : Nat} (hn : n = N.length - vs.length) : EnvR K o H (ds.map some ++ List.replicate n none) (L2.start N vs) := by
  have hl := r.length
  refine ⟨by unfold L2.start; rw [List.length_append, List.length_append, List.length_map, List.length_map, List.length_replicate, List.length_replicate, hl, hn, hl], fun i d e => ?_⟩
  unfold L2.start
  by_cases hi : i < ds.length
  · rw [List.getElem?_append_left (by rw [List.length_map]; exact hi), List.getElem?_map] at e
    rw [List.getElem?_append_left (by rw [List.length_map, hl]; exact hi), List.getElem?_map]
    cases q : ds[i]? with
    | none => rw [q] at e; cases e
    | some d' =>
      rw [q] at e
      cases e
      obtain ⟨v, e1, r1⟩ := r.get q
      exact ⟨v, by rw [e1]; rfl, r1⟩
  · rw [List.getElem?_append_right (by rw [List.length_map]; omega), List.getElem?_replicate] at e
    split at e <;> cases e
/-- a def's promise at calls where no repr is under way; what it raises lies as CX says -/
structure FnG (P : Program) (w : World) (K : PySem.W.Frag) (mg : Str → Option Value) (base : Heap) (k : Nat) (f : Addr) (fd : FuncData) (ps : List Str) (sp : Sp) : Prop where
  len : ∀ vs H Q E, sp vs H Q E → vs.length = ps.length
  run : ∀ (A : Around) (outer : List Env) (s : Shared) (H : Hp) (args : Args) (us : List Value) (vs : List V) (Q : VK) (E : XK), Room k A → A.guards = some [] → Env0 P w K mg base A outer s H →
    BindsTo s fd args (ps.zip us) → Vals vs us → sp vs H Q E → codeAny (model P w) A (.call (.ref f) args) (L2.CR (L2.CX P w) outer P w H s Q E) s
section
variable {P : Program} {w : World} {K : PySem.W.Frag} {mg : Str → Option Value} {base : Heap}
theorem FnG.mono {i j : Nat} {f : Addr} {fd : FuncData} {ps : List Str} {sp : Sp} (F : FnG P w K mg base i f fd ps sp) (h : i ≤ j) : FnG P w K mg base j f fd ps sp :=
  ⟨F.len, fun A outer s H args us vs Q E r => F.run A outer s H args us vs Q E (r.mono h)⟩
/-- a def by its body -/
theorem fnG_of {k : Nat} {f : Addr} {name qual : Str} {params : Arguments} {body : List Stmt} {scope : Scope} {dV kV doc pm cdv ct oc : Value} {an od : Option Addr} {osl : Array (Option Value)} {N ps : List Str} {sp : Sp}
    (lk : K.lookup f = some ⟨oc, od, .func (PySem.W.fnOf name qual params body scope dV kV doc pm an cdv ct), osl⟩) (hcd : PySem.W.codeIn K cdv qual = true) (S : FnScope N ps scope) (len : ∀ vs H Q E, sp vs H Q E → vs.length = ps.length)
    (hb : ∀ (A : Around) (outer : List Env) (s : Shared) (H : Hp) (vs : List V) (Q : VK) (E : XK), Room k (A.deeper (envOfC qual scope s.heap.objs.size f cdv)) → A.guards = some [] → sp vs H Q E →
      ∃ t, PSs (cxOf (L2.CX P w) P w K mg base N qual scope f cdv A outer s H E) body t ∧ t { nx := fun _ H' => Q .non H', rt := Q } (L2.start N vs) H) :
    FnG P w K mg base (k + 1) f (PySem.W.fnOf name qual params body scope dV kV doc pm an cdv ct) ps sp := by
  refine ⟨len, fun A outer s H args us vs Q E room gd e0 bnd rel h => ?_⟩
  have hlen := len _ _ _ _ h
  have keep : ∀ b o, base.get? b = some o → s.heap.get? b = some o := fun b o e => (e0.bs b o e).1
  have KX : K.In s.heap := e0.mod.kin.keeps keep
  have lim : s.heap.NoLimit := e0.mod.nolimit.keeps keep
  have kinds : ∀ y ∈ ps.zip us, scope.names.lookup y.1 = some .local ∨ (scope.names.lookup y.1 = some .cell ∧ ((cellsFrom (s.heap.objs.size + 1) scope.names []).lookup y.1).isSome = true) := by
    rintro ⟨n, v⟩ hy
    rcases S.par n (List.of_mem_zip hy).1 with z | z
    · exact Or.inl z
    · exact Or.inr ⟨z, PySem.W.cellsFrom_some _ _ _ (Or.inl z)⟩
  refine codeAny_call_function room.depth (KX _ _ lk) rfl S.co S.gen rfl (PySem.W.codeRec_of KX hcd) (bnd _ _ _ _ (wpAny_newFunctionEnv_cells S.kind kinds fun env ee s1 x => ?_))
  subst ee
  refine ⟨lim.keeps x.toInCall.keep, codeAny_func ?_⟩
  obtain ⟨t, ht, hq⟩ := hb A outer s H vs Q E (room.deeper _) gd h
  have I0 := inv_start (CX := L2.CX P w) (E := E) S room.hd e0 hlen rel x
  refine wpAny_mono (ht.run [] s1 (L2.start N vs) H _ I0 hq) (fun fl s' z => ?_) fun _ _ z => z
  cases fl with
  | ret u =>
    obtain ⟨v, sg, H', J, rv, q⟩ := z
    exact (show CE outer P w H s Q u s' from ⟨v, H', J.os, J.bare, J.base, J.hok, rv, q⟩)
  | next =>
    obtain ⟨sg, H', J, q⟩ := z
    exact (show CE outer P w H s Q .none s' from ⟨V.non, H', J.os, J.bare, J.base, J.hok, rfl, q⟩)
  | brk =>
    obtain ⟨_, _, _, q⟩ := z
    exact q.elim
  | cont =>
    obtain ⟨_, _, _, q⟩ := z
    exact q.elim
/-- the wish of a def's own frame -/
abbrev WD (E : XK) : WX := fun cls d _ H => E cls d H
theorem fun_d {x qual : Str} {st : Stmt} {f : Addr} {fd : FuncData} {N ps : List Str} {k : Nat} {m : MS} (F : Fun K x qual st f fd) (S : FnScope N ps (defScope st))
    (hb : ∀ (cdv : Value) (A : Around) (outer : List Env) (s : Shared) (H : Hp) (E : XK), Cok (cxOf (L2.CX P w) P w K mg base N qual (defScope st) f cdv A outer s H E) (WD E) k →
      ∃ t, PDB (cxOf (L2.CX P w) P w K mg base N qual (defScope st) f cdv A outer s H E) (WD E) (defBody st) t m) :
    FnG P w K mg base (k + 1) f fd ps (spD K ps.length (fnRun (N.length - ps.length) m)) := by
  obtain ⟨oc, od, kV, doc, pm, an, cdv, ct, osl, rfl, lk, hcd⟩ := F.ex
  refine fnG_of lk hcd S (fun vs H Q E h => h.1) fun A outer s H vs Q E hr gd h => ?_
  obtain ⟨hl, o, sto, ds, hs, rl, hw⟩ := h
  obtain ⟨t, B⟩ := hb cdv A outer s H E ⟨takes_of rfl rfl rfl rfl, passes_of rfl, rfl, S.nd, hr, gd⟩
  refine ⟨t, B.pe, ?_⟩
  refine B.rt (ds.map some ++ List.replicate (N.length - ps.length) none) (L2.start N vs) o sto H _ (envR_start rl (by rw [hl])) hs ((Wp.bindN hw).imp (fun _ _ _ z => z) fun fl st1 o1 H1 s1 hs1 h => ?_)
  cases fl with
  | nx r => exact fun sg he => Wp.ok hs1 h .non .non
  | rt d => exact fun v rv => Wp.ok hs1 h v rv
  | xc e r => exact fun sg d he hd => Wp.ok hs1 (show Wp K o1 H1 (.ok () st1) (fun _ _ _ => False) (fun _ _ o' H' => ∀ d, ExAt K o' H' e d → E e.cls d H') from h) d hd
  | bk r => exact h.elim
  | ct r => exact h.elim
end
/-- a call of a def: as many arguments as it has parameters -/
def mCal (np : Nat) (g : List D → Sto → R D) (a : MA) : ME := fun rho st => (a rho st).bind fun ds st => if ds.length = np then g ds st else .bad
section
variable {X : Cx} {W : WX} {k j np : Nat} {pos p : Pos} {x : Str} {f : Addr} {fd : FuncData} {ps : List Str} {e : Expr} {es : List Expr} {t : TA} {m : MA} {g : List D → Sto → R D}
theorem rt_call {K : PySem.W.Frag} (ha : RtA K W t m) : Rt K W (tCallS (spD K np g) (WE W) t) (mCal np g m) := by
  intro rho sg o st H Q he hs h
  refine ha rho sg o st H _ he hs ((Wp.bind h).imp (fun _ _ _ z => z) fun ds st1 o1 H1 s1 hs1 h => ?_)
  intro vs rl
  by_cases hl : ds.length = np
  · rw [if_pos hl] at h
    exact ⟨by rw [rl.length, hl], o1, st1, ds, hs1, rl, h⟩
  · rw [if_neg hl] at h
    exact h.elim
theorem run_g {sp : Sp} {pins : List (Addr × Obj)} {sg : L2.St} {H : Hp} {s : Shared} {Q : VK} {us : List Value} {vs : List V} (c : Cok X W k) (F : FnG X.prog X.w X.K X.mg X.base j f fd ps sp) (hj : j ≤ k) {args : Args} (hb : BindsTo s fd args (ps.zip us))
    (I : Inv X pins sg H s) (r : Vals vs us) (h : sp vs H Q (WE W sg)) : wpAny (model X.prog X.w) X.A (call (.ref f) args.pos args.kw) (EP X pins sg Q) X.xe s := by
  refine wpAny_call (codeAny_mono (F.run X.A X.stack s H args us vs Q (WE W sg) (c.room.mono hj) c.gd I.env0 hb r h) fun r s' hq => ?_)
  cases r with
  | error e => exact passAt c.tk sg pins H s e s' I hq
  | ok fl =>
    cases fl with
    | ret u => exact I.after hq
    | next => exact hq.elim
    | brk => exact hq.elim
    | cont => exact hq.elim
theorem pe_callG {sp : Sp} (c : Cok X W k) (F : FnG X.prog X.w X.K X.mg X.base j f fd ps sp) (hj : j ≤ k) (hm : X.mg x = some (.ref f)) (hk : PySem.W.keepIn X.K (.ref f) = true) (hb : Binds X.K fd ps [])
    (ha : PA X (e :: es) t) (hg : Gl X x) (hdb : (x == ("__debug__" : Str)) = false) (he : starEach (e :: es) X.env = (false, eval e X.env) :: starEach es X.env) (hpl : (backTo pos (starEach es X.env)).any (·.1) = false) :
    PE X (.Call (.Name x p) (e :: es) [] pos) (tCallS sp (WE W) t) := by
  refine ⟨fun pins s sg H Q I h => wpAny_Call_Name_kw (ld_glob I hg hm ?_ hdb)⟩
  refine PySem.W.callWith_K (h₀ := X.base) I.ok.mod.kin hk (thn (ha.run pos pins s sg H _ I h) fun us s1 ⟨vs, H1, I1, r, q⟩ => ⟨I1.kIn, ?_⟩) he hpl
  have hl : us.length = ps.length := by rw [← r.length]; exact F.len _ _ _ _ q
  have b := hb s1 us I1.kIn (by rw [List.append_nil]; exact hl)
  rw [List.append_nil] at b
  exact run_g c F hj b I1 r q
theorem pd_call (c : Cok X W k) (F : FnG X.prog X.w X.K X.mg X.base j f fd ps (spD X.K np g)) (hj : j ≤ k) (hm : X.mg x = some (.ref f)) (hk : PySem.W.keepIn X.K (.ref f) = true) (hb : Binds X.K fd ps [])
    (ha : PDA X W (e :: es) t m) (hg : Gl X x := by rfl) (hdb : (x == ("__debug__" : Str)) = false := by decide) (he : starEach (e :: es) X.env = (false, eval e X.env) :: starEach es X.env := by rfl) (hpl : (backTo pos (starEach es X.env)).any (·.1) = false := by rfl) :
    PD X W (.Call (.Name x p) (e :: es) [] pos) (tCallS (spD X.K np g) (WE W) t) (mCal np g m) :=
  ⟨pe_callG c F hj hm hk hb ha.pe hg hdb he hpl, rt_call ha.rt⟩
/-- a built-in function, a built-in type -/
theorem rt_fn {K : PySem.W.Frag} {r : List V → Hp → VK → Prop} (hg : FnD K r g) (n : ∀ ds st e st', g ds st ≠ .ex e st') (ha : RtA K W t m) : Rt K W (tCB r t) (mFn g m) := by
  intro rho sg o st H Q he hs h
  refine ha rho sg o st H _ he hs ((Wp.bind h).imp (fun _ _ _ z => z) fun ds st1 o1 H1 s1 hs1 h => ?_)
  intro vs rl
  exact hg o1 st1 H1 vs ds Q hs1 rl (h.noE (n _ _))
theorem pd_callB {id : String} {r : List V → Hp → VK → Prop} (hc : CallR X (.builtin id) r) (hgd : FnD X.K r g) (n : ∀ ds st e st', g ds st ≠ .ex e st') (hm : X.mg x = none) (hv : bootBuiltins x = some (.builtin id)) (ha : PDA X W (e :: es) t m) (hg : Gl X x := by rfl) (hn : x ≠ "__name__" := by decide) (hdb : (x == ("__debug__" : Str)) = false := by decide)
    (he : starEach (e :: es) X.env = (false, eval e X.env) :: starEach es X.env := by rfl) (hpl : (backTo pos (starEach es X.env)).any (·.1) = false := by rfl) : PD X W (.Call (.Name x p) (e :: es) [] pos) (tCB r t) (mFn g m) :=
  ⟨pe_callB hc hg hm hv ha.pe hn hdb he hpl, rt_fn hgd n ha.rt⟩
theorem pd_callTy {T : String} {r : List V → Hp → VK → Prop} (hc : CallR X (.type T) r) (hgd : FnD X.K r g) (n : ∀ ds st e st', g ds st ≠ .ex e st') (hm : X.mg x = none) (hv : bootBuiltins x = some (.type T)) (ha : PDA X W (e :: es) t m) (hg : Gl X x := by rfl) (hn : x ≠ "__name__" := by decide) (hdb : (x == ("__debug__" : Str)) = false := by decide)
    (he : starEach (e :: es) X.env = (false, eval e X.env) :: starEach es X.env := by rfl) (hpl : (backTo pos (starEach es X.env)).any (·.1) = false := by rfl) : PD X W (.Call (.Name x p) (e :: es) [] pos) (tCB r t) (mFn g m) :=
  ⟨pe_callTy hc hg hm hv ha.pe hn hdb he hpl, rt_fn hgd n ha.rt⟩
end
end DL

set_option Elab.async false
set_option linter.all false
set_option maxRecDepth 100000
set_option maxHeartbeats 2000000
/-! DG: a law's end, from the run of its def over data. -/
namespace DL
open PySem PySem.Spec PyProof.Rows L2

/-- behind the top nothing is tracked but the script -/
theorem law_end {P : Program} {w : World} {K : PySem.W.Frag} {mg mb : Str → Option Value} {k : Nat} {fa a : Addr} {fd : FuncData} {x : Str} {g : List D → Sto → R D} {st' : Sto} {s₁ : Shared} {vs : List Value} {ns : List Int}
    (KX : K.In s₁.heap) (hns : s₁.heap.Ns mainGlobals mg) (hb : s₁.heap.Ns builtinsNs mb) (hbb : ∀ x : Str, x ≠ "__name__" → mb x = bootBuiltins x) (hlim : s₁.heap.NoLimit) (hg : s₁.gens = #[])
    (ha : s₁.heap.get? a = some { cls := .type "list", data := .seq vs.toArray }) (hi : IntsAre vs ns) (hl : ns.length ≤ sizeLine) (hr : Room k callerA)
    (F : ∀ base : Heap, K.In base → base.Ns mainGlobals mg → FnG P w K mg base k fa fd [x] (spD K 1 g)) (hbind : ∀ (s : Shared) (u : Value), BindsTo s fd ⟨[u], []⟩ [(x, u)])
    (hrun : g [.lst (ns.map D.int)] [] = .ok (.bl true) st') :
    codeAny (model P w) callerA (.call (.ref fa) ⟨[.ref a], []⟩) (fun r s' => r = .ok (.ret (.bool true)) ∧ OldK s₁.heap s'.heap ∧ s'.os = s₁.os ∧ AllBare s'.gens) s₁ := by
  have rv := vals_ints hi
  have lenV := hi.length
  have rpl : ∀ H (l : List Int), RpL K ⟨[], []⟩ H (l.map V.int) (l.map D.int) := fun H l => by
    induction l with
    | nil => exact .nil
    | cons n r ih => exact .cons (.int n) ih
  have str0 : ∀ H, StR K ⟨[], []⟩ [] H := fun H => ⟨rfl, List.nodup_nil, fun n a c e => by simp at e, fun a h => (nomatch h), List.nodup_nil⟩
  have core : ∀ H : Hp, Only H → SqL K H a (ns.map V.int) → HOk P w H s₁.heap → (∀ b, H b ≠ none → b = a) → (H a ≠ none → K.lookup a = none) →
      codeAny (model P w) callerA (.call (.ref fa) ⟨[.ref a], []⟩) (fun r s' => r = .ok (.ret (.bool true)) ∧ OldK s₁.heap s'.heap ∧ s'.os = s₁.os ∧ AllBare s'.gens) s₁ := by
    intro H only seq hok onlyA notK
    have at_a : ∀ {b : Addr}, H b ≠ none → b = a := fun {b} h => onlyA b h
    have untr : ∀ {b : Addr} {o : Obj} {es : Array DictEntry} {ep : Nat}, s₁.heap.get? b = some o → o.data = .dict es ep → H b = none := fun {b o es ep} e d => by
      cases q : H b with
      | none => rfl
      | some u =>
        have eb := at_a (b := b) (by rw [q]; intro z; cases z)
        subst eb
        rw [ha] at e
        cases e
        cases d
    have ns' : ∀ {b : Addr} {m : Str → Option Value}, s₁.heap.Ns b m → (hidT s₁.heap H).Ns b m := by
      rintro b m ⟨o, es, ep, e, d, r⟩
      exact ⟨o, es, ep, hidT_get e (untr e d), d, r⟩
    have kin : K.In (hidT s₁.heap H) := by
      intro b o e
      refine hidT_get (KX b o e) ?_
      cases q : H b with
      | none => rfl
      | some u =>
        have eb := at_a (b := b) (by rw [q]; intro z; cases z)
        subst eb
        have := notK (by rw [q]; intro z; cases z)
        rw [this] at e
        cases e
    obtain ⟨mc, l1, l2⟩ := hlim
    have md : Mod K mg (hidT s₁.heap H) := ⟨kin, ns' hns, ⟨mb, ns' hb, hbb⟩, ⟨mc, ns' l1, l2⟩⟩
    have e0 : Env0 P w K mg (hidT s₁.heap H) callerA [] s₁ H := ⟨rfl, md, fun b o e => of_hidT e, Nat.le_of_eq (hidT_size _ _), trivial, fun b z => absurd (show b ∈ ([] : List Addr) from z) (by simp), hok, .of_eq hg⟩
    have wish : spD K 1 g [.ref a] H (fun v _ => v = .bl true) (fun _ _ _ => False) := by
      refine ⟨rfl, ⟨[], []⟩, [], [.lst (ns.map D.int)], str0 H, .cons (.lst ?_ (rpl H ns)) .nil, ?_⟩
      · rcases seq with z | z
        · exact .inl ⟨z, fun q => q.elim (fun q => nomatch q) fun q => nomatch q⟩
        · exact .inr z
      · rw [hrun]
        intro o' H' _ _ v r
        cases r
        rfl
    refine codeAny_mono ((F _ kin (ns' hns)).run callerA [] s₁ H ⟨[.ref a], []⟩ [.ref a] [.ref a] _ _ hr rfl e0 (hbind s₁ (.ref a)) (.cons rfl .nil) wish) fun r s' h => ?_
    cases r with
    | error e =>
      obtain ⟨_, _, _, _, _, _, _, _, _, _, _, _, z⟩ := h
      exact z.elim
    | ok fl =>
      cases fl with
      | next => exact False.elim h
      | brk => exact False.elim h
      | cont => exact False.elim h
      | ret u =>
        obtain ⟨v, H', os, bare, un, hok', r', q⟩ := h
        have q' : v = .bl true := q
        subst q'
        obtain rfl : u = Value.bool true := r'
        refine ⟨rfl, OldK.of_keep fun b o e => ?_, os, bare⟩
        cases q : H b with
        | none => exact un.keep b o e q (fun z => absurd (show b ∈ ([] : List Addr) from z) (by simp)) (by simp)
        | some u =>
          rcases only b with z | ⟨ob, xs, z⟩
          · rw [q] at z; cases z
          · obtain ⟨e1, _⟩ := hok b _ z
            obtain ⟨e2, _⟩ := hok' b _ (un.frzs b ob _ z)
            rw [e] at e1
            cases e1
            exact e2
  cases hk : K.lookup a with
  | some o =>
    have e := KX a o hk
    rw [ha] at e
    cases e
    exact core (fun _ => none) (fun _ => .inl rfl) (.inr ⟨_, vs.toArray, _, hk, rfl, rfl, rfl, by rw [List.size_toArray, lenV]; exact hl, by simpa using rv⟩) (fun b u z => nomatch z) (fun b z => absurd rfl z) (fun z => absurd rfl z)
  | none =>
    let H1 : Hp := fun b => if b = a then some (.frz { cls := .type "list", data := .seq vs.toArray } (.lst (ns.map V.int))) else none
    have hA : H1 a = some (.frz { cls := .type "list", data := .seq vs.toArray } (.lst (ns.map V.int))) := if_pos rfl
    have hN : ∀ b, b ≠ a → H1 b = none := fun b hb => if_neg hb
    refine core H1 (fun b => ?_) (.inl (.inr ⟨_, hA⟩)) (fun b u z => ?_) (fun b z => ?_) fun _ => hk
    · by_cases hb : b = a
      · subst hb; exact .inr ⟨_, _, hA⟩
      · exact .inl (hN b hb)
    · by_cases hb : b = a
      · subst hb
        rw [hA] at z
        cases z
        exact ⟨ha, by rw [List.length_map]; exact hl, vs, _, rv, ha⟩
      · rw [hN b hb] at z; cases z
    · by_cases hb : b = a
      · exact hb
      · exact absurd (hN b hb) z
/-- the goal that k_head leaves, from the run of the law's def -/
theorem walk_end {l : PySem.W.OpenLaw} {n k : Nat} {q : Program} {loose : List Str} {XP : (Str → Option Value) → Heap → Prop} {YP : World → Heap → Prop} {d : DefRec} {K : Params → PySem.W.Frag} {x : Str} {g : List D → Sto → R D}
    (hn : l.most = some n) (hn2 : n ≤ sizeLine) (hdf : d.params.defaults = []) (hr : Room k callerA)
    (hY : ∀ (w : World) (h : Heap), YP w h → (K w.params).In h)
    (F : ∀ (w : World) (mg : Str → Option Value) (fa : Addr) (h : Heap), (K w.params).In h → h.Ns mainGlobals mg → mg d.name = some (.ref fa) →
      ∃ fd : FuncData, (∀ (s : Shared) (u : Value), BindsTo s fd ⟨[u], []⟩ [(x, u)]) ∧ ∀ base : Heap, (K w.params).In base → base.Ns mainGlobals mg → FnG l.prog w (K w.params) mg base k fa fd [x] (spD (K w.params) 1 g))
    (hrun : ∀ ns : List Int, ns.length ≤ n → (∀ z ∈ ns, Builtin.Int.intBits z ≤ 1048576) → ∃ st', g [.lst (ns.map D.int)] [] = .ok (.bl true) st') :
    PySem.W.WalkO q loose XP YP l.row.toRowW d [] (fun f vs => PySem.call f vs) := by
  refine Att.attach_callB hn hdf fun w s₀ s₁ mg mb fa o pm cd doc a vs ns G Y ho hd hcd hmg hobj hints hlen hbits hg => ?_
  have KX := hY w _ Y
  obtain ⟨fd, hb, hF⟩ := F w mg fa _ KX G.T.g hmg
  obtain ⟨st', e⟩ := hrun ns hlen hbits
  exact law_end KX G.T.g G.T.b G.T.builtins G.T.nolimit hg hobj hints (Nat.le_trans hlen hn2) hr hF hb e
end DL

set_option Elab.async false
set_option linter.all false
set_option maxRecDepth 100000
set_option maxHeartbeats 2000000
/-! DOps: operations by data. -/
namespace DL
open PySem PySem.Spec PyProof.Rows L2

/-! ### what is a sequence -/
def lstOf (st : Sto) : D → Option (List D)
  | .lst ds => some ds
  | .ref n => match st[n]? with
    | some (.lst ds) => some ds
    | _ => none
  | _ => none
def seqOf (st : Sto) (d : D) : Option (List D) := match d with
  | .tup ds => some ds
  | d => lstOf st d
section
variable {K : PySem.W.Frag} {o : Ow} {H : Hp} {st : Sto} {v : V} {d : D} {ds : List D}
theorem Rp.tupOf (r : Rp K o H v (.tup ds)) : ∃ a xs, v = .ref a ∧ SqT K H a xs ∧ RpL K o H xs ds := by
  cases r with
  | tup h rl => exact ⟨_, _, rfl, h.sq, rl⟩
theorem Rp.lstOf (hs : StR K o st H) (r : Rp K o H v d) (e : DL.lstOf st d = some ds) : ∃ a xs, v = .ref a ∧ SqL K H a xs ∧ RpL K o H xs ds := by
  cases r with
  | lst h rl => cases e; exact ⟨_, _, rfl, h.sq, rl⟩
  | @ref a n h =>
    unfold DL.lstOf at e
    dsimp only at e
    split at e
    · rename_i e2
      cases e
      cases hs.cell n a _ h e2 with
      | lst q rl => exact ⟨_, _, rfl, SqL.of q, rl⟩
    · cases e
  | _ => cases e
theorem Rp.seqOf (hs : StR K o st H) (r : Rp K o H v d) (e : DL.seqOf st d = some ds) : ∃ a xs, v = .ref a ∧ (SqL K H a xs ∨ SqT K H a xs) ∧ RpL K o H xs ds := by
  cases d with
  | tup es =>
    cases e
    obtain ⟨a, xs, e1, h, rl⟩ := r.tupOf
    exact ⟨a, xs, e1, .inr h, rl⟩
  | _ =>
    obtain ⟨a, xs, e1, h, rl⟩ := r.lstOf hs e
    exact ⟨a, xs, e1, .inl h, rl⟩
end

/-! ### + - * % // ** -/
def dAdd (x y : D) (st : Sto) : R D := match x, y with
  | .int i, .int j => .ok (.int (i + j)) st
  | .str i, .str j => if i.length + j.length ≤ sizeLine then .ok (.str (i ++ j)) st else .bad
  | .tup xs, .tup ys => if xs.length + ys.length ≤ sizeLine then .ok (.tup (xs ++ ys)) st else .bad
  | x, y => match lstOf st x, lstOf st y with
    | some xs, some ys => if xs.length + ys.length ≤ sizeLine then .ok (.lst (xs ++ ys)) st else .bad
    | _, _ => .bad
def rCatS (K : PySem.W.Frag) : R2 := fun x y H Q => ∃ l b xs zs, x = .ref l ∧ y = .ref b ∧ SqL K H l xs ∧ SqL K H b zs ∧ xs.length + zs.length ≤ sizeLine ∧ ∀ p, H p = none → Q (.ref p) (upd H p (.lst (xs ++ zs)))
def rAddD (K : PySem.W.Frag) : R2 := fun x y H Q => rI0 (fun i j => .int (i + j)) x y H Q ∨ (∃ i j, x = .str i ∧ y = .str j ∧ i.length + j.length ≤ sizeLine ∧ Q (.str (i ++ j)) H) ∨ rCatA K x y H Q ∨ rCatS K x y H Q
section
variable {X : Cx}
theorem op_catS : OpR X (binaryOp .Add) (rCatS X.K) := by
  intro pins s σ H x y v u Q I rx ry h
  obtain ⟨l, b, xs, zs, rfl, rfl, hl, hb, hz, q⟩ := h
  cases rx
  cases ry
  obtain ⟨its, r, ⟨⟨cls, dd, data, sl⟩, n, ho, hc, hd0, hd⟩, _⟩ := I.list hl
  obtain ⟨its2, r2, ⟨⟨cls2, dd2, data2, sl2⟩, n2, ho2, hc2, hd02, hd2⟩, _⟩ := I.list hb
  simp only at hc hd hc2 hd2
  subst hc hd hc2 hd2
  have e1 := r.length
  have e2 := r2.length
  refine concat_meets ⟨_, ho, rfl⟩ ⟨_, ho2, rfl⟩ noFill_list_add seq_list_add PySem.F.slot_list_add PySem.F.entry_list_add (PySem.F.args_list_add_2 _ _) (list_addW l b its.toArray its2.toArray n n2 dd dd2 sl sl2 (by simp; omega)) ⟨ho, ho2, ?_⟩
  have ea : its.toArray ++ its2.toArray = (its ++ its2).toArray := by simp
  rw [ea]
  exact ⟨.ref _, _, I.lnew (t' := s.toks) (r.append r2) (by rw [List.length_append]; omega), rfl, q _ I.fresh⟩
theorem op_addStr : OpR X (binaryOp .Add) (fun x y H Q => ∃ i j, x = .str i ∧ y = .str j ∧ i.length + j.length ≤ sizeLine ∧ Q (.str (i ++ j)) H) := op_add_str
theorem op_addD : OpR X (binaryOp .Add) (rAddD X.K) := by
  intro pins s σ H x y v u Q I rx ry h
  rcases h with h | h | h | h
  · exact op_add pins s σ H x y v u Q I rx ry h
  · exact op_addStr pins s σ H x y v u Q I rx ry h
  · exact op_catA pins s σ H x y v u Q I rx ry h
  · exact op_catS pins s σ H x y v u Q I rx ry h
end
/-- a new read-only list, a new tuple laid: the end of a rule -/
theorem end_lst {K : PySem.W.Frag} {o : Ow} {H : Hp} {st : Sto} {E : Ex → Ow → Hp → Prop} {Q : VK} {ds : List D} {vs : List V} (hs : StR K o st H) (rl : RpL K o H vs ds) (h : Wp K o H (.ok (.lst ds) st) E (fun d _ o' H' => ∀ v, Rp K o' H' v d → Q v H')) :
    ∀ p, H p = none → Q (.ref p) (upd H p (.lst vs)) := fun p hp => by
  have s2 : Step o H o (upd H p (.lst vs)) := step_new hp
  exact h o _ s2 (hs.new hp) _ (.lst (.inl ⟨.inl upd_same, hs.fresh hp⟩) (rl.step s2.toRch))
theorem end_tup {K : PySem.W.Frag} {o : Ow} {H : Hp} {st : Sto} {E : Ex → Ow → Hp → Prop} {Q : VK} {ds : List D} {vs : List V} (hs : StR K o st H) (rl : RpL K o H vs ds) (h : Wp K o H (.ok (.tup ds) st) E (fun d _ o' H' => ∀ v, Rp K o' H' v d → Q v H')) :
    ∀ p, H p = none → Q (.ref p) (upd H p (.tup vs)) := fun p hp => by
  have s2 : Step o H o (upd H p (.tup vs)) := step_new hp
  exact h o _ s2 (hs.new hp) _ (.tup (.inl ⟨.inl upd_same, hs.fresh hp⟩) (rl.step s2.toRch))
theorem RpL.nil_of {K : PySem.W.Frag} {o : Ow} {H : Hp} {vs : List V} {ds : List D} (r : RpL K o H vs ds) : vs = [] ↔ ds = [] := by
  have := r.length
  constructor
  · intro e; rw [e] at this; exact List.eq_nil_of_length_eq_zero this.symm
  · intro e; rw [e] at this; exact List.eq_nil_of_length_eq_zero this
theorem addD {K : PySem.W.Frag} : OpD K (rAddD K) dAdd := by
  intro o st H v w x y Q hs rx ry h
  have lists : ∀ {x y : D}, Rp K o H v x → Rp K o H w y → Wp K o H (match lstOf st x, lstOf st y with
    | some xs, some ys => if xs.length + ys.length ≤ sizeLine then .ok (.lst (xs ++ ys)) st else .bad
    | _, _ => .bad) (fun _ _ _ => False) (fun d _ o' H' => ∀ v, Rp K o' H' v d → Q v H') → rAddD K v w H Q := fun {x y} rx ry h => by
    cases e1 : lstOf st x with
    | none => rw [e1] at h; exact h.elim
    | some xs =>
      cases e2 : lstOf st y with
      | none => rw [e1, e2] at h; exact h.elim
      | some ys =>
        rw [e1, e2] at h
        obtain ⟨a, us, rfl, q1, r1⟩ := rx.lstOf hs e1
        obtain ⟨b, ws, rfl, q2, r2⟩ := ry.lstOf hs e2
        dsimp only at h
        split at h
        · rename_i hz
          exact .inr (.inr (.inr ⟨a, b, us, ws, rfl, rfl, q1, q2, by rw [r1.length, r2.length]; exact hz, end_lst hs (r1.append r2) h⟩))
        · exact h.elim
  cases x with
  | int i =>
    cases rx
    cases y with
    | int j => cases ry; exact .inl ⟨i, j, rfl, rfl, Wp.ok hs h _ (.int _)⟩
    | _ => exact h.elim
  | str i =>
    cases rx
    cases y with
    | str j =>
      cases ry
      have h' : Wp K o H (if i.length + j.length ≤ sizeLine then .ok (.str (i ++ j)) st else .bad) (fun _ _ _ => False) (fun d _ o' H' => ∀ v, Rp K o' H' v d → Q v H') := h
      split at h'
      · rename_i hz
        exact .inr (.inl ⟨i, j, rfl, rfl, hz, Wp.ok hs h' _ (.str _)⟩)
      · exact h'.elim
    | _ => exact h.elim
  | tup xs =>
    cases y with
    | tup ys =>
      obtain ⟨a, us, rfl, q1, r1⟩ := rx.tupOf
      obtain ⟨b, ws, rfl, q2, r2⟩ := ry.tupOf
      have h' : Wp K o H (if xs.length + ys.length ≤ sizeLine then .ok (.tup (xs ++ ys)) st else .bad) (fun _ _ _ => False) (fun d _ o' H' => ∀ v, Rp K o' H' v d → Q v H') := h
      split at h'
      · rename_i hz
        refine .inr (.inr (.inl ⟨a, b, us, ws, rfl, rfl, q1, q2, by rw [r1.length, r2.length]; exact hz, fun e => ?_, fun e1 e2 => ?_, fun _ _ => end_tup hs (r1.append r2) h'⟩))
        · have e' := r1.nil_of.mp e
          subst e'
          exact Wp.ok hs h' _ ry
        · have e' := r2.nil_of.mp e2
          subst e'
          rw [List.append_nil] at h'
          exact Wp.ok hs h' _ rx
      · exact h'.elim
    | _ => exact h.elim
  | lst xs => exact lists rx ry (by cases y <;> exact h)
  | ref n => exact lists rx ry (by cases y <;> exact h)
  | _ => cases y <;> exact h.elim
theorem noex_add : NoEx dAdd := by
  intro x y st e st' h
  unfold dAdd at h
  split at h <;> first
    | (cases h; done)
    | (split at h <;> first | (cases h; done) | (split at h <;> cases h))
def dSub (x y : D) (st : Sto) : R D := match x, y with
  | .int i, .int j => .ok (.int (i - j)) st
  | _, _ => .bad
theorem subD {K : PySem.W.Frag} : OpD K (rI0 fun i j => .int (i - j)) dSub := by
  intro o st H v w x y Q hs rx ry h
  cases x <;> first
    | (cases y <;> first
        | exact h.elim
        | (cases rx; cases ry; exact ⟨_, _, rfl, rfl, Wp.ok hs h _ (.int _)⟩))
    | exact h.elim
theorem noex_sub : NoEx dSub := by
  intro x y st e st' h
  unfold dSub at h
  split at h <;> cases h
instance (i j : Int) : Decidable (CMulW i j) := by unfold CMulW; exact inferInstance
instance (i j : Int) : Decidable (CDivW i j) := by unfold CDivW; exact inferInstance
/-- * of ints of any size below a million bits; a tuple so many times over -/
def dMul (x y : D) (st : Sto) : R D := match x, y with
  | .int i, .int j => if CMulW i j then .ok (.int (i * j)) st else .bad
  | .tup xs, .int k => if xs ≠ [] ∧ 2 ≤ k ∧ k ≤ 1000 ∧ xs.length ≤ 1000 then .ok (.tup (List.replicate k.toNat xs).flatten) st else .bad
  | _, _ => .bad
theorem RpL.rep {K : PySem.W.Frag} {o : Ow} {H : Hp} {vs : List V} {ds : List D} (r : RpL K o H vs ds) : ∀ n : Nat, RpL K o H (List.replicate n vs).flatten (List.replicate n ds).flatten
  | 0 => .nil
  | n + 1 => by
    rw [List.replicate_succ, List.replicate_succ, List.flatten_cons, List.flatten_cons]
    exact r.append (RpL.rep r n)
def rMulD (K : PySem.W.Frag) : R2 := fun x y H Q => rI CMulW (fun i j => .int (i * j)) x y H Q ∨ rRepT K x y H Q
theorem op_mulD {X : Cx} : OpR X (binaryOp .Mult) (rMulD X.K) := by
  intro pins s σ H x y v u Q I rx ry h
  rcases h with h | h
  · exact op_mulW pins s σ H x y v u Q I rx ry h
  · exact op_repT pins s σ H x y v u Q I rx ry h
theorem mulD {K : PySem.W.Frag} : OpD K (rMulD K) dMul := by
  intro o st H v w x y Q hs rx ry h
  cases x with
  | int i =>
    cases y with
    | int j =>
      cases rx; cases ry
      have h' : Wp K o H (if CMulW i j then .ok (.int (i * j)) st else .bad) (fun _ _ _ => False) (fun d _ o' H' => ∀ v, Rp K o' H' v d → Q v H') := h
      split at h'
      · rename_i hz
        exact .inl ⟨_, _, rfl, rfl, hz, Wp.ok hs h' _ (.int _)⟩
      · exact h'.elim
    | _ => exact h.elim
  | tup xs =>
    cases y with
    | int k =>
      obtain ⟨a, us, rfl, q1, r1⟩ := rx.tupOf
      cases ry
      have h' : Wp K o H (if xs ≠ [] ∧ 2 ≤ k ∧ k ≤ 1000 ∧ xs.length ≤ 1000 then .ok (.tup (List.replicate k.toNat xs).flatten) st else .bad) (fun _ _ _ => False) (fun d _ o' H' => ∀ v, Rp K o' H' v d → Q v H') := h
      split at h'
      · rename_i hz
        exact .inr ⟨a, k, us, rfl, rfl, q1, fun e => hz.1 (r1.nil_of.mp e), hz.2.1, hz.2.2.1, by rw [r1.length]; exact hz.2.2.2, end_tup hs (r1.rep _) h'⟩
      · exact h'.elim
    | _ => exact h.elim
  | _ => cases y <;> exact h.elim
theorem noex_mul : NoEx dMul := by
  intro x y st e st' h
  unfold dMul at h
  split at h
  · split at h <;> cases h
  · split at h <;> cases h
  · cases h
def dMod (x y : D) (st : Sto) : R D := match x, y with
  | .int i, .int j => if 0 < j then .ok (.int (i % j)) st else .bad
  | _, _ => .bad
theorem modD {K : PySem.W.Frag} : OpD K (rI (fun _ j => 0 < j) fun i j => .int (i % j)) dMod := by
  intro o st H v w x y Q hs rx ry h
  cases x with
  | int i =>
    cases y with
    | int j =>
      cases rx; cases ry
      have h' : Wp K o H (if 0 < j then .ok (.int (i % j)) st else .bad) (fun _ _ _ => False) (fun d _ o' H' => ∀ v, Rp K o' H' v d → Q v H') := h
      split at h'
      · rename_i hz
        exact ⟨_, _, rfl, rfl, hz, Wp.ok hs h' _ (.int _)⟩
      · exact h'.elim
    | _ => exact h.elim
  | _ => cases y <;> exact h.elim
theorem noex_mod : NoEx dMod := by
  intro x y st e st' h
  unfold dMod at h
  split at h
  · split at h <;> cases h
  · cases h
def dDiv (x y : D) (st : Sto) : R D := match x, y with
  | .int i, .int j => if CDivW i j then .ok (.int (i / j)) st else .bad
  | _, _ => .bad
theorem divD {K : PySem.W.Frag} : OpD K (rI CDivW fun i j => .int (i / j)) dDiv := by
  intro o st H v w x y Q hs rx ry h
  cases x with
  | int i =>
    cases y with
    | int j =>
      cases rx; cases ry
      have h' : Wp K o H (if CDivW i j then .ok (.int (i / j)) st else .bad) (fun _ _ _ => False) (fun d _ o' H' => ∀ v, Rp K o' H' v d → Q v H') := h
      split at h'
      · rename_i hz
        exact ⟨_, _, rfl, rfl, hz, Wp.ok hs h' _ (.int _)⟩
      · exact h'.elim
    | _ => exact h.elim
  | _ => cases y <;> exact h.elim
theorem noex_div : NoEx dDiv := by
  intro x y st e st' h
  unfold dDiv at h
  split at h
  · split at h <;> cases h
  · cases h
def CPowW (i j : Int) : Prop := 0 ≤ j ∧ (Builtin.Int.intBits i : Int) * j ≤ 2 ^ 27
instance (i j : Int) : Decidable (CPowW i j) := by unfold CPowW; exact inferInstance
def dPow (x y : D) (st : Sto) : R D := match x, y with
  | .int i, .int j => if CPowW i j then .ok (.int (i ^ j.toNat)) st else .bad
  | _, _ => .bad
theorem op_powW {X : Cx} : OpR X (binaryOp .Pow) (rI CPowW fun i j => .int (i ^ j.toNat)) := opI fun _ _ _ _ _ _ _ hc q => pow_int hc.1 hc.2 q
theorem powD {K : PySem.W.Frag} : OpD K (rI CPowW fun i j => .int (i ^ j.toNat)) dPow := by
  intro o st H v w x y Q hs rx ry h
  cases x with
  | int i =>
    cases y with
    | int j =>
      cases rx; cases ry
      have h' : Wp K o H (if CPowW i j then .ok (.int (i ^ j.toNat)) st else .bad) (fun _ _ _ => False) (fun d _ o' H' => ∀ v, Rp K o' H' v d → Q v H') := h
      split at h'
      · rename_i hz
        exact ⟨_, _, rfl, rfl, hz, Wp.ok hs h' _ (.int _)⟩
      · exact h'.elim
    | _ => exact h.elim
  | _ => cases y <;> exact h.elim
theorem noex_pow : NoEx dPow := by
  intro x y st e st' h
  unfold dPow at h
  split at h
  · split at h <;> cases h
  · cases h

/-! ### < <= > >= of ints -/
def dCmp (p : Int → Int → Bool) (x y : D) (st : Sto) : R D := match x, y with
  | .int i, .int j => .ok (.bl (p i j)) st
  | _, _ => .bad
theorem cmpD {K : PySem.W.Frag} {p : Int → Int → Bool} : OpD K (rI0 fun i j => .bl (p i j)) (dCmp p) := by
  intro o st H v w x y Q hs rx ry h
  cases x <;> first
    | (cases y <;> first
        | exact h.elim
        | (cases rx; cases ry; exact ⟨_, _, rfl, rfl, Wp.ok hs h _ (.bl _)⟩))
    | exact h.elim
theorem noex_cmp {p : Int → Int → Bool} : NoEx (dCmp p) := by
  intro x y st e st' h
  unfold dCmp at h
  split at h <;> cases h
def pLt (i j : Int) : Bool := decide (i < j)
def pLe (i j : Int) : Bool := decide (i ≤ j)
def pGt (i j : Int) : Bool := decide (j < i)
def pGe (i j : Int) : Bool := decide (j ≤ i)

/-! ### == != of data -/
def toPy : Nat → Sto → D → Option PyData
  | 0, _, _ => none
  | k + 1, st, d => match d with
    | .non => some .none
    | .bl b => some (.bool b)
    | .int i => some (.int i)
    | .str x => some (.str x)
    | .tup ds => (ds.mapM (toPy k st)).map .tuple
    | d => match lstOf st d with
      | some ds => (ds.mapM (toPy k st)).map .list
      | none => none
theorem dp_all {K : PySem.W.Frag} {o : Ow} {H : Hp} {st : Sto} {f : D → Option PyData} (hf : ∀ v d a, Rp K o H v d → f d = some a → Dp K H v a) : ∀ {vs : List V} {ds : List D} {as : List PyData}, RpL K o H vs ds → ds.mapM f = some as → DpAll K H vs as
  | _, _, as, .nil, e => by
    have : as = [] := by simpa using e.symm
    subst this
    exact .nil
  | _, _, as, .cons (d := d) (ds := ds) r rr, e => by
    rw [List.mapM_cons] at e
    cases e1 : f d with
    | none => rw [e1] at e; cases e
    | some a =>
      cases e2 : ds.mapM f with
      | none => rw [e1, e2] at e; cases e
      | some bs =>
        rw [e1, e2] at e
        cases e
        exact .cons (hf _ _ _ r e1) (dp_all (st := st) hf rr e2)
theorem dp_of {K : PySem.W.Frag} {o : Ow} {H : Hp} {st : Sto} (hs : StR K o st H) : ∀ (k : Nat) (v : V) (d : D) (a : PyData), Rp K o H v d → toPy k st d = some a → Dp K H v a
  | 0, _, _, _, _, e => by cases e
  | k + 1, v, d, a, r, e => by
    cases d with
    | non => cases r; cases e; exact .non
    | bl b => cases r; cases e; exact .bl b
    | int i => cases r; cases e; exact .int i
    | str x => cases r; cases e; exact .str x
    | tup ds =>
      obtain ⟨p, xs, rfl, q, rl⟩ := r.tupOf
      have e' : (ds.mapM (toPy k st)).map .tuple = some a := e
      cases e2 : ds.mapM (toPy k st) with
      | none => rw [e2] at e'; cases e'
      | some as =>
        rw [e2] at e'
        cases e'
        exact .tup q (dp_all (o := o) (st := st) (fun v d a r e => dp_of hs k v d a r e) rl e2)
    | lst ds =>
      obtain ⟨p, xs, rfl, q, rl⟩ := r.lstOf hs (ds := ds) rfl
      have e' : (ds.mapM (toPy k st)).map .list = some a := e
      cases e2 : ds.mapM (toPy k st) with
      | none => rw [e2] at e'; cases e'
      | some as =>
        rw [e2] at e'
        cases e'
        exact .lst q (dp_all (o := o) (st := st) (fun v d a r e => dp_of hs k v d a r e) rl e2)
    | ref n =>
      have e' : (match lstOf st (.ref n) with
        | some ds => (ds.mapM (toPy k st)).map PyData.list
        | none => none) = some a := e
      cases e3 : lstOf st (.ref n) with
      | none => rw [e3] at e'; cases e'
      | some ds =>
        rw [e3] at e'
        obtain ⟨p, xs, rfl, q, rl⟩ := r.lstOf hs e3
        cases e2 : ds.mapM (toPy k st) with
        | none => simp only [e2] at e'; cases e'
        | some as =>
          simp only [e2] at e'
          cases e'
          exact .lst q (dp_all (o := o) (st := st) (fun v d a r e => dp_of hs k v d a r e) rl e2)
    | adr _ => cases e
    | ty _ => cases e
/-- == of scalars -/
def scD : D → D → Option Bool
  | .int i, .int j => some (decide (i = j))
  | .str i, .str j => some (decide (i = j))
  | .bl i, .bl j => some (decide (i = j))
  | .non, .non => some true
  | .non, .int _ => some false
  | .int _, .non => some false
  | .non, .str _ => some false
  | .str _, .non => some false
  | .int _, .str _ => some false
  | .str _, .int _ => some false
  | _, _ => none
theorem sc_rp {K : PySem.W.Frag} {o : Ow} {H : Hp} {v w : V} {x y : D} {b : Bool} (r : Rp K o H v x) (r' : Rp K o H w y) (e : scD x y = some b) : scal v w = true ∧ decide (v = w) = b := by
  cases r <;> cases r' <;> first
    | (cases e; done)
    | (cases e; exact ⟨rfl, rfl⟩)
    | (cases e; refine ⟨rfl, ?_⟩; simp)
def dEq (x y : D) (st : Sto) : R D := match scD x y with
  | some b => .ok (.bl b) st
  | none => match toPy 20 st x, toPy 20 st y with
    | some a, some b => if SeqAt.shaped a = true ∧ SeqAt.shaped b = true then .ok (.bl (PyData.eqv a b)) st else .bad
    | _, _ => .bad
def dNe (x y : D) (st : Sto) : R D := match scD x y with
  | some b => .ok (.bl (!b)) st
  | none => match toPy 20 st x, toPy 20 st y with
    | some a, some b => if SeqAt.shaped a = true ∧ SeqAt.shaped b = true then .ok (.bl (!PyData.eqv a b)) st else .bad
    | _, _ => .bad
def rEqU (K : PySem.W.Frag) : R2 := fun x y H Q => rEq x y H Q ∨ rEqD K x y H Q
def rNeU (K : PySem.W.Frag) : R2 := fun x y H Q => rNe x y H Q ∨ rNeD K x y H Q
theorem op_eqU {X : Cx} (hu : X.A.units + 64 < cLine) : OpR X (compareOp .Eq) (rEqU X.K) := by
  intro pins s sg H x y v u Q I rx ry h
  rcases h with h | h
  · exact op_eq pins s sg H x y v u Q I rx ry h
  · exact op_eqD hu pins s sg H x y v u Q I rx ry h
theorem op_neU {X : Cx} (hu : X.A.units + 64 < cLine) : OpR X (compareOp .NotEq) (rNeU X.K) := by
  intro pins s sg H x y v u Q I rx ry h
  rcases h with h | h
  · exact op_ne pins s sg H x y v u Q I rx ry h
  · exact op_neD hu pins s sg H x y v u Q I rx ry h
theorem eqD {K : PySem.W.Frag} : OpD K (rEqU K) dEq := by
  intro o st H v w x y Q hs rx ry h
  unfold dEq at h
  split at h
  · rename_i b e
    obtain ⟨e1, e2⟩ := sc_rp rx ry e
    exact .inl ⟨e1, by rw [e2]; exact Wp.ok hs h _ (.bl _)⟩
  · split at h
    · rename_i a b e1 e2
      split at h
      · rename_i hz
        exact .inr ⟨a, b, dp_of hs 20 v x a rx e1, dp_of hs 20 w y b ry e2, hz.1, hz.2, Wp.ok hs h _ (.bl _)⟩
      · exact h.elim
    · exact h.elim
theorem neD {K : PySem.W.Frag} : OpD K (rNeU K) dNe := by
  intro o st H v w x y Q hs rx ry h
  unfold dNe at h
  split at h
  · rename_i b e
    obtain ⟨e1, e2⟩ := sc_rp rx ry e
    exact .inl ⟨e1, by rw [e2]; exact Wp.ok hs h _ (.bl _)⟩
  · split at h
    · rename_i a b e1 e2
      split at h
      · rename_i hz
        exact .inr ⟨a, b, dp_of hs 20 v x a rx e1, dp_of hs 20 w y b ry e2, hz.1, hz.2, Wp.ok hs h _ (.bl _)⟩
      · exact h.elim
    · exact h.elim
theorem noex_eq : NoEx dEq := by
  intro x y st e st' h
  unfold dEq at h
  split at h
  · cases h
  · split at h
    · split at h <;> cases h
    · cases h
theorem noex_ne : NoEx dNe := by
  intro x y st e st' h
  unfold dNe at h
  split at h
  · cases h
  · split at h
    · split at h <;> cases h
    · cases h
/-- is None, is not None -/
def isNon : D → Bool
  | .non => true
  | _ => false
def dIsN (x y : D) (st : Sto) : R D := match y with
  | .non => .ok (.bl (isNon x)) st
  | _ => .bad
def dNotN (x y : D) (st : Sto) : R D := match y with
  | .non => .ok (.bl (!isNon x)) st
  | _ => .bad
theorem isNon_rp {K : PySem.W.Frag} {o : Ow} {H : Hp} {v : V} {x : D} (r : Rp K o H v x) : decide (v = .non) = isNon x := by
  cases r <;> simp [isNon]
theorem isND {K : PySem.W.Frag} : OpD K (fun x y H Q => y = .non ∧ Q (.bl (decide (x = .non))) H) dIsN := by
  intro o st H v w x y Q hs rx ry h
  cases y with
  | non => cases ry; exact ⟨rfl, by rw [isNon_rp rx]; exact Wp.ok hs h _ (.bl _)⟩
  | _ => exact h.elim
theorem notND {K : PySem.W.Frag} : OpD K (fun x y H Q => y = .non ∧ Q (.bl (!decide (x = .non))) H) dNotN := by
  intro o st H v w x y Q hs rx ry h
  cases y with
  | non => cases ry; exact ⟨rfl, by rw [isNon_rp rx]; exact Wp.ok hs h _ (.bl _)⟩
  | _ => exact h.elim
theorem noex_isN : NoEx dIsN := by
  intro x y st e st' h
  unfold dIsN at h
  split at h <;> cases h
theorem noex_notN : NoEx dNotN := by
  intro x y st e st' h
  unfold dNotN at h
  split at h <;> cases h

/-! ### subscripts -/
def dIx (x y : D) (st : Sto) : R D := match y with
  | .int i => match seqOf st x with
    | some ds => match atI ds i with
      | some d => .ok d st
      | none => .bad
    | none => .bad
  | _ => .bad
theorem RpL.atI {K : PySem.W.Frag} {o : Ow} {H : Hp} {vs : List V} {ds : List D} {i : Int} {d : D} (r : RpL K o H vs ds) (e : L2.atI ds i = some d) : ∃ v, L2.atI vs i = some v ∧ Rp K o H v d := by
  unfold L2.atI at e ⊢
  rw [r.length]
  cases q : ixN ds.length i with
  | none => rw [q] at e; cases e
  | some j =>
    rw [q] at e
    exact r.get (show ds[j]? = some d from e)
def rIxD (K : PySem.W.Frag) : R2 := fun x y H Q => rIxL K x y H Q ∨ rIxT K x y H Q
theorem ix_D {X : Cx} : IxR X (rIxD X.K) := ix_list.or ix_tup
theorem ixD {K : PySem.W.Frag} : OpD K (rIxD K) dIx := by
  intro o st H v w x y Q hs rx ry h
  unfold dIx at h
  split at h
  · cases ry
    split at h
    · rename_i ds e
      split at h
      · rename_i d e2
        obtain ⟨a, xs, rfl, q, rl⟩ := rx.seqOf hs e
        obtain ⟨u, e3, ru⟩ := rl.atI e2
        rcases q with q | q
        · exact .inl ⟨a, xs, _, u, rfl, rfl, q, e3, Wp.ok hs h u ru⟩
        · exact .inr ⟨a, xs, _, u, rfl, rfl, q, e3, Wp.ok hs h u ru⟩
      · exact h.elim
    · exact h.elim
  · exact h.elim
theorem noex_ix : NoEx dIx := by
  intro x y st e st' h
  unfold dIx at h
  split at h
  · split at h
    · split at h <;> cases h
    · cases h
  · cases h
section
variable {X : Cx} {W : WX} {k : Nat} {pos p2 : Pos} {a b c e : Expr} {ta tb tc te : TE} {ma mb mc me : ME}
theorem pd_ix (ha : PD X W a ta ma) (hb : PD X W b tb mb) (hs : PlainIx b := by exact fun _ _ => rfl) : PD X W (.Subscript a b pos) (tOp (rIxD X.K) ta tb) (mOp dIx ma mb) := ⟨pe_ix ix_D ha.pe hb.pe hs, rt_op ixD noex_ix ha.rt hb.rt⟩
/-- a < b < c -/
def mChain (g g' : D → D → Sto → R D) (a b c : ME) : ME := fun rho st => (a rho st).bind fun x st => (b rho st).bind fun y st => (g x y st).bind fun z st => match z with
  | .bl true => (c rho st).bind fun w st => g' y w st
  | .bl false => .ok (.bl false) st
  | _ => .bad
theorem rt_chain {K : PySem.W.Frag} {r r' : R2} {g g' : D → D → Sto → R D} (hg : OpD K r g) (hg' : OpD K r' g') (n : NoEx g) (n' : NoEx g') (ha : Rt K W ta ma) (hb : Rt K W tb mb) (hc : Rt K W tc mc) : Rt K W (tChain r r' ta tb tc) (mChain g g' ma mb mc) := by
  intro rho sg o st H Q he hs h
  refine ha rho sg o st H _ he hs ((Wp.bind h).imp (fun _ _ _ z => z) fun x st1 o1 H1 s1 hs1 h => ?_)
  intro v rv
  refine hb rho sg o1 st1 H1 _ (he.step s1.toRch) hs1 ((Wp.bind h).imp (fun _ _ _ z => z) fun y st2 o2 H2 s2 hs2 h => ?_)
  intro w rw'
  refine hg o2 st2 H2 v w x y _ hs2 (rv.step s2.toRch) rw' (((Wp.bind h).noE (E' := fun _ _ _ => False) (n _ _ _)).imp (fun _ _ _ z => z) fun z st3 o3 H3 s3 hs3 h => ?_)
  intro u ru
  cases ru with
  | bl b =>
    refine ⟨b, rfl, ?_⟩
    cases b with
    | false => exact Wp.ok hs3 h _ (.bl false)
    | true =>
      refine hc rho sg o3 st3 H3 _ (((he.step s1.toRch).step s2.toRch).step s3.toRch) hs3 ((Wp.bind h).imp (fun _ _ _ z => z) fun w4 st4 o4 H4 s4 hs4 h => ?_)
      intro u4 r4
      exact hg' o4 st4 H4 w u4 y w4 Q hs4 ((rw'.step s3.toRch).step s4.toRch) r4 (h.noE (n' _ _ _))
  | _ => exact h.elim
theorem pd_chain {op op' : CmpOp} {r r' : R2} {g g' : D → D → Sto → R D} (ho : OpR X (compareOp op) r) (ho' : OpR X (compareOp op') r') (hg : OpD X.K r g) (hg' : OpD X.K r' g') (n : NoEx g) (n' : NoEx g') (ha : PD X W a ta ma) (hb : PD X W b tb mb) (hc : PD X W c tc mc)
    (hm : lastMarks [op, op'] [b, c] = false := by with_unfolding_all rfl) : PD X W (.Compare a [op, op'] [b, c] pos) (tChain r r' ta tb tc) (mChain g g' ma mb mc) := ⟨pe_chain ho ho' ha.pe hb.pe hc.pe hm, rt_chain hg hg' n n' ha.rt hb.rt hc.rt⟩
theorem pdt_chain {op op' : CmpOp} {r r' : R2} {g g' : D → D → Sto → R D} (ho : OpR X (compareOp op) r) (ho' : OpR X (compareOp op') r') (hg : OpD X.K r g) (hg' : OpD X.K r' g') (n : NoEx g) (n' : NoEx g') (ha : PD X W a ta ma) (hb : PD X W b tb mb) (hc : PD X W c tc mc)
    (hm : lastMarks [op, op'] [b, c] = false := by with_unfolding_all rfl) : PDT X W (.Compare a [op, op'] [b, c] pos) (tTest (tChain r r' ta tb tc)) (mB (mChain g g' ma mb mc)) := ⟨pt_chain ho ho' ha.pe hb.pe hc.pe hm, rt_B (rt_chain hg hg' n n' ha.rt hb.rt hc.rt)⟩

/-! ### slices -/
abbrev MO := En → Sto → R (Option Int)
def RtO (K : PySem.W.Frag) (W : WX) (t : TO) (m : MO) : Prop := ∀ (rho : En) (sg : L2.St) (o : Ow) (st : Sto) (H : Hp) (Q : Option Int → Hp → Prop), EnvR K o H rho sg → StR K o st H →
  Wp K o H (m rho st) (EW K W sg) (fun b _ o' H' => Q b H') → t sg H Q
structure PDO (X : Cx) (W : WX) (e : Option Expr) (t : TO) (m : MO) : Prop where
  pe : PO X e t
  rt : RtO X.K W t m
def mNoPart : MO := fun _ st => .ok none st
def mPart (a : ME) : MO := fun rho st => (a rho st).bind fun x st => match x with
  | .int i => .ok (some i) st
  | _ => .bad
theorem pdo_none : PDO X W none tNoPart mNoPart := ⟨po_none, fun rho sg o st H Q he hs h => Wp.ok hs h⟩
theorem pdo_some (h : PD X W e te me) : PDO X W (some e) (tPart te) (mPart me) := by
  refine ⟨po_some h.pe, fun rho sg o st H Q he hs hw => ?_⟩
  refine h.rt rho sg o st H _ he hs ((Wp.bind hw).imp (fun _ _ _ z => z) fun x st1 o1 H1 s1 hs1 h => ?_)
  intro v rv
  cases rv with
  | int i => exact ⟨i, rfl, Wp.ok hs1 h⟩
  | _ => exact h.elim
def cutD (xs : List D) (lo hi : Option Int) : List D := (xs.drop (HT.sIx xs.length 0 lo)).take (HT.sIx xs.length xs.length hi - HT.sIx xs.length 0 lo)
def mSl (a : ME) (l h : MO) : ME := fun rho st => (a rho st).bind fun x st => (l rho st).bind fun lo st => (h rho st).bind fun hi st => match x with
  | .tup ds => .ok (.tup (cutD ds lo hi)) st
  | x => match lstOf st x with
    | some ds => .ok (.lst (cutD ds lo hi)) st
    | none => .bad
def rSlD (K : PySem.W.Frag) : V → Option Int → Option Int → Hp → VK → Prop := fun x lo hi H Q => rSlA K x lo hi H Q ∨ rSlL K x lo hi H Q
theorem RpL.cut {K : PySem.W.Frag} {o : Ow} {H : Hp} {vs : List V} {ds : List D} (r : RpL K o H vs ds) (lo hi : Option Int) : RpL K o H (cutV vs lo hi) (cutD ds lo hi) := by
  unfold cutV cutD
  rw [r.length]
  exact (r.drop _).take _
theorem cutD_whole {ds : List D} {lo hi : Option Int} (h : HT.sIx ds.length 0 lo = 0 ∧ HT.sIx ds.length ds.length hi = ds.length) : cutD ds lo hi = ds := by
  unfold cutD
  rw [h.1, h.2, List.drop_zero, Nat.sub_zero, List.take_length]
theorem pd_slice {lo hi : Option Expr} {tl th : TO} {ml mh : MO} (ha : PD X W a ta ma) (hl : PDO X W lo tl ml) (hh : PDO X W hi th mh) : PD X W (.Subscript a (.Slice lo hi none p2) pos) (tSl (rSlD X.K) ta tl th) (mSl ma ml mh) := by
  refine ⟨pe_slice (sl_tupA.or sl_list) ha.pe hl.pe hh.pe, fun rho sg o st H Q he hs hw => ?_⟩
  refine ha.rt rho sg o st H _ he hs ((Wp.bind hw).imp (fun _ _ _ z => z) fun x st1 o1 H1 s1 hs1 h => ?_)
  intro v rv
  refine hl.rt rho sg o1 st1 H1 _ (he.step s1.toRch) hs1 ((Wp.bind h).imp (fun _ _ _ z => z) fun l st2 o2 H2 s2 hs2 h => ?_)
  refine hh.rt rho sg o2 st2 H2 _ ((he.step s1.toRch).step s2.toRch) hs2 ((Wp.bind h).imp (fun _ _ _ z => z) fun u st3 o3 H3 s3 hs3 h => ?_)
  have rv3 := (rv.step s2.toRch).step s3.toRch
  cases x with
  | tup ds =>
    obtain ⟨p, xs, rfl, q, rl⟩ := rv3.tupOf
    refine .inl ⟨p, xs, rfl, q, fun e => ?_, fun _ => end_tup hs3 (rl.cut l u) h⟩
    rw [rl.length] at e
    have h' : Wp X.K o3 H3 (.ok (.tup (cutD ds l u)) st3) (EW X.K W sg) (fun d _ o' H' => ∀ v, Rp X.K o' H' v d → Q v H') := h
    rw [cutD_whole e] at h'
    exact Wp.ok hs3 h' _ rv3
  | lst ds =>
    obtain ⟨p, xs, rfl, q, rl⟩ := rv3.lstOf hs3 (ds := ds) rfl
    exact .inr ⟨p, xs, rfl, q, end_lst hs3 (rl.cut l u) h⟩
  | ref n =>
    have h' : Wp X.K o3 H3 (match lstOf st3 (.ref n) with
      | some ds => .ok (.lst (cutD ds l u)) st3
      | none => .bad) (EW X.K W sg) (fun d _ o' H' => ∀ v, Rp X.K o' H' v d → Q v H') := h
    cases e3 : lstOf st3 (.ref n) with
    | none => rw [e3] at h'; exact h'.elim
    | some ds =>
      rw [e3] at h'
      obtain ⟨p, xs, rfl, q, rl⟩ := rv3.lstOf hs3 e3
      exact .inr ⟨p, xs, rfl, q, end_lst hs3 (rl.cut l u) h'⟩
  | _ => exact h.elim
end
end DL

set_option Elab.async false
set_option linter.all false
set_option maxRecDepth 100000
set_option maxHeartbeats 2000000
/-! DBlt: built-in functions and methods by data. -/
namespace DL
open PySem PySem.Spec PyProof.Rows L2

abbrev NoExF (g : List D → Sto → R D) : Prop := ∀ ds st e st', g ds st ≠ .ex e st'
theorem RpL.one {K : PySem.W.Frag} {o : Ow} {H : Hp} {vs : List V} {d : D} (r : RpL K o H vs [d]) : ∃ v, vs = [v] ∧ Rp K o H v d := by
  cases r with
  | cons h t => cases t; exact ⟨_, rfl, h⟩
theorem RpL.two {K : PySem.W.Frag} {o : Ow} {H : Hp} {vs : List V} {d e : D} (r : RpL K o H vs [d, e]) : ∃ v w, vs = [v, w] ∧ Rp K o H v d ∧ Rp K o H w e := by
  cases r with
  | cons h t =>
    obtain ⟨w, rfl, q⟩ := t.one
    exact ⟨_, w, rfl, h, q⟩
/-- len of a sequence, of a text -/
def dLen (ds : List D) (st : Sto) : R D := match ds with
  | [.str x] => if x.length ≤ sizeLine then .ok (.int x.length) st else .bad
  | [d] => match seqOf st d with
    | some xs => .ok (.int xs.length) st
    | none => .bad
  | _ => .bad
def rLenD (K : PySem.W.Frag) : List V → Hp → VK → Prop := fun xs H Q => ∃ x n, xs = [x] ∧ LenV K x H n ∧ Q (.int n) H
theorem lenD {K : PySem.W.Frag} : FnD K (rLenD K) dLen := by
  intro o st H vs ds Q hs rl h
  unfold dLen at h
  split at h
  · rename_i x
    obtain ⟨v, rfl, r⟩ := rl.one
    cases r
    split at h
    · rename_i hz
      exact ⟨_, _, rfl, ⟨hz, rfl⟩, Wp.ok hs h _ (.int _)⟩
    · exact h.elim
  · rename_i d _
    obtain ⟨v, rfl, r⟩ := rl.one
    split at h
    · rename_i xs e
      obtain ⟨a, us, rfl, q, rs⟩ := r.seqOf hs e
      have h' := Wp.ok hs h _ (.int _)
      rw [← rs.length] at h'
      refine ⟨_, us.length, rfl, ?_, h'⟩
      rcases q with q | q
      · exact .inl ⟨us, q, rfl⟩
      · exact .inr ⟨us, q, rfl⟩
    · exact h.elim
  · exact h.elim
theorem noex_len : NoExF dLen := by
  intro ds st e st' h
  unfold dLen at h
  split at h
  · split at h <;> cases h
  · split at h <;> cases h
  · cases h
/-- tuple(x) -/
def dTuple (ds : List D) (st : Sto) : R D := match ds with
  | [d] => match seqOf st d with
    | some xs => .ok (.tup xs) st
    | none => .bad
  | _ => .bad
def rTupleD (K : PySem.W.Frag) : List V → Hp → VK → Prop := fun xs H Q => ∃ p ys, xs = [.ref p] ∧ ((SqL K H p ys ∧ ∀ l, H l = none → Q (.ref l) (upd H l (.tup ys))) ∨ (SqT K H p ys ∧ Q (.ref p) H))
theorem tupleD {K : PySem.W.Frag} : FnD K (rTupleD K) dTuple := by
  intro o st H vs ds Q hs rl h
  unfold dTuple at h
  split at h
  · rename_i d
    obtain ⟨v, rfl, r⟩ := rl.one
    split at h
    · rename_i xs e
      cases d with
      | tup es =>
        cases e
        obtain ⟨a, us, rfl, q, rs⟩ := r.tupOf
        exact ⟨a, us, rfl, .inr ⟨q, Wp.ok hs h _ r⟩⟩
      | _ =>
        obtain ⟨a, us, rfl, q, rs⟩ := r.lstOf hs e
        exact ⟨a, us, rfl, .inl ⟨q, end_tup hs rs h⟩⟩
    · exact h.elim
  · exact h.elim
theorem noex_tuple : NoExF dTuple := by
  intro ds st e st' h
  unfold dTuple at h
  split at h
  · split at h <;> cases h
  · cases h
section
variable {X : Cx} {W : WX} {k : Nat} {pos p p2 q : Pos} {a b e : Expr} {es : List Expr} {t : TA} {m : MA} {ta tb te : TE} {ma mb me : ME}
/-- list(x): a new one -/
def mListOf (m : ME) : MA := fun rho st => (m rho st).bind fun d st => match seqOf st d with
  | some xs => .ok xs st
  | none => .bad
def rListD (K : PySem.W.Frag) : List V → Hp → VK → Prop := fun xs H Q => ∃ p ys, xs = [.ref p] ∧ (SqL K H p ys ∨ SqT K H p ys) ∧ ∀ l, H l = none → Q (.ref l) (upd H l (.lst ys))
/-- a new list, laid aside: the end of a rule -/
theorem end_new {K : PySem.W.Frag} {o o1 : Ow} {H H1 : Hp} {st1 : Sto} {Q : VK} {ds : List D} {vs : List V} (s1 : Step o H o1 H1) (hs1 : StR K o1 st1 H1) (rl : RpL K o1 H1 vs ds)
    (h : ∀ o' H' p vs, Step o H o' H' → H p = none → StR K (o'.rsv p) st1 H' → H' p = some (.lst vs) → RpL K (o'.rsv p) H' vs ds → Q (.ref p) H') : ∀ p, H1 p = none → Q (.ref p) (upd H1 p (.lst vs)) := fun p hp => by
  have s2 : Step o1 H1 o1 (upd H1 p (.lst vs)) := step_new hp
  exact h o1 _ p vs (s1.trans s2) (s1.free hp) (hs1.rsv hp) upd_same ((rl.rsv hp).step (show Rch (o1.rsv p) H1 (o1.rsv p) (upd H1 p (.lst vs)) from ⟨⟨[], by simp, fun _ h => nomatch h⟩, ⟨[], by simp, fun _ h => nomatch h⟩, s2.keep, s2.stay⟩))
theorem pdf_list {x : Str} (hm : X.mg x = none) (hv : bootBuiltins x = some (.type "list")) (ha : PD X W a ta ma) (hg : Gl X x := by rfl) (hn : x ≠ "__name__" := by decide) (hdb : (x == ("__debug__" : Str)) = false := by decide)
    (hst : starEach [a] X.env = (false, eval a X.env) :: starEach [] X.env := by rfl) (hpl : (backTo pos (starEach [] X.env)).any (·.1) = false := by rfl) : PDF X W (.Call (.Name x p) [a] [] pos) (tCB (rListD X.K) (tCons ta tNil)) (mListOf ma) := by
  refine ⟨pe_callTy call_list_of hg hm hv (pa_cons ha.pe pa_nil hst) hn hdb hst hpl, fun rho sg o st H Q he hs hw => ?_⟩
  refine ha.rt rho sg o st H _ he hs ?_
  unfold mListOf at hw
  cases q : ma rho st with
  | bad => rw [q] at hw; exact hw.elim
  | ex e st1 => rw [q] at hw; exact hw
  | ok d st1 =>
    rw [q] at hw
    intro o1 H1 s1 hs1 v rv
    simp only [R.bind] at hw
    cases e3 : DL.seqOf st1 d with
    | none => rw [e3] at hw; exact hw.elim
    | some xs =>
      rw [e3] at hw
      obtain ⟨p', us, rfl, q', rs⟩ := rv.seqOf hs1 e3
      exact ⟨p', us, rfl, q', end_new s1 hs1 rs hw⟩
/-- list(range(n)) -/
def rgD (a b : Int) : List D := (List.range (b - a).toNat).map fun i => D.int (a + (i : Nat))
theorem rgD_rp {K : PySem.W.Frag} {o : Ow} {H : Hp} (a b : Int) : RpL K o H (rgV a b) (rgD a b) := by
  unfold rgV rgD
  generalize List.range (b - a).toNat = l
  induction l with
  | nil => exact .nil
  | cons i r ih => exact .cons (.int _) ih
instance (a b : Int) : Decidable (RgOk a b) := by unfold RgOk; exact inferInstance
def mRange1 (m : ME) : MA := fun rho st => (m rho st).bind fun d st => match d with
  | .int n => if RgOk 0 n then .ok (rgD 0 n) st else .bad
  | _ => .bad
def mRange2 (m m' : ME) : MA := fun rho st => (m rho st).bind fun d st => (m' rho st).bind fun d' st => match d, d' with
  | .int i, .int j => if RgOk i j then .ok (rgD i j) st else .bad
  | _, _ => .bad
def mTupOf (a : MA) : ME := fun rho st => (a rho st).bind fun ds st => .ok (.tup ds) st
theorem pdf_listRg (c : Cok X W k) (hmR : X.mg "range" = none) (hmL : X.mg "list" = none) (ha : PD X W a ta ma) (hgR : Gl X "range" := by rfl) (hgL : Gl X "list" := by rfl) (na : starEach [a] X.env = (false, eval a X.env) :: starEach [] X.env := by rfl)
    (na2 : starEach [.Call (.Name "range" p2) [a] [] q] X.env = (false, eval (.Call (.Name "range" p2) [a] [] q) X.env) :: starEach [] X.env := by rfl) :
    PDF X W (.Call (.Name "list" p) [.Call (.Name "range" p2) [a] [] q] [] pos) (tLstRg (tRg1 ta)) (mRange1 ma) := by
  refine ⟨pe_listRg c.calm hgL hmL (prg_1 hgR hmR ha.pe na) na2, fun rho sg o st H Q he hs hw => ?_⟩
  refine ha.rt rho sg o st H _ he hs ?_
  unfold mRange1 at hw
  cases q : ma rho st with
  | bad => rw [q] at hw; exact hw.elim
  | ex e st1 => rw [q] at hw; exact hw
  | ok d st1 =>
    rw [q] at hw
    intro o1 H1 s1 hs1 v rv
    simp only [R.bind] at hw
    cases d with
    | int n =>
      cases rv
      by_cases hz : RgOk 0 n
      · simp only [if_pos hz] at hw
        exact ⟨n, rfl, hz, end_new s1 hs1 (rgD_rp 0 n) hw⟩
      · simp only [if_neg hz] at hw
    | _ => exact hw.elim
theorem pd_tupRg (c : Cok X W k) (hmR : X.mg "range" = none) (hmL : X.mg "tuple" = none) (ha : PD X W a ta ma) (hgR : Gl X "range" := by rfl) (hgL : Gl X "tuple" := by rfl) (na : starEach [a] X.env = (false, eval a X.env) :: starEach [] X.env := by rfl)
    (na2 : starEach [.Call (.Name "range" p2) [a] [] q] X.env = (false, eval (.Call (.Name "range" p2) [a] [] q) X.env) :: starEach [] X.env := by rfl) :
    PD X W (.Call (.Name "tuple" p) [.Call (.Name "range" p2) [a] [] q] [] pos) (tTupRg (tRg1 ta)) (mTupOf (mRange1 ma)) := by
  refine ⟨pe_tupRg c.calm hgL hmL (prg_1 hgR hmR ha.pe na) na2, fun rho sg o st H Q he hs hw => ?_⟩
  refine ha.rt rho sg o st H _ he hs ?_
  unfold mTupOf mRange1 at hw
  cases q : ma rho st with
  | bad => rw [q] at hw; exact hw.elim
  | ex e st1 => rw [q] at hw; exact hw
  | ok d st1 =>
    rw [q] at hw
    intro o1 H1 s1 hs1 v rv
    simp only [R.bind] at hw
    cases d with
    | int n =>
      cases rv
      by_cases hz : RgOk 0 n
      · simp only [if_pos hz] at hw
        exact ⟨n, rfl, hz, end_tup hs1 (rgD_rp 0 n) (Wp.base s1 hw)⟩
      · simp only [if_neg hz] at hw; exact hw.elim
    | _ => exact hw.elim
end
/-- max, min of two ints -/
def dMax2 (ds : List D) (st : Sto) : R D := match ds with
  | [.int i, .int j] => .ok (.int (if j > i then j else i)) st
  | _ => .bad
def dMin2 (ds : List D) (st : Sto) : R D := match ds with
  | [.int i, .int j] => .ok (.int (if j < i then j else i)) st
  | _ => .bad
theorem max2D {K : PySem.W.Frag} : FnD K (fun xs H Q => ∃ i j, xs = [.int i, .int j] ∧ Q (.int (if j > i then j else i)) H) dMax2 := by
  intro o st H vs ds Q hs rl h
  unfold dMax2 at h
  split at h
  · obtain ⟨v, w, rfl, r1, r2⟩ := rl.two
    cases r1; cases r2
    exact ⟨_, _, rfl, Wp.ok hs h _ (.int _)⟩
  · exact h.elim
theorem min2D {K : PySem.W.Frag} : FnD K (fun xs H Q => ∃ i j, xs = [.int i, .int j] ∧ Q (.int (if j < i then j else i)) H) dMin2 := by
  intro o st H vs ds Q hs rl h
  unfold dMin2 at h
  split at h
  · obtain ⟨v, w, rfl, r1, r2⟩ := rl.two
    cases r1; cases r2
    exact ⟨_, _, rfl, Wp.ok hs h _ (.int _)⟩
  · exact h.elim
theorem noex_max2 : NoExF dMax2 := by intro ds st e st' h; unfold dMax2 at h; split at h <;> cases h
theorem noex_min2 : NoExF dMin2 := by intro ds st e st' h; unfold dMin2 at h; split at h <;> cases h
/-- int(x) of an int, of a truth -/
def dInt (ds : List D) (st : Sto) : R D := match ds with
  | [.int i] => .ok (.int i) st
  | [.bl b] => .ok (.int (if b then 1 else 0)) st
  | _ => .bad
theorem intD {K : PySem.W.Frag} : FnD K (fun xs H Q => (∃ i, xs = [.int i] ∧ Q (.int i) H) ∨ ∃ k, xs = [.bl k] ∧ Q (.int (if k then 1 else 0)) H) dInt := by
  intro o st H vs ds Q hs rl h
  unfold dInt at h
  split at h
  · obtain ⟨v, rfl, r⟩ := rl.one
    cases r
    exact .inl ⟨_, rfl, Wp.ok hs h _ (.int _)⟩
  · obtain ⟨v, rfl, r⟩ := rl.one
    cases r
    exact .inr ⟨_, rfl, Wp.ok hs h _ (.int _)⟩
  · exact h.elim
theorem noex_int : NoExF dInt := by intro ds st e st' h; unfold dInt at h; split at h <;> cases h
/-- lists of one kind -/
def blsOf : List D → Option (List Bool)
  | [] => some []
  | .bl b :: r => (blsOf r).map (b :: ·)
  | _ => none
def intsOf : List D → Option (List Int)
  | [] => some []
  | .int b :: r => (intsOf r).map (b :: ·)
  | _ => none
theorem bls_rp {K : PySem.W.Frag} {o : Ow} {H : Hp} : ∀ {vs : List V} {ds : List D} {bs : List Bool}, RpL K o H vs ds → blsOf ds = some bs → vs = bs.map V.bl
  | _, [], bs, .nil, e => by cases e; rfl
  | _, .bl b :: r, bs, .cons h t, e => by
    have e' : (blsOf r).map (b :: ·) = some bs := e
    cases q : blsOf r with
    | none => rw [q] at e'; cases e'
    | some cs =>
      rw [q] at e'
      cases e'
      cases h
      rw [bls_rp t q]
      rfl
  | _, .non :: _, _, .cons _ _, e => nomatch e
  | _, .int _ :: _, _, .cons _ _, e => nomatch e
  | _, .str _ :: _, _, .cons _ _, e => nomatch e
  | _, .tup _ :: _, _, .cons _ _, e => nomatch e
  | _, .lst _ :: _, _, .cons _ _, e => nomatch e
  | _, .ref _ :: _, _, .cons _ _, e => nomatch e
  | _, .adr _ :: _, _, .cons _ _, e => nomatch e
  | _, .ty _ :: _, _, .cons _ _, e => nomatch e
theorem ints_rp {K : PySem.W.Frag} {o : Ow} {H : Hp} : ∀ {vs : List V} {ds : List D} {bs : List Int}, RpL K o H vs ds → intsOf ds = some bs → vs = bs.map V.int
  | _, [], bs, .nil, e => by cases e; rfl
  | _, .int b :: r, bs, .cons h t, e => by
    have e' : (intsOf r).map (b :: ·) = some bs := e
    cases q : intsOf r with
    | none => rw [q] at e'; cases e'
    | some cs =>
      rw [q] at e'
      cases e'
      cases h
      rw [ints_rp t q]
      rfl
  | _, .non :: _, _, .cons _ _, e => nomatch e
  | _, .bl _ :: _, _, .cons _ _, e => nomatch e
  | _, .str _ :: _, _, .cons _ _, e => nomatch e
  | _, .tup _ :: _, _, .cons _ _, e => nomatch e
  | _, .lst _ :: _, _, .cons _ _, e => nomatch e
  | _, .ref _ :: _, _, .cons _ _, e => nomatch e
  | _, .adr _ :: _, _, .cons _ _, e => nomatch e
  | _, .ty _ :: _, _, .cons _ _, e => nomatch e
theorem blsOf_map (bs : List Bool) : blsOf (bs.map D.bl) = some bs := by
  induction bs with
  | nil => rfl
  | cons b r ih => show (blsOf (r.map D.bl)).map (b :: ·) = _; rw [ih]; rfl
theorem intsOf_map (bs : List Int) : intsOf (bs.map D.int) = some bs := by
  induction bs with
  | nil => rfl
  | cons b r ih => show (intsOf (r.map D.int)).map (b :: ·) = _; rw [ih]; rfl
def dAll (ds : List D) (st : Sto) : R D := match ds with
  | [d] => match lstOf st d with
    | some xs => match blsOf xs with
      | some bs => .ok (.bl (bs.all id)) st
      | none => .bad
    | none => .bad
  | _ => .bad
def dAny (ds : List D) (st : Sto) : R D := match ds with
  | [d] => match lstOf st d with
    | some xs => match blsOf xs with
      | some bs => .ok (.bl (bs.any id)) st
      | none => .bad
    | none => .bad
  | _ => .bad
def dSum (ds : List D) (st : Sto) : R D := match ds with
  | [d] => match lstOf st d with
    | some xs => match intsOf xs with
      | some bs => .ok (.int bs.sum) st
      | none => .bad
    | none => .bad
  | _ => .bad
theorem allD {K : PySem.W.Frag} : FnD K (rAll K) dAll := by
  intro o st H vs ds Q hs rl h
  unfold dAll at h
  split at h
  · obtain ⟨v, rfl, r⟩ := rl.one
    split at h
    · rename_i xs e
      split at h
      · rename_i bs e2
        obtain ⟨a, us, rfl, q, rs⟩ := r.lstOf hs e
        rw [bls_rp rs e2] at q
        exact ⟨a, bs, rfl, q, Wp.ok hs h _ (.bl _)⟩
      · exact h.elim
    · exact h.elim
  · exact h.elim
theorem anyD {K : PySem.W.Frag} : FnD K (rAny K) dAny := by
  intro o st H vs ds Q hs rl h
  unfold dAny at h
  split at h
  · obtain ⟨v, rfl, r⟩ := rl.one
    split at h
    · rename_i xs e
      split at h
      · rename_i bs e2
        obtain ⟨a, us, rfl, q, rs⟩ := r.lstOf hs e
        rw [bls_rp rs e2] at q
        exact ⟨a, bs, rfl, q, Wp.ok hs h _ (.bl _)⟩
      · exact h.elim
    · exact h.elim
  · exact h.elim
theorem sumD {K : PySem.W.Frag} : FnD K (rSum K) dSum := by
  intro o st H vs ds Q hs rl h
  unfold dSum at h
  split at h
  · obtain ⟨v, rfl, r⟩ := rl.one
    split at h
    · rename_i xs e
      split at h
      · rename_i bs e2
        obtain ⟨a, us, rfl, q, rs⟩ := r.lstOf hs e
        rw [ints_rp rs e2] at q
        exact ⟨a, bs, rfl, q, Wp.ok hs h _ (.int _)⟩
      · exact h.elim
    · exact h.elim
  · exact h.elim
theorem noex_all : NoExF dAll := by
  intro ds st e st' h; unfold dAll at h
  split at h
  · split at h
    · split at h <;> cases h
    · cases h
  · cases h
theorem noex_any : NoExF dAny := by
  intro ds st e st' h; unfold dAny at h
  split at h
  · split at h
    · split at h <;> cases h
    · cases h
  · cases h
theorem noex_sum : NoExF dSum := by
  intro ds st e st' h; unfold dSum at h
  split at h
  · split at h
    · split at h <;> cases h
    · cases h
  · cases h

/-! ### isinstance -/
def tyOf (st : Sto) : D → Option String
  | .non => some "NoneType"
  | .bl _ => some "bool"
  | .int _ => some "int"
  | .str _ => some "str"
  | .tup _ => some "tuple"
  | .lst _ => some "list"
  | .ref n => match st[n]? with
    | some (.lst _) => some "list"
    | some (.dct _) => some "dict"
    | _ => none
  | _ => none
theorem tyX_of {K : PySem.W.Frag} {o : Ow} {H : Hp} {st : Sto} {v : V} {d : D} {t : String} (hs : StR K o st H) (r : Rp K o H v d) (e : tyOf st d = some t) : TyX K H v (.type t) := by
  cases r with
  | non => cases e; exact .base .non
  | bl b => cases e; exact .base (.bl b)
  | int i => cases e; exact .base (.int i)
  | str x => cases e; exact .base (.str x)
  | ty _ => cases e
  | adr _ => cases e
  | tup h _ =>
    cases e
    rcases h with ⟨q | ⟨ob, q⟩, _⟩ | ⟨ob, its, n, q, c, _⟩
    · exact .base (.tup q)
    · exact .fTuple q
    · exact .kTuple q c
  | lst h _ =>
    cases e
    rcases h with ⟨q | ⟨ob, q⟩, _⟩ | ⟨ob, its, n, q, c, _⟩
    · exact .base (.lst q)
    · exact .base (.frz q)
    · exact .kList q c
  | @ref a n h =>
    unfold tyOf at e
    dsimp only at e
    split at e
    · rename_i e2
      cases e
      cases hs.cell n a _ h e2 with
      | lst q _ => exact .base (.lst q)
    · rename_i e2
      cases e
      cases hs.cell n a _ h e2 with
      | dK q _ => exact .base (.dK q)
      | dT q _ => exact .base (.dT q)
    · cases e
def dIsi (ds : List D) (st : Sto) : R D := match ds with
  | [x, .ty c] => match tyOf st x with
    | some t => match kitB t c with
      | some b => .ok (.bl b) st
      | none => .bad
    | none => .bad
  | _ => .bad
theorem isiD {K : PySem.W.Frag} : FnD K (rIsi K) dIsi := by
  intro o st H vs ds Q hs rl h
  unfold dIsi at h
  split at h
  · obtain ⟨v, w, rfl, r1, r2⟩ := rl.two
    cases r2
    split at h
    · rename_i t e
      split at h
      · rename_i b e2
        exact ⟨v, .ty _, .type t, .type _, b, rfl, .ty _, tyX_of hs r1 e, kit_ty e2, Wp.ok hs h _ (.bl _)⟩
      · exact h.elim
    · exact h.elim
  · exact h.elim
theorem noex_isi : NoExF dIsi := by
  intro ds st e st' h; unfold dIsi at h
  split at h
  · split at h
    · split at h <;> cases h
    · cases h
  · cases h
end DL

set_option Elab.async false
set_option linter.all false
set_option maxRecDepth 100000
set_option maxHeartbeats 2000000
/-! DSrc: what loops walk: sequences, ranges, enumerate, zip (over lists and tuples). -/
namespace DL
open PySem PySem.Spec PyProof.Rows L2

def SqB (b : Bool) (K : PySem.W.Frag) (H : Hp) (a : Addr) (xs : List V) : Prop := match b with
  | true => SqL K H a xs
  | false => SqT K H a xs
def ItB (b : Bool) (h : Heap) (it a : Addr) (i : Nat) : Prop := match b with
  | true => h.IsListIter it a i
  | false => h.IsTupleIter it a i
def ObB (b : Bool) (h : Heap) (a : Addr) (items : Array Value) : Prop := match b with
  | true => h.IsList a items
  | false => h.IsTuple a items
def itO (b : Bool) (a : Addr) : Obj := match b with
  | true => { cls := .type "list_iterator", data := .fields #[.ref a, .int 0 0] }
  | false => { cls := .type "tuple_iterator", data := .fields #[.ref a, .int 0 0] }
theorem begB (b : Bool) (a : Addr) (items : Array Value) : Begins (.ref a) (itO b a) (fun h => ObB b h a items) := by
  cases b
  · exact begins_tuple a items
  · exact begins_list a items
theorem drwB {prog : Program} {w : World} {A : Around} (b : Bool) (hh : A.handled = none) (it a : Addr) (hne : a ≠ it) (items : Array Value) :
    Draws prog w A it [it, a] items.size (fun i v => items[i]? = some v) (fun i h => ItB b h it a i ∧ ObB b h a items) := by
  cases b
  · exact Draws.tuple hh it a hne items
  · exact Draws.list hh it a hne items
section
variable {X : Cx} {pins : List (Addr × Obj)} {sg : L2.St} {H : Hp} {s : Shared} {b : Bool} {a it : Addr} {xs ys : List V} {i : Nat}
theorem invB (I : Inv X pins sg H s) (h : SqB b X.K H a xs) : ∃ its : List Value, Vals xs its ∧ ObB b s.heap a its.toArray ∧ xs.length ≤ sizeLine ∧ a < s.heap.objs.size := by
  cases b
  · obtain ⟨its, r, p, z⟩ := I.tuple h
    exact ⟨its, r, p, z, p.lt⟩
  · obtain ⟨its, r, p, z⟩ := I.list h
    exact ⟨its, r, p.isList, z, p.lt⟩
theorem injB (I : Inv X pins sg H s) (h : SqB b X.K H a xs) (h' : SqB b X.K H a ys) : xs = ys := by
  cases b
  · exact I.tuple_inj h h'
  · exact I.list_inj h h'
theorem itB_ob {h : Heap} (st : ItB b h it a i) : ∃ o, h.get? it = some o ∧ ∀ v, o.data ≠ .cell v := by
  cases b
  · obtain ⟨o, e, _, d⟩ := st
    exact ⟨o, e, fun v z => by rw [d] at z; cases z⟩
  · obtain ⟨o, e, _, d⟩ := st
    exact ⟨o, e, fun v z => by rw [d] at z; cases z⟩
theorem itB_at {h h' : Heap} (st : ItB b h it a i) (k : ∀ o, h.get? it = some o → h'.get? it = some o) : ItB b h' it a i := by
  cases b
  · exact Heap.IsTupleIter.at st k
  · exact Heap.IsListIter.at st k
theorem itB_new {h : Heap} (e : h.get? it = some (itO b a)) : ItB b h it a 0 := by
  cases b
  · exact ⟨_, e, rfl, rfl⟩
  · exact ⟨_, e, rfl, rfl⟩
theorem sqB_of {K : PySem.W.Frag} {a : Addr} {xs : List V} (h : SqL K H a xs ∨ SqT K H a xs) : ∃ b, SqB b K H a xs := by
  rcases h with h | h
  · exact ⟨true, h⟩
  · exact ⟨false, h⟩
end
set_option maxHeartbeats 4000000 in
theorem meets_enum1 {v : Value} {o : Obj} {Hh : Heap → Prop} (B : Begins v o Hh) :
    Meets (Builtin.«enumerate.__new__» ⟨[.type "enumerate", v], []⟩) (fun _ R s => Hh s.heap ∧
      R (.ok (.ret (.ref (s.heap.push o).objs.size))) { s with heap := (s.heap.push o).push { cls := .type "enumerate", data := .fields #[.none, .bool false, .ref s.heap.objs.size, rawInt 0, .none, .none] } }) :=
  .of_wp fun prog w A R s h => by
    obtain ⟨hp, g, d, tk, os⟩ := s
    obtain ⟨h1, h⟩ := h
    have hsub := sub_enumerate
    have it1 : ∀ {A' : Around} {E : Value → Shared → Prop} {Q : Value → Shared → Prop}, Q (.ref hp.objs.size) ⟨hp.push o, g, d, tk, os⟩ → wpAny (model prog w) A' (pyIter v) Q E ⟨hp, g, d, tk, os⟩ :=
      fun q => B.iter prog w _ _ ⟨hp, g, d, tk, os⟩ _ h1 q
    wp_walk using it1
    refine wpAny_stack_any fun st => wpAny_pure ?_
    split
    · rename_i c _ _ _ _ _
      cases (c == Value.type "enumerate")
      · wp_walk using it1
        exact ⟨_, rfl, h⟩
      · wp_walk using it1
        exact ⟨_, rfl, h⟩
    · wp_walk using it1
      exact ⟨_, rfl, h⟩
theorem enum_beg1 {prog : Program} {w : World} {A : Around} {E : Value → Shared → Prop} {s : Shared} {v : Value} {o : Obj} {Hh : Heap → Prop} {Q : Value → Shared → Prop} (B : Begins v o Hh) (h1 : Hh s.heap)
    (h : ∀ h', IsEnum h' (s.heap.objs.size + 1) s.heap.objs.size 0 .none → h'.get? s.heap.objs.size = some o → h'.objs.size = s.heap.objs.size + 2 →
      (∀ b o, s.heap.get? b = some o → h'.get? b = some o) → Q (.ref (s.heap.objs.size + 1)) { s with heap := h' }) :
    wpAny (model prog w) A (call (.type "enumerate") [v]) Q E s := by
  refine callType_new F.called_enumerate (by decide) (F.typeCall_enumerate_1 _) (F.newCall_enumerate_1 _) (fun obj => F.args_object_init_2 obj _) F.entry_enumerate_new (meets_enum1 B) ⟨h1, ?_⟩
  have z1 : (s.heap.push o).objs.size = s.heap.objs.size + 1 := Heap.size_push ..
  show _ ∧ _
  rw [z1]
  have e1 := Heap.get?_push_size (s.heap.push o) (o := { cls := .type "enumerate", data := .fields #[.none, .bool false, .ref s.heap.objs.size, rawInt 0, .none, .none] }) rfl
  rw [z1] at e1
  refine ⟨⟨_, e1, rfl⟩, h _ e1 (Heap.get?_push_of_some _ (Heap.get?_push_size _ B.free)) (by rw [Heap.size_push, z1]) fun b o x => Heap.get?_push_of_some _ (Heap.get?_push_of_some _ x)⟩
/-- each item with its number, in a new pair -/
def IteB (b : Bool) (K : PySem.W.Frag) (a : Addr) : It :=
  ⟨fun i H => ∃ (xs : List V) (x : V), SqB b K H a xs ∧ xs[i]? = some x, fun i H v H' => ∃ T x, v = .ref T ∧ H T = none ∧ H' = upd H T (.tup [.int (i : Nat), x]) ∧ ∀ xs, SqB b K H a xs → xs[i]? = some x,
    fun i H => ∃ xs : List V, SqB b K H a xs ∧ xs.length = i⟩
theorem turn_enB {P : Program} {w : World} {K : PySem.W.Frag} {elts : List Expr} {kk : Nat} {tpos : Pos} (b : Bool) (a e it : Addr) :
    Turn P w K (.Tuple elts kk tpos) (IteB b K a) [e, it] e (fun i h => (∃ old, IsEnum h e it ((i : Nat) : Int) old) ∧ ItB b h it a i ∧ e ≠ it ∧ a ≠ it ∧ a ≠ e) where
  mem := by simp
  obj := fun i h st c hc => by
    obtain ⟨⟨old, he⟩, hi, _⟩ := st
    rcases (show c = e ∨ c = it by simpa using hc) with z | z
    · rw [z]; exact ⟨_, he, fun v q => nomatch q⟩
    · rw [z]; exact itB_ob hi
  keep := fun i h h' st k => let ⟨⟨old, he⟩, hi, r⟩ := st; ⟨⟨old, k e (by simp) _ he⟩, itB_at hi fun o q => k it (by simp) o q, r⟩
  item := by
    intro X hP hw hK hc i pins s sg H E I hf st hg
    subst hP hw hK
    obtain ⟨⟨old, he⟩, hit, hne, hai, hae⟩ := st
    obtain ⟨xs, x, hq, hx⟩ := hg
    obtain ⟨its, rv, p, _, _⟩ := invB I hq
    obtain ⟨u, hu, ru⟩ := rv.get hx
    have el : e < s.heap.objs.size := Heap.lt_size he
    have il : it < s.heap.objs.size := by obtain ⟨_, q, _⟩ := itB_ob hit; exact Heap.lt_size q
    have hi : i < its.toArray.size := by simpa using (List.getElem?_eq_some_iff.mp hu).1
    refine wpAny_pyNext_enum_itemC (drwB b (show X.A.in1.handled = none from I.ok.hd hc) it a hai its.toArray) he ⟨hit, p⟩ hi hne (by simp [hne, Ne.symm hae]) fun u' h' tk hu' ho hst' hT hsz hk => ?_
    have eu : u' = u := by
      have q : its[i]? = some u' := by simpa using hu'
      rw [hu] at q
      exact (Option.some.inj q).symm
    subst eu
    refine ⟨_, rfl, wpAny_letOwnedTupleGo_enum (s := { s with heap := h', toks := tk + 1 }) ho fun h2 he2 sb => ?_⟩
    have hT2 : h2.get? s.heap.objs.size = some { cls := .type "tuple", data := .seq #[.int i tk, u'] } := (sb.2 _ (Nat.ne_of_gt el)).trans hT
    have new : ObjOk X.prog X.w (upd H s.heap.objs.size (.tup [.int (i : Nat), x])) h2 s.heap.objs.size (.tup [.int (i : Nat), x]) :=
      ⟨by show 2 ≤ sizeLine; decide, [.int i tk, u'], .cons ⟨_, rfl⟩ (.cons ru .nil), ⟨_, hT2, rfl, _, rfl⟩⟩
    have I1 : Inv X pins sg (upd H s.heap.objs.size (.tup [.int (i : Nat), x])) { s with heap := h2, toks := tk + 1 } :=
      I.turnedNew (ch := [e, it]) (fun c ob hb q => (sb.2 c (fun z => hb (by simp [z]))).trans (hk c ob (fun z => hb (by simp [z])) (fun z => hb (by simp [z])) q)) hf (Nat.le_refl _) new
    refine ⟨.ref s.heap.objs.size, _, I1, rfl, ⟨_, x, rfl, I.hok.fresh (Nat.le_refl _), rfl, fun zs hy => by rw [injB I hy hq]; exact hx⟩, ⟨⟨u', ?_⟩, itB_at hst'.1 fun o q => (sb.2 it (Ne.symm hne)).trans q, hne, hai, hae⟩, fun c hb => ?_⟩
    · have e1 : ((i + 1 : Nat) : Int) = (i : Int) + 1 := by omega
      rw [e1]; exact he2
    · have lt : c < s.heap.objs.size := by
        rcases (show c = e ∨ c = it by simpa using hb) with z | z
        · rw [z]; exact el
        · rw [z]; exact il
      rw [upd_ne (Nat.ne_of_lt lt)]
      exact (hf c hb).1
  done := by
    intro X hP hw hK hc i pins s sg H E I hf st hg
    subst hP hw hK
    obtain ⟨⟨old, he⟩, hit, hne, hai, hae⟩ := st
    obtain ⟨xs, hq, hx⟩ := hg
    obtain ⟨its, rv, p, _, _⟩ := invB I hq
    obtain ⟨f0, f1, f2, f3, f4, f5⟩ := hf it (by simp)
    have hl := rv.length
    have ei : i = its.toArray.size := by simp; omega
    have D := drwB (prog := X.prog) (w := X.w) b (show X.A.in1.handled = none from I.ok.hd hc) it a hai its.toArray
    exact wpAny_pyNext_enum_endD D he (by rw [← ei]; exact ⟨hit, p⟩) fun h' eb => ⟨rfl, I.turned (t' := s.toks) (fun c o hb q => eb c o hb q) f0 f1 f3 f4 f5⟩
  self := fun A i s Q E st h => let ⟨⟨_, he⟩, _⟩ := st; wpAny_pyIter_enum he h
def iEnB (K : PySem.W.Frag) (ta : TA) : TI := fun sg H R => ta sg H fun vs H1 => ∃ b a xs, vs = [.ref a] ∧ SqB b K H1 a xs ∧ R (IteB b K a) H1
theorem pi_enB {X : Cx} {e : Expr} {ta : TA} {p pos tpos : Pos} {elts : List Expr} {kk : Nat} (hg : Gl X "enumerate") (hm : X.mg "enumerate" = none) (ha : PA X [e] ta) (hs : starEach [e] X.env = [(false, eval e X.env)]) :
    PI X (.Tuple elts kk tpos) (.Call (.Name "enumerate" p) [e] [] pos) (iEnB X.K ta) := by
  refine ⟨fun pins s sg H R I h => ?_⟩
  refine Call_ (ld_blt I hg hm boot_enumerate (PyProof.Rows.callWith_type1 (thn (ha.run pos pins s sg H _ I h) fun us s1 ⟨vs, H1, I1, r1, q1⟩ => ?_) hs rfl))
  obtain ⟨b, a, xs, ex, hq, q⟩ := q1
  subst ex
  cases r1 with
  | cons r rr =>
    cases rr
    cases r
    obtain ⟨its, rv, pb, hz, la⟩ := invB I1 hq
    refine enum_beg1 (begB b a its.toArray) pb fun h' he hit hsz hk => wpAny_pyIter_enum he ?_
    have I2 : Inv X pins sg H1 { s1 with heap := h' } := I1.kept (t' := s1.toks) hk
    refine ⟨s1.heap.objs.size + 1, [s1.heap.objs.size + 1, s1.heap.objs.size], _, _, H1, rfl, I2, turn_enB b a (s1.heap.objs.size + 1) s1.heap.objs.size, ⟨⟨.none, he⟩, itB_new hit, Nat.succ_ne_self _, Nat.ne_of_lt la, Nat.ne_of_lt (Nat.lt_succ_of_lt la)⟩, fun c hb => ?_, q⟩
    have hle : s1.heap.objs.size ≤ c := by
      rcases (show c = s1.heap.objs.size + 1 ∨ c = s1.heap.objs.size by simpa using hb) with z | z
      · rw [z]; exact Nat.le_add_right _ _
      · rw [z]; exact Nat.le_refl _
    exact I1.fpOk hle (I1.hok.fresh hle)
/-- the items of two, in new pairs -/
def ItzB (b c : Bool) (K : PySem.W.Frag) (a d : Addr) : It :=
  ⟨fun i H => ∃ (xs ys : List V) (x y : V), SqB b K H a xs ∧ SqB c K H d ys ∧ xs[i]? = some x ∧ ys[i]? = some y,
    fun i H v H' => ∃ T x y, v = .ref T ∧ H T = none ∧ H' = upd H T (.tup [x, y]) ∧ (∀ xs, SqB b K H a xs → xs[i]? = some x) ∧ ∀ ys, SqB c K H d ys → ys[i]? = some y,
    fun i H => ∃ xs ys : List V, SqB b K H a xs ∧ SqB c K H d ys ∧ i = min xs.length ys.length⟩
theorem turn_zB {P : Program} {w : World} {K : PySem.W.Frag} {elts : List Expr} {kk : Nat} {tpos : Pos} {a d z TI TO i1 i2 : Addr} (b c : Bool) (S : ZipSep2 z TI TO i1 i2 [i1, a] [i2, d]) (ha : a ≠ i1) (hd : d ≠ i2) :
    Turn P w K (.Tuple elts kk tpos) (ItzB b c K a d) [z, TI, TO, i1, i2] z (fun i h => IsZip h z TI TO .none ∧ IsTupOf2 h TI (.ref i1) (.ref i2) ∧ (∃ x y, IsTupOf2 h TO x y) ∧ ItB b h i1 a i ∧ ItB c h i2 d i) where
  mem := by simp
  obj := fun i h st m hm => by
    obtain ⟨hz, hTI, ⟨x, y, hTO⟩, h1, h2⟩ := st
    rcases (show m = z ∨ m = TI ∨ m = TO ∨ m = i1 ∨ m = i2 by simpa using hm) with q | q | q | q | q
    · rw [q]; exact ⟨_, hz, fun v q => nomatch q⟩
    · rw [q]; exact ⟨_, hTI, fun v q => nomatch q⟩
    · rw [q]; exact ⟨_, hTO, fun v q => nomatch q⟩
    · rw [q]; exact itB_ob h1
    · rw [q]; exact itB_ob h2
  keep := fun i h h' st k => by
    obtain ⟨hz, hTI, ⟨x, y, hTO⟩, h1, h2⟩ := st
    exact ⟨k z (by simp) _ hz, k TI (by simp) _ hTI, ⟨x, y, k TO (by simp) _ hTO⟩, itB_at h1 fun o q => k i1 (by simp) o q, itB_at h2 fun o q => k i2 (by simp) o q⟩
  item := by
    intro X hP hw hK hc i pins s sg H E I hf st hg
    subst hP hw hK
    obtain ⟨hz, hTI, ⟨x0, y0, hTO⟩, h1, h2⟩ := st
    obtain ⟨xs, ys, x, y, hqx, hqy, hx, hy⟩ := hg
    obtain ⟨its, rv, p, _, _⟩ := invB I hqx
    obtain ⟨its2, rv2, p2, _, _⟩ := invB I hqy
    obtain ⟨u, hu, ru⟩ := rv.get hx
    obtain ⟨u2, hu2, ru2⟩ := rv2.get hy
    have hzl : z < s.heap.objs.size := Heap.lt_size hz
    have hh : X.A.in1.handled = none := I.ok.hd hc
    have l1 : i < its.toArray.size := by simpa using (List.getElem?_eq_some_iff.mp hu).1
    have l2 : i < its2.toArray.size := by simpa using (List.getElem?_eq_some_iff.mp hu2).1
    refine wpAny_pyNext_zipD2_item S (drwB b hh i1 a ha its.toArray) (drwB c hh i2 d hd its2.toArray) hz hTI hTO ⟨h1, p⟩ ⟨h2, p2⟩ l1 l2 fun v1 v2 h' tk e1 e2 z' TO' h1' h2' hT hsz hk => ?_
    have q1 : v1 = u := by
      have q : its[i]? = some v1 := by simpa using e1
      rw [hu] at q
      exact (Option.some.inj q).symm
    have q2 : v2 = u2 := by
      have q : its2[i]? = some v2 := by simpa using e2
      rw [hu2] at q
      exact (Option.some.inj q).symm
    subst q1
    subst q2
    refine ⟨_, rfl, wpAny_letOwnedTupleGo_zip (s := { s with heap := h', toks := tk }) z' fun h3 z3 sb => ?_⟩
    have hT2 : h3.get? s.heap.objs.size = some { cls := .type "tuple", data := .seq #[v1, v2] } := (sb.2 _ (Nat.ne_of_gt hzl)).trans hT
    have new : ObjOk X.prog X.w (upd H s.heap.objs.size (.tup [x, y])) h3 s.heap.objs.size (.tup [x, y]) :=
      ⟨by show 2 ≤ sizeLine; decide, [v1, v2], .cons ru (.cons ru2 .nil), ⟨_, hT2, rfl, _, rfl⟩⟩
    have I1 : Inv X pins sg (upd H s.heap.objs.size (.tup [x, y])) { s with heap := h3, toks := tk } :=
      I.turnedNew (t' := tk) (ch := [z, TI, TO, i1, i2]) (fun m o hb q => (sb.2 m (fun q' => hb (by simp [q']))).trans (hk m o (fun q' => hb (by simp [q'])) (fun q' => hb (by simp [q'])) (fun q' => hb (by simp [q'])) (fun q' => hb (by simp [q'])) q)) hf (Nat.le_refl _) new
    have zi1 : i1 ≠ z := fun q => S.zf1 (by rw [← q]; exact List.mem_cons_self)
    have zi2 : i2 ≠ z := fun q => S.zf2 (by rw [← q]; exact List.mem_cons_self)
    refine ⟨.ref s.heap.objs.size, _, I1, rfl, ⟨_, x, y, rfl, I.hok.fresh (Nat.le_refl _), rfl, fun l hl => by rw [injB I hl hqx]; exact hx, fun l hl => by rw [injB I hl hqy]; exact hy⟩, ⟨z3, ?_, ⟨v1, v2, ?_⟩, ?_, ?_⟩, fun m hm => ?_⟩
    · exact (sb.2 _ S.TIz).trans (hk _ _ S.TIz S.TITO S.TIi1 S.TIi2 hTI)
    · exact (sb.2 _ S.TOz).trans TO'
    · exact itB_at h1'.1 fun o q => (sb.2 _ zi1).trans q
    · exact itB_at h2'.1 fun o q => (sb.2 _ zi2).trans q
    · have lt : m < s.heap.objs.size := by
        rcases (show m = z ∨ m = TI ∨ m = TO ∨ m = i1 ∨ m = i2 by simpa using hm) with q | q | q | q | q
        · rw [q]; exact hzl
        · rw [q]; exact Heap.lt_size hTI
        · rw [q]; exact Heap.lt_size hTO
        · rw [q]; obtain ⟨_, e1, _⟩ := itB_ob h1; exact Heap.lt_size e1
        · rw [q]; obtain ⟨_, e2, _⟩ := itB_ob h2; exact Heap.lt_size e2
      rw [upd_ne (Nat.ne_of_lt lt)]
      exact (hf m hm).1
  done := by
    intro X hP hw hK hc i pins s sg H E I hf st hg
    subst hP hw hK
    obtain ⟨hz, hTI, ⟨x0, y0, hTO⟩, h1, h2⟩ := st
    obtain ⟨xs, ys, hqx, hqy, hend⟩ := hg
    obtain ⟨its, rv, p, _, _⟩ := invB I hqx
    obtain ⟨its2, rv2, p2, _, _⟩ := invB I hqy
    have l1 := rv.length
    have l2 := rv2.length
    have hh : X.A.in1.handled = none := I.ok.hd hc
    exact wpAny_pyNext_zipD2_end S (drwB b hh i1 a ha its.toArray) (drwB c hh i2 d hd its2.toArray) hz hTI hTO ⟨h1, p⟩ ⟨h2, p2⟩ (by simp; omega) (by simp; omega) (by simp; omega) fun h' tk hk => ⟨rfl, I.turnedL (t' := tk) (ch := [z, TI, TO, i1, i2])
      (fun m o hb q => hk m o (fun q' => hb (by simp [q'])) (fun q' => hb (by simp [q'])) (fun q' => hb (by simp [q'])) (fun q' => hb (by simp [q'])) q) hf⟩
  self := fun A i s Q E st h => wpAny_pyIter_zip st.1 h
def iZB (K : PySem.W.Frag) (ta : TA) : TI := fun sg H R => ta sg H fun vs H1 => ∃ b c a d xs ys, vs = [.ref a, .ref d] ∧ SqB b K H1 a xs ∧ SqB c K H1 d ys ∧ R (ItzB b c K a d) H1
theorem pi_zB {X : Cx} {e e2 : Expr} {ta : TA} {p pos tpos : Pos} {elts : List Expr} {kk : Nat} (hg : Gl X "zip") (hm : X.mg "zip" = none) (ha : PA X [e, e2] ta)
    (hs : starEach [e, e2] X.env = (false, eval e X.env) :: starEach [e2] X.env) (hpl : (backTo pos (starEach [e2] X.env)).any (·.1) = false) :
    PI X (.Tuple elts kk tpos) (.Call (.Name "zip" p) [e, e2] [] pos) (iZB X.K ta) := by
  refine ⟨fun pins s sg H R I h => ?_⟩
  refine Call_ (ld_blt I hg hm PyProof.Rows.boot_zip (PyProof.Rows.callWith_type1 (thn (ha.run pos pins s sg H _ I h) fun us s1 ⟨vs, H1, I1, r1, q1⟩ => ?_) hs hpl))
  obtain ⟨b, c, a, d, xs, ys, ex, hqx, hqy, q⟩ := q1
  subst ex
  cases r1 with
  | cons r rr =>
    cases rr with
    | cons r' rr =>
      cases rr
      cases r
      cases r'
      obtain ⟨its, rv, p1, _, la⟩ := invB I1 hqx
      obtain ⟨its2, rv2, p2, _, ld⟩ := invB I1 hqy
      refine zip_begins2 (begB b a its.toArray) (begB c d its2.toArray) p1 p2 fun h' hz hTI hTO h1 h2 hsz hk => wpAny_pyIter_zip hz ?_
      have I2 : Inv X pins sg H1 { s1 with heap := h' } := I1.kept (t' := s1.toks) hk
      refine ⟨s1.heap.objs.size + 4, [s1.heap.objs.size + 4, s1.heap.objs.size + 2, s1.heap.objs.size + 3, s1.heap.objs.size, s1.heap.objs.size + 1], _, _, H1, rfl, I2, turn_zB b c (zip_sep2 (fp1 := [a]) (fp2 := [d]) (by simpa using la) (by simpa using ld)) (Nat.ne_of_lt la) (Nat.ne_of_lt (Nat.lt_succ_of_lt ld)), ⟨hz, hTI, ⟨_, _, hTO⟩, itB_new h1, itB_new h2⟩, fun m hm => ?_, q⟩
      have hle : s1.heap.objs.size ≤ m := by
        rcases (show m = s1.heap.objs.size + 4 ∨ m = s1.heap.objs.size + 2 ∨ m = s1.heap.objs.size + 3 ∨ m = s1.heap.objs.size ∨ m = s1.heap.objs.size + 1 by simpa using hm) with z | z | z | z | z
        · rw [z]; exact Nat.le_add_right _ _
        · rw [z]; exact Nat.le_add_right _ _
        · rw [z]; exact Nat.le_add_right _ _
        · rw [z]; exact Nat.le_refl _
        · rw [z]; exact Nat.le_add_right _ _
      exact I1.fpOk hle (I1.hok.fresh hle)
/-- a sequence, a list or a tuple -/
def itS (b : Bool) (K : PySem.W.Frag) (a : Addr) : It := match b with
  | true => Itl K a
  | false => Itt K a
def iSq (K : PySem.W.Frag) (tl : TE) : TI := fun sg H R => tl sg H fun x H1 => ∃ b a xs, x = .ref a ∧ SqB b K H1 a xs ∧ R (itS b K a) H1
theorem pi_sq {X : Cx} {tg l : Expr} {tl : TE} (hl : PE X l tl) : PI X tg l (iSq X.K tl) := by
  refine ⟨fun pins s sg H R I h => ?_⟩
  refine thn (hl.run pins s sg H _ I h) fun v s1 ⟨x, H1, I1, r1, q1⟩ => ?_
  obtain ⟨b, a, xs, e, hq, q⟩ := q1
  subst e
  cases r1
  obtain ⟨its, rv, p, hz, _⟩ := invB I1 hq
  refine (begB b a its.toArray).iter X.prog X.w X.A X.xe s1 _ p ?_
  have fr : ∀ c ∈ [s1.heap.objs.size], FpOk X pins H1 c := fun c hb => by
    have e : c = s1.heap.objs.size := by simpa using hb
    subst e
    exact I1.fpOk (Nat.le_refl _) (I1.hok.fresh (Nat.le_refl _))
  have I2 : Inv X pins sg H1 { s1 with heap := s1.heap.push (itO b a) } := I1.kept (t' := s1.toks) fun c o e => Heap.get?_push_of_some _ e
  cases b
  · exact ⟨s1.heap.objs.size, [s1.heap.objs.size], _, _, H1, rfl, I2, turn_tuple a _, ⟨_, Heap.get?_push_size _ rfl, rfl, rfl⟩, fr, q⟩
  · exact ⟨s1.heap.objs.size, [s1.heap.objs.size], _, _, H1, rfl, I2, turn_list a _, ⟨_, Heap.get?_push_size _ rfl, rfl, rfl⟩, fr, q⟩
end DL

set_option Elab.async false
set_option linter.all false
set_option maxRecDepth 100000
set_option maxHeartbeats 2000000
/-! DIter: what loops walk, as runs. -/
namespace DL
open PySem PySem.Spec PyProof.Rows L2

def srcOf (st : Sto) : D → Option Src
  | .tup ds => some ⟨ds, []⟩
  | .lst ds => some ⟨ds, []⟩
  | .ref n => match st[n]? with
    | some (.lst ds) => some ⟨ds, [(n, ds)]⟩
    | _ => none
  | _ => none
section
variable {K : PySem.W.Frag} {o : Ow} {H : Hp} {st : Sto} {v : V} {d : D} {s : Src}
theorem src_good (hs : StR K o st H) (r : Rp K o H v d) (e : srcOf st d = some s) : ∃ b a xs, v = .ref a ∧ SqB b K H a xs ∧ RpL K o H xs s.items ∧
    ∀ (o1 : Ow) (st1 : Sto) (H1 : Hp), Rch o H o1 H1 → StR K o1 st1 H1 → good s.cells st1 → ∃ ys, SqB b K H1 a ys ∧ RpL K o1 H1 ys s.items := by
  cases r with
  | tup h rl =>
    cases e
    exact ⟨false, _, _, rfl, h.sq, rl, fun o1 st1 H1 c _ _ => ⟨_, (h.step c).sq, rl.step c⟩⟩
  | lst h rl =>
    cases e
    exact ⟨true, _, _, rfl, h.sq, rl, fun o1 st1 H1 c _ _ => ⟨_, (h.step c).sq, rl.step c⟩⟩
  | @ref a n h =>
    unfold srcOf at e
    dsimp only at e
    split at e
    · rename_i ds e2
      cases e
      cases hs.cell n a _ h e2 with
      | lst q rl =>
        refine ⟨true, a, _, rfl, SqL.of q, rl, fun o1 st1 H1 c h1 g => ?_⟩
        have g1 : st1[n]? = some (.lst ds) := g (n, ds) (List.mem_singleton_self _)
        cases h1.cell n a _ (ph_step c h) g1 with
        | lst q1 rl1 => exact ⟨_, SqL.of q1, rl1⟩
    · cases e
  | _ => cases e
end
section
variable {K : PySem.W.Frag} {W : WX} {te : TE} {me : ME} {ta : TA} {ma : MA}
def mSrc (m : ME) : MI := fun rho st => (m rho st).bind fun d st => match srcOf st d with
  | some s => .ok s st
  | none => .bad
theorem sqB_get {b : Bool} {H : Hp} {a : Addr} {ys : List V} {i : Nat} {x : V} (q : SqB b K H a ys) (hx : ys[i]? = some x) : (itS b K a).go i H := by
  cases b
  · exact ⟨ys, x, q, hx⟩
  · exact ⟨ys, x, q, hx⟩
theorem rt_src (h : Rt K W te me) : RtI K W (iSq K te) (mSrc me) := by
  intro rho sg o st H Q he hs hw
  refine h rho sg o st H _ he hs ((Wp.bind hw).imp (fun _ _ _ z => z) fun d st1 o1 H1 s1 hs1 h => ?_)
  intro v rv
  cases e : srcOf st1 d with
  | none => rw [e] at h; exact h.elim
  | some S =>
    rw [e] at h
    obtain ⟨b, a, xs, rfl, q, rl, on⟩ := src_good hs1 rv e
    refine ⟨b, a, xs, rfl, q, Wp.ok hs1 h _ ?_⟩
    intro o2 st2 H2 c hs2 g
    obtain ⟨ys, q2, rl2⟩ := on o2 st2 H2 c hs2 g
    refine ⟨fun i d hd => ?_, ?_⟩
    · obtain ⟨x, hx, rx⟩ := rl2.get hd
      refine ⟨sqB_get q2 hx, fun x' H3 y => ?_⟩
      have y' : H3 = H2 ∧ ∀ zs, SqB b K H2 a zs → zs[i]? = some x' := by cases b <;> exact y
      obtain ⟨e1, e2⟩ := y'
      subst e1
      have e3 := e2 ys q2
      rw [hx] at e3
      cases e3
      exact ⟨.refl _ _, hs2, rx⟩
    · have hl := rl2.length
      cases b
      · exact ⟨ys, q2, by omega⟩
      · exact ⟨ys, q2, by omega⟩
/-- a new pair laid in a turn -/
theorem pair_laid {o : Ow} {H : Hp} {st : Sto} {T : Addr} {x y : V} {d e : D} (hs : StR K o st H) (hT : H T = none) (rx : Rp K o H x d) (ry : Rp K o H y e) :
    Step o H o (upd H T (.tup [x, y])) ∧ StR K o st (upd H T (.tup [x, y])) ∧ Rp K o (upd H T (.tup [x, y])) (.ref T) (.tup [d, e]) := by
  have s : Step o H o (upd H T (.tup [x, y])) := step_new hT
  exact ⟨s, hs.new hT, .tup (.inl ⟨.inl upd_same, hs.fresh hT⟩) (.cons (rx.step s.toRch) (.cons (ry.step s.toRch) .nil))⟩
def enumD : Nat → List D → List D
  | _, [] => []
  | k, d :: ds => .tup [.int (k : Nat), d] :: enumD (k + 1) ds
theorem enumD_get : ∀ (ds : List D) (k i : Nat), (enumD k ds)[i]? = ds[i]?.map fun d => D.tup [.int ((k + i : Nat) : Int), d]
  | [], k, i => by simp [enumD]
  | d :: ds, k, 0 => by simp [enumD]
  | d :: ds, k, i + 1 => by
    show (enumD (k + 1) ds)[i]? = _
    rw [enumD_get ds (k + 1) i, List.getElem?_cons_succ]
    have e : k + 1 + i = k + (i + 1) := by omega
    rw [e]
theorem enumD_length : ∀ (ds : List D) (k : Nat), (enumD k ds).length = ds.length
  | [], _ => rfl
  | d :: ds, k => by show (enumD (k + 1) ds).length + 1 = _; rw [enumD_length ds]; rfl
def mEnum (m : MA) : MI := fun rho st => (m rho st).bind fun ds st => match ds with
  | [d] => match srcOf st d with
    | some s => .ok ⟨enumD 0 s.items, s.cells⟩ st
    | none => .bad
  | _ => .bad
theorem rt_enum (h : RtA K W ta ma) : RtI K W (iEnB K ta) (mEnum ma) := by
  intro rho sg o st H Q he hs hw
  refine h rho sg o st H _ he hs ((Wp.bind hw).imp (fun _ _ _ z => z) fun ds st1 o1 H1 s1 hs1 h => ?_)
  intro vs rvs
  split at h
  · rename_i d
    obtain ⟨v, rfl, rv⟩ := rvs.one
    cases e : srcOf st1 d with
    | none => rw [e] at h; exact h.elim
    | some S =>
      rw [e] at h
      obtain ⟨b, a, xs, rfl, q, rl, on⟩ := src_good hs1 rv e
      refine ⟨b, a, xs, rfl, q, Wp.ok hs1 h _ ?_⟩
      intro o2 st2 H2 c hs2 g
      obtain ⟨ys, q2, rl2⟩ := on o2 st2 H2 c hs2 g
      refine ⟨fun i d hd => ?_, ?_⟩
      · have hd' : (enumD 0 S.items)[i]? = some d := hd
        rw [enumD_get] at hd'
        cases hi : S.items[i]? with
        | none => rw [hi] at hd'; cases hd'
        | some d0 =>
          rw [hi] at hd'
          cases hd'
          obtain ⟨x, hx, rx⟩ := rl2.get hi
          refine ⟨⟨ys, x, q2, hx⟩, fun x' H3 y => ?_⟩
          obtain ⟨T, u, rfl, hT, rfl, e2⟩ := y
          have e3 := e2 ys q2
          rw [hx] at e3
          cases e3
          rw [Nat.zero_add]
          exact pair_laid hs2 hT (.int _) rx
      · have e : (enumD 0 S.items).length = ys.length := by rw [enumD_length, rl2.length]
        show ∃ xs, SqB b K H2 a xs ∧ xs.length = (enumD 0 S.items).length
        exact ⟨ys, q2, e.symm⟩
  · exact h.elim
def zipD : List D → List D → List D
  | x :: xs, y :: ys => .tup [x, y] :: zipD xs ys
  | _, _ => []
theorem zipD_get : ∀ (xs ys : List D) (i : Nat) (d : D), (zipD xs ys)[i]? = some d → ∃ x y, xs[i]? = some x ∧ ys[i]? = some y ∧ d = .tup [x, y]
  | [], _, _, _, h => by simp [zipD] at h
  | _ :: _, [], _, _, h => by simp [zipD] at h
  | x :: xs, y :: ys, 0, d, h => by
    have e : some (D.tup [x, y]) = some d := h
    cases e
    exact ⟨x, y, rfl, rfl, rfl⟩
  | x :: xs, y :: ys, i + 1, d, h => zipD_get xs ys i d h
theorem zipD_length : ∀ xs ys : List D, (zipD xs ys).length = min xs.length ys.length
  | [], _ => by simp [zipD]
  | _ :: _, [] => by simp [zipD]
  | x :: xs, y :: ys => by
    show (zipD xs ys).length + 1 = min (xs.length + 1) (ys.length + 1)
    rw [zipD_length xs ys]
    omega
def mZip (m : MA) : MI := fun rho st => (m rho st).bind fun ds st => match ds with
  | [d, e] => match srcOf st d, srcOf st e with
    | some s, some t => .ok ⟨zipD s.items t.items, s.cells ++ t.cells⟩ st
    | _, _ => .bad
  | _ => .bad
theorem rt_zip (h : RtA K W ta ma) : RtI K W (iZB K ta) (mZip ma) := by
  intro rho sg o st H Q he hs hw
  refine h rho sg o st H _ he hs ((Wp.bind hw).imp (fun _ _ _ z => z) fun ds st1 o1 H1 s1 hs1 h => ?_)
  intro vs rvs
  split at h
  · rename_i d e
    obtain ⟨v, w, rfl, rv, rw'⟩ := rvs.two
    cases e1 : srcOf st1 d with
    | none => rw [e1] at h; exact h.elim
    | some S =>
      cases e2 : srcOf st1 e with
      | none => rw [e1, e2] at h; exact h.elim
      | some T =>
        rw [e1, e2] at h
        obtain ⟨b, a, xs, rfl, q, rl, on⟩ := src_good hs1 rv e1
        obtain ⟨c, a2, xs2, rfl, q2, rl2, on2⟩ := src_good hs1 rw' e2
        refine ⟨b, c, a, a2, xs, xs2, rfl, q, q2, Wp.ok hs1 h _ ?_⟩
        intro o3 st3 H3 ch hs3 g
        obtain ⟨ys, q3, rl3⟩ := on o3 st3 H3 ch hs3 (fun p hp => g p (List.mem_append_left _ hp))
        obtain ⟨zs, q4, rl4⟩ := on2 o3 st3 H3 ch hs3 (fun p hp => g p (List.mem_append_right _ hp))
        refine ⟨fun i d hd => ?_, ?_⟩
        · obtain ⟨d1, d2, h1, h2, rfl⟩ := zipD_get _ _ i d hd
          obtain ⟨x, hx, rx⟩ := rl3.get h1
          obtain ⟨y, hy, ry⟩ := rl4.get h2
          refine ⟨⟨ys, zs, x, y, q3, q4, hx, hy⟩, fun x' H5 yy => ?_⟩
          obtain ⟨TT, u, u2, rfl, hT, rfl, f1, f2⟩ := yy
          have g1 := f1 ys q3
          have g2 := f2 zs q4
          rw [hx] at g1
          rw [hy] at g2
          cases g1
          cases g2
          exact pair_laid hs3 hT rx ry
        · show ∃ xs ys : List V, SqB b K H3 a xs ∧ SqB c K H3 a2 ys ∧ (zipD S.items T.items).length = min xs.length ys.length
          exact ⟨ys, zs, q3, q4, by rw [zipD_length, rl3.length, rl4.length]⟩
  · exact h.elim
def mRng0 (m : MA) : MI := fun rho st => (m rho st).bind fun ds st => match ds with
  | [.int j] => if -(2 ^ 62) ≤ j ∧ j < 2 ^ 62 then .ok ⟨rgD 0 j, []⟩ st else .bad
  | [.int i, .int j] => if (-(2 ^ 62) ≤ i ∧ i < 2 ^ 62 ∧ -(2 ^ 62) ≤ j ∧ j < 2 ^ 62) then .ok ⟨rgD i j, []⟩ st else .bad
  | _ => .bad
theorem rgD_length (a b : Int) : (rgD a b).length = (b - a).toNat := by unfold rgD; rw [List.length_map, List.length_range]
theorem rgD_get {a b : Int} {i : Nat} {d : D} (h : (rgD a b)[i]? = some d) : i < (b - a).toNat ∧ d = .int (a + (i : Nat)) := by
  have hi : i < (rgD a b).length := (List.getElem?_eq_some_iff.mp h).1
  rw [rgD_length] at hi
  unfold rgD at h
  rw [List.getElem?_map, List.getElem?_range hi] at h
  cases h
  exact ⟨hi, rfl⟩
theorem itr_rg (a b : Int) (o : Ow) (H : Hp) : ItR K (Itr a (b - a).toNat) ⟨rgD a b, []⟩ o H := by
  intro o1 st1 H1 c hs1 g
  refine ⟨fun i d hd => ?_, ?_⟩
  · obtain ⟨hi, rfl⟩ := rgD_get hd
    refine ⟨hi, fun x H2 y => ?_⟩
    obtain ⟨rfl, rfl⟩ := y
    exact ⟨.refl _ _, hs1, .int _⟩
  · show (b - a).toNat ≤ (rgD a b).length
    rw [rgD_length]
    exact Nat.le_refl _
theorem rt_rng1 (h : RtA K W ta ma) : RtI K W (iRng1 ta) (fun rho st => (ma rho st).bind fun ds st => match ds with
  | [.int j] => if -(2 ^ 62) ≤ j ∧ j < 2 ^ 62 then .ok ⟨rgD 0 j, []⟩ st else .bad
  | _ => .bad) := by
  intro rho sg o st H Q he hs hw
  refine h rho sg o st H _ he hs ((Wp.bind hw).imp (fun _ _ _ z => z) fun ds st1 o1 H1 s1 hs1 h => ?_)
  intro vs rvs
  split at h
  · rename_i j
    obtain ⟨v, rfl, rv⟩ := rvs.one
    cases rv
    split at h
    · rename_i hz
      have q := Wp.ok hs1 h _ (itr_rg 0 j o1 H1)
      rw [Int.sub_zero] at q
      exact ⟨j, rfl, hz.1, hz.2, q⟩
    · exact h.elim
  · exact h.elim
theorem rt_rng2 (h : RtA K W ta ma) : RtI K W (iRng2 ta) (fun rho st => (ma rho st).bind fun ds st => match ds with
  | [.int i, .int j] => if (-(2 ^ 62) ≤ i ∧ i < 2 ^ 62 ∧ -(2 ^ 62) ≤ j ∧ j < 2 ^ 62) then .ok ⟨rgD i j, []⟩ st else .bad
  | _ => .bad) := by
  intro rho sg o st H Q he hs hw
  refine h rho sg o st H _ he hs ((Wp.bind hw).imp (fun _ _ _ z => z) fun ds st1 o1 H1 s1 hs1 h => ?_)
  intro vs rvs
  split at h
  · rename_i i j
    obtain ⟨v, w, rfl, rv, rw'⟩ := rvs.two
    cases rv
    cases rw'
    split at h
    · rename_i hz
      exact ⟨i, j, rfl, hz, Wp.ok hs1 h _ (itr_rg i j o1 H1)⟩
    · exact h.elim
  · exact h.elim
end
def mRng1 (m : MA) : MI := fun rho st => (m rho st).bind fun ds st => match ds with
  | [.int j] => if -(2 ^ 62) ≤ j ∧ j < 2 ^ 62 then .ok ⟨rgD 0 j, []⟩ st else .bad
  | _ => .bad
def mRng2 (m : MA) : MI := fun rho st => (m rho st).bind fun ds st => match ds with
  | [.int i, .int j] => if (-(2 ^ 62) ≤ i ∧ i < 2 ^ 62 ∧ -(2 ^ 62) ≤ j ∧ j < 2 ^ 62) then .ok ⟨rgD i j, []⟩ st else .bad
  | _ => .bad
section
variable {X : Cx} {W : WX} {k : Nat} {pos p tpos : Pos} {a b e : Expr} {tg : Expr} {te : TE} {me : ME} {ta : TA} {ma : MA} {elts : List Expr} {kk : Nat}
theorem pdi_seq (h : PD X W e te me) : PDI X W tg e (iSq X.K te) (mSrc me) := ⟨pi_sq h.pe, rt_src h.rt⟩
theorem pdi_rng1 (hm : X.mg "range" = none) (ha : PDA X W [a] ta ma) (hg : Gl X "range" := by rfl) (hs : starEach [a] X.env = [(false, eval a X.env)] := by rfl) : PDI X W tg (.Call (.Name "range" p) [a] [] pos) (iRng1 ta) (mRng1 ma) := ⟨pi_range1 hg hm ha.pe hs, rt_rng1 ha.rt⟩
theorem pdi_rng2 (hm : X.mg "range" = none) (ha : PDA X W [a, b] ta ma) (hg : Gl X "range" := by rfl) (hs : starEach [a, b] X.env = [(false, eval a X.env), (false, eval b X.env)] := by rfl) (hs2 : starEach [b] X.env = [(false, eval b X.env)] := by rfl) :
    PDI X W tg (.Call (.Name "range" p) [a, b] [] pos) (iRng2 ta) (mRng2 ma) := ⟨pi_range2 hg hm ha.pe hs hs2, rt_rng2 ha.rt⟩
theorem pdi_enum (hm : X.mg "enumerate" = none) (ha : PDA X W [e] ta ma) (hg : Gl X "enumerate" := by rfl) (hs : starEach [e] X.env = [(false, eval e X.env)] := by rfl) :
    PDI X W (.Tuple elts kk tpos) (.Call (.Name "enumerate" p) [e] [] pos) (iEnB X.K ta) (mEnum ma) := ⟨pi_enB hg hm ha.pe hs, rt_enum ha.rt⟩
theorem pdi_zip (hm : X.mg "zip" = none) (ha : PDA X W [a, b] ta ma) (hg : Gl X "zip" := by rfl) (hs : starEach [a, b] X.env = (false, eval a X.env) :: starEach [b] X.env := by rfl) (hpl : (backTo pos (starEach [b] X.env)).any (·.1) = false := by rfl) :
    PDI X W (.Tuple elts kk tpos) (.Call (.Name "zip" p) [a, b] [] pos) (iZB X.K ta) (mZip ma) := ⟨pi_zB hg hm ha.pe hs hpl, rt_zip ha.rt⟩
end
end DL

set_option Elab.async false
set_option linter.all false
set_option maxRecDepth 100000
set_option maxHeartbeats 2000000
/-! DMth: methods of lists, stores at places, in, list * int, repr. -/
namespace DL
open PySem PySem.Spec PyProof.Rows L2

section
variable {K : PySem.W.Frag} {o : Ow} {H : Hp} {st : Sto} {v w : V} {d : D} {n : Nat} {xs : List D} {us : List V} {a : Addr} {Q : VK} {E : Ex → Ow → Hp → Prop}
theorem Rp.cellLst (hs : StR K o st H) (r : Rp K o H v (.ref n)) (e : st[n]? = some (.lst xs)) : ∃ a us, v = .ref a ∧ o.ph[n]? = some a ∧ H a = some (.lst us) ∧ RpL K o H us xs := by
  cases r with
  | ref h =>
    cases hs.cell n _ _ h e with
    | lst q rl => exact ⟨_, _, rfl, h, q, rl⟩
theorem end_cell (hs : StR K o st H) (e : o.ph[n]? = some a) (rl : RpL K o H us xs) (rd : Rp K o H w d) (h : Wp K o H (.ok d (st.set n (.lst xs))) E (fun d _ o' H' => ∀ v, Rp K o' H' v d → Q v H')) : Q w (upd H a (.lst us)) :=
  have m : a ∈ o.ph := List.mem_of_getElem? e
  h o _ (step_cell m) (hs.updCell e (.lst upd_same (rl.upd (.inl m)))) _ (rd.upd (.inl m))
end
/-- a method of a value -/
def mMt (T : String) (g : D → List D → Sto → R D) (o : ME) (a : MA) : ME := fun rho st => (o rho st).bind fun x st1 => if tyOf st1 x = some T then (a rho st1).bind fun ds st2 => g x ds st2 else .bad
def MtD (K : PySem.W.Frag) (r : V → List V → Hp → VK → Prop) (g : D → List D → Sto → R D) : Prop := ∀ (o : Ow) (st : Sto) (H : Hp) (v : V) (vs : List V) (x : D) (ds : List D) (Q : VK), StR K o st H → Rp K o H v x → RpL K o H vs ds →
  Wp K o H (g x ds st) (fun _ _ _ => False) (fun d _ o' H' => ∀ v, Rp K o' H' v d → Q v H') → r v vs H Q
def NoExM (g : D → List D → Sto → R D) : Prop := ∀ x ds st e st', g x ds st ≠ .ex e st'
def tyMt (T : String) : Bool := T == "list" || T == "dict" || T == "str"
theorem tyV_of {K : PySem.W.Frag} {o : Ow} {H : Hp} {st : Sto} {v : V} {d : D} {T : String} (hT : tyMt T = true) (hs : StR K o st H) (r : Rp K o H v d) (e : tyOf st d = some T) : tyV K T v H := by
  cases r with
  | non => cases e; cases hT
  | bl b => cases e; cases hT
  | int i => cases e; cases hT
  | str x => cases e; rfl
  | ty _ => cases e
  | adr _ => cases e
  | tup h _ => cases e; cases hT
  | lst h _ => cases e; exact .inl ⟨rfl, _, h.sq⟩
  | @ref a n h =>
    unfold tyOf at e
    dsimp only at e
    split at e
    · rename_i e2
      cases e
      cases hs.cell n a _ h e2 with
      | lst q _ => exact .inl ⟨rfl, _, SqL.of q⟩
    · rename_i e2
      cases e
      cases hs.cell n a _ h e2 with
      | dK q _ => exact .inr (.inr (.inl ⟨rfl, .inl ⟨_, q⟩⟩))
      | dT q _ => exact .inr (.inr (.inl ⟨rfl, .inr ⟨_, q⟩⟩))
    · cases e
section
variable {K : PySem.W.Frag} {W : WX} {T : String} {r : V → List V → Hp → VK → Prop} {g : D → List D → Sto → R D} {to : TE} {mo : ME} {t : TA} {ma : MA}
theorem rt_mt (hT : tyMt T = true) (hg : MtD K r g) (n : NoExM g) (ho : Rt K W to mo) (ha : RtA K W t ma) : Rt K W (tBM K T r to t) (mMt T g mo ma) := by
  intro rho sg o st H Q he hs h
  refine ho rho sg o st H _ he hs ((Wp.bind h).imp (fun _ _ _ z => z) fun x st1 o1 H1 s1 hs1 h => ?_)
  intro v rv
  by_cases e : tyOf st1 x = some T
  · rw [if_pos e] at h
    refine ⟨tyV_of hT hs1 rv e, ?_⟩
    refine ha rho sg o1 st1 H1 _ (he.step s1.toRch) hs1 ((Wp.bind h).imp (fun _ _ _ z => z) fun ds st2 o2 H2 s2 hs2 h => ?_)
    intro vs rvs
    exact hg o2 st2 H2 v vs x ds Q hs2 (rv.step s2.toRch) rvs (h.noE (n _ _ _))
  · rw [if_neg e] at h
    exact h.elim
theorem rt_mt0 (hT : tyMt T = true) (hg : MtD K r g) (n : NoExM g) (ho : Rt K W to mo) : Rt K W (tBM0 K T r to) (mMt T g mo mNil) := by
  intro rho sg o st H Q he hs h
  refine ho rho sg o st H _ he hs ((Wp.bind h).imp (fun _ _ _ z => z) fun x st1 o1 H1 s1 hs1 h => ?_)
  intro v rv
  by_cases e : tyOf st1 x = some T
  · rw [if_pos e] at h
    exact ⟨tyV_of hT hs1 rv e, hg o1 st1 H1 v [] x [] Q hs1 rv .nil (Wp.noE (n _ _ _) (show Wp K o1 H1 (g x [] st1) _ _ from h))⟩
  · rw [if_neg e] at h
    exact h.elim
end
section
variable {X : Cx} {W : WX} {o e : Expr} {es : List Expr} {name : Str} {apos cpos : Pos} {T id : String} {r : V → List V → Hp → VK → Prop} {g : D → List D → Sto → R D} {to : TE} {mo : ME} {t : TA} {ma : MA}
theorem pd_mt (pa : PlainAttrs T) (slot : Slot T name id) (hty : typeOf (.builtin id) = pure (.type "method_descriptor")) (hm : MtR X id r) (hg : MtD X.K r g) (n : NoExM g) (hT : tyMt T = true) (ho : PD X W o to mo) (ha : PDA X W (e :: es) t ma)
    (hbase : attributeBase o name X.env (eval o X.env) = eval o X.env := by rfl)
    (hfew : ((backTo cpos (starEach (e :: es) X.env)).all (fun x => !x.1) && (backToKw cpos (keywordEach [] X.env)).all (fun x => x.1.isSome)
      && decide ((e :: es).length + ([] : List Keyword).length + (if ([] : List Keyword).isEmpty then 0 else 1) < 30)) = true := by rfl)
    (hline : (apos.endLine == cpos.line) = true := by rfl) (hs : starEach (e :: es) X.env = (false, eval e X.env) :: starEach es X.env := by rfl) (hpl : (backTo cpos (starEach es X.env)).any (·.1) = false := by rfl) :
    PD X W (.Call (.Attribute o name apos) (e :: es) [] cpos) (tBM X.K T r to t) (mMt T g mo ma) := ⟨pe_bm pa slot hty hm ho.pe ha.pe hbase hfew hline hs hpl, rt_mt hT hg n ho.rt ha.rt⟩
theorem pd_mt0 (pa : PlainAttrs T) (slot : Slot T name id) (hty : typeOf (.builtin id) = pure (.type "method_descriptor")) (hm : MtR X id r) (hg : MtD X.K r g) (n : NoExM g) (hT : tyMt T = true) (ho : PD X W o to mo)
    (hbase : attributeBase o name X.env (eval o X.env) = eval o X.env := by rfl) (hline : (apos.endLine == cpos.line) = true := by rfl) :
    PD X W (.Call (.Attribute o name apos) [] [] cpos) (tBM0 X.K T r to) (mMt T g mo mNil) := ⟨pe_bm0 pa slot hty hm ho.pe hbase hline, rt_mt0 hT hg n ho.rt⟩
end
/-- append, pop, clear -/
def dApp (x : D) (ds : List D) (st : Sto) : R D := match x, ds with
  | .ref n, [d] => match st[n]? with
    | some (.lst xs) => if xs.length < sizeLine then .ok .non (st.set n (.lst (xs ++ [d]))) else .bad
    | _ => .bad
  | _, _ => .bad
theorem appD {K : PySem.W.Frag} : MtD K rAppend dApp := by
  intro o st H v vs x ds Q hs r rl h
  unfold dApp at h
  split at h
  · rename_i n d
    obtain ⟨w, rfl, rw'⟩ := rl.one
    split at h
    · rename_i xs e
      split at h
      · rename_i hz
        obtain ⟨a, us, rfl, p, q, rs⟩ := r.cellLst hs e
        exact ⟨a, us, w, rfl, rfl, q, by rw [rs.length]; exact hz, end_cell hs p (rs.append (.cons rw' .nil)) .non h⟩
      · exact h.elim
    · exact h.elim
  · exact h.elim
theorem noex_app : NoExM dApp := by
  intro x ds st e st' h
  unfold dApp at h
  split at h
  · split at h
    · split at h <;> cases h
    · cases h
  · cases h
def dPop (x : D) (ds : List D) (st : Sto) : R D := match x, ds with
  | .ref n, [] => match st[n]? with
    | some (.lst xs) => match xs[xs.length - 1]? with
      | some d => .ok d (st.set n (.lst xs.dropLast))
      | none => .bad
    | _ => .bad
  | _, _ => .bad
theorem RpL.dropLast {K : PySem.W.Frag} {o : Ow} {H : Hp} {vs : List V} {ds : List D} (r : RpL K o H vs ds) : RpL K o H vs.dropLast ds.dropLast := by
  rw [List.dropLast_eq_take, List.dropLast_eq_take, r.length]
  exact r.take _
theorem popD {K : PySem.W.Frag} : MtD K rPop dPop := by
  intro o st H v vs x ds Q hs r rl h
  unfold dPop at h
  split at h
  · rename_i n
    cases rl
    split at h
    · rename_i xs e
      split at h
      · rename_i d hd
        obtain ⟨a, us, rfl, p, q, rs⟩ := r.cellLst hs e
        obtain ⟨y, hy, ry⟩ := rs.get hd
        exact ⟨a, us, y, rfl, rfl, q, by rw [rs.length]; exact hy, end_cell hs p rs.dropLast ry h⟩
      · exact h.elim
    · exact h.elim
  · exact h.elim
theorem noex_pop : NoExM dPop := by
  intro x ds st e st' h
  unfold dPop at h
  split at h
  · split at h
    · split at h <;> cases h
    · cases h
  · cases h
def dPopAt (x : D) (ds : List D) (st : Sto) : R D := match x, ds with
  | .ref n, [.int i] => match st[n]? with
    | some (.lst xs) => if -(2 ^ 63) ≤ i ∧ i < 2 ^ 63 then match seqIndex? i xs.length with
      | some k => match xs[k]? with
        | some d => .ok d (st.set n (.lst (xs.eraseIdx k)))
        | none => .bad
      | none => .bad
      else .bad
    | _ => .bad
  | _, _ => .bad
theorem RpL.eraseIdx {K : PySem.W.Frag} {o : Ow} {H : Hp} : ∀ {vs : List V} {ds : List D} (i : Nat), RpL K o H vs ds → RpL K o H (vs.eraseIdx i) (ds.eraseIdx i)
  | _, _, _, .nil => by simpa using RpL.nil
  | _, _, 0, .cons _ r => r
  | _, _, i + 1, .cons q r => .cons q (RpL.eraseIdx i r)
theorem popAtD {K : PySem.W.Frag} : MtD K rPopAt dPopAt := by
  intro o st H v vs x ds Q hs r rl h
  unfold dPopAt at h
  split at h
  · rename_i n i
    obtain ⟨w, rfl, rw'⟩ := rl.one
    cases rw'
    split at h
    · rename_i xs e
      split at h
      · rename_i hz
        split at h
        · rename_i k hk
          split at h
          · rename_i d hd
            obtain ⟨a, us, rfl, p, q, rs⟩ := r.cellLst hs e
            obtain ⟨y, hy, ry⟩ := rs.get hd
            exact ⟨a, us, i, k, y, rfl, rfl, q, hz.1, hz.2, by rw [rs.length]; exact hk, hy, end_cell hs p (rs.eraseIdx k) ry h⟩
          · exact h.elim
        · exact h.elim
      · exact h.elim
    · exact h.elim
  · exact h.elim
theorem noex_popAt : NoExM dPopAt := by
  intro x ds st e st' h
  unfold dPopAt at h
  split at h
  · split at h
    · split at h
      · split at h
        · split at h <;> cases h
        · cases h
      · cases h
    · cases h
  · cases h
def dClr (x : D) (ds : List D) (st : Sto) : R D := match x, ds with
  | .ref n, [] => match st[n]? with
    | some (.lst _) => .ok .non (st.set n (.lst []))
    | _ => .bad
  | _, _ => .bad
theorem clrD {K : PySem.W.Frag} : MtD K rClear dClr := by
  intro o st H v vs x ds Q hs r rl h
  unfold dClr at h
  split at h
  · rename_i n
    cases rl
    split at h
    · rename_i xs e
      obtain ⟨a, us, rfl, p, q, rs⟩ := r.cellLst hs e
      exact ⟨a, us, rfl, rfl, q, end_cell hs p .nil .non h⟩
    · exact h.elim
  · exact h.elim
theorem noex_clr : NoExM dClr := by
  intro x ds st e st' h
  unfold dClr at h
  split at h
  · split at h <;> cases h
  · cases h
/-- == of flat data -/
def eqF : D → D → Bool
  | .non, .non => true
  | .bl a, .bl b => a == b
  | .bl a, .int b => (if a then 1 else 0) == b
  | .int a, .bl b => a == (if b then 1 else 0)
  | .int a, .int b => a == b
  | .str a, .str b => a == b
  | _, _ => false
def flatD : D → Bool
  | .non => true
  | .bl _ => true
  | .int _ => true
  | .str _ => true
  | _ => false
theorem flat_rp {K : PySem.W.Frag} {o : Ow} {H : Hp} {v : V} {d : D} (r : Rp K o H v d) (h : flatD d = true) : flatV v = true := by cases r <;> first | rfl | cases h
theorem flats_rp {K : PySem.W.Frag} {o : Ow} {H : Hp} : ∀ {vs : List V} {ds : List D}, RpL K o H vs ds → ds.all flatD = true → vs.all flatV = true
  | _, _, .nil, _ => rfl
  | _, _, .cons r rr, h => by
    rw [List.all_cons, Bool.and_eq_true] at h
    rw [List.all_cons, flat_rp r h.1, flats_rp rr h.2]
    rfl
theorem eqF_rp {K : PySem.W.Frag} {o : Ow} {H : Hp} {v w : V} {x y : D} (r : Rp K o H v x) (r' : Rp K o H w y) (h : flatD x = true) (h' : flatD y = true) : eqV v w = eqF x y := by
  cases r <;> first
    | (cases h; done)
    | (cases r' <;> first | (cases h'; done) | rfl)
theorem anyF_rp {K : PySem.W.Frag} {o : Ow} {H : Hp} {w : V} {y : D} (r' : Rp K o H w y) (h' : flatD y = true) : ∀ {vs : List V} {ds : List D}, RpL K o H vs ds → ds.all flatD = true → (vs.any fun z => eqV z w) = ds.any fun z => eqF z y
  | _, _, .nil, _ => rfl
  | _, _, .cons r rr, h => by
    rw [List.all_cons, Bool.and_eq_true] at h
    rw [List.any_cons, List.any_cons, eqF_rp r r' h.1 h', anyF_rp r' h' rr h.2]
/-- x in a list or tuple of flat items -/
def dIn (x y : D) (st : Sto) : R D := match seqOf st y with
  | some ds => if flatD x = true ∧ ds.all flatD = true then .ok (.bl (ds.any fun z => eqF z x)) st else .bad
  | none => .bad
def dNin (x y : D) (st : Sto) : R D := match seqOf st y with
  | some ds => if flatD x = true ∧ ds.all flatD = true then .ok (.bl (!ds.any fun z => eqF z x)) st else .bad
  | none => .bad
theorem inD {K : PySem.W.Frag} : OpD K (rIn K false) dIn := by
  intro o st H v w x y Q hs rx ry h
  unfold dIn at h
  split at h
  · rename_i ds e
    split at h
    · rename_i hz
      obtain ⟨a, us, rfl, q, rs⟩ := ry.seqOf hs e
      refine ⟨a, us, rfl, q, flat_rp rx hz.1, flats_rp rs hz.2, ?_⟩
      rw [if_neg Bool.false_ne_true]
      unfold inV
      rw [anyF_rp rx hz.1 rs hz.2]
      exact Wp.ok hs h _ (.bl _)
    · exact h.elim
  · exact h.elim
theorem ninD {K : PySem.W.Frag} : OpD K (rIn K true) dNin := by
  intro o st H v w x y Q hs rx ry h
  unfold dNin at h
  split at h
  · rename_i ds e
    split at h
    · rename_i hz
      obtain ⟨a, us, rfl, q, rs⟩ := ry.seqOf hs e
      refine ⟨a, us, rfl, q, flat_rp rx hz.1, flats_rp rs hz.2, ?_⟩
      rw [if_pos rfl]
      unfold inV
      rw [anyF_rp rx hz.1 rs hz.2]
      exact Wp.ok hs h _ (.bl _)
    · exact h.elim
  · exact h.elim
theorem noex_in : NoEx dIn := by
  intro x y st e st' h
  unfold dIn at h
  split at h
  · split at h <;> cases h
  · cases h
theorem noex_nin : NoEx dNin := by
  intro x y st e st' h
  unfold dNin at h
  split at h
  · split at h <;> cases h
  · cases h
/-- xs[i] = v, of a cell -/
def dPut (x i v : D) (st : Sto) : R Unit := match x, i with
  | .ref n, .int k => match st[n]? with
    | some (.lst xs) => match ixN xs.length k with
      | some j => .ok () (st.set n (.lst (xs.set j v)))
      | none => .bad
    | _ => .bad
  | _, _ => .bad
theorem put_ok {x i v : D} {st st' : Sto} {u : Unit} (h : dPut x i v st = .ok u st') : ∃ n k xs j, x = .ref n ∧ i = .int k ∧ st[n]? = some (.lst xs) ∧ ixN xs.length k = some j ∧ st' = st.set n (.lst (xs.set j v)) := by
  unfold dPut at h
  split at h
  · split at h
    · rename_i e
      split at h
      · rename_i j hj
        cases h
        exact ⟨_, _, _, _, rfl, rfl, e, hj, rfl⟩
      · cases h
    · cases h
  · cases h
def gIx (mo mi : ME) : MG := fun d rho st => (mo rho st).bindN fun x st1 => (mi rho st1).bindN fun i st2 => (dPut x i d st2).bindN fun _ st3 => .ok rho st3
section
variable {X : Cx} {W : WX} {o i : Expr} {to ti : TE} {mo mi : ME} {pos : Pos}
theorem rt_ix {K : PySem.W.Frag} (ho : Rt K W0 to mo) (hi : Rt K W0 ti mi) : RtJ K (gSub to ti rSetL) (gIx mo mi) [] := by
  intro rho sg o st H v d Q he hs r h
  refine ho rho sg o st H _ he hs ((Wp.bindN (E' := EW K W0 sg) h).imp (fun _ _ _ z => z) fun x st1 o1 H1 s1 hs1 h => ?_)
  intro vx rx
  refine hi rho sg o1 st1 H1 _ (he.step s1.toRch) hs1 ((Wp.bindN (E' := EW K W0 sg) h).imp (fun _ _ _ z => z) fun y st2 o2 H2 s2 hs2 h => ?_)
  intro vi ri
  have r2 := (r.step s1.toRch).step s2.toRch
  have rx2 := rx.step s2.toRch
  cases q0 : dPut x y d st2 with
  | bad => rw [q0] at h; exact h.elim
  | ex e st3 => rw [q0] at h; exact h.elim
  | ok u st3 =>
    rw [q0] at h
    obtain ⟨n, kk, xs, j, rfl, rfl, e, hj, rfl⟩ := put_ok q0
    cases ri
    obtain ⟨a, us, rfl, p, q, rs⟩ := rx2.cellLst hs2 e
    have m : a ∈ o2.ph := List.mem_of_getElem? p
    refine ⟨a, us, kk, j, rfl, rfl, q, by rw [rs.length]; exact hj, ?_⟩
    have s3 : Step o2 H2 o2 (upd H2 a (.lst (us.set j v))) := step_cell m
    have h' : Wp K o2 H2 (.ok rho (st2.set n (.lst (xs.set j d)))) (fun _ _ _ => False) (fun r _ o' H' => ∀ sg', EnvR K o' H' r sg' → sg'.length = sg.length → (∀ j, j ∉ ([] : List Nat) → sg'[j]? = sg[j]?) → Q sg' H') := h
    exact h' o2 _ s3 (hs2.updCell p (.lst upd_same ((rs.set r2 j).upd (.inl m)))) sg (((he.step s1.toRch).step s2.toRch).step s3.toRch) rfl fun _ _ => rfl
theorem pdj_ix (ho : PD X W0 o to mo) (hi : PD X W0 i ti mi)
    (ha : ∀ v, assign (.Subscript o i pos) X.env v = (do
      let ov ← holding [v] (eval o X.env)
      let iv ← holding [v, ov] (eval i X.env)
      standAt pos
      holding [v, ov, iv] (setItem ov iv v)
      release [v, ov, iv] []) := by intro _; rfl) : PDJ X (.Subscript o i pos) (gSub to ti rSetL) (gIx mo mi) [] :=
  ⟨pg_sub ho.pe hi.pe set_list ha, rt_ix ho.rt hi.rt⟩
end
/-- a new list of two lists -/
def mCat (a b : ME) : MA := fun rho st => (a rho st).bind fun x st1 => (b rho st1).bind fun y st2 => match lstOf st2 x, lstOf st2 y with
  | some xs, some ys => if xs.length + ys.length ≤ sizeLine then .ok (xs ++ ys) st2 else .bad
  | _, _ => .bad
section
variable {X : Cx} {W : WX} {a b : Expr} {ta tb : TE} {ma mb : ME} {pos : Pos}
/-- a list run's wish, as a wish of the run's parts -/
theorem wpf_bind {K : PySem.W.Frag} {o : Ow} {H : Hp} {α : Type} {r : R α} {k : α → Sto → R (List D)} {E : Ex → Ow → Hp → Prop} {Q : VK}
    (h : match r.bind k with
      | .ok ds st' => ∀ o' H' p vs, Step o H o' H' → H p = none → StR K (o'.rsv p) st' H' → H' p = some (.lst vs) → RpL K (o'.rsv p) H' vs ds → Q (.ref p) H'
      | .ex e st' => ∀ o' H', Step o H o' H' → StR K o' st' H' → E e o' H'
      | .bad => False) :
    Wp K o H r E (fun a st1 o1 H1 => Step o H o1 H1 ∧ StR K o1 st1 H1 ∧ match k a st1 with
      | .ok ds st' => ∀ o' H' p vs, Step o1 H1 o' H' → H1 p = none → StR K (o'.rsv p) st' H' → H' p = some (.lst vs) → RpL K (o'.rsv p) H' vs ds → Q (.ref p) H'
      | .ex e st' => ∀ o' H', Step o1 H1 o' H' → StR K o' st' H' → E e o' H'
      | .bad => False) := by
  cases r with
  | bad => exact h
  | ex e st => exact h
  | ok a st1 =>
    intro o1 H1 s1 hs1
    refine ⟨s1, hs1, ?_⟩
    have h' : match k a st1 with
      | .ok ds st' => ∀ o' H' p vs, Step o H o' H' → H p = none → StR K (o'.rsv p) st' H' → H' p = some (.lst vs) → RpL K (o'.rsv p) H' vs ds → Q (.ref p) H'
      | .ex e st' => ∀ o' H', Step o H o' H' → StR K o' st' H' → E e o' H'
      | .bad => False := h
    cases q : k a st1 with
    | bad => rw [q] at h'; exact h'
    | ex e st' => rw [q] at h'; exact fun o' H' s2 hs2 => h' o' H' (s1.trans s2) hs2
    | ok ds st' => rw [q] at h'; exact fun o' H' p vs s2 hp hs2 e2 rl => h' o' H' p vs (s1.trans s2) (s1.free hp) hs2 e2 rl
theorem pdf_cat (ha : PD X W a ta ma) (hb : PD X W b tb mb) : PDF X W (.BinOp a .Add b pos) (tOp (rCatS X.K) ta tb) (mCat ma mb) := by
  refine ⟨pe_op op_catS ha.pe hb.pe, fun rho sg o st H Q he hs h => ?_⟩
  refine ha.rt rho sg o st H _ he hs ((wpf_bind h).imp (fun _ _ _ z => z) fun x st1 o1 H1 s1 hs1 h => ?_)
  intro v rv
  refine hb.rt rho sg o1 st1 H1 _ (he.step s1.toRch) hs1 ((wpf_bind h.2.2).imp (fun _ _ _ z => z) fun y st2 o2 H2 s2 hs2 h => ?_)
  intro w rw'
  obtain ⟨_, _, h⟩ := h
  cases e1 : lstOf st2 x with
  | none => rw [e1] at h; exact h.elim
  | some xs =>
    cases e2 : lstOf st2 y with
    | none => rw [e1, e2] at h; exact h.elim
    | some ys =>
      rw [e1, e2] at h
      dsimp only at h
      by_cases hz : xs.length + ys.length ≤ sizeLine
      · simp only [if_pos hz] at h
        obtain ⟨a, us, rfl, q1, r1⟩ := (rv.step s2.toRch).lstOf hs2 e1
        obtain ⟨b, ws, rfl, q2, r2⟩ := rw'.lstOf hs2 e2
        exact ⟨a, b, us, ws, rfl, rfl, q1, q2, by rw [r1.length, r2.length]; exact hz, end_new (.refl _ _) hs2 (r1.append r2) h⟩
      · simp only [if_neg hz] at h
end
/-- a new list of a new list, so many times over -/
def mRep (a : MA) (b : ME) : MA := fun rho st => (a rho st).bind fun xs st1 => (b rho st1).bind fun y st2 => match y with
  | .int k => if -(2 ^ 63) ≤ k ∧ k < 2 ^ 63 ∧ xs.length * k.toNat ≤ sizeLine then .ok (List.replicate k.toNat xs).flatten st2 else .bad
  | _ => .bad
section
variable {X : Cx} {W : WX} {a b : Expr} {ta tb : TE} {mb : ME} {ma : MA} {pos : Pos}
theorem pdf_rep (ha : PDF X W a ta ma) (hb : PD X W b tb mb) : PDF X W (.BinOp a .Mult b pos) (tOp rRep ta tb) (mRep ma mb) := by
  refine ⟨pe_op op_rep ha.pe hb.pe, fun rho sg o st H Q he hs h => ?_⟩
  refine ha.rt rho sg o st H _ he hs ?_
  unfold mRep at h
  cases q1 : ma rho st with
  | bad => rw [q1] at h; exact h.elim
  | ex e st1 => rw [q1] at h; exact h
  | ok xs st1 =>
    rw [q1] at h
    intro o1 H1 p us s1 hp hs1 e1 rl
    have s1' : Rch o H (o1.rsv p) H1 := s1.toRch.of_step' s1.same hp
    refine hb.rt rho sg (o1.rsv p) st1 H1 _ (he.step s1') hs1 ?_
    simp only [R.bind] at h
    cases q2 : mb rho st1 with
    | bad => rw [q2] at h; exact h.elim
    | ex e st2 =>
      rw [q2] at h
      intro o2 H2 s2 hs2 d hd
      have e2 := s2.eta
      have hs2' : StR X.K ⟨o2.ph, o1.rs⟩ st2 H2 := by rw [e2] at hs2; exact hs2.unrsv
      refine h ⟨o2.ph, o1.rs⟩ H2 (s1.trans s2.unrsv) hs2' d ?_
      rw [e2] at hd
      cases hf : e.fs with
      | none =>
        cases d with
        | none => unfold ExAt; rw [hf]; trivial
        | some a => unfold ExAt at hd; rw [hf] at hd; exact hd.elim
      | some gs =>
        cases d with
        | none => unfold ExAt at hd; rw [hf] at hd; exact hd.elim
        | some a =>
          unfold ExAt at hd ⊢
          rw [hf] at hd
          rw [hf]
          obtain ⟨fs, h1, h2, h3⟩ := hd
          exact ⟨fs, h1, has_unrsv h2, Paired.mapP h3 fun _ _ z => ⟨z.1, z.2.unrsv⟩⟩
    | ok y st2 =>
      rw [q2] at h
      intro o2 H2 s2 hs2 w rw'
      have e2 := s2.eta
      have hpr : p ∈ (o1.rsv p).rs := List.mem_append_right _ (List.mem_singleton_self p)
      have keep : H2 p = some (.lst us) := s2.keep p _ e1 (hs1.aside p hpr).1
      have rl2 : RpL X.K ⟨o2.ph, o1.rs⟩ H2 us xs := by
        have z := rl.step s2.toRch
        rw [e2] at z
        exact z.unrsv
      have hs2' : StR X.K ⟨o2.ph, o1.rs⟩ st2 H2 := by rw [e2] at hs2; exact hs2.unrsv
      cases y with
      | int k =>
        dsimp only at h
        by_cases hz : -(2 ^ 63) ≤ k ∧ k < 2 ^ 63 ∧ xs.length * k.toNat ≤ sizeLine
        · simp only [if_pos hz] at h
          cases rw'
          exact ⟨p, k, us, rfl, rfl, keep, hz.1, hz.2.1, by rw [rl2.length]; exact hz.2.2, end_new (s1.trans s2.unrsv) hs2' (rl2.rep _) h⟩
        · simp only [if_neg hz] at h
      | _ => exact h.elim
end
/-! ### repr -/
/-- data that are shown; an empty dict too -/
def toPyR (st : Sto) (d : D) : Option PyData := match d with
  | .ref n => match st[n]? with
    | some (.dct []) => some (.dict [])
    | _ => toPy 20 st d
  | d => toPy 20 st d
def showOk (a : PyData) : Prop := a.showable = true ∧ a.depth ≤ 60 ∧ a.shown.length ≤ sizeLine
instance (a : PyData) : Decidable (showOk a) := by unfold showOk; exact inferInstance
def dRepr (ds : List D) (st : Sto) : R D := match ds with
  | [d] => match toPyR st d with
    | some a => if showOk a then .ok (.str a.shown) st else .bad
    | none => .bad
  | _ => .bad
def DpR (K : PySem.W.Frag) (H : Hp) (v : V) (a : PyData) : Prop := Dp K H v a ∨ ∃ p, v = .ref p ∧ (H p = some (.dK []) ∨ H p = some (.dT [])) ∧ a = .dict []
def rRepr (K : PySem.W.Frag) : List V → Hp → VK → Prop := fun xs H Q => ∃ x a, xs = [x] ∧ DpR K H x a ∧ showOk a ∧ Q (.str a.shown) H
theorem toPy_dct {st : Sto} {n k : Nat} {l : List (D × D)} (e : st[n]? = some (.dct l)) : toPy k st (.ref n) = none := by
  cases k with
  | zero => rfl
  | succ k =>
    show (match lstOf st (.ref n) with
        | some ds => (ds.mapM (toPy k st)).map PyData.list
        | none => none) = none
    unfold lstOf
    simp only [e]
theorem dpR_of {K : PySem.W.Frag} {o : Ow} {H : Hp} {st : Sto} {v : V} {d : D} {a : PyData} (hs : StR K o st H) (r : Rp K o H v d) (e : toPyR st d = some a) : DpR K H v a := by
  cases d with
  | ref n =>
    unfold toPyR at e
    dsimp only at e
    split at e
    · rename_i q
      cases e
      cases r with
      | @ref p _ h =>
        cases hs.cell n _ _ h q with
        | dK q1 r1 => cases r1; exact .inr ⟨p, rfl, .inl q1, rfl⟩
        | dT q1 r1 => cases r1; exact .inr ⟨p, rfl, .inr q1, rfl⟩
    · exact .inl (dp_of hs 20 v _ a r e)
  | _ => exact .inl (dp_of hs 20 v _ a r e)
theorem reprD {K : PySem.W.Frag} : FnD K (rRepr K) dRepr := by
  intro o st H vs ds Q hs rl h
  unfold dRepr at h
  split at h
  · rename_i d
    obtain ⟨v, rfl, r⟩ := rl.one
    split at h
    · rename_i a e
      split at h
      · rename_i hz
        exact ⟨v, a, rfl, dpR_of hs r e, hz, Wp.ok hs h _ (.str _)⟩
      · exact h.elim
    · exact h.elim
  · exact h.elim
theorem noex_repr : NoExF dRepr := by
  intro ds st e st' h
  unfold dRepr at h
  split at h
  · split at h
    · split at h <;> cases h
    · cases h
  · cases h
theorem call_reprD {X : Cx} (hg : X.A.guards = some []) (hu : X.A.units + 64 < cLine) : CallR X (.builtin "repr") (rRepr X.K) := by
  intro pins s sg H xs us Q I r h
  obtain ⟨x, a, rfl, dp, hz, q⟩ := h
  obtain ⟨u, rfl, ru⟩ := vals1 r
  have goal : ∀ {h' : Heap} {tk : Nat} {t : Tok}, (∀ b o, s.heap.get? b = some o → h'.get? b = some o) → EP X pins sg Q (.str a.shown t) { s with heap := h', toks := tk } := fun {h' tk t} k =>
    ⟨.str _, H, I.call (ch := []) (Un.kept k) (I.hok.kept k) I.bare (fun _ z => nomatch z), ⟨_, rfl⟩, q⟩
  have viaR : ∀ {p : Addr} {as : List Addr}, u = .ref p → Reads s.heap u a as → (a.hasDict = true → sysModules ∉ as) → wpAny (model X.prog X.w) X.A (call (.builtin "repr") [u]) (EP X pins sg Q) X.xe s := fun {p as} e rd hsm => by
    subst e
    have hd := hz.2.1
    exact repr_of_reads' rd hz.1 hsm hg (by omega) (fun _ _ e => e) (fun h' u tk k => goal k) hz.2.2
  rcases dp with dp | ⟨p, rfl, hp, rfl⟩
  · have ndict : ∀ {v : V} {b : PyData}, Dp X.K H v b → b.hasDict = false := by
      intro v b dp
      have A : ∀ {v : V} {b : PyData}, Dp X.K H v b → b.hasDict = false := fun {v b} dp => by
        refine @Dp.rec X.K H (fun v b _ => b.hasDict = false) (fun vs bs _ => PyData.hasDictAll bs = false) ?_ ?_ ?_ ?_ ?_ ?_ ?_ ?_ v b dp
        · rfl
        · intro b; rfl
        · intro b; rfl
        · intro b; rfl
        · intro a xs ds _ _ ih; simp only [PyData.hasDict]; exact ih
        · intro a xs ds _ _ ih; simp only [PyData.hasDict]; exact ih
        · rfl
        · intro v vs d ds _ _ i1 i2; simp only [PyData.hasDictAll, i1, i2, Bool.or_self]
      exact A dp
    have nd := ndict dp
    obtain ⟨as, rd⟩ := Dp.reads I a x u dp ru
    cases dp with
    | non => cases ru; exact PySem.P.repr_of_none (goal fun _ _ e => e)
    | bl b => cases ru; exact PySem.P.repr_of_bool (goal fun _ _ e => e)
    | int i =>
      obtain ⟨t, rfl⟩ := ru
      have hi : i.natAbs.log2 < 1920 := by
        have := hz.1
        simpa [PyData.showable] using this
      exact PySem.P.repr_of_int hi (goal fun _ _ e => e)
    | str y =>
      obtain ⟨t, rfl⟩ := ru
      exact PySem.P.repr_of_str (goal fun _ _ e => e) hz.2.2
    | lst _ _ => cases ru; exact viaR rfl rd (PyData.noDict_hsm nd)
    | tup _ _ => cases ru; exact viaR rfl rd (PyData.noDict_hsm nd)
  · cases ru
    have rd : ∃ as, Reads s.heap (.ref p) (.dict []) as ∧ sysModules ∉ as := by
      rcases hp with hp | hp
      · obtain ⟨_, hsm, vs, kv, o, es, ep, h1, h2, h3, h4, h5, h6⟩ := dk_of I.hok hp
        cases kv
        have hes : es.toList = [] := by
          have := h5.length
          exact List.eq_nil_of_length_eq_zero this
        refine ⟨p :: [] ++ [], .dict (as := []) (bs := []) h1 h2.1 h3 ?_ ?_, ?_⟩
        · rw [hes]; exact .nil
        · rw [hes]; exact .nil
        · intro z
          have z' : sysModules = p := by simpa using z
          rw [z'] at hsm
          simp at hsm
      · obtain ⟨_, hsm, vs, kv, o, es, ep, h1, h2, h3, h4, h5, h6⟩ := dt_of I.hok hp
        cases kv
        have hes : es.toList = [] := by rw [h4]; rfl
        refine ⟨p :: [] ++ [], .dict (as := []) (bs := []) h1 h2.1 h3 ?_ ?_, ?_⟩
        · rw [hes]; exact .nil
        · rw [hes]; exact .nil
        · intro z
          have z' : sysModules = p := by simpa using z
          rw [z'] at hsm
          simp at hsm
    obtain ⟨as, rd, hsm⟩ := rd
    exact viaR rfl rd fun _ => hsm
/-- {}: a new dict -/
def mDct : ME := fun _ st => .ok (.ref st.length) (st ++ [.dct []])
end DL

set_option Elab.async false
set_option linter.all false
set_option maxRecDepth 100000
set_option maxHeartbeats 2000000
/-! DEnd: defs with defaults, calls by keywords, ends over a head by facts, more rules. -/
namespace DL
open PySem PySem.Spec PyProof.Rows L2

theorem bo_len : bootBuiltins "len" = some (.builtin "len") := by kernel_rfl
theorem bo_max : bootBuiltins "max" = some (.builtin "max") := by kernel_rfl
theorem bo_min : bootBuiltins "min" = some (.builtin "min") := by kernel_rfl
theorem bo_all : bootBuiltins "all" = some (.builtin "all") := by kernel_rfl
theorem bo_any : bootBuiltins "any" = some (.builtin "any") := by kernel_rfl
theorem bo_sum : bootBuiltins "sum" = some (.builtin "sum") := by kernel_rfl
theorem bo_isinstance : bootBuiltins "isinstance" = some (.builtin "isinstance") := by kernel_rfl
theorem bo_repr : bootBuiltins "repr" = some (.builtin "repr") := by kernel_rfl
theorem bo_sorted : bootBuiltins "sorted" = some (.builtin "sorted") := by kernel_rfl
theorem bo_abs : bootBuiltins "abs" = some (.builtin "abs") := by kernel_rfl
theorem bo_divmod : bootBuiltins "divmod" = some (.builtin "divmod") := by kernel_rfl
theorem bo_ord : bootBuiltins "ord" = some (.builtin "ord") := by kernel_rfl
theorem bo_chr : bootBuiltins "chr" = some (.builtin "chr") := by kernel_rfl
theorem bo_int : bootBuiltins "int" = some (.type "int") := by kernel_rfl
theorem bo_bool : bootBuiltins "bool" = some (.type "bool") := by kernel_rfl
theorem bo_str : bootBuiltins "str" = some (.type "str") := by kernel_rfl
theorem bo_tuple : bootBuiltins "tuple" = some (.type "tuple") := by kernel_rfl
theorem bo_list : bootBuiltins "list" = some (.type "list") := by kernel_rfl
theorem bo_dict : bootBuiltins "dict" = some (.type "dict") := by kernel_rfl
theorem bo_set : bootBuiltins "set" = some (.type "set") := by kernel_rfl
theorem bo_range : bootBuiltins "range" = some (.type "range") := by kernel_rfl
theorem bo_enumerate : bootBuiltins "enumerate" = some (.type "enumerate") := by kernel_rfl
theorem bo_zip : bootBuiltins "zip" = some (.type "zip") := by kernel_rfl
theorem bo_type : bootBuiltins "type" = some (.type "type") := by kernel_rfl
theorem Cok.hu64 {X : Cx} {W : WX} {k : Nat} (c : Cok X W k) : X.A.units + 64 < cLine := by have := c.room.un; omega
theorem Cok.hd {X : Cx} {W : WX} {k : Nat} (c : Cok X W k) : X.A.handled = none := c.room.hd
section
variable {P : Program} {w : World} {K : PySem.W.Frag} {mg : Str → Option Value} {base : Heap}
/-- a def, with defaults or without -/
theorem fun_dD {x qual : Str} {params : Arguments} {body : List Stmt} {scope : Scope} {dvs : List V} {kws : List (Str × V)} {f : Addr} {fd : FuncData} {N ps : List Str} {k np n : Nat} {m : MS} {g : List D → Sto → R D} (F : FunD K x qual params body scope dvs kws f fd) (S : FnScope N ps scope)
    (hnp : ps.length = np) (hn : N.length - np = n) (hg : g = fnRun n m)
    (hb : ∀ (cdv : Value) (A : Around) (outer : List Env) (s : Shared) (H : Hp) (E : XK), Cok (cxOf (L2.CX P w) P w K mg base N qual scope f cdv A outer s H E) (WD E) k →
      ∃ t, PDB (cxOf (L2.CX P w) P w K mg base N qual scope f cdv A outer s H E) (WD E) body t m) :
    FnG P w K mg base (k + 1) f fd ps (spD K np g) := by
  subst hg hn
  obtain ⟨oc, od, dV, kV, doc, pm, an, cdv, ct, osl, rfl, lk, hcd, _, _⟩ := F.ex
  subst hnp
  refine fnG_of lk hcd S (fun vs H Q E h => h.1) fun A outer s H vs Q E hr gd h => ?_
  obtain ⟨hl, o, sto, ds, hs, rl, hw⟩ := h
  obtain ⟨t, B⟩ := hb cdv A outer s H E ⟨takes_of rfl rfl rfl rfl, passes_of rfl, rfl, S.nd, hr, gd⟩
  refine ⟨t, B.pe, ?_⟩
  refine B.rt (ds.map some ++ List.replicate (N.length - ps.length) none) (L2.start N vs) o sto H _ (envR_start rl (by rw [hl])) hs ((Wp.bindN hw).imp (fun _ _ _ z => z) fun fl st1 o1 H1 s1 hs1 h => ?_)
  cases fl with
  | nx r => exact fun sg he => Wp.ok hs1 h .non .non
  | rt d => exact fun v rv => Wp.ok hs1 h v rv
  | xc e r => exact fun sg d he hd => Wp.ok hs1 (show Wp K o1 H1 (.ok () st1) (fun _ _ _ => False) (fun _ _ o' H' => ∀ d, ExAt K o' H' e d → E e.cls d H') from h) d hd
  | bk r => exact h.elim
  | ct r => exact h.elim
end
/-- -x -/
def dNeg (x : D) (st : Sto) : R D := match x with
  | .int i => .ok (.int (-i)) st
  | _ => .bad
theorem negD {K : PySem.W.Frag} : UnD K (rU fun i => .int (-i)) dNeg := by
  intro o st H v x Q hs r h
  cases x with
  | int i => cases r; exact ⟨i, rfl, Wp.ok hs h _ (.int _)⟩
  | _ => exact h.elim
theorem noex_neg : ∀ x st e st', dNeg x st ≠ .ex e st' := by
  intro x st e st' h
  unfold dNeg at h
  split at h <;> cases h
/-! ### calls with keywords -/
def tCallKG (n m : Nat) (sp : Sp) (gV : List V → List V → List V) (E : L2.St → XK) (t tk : TA) : TE := fun sg H Q => t sg H fun vs H1 => tk sg H1 fun zs H2 => vs.length = n ∧ zs.length = m ∧ sp (gV vs zs) H2 Q (E sg)
def mCalK (n m np : Nat) (g : List D → Sto → R D) (gD : List D → List D → List D) (a b : MA) : ME := fun rho st => (a rho st).bind fun ds st1 => (b rho st1).bind fun es st2 => if ds.length = n ∧ es.length = m ∧ (gD ds es).length = np then g (gD ds es) st2 else .bad
/-- the keywords' values -/
structure PDK (X : Cx) (W : WX) (kws : List Keyword) (t : TA) (m : MA) : Prop where
  pe : PK X kws t
  rt : RtA X.K W t m
section
variable {X : Cx} {W : WX} {k j n np : Nat} {pos p : Pos} {x : Str} {f : Addr} {fd : FuncData} {ps ks : List Str} {e : Expr} {es : List Expr} {kws : List Keyword} {t tk : TA} {m mk : MA} {g : List Value → List Value → List Value} {gV : List V → List V → List V} {gD : List D → List D → List D} {gg : List D → Sto → R D}
theorem run_gk {sp : Sp} {pins : List (Addr × Obj)} {sg : L2.St} {H : Hp} {s : Shared} {Q : VK} {us ws : List Value} {vs zs : List V} (c : Cok X W k) (F : FnG X.prog X.w X.K X.mg X.base j f fd ps sp) (hj : j ≤ k) (hb : KBn X.K fd ps n ks g gV)
    (I : Inv X pins sg H s) (r : Vals vs us) (rz : Vals zs ws) (l1 : vs.length = n) (l2 : zs.length = ks.length) (h : sp (gV vs zs) H Q (WE W sg)) : wpAny (model X.prog X.w) X.A (call (.ref f) us (ks.zip ws)) (EP X pins sg Q) X.xe s :=
  run_g (args := ⟨us, ks.zip ws⟩) c F hj (hb.to _ us ws I.kIn (r.length.symm.trans l1) (rz.length.symm.trans l2)) I (hb.rel r rz) h
theorem pe_callKG {sp : Sp} (c : Cok X W k) (F : FnG X.prog X.w X.K X.mg X.base j f fd ps sp) (hj : j ≤ k) (hm : X.mg x = some (.ref f)) (hk : PySem.W.keepIn X.K (.ref f) = true) (hb : KBn X.K fd ps n ks g gV) (ha : PA X (e :: es) t) (hkw : PK X kws tk) (hg : Gl X x := by rfl)
    (hall : (backToKw pos (keywordEach kws X.env)).all (·.1.isSome) = true := by rfl) (hks : (backToKw pos (keywordEach kws X.env)).filterMap (·.1) = ks := by rfl) (hdb : (x == ("__debug__" : Str)) = false := by decide)
    (he : starEach (e :: es) X.env = (false, eval e X.env) :: starEach es X.env := by rfl) (hpl : ((backTo pos (starEach (e :: es) X.env)).any (·.1) || (backToKw pos (keywordEach kws X.env)).any (·.1.isNone)) = false := by rfl) :
    PE X (.Call (.Name x p) (e :: es) kws pos) (tCallKG n ks.length sp gV (WE W) t tk) := by
  refine ⟨fun pins s sg H Q I h => ?_⟩
  refine wpAny_Call_Name_kw (ld_glob I hg hm ?_ hdb)
  refine PySem.W.callWith_KW (h₀ := X.base) I.ok.mod.kin hk hall (thn (ha.run pos pins s sg H _ I h) fun us s1 ⟨vs, H1, I1, r, q⟩ => ?_) hpl he
  refine thn (hkw.run pos pins s1 sg H1 _ I1 q) fun ws s2 ⟨zs, H2, I2, rz, l1, l2, q2⟩ => ⟨I2.kIn, ?_⟩
  rw [hks]
  exact run_gk c F hj hb I2 r rz l1 l2 q2
theorem rt_callK {K : PySem.W.Frag} (hgD : ∀ (o : Ow) (H : Hp) (vs zs : List V) (ds es : List D), RpL K o H vs ds → RpL K o H zs es → RpL K o H (gV vs zs) (gD ds es)) {mm : Nat} (ha : RtA K W t m) (hb : RtA K W tk mk) : Rt K W (tCallKG n mm (spD K np gg) gV (WE W) t tk) (mCalK n mm np gg gD m mk) := by
  intro rho sg o st H Q he hs h
  refine ha rho sg o st H _ he hs ((Wp.bind h).imp (fun _ _ _ z => z) fun ds st1 o1 H1 s1 hs1 h => ?_)
  intro vs rl
  refine hb rho sg o1 st1 H1 _ (he.step s1.toRch) hs1 ((Wp.bind h).imp (fun _ _ _ z => z) fun es st2 o2 H2 s2 hs2 h => ?_)
  intro zs rz
  have rl2 := rl.step s2.toRch
  by_cases hl : ds.length = n ∧ es.length = mm ∧ (gD ds es).length = np
  · rw [if_pos hl] at h
    have r := hgD o2 H2 vs zs ds es rl2 rz
    exact ⟨by rw [rl2.length]; exact hl.1, by rw [rz.length]; exact hl.2.1, by rw [r.length]; exact hl.2.2, o2, st2, _, hs2, r, h⟩
  · rw [if_neg hl] at h
    exact h.elim
theorem pd_callK (c : Cok X W k) (F : FnG X.prog X.w X.K X.mg X.base j f fd ps (spD X.K np gg)) (hj : j ≤ k) (hm : X.mg x = some (.ref f)) (hk : PySem.W.keepIn X.K (.ref f) = true) (hb : KBn X.K fd ps n ks g gV) (ha : PDA X W (e :: es) t m) (hkw : PDK X W kws tk mk)
    (hgD : ∀ (o : Ow) (H : Hp) (vs zs : List V) (ds es : List D), RpL X.K o H vs ds → RpL X.K o H zs es → RpL X.K o H (gV vs zs) (gD ds es)) (hg : Gl X x := by rfl)
    (hall : (backToKw pos (keywordEach kws X.env)).all (·.1.isSome) = true := by rfl) (hks : (backToKw pos (keywordEach kws X.env)).filterMap (·.1) = ks := by rfl) (hdb : (x == ("__debug__" : Str)) = false := by decide)
    (he : starEach (e :: es) X.env = (false, eval e X.env) :: starEach es X.env := by rfl) (hpl : ((backTo pos (starEach (e :: es) X.env)).any (·.1) || (backToKw pos (keywordEach kws X.env)).any (·.1.isNone)) = false := by rfl) :
    PD X W (.Call (.Name x p) (e :: es) kws pos) (tCallKG n ks.length (spD X.K np gg) gV (WE W) t tk) (mCalK n ks.length np gg gD m mk) :=
  ⟨pe_callKG c F hj hm hk hb ha.pe hkw.pe hg hall hks hdb he hpl, rt_callK hgD ha.rt hkw.rt⟩
end
/-! ### readings that runs give -/
def teOf (K : PySem.W.Frag) (W : WX) (m : ME) : TE := fun sg H Q => ∃ (rho : En) (o : Ow) (st : Sto), EnvR K o H rho sg ∧ StR K o st H ∧ Wp K o H (m rho st) (EW K W sg) (fun d _ o' H' => ∀ v, Rp K o' H' v d → Q v H')
def ttOf (K : PySem.W.Frag) (W : WX) (m : MT) : TT := fun sg H Q => ∃ (rho : En) (o : Ow) (st : Sto), EnvR K o H rho sg ∧ StR K o st H ∧ Wp K o H (m rho st) (EW K W sg) (fun b _ o' H' => Q b H')
def gOf (K : PySem.W.Frag) (m : MG) (tgs : List Nat) : TG := fun v sg H Q => ∃ (rho : En) (o : Ow) (st : Sto) (d : D), EnvR K o H rho sg ∧ StR K o st H ∧ Rp K o H v d ∧
  Wp K o H (m d rho st) (fun _ _ _ => False) (fun r _ o' H' => ∀ sg', EnvR K o' H' r sg' → sg'.length = sg.length → (∀ j, j ∉ tgs → sg'[j]? = sg[j]?) → Q sg' H')
theorem rt_of {K : PySem.W.Frag} {W : WX} {m : ME} : Rt K W (teOf K W m) m := fun rho sg o st H Q he hs h => ⟨rho, o, st, he, hs, h⟩
theorem rtT_of {K : PySem.W.Frag} {W : WX} {m : MT} : RtT K W (ttOf K W m) m := fun rho sg o st H Q he hs h => ⟨rho, o, st, he, hs, h⟩
theorem rtJ_of {K : PySem.W.Frag} {m : MG} {tgs : List Nat} : RtJ K (gOf K m tgs) m tgs := fun rho sg o st H v d Q he hs r h => ⟨rho, o, st, d, he, hs, r, h⟩
theorem PD.canon {X : Cx} {W : WX} {e : Expr} {te : TE} {m : ME} (h : PD X W e te m) : PD X W e (teOf X.K W m) m :=
  ⟨⟨fun pins s sg H Q I ⟨rho, o, st, he, hs, hw⟩ => h.pe.run pins s sg H Q I (h.rt rho sg o st H Q he hs hw)⟩, rt_of⟩
theorem PDTs.canon {X : Cx} {ifs : List Expr} {t : TT} {m : MT} (h : PDTs X ifs t m) : PDTs X ifs (ttOf X.K W0 m) m :=
  ⟨⟨fun pins s sg H Q I ⟨rho, o, st, he, hs, hw⟩ => h.pe.run pins s sg H Q I (h.rt rho sg o st H Q he hs hw)⟩, rtT_of⟩
theorem PDJ.canon {X : Cx} {e : Expr} {t : TG} {m : MG} {tgs : List Nat} (h : PDJ X e t m tgs) : PDJ X e (gOf X.K m tgs) m tgs :=
  ⟨⟨fun pins s sg H v u Q I r ⟨rho, o, st, d, he, hs, rd, hw⟩ => h.pe.run pins s sg H v u Q I r (h.rt rho sg o st H v d Q he hs rd hw)⟩, rtJ_of⟩
theorem blk_mk {X : Cx} {W : WX} {k : Nat} {tg : Expr} {ifs : List Expr} {elt : Expr} {scope : Scope} {mg : MG} {tgs : List Nat} {mt : MT} {me : ME} (c : Cok X W k)
    (g : ∀ (s : Shared) (H : Hp) (C : Addr) (cl : List (Str × Addr)) (fp : List Addr), Cok (X.blk s H scope (compEnvC scope cl C X.env) fp) W0 k → ∃ t, PDJ (X.blk s H scope (compEnvC scope cl C X.env) fp) tg t mg tgs)
    (t : ∀ (s : Shared) (H : Hp) (C : Addr) (cl : List (Str × Addr)) (fp : List Addr), Cok (X.blk s H scope (compEnvC scope cl C X.env) fp) W0 k → ∃ t, PDTs (X.blk s H scope (compEnvC scope cl C X.env) fp) ifs t mt)
    (e : ∀ (s : Shared) (H : Hp) (C : Addr) (cl : List (Str × Addr)) (fp : List Addr), Cok (X.blk s H scope (compEnvC scope cl C X.env) fp) W0 k → ∃ t, PD (X.blk s H scope (compEnvC scope cl C X.env) fp) W0 elt t me) :
    Blk X tg ifs elt scope (gOf X.K mg tgs) mg tgs (ttOf X.K W0 mt) mt (teOf X.K W0 me) me :=
  ⟨fun s H C cl fp => let ⟨_, h⟩ := g s H C cl fp (c.blk _ _ _ _ _); h.canon, fun s H C cl fp => let ⟨_, h⟩ := t s H C cl fp (c.blk _ _ _ _ _); h.canon, fun s H C cl fp => let ⟨_, h⟩ := e s H C cl fp (c.blk _ _ _ _ _); h.canon⟩
/-! ### name = [..], one row -/
section
variable {X : Cx} {W : WX} {k : Nat} {i : Nat} {y : Str} {py : Pos} {pos spos : Pos} {elt tg iter : Expr} {ifs : List Expr} {scope : Scope} {own : List (Str × Nat)} {wi : TI} {mi : MI} {g : TG} {mg : MG} {tgs : List Nat} {tt : TT} {mt : MT} {te : TE} {me : ME}
theorem pds_setFixC (c : Cok X W k) (hsw : swapsWith (.ListComp elt [⟨tg, iter, ifs, 0⟩] scope pos) (some (.Name y py)) spos.line X.env = pure true) (hi : PDI X W tg iter wi mi) (hblk : blkC X.N X.env.scope scope own = true)
    (b : Blk X tg ifs elt scope g mg tgs tt mt te me) (hsub : ∀ j ∈ tgs, j ∈ own.map (·.2))
    (hy : X.N[i]? = some y := by rfl) (hyl : X.env.scope.names.lookup y = some .local := by rfl) (hs : ∀ x, foldedSetIterable iter X.env x = pure x := by intro _; rfl) :
    PDS X W (.Assign [.Name y py] (.ListComp elt [⟨tg, iter, ifs, 0⟩] scope pos) spos) (tAsg (tLc wi g tt te (own.map (·.2))) (gName i)) (mSet i (mFix (mLc mi mg mt me (own.map (·.2))))) :=
  pds_setLc c hsw hi hblk b hsub (rt_fix (rt_lcB hi b hsub)) hy hyl hs
theorem pds_setNewC (c : Cok X W k) (hsw : swapsWith (.ListComp elt [⟨tg, iter, ifs, 0⟩] scope pos) (some (.Name y py)) spos.line X.env = pure true) (hi : PDI X W tg iter wi mi) (hblk : blkC X.N X.env.scope scope own = true)
    (b : Blk X tg ifs elt scope g mg tgs tt mt te me) (hsub : ∀ j ∈ tgs, j ∈ own.map (·.2))
    (hy : X.N[i]? = some y := by rfl) (hyl : X.env.scope.names.lookup y = some .local := by rfl) (hs : ∀ x, foldedSetIterable iter X.env x = pure x := by intro _; rfl) :
    PDS X W (.Assign [.Name y py] (.ListComp elt [⟨tg, iter, ifs, 0⟩] scope pos) spos) (tAsg (tLc wi g tt te (own.map (·.2))) (gName i)) (mSet i (mNew (mLc mi mg mt me (own.map (·.2))))) :=
  pds_setLc c hsw hi hblk b hsub (rt_new (rt_lcB hi b hsub)) hy hyl hs
end
/-! ### the end over a head by facts -/
theorem walk_endE {l : PySem.W.OpenLaw} {n k : Nat} {q : Program} {loose : List Str} {XP : (Str → Option Value) → Heap → Prop} {YP : World → Heap → Prop} {d : DefRec} {x : Str} {g : List D → Sto → R D}
    (hn : l.most = some n) (hn2 : n ≤ sizeLine) (hdf : d.params.defaults = []) (hr : Room k callerA)
    (F : ∀ (w : World) (mg : Str → Option Value) (fa : Addr) (h : Heap), YP w h → h.Ns mainGlobals mg → mg d.name = some (.ref fa) →
      ∃ (K : PySem.W.Frag) (fd : FuncData), K.In h ∧ (∀ (s : Shared) (u : Value), BindsTo s fd ⟨[u], []⟩ [(x, u)]) ∧ ∀ base : Heap, K.In base → base.Ns mainGlobals mg → FnG l.prog w K mg base k fa fd [x] (spD K 1 g))
    (hrun : ∀ ns : List Int, ns.length ≤ n → (∀ z ∈ ns, Builtin.Int.intBits z ≤ 1048576) → ∃ st', g [.lst (ns.map D.int)] [] = .ok (.bl true) st') :
    PySem.W.WalkO q loose XP YP l.row.toRowW d [] (fun f vs => PySem.call f vs) := by
  refine Att.attach_callB hn hdf fun w s₀ s₁ mg mb fa o pm cd doc a vs ns G Y ho hd hcd hmg hobj hints hlen hbits hg => ?_
  obtain ⟨K, fd, KX, hb, hF⟩ := F w mg fa _ Y G.T.g hmg
  obtain ⟨st', e⟩ := hrun ns hlen hbits
  exact law_end KX G.T.g G.T.b G.T.builtins G.T.nolimit hg hobj hints (Nat.le_trans hlen hn2) hr hF hb e
/-! ### {} -/
theorem StR.newCell {K : PySem.W.Frag} {o : Ow} {H : Hp} {st : Sto} {p : Addr} {u : HO} {c : C} (h : StR K o st H) (hp : H p = none) (hc : CR K (o.add p) (upd H p u) p c) : StR K (o.add p) (st ++ [c]) (upd H p u) :=
  (h.rsv (u := u) hp).toCell hc
theorem step_add {o : Ow} {H : Hp} {p : Addr} {u : HO} (hp : H p = none) : Step o H (o.add p) (upd H p u) :=
  .mk' ⟨[p], rfl, fun a ha => by
    have e : a = p := by simpa using ha
    rw [e]; exact hp⟩ rfl (fun a w h _ => by rw [upd_ne (ne_of_none h hp)]; exact h) (fun a h => stay_upd a h)
theorem rt_dct {K : PySem.W.Frag} {W : WX} {u : HO} (hu : ∀ (o : Ow) (H : Hp) (p : Addr), H p = some u → CR K o H p (.dct [])) : Rt K W (fun _ H Q => ∀ p, H p = none → Q (.ref p) (upd H p u)) mDct := by
  intro rho sg o st H Q he hs h p hp
  have h' : ∀ o' H', Step o H o' H' → StR K o' (st ++ [.dct []]) H' → ∀ v, Rp K o' H' v (.ref st.length) → Q v H' := h
  refine h' (o.add p) _ (step_add hp) (hs.newCell hp (hu _ _ _ upd_same)) _ (.ref ?_)
  show (o.ph ++ [p])[st.length]? = some p
  rw [← hs.len, List.getElem?_concat_length]
theorem pd_dctK {X : Cx} {W : WX} {pos : Pos} : PD X W (.Dict [] [] pos) tDNewK mDct := ⟨pe_dnewK, rt_dct fun o H p e => .dK e .nil⟩
theorem pd_dctT {X : Cx} {W : WX} {pos : Pos} : PD X W (.Dict [] [] pos) tDNewT mDct := ⟨pe_dnewT, rt_dct fun o H p e => .dT e .nil⟩
/-! ### len(set(xs)) of ints -/
def distI (ns : List Int) : List Int := firstMet (fun i => ns.getD i 0) ns.length
def tLenS (K : PySem.W.Frag) (ta : TE) : TE := fun sg H Q => ta sg H fun x H1 => ∃ (l : Addr) (ns : List Int), x = .ref l ∧ SqL K H1 l (ns.map V.int) ∧ ns.length ≤ 4000 ∧ Q (.int (distI ns).length) H1
def mLenS (a : ME) : ME := fun rho st => (a rho st).bind fun x st1 => match lstOf st1 x with
  | some ds => match intsOf ds with
    | some ns => if ns.length ≤ 4000 then .ok (.int (distI ns).length) st1 else .bad
    | none => .bad
  | none => .bad
theorem pd_lenS {X : Cx} {W : WX} {k : Nat} {a : Expr} {ta : TE} {ma : ME} {p p2 q pos : Pos} (c : Cok X W k) (hm : X.mg "len" = none) (hm2 : X.mg "set" = none) (ha : PD X W a ta ma) (hg : Gl X "len" := by rfl) (hg2 : Gl X "set" := by rfl)
    (na : starEach [a] X.env = (false, eval a X.env) :: starEach [] X.env := by rfl) : PD X W (.Call (.Name "len" p) [.Call (.Name "set" p2) [a] [] q] [] pos) (tLenS X.K ta) (mLenS ma) := by
  refine ⟨⟨fun pins s sg H Q I h => ?_⟩, fun rho sg o st H Q he hs h => ?_⟩
  · refine Call_ (ld_blt I hg hm boot_len ?_)
    refine PyProof.Rows.callWith_builtin1 (PyProof.Rows.args_cons ?_ rfl) rfl rfl
    refine Call_ (ld_blt I hg2 hm2 boot_set ?_)
    refine PyProof.Rows.callWith_type1 (PyProof.Rows.args_cons (thn (ha.pe.run pins s sg H _ I h) fun v s1 ⟨x, H1, I1, r1, q1⟩ => PyProof.Rows.args_nil ?_) na) na rfl
    obtain ⟨l, ns, rfl, hq, hl, q1⟩ := q1
    cases r1
    obtain ⟨its, r, pl, hz⟩ := I1.list hq
    have hlen : its.toArray.size = ns.length := by rw [List.size_toArray, ← r.length, List.length_map]
    refine call_set_list (I1.ok.hd c.calm) pl.isList (by simpa using RZ.intsAre_vals r) (by rw [hlen]; unfold scanBound; omega) fun h' tk hS hk => ?_
    refine PyProof.Rows.args_nil ?_
    rw [hlen] at hS
    obtain ⟨ob, es, ep, t, ho, hex, hd, _, _, _, hf, hn⟩ := hS
    have hn' : es.size = (distI ns).length := hn
    have hle : (distI ns).length ≤ ns.length := firstMet_length_le _ _
    have I2 : Inv X pins sg H1 { s1 with heap := h', toks := tk } := I1.kept fun b o e => hk b o (Heap.lt_size e) e
    exact call_len_set ho hex hd hf (by rw [hn'] <;> omega) ⟨.int (distI ns).length, H1, I2.tok _, ⟨_, by rw [hn']⟩, q1⟩
  · refine ha.rt rho sg o st H _ he hs ((Wp.bind h).imp (fun _ _ _ z => z) fun d st1 o1 H1 s1 hs1 h => ?_)
    intro v rv
    split at h
    · rename_i ds e
      split at h
      · rename_i ns e2
        split at h
        · rename_i hz
          obtain ⟨a, us, rfl, q, rs⟩ := rv.lstOf hs1 e
          rw [ints_rp rs e2] at q
          exact ⟨a, ns, rfl, q, hz, Wp.ok hs1 h _ (.int _)⟩
        · exact h.elim
      · exact h.elim
    · exact h.elim
end DL

set_option Elab.async false
set_option linter.all false
set_option maxRecDepth 100000
set_option maxHeartbeats 4000000
/-! DSet: sorted(set(xs)) of ints, sorted(xs) of ints. -/
namespace DL
open PySem PySem.Spec PyProof.Rows L2

/-! ### sorted, each once -/
def insI (a : Int) : List Int → List Int
  | [] => [a]
  | b :: l => if a < b then a :: b :: l else if a = b then b :: l else b :: insI a l
def sortS (ns : List Int) : List Int := ns.foldr insI []
theorem mem_insI {a k : Int} : ∀ {l : List Int}, k ∈ insI a l ↔ k = a ∨ k ∈ l
  | [] => by simp [insI]
  | b :: l => by
    unfold insI
    split
    · simp
    · split
      · rename_i h; subst h; simp
      · rw [List.mem_cons, mem_insI (l := l), List.mem_cons]
        constructor
        · rintro (h | h | h)
          · exact .inr (.inl h)
          · exact .inl h
          · exact .inr (.inr h)
        · rintro (h | h | h)
          · exact .inr (.inl h)
          · exact .inl h
          · exact .inr (.inr h)
theorem ord_insI {a : Int} : ∀ {l : List Int}, l.Pairwise (· < ·) → (insI a l).Pairwise (· < ·)
  | [], _ => by simp [insI]
  | b :: l, h => by
    have h1 := List.pairwise_cons.mp h
    unfold insI
    split
    · rename_i hab
      refine List.pairwise_cons.mpr ⟨fun x hx => ?_, h⟩
      rcases List.mem_cons.mp hx with z | z
      · rw [z]; exact hab
      · exact Int.lt_trans hab (h1.1 x z)
    · split
      · exact h
      · refine List.pairwise_cons.mpr ⟨fun x hx => ?_, ord_insI h1.2⟩
        rcases mem_insI.mp hx with z | z
        · rw [z]; omega
        · exact h1.1 x z
theorem mem_sortS {k : Int} : ∀ {ns : List Int}, k ∈ sortS ns ↔ k ∈ ns
  | [] => Iff.rfl
  | n :: ns => by
    show k ∈ insI n (sortS ns) ↔ _
    rw [mem_insI, mem_sortS (ns := ns), List.mem_cons]
theorem ord_sortS : ∀ ns : List Int, (sortS ns).Pairwise (· < ·)
  | [] => List.Pairwise.nil
  | n :: ns => ord_insI (ord_sortS ns)
theorem ord_eq : ∀ {l m : List Int}, l.Pairwise (· < ·) → m.Pairwise (· < ·) → (∀ k, k ∈ l ↔ k ∈ m) → l = m
  | [], [], _, _, _ => rfl
  | [], b :: m, _, _, h => absurd ((h b).mpr List.mem_cons_self) (by simp)
  | a :: l, [], _, _, h => absurd ((h a).mp List.mem_cons_self) (by simp)
  | a :: l, b :: m, h1, h2, h => by
    have p1 := List.pairwise_cons.mp h1
    have p2 := List.pairwise_cons.mp h2
    have e : a = b := by
      rcases List.mem_cons.mp ((h a).mp List.mem_cons_self) with z | z
      · exact z
      · rcases List.mem_cons.mp ((h b).mpr List.mem_cons_self) with y | y
        · exact y.symm
        · have := p1.1 b y
          have := p2.1 a z
          omega
    subst e
    rw [ord_eq p1.2 p2.2 fun k => ⟨fun q => ?_, fun q => ?_⟩]
    · rcases List.mem_cons.mp ((h k).mp (List.mem_cons_of_mem _ q)) with z | z
      · have := p1.1 k q
        omega
      · exact z
    · rcases List.mem_cons.mp ((h k).mpr (List.mem_cons_of_mem _ q)) with z | z
      · have := p2.1 k q
        omega
      · exact z
theorem len_nodup {l m : List Int} (h1 : l.Nodup) (h2 : m.Nodup) (h : ∀ k, k ∈ l ↔ k ∈ m) : l.length = m.length := ((List.perm_ext_iff_of_nodup h1 h2).mpr h).length_eq
theorem ord_nodup {l : List Int} (h : l.Pairwise (· < ·)) : l.Nodup := h.imp fun z => Int.ne_of_lt z
/-! ### set(xs), as a set that may be sorted -/
section
variable {P : Program} {w : World} {A : Around} {E : Value → Shared → Prop} {s : Shared}
set_option maxHeartbeats 3200000 in
theorem set_of_list {l : Addr} {items : Array Value} (ns : List Int) {Q : Value → Shared → Prop} (hh : A.handled = none) (hl : s.heap.IsList l items) (hit : IntsAre items.toList ns) (room : ns.length + 1 < scanBound)
    (fin : ∀ (h' : Heap) (tk c : Nat), SetR w h' s.heap.objs.size (fun j => decide (j ∈ ns)) c → (∀ b o, s.heap.get? b = some o → h'.get? b = some o) → Q (.ref s.heap.objs.size) { s with heap := h', toks := tk }) :
    wpAny (model P w) A (call (.type "set") [.ref l]) Q E s := by
  have sz : items.size = ns.length := by
    have q := IntsAre.length hit
    rw [Array.length_toList] at q
    exact q
  obtain ⟨c, tl, mro⟩ := F.called_set.mro
  have made := F.called_set.made
  have sub := F.called_set.sub
  refine wpAny_call (codeAny_of_tree ?_)
  show wpAny _ _ (callAny (.type "set") _) _ _ _
  refine wpAny_pure ⟨Code.quiet_builtin _ (by decide +kernel), codeAny_builtin F.entry_type_call ?_⟩
  rw [Around.under_plain (weight_type_call_type "set" [.ref l] []) rfl]
  have t1 := F.called_set.notType
  have t2 := F.called_set.canCreate
  have t3 := F.typeCall_set_1 (.ref l)
  repeat (any_goals (first | assumption | wp_step))
  let so : Obj := { cls := .type "set", dict := none, data := .set #[] 0 (.fresh 0 0 (!w.params.followText "set-order")) }
  refine codeAny_mono (code_set_led1 (.ref l) (E := E) (Q₁ := fun obj s₁ => obj = .ref s.heap.objs.size ∧ s₁ = { s with heap := s.heap.push so }) ⟨rfl, rfl⟩) fun r s₁ hr => ?_
  cases r with
  | error e => exact hr
  | ok fl =>
    cases fl with
    | ret obj =>
      obtain ⟨rfl, rfl⟩ := hr
      have hS : (s.heap.push so).get? s.heap.objs.size = some so := Heap.get?_push_size _ rfl
      have hT : Shared.TypeIs { s with heap := s.heap.push so } (.ref s.heap.objs.size) "set" := ⟨_, hS, rfl⟩
      have i1 := F.called_set.init.lookup
      have i2 := F.called_set.init.bind (.ref s.heap.objs.size)
      repeat (any_goals (first | assumption | wp_step))
      refine codeAny_mono (codeAny_call_builtin (R := wants (fun r s₂ => r = .none ∧ ∃ h' tk c, s₂ = { s with heap := h', toks := tk } ∧ SetR w h' s.heap.objs.size (fun j => decide (j ∈ ns)) c ∧
          (∀ b o, s.heap.get? b = some o → h'.get? b = some o)) E) F.called_set.init.plain F.entry_set_init (check_set_init_1 hT ?_)) fun r₂ s₂ hr₂ => ?_
      · obtain ⟨ol, hol, hcl, nl, hdl⟩ := hl
        obtain ⟨ocls, odict, odata, oslots⟩ := ol
        simp only at hcl hdl
        subst hcl; subst hdl
        have at2 : (s.heap.push so).get? l = some { cls := .type "list", dict := odict, data := .seq items nl, slots := oslots } := Heap.get?_push_of_some _ hol
        have n1 := F.sub_list_set
        have n2 := F.sub_list_frozenset
        have n3 : (Value.type "list" == Value.type "dict") = false := by decide
        have lst1 : (s.heap.push so).IsList l items := ⟨_, at2, rfl, nl, rfl⟩
        unfold Builtin.«set.__init__» noKeywords Builtin.Frozenset.updateFrom
        generalize hPI : pyIter = PI
        wp_walk
        subst hPI
        refine wpAny_pyIter_list lst1 ?_
        refine wpAny_bind (wpAny_runValue ?_)
        have lS : l < s.heap.objs.size := Heap.lt_size hol
        have hh3 : A.in1.in1.in1.handled = none := by simp [hh]
        have neI : l ≠ (s.heap.push so).objs.size := by
          rw [Heap.size_push]
          exact Nat.ne_of_lt (Nat.lt_succ_of_lt lS)
        have notIn : s.heap.objs.size ∉ [(s.heap.push so).objs.size, l] := by
          rw [Heap.size_push]
          simp only [List.mem_cons, List.not_mem_nil, or_false, not_or]
          exact And.intro (Nat.ne_of_lt (Nat.lt_succ_self _)) (Nat.ne_of_gt lS)
        have val : ∀ (i : Nat) (v : Value), items[i]? = some v → ∃ k t, ns[i]? = some k ∧ v = .int k t := fun i v hv => by
          have hi : i < ns.length := by rw [← sz]; exact (Array.getElem?_eq_some_iff.mp hv).1
          obtain ⟨t, e⟩ := PyProof.Rows.IntsAre.int_at hit i v (by rw [Array.getElem?_toList]; exact hv)
          refine ⟨ns[i], t, List.getElem?_eq_getElem hi, ?_⟩
          rw [e, List.getD_eq_getElem?_getD, List.getElem?_eq_getElem hi] <;> rfl
        refine set_update_ints ((Walks.list hh3 _ l neI items).toS) s.heap.objs.size notIn ns sz room val (items.size - 0) 0 _ (by omega) (Nat.zero_le _)
          ⟨⟨_, Heap.get?_push_size _ rfl, rfl, rfl⟩, (lst1.push _)⟩ ?hS0 ?hR
        case hS0 =>
          have g0 : ((s.heap.push so).push { cls := .type "list_iterator", data := .fields #[.ref l, .int 0 0] }).get? s.heap.objs.size = some so := Heap.get?_push_of_some _ hS
          exact ⟨0, Nat.le_refl 0, setR_new_at g0⟩
        case hR =>
          intro s' c' hm hc' hS'
          obtain ⟨h', g2, d', tk', os'⟩ := s'
          have eg : g2 = s.gens := hm.gens
          have ed : d' = s.drawn := hm.drawn
          have eo : os' = s.os := hm.os
          subst eg; subst ed; subst eo
          show wpAny _ _ _ _ _ _
          refine wpAny_pure ?_
          show wpAny _ _ (ret Value.none) _ _ _
          refine wpAny_pure ⟨rfl, h', tk', c', rfl, hS', fun b o e => ?_⟩
          have hb0 : b < s.heap.objs.size := Heap.lt_size e
          refine hm.heap b o ?_ (Heap.get?_push_of_some _ (Heap.get?_push_of_some _ e))
          rw [Heap.size_push]
          simp only [List.mem_cons, List.not_mem_nil, or_false, not_or]
          exact And.intro (Nat.ne_of_lt hb0) (Nat.ne_of_lt (Nat.lt_succ_of_lt hb0))
      · cases r₂ with
        | error e => exact hr₂
        | ok fl₂ =>
          cases fl₂ with
          | ret r =>
            obtain ⟨rfl, h', tk, c', rfl, hS', hk'⟩ := hr₂
            repeat (any_goals (first | assumption | wp_step))
            exact fin _ _ _ hS' hk'
          | _ => exact hr₂.elim
    | _ => exact hr.elim
end
theorem setR_size {w : World} {h : Heap} {a : Addr} {ns : List Int} {c : Nat} (R : SetR w h a (fun j => decide (j ∈ ns)) c) : c = (sortS ns).length := by
  obtain ⟨o, es, ep, t, ho, hex, hd, g, nd, hm, hb, hf, hn, hr, hl⟩ := R
  rw [← hn, ← Array.length_toList, ← List.length_map (f := keyOf)]
  refine len_nodup nd (ord_nodup (ord_sortS ns)) fun k => ?_
  rw [← hm k, mem_sortS, decide_eq_true_eq]
/-- set(xs) -/
def rSetL (K : PySem.W.Frag) (w : World) : List V → Hp → VK → Prop := fun xs H Q => ∃ (a : Addr) (ns : List Int), xs = [.ref a] ∧ SqL K H a (ns.map V.int) ∧ ns.length ≤ 4000 ∧ ∀ p, H p = none → Q (.ref p) (upd H p (SetO w p (fun j => decide (j ∈ ns)) (sortS ns).length))
theorem call_setL {X : Cx} (hc : X.calm = true) : CallR X (.type "set") (rSetL X.K X.w) := by
  intro pins s sg H xs us Q I r h
  obtain ⟨a, ns, rfl, hq, hl, q⟩ := h
  obtain ⟨u, rfl, ru⟩ := vals1 r
  cases ru
  obtain ⟨its, rv, pl, hz⟩ := I.list hq
  have hlen : its.toArray.size = ns.length := by rw [List.size_toArray, ← rv.length, List.length_map]
  refine set_of_list ns (I.ok.hd hc) pl.isList (by simpa using RZ.intsAre_vals rv) (by unfold scanBound; omega) fun h' tk c R k => ?_
  have hn : H s.heap.objs.size = none := I.hok.fresh (Nat.le_refl _)
  rw [setR_size R] at R
  exact ⟨.ref _, upd H s.heap.objs.size (SetO X.w s.heap.objs.size (fun j => decide (j ∈ ns)) (sortS ns).length), I.laid (t' := tk) k (Nat.le_refl _) (setO_new R), rfl, q _ hn⟩
/-- sorted(set(xs)) -/
def tSortS (K : PySem.W.Frag) (w : World) (ta : TE) : TE := tCB (rSortedSet w) (tCons (tCB (rSetL K w) (tCons ta tNil)) tNil)
def mSortS (a : ME) : MA := fun rho st => (a rho st).bind fun x st1 => match lstOf st1 x with
  | some ds => match intsOf ds with
    | some ns => if ns.length ≤ 4000 ∧ (sortS ns).length < 64 then .ok ((sortS ns).map D.int) st1 else .bad
    | none => .bad
  | none => .bad
theorem rp_ints {K : PySem.W.Frag} {o : Ow} {H : Hp} (l : List Int) : RpL K o H (l.map V.int) (l.map D.int) := by
  induction l with
  | nil => exact .nil
  | cons i r ih => exact .cons (.int i) ih
theorem pdf_sortedS {X : Cx} {W : WX} {k : Nat} {a : Expr} {ta : TE} {ma : ME} {p p2 q pos : Pos} (c : Cok X W k) (hm : X.mg "sorted" = none) (hm2 : X.mg "set" = none) (ha : PD X W a ta ma) (hg : Gl X "sorted" := by rfl) (hg2 : Gl X "set" := by rfl)
    (na : starEach [a] X.env = (false, eval a X.env) :: starEach [] X.env := by rfl) (na2 : starEach [.Call (.Name "set" p2) [a] [] q] X.env = (false, eval (.Call (.Name "set" p2) [a] [] q) X.env) :: starEach [] X.env := by rfl)
    (hp1 : (backTo q (starEach [] X.env)).any (·.1) = false := by rfl) (hp2 : (backTo pos (starEach [] X.env)).any (·.1) = false := by rfl) :
    PDF X W (.Call (.Name "sorted" p) [.Call (.Name "set" p2) [a] [] q] [] pos) (tSortS X.K X.w ta) (mSortS ma) := by
  refine ⟨pe_callB (cr_sortedSet c.calm) hg hm bo_sorted (pa_cons (pe_callTy (call_setL c.calm) hg2 hm2 bo_set (pa_cons ha.pe pa_nil na) (by decide) (by decide) na hp1) pa_nil na2) (by decide) (by decide) na2 hp2, fun rho sg o st H Q he hs hw => ?_⟩
  refine ha.rt rho sg o st H _ he hs ((wpf_bind hw).imp (fun _ _ _ z => z) fun d st1 o1 H1 s1 hs1 h => ?_)
  intro v rv
  obtain ⟨_, _, h⟩ := h
  cases e1 : lstOf st1 d with
  | none => rw [e1] at h; exact h.elim
  | some ds =>
    cases e2 : intsOf ds with
    | none => simp only [e1, e2] at h
    | some ns =>
      simp only [e1, e2] at h
      by_cases hz : ns.length ≤ 4000 ∧ (sortS ns).length < 64
      · simp only [if_pos hz] at h
        obtain ⟨a', us, rfl, q', rs⟩ := rv.lstOf hs1 e1
        rw [ints_rp rs e2] at q'
        refine ⟨a', ns, rfl, q', hz.1, fun l hl => ?_⟩
        refine ⟨l, _, _, rfl, upd_same, hz.2, fun ns' p' hpw hmem hlen hp' => ?_⟩
        have e3 : ns' = sortS ns := ord_eq hpw (ord_sortS ns) fun k => by rw [hmem k, decide_eq_true_eq, mem_sortS]
        subst e3
        have s2 : Step o1 H1 o1 (upd H1 l (SetO X.w l (fun j => decide (j ∈ ns)) (sortS ns).length)) := step_new hl
        exact end_new s2 (hs1.new hl) (rp_ints _) h p' hp'
      · simp only [if_neg hz] at h
/-- sorted(xs) of ints -/
def mSort (a : ME) : MA := fun rho st => (a rho st).bind fun x st1 => match lstOf st1 x with
  | some ds => match intsOf ds with
    | some ns => .ok ((ns.mergeSort (fun a b => decide (a ≤ b))).map D.int) st1
    | none => .bad
  | none => .bad
theorem pdf_sorted {X : Cx} {W : WX} {k : Nat} {a : Expr} {ta : TE} {ma : ME} {p pos : Pos} (hm : X.mg "sorted" = none) (ha : PD X W a ta ma) (hg : Gl X "sorted" := by rfl)
    (na : starEach [a] X.env = (false, eval a X.env) :: starEach [] X.env := by rfl) (hp2 : (backTo pos (starEach [] X.env)).any (·.1) = false := by rfl) :
    PDF X W (.Call (.Name "sorted" p) [a] [] pos) (tCB (rSortedI X.K) (tCons ta tNil)) (mSort ma) := by
  refine ⟨pe_callB cr_sortedI hg hm bo_sorted (pa_cons ha.pe pa_nil na) (by decide) (by decide) na hp2, fun rho sg o st H Q he hs hw => ?_⟩
  refine ha.rt rho sg o st H _ he hs ((wpf_bind hw).imp (fun _ _ _ z => z) fun d st1 o1 H1 s1 hs1 h => ?_)
  intro v rv
  obtain ⟨_, _, h⟩ := h
  cases e1 : lstOf st1 d with
  | none => rw [e1] at h; exact h.elim
  | some ds =>
    cases e2 : intsOf ds with
    | none => simp only [e1, e2] at h
    | some ns =>
      simp only [e1, e2] at h
      obtain ⟨a', us, rfl, q', rs⟩ := rv.lstOf hs1 e1
      rw [ints_rp rs e2] at q'
      refine ⟨a', ns, rfl, q', fun ns' p' hperm hpw hp' => ?_⟩
      have e3 : ns' = ns.mergeSort (fun a b => decide (a ≤ b)) := by
        refine List.Perm.eq_of_pairwise (le := fun a b : Int => a ≤ b) (fun a b _ _ h1 h2 => Int.le_antisymm h1 h2) hpw ?_ (hperm.trans (List.mergeSort_perm ns _).symm)
        have := List.pairwise_mergeSort (le := fun a b : Int => decide (a ≤ b)) (fun a b c h1 h2 => by simp only [decide_eq_true_eq] at *; omega) (fun a b => by simp only [Bool.or_eq_true, decide_eq_true_eq]; omega) ns
        exact this.imp fun z => by simpa using z
      subst e3
      exact end_new (.refl _ _) hs1 (rp_ints _) h p' hp'
end DL

set_option Elab.async false
set_option linter.all false
set_option maxRecDepth 100000
set_option maxHeartbeats 2000000
/-! DKw: calls that leave a keyword-only argument out, or give it. -/
namespace DL
open PySem PySem.Spec PyProof.Rows L2
section
variable {X : Cx} {W : WX} {k j np : Nat} {pos p kpos : Pos} {x : Str} {nm : Option Str} {f : Addr} {fd : FuncData} {ps : List Str} {e : Expr} {es : List Expr} {te : TE} {me : ME} {t : TA} {m : MA} {g : List D → Sto → R D}
theorem pdk_one (h : PD X W e te me) : PDK X W [⟨nm, e, kpos⟩] (tCons te tNil) (mCons me mNil) := by
  refine ⟨pk_cons h.pe pk_nil, fun rho sg o st H Q he hs hw => ?_⟩
  refine h.rt rho sg o st H _ he hs ((Wp.bind hw).imp (fun _ _ _ z => z) fun d st1 o1 H1 s1 hs1 h => ?_)
  intro v rv
  exact Wp.ok hs1 h [v] (.cons rv .nil)
def tCallSd (sp : Sp) (dv : List V) (E : L2.St → XK) (t : TA) : TE := fun sg H Q => t sg H fun vs H1 => sp (vs ++ dv) H1 Q (E sg)
def mCalDf (np : Nat) (g : List D → Sto → R D) (dd : List D) (a : MA) : ME := fun rho st => (a rho st).bind fun ds st => if (ds ++ dd).length = np then g (ds ++ dd) st else .bad
theorem pe_callGd {sp : Sp} {dv : List V} (c : Cok X W k) (F : FnG X.prog X.w X.K X.mg X.base j f fd ps sp) (hj : j ≤ k) (hm : X.mg x = some (.ref f)) (hk : PySem.W.keepIn X.K (.ref f) = true) (hb : ∃ ds, Vals dv ds ∧ L2.Binds X.K fd ps ds)
    (ha : PA X (e :: es) t) (hg : Gl X x) (hdb : (x == ("__debug__" : Str)) = false) (he : starEach (e :: es) X.env = (false, eval e X.env) :: starEach es X.env) (hpl : (backTo pos (starEach es X.env)).any (·.1) = false) :
    PE X (.Call (.Name x p) (e :: es) [] pos) (tCallSd sp dv (WE W) t) := by
  obtain ⟨ds, rd, hb⟩ := hb
  refine ⟨fun pins s sg H Q I h => wpAny_Call_Name_kw (ld_glob I hg hm ?_ hdb)⟩
  refine PySem.W.callWith_K (h₀ := X.base) I.ok.mod.kin hk (thn (ha.run pos pins s sg H _ I h) fun us s1 ⟨vs, H1, I1, r, q⟩ => ⟨I1.kIn, ?_⟩) he hpl
  have r2 := r.append rd
  have hl : (us ++ ds).length = ps.length := by rw [← r2.length]; exact F.len _ _ _ _ q
  exact run_g c F hj (hb s1 us I1.kIn hl) I1 r2 q
theorem pd_callDf {dv : List V} {dd : List D} (c : Cok X W k) (F : FnG X.prog X.w X.K X.mg X.base j f fd ps (spD X.K np g)) (hj : j ≤ k) (hm : X.mg x = some (.ref f)) (hk : PySem.W.keepIn X.K (.ref f) = true) (hb : ∃ ds, Vals dv ds ∧ L2.Binds X.K fd ps ds)
    (ha : PDA X W (e :: es) t m) (hdd : ∀ o H, RpL X.K o H dv dd) (hg : Gl X x := by rfl) (hdb : (x == ("__debug__" : Str)) = false := by decide) (he : starEach (e :: es) X.env = (false, eval e X.env) :: starEach es X.env := by rfl) (hpl : (backTo pos (starEach es X.env)).any (·.1) = false := by rfl) :
    PD X W (.Call (.Name x p) (e :: es) [] pos) (tCallSd (spD X.K np g) dv (WE W) t) (mCalDf np g dd m) := by
  refine ⟨pe_callGd c F hj hm hk hb ha.pe hg hdb he hpl, fun rho sg o st H Q he hs h => ?_⟩
  refine ha.rt rho sg o st H _ he hs ((Wp.bind h).imp (fun _ _ _ z => z) fun ds st1 o1 H1 s1 hs1 h => ?_)
  intro vs rl
  have r2 := rl.append (hdd o1 H1)
  by_cases hl : (ds ++ dd).length = np
  · rw [if_pos hl] at h
    exact ⟨by rw [r2.length, hl], o1, st1, _, hs1, r2, h⟩
  · rw [if_neg hl] at h
    exact h.elim
theorem rpl_one {v : V} {d : D} {K : PySem.W.Frag} (h : ∀ o H, Rp K o H v d) : ∀ o H, RpL K o H [v] [d] := fun o H => .cons (h o H) .nil
end
end DL

set_option Elab.async false
set_option linter.all false
set_option maxRecDepth 100000
set_option maxHeartbeats 2000000
/-! DPure: how runs are reckoned. -/
namespace DL
open PySem PySem.Spec PyProof.Rows L2

section
variable {α β : Type} {a : α} {st : Sto} {rho : En}
@[simp] theorem bind_ok {k : α → Sto → R β} : R.bind (.ok a st) k = k a st := id rfl
@[simp] theorem bindN_ok {k : α → Sto → R β} : R.bindN (.ok a st) k = k a st := id rfl
@[simp] theorem bindS_ok {k : α → Sto → R Fl} : R.bindS (.ok a st) rho k = k a st := id rfl
@[simp] theorem bind_assoc' {γ : Type} {r : R α} {k : α → Sto → R β} {l : β → Sto → R γ} : (r.bind k).bind l = r.bind fun a st => (k a st).bind l := by cases r <;> rfl
/-- a run ends well -/
def OkR (r : R α) (P : α → Sto → Prop) : Prop := ∃ a st, r = .ok a st ∧ P a st
theorem okR_ok {P : α → Sto → Prop} (h : P a st) : OkR (.ok a st) P := ⟨a, st, rfl, h⟩
theorem okR_eq {r : R α} {P : α → Sto → Prop} (e : r = .ok a st) (h : P a st) : OkR r P := ⟨a, st, e, h⟩
theorem OkR.bind {r : R α} {P : α → Sto → Prop} {k : α → Sto → R β} {Q : β → Sto → Prop} (h : OkR r P) (hk : ∀ a st, P a st → OkR (k a st) Q) : OkR (r.bind k) Q := by
  obtain ⟨a, st, rfl, p⟩ := h
  exact hk a st p
theorem OkR.bindN {r : R α} {P : α → Sto → Prop} {k : α → Sto → R β} {Q : β → Sto → Prop} (h : OkR r P) (hk : ∀ a st, P a st → OkR (k a st) Q) : OkR (r.bindN k) Q := by
  obtain ⟨a, st, rfl, p⟩ := h
  exact hk a st p
theorem OkR.bindS {r : R α} {P : α → Sto → Prop} {k : α → Sto → R Fl} {Q : Fl → Sto → Prop} (h : OkR r P) (hk : ∀ a st, P a st → OkR (k a st) Q) : OkR (r.bindS rho k) Q := by
  obtain ⟨a, st, rfl, p⟩ := h
  exact hk a st p
theorem OkR.imp {r : R α} {P Q : α → Sto → Prop} (h : OkR r P) (hk : ∀ a st, P a st → Q a st) : OkR r Q := by
  obtain ⟨a, st, rfl, p⟩ := h
  exact ⟨a, st, rfl, hk a st p⟩
end
@[simp] theorem good_nil {st : Sto} : good [] st := fun _ h => nomatch h
theorem good_one {st : Sto} {n : Nat} {ds : List D} (h : st[n]? = some (.lst ds)) : good [(n, ds)] st := fun p hp => by
  have e : p = (n, ds) := by simpa using hp
  rw [e]; exact h
/-! ### loops -/
def FlI (P : Fl → Sto → Prop) (N : En → Sto → Prop) : Fl → Sto → Prop
  | .nx r, st => N r st
  | .ct r, st => N r st
  | .bk r, st => P (.nx r) st
  | f, st => P f st
theorem for_ok {cells : List (Nat × List D)} {g : MG} {b : MS} {P : Fl → Sto → Prop} (Inv : Nat → En → Sto → Prop) (items : List D) (hg : ∀ i rho st, Inv i rho st → good cells st)
    (hs : ∀ i d rho st, items[i]? = some d → Inv i rho st → OkR (g d rho st) fun r st1 => OkR (b r st1) (FlI P (Inv (i + 1))))
    (hd : ∀ rho st, Inv items.length rho st → P (.nx rho) st) {rho : En} {st : Sto} (h0 : Inv 0 rho st) : OkR (forLoop cells g b items rho st) P := by
  have all : ∀ (k i : Nat) (rho : En) (st : Sto), i + k = items.length → Inv i rho st → OkR (forLoop cells g b (items.drop i) rho st) P := by
    intro k
    induction k with
    | zero =>
      intro i rho st hi h
      have e : i = items.length := by omega
      subst e
      rw [List.drop_length]
      unfold forLoop
      rw [if_pos (hg _ _ _ h)]
      exact okR_ok (hd _ _ h)
    | succ k ih =>
      intro i rho st hi h
      have hlt : i < items.length := by omega
      rw [drop_at hlt]
      unfold forLoop
      rw [if_pos (hg _ _ _ h)]
      refine (hs i _ rho st (List.getElem?_eq_getElem hlt) h).bindN fun r st1 h1 => h1.bindN fun f st2 h2 => ?_
      cases f with
      | nx r => exact ih (i + 1) r st2 (by omega) h2
      | ct r => exact ih (i + 1) r st2 (by omega) h2
      | bk r => exact okR_ok h2
      | rt d => exact okR_ok h2
      | xc e r => exact okR_ok h2
  have := all items.length 0 rho st (by omega) h0
  rwa [List.drop_zero] at this
theorem lc_ok {cells : List (Nat × List D)} {g : MG} {t : MT} {e : ME} {rho : En} (Inv : Nat → List D → Sto → Prop) (items : List D) (hg : ∀ i acc st, Inv i acc st → good cells st)
    (hs : ∀ i d acc st, items[i]? = some d → Inv i acc st → OkR (g d rho st) fun r st1 => OkR (t r st1) fun b st2 => if b = true then OkR (e r st2) fun y st3 => acc.length < sizeLine ∧ Inv (i + 1) (acc ++ [y]) st3 else Inv (i + 1) acc st2)
    {st : Sto} (h0 : Inv 0 [] st) : OkR (lcLoop cells g t e rho items [] st) fun ds st' => Inv items.length ds st' := by
  have all : ∀ (k i : Nat) (acc : List D) (st : Sto), i + k = items.length → Inv i acc st → OkR (lcLoop cells g t e rho (items.drop i) acc st) fun ds st' => Inv items.length ds st' := by
    intro k
    induction k with
    | zero =>
      intro i acc st hi h
      have e : i = items.length := by omega
      subst e
      rw [List.drop_length]
      unfold lcLoop
      rw [if_pos (hg _ _ _ h)]
      exact okR_ok h
    | succ k ih =>
      intro i acc st hi h
      have hlt : i < items.length := by omega
      rw [drop_at hlt]
      unfold lcLoop
      rw [if_pos (hg _ _ _ h)]
      refine (hs i _ acc st (List.getElem?_eq_getElem hlt) h).bindN fun r st1 h1 => h1.bindN fun b st2 h2 => ?_
      cases b with
      | false => rw [if_neg Bool.false_ne_true]; exact ih (i + 1) acc st2 (by omega) h2
      | true =>
        rw [if_pos rfl]
        refine OkR.bindN h2 fun y st3 h3 => ?_
        rw [if_pos h3.1]
        exact ih (i + 1) _ st3 (by omega) h3.2
  have := all items.length 0 [] st (by omega) h0
  rwa [List.drop_zero] at this
/-- a comprehension that changes nothing -/
theorem lc_filter {cells : List (Nat × List D)} {g : MG} {t : MT} {e : ME} {rho : En} {st : Sto} (p : D → Bool) (f : D → D) (items : List D) (hl : items.length ≤ sizeLine) (hg : good cells st)
    (hs : ∀ d ∈ items, ∃ r, g d rho st = .ok r st ∧ t r st = .ok (p d) st ∧ (p d = true → e r st = .ok (f d) st)) : lcLoop cells g t e rho items [] st = .ok ((items.filter p).map f) st := by
  have all : ∀ (l : List D) (acc : List D), (∀ d ∈ l, d ∈ items) → acc.length + l.length ≤ sizeLine → lcLoop cells g t e rho l acc st = .ok (acc ++ (l.filter p).map f) st := by
    intro l
    induction l with
    | nil =>
      intro acc _ _
      unfold lcLoop
      rw [if_pos hg]
      simp
    | cons d l ih =>
      intro acc hm hz
      obtain ⟨r, h1, h2, h3⟩ := hs d (hm d List.mem_cons_self)
      unfold lcLoop
      rw [if_pos hg, h1, bindN_ok, h2, bindN_ok]
      rw [List.length_cons] at hz
      cases q : p d with
      | false =>
        rw [if_neg Bool.false_ne_true, ih acc (fun x hx => hm x (List.mem_cons_of_mem _ hx)) (by omega), List.filter_cons, q]
        rfl
      | true =>
        rw [if_pos rfl, h3 q, bindN_ok, if_pos (by omega), ih _ (fun x hx => hm x (List.mem_cons_of_mem _ hx)) (by rw [List.length_append, List.length_singleton]; omega), List.filter_cons, q]
        simp
  have := all items [] (fun _ h => h) (by simpa using hl)
  simpa using this
theorem lc_map {cells : List (Nat × List D)} {g : MG} {t : MT} {e : ME} {rho : En} {st : Sto} (f : D → D) (items : List D) (hl : items.length ≤ sizeLine) (hg : good cells st)
    (hs : ∀ d ∈ items, ∃ r, g d rho st = .ok r st ∧ t r st = .ok true st ∧ e r st = .ok (f d) st) : lcLoop cells g t e rho items [] st = .ok (items.map f) st := by
  rw [lc_filter (fun _ => true) f items hl hg fun d hd => ?_]
  · rw [List.filter_eq_self.mpr fun _ _ => rfl]
  · obtain ⟨r, h1, h2, h3⟩ := hs d hd
    exact ⟨r, h1, h2, fun _ => h3⟩
/-! ### kinds -/
def isInt : D → Bool
  | .int _ => true
  | .bl _ => true
  | _ => false
def isBl : D → Bool
  | .bl _ => true
  | _ => false
def isTup : D → Bool
  | .tup _ => true
  | _ => false
def isStr : D → Bool
  | .str _ => true
  | _ => false
def kinds : List String := ["NoneType", "bool", "int", "str", "tuple", "list", "dict"]
theorem kit_int : kinds.map (fun t => kitB t "int") = [some false, some true, some true, some false, some false, some false, some false] := by decide +kernel
theorem kit_bool : kinds.map (fun t => kitB t "bool") = [some false, some true, some false, some false, some false, some false, some false] := by decide +kernel
theorem kit_tuple : kinds.map (fun t => kitB t "tuple") = [some false, some false, some false, some false, some true, some false, some false] := by decide +kernel
theorem kit_str : kinds.map (fun t => kitB t "str") = [some false, some false, some false, some true, some false, some false, some false] := by decide +kernel
theorem kit_list : kinds.map (fun t => kitB t "list") = [some false, some false, some false, some false, some false, some true, some false] := by decide +kernel
theorem kit_dict : kinds.map (fun t => kitB t "dict") = [some false, some false, some false, some false, some false, some false, some true] := by decide +kernel
/-- its kind is known -/
def Kn (st : Sto) (d : D) : Prop := (tyOf st d).isSome = true
theorem isi_by {st : Sto} {d : D} {c : String} {f : D → Bool} {l : List (Option Bool)} (k : Kn st d) (hl : kinds.map (fun t => kitB t c) = l)
    (h : ∀ t, tyOf st d = some t → ∃ b : Bool, kitB t c = some b ∧ b = f d) : dIsi [d, .ty c] st = .ok (.bl (f d)) st := by
  unfold Kn at k
  cases e : tyOf st d with
  | none => rw [e] at k; cases k
  | some t =>
    obtain ⟨b, h1, rfl⟩ := h t e
    unfold dIsi
    simp only [e, h1]
theorem kit_get {c : String} {a1 a2 a3 a4 a5 a6 a7 : Option Bool} (h : kinds.map (fun t => kitB t c) = [a1, a2, a3, a4, a5, a6, a7]) :
    kitB "NoneType" c = a1 ∧ kitB "bool" c = a2 ∧ kitB "int" c = a3 ∧ kitB "str" c = a4 ∧ kitB "tuple" c = a5 ∧ kitB "list" c = a6 ∧ kitB "dict" c = a7 := by
  have e : [kitB "NoneType" c, kitB "bool" c, kitB "int" c, kitB "str" c, kitB "tuple" c, kitB "list" c, kitB "dict" c] = [a1, a2, a3, a4, a5, a6, a7] := h
  simp only [List.cons.injEq, and_true] at e
  exact e
theorem ty_ref {st : Sto} {n : Nat} {t : String} (h : tyOf st (.ref n) = some t) : t = "list" ∨ t = "dict" := by
  unfold tyOf at h
  dsimp only at h
  split at h
  · cases h; exact .inl rfl
  · cases h; exact .inr rfl
  · cases h
theorem isi_int {st : Sto} {d : D} (k : Kn st d) : dIsi [d, .ty "int"] st = .ok (.bl (isInt d)) st := by
  obtain ⟨h1, h2, h3, h4, h5, h6, h7⟩ := kit_get kit_int
  refine isi_by k kit_int fun t e => ?_
  cases d with
  | ref n => rcases ty_ref e with rfl | rfl <;> exact ⟨_, by assumption, rfl⟩
  | _ => first | (cases e; done) | (cases e; exact ⟨_, by assumption, rfl⟩)
theorem isi_bool {st : Sto} {d : D} (k : Kn st d) : dIsi [d, .ty "bool"] st = .ok (.bl (isBl d)) st := by
  obtain ⟨h1, h2, h3, h4, h5, h6, h7⟩ := kit_get kit_bool
  refine isi_by k kit_bool fun t e => ?_
  cases d with
  | ref n => rcases ty_ref e with rfl | rfl <;> exact ⟨_, by assumption, rfl⟩
  | _ => first | (cases e; done) | (cases e; exact ⟨_, by assumption, rfl⟩)
theorem isi_tuple {st : Sto} {d : D} (k : Kn st d) : dIsi [d, .ty "tuple"] st = .ok (.bl (isTup d)) st := by
  obtain ⟨h1, h2, h3, h4, h5, h6, h7⟩ := kit_get kit_tuple
  refine isi_by k kit_tuple fun t e => ?_
  cases d with
  | ref n => rcases ty_ref e with rfl | rfl <;> exact ⟨_, by assumption, rfl⟩
  | _ => first | (cases e; done) | (cases e; exact ⟨_, by assumption, rfl⟩)
theorem isi_str {st : Sto} {d : D} (k : Kn st d) : dIsi [d, .ty "str"] st = .ok (.bl (isStr d)) st := by
  obtain ⟨h1, h2, h3, h4, h5, h6, h7⟩ := kit_get kit_str
  refine isi_by k kit_str fun t e => ?_
  cases d with
  | ref n => rcases ty_ref e with rfl | rfl <;> exact ⟨_, by assumption, rfl⟩
  | _ => first | (cases e; done) | (cases e; exact ⟨_, by assumption, rfl⟩)
/-! ### the commonest steps -/
section
variable {st : Sto} {i j : Int} {xs ys ds : List D}
@[simp] theorem eq_int : dEq (.int i) (.int j) st = .ok (.bl (decide (i = j))) st := id rfl
@[simp] theorem ne_int : dNe (.int i) (.int j) st = .ok (.bl (!decide (i = j))) st := id rfl
@[simp] theorem eq_str {i j : Str} : dEq (.str i) (.str j) st = .ok (.bl (decide (i = j))) st := id rfl
@[simp] theorem ne_str {i j : Str} : dNe (.str i) (.str j) st = .ok (.bl (!decide (i = j))) st := id rfl
@[simp] theorem add_int : dAdd (.int i) (.int j) st = .ok (.int (i + j)) st := id rfl
@[simp] theorem sub_int : dSub (.int i) (.int j) st = .ok (.int (i - j)) st := id rfl
@[simp] theorem cmp_int {p : Int → Int → Bool} : dCmp p (.int i) (.int j) st = .ok (.bl (p i j)) st := id rfl
@[simp] theorem neg_int : dNeg (.int i) st = .ok (.int (-i)) st := id rfl
@[simp] theorem len_tup : dLen [.tup ds] st = .ok (.int ds.length) st := id rfl
@[simp] theorem len_lst : dLen [.lst ds] st = .ok (.int ds.length) st := id rfl
theorem len_ref {n : Nat} (h : st[n]? = some (.lst ds)) : dLen [.ref n] st = .ok (.int ds.length) st := by
  show (match seqOf st (.ref n) with | some xs => R.ok (D.int xs.length) st | none => .bad) = _
  have e : seqOf st (.ref n) = some ds := by show lstOf st (.ref n) = _; unfold lstOf; simp only [h]
  rw [e]
theorem mod_int (h : 0 < j) : dMod (.int i) (.int j) st = .ok (.int (i % j)) st := by unfold dMod; exact if_pos h
theorem div_int (h : CDivW i j) : dDiv (.int i) (.int j) st = .ok (.int (i / j)) st := by unfold dDiv; exact if_pos h
theorem mul_int (h : CMulW i j) : dMul (.int i) (.int j) st = .ok (.int (i * j)) st := by unfold dMul; exact if_pos h
theorem pow_int' (h : CPowW i j) : dPow (.int i) (.int j) st = .ok (.int (i ^ j.toNat)) st := by unfold dPow; exact if_pos h
theorem add_tup (h : xs.length + ys.length ≤ sizeLine) : dAdd (.tup xs) (.tup ys) st = .ok (.tup (xs ++ ys)) st := by unfold dAdd; exact if_pos h
theorem add_lst (h : xs.length + ys.length ≤ sizeLine) : dAdd (.lst xs) (.lst ys) st = .ok (.lst (xs ++ ys)) st := by
  show (if xs.length + ys.length ≤ sizeLine then R.ok (D.lst (xs ++ ys)) st else .bad) = _
  exact if_pos h
@[simp] theorem tuple_tup : dTuple [.tup ds] st = .ok (.tup ds) st := id rfl
@[simp] theorem tuple_lst : dTuple [.lst ds] st = .ok (.tup ds) st := id rfl
theorem lstOf_ref {n : Nat} (h : st[n]? = some (.lst ds)) : lstOf st (.ref n) = some ds := by unfold lstOf; simp only [h]
theorem tuple_ref {n : Nat} (h : st[n]? = some (.lst ds)) : dTuple [.ref n] st = .ok (.tup ds) st := by
  show (match seqOf st (.ref n) with | some xs => R.ok (D.tup xs) st | none => .bad) = _
  have e : seqOf st (.ref n) = some ds := lstOf_ref h
  rw [e]
/-- items by place -/
theorem atI_nat {α : Type} {l : List α} {i : Int} {n : Nat} {a : α} (hi : i = (n : Int)) (h : l[n]? = some a) : atI l i = some a := by
  subst hi
  have hl : n < l.length := (List.getElem?_eq_some_iff.mp h).1
  unfold atI ixN
  rw [if_pos (by omega), if_pos (by omega)]
  simpa using h
theorem ix_by {x : D} {i : Int} {n : Nat} {d : D} (hs : seqOf st x = some ds) (hi : i = (n : Int)) (h : ds[n]? = some d) : dIx x (.int i) st = .ok d st := by
  unfold dIx
  simp only [hs, atI_nat hi h]
theorem ix_tup {i : Int} {n : Nat} {d : D} (hi : i = (n : Int)) (h : ds[n]? = some d) : dIx (.tup ds) (.int i) st = .ok d st := ix_by rfl hi h
theorem ix_lst {i : Int} {n : Nat} {d : D} (hi : i = (n : Int)) (h : ds[n]? = some d) : dIx (.lst ds) (.int i) st = .ok d st := ix_by rfl hi h
theorem ix_ref {m : Nat} {i : Int} {n : Nat} {d : D} (hm : st[m]? = some (.lst ds)) (hi : i = (n : Int)) (h : ds[n]? = some d) : dIx (.ref m) (.int i) st = .ok d st := ix_by (lstOf_ref hm) hi h
theorem put_by {m : Nat} {i : Int} {n : Nat} {v : D} (hm : st[m]? = some (.lst ds)) (hi : i = (n : Int)) (h : n < ds.length) : dPut (.ref m) (.int i) v st = .ok () (st.set m (.lst (ds.set n v))) := by
  subst hi
  unfold dPut
  have e : ixN ds.length (n : Int) = some n := by unfold ixN; rw [if_pos (by omega), if_pos (by omega)]; simp
  simp only [hm, e]
theorem app_by {m : Nat} {v : D} (hm : st[m]? = some (.lst ds)) (h : ds.length < sizeLine) : dApp (.ref m) [v] st = .ok .non (st.set m (.lst (ds ++ [v]))) := by
  unfold dApp
  simp only [hm, if_pos h]
theorem all_lst {bs : List Bool} : dAll [.lst (bs.map D.bl)] st = .ok (.bl (bs.all id)) st := by
  unfold dAll
  simp only [lstOf, blsOf_map]
theorem any_lst {bs : List Bool} : dAny [.lst (bs.map D.bl)] st = .ok (.bl (bs.any id)) st := by
  unfold dAny
  simp only [lstOf, blsOf_map]
theorem sum_lst {bs : List Int} : dSum [.lst (bs.map D.int)] st = .ok (.int bs.sum) st := by
  unfold dSum
  simp only [lstOf, intsOf_map]
end

/-! ### evaluation, by rows of the text -/
section
variable {rho : En} {st : Sto} {e a b : ME} {c c' : MT} {as : MA} {i : Nat} {d : D}
@[simp] theorem ev_c : mC d rho st = .ok d st := id rfl
theorem ev_var (h : rho[i]? = some (some d)) : mVar i rho st = .ok d st := by unfold mVar; rw [h]
@[simp] theorem ev_var0 {x : D} {r : En} : mVar 0 (some x :: r) st = .ok x st := id rfl
@[simp] theorem ev_varS {x : Option D} {r : En} : mVar (i + 1) (x :: r) st = mVar i r st := by unfold mVar; rw [List.getElem?_cons_succ]
@[simp] theorem ev_nil : mNil rho st = .ok [] st := id rfl
@[simp] theorem ev_cons : mCons e as rho st = (e rho st).bind fun d st => (as rho st).bind fun ds st => .ok (d :: ds) st := id rfl
@[simp] theorem ev_op {g : D → D → Sto → R D} : mOp g a b rho st = (a rho st).bind fun x st => (b rho st).bind fun y st => g x y st := id rfl
@[simp] theorem ev_un {g : D → Sto → R D} : mUn g a rho st = (a rho st).bind fun x st => g x st := id rfl
theorem ev_b : mB a rho st = (a rho st).bind fun x st => match x with
  | .bl b => .ok b st
  | _ => .bad := id rfl
def asB (x : D) (st : Sto) : R Bool := match x with
  | .bl b => .ok b st
  | _ => .bad
@[simp] theorem asB_bl {b : Bool} : asB (.bl b) st = .ok b st := id rfl
@[simp] theorem ev_b' : mB a rho st = (a rho st).bind asB := id rfl
@[simp] theorem ev_and : mAnd c c' rho st = (c rho st).bind fun x st => if x = true then c' rho st else .ok false st := id rfl
@[simp] theorem ev_or : mOr c c' rho st = (c rho st).bind fun x st => if x = true then .ok true st else c' rho st := id rfl
@[simp] theorem ev_not : mNot c rho st = (c rho st).bind fun x st => .ok (!x) st := id rfl
@[simp] theorem ev_if : mIf c a b rho st = (c rho st).bind fun x st => if x = true then a rho st else b rho st := id rfl
@[simp] theorem ev_andV : mAndV a b rho st = ((a rho st).bind asB).bind fun x st => if x = true then b rho st else .ok (.bl false) st := by
  unfold mAndV
  cases a rho st with
  | ok x st => cases x <;> first | rfl | (rename_i q; cases q <;> rfl)
  | ex e st => rfl
  | bad => rfl
@[simp] theorem ev_orV : mOrV a b rho st = ((a rho st).bind asB).bind fun x st => if x = true then .ok (.bl true) st else b rho st := by
  unfold mOrV
  cases a rho st with
  | ok x st => cases x <;> first | rfl | (rename_i q; cases q <;> rfl)
  | ex e st => rfl
  | bad => rfl
@[simp] theorem ev_notV : mNotV a rho st = ((a rho st).bind asB).bind fun x st => .ok (.bl (!x)) st := by
  unfold mNotV
  cases a rho st with
  | ok x st => cases x <;> rfl
  | ex e st => rfl
  | bad => rfl
@[simp] theorem ev_tup : mTup as rho st = (as rho st).bind fun ds st => if ds.length ≤ sizeLine then .ok (.tup ds) st else .bad := id rfl
@[simp] theorem ev_lst : mLst as rho st = (as rho st).bind fun ds st => if ds.length ≤ sizeLine then .ok ds st else .bad := id rfl
@[simp] theorem ev_fix : mFix as rho st = (as rho st).bind fun ds st => .ok (.lst ds) st := id rfl
@[simp] theorem ev_new : mNew as rho st = (as rho st).bind fun ds st => .ok (.ref st.length) (st ++ [.lst ds]) := id rfl
@[simp] theorem ev_fn {g : List D → Sto → R D} : mFn g as rho st = (as rho st).bind fun ds st => g ds st := id rfl
@[simp] theorem ev_cal {np : Nat} {g : List D → Sto → R D} : mCal np g as rho st = (as rho st).bind fun ds st => if ds.length = np then g ds st else .bad := id rfl
theorem chain_bl {g : D → D → Sto → R D} {x y : D} {p : Bool} {k : Sto → R D} (h : g x y st = .ok (.bl p) st) : ((g x y st).bind fun z st => match z with
  | .bl true => k st
  | .bl false => .ok (.bl false) st
  | _ => .bad) = if p = true then k st else .ok (.bl false) st := by
  rw [h]
  cases p <;> rfl
@[simp] theorem ev_chain {g g' : D → D → Sto → R D} {a b c : ME} : mChain g g' a b c rho st = (a rho st).bind fun x st => (b rho st).bind fun y st => ((g x y st).bind asB).bind fun p st => if p = true then (c rho st).bind fun w st => g' y w st else .ok (.bl false) st := by
  unfold mChain
  cases a rho st with
  | ex e st => rfl
  | bad => rfl
  | ok x st =>
    show ((b rho st).bind _) = ((b rho st).bind _)
    cases b rho st with
    | ex e st => rfl
    | bad => rfl
    | ok y st =>
      show ((g x y st).bind _) = (((g x y st).bind asB).bind _)
      cases g x y st with
      | ex e st => rfl
      | bad => rfl
      | ok z st => cases z <;> first | rfl | (rename_i q; cases q <;> rfl)
@[simp] theorem ev_nopart : mNoPart rho st = .ok none st := id rfl
def asO (x : D) (st : Sto) : R (Option Int) := match x with
  | .int i => .ok (some i) st
  | _ => .bad
@[simp] theorem asO_int {i : Int} : asO (.int i) st = .ok (some i) st := id rfl
@[simp] theorem ev_part : mPart a rho st = (a rho st).bind asO := id rfl
def dCut (x : D) (lo hi : Option Int) (st : Sto) : R D := match x with
  | .tup ds => .ok (.tup (cutD ds lo hi)) st
  | x => match lstOf st x with
    | some ds => .ok (.lst (cutD ds lo hi)) st
    | none => .bad
@[simp] theorem cut_tup {ds : List D} {lo hi : Option Int} : dCut (.tup ds) lo hi st = .ok (.tup (cutD ds lo hi)) st := id rfl
@[simp] theorem cut_lst {ds : List D} {lo hi : Option Int} : dCut (.lst ds) lo hi st = .ok (.lst (cutD ds lo hi)) st := id rfl
@[simp] theorem ev_slice {l h : MO} : mSl a l h rho st = (a rho st).bind fun x st => (l rho st).bind fun lo st => (h rho st).bind fun hi st => dCut x lo hi st := id rfl
@[simp] theorem ev_yes : mYes rho st = .ok true st := id rfl
@[simp] theorem ev_mt {T : String} {g : D → List D → Sto → R D} : mMt T g a as rho st = (a rho st).bind fun x st1 => if tyOf st1 x = some T then (as rho st1).bind fun ds st2 => g x ds st2 else .bad := id rfl
@[simp] theorem ev_src : mSrc a rho st = (a rho st).bind fun d st => match srcOf st d with
  | some s => .ok s st
  | none => .bad := id rfl
@[simp] theorem ev_cat : mCat a b rho st = (a rho st).bind fun x st1 => (b rho st1).bind fun y st2 => match lstOf st2 x, lstOf st2 y with
  | some xs, some ys => if xs.length + ys.length ≤ sizeLine then .ok (xs ++ ys) st2 else .bad
  | _, _ => .bad := id rfl
theorem ev_lc {i : MI} {g : MG} {t : MT} {vs : List Nat} : mLc i g t e vs rho st = (i rho st).bind fun s st1 => lcLoop s.cells g t e (wipeR rho vs) s.items [] st1 := id rfl
end
section
variable {rho : En} {st : Sto} {e : ME} {c : MT} {a b : MS} {as : MA} {i : Nat} {P : Fl → Sto → Prop}
/-! statements -/
theorem ok_seq (h : OkR (a rho st) fun f st1 => match f with
  | .nx r => OkR (b r st1) P
  | f => P f st1) : OkR (mSeq a b rho st) P := by
  obtain ⟨f, st1, e, h⟩ := h
  unfold mSeq
  rw [e, bindN_ok]
  cases f with
  | nx r => exact h
  | _ => exact okR_ok h
theorem ok_set (h : OkR (e rho st) fun d st1 => P (.nx (rho.set i (some d))) st1) : OkR (mSet i e rho st) P := h.bindS fun d st1 h => okR_ok h
theorem ok_ret (h : OkR (e rho st) fun d st1 => P (.rt d) st1) : OkR (mRet e rho st) P := h.bindS fun d st1 h => okR_ok h
theorem ok_drop (h : OkR (e rho st) fun d st1 => P (.nx rho) st1) : OkR (mDrop e rho st) P := h.bindS fun d st1 h => okR_ok h
theorem ok_asg {g : MG} (h : OkR (e rho st) fun d st1 => OkR (g d rho st1) fun r st2 => P (.nx r) st2) : OkR (mAsg e g rho st) P := h.bindS fun d st1 h => h.bindN fun r st2 h => okR_ok h
theorem ok_ifS (h : OkR (c rho st) fun x st1 => (x = true → OkR (a rho st1) P) ∧ (x = false → OkR (b rho st1) P)) : OkR (mIfS c a b rho st) P := h.bindS fun x st1 h => by
  cases x with
  | true => rw [if_pos rfl]; exact h.1 rfl
  | false => rw [if_neg Bool.false_ne_true]; exact h.2 rfl
theorem ok_next (h : P (.nx rho) st) : OkR (mNext rho st) P := okR_ok h
theorem ok_for {i : MI} {g : MG} (h : OkR (i rho st) fun s st1 => OkR (forLoop s.cells g b s.items rho st1) P) : OkR (mFor i g b rho st) P := h.bindS fun s st1 h => h
theorem ok_par {j : Nat} (h : OkR (as rho st) fun ds st1 => ∃ x y, ds = [x, y] ∧ P (.nx ((rho.set i (some x)).set j (some y))) st1) : OkR (mPar i j as rho st) P := h.bindS fun ds st1 ⟨x, y, e, h⟩ => by rw [e]; exact okR_ok h
/-- a def -/
theorem ok_fn {n : Nat} {m : MS} {ds : List D} {Q : D → Sto → Prop} (h : OkR (m (ds.map some ++ List.replicate n none) st) fun f st1 => match f with
  | .nx _ => Q .non st1
  | .rt d => Q d st1
  | _ => False) : OkR (fnRun n m ds st) Q := by
  obtain ⟨f, st1, e, h⟩ := h
  unfold fnRun
  rw [e, bindN_ok]
  cases f with
  | nx r => exact okR_ok h
  | rt d => exact okR_ok h
  | _ => exact h.elim
end
theorem okR_iff {α : Type} {r : R α} {a : α} {st : Sto} : r = .ok a st ↔ OkR r fun a' st' => a' = a ∧ st' = st := by
  constructor
  · intro h; exact ⟨a, st, h, rfl, rfl⟩
  · rintro ⟨a', st', h, rfl, rfl⟩; exact h
theorem gnm {i : Nat} {d : D} {rho : En} {st : Sto} : gNm i d rho st = .ok (rho.set i (some d)) st := id rfl
theorem tp2 {i j : Nat} {a b : D} {rho : En} {st : Sto} : gTp [gNm i, gNm j] (.tup [a, b]) rho st = .ok ((rho.set i (some a)).set j (some b)) st := id rfl
theorem tp3 {i j k : Nat} {a b c : D} {rho : En} {st : Sto} : gTp [gNm i, gNm j, gNm k] (.tup [a, b, c]) rho st = .ok (((rho.set i (some a)).set j (some b)).set k (some c)) st := id rfl
theorem tp4 {i j k l : Nat} {a b c e : D} {rho : En} {st : Sto} : gTp [gNm i, gNm j, gNm k, gNm l] (.tup [a, b, c, e]) rho st = .ok ((((rho.set i (some a)).set j (some b)).set k (some c)).set l (some e)) st := id rfl
end DL

set_option Elab.async false
set_option linter.all false
set_option maxRecDepth 100000
set_option maxHeartbeats 2000000
namespace DL.Lib
open PySem PySem.Spec PyProof.Rows L2 DL
noncomputable def m_is_whole : MS :=
  (mRet (mAndV (mFn dIsi (mCons (mVar 0) (mCons (mC (.ty "int")) mNil))) ((mNotV (mFn dIsi (mCons (mVar 0) (mCons (mC (.ty "bool")) mNil)))))))
noncomputable def g_is_whole : List D → Sto → R D := fnRun 0 m_is_whole
noncomputable def m_is_within : MS :=
  (mRet (mAndV (mCal 1 g_is_whole (mCons (mVar 0) mNil)) ((mChain (dCmp pLe) (dCmp pLe) (mVar 1) (mVar 0) (mVar 2)))))
noncomputable def g_is_within : List D → Sto → R D := fnRun 0 m_is_within
noncomputable def m_are_doings : MS :=
  (mSeq (mIfS (mOr (mNot (mB (mFn dIsi (mCons (mVar 1) (mCons (mC (.ty "tuple")) mNil))))) (mNot (mB (mChain (dCmp pLe) (dCmp pLe) (mVar 2) (mFn dLen (mCons (mVar 1) mNil)) (mVar 3))))) (mRet (mC (.bl false))) mNext)
   (mRet (mFn dAll (mCons (mFix (mLc (mSrc (mVar 1)) (gNm 4) mYes (mCal 3 g_is_within (mCons (mVar 4) (mCons (mC (.int 0)) (mCons (mOp dSub (mVar 0) (mC (.int 1))) mNil)))) [4])) mNil))))
noncomputable def g_are_doings : List D → Sto → R D := fnRun 1 m_are_doings
noncomputable def m__law_hoard_of : MS :=
  (mRet (mNew (mLst (mCons (mFn dMax2 (mCons (mC (.int 0)) (mCons (mOp dSub (mVar 0) (mOp dPow (mC (.int 10)) (mC (.int 18)))) mNil))) (mCons (mOp dAdd (mOp dMul (mOp dMod (mVar 0) (mOp dPow (mC (.int 10)) (mC (.int 30)))) (mC (.int 8))) (mOp dMod (mVar 1) (mC (.int 8)))) (mCons (mC (.int 0)) mNil))))))
noncomputable def g__law_hoard_of : List D → Sto → R D := fnRun 0 m__law_hoard_of
noncomputable def m__law_draw : MS :=
  (mSeq (mIfS (mB (mOp (dCmp pGt) (mOp dIx (mVar 0) (mC (.int 0))) (mC (.int 0)))) (mSeq (mSet 2 (mOp dMod (mOp dIx (mVar 0) (mC (.int 0))) (mVar 1)))
   (mSeq (mAsg (mOp dDiv (mOp dIx (mVar 0) (mC (.int 0))) (mVar 1)) (gIx (mVar 0) (mC (.int 0))))
   (mRet (mVar 2)))) mNext)
   (mSeq (mAsg (mOp dAdd (mOp dIx (mVar 0) (mC (.int 2))) (mC (.int 1))) (gIx (mVar 0) (mC (.int 2))))
   (mSeq (mSet 3 (mOp dPow (mOp dAdd (mOp dAdd (mOp dIx (mVar 0) (mC (.int 1))) (mOp dMul (mC (.int 7046029254386353131)) (mOp dIx (mVar 0) (mC (.int 2))))) (mC (.int 88172645463325252))) (mC (.int 3))))
   (mSeq (mSet 3 (mOp dMod (mVar 3) (mC (.int 618970019642690137449562111))))
   (mSeq (mSet 3 (mOp dMod (mOp dPow (mOp dAdd (mVar 3) (mOp dMul (mC (.int 1181783497276652981)) (mOp dIx (mVar 0) (mC (.int 2))))) (mC (.int 2))) (mOp dAdd (mOp dPow (mC (.int 10)) (mC (.int 27))) (mC (.int 103)))))
   (mRet (mOp dMod (mOp dDiv (mVar 3) (mC (.int 100003))) (mVar 1))))))))
noncomputable def g__law_draw : List D → Sto → R D := fnRun 2 m__law_draw
noncomputable def m__law_shift : MS :=
  (mSeq (mSet 2 (mCal 2 g__law_draw (mCons (mVar 0) (mCons (mC (.int 4)) mNil))))
   (mSeq (mAsg (mTup (mCons (mCal 2 g__law_draw (mCons (mVar 0) (mCons (mVar 1) mNil))) (mCons (mCal 2 g__law_draw (mCons (mVar 0) (mCons (mVar 1) mNil))) mNil))) (gTp [gNm 3, gNm 4]))
   (mSeq (mIfS (mB (mOp dEq (mVar 2) (mC (.int 0)))) (mRet (mFn dTuple (mCons (mFix (mLc (mRng1 (mCons (mVar 1) mNil)) (gNm 6) mYes (mOp dMod (mOp dAdd (mVar 6) (mVar 3)) (mVar 1)) [6])) mNil))) mNext)
   (mSeq (mIfS (mB (mOp dEq (mVar 2) (mC (.int 1)))) (mSeq (mSet 5 (mNew (mRange1 (mVar 1))))
   (mSeq (mAsg (mVar 4) (gIx (mVar 5) (mVar 3)))
   (mSeq (mAsg (mVar 3) (gIx (mVar 5) (mVar 4)))
   (mRet (mFn dTuple (mCons (mVar 5) mNil)))))) mNext)
   (mRet (mFn dTuple (mCons (mFix (mLc (mRng1 (mCons (mVar 1) mNil)) (gNm 6) mYes (mIf (mB (mOp dEq (mVar 2) (mC (.int 2)))) (mCal 2 g__law_draw (mCons (mVar 0) (mCons (mVar 1) mNil))) (mVar 4)) [6])) mNil)))))))
noncomputable def g__law_shift : List D → Sto → R D := fnRun 5 m__law_shift
noncomputable def m__law_some_seen : MS :=
  (mSeq (mSet 2 (mOp dIx (mFix (mLst (mCons (mOp dAdd (mC (.int 1)) (mCal 2 g__law_draw (mCons (mVar 0) (mCons (mC (.int 9)) mNil)))) (mCons (mC (.int 2)) (mCons (mC (.int 3)) mNil))))) (mCal 2 g__law_draw (mCons (mVar 0) (mCons (mC (.int 3)) mNil)))))
   (mSeq (mSet 3 (mOp dAdd (mC (.int 1)) (mCal 2 g__law_draw (mCons (mVar 0) (mCons (mC (.int 6)) mNil)))))
   (mSeq (mSet 4 (mFn dTuple (mCons (mFix (mLc (mRng1 (mCons (mVar 3) mNil)) (gNm 14) mYes (mCal 2 g__law_draw (mCons (mVar 0) (mCons (mVar 2) mNil))) [14])) mNil)))
   (mSeq (mSet 5 (mFix (mLc (mRng1 (mCons (mVar 3) mNil)) (gNm 14) mYes (mTup (mCons (mCal 2 g__law_draw (mCons (mVar 0) (mCons (mVar 3) mNil))) (mCons (mOp dAdd (mC (.int 1)) (mCal 2 g__law_draw (mCons (mVar 0) (mCons (mC (.int 12)) mNil)))) (mCons (mCal 2 g__law_shift (mCons (mVar 0) (mCons (mVar 2) mNil))) mNil)))) [14])))
   (mSeq (mSet 6 (mOp dIx (mFix (mLst (mCons (mC (.int 1)) (mCons (mC (.int 4)) (mCons (mC (.int 30)) (mCons (mOp dPow (mC (.int 10)) (mC (.int 6))) mNil)))))) (mCal 2 g__law_draw (mCons (mVar 0) (mCons (mC (.int 4)) mNil)))))
   (mSeq (mSet 7 (mFix (mLc (mRng1 (mCons (mVar 3) mNil)) (gNm 14) mYes (mNew (mLst mNil)) [14])))
   (mSeq (mFor (mRng1 (mCons (mOp dAdd (mC (.int 1)) (mCal 2 g__law_draw (mCons (mVar 0) (mCons (mVar 1) mNil)))) mNil)) (gNm 8) (mFor (mRng1 (mCons (mVar 3) mNil)) (gNm 9) (mSeq (mAsg (mOp dIx (mVar 5) (mVar 9)) (gTp [gNm 10, gNm 11, gNm 12]))
   (mSeq (mSet 13 (mOp dIx (mVar 12) (mIf (mB (mOp (dCmp pGe) (mVar 8) (mVar 11))) (mOp dIx (mOp dIx (mVar 7) (mVar 10)) (mOp dSub (mVar 8) (mVar 11))) (mOp dIx (mVar 4) (mVar 10)))))
   (mSeq (mIfS (mB (mOp dEq (mCal 2 g__law_draw (mCons (mVar 0) (mCons (mVar 6) mNil))) (mC (.int 0)))) (mSet 13 (mCal 2 g__law_draw (mCons (mVar 0) (mCons (mVar 2) mNil)))) mNext)
   (mDrop (mMt "list" dApp (mOp dIx (mVar 7) (mVar 9)) (mCons (mVar 13) mNil))))))))
   (mRet (mTup (mCons (mVar 2) (mCons (mVar 4) (mCons (mFn dTuple (mCons (mFix (mLc (mSrc (mVar 7)) (gNm 15) mYes (mFn dTuple (mCons (mVar 15) mNil)) [15])) mNil)) mNil))))))))))))
noncomputable def g__law_some_seen : List D → Sto → R D := fnRun 14 m__law_some_seen
end DL.Lib

set_option Elab.async false
set_option linter.all false
set_option maxRecDepth 100000
set_option maxHeartbeats 2000000
/-! DSp1: what the library's first defs do. -/
namespace DL
open PySem PySem.Spec PyProof.Rows L2

/-- a whole number, no truth -/
def isWh : D → Bool
  | .int _ => true
  | _ => false
def inR (d : D) (lo hi : Int) : Bool := match d with
  | .int i => decide (lo ≤ i) && decide (i ≤ hi)
  | _ => false
def areD (many : Int) (d : D) (lo hi : Int) : Bool := match d with
  | .tup xs => decide (lo ≤ (xs.length : Int)) && decide ((xs.length : Int) ≤ hi) && xs.all fun x => inR x 0 (many - 1)
  | _ => false
theorem wh_int (d : D) : isWh d = (isInt d && !isBl d) := by cases d <;> rfl
theorem whole_run {d : D} {st : Sto} (k : Kn st d) : Lib.g_is_whole [d] st = .ok (.bl (isWh d)) st := by
  refine okR_iff.mpr (ok_fn ?_)
  show OkR (Lib.m_is_whole [some d] st) _
  refine ok_ret ?_
  simp only [ev_andV, ev_notV, ev_fn, ev_cons, ev_nil, ev_var0, ev_c, bind_ok, isi_int k, isi_bool k, asB_bl]
  rw [wh_int]
  cases isInt d <;> exact okR_ok ⟨rfl, rfl⟩
theorem within_run {d : D} {st : Sto} {lo hi : Int} (k : Kn st d) : Lib.g_is_within [d, .int lo, .int hi] st = .ok (.bl (inR d lo hi)) st := by
  refine okR_iff.mpr (ok_fn ?_)
  show OkR (Lib.m_is_within [some d, some (.int lo), some (.int hi)] st) _
  refine ok_ret ?_
  simp only [ev_andV, ev_cal, ev_cons, ev_nil, ev_var0, bind_ok, List.length_cons, List.length_nil, if_pos, whole_run k, asB_bl]
  cases d with
  | int i =>
    simp only [isWh, if_pos, ev_chain, ev_varS, ev_var0, bind_ok, cmp_int, asB_bl, pLe, inR]
    by_cases h : lo ≤ i
    · simp only [h, decide_true, if_pos, Bool.true_and]; exact okR_ok ⟨rfl, rfl⟩
    · simp only [h, decide_false]; exact okR_ok ⟨rfl, rfl⟩
  | _ => exact okR_ok ⟨rfl, rfl⟩
/-- the items' kinds are known -/
def KnA (st : Sto) (d : D) : Prop := match d with
  | .tup xs => xs.length ≤ sizeLine ∧ ∀ x ∈ xs, Kn st x
  | _ => True
theorem doings_run {d : D} {st : Sto} {many lo hi : Int} (k : Kn st d) (ka : KnA st d) : Lib.g_are_doings [.int many, d, .int lo, .int hi] st = .ok (.bl (areD many d lo hi)) st := by
  refine okR_iff.mpr (ok_fn ?_)
  show OkR (Lib.m_are_doings [some (.int many), some d, some (.int lo), some (.int hi), none] st) _
  refine ok_seq (ok_ifS ?_)
  simp only [ev_or, ev_not, ev_b', ev_fn, ev_cons, ev_nil, ev_varS, ev_var0, ev_c, bind_ok, isi_tuple k, asB_bl]
  cases d with
  | tup xs =>
    simp only [isTup, Bool.not_true, Bool.false_eq_true, if_false, ev_chain, ev_varS, ev_var0, ev_fn, ev_cons, ev_nil, bind_ok, len_tup, cmp_int, asB_bl, pLe]
    have goA : areD many (.tup xs) lo hi = (decide (lo ≤ (xs.length : Int)) && decide ((xs.length : Int) ≤ hi) && xs.all fun x => inR x 0 (many - 1)) := rfl
    by_cases h1 : lo ≤ (xs.length : Int)
    · by_cases h2 : (xs.length : Int) ≤ hi
      · simp only [h1, h2, decide_true, if_pos, bind_ok, asB_bl, Bool.not_true]
        refine okR_ok ⟨fun z => (by cases z), fun _ => ?_⟩
        refine ok_next ?_
        refine ok_ret ?_
        rw [goA]
        simp only [h1, h2, decide_true, Bool.true_and]
        have e : (mLc (mSrc (mVar 1)) (gNm 4) mYes (mCal 3 Lib.g_is_within (mCons (mVar 4) (mCons (mC (.int 0)) (mCons (mOp dSub (mVar 0) (mC (.int 1))) mNil)))) [4]) [some (.int many), some (.tup xs), some (.int lo), some (.int hi), none] st = .ok (xs.map fun x => .bl (inR x 0 (many - 1))) st := by
          rw [ev_lc]
          simp only [ev_src, ev_varS, ev_var0, bind_ok, srcOf]
          refine lc_map _ _ ka.1 (by simp) fun x hx => ⟨[some (.int many), some (.tup xs), some (.int lo), some (.int hi), some x], rfl, rfl, ?_⟩
          simp only [ev_cal, ev_cons, ev_nil, ev_varS, ev_var0, ev_c, ev_op, bind_ok, sub_int, List.length_cons, List.length_nil, if_pos]
          exact within_run (ka.2 x hx)
        simp only [ev_fn, ev_cons, ev_nil, ev_fix, bind_ok, e]
        have e2 : (xs.map fun x => D.bl (inR x 0 (many - 1))) = (xs.map fun x => inR x 0 (many - 1)).map D.bl := by rw [List.map_map]; rfl
        rw [e2, all_lst]
        refine okR_ok ⟨?_, rfl⟩
        rw [List.all_map]
        rfl
      · simp only [h1, h2, decide_true, decide_false, if_pos, bind_ok, asB_bl, Bool.not_false]
        refine okR_ok ⟨fun _ => ok_ret ?_, fun z => by cases z⟩
        rw [goA]
        simp only [h1, h2, decide_true, decide_false, Bool.and_false, Bool.false_and]
        exact okR_ok ⟨rfl, rfl⟩
    · simp only [h1, decide_false, Bool.false_eq_true, if_false, bind_ok, asB_bl, Bool.not_false]
      refine okR_ok ⟨fun _ => ok_ret ?_, fun z => by cases z⟩
      rw [goA]
      simp only [h1, decide_false, Bool.false_and]
      exact okR_ok ⟨rfl, rfl⟩
  | _ =>
    simp only [isTup, Bool.not_false, if_pos]
    exact okR_ok ⟨fun _ => ok_ret (okR_ok ⟨rfl, rfl⟩), fun z => by cases z⟩
end DL

set_option Elab.async false
set_option linter.all false
set_option maxRecDepth 100000
set_option maxHeartbeats 2000000
/-! DHo: the laws' draws. -/
namespace DL
open PySem PySem.Spec PyProof.Rows L2

theorem log_lt {n k : Nat} (hk : 0 < k) (h : n < 2 ^ k) : n.log2 < k := by
  by_cases z : n = 0
  · subst z; simpa using hk
  · exact (Nat.log2_lt z).mpr h
theorem bits_le {x : Int} {k : Nat} (hk : 0 < k) (h : x.natAbs < 2 ^ k) : Builtin.Int.intBits x ≤ k := by
  unfold Builtin.Int.intBits
  split
  · omega
  · exact log_lt hk h
/-- what the changes may touch -/
structure Onl (h : Nat) (st st' : Sto) : Prop where
  le : st.length ≤ st'.length
  same : ∀ i, i < st.length → i ≠ h → st'[i]? = st[i]?
theorem Onl.refl (h : Nat) (st : Sto) : Onl h st st := ⟨Nat.le_refl _, fun _ _ _ => rfl⟩
theorem Onl.trans {h : Nat} {a b c : Sto} (x : Onl h a b) (y : Onl h b c) : Onl h a c :=
  ⟨Nat.le_trans x.le y.le, fun i hi hn => (y.same i (Nat.lt_of_lt_of_le hi x.le) hn).trans (x.same i hi hn)⟩
theorem Onl.set (h : Nat) (st : Sto) (c : C) : Onl h st (st.set h c) := ⟨by rw [List.length_set]; exact Nat.le_refl _, fun i hi hn => List.getElem?_set_ne fun e => hn e.symm⟩
theorem Onl.push (h : Nat) (st : Sto) (c : C) : Onl h st (st ++ [c]) := ⟨by simp, fun i hi _ => List.getElem?_append_left hi⟩
/-- the hoard at h: fewer than n draws beyond the number that is drawn out -/
def Ho (st : Sto) (h n : Nat) : Prop := ∃ a b c : Int, st[h]? = some (.lst [.int a, .int b, .int c]) ∧ b.natAbs < 2 ^ 128 ∧ 0 ≤ c ∧ c ≤ n
theorem Ho.lt {st : Sto} {h n : Nat} (x : Ho st h n) : h < st.length := by
  obtain ⟨a, b, c, e, _⟩ := x
  exact (List.getElem?_eq_some_iff.mp e).1
theorem Ho.mono {st : Sto} {h n m : Nat} (x : Ho st h n) (hm : n ≤ m) : Ho st h m := by
  obtain ⟨a, b, c, e, q1, q2, q3⟩ := x
  exact ⟨a, b, c, e, q1, q2, by omega⟩
theorem Ho.keep {st st' : Sto} {h n : Nat} (x : Ho st h n) (e : st'[h]? = st[h]?) : Ho st' h n := by
  obtain ⟨a, b, c, q, r⟩ := x
  exact ⟨a, b, c, e.trans q, r⟩
def Drawn (h n : Nat) (many : Int) (st : Sto) (d : D) (st' : Sto) : Prop := ∃ r, d = .int r ∧ 0 ≤ r ∧ r < many ∧ Ho st' h (n + 1) ∧ Onl h st st' ∧ st'.length = st.length
theorem draw_ok {st : Sto} {h n : Nat} {many : Int} (x : Ho st h n) (hn : n < 2 ^ 60) (h0 : 0 < many) (h1 : many < 2 ^ 64) : OkR (Lib.g__law_draw [.ref h, .int many] st) (Drawn h n many st) := by
  obtain ⟨a, b, c, e, hb, hc0, hc⟩ := x
  have hl : h < st.length := (List.getElem?_eq_some_iff.mp e).1
  have hm : many.natAbs.log2 < 9000 := by
    have q : many.natAbs < 2 ^ 64 := by omega
    exact Nat.lt_trans (log_lt (by decide) q) (by decide)
  refine ok_fn ?_
  show OkR (Lib.m__law_draw [some (.ref h), some (.int many), none, none] st) _
  refine ok_seq (ok_ifS ?_)
  have i0 : dIx (.ref h) (.int 0) st = .ok (.int a) st := ix_ref e (n := 0) rfl rfl
  simp only [ev_b', ev_op, ev_var0, ev_c, bind_ok, i0, cmp_int, asB_bl, pGt]
  by_cases ha : (0 : Int) < a
  · simp only [ha, decide_true]
    refine okR_ok ⟨fun _ => ?_, fun z => by cases z⟩
    refine ok_seq (ok_set ?_)
    simp only [ev_op, ev_var0, ev_varS, ev_c, bind_ok, i0, mod_int h0]
    refine okR_ok (ok_seq (ok_asg ?_))
    simp only [ev_op, List.set_cons_succ, List.set_cons_zero, ev_var0, ev_varS, ev_c, bind_ok, i0, div_int (show CDivW a many from ⟨h0, hm⟩)]
    refine okR_ok ?_
    have p0 : dPut (.ref h) (.int 0) (.int (a / many)) st = .ok () (st.set h (.lst [.int (a / many), .int b, .int c])) := put_by e (n := 0) rfl (by simp)
    unfold gIx
    simp only [ev_var0, ev_c, bindN_ok, p0]
    refine okR_ok (ok_ret ?_)
    simp only [ev_var0, ev_varS]
    refine okR_ok ⟨_, rfl, Int.emod_nonneg _ (by omega), Int.emod_lt_of_pos _ h0, ⟨_, _, _, List.getElem?_set_self hl, hb, hc0, by omega⟩, Onl.set .., List.length_set ..⟩
  · simp only [ha, decide_false]
    refine okR_ok ⟨fun z => (by cases z), fun _ => ok_next ?_⟩
    have i2 : dIx (.ref h) (.int 2) st = .ok (.int c) st := ix_ref e (n := 2) rfl rfl
    refine ok_seq (ok_asg ?_)
    simp only [ev_op, ev_var0, ev_c, bind_ok, i2, add_int]
    refine okR_ok ?_
    have p2 : dPut (.ref h) (.int 2) (.int (c + 1)) st = .ok () (st.set h (.lst [.int a, .int b, .int (c + 1)])) := put_by e (n := 2) rfl (by simp)
    unfold gIx
    simp only [ev_var0, ev_c, bindN_ok, p2]
    have e' : (st.set h (.lst [.int a, .int b, .int (c + 1)]))[h]? = some (.lst [.int a, .int b, .int (c + 1)]) := List.getElem?_set_self hl
    have l' : (st.set h (C.lst [.int a, .int b, .int (c + 1)])).length = st.length := List.length_set ..
    have o' : Onl h st (st.set h (.lst [.int a, .int b, .int (c + 1)])) := Onl.set ..
    generalize st.set h (.lst [.int a, .int b, .int (c + 1)]) = st1 at e' l' o'
    have j1 : dIx (.ref h) (.int 1) st1 = .ok (.int b) st1 := ix_ref e' (n := 1) rfl rfl
    have j2 : dIx (.ref h) (.int 2) st1 = .ok (.int (c + 1)) st1 := ix_ref e' (n := 2) rfl rfl
    refine okR_ok (ok_seq (ok_set ?_))
    have cb : (c + 1).natAbs < 2 ^ 64 := by omega
    have m1 : CMulW 7046029254386353131 (c + 1) := by
      have q := log_lt (n := (c + 1).natAbs) (k := 64) (by decide) cb
      have q2 : (7046029254386353131 : Int).natAbs.log2 < 64 := by decide +kernel
      unfold CMulW; omega
    have m2 : CMulW 1181783497276652981 (c + 1) := by
      have q := log_lt (n := (c + 1).natAbs) (k := 64) (by decide) cb
      have q2 : (1181783497276652981 : Int).natAbs.log2 < 64 := by decide +kernel
      unfold CMulW; omega
    have cle : c + 1 ≤ 2 ^ 61 := by omega
    have cpos : 0 ≤ c + 1 := by omega
    have cn : c + 1 ≤ (n : Int) + 1 := by omega
    generalize c + 1 = c1 at *
    have w1 : CPowW (b + 7046029254386353131 * c1 + 88172645463325252) 3 := by
      have q := bits_le (x := b + 7046029254386353131 * c1 + 88172645463325252) (k := 130) (by decide) (by omega)
      refine ⟨by decide, ?_⟩
      omega
    simp only [ev_op, ev_var0, ev_c, bind_ok, j1, j2, mul_int m1, add_int, pow_int' w1]
    generalize ((b + 7046029254386353131 * c1 + 88172645463325252) ^ (3 : Int).toNat) = x1
    refine okR_ok (ok_seq (ok_set ?_))
    simp only [ev_op, List.set_cons_succ, List.set_cons_zero, ev_var0, ev_varS, ev_c, bind_ok, mod_int (show (0 : Int) < 618970019642690137449562111 by decide)]
    have x2n : 0 ≤ x1 % 618970019642690137449562111 := Int.emod_nonneg _ (by decide)
    have x2l : x1 % 618970019642690137449562111 < 618970019642690137449562111 := Int.emod_lt_of_pos _ (by decide)
    generalize x1 % 618970019642690137449562111 = x2 at x2n x2l
    refine okR_ok (ok_seq (ok_set ?_))
    have w2 : CPowW (x2 + 1181783497276652981 * c1) 2 := by
      have q := bits_le (x := x2 + 1181783497276652981 * c1) (k := 130) (by decide) (by omega)
      refine ⟨by decide, ?_⟩
      omega
    have w3 : CPowW 10 27 := by
      have q := bits_le (x := 10) (k := 4) (by decide) (by decide)
      refine ⟨by decide, ?_⟩
      omega
    have tp : (0 : Int) < 10 ^ (27 : Int).toNat + 103 := by decide
    simp only [ev_op, List.set_cons_succ, List.set_cons_zero, ev_var0, ev_varS, ev_c, bind_ok, j2, mul_int m2, add_int, pow_int' w2, pow_int' w3, mod_int tp]
    generalize (x2 + 1181783497276652981 * c1) ^ (2 : Int).toNat % (10 ^ (27 : Int).toNat + 103) = x3
    refine okR_ok (ok_ret ?_)
    simp only [ev_op, List.set_cons_succ, List.set_cons_zero, ev_var0, ev_varS, ev_c, bind_ok, div_int (show CDivW x3 100003 from ⟨by decide, by decide +kernel⟩), mod_int h0]
    exact okR_ok ⟨_, rfl, Int.emod_nonneg _ (by omega), Int.emod_lt_of_pos _ h0, ⟨a, b, c1, e', hb, by omega, by omega⟩, o', l'⟩
theorem hoard_ok {st : Sto} {cell nth : Int} : OkR (Lib.g__law_hoard_of [.int cell, .int nth] st) fun d st' => d = .ref st.length ∧ Ho st' st.length 0 ∧ Onl st.length st st' ∧ st'.length = st.length + 1 := by
  refine ok_fn ?_
  show OkR (Lib.m__law_hoard_of [some (.int cell), some (.int nth)] st) _
  refine ok_ret ?_
  have b4 : Builtin.Int.intBits 10 ≤ 4 := bits_le (by decide) (by decide)
  have w1 : CPowW 10 18 := ⟨by decide, by omega⟩
  have w2 : CPowW 10 30 := ⟨by decide, by omega⟩
  have tp : (0 : Int) < 10 ^ (30 : Int).toNat := by decide
  have n1 : 0 ≤ cell % 10 ^ (30 : Int).toNat := Int.emod_nonneg _ (by decide)
  have n2 : cell % 10 ^ (30 : Int).toNat < 10 ^ 30 := Int.emod_lt_of_pos _ (by decide)
  have m1 : CMulW (cell % 10 ^ (30 : Int).toNat) 8 := by
    have q := log_lt (n := (cell % 10 ^ (30 : Int).toNat).natAbs) (k := 100) (by decide) (by omega)
    have q2 : (8 : Int).natAbs.log2 < 64 := by decide +kernel
    unfold CMulW; omega
  have n3 : 0 ≤ nth % 8 := Int.emod_nonneg _ (by decide)
  have n4 : nth % 8 < 8 := Int.emod_lt_of_pos _ (by decide)
  have mx : ∀ x : Int, dMax2 [.int 0, .int x] st = .ok (.int (if x > 0 then x else 0)) st := fun x => rfl
  have sz : (3 : Nat) ≤ sizeLine := by rw [sizeLine_eq]; decide
  simp only [ev_new, ev_lst, ev_fn, ev_cons, ev_nil, ev_op, ev_var0, ev_varS, ev_c, bind_ok, pow_int' w1, pow_int' w2, sub_int, mx, mod_int tp, mul_int m1, mod_int (show (0 : Int) < 8 by decide), add_int, List.length_cons, List.length_nil, Nat.zero_add, Nat.reduceAdd, if_pos sz]
  refine okR_ok ⟨rfl, ⟨_, _, _, List.getElem?_concat_length .., ?_, Int.le_refl _, Int.le_refl _⟩, Onl.push .., by simp⟩
  omega
end DL

set_option Elab.async false
set_option linter.all false
set_option maxRecDepth 100000
set_option maxHeartbeats 2000000
/-! DSp2: drawn turns, what is seen. -/
namespace DL
open PySem PySem.Spec PyProof.Rows L2

def IntIn (lo hi : Int) (d : D) : Prop := ∃ i, d = .int i ∧ lo ≤ i ∧ i < hi
theorem draw_bind {β : Type} {st : Sto} {h n : Nat} {many : Int} {k : D → Sto → R β} {P : β → Sto → Prop} (x : Ho st h n) (hn : n < 2 ^ 60) (h0 : 0 < many) (h1 : many < 2 ^ 64)
    (hk : ∀ r st', 0 ≤ r → r < many → Ho st' h (n + 1) → Onl h st st' → st'.length = st.length → OkR (k (.int r) st') P) : OkR ((Lib.g__law_draw [.ref h, .int many] st).bind k) P :=
  (draw_ok x hn h0 h1).bind fun d st' ⟨r, e, a, b, c, o, l⟩ => by rw [e]; exact hk r st' a b c o l
theorem rng1_ok {rho : En} {st : Sto} {e : ME} {j : Int} (he : e rho st = .ok (.int j) st) (h : -(2 ^ 62) ≤ j ∧ j < 2 ^ 62) : mRng1 (mCons e mNil) rho st = .ok ⟨rgD 0 j, []⟩ st := by
  unfold mRng1
  simp only [ev_cons, ev_nil, he, bind_ok, if_pos h]
theorem lc_bind {i : MI} {g : MG} {t : MT} {e : ME} {vs : List Nat} {rho : En} {st : Sto} {s : Src} {P : List D → Sto → Prop} (hi : i rho st = .ok s st) (h : OkR (lcLoop s.cells g t e (wipeR rho vs) s.items [] st) P) : OkR (mLc i g t e vs rho st) P := by
  rw [ev_lc, hi, bind_ok]
  exact h
/-- a comprehension of draws, or of anything that draws -/
theorem lc_draws {cells : List (Nat × List D)} {g : MG} {e : ME} {rho : En} {h n k : Nat} {st : Sto} (Pd : D → Prop) (items : List D) (hl : items.length < sizeLine) (hc : cells = [])
    (x : Ho st h n) (hs : ∀ i d st', i < items.length → items[i]? = some d → Ho st' h (n + k * i) → Onl h st st' → OkR (g d rho st') fun r st1 => st1 = st' ∧ OkR (e r st') fun y st2 => Pd y ∧ Ho st2 h (n + k * (i + 1)) ∧ Onl h st st2) :
    OkR (lcLoop cells g mYes e rho items [] st) fun ds st' => ds.length = items.length ∧ (∀ d ∈ ds, Pd d) ∧ Ho st' h (n + k * items.length) ∧ Onl h st st' := by
  subst hc
  refine (lc_ok (fun i acc st' => i ≤ items.length ∧ acc.length = i ∧ (∀ d ∈ acc, Pd d) ∧ Ho st' h (n + k * i) ∧ Onl h st st') items (fun _ _ _ _ => good_nil) (fun i d acc st' hd inv => ?_) ⟨Nat.zero_le _, rfl, fun _ z => (nomatch z), x, .refl _ _⟩).imp fun ds st' z => ⟨z.2.1, z.2.2.1, z.2.2.2.1, z.2.2.2.2⟩
  obtain ⟨_, ha, hp, hh, ho⟩ := inv
  have hi : i < items.length := (List.getElem?_eq_some_iff.mp hd).1
  refine (hs i d st' hi hd hh ho).imp fun r st1 ⟨e1, q⟩ => ?_
  subst e1
  refine okR_ok ?_
  rw [if_pos rfl]
  refine q.imp fun y st2 ⟨p1, p2, p3⟩ => ⟨by omega, hi, by rw [List.length_append, ha]; rfl, fun d hd => ?_, p2, p3⟩
  rcases List.mem_append.mp hd with z | z
  · exact hp d z
  · have e : d = y := by simpa using z
    rw [e]; exact p1
theorem rgD_in {a b : Int} {d : D} (h : d ∈ rgD a b) : IntIn a b d := by
  obtain ⟨i, hi⟩ := List.mem_iff_getElem?.mp h
  obtain ⟨h1, rfl⟩ := rgD_get hi
  exact ⟨_, rfl, by omega, by omega⟩
def Turn (many : Int) (d : D) : Prop := ∃ ts, d = .tup ts ∧ (ts.length : Int) = many ∧ ∀ t ∈ ts, IntIn 0 many t
theorem small_line {n : Nat} (h : n ≤ 100000) : n ≤ sizeLine := by rw [sizeLine_eq]; omega
theorem rgOk_small {a b : Int} (h1 : -1000000 ≤ a ∧ a ≤ 1000000) (h2 : -1000000 ≤ b ∧ b ≤ 1000000) : RgOk a b := by
  unfold RgOk
  omega
theorem shift_ok {st : Sto} {h n : Nat} {many : Int} (x : Ho st h n) (hn : n < 2 ^ 59) (h0 : 0 < many) (h1 : many ≤ 9) : OkR (Lib.g__law_shift [.ref h, .int many] st) fun d st' => Turn many d ∧ Ho st' h (n + 20) ∧ Onl h st st' := by
  refine ok_fn ?_
  show OkR (Lib.m__law_shift [some (.ref h), some (.int many), none, none, none, none, none] st) _
  refine ok_seq (ok_set ?_)
  simp only [ev_c, ev_var0, ev_varS, ev_nil, ev_cons, ev_op, ev_un, ev_b', ev_and, ev_or, ev_not, ev_if, ev_andV, ev_orV, ev_notV, ev_tup, ev_lst, ev_fix, ev_new, ev_fn, ev_cal, ev_chain, ev_nopart, ev_part, ev_slice, ev_yes, ev_src, bind_ok, bindN_ok, bindS_ok, bind_assoc', asB_bl, asO_int, List.set_cons_succ, List.set_cons_zero, List.length_cons, List.length_nil, Nat.zero_add, Nat.reduceAdd, if_true, DL.add_int, DL.sub_int, DL.cmp_int, DL.eq_int, DL.ne_int, DL.eq_str, DL.ne_str, DL.neg_int, DL.len_tup, DL.len_lst, DL.tuple_tup, DL.tuple_lst, DL.cut_tup, DL.cut_lst]
  refine (draw_ok x (by omega) (by decide) (by decide)).imp fun d st1 ⟨way, e, w0, w1, x1, o1, l1⟩ => ?_
  subst e
  refine ok_seq (ok_asg ?_)
  simp only [ev_c, ev_var0, ev_varS, ev_nil, ev_cons, ev_op, ev_un, ev_b', ev_and, ev_or, ev_not, ev_if, ev_andV, ev_orV, ev_notV, ev_tup, ev_lst, ev_fix, ev_new, ev_fn, ev_cal, ev_chain, ev_nopart, ev_part, ev_slice, ev_yes, ev_src, bind_ok, bindN_ok, bindS_ok, bind_assoc', asB_bl, asO_int, List.set_cons_succ, List.set_cons_zero, List.length_cons, List.length_nil, Nat.zero_add, Nat.reduceAdd, if_true, DL.add_int, DL.sub_int, DL.cmp_int, DL.eq_int, DL.ne_int, DL.eq_str, DL.ne_str, DL.neg_int, DL.len_tup, DL.len_lst, DL.tuple_tup, DL.tuple_lst, DL.cut_tup, DL.cut_lst, if_pos (show 2 ≤ sizeLine from small_line (by omega))]
  refine draw_bind x1 (by omega) h0 (by omega) fun by_ st2 b0 b1 x2 o2 l2 => ?_
  refine draw_bind x2 (by omega) h0 (by omega) fun one st3 n0 n1 x3 o3 l3 => ?_
  refine okR_ok (okR_ok ?_)
  have o13 := (o1.trans o2).trans o3
  have rl : (rgD 0 many).length ≤ 9 := by rw [rgD_length]; omega
  refine ok_seq (ok_ifS ?_)
  simp only [ev_c, ev_var0, ev_varS, ev_nil, ev_cons, ev_op, ev_un, ev_b', ev_and, ev_or, ev_not, ev_if, ev_andV, ev_orV, ev_notV, ev_tup, ev_lst, ev_fix, ev_new, ev_fn, ev_cal, ev_chain, ev_nopart, ev_part, ev_slice, ev_yes, ev_src, bind_ok, bindN_ok, bindS_ok, bind_assoc', asB_bl, asO_int, List.set_cons_succ, List.set_cons_zero, List.length_cons, List.length_nil, Nat.zero_add, Nat.reduceAdd, if_true, DL.add_int, DL.sub_int, DL.cmp_int, DL.eq_int, DL.ne_int, DL.eq_str, DL.ne_str, DL.neg_int, DL.len_tup, DL.len_lst, DL.tuple_tup, DL.tuple_lst, DL.cut_tup, DL.cut_lst]
  refine okR_ok ⟨fun _ => ?_, fun _ => ok_next ?_⟩
  · refine ok_ret ?_
    have e : (mLc (mRng1 (mCons (mVar 1) mNil)) (gNm 6) mYes (mOp dMod (mOp dAdd (mVar 6) (mVar 3)) (mVar 1)) [6]) [some (.ref h), some (.int many), some (.int way), some (.int by_), some (.int one), none, none] st3
        = .ok ((rgD 0 many).map fun d => match d with | .int i => .int ((i + by_) % many) | d => d) st3 := by
      rw [ev_lc, rng1_ok (j := many) rfl (by omega), bind_ok]
      refine lc_map _ _ (Nat.le_trans rl (small_line (by omega))) good_nil fun d hd => ?_
      obtain ⟨i, rfl, _, _⟩ := rgD_in hd
      refine ⟨_, rfl, rfl, ?_⟩
      simp only [gNm, wipeR, ev_c, ev_var0, ev_varS, ev_nil, ev_cons, ev_op, ev_un, ev_b', ev_and, ev_or, ev_not, ev_if, ev_andV, ev_orV, ev_notV, ev_tup, ev_lst, ev_fix, ev_new, ev_fn, ev_cal, ev_chain, ev_nopart, ev_part, ev_slice, ev_yes, ev_src, bind_ok, bindN_ok, bindS_ok, bind_assoc', asB_bl, asO_int, List.set_cons_succ, List.set_cons_zero, List.length_cons, List.length_nil, Nat.zero_add, Nat.reduceAdd, if_true, DL.add_int, DL.sub_int, DL.cmp_int, DL.eq_int, DL.ne_int, DL.eq_str, DL.ne_str, DL.neg_int, DL.len_tup, DL.len_lst, DL.tuple_tup, DL.tuple_lst, DL.cut_tup, DL.cut_lst, mod_int h0]
    simp only [ev_c, ev_var0, ev_varS, ev_nil, ev_cons, ev_op, ev_un, ev_b', ev_and, ev_or, ev_not, ev_if, ev_andV, ev_orV, ev_notV, ev_tup, ev_lst, ev_fix, ev_new, ev_fn, ev_cal, ev_chain, ev_nopart, ev_part, ev_slice, ev_yes, ev_src, bind_ok, bindN_ok, bindS_ok, bind_assoc', asB_bl, asO_int, List.set_cons_succ, List.set_cons_zero, List.length_cons, List.length_nil, Nat.zero_add, Nat.reduceAdd, if_true, DL.add_int, DL.sub_int, DL.cmp_int, DL.eq_int, DL.ne_int, DL.eq_str, DL.ne_str, DL.neg_int, DL.len_tup, DL.len_lst, DL.tuple_tup, DL.tuple_lst, DL.cut_tup, DL.cut_lst, e]
    refine okR_ok ⟨⟨_, rfl, ?_, fun t ht => ?_⟩, x3.mono (by omega), o13⟩
    · rw [List.length_map, rgD_length]; omega
    · obtain ⟨d, hd, rfl⟩ := List.mem_map.mp ht
      obtain ⟨i, rfl, _, _⟩ := rgD_in hd
      exact ⟨_, rfl, Int.emod_nonneg _ (by omega), Int.emod_lt_of_pos _ h0⟩
  · refine ok_seq (ok_ifS ?_)
    simp only [ev_c, ev_var0, ev_varS, ev_nil, ev_cons, ev_op, ev_un, ev_b', ev_and, ev_or, ev_not, ev_if, ev_andV, ev_orV, ev_notV, ev_tup, ev_lst, ev_fix, ev_new, ev_fn, ev_cal, ev_chain, ev_nopart, ev_part, ev_slice, ev_yes, ev_src, bind_ok, bindN_ok, bindS_ok, bind_assoc', asB_bl, asO_int, List.set_cons_succ, List.set_cons_zero, List.length_cons, List.length_nil, Nat.zero_add, Nat.reduceAdd, if_true, DL.add_int, DL.sub_int, DL.cmp_int, DL.eq_int, DL.ne_int, DL.eq_str, DL.ne_str, DL.neg_int, DL.len_tup, DL.len_lst, DL.tuple_tup, DL.tuple_lst, DL.cut_tup, DL.cut_lst]
    refine okR_ok ⟨fun _ => ?_, fun _ => ok_next ?_⟩
    · refine ok_seq (ok_set ?_)
      have rg : RgOk 0 many := rgOk_small (by omega) (by omega)
      have e1 : (mRange1 (mVar 1)) [some (.ref h), some (.int many), some (.int way), some (.int by_), some (.int one), none, none] st3 = .ok (rgD 0 many) st3 := by
        unfold mRange1
        simp only [ev_c, ev_var0, ev_varS, ev_nil, ev_cons, ev_op, ev_un, ev_b', ev_and, ev_or, ev_not, ev_if, ev_andV, ev_orV, ev_notV, ev_tup, ev_lst, ev_fix, ev_new, ev_fn, ev_cal, ev_chain, ev_nopart, ev_part, ev_slice, ev_yes, ev_src, bind_ok, bindN_ok, bindS_ok, bind_assoc', asB_bl, asO_int, List.set_cons_succ, List.set_cons_zero, List.length_cons, List.length_nil, Nat.zero_add, Nat.reduceAdd, if_true, DL.add_int, DL.sub_int, DL.cmp_int, DL.eq_int, DL.ne_int, DL.eq_str, DL.ne_str, DL.neg_int, DL.len_tup, DL.len_lst, DL.tuple_tup, DL.tuple_lst, DL.cut_tup, DL.cut_lst, if_pos rg]
      simp only [ev_c, ev_var0, ev_varS, ev_nil, ev_cons, ev_op, ev_un, ev_b', ev_and, ev_or, ev_not, ev_if, ev_andV, ev_orV, ev_notV, ev_tup, ev_lst, ev_fix, ev_new, ev_fn, ev_cal, ev_chain, ev_nopart, ev_part, ev_slice, ev_yes, ev_src, bind_ok, bindN_ok, bindS_ok, bind_assoc', asB_bl, asO_int, List.set_cons_succ, List.set_cons_zero, List.length_cons, List.length_nil, Nat.zero_add, Nat.reduceAdd, if_true, DL.add_int, DL.sub_int, DL.cmp_int, DL.eq_int, DL.ne_int, DL.eq_str, DL.ne_str, DL.neg_int, DL.len_tup, DL.len_lst, DL.tuple_tup, DL.tuple_lst, DL.cut_tup, DL.cut_lst, e1]
      have hb : st3.length < (st3 ++ [C.lst (rgD 0 many)]).length := by simp
      have g4 : (st3 ++ [C.lst (rgD 0 many)])[st3.length]? = some (.lst (rgD 0 many)) := List.getElem?_concat_length ..
      have x4 : Ho (st3 ++ [C.lst (rgD 0 many)]) h (n + 3) := x3.keep (List.getElem?_append_left x3.lt)
      have o4 : Onl h st (st3 ++ [C.lst (rgD 0 many)]) := o13.trans (Onl.push ..)
      have hne : st3.length ≠ h := Nat.ne_of_gt x3.lt
      have hle : st.length ≤ st3.length := o13.le
      generalize st3 ++ [C.lst (rgD 0 many)] = st4 at hb g4 x4 o4
      refine okR_ok (ok_seq (ok_asg ?_))
      simp only [ev_c, ev_var0, ev_varS, ev_nil, ev_cons, ev_op, ev_un, ev_b', ev_and, ev_or, ev_not, ev_if, ev_andV, ev_orV, ev_notV, ev_tup, ev_lst, ev_fix, ev_new, ev_fn, ev_cal, ev_chain, ev_nopart, ev_part, ev_slice, ev_yes, ev_src, bind_ok, bindN_ok, bindS_ok, bind_assoc', asB_bl, asO_int, List.set_cons_succ, List.set_cons_zero, List.length_cons, List.length_nil, Nat.zero_add, Nat.reduceAdd, if_true, DL.add_int, DL.sub_int, DL.cmp_int, DL.eq_int, DL.ne_int, DL.eq_str, DL.ne_str, DL.neg_int, DL.len_tup, DL.len_lst, DL.tuple_tup, DL.tuple_lst, DL.cut_tup, DL.cut_lst]
      refine okR_ok ?_
      have lenR : (rgD 0 many).length = many.toNat := by rw [rgD_length, Int.sub_zero]
      have p1 : dPut (.ref st3.length) (.int by_) (.int one) st4 = .ok () (st4.set st3.length (.lst ((rgD 0 many).set by_.toNat (.int one)))) := put_by g4 (n := by_.toNat) (by omega) (by omega)
      unfold gIx
      simp only [ev_c, ev_var0, ev_varS, ev_nil, ev_cons, ev_op, ev_un, ev_b', ev_and, ev_or, ev_not, ev_if, ev_andV, ev_orV, ev_notV, ev_tup, ev_lst, ev_fix, ev_new, ev_fn, ev_cal, ev_chain, ev_nopart, ev_part, ev_slice, ev_yes, ev_src, bind_ok, bindN_ok, bindS_ok, bind_assoc', asB_bl, asO_int, List.set_cons_succ, List.set_cons_zero, List.length_cons, List.length_nil, Nat.zero_add, Nat.reduceAdd, if_true, DL.add_int, DL.sub_int, DL.cmp_int, DL.eq_int, DL.ne_int, DL.eq_str, DL.ne_str, DL.neg_int, DL.len_tup, DL.len_lst, DL.tuple_tup, DL.tuple_lst, DL.cut_tup, DL.cut_lst, p1]
      have g5 : (st4.set st3.length (.lst ((rgD 0 many).set by_.toNat (.int one))))[st3.length]? = some (.lst ((rgD 0 many).set by_.toNat (.int one))) := List.getElem?_set_self hb
      refine okR_ok (ok_seq (ok_asg ?_))
      simp only [ev_c, ev_var0, ev_varS, ev_nil, ev_cons, ev_op, ev_un, ev_b', ev_and, ev_or, ev_not, ev_if, ev_andV, ev_orV, ev_notV, ev_tup, ev_lst, ev_fix, ev_new, ev_fn, ev_cal, ev_chain, ev_nopart, ev_part, ev_slice, ev_yes, ev_src, bind_ok, bindN_ok, bindS_ok, bind_assoc', asB_bl, asO_int, List.set_cons_succ, List.set_cons_zero, List.length_cons, List.length_nil, Nat.zero_add, Nat.reduceAdd, if_true, DL.add_int, DL.sub_int, DL.cmp_int, DL.eq_int, DL.ne_int, DL.eq_str, DL.ne_str, DL.neg_int, DL.len_tup, DL.len_lst, DL.tuple_tup, DL.tuple_lst, DL.cut_tup, DL.cut_lst]
      refine okR_ok ?_
      have p2 : dPut (.ref st3.length) (.int one) (.int by_) (st4.set st3.length (.lst ((rgD 0 many).set by_.toNat (.int one)))) = .ok () ((st4.set st3.length (.lst ((rgD 0 many).set by_.toNat (.int one)))).set st3.length (.lst (((rgD 0 many).set by_.toNat (.int one)).set one.toNat (.int by_)))) :=
        put_by g5 (n := one.toNat) (by omega) (by rw [List.length_set]; omega)
      simp only [ev_c, ev_var0, ev_varS, ev_nil, ev_cons, ev_op, ev_un, ev_b', ev_and, ev_or, ev_not, ev_if, ev_andV, ev_orV, ev_notV, ev_tup, ev_lst, ev_fix, ev_new, ev_fn, ev_cal, ev_chain, ev_nopart, ev_part, ev_slice, ev_yes, ev_src, bind_ok, bindN_ok, bindS_ok, bind_assoc', asB_bl, asO_int, List.set_cons_succ, List.set_cons_zero, List.length_cons, List.length_nil, Nat.zero_add, Nat.reduceAdd, if_true, DL.add_int, DL.sub_int, DL.cmp_int, DL.eq_int, DL.ne_int, DL.eq_str, DL.ne_str, DL.neg_int, DL.len_tup, DL.len_lst, DL.tuple_tup, DL.tuple_lst, DL.cut_tup, DL.cut_lst, p2]
      refine okR_ok (ok_ret ?_)
      have g6 : ((st4.set st3.length (.lst ((rgD 0 many).set by_.toNat (.int one)))).set st3.length (.lst (((rgD 0 many).set by_.toNat (.int one)).set one.toNat (.int by_))))[st3.length]? = some (.lst (((rgD 0 many).set by_.toNat (.int one)).set one.toNat (.int by_))) := List.getElem?_set_self (by rw [List.length_set]; exact hb)
      simp only [ev_c, ev_var0, ev_varS, ev_nil, ev_cons, ev_op, ev_un, ev_b', ev_and, ev_or, ev_not, ev_if, ev_andV, ev_orV, ev_notV, ev_tup, ev_lst, ev_fix, ev_new, ev_fn, ev_cal, ev_chain, ev_nopart, ev_part, ev_slice, ev_yes, ev_src, bind_ok, bindN_ok, bindS_ok, bind_assoc', asB_bl, asO_int, List.set_cons_succ, List.set_cons_zero, List.length_cons, List.length_nil, Nat.zero_add, Nat.reduceAdd, if_true, DL.add_int, DL.sub_int, DL.cmp_int, DL.eq_int, DL.ne_int, DL.eq_str, DL.ne_str, DL.neg_int, DL.len_tup, DL.len_lst, DL.tuple_tup, DL.tuple_lst, DL.cut_tup, DL.cut_lst, tuple_ref g6]
      refine okR_ok ⟨⟨_, rfl, ?_, fun t ht => ?_⟩, ?_, ?_⟩
      · rw [List.length_set, List.length_set]; omega
      · rcases List.mem_or_eq_of_mem_set ht with z | z
        · rcases List.mem_or_eq_of_mem_set z with z | z
          · exact rgD_in z
          · exact ⟨_, z, by omega, by omega⟩
        · exact ⟨_, z, by omega, by omega⟩
      · exact (x4.keep (by rw [List.getElem?_set_ne hne, List.getElem?_set_ne hne])).mono (by omega)
      · refine ⟨by rw [List.length_set, List.length_set]; exact o4.le, fun i hi hh => ?_⟩
        rw [List.getElem?_set_ne (by omega), List.getElem?_set_ne (by omega)]
        exact o4.same i hi hh
    · refine ok_ret ?_
      have e : OkR ((mLc (mRng1 (mCons (mVar 1) mNil)) (gNm 6) mYes (mIf (mB (mOp dEq (mVar 2) (mC (.int 2)))) (mCal 2 Lib.g__law_draw (mCons (mVar 0) (mCons (mVar 1) mNil))) (mVar 4)) [6]) [some (.ref h), some (.int many), some (.int way), some (.int by_), some (.int one), none, none] st3)
          fun ds st' => (ds.length : Int) = many ∧ (∀ d ∈ ds, IntIn 0 many d) ∧ Ho st' h (n + 20) ∧ Onl h st st' := by
        refine lc_bind (rng1_ok (j := many) rfl (by omega)) ?_
        refine (lc_draws (k := 1) (IntIn 0 many) (rgD 0 many) (Nat.lt_of_le_of_lt rl (by rw [sizeLine_eq]; omega)) rfl x3 fun i d st' hi hd x' o' => ?_).imp fun ds st' ⟨q1, q2, q3, q4⟩ => ⟨by rw [q1, rgD_length]; omega, q2, q3.mono (by omega), o13.trans q4⟩
        refine okR_ok ⟨rfl, ?_⟩
        simp only [wipeR, ev_c, ev_var0, ev_varS, ev_nil, ev_cons, ev_op, ev_un, ev_b', ev_and, ev_or, ev_not, ev_if, ev_andV, ev_orV, ev_notV, ev_tup, ev_lst, ev_fix, ev_new, ev_fn, ev_cal, ev_chain, ev_nopart, ev_part, ev_slice, ev_yes, ev_src, bind_ok, bindN_ok, bindS_ok, bind_assoc', asB_bl, asO_int, List.set_cons_succ, List.set_cons_zero, List.length_cons, List.length_nil, Nat.zero_add, Nat.reduceAdd, if_true, DL.add_int, DL.sub_int, DL.cmp_int, DL.eq_int, DL.ne_int, DL.eq_str, DL.ne_str, DL.neg_int, DL.len_tup, DL.len_lst, DL.tuple_tup, DL.tuple_lst, DL.cut_tup, DL.cut_lst]
        by_cases hw : way = 2
        · simp only [hw, decide_true, if_true]
          exact (draw_ok x' (by omega) h0 (by omega)).imp fun d2 st2 ⟨r, er, r0, r1, xx, oo, ll⟩ => ⟨⟨r, er, r0, r1⟩, xx.mono (by omega), o'.trans oo⟩
        · simp only [hw, decide_false, Bool.false_eq_true, if_false]
          exact okR_ok ⟨⟨one, rfl, n0, n1⟩, x'.mono (by omega), o'⟩
      simp only [ev_c, ev_var0, ev_varS, ev_nil, ev_cons, ev_op, ev_un, ev_b', ev_and, ev_or, ev_not, ev_if, ev_andV, ev_orV, ev_notV, ev_tup, ev_lst, ev_fix, ev_new, ev_fn, ev_cal, ev_chain, ev_nopart, ev_part, ev_slice, ev_yes, ev_src, bind_ok, bindN_ok, bindS_ok, bind_assoc', asB_bl, asO_int, List.set_cons_succ, List.set_cons_zero, List.length_cons, List.length_nil, Nat.zero_add, Nat.reduceAdd, if_true, DL.add_int, DL.sub_int, DL.cmp_int, DL.eq_int, DL.ne_int, DL.eq_str, DL.ne_str, DL.neg_int, DL.len_tup, DL.len_lst, DL.tuple_tup, DL.tuple_lst, DL.cut_tup, DL.cut_lst]
      refine e.bind fun ds st' ⟨q1, q2, q3, q4⟩ => ?_
      exact okR_ok ⟨⟨_, rfl, q1, q2⟩, q3, q4⟩
end DL

set_option Elab.async false
set_option linter.all false
set_option maxRecDepth 100000
set_option maxHeartbeats 4000000
/-! DSp3: what was seen, drawn. -/
namespace DL
open PySem PySem.Spec PyProof.Rows L2

def Row (many : Int) (beats : Nat) (d : D) : Prop := ∃ ds, d = .tup ds ∧ ds.length = beats ∧ ∀ x ∈ ds, IntIn 0 many x
/-- a thing that was seen, as it is drawn -/
def SeenD (long : Int) (d : D) : Prop := ∃ (many : Int) (before rows : List D) (beats : Nat), d = .tup [.int many, .tup before, .tup rows] ∧ 1 ≤ many ∧ many ≤ 9 ∧ 1 ≤ before.length ∧ before.length ≤ 6 ∧ (∀ x ∈ before, IntIn 0 many x) ∧
  rows.length = before.length ∧ 1 ≤ beats ∧ (beats : Int) ≤ long ∧ ∀ r ∈ rows, Row many beats r
def Cells (st : Sto) (b count : Nat) (len : Nat → Nat) (many : Int) : Prop := ∀ j, j < count → ∃ xs, st[b + j]? = some (.lst xs) ∧ xs.length = len j ∧ ∀ x ∈ xs, IntIn 0 many x
theorem Cells.onl {st st' : Sto} {b count h : Nat} {len : Nat → Nat} {many : Int} (c : Cells st b count len many) (o : Onl h st st') (hh : h < b) : Cells st' b count len many := fun j hj => by
  obtain ⟨xs, e, q⟩ := c j hj
  exact ⟨xs, (o.same _ (List.getElem?_eq_some_iff.mp e).1 (by omega)).trans e, q⟩
def Way (count : Nat) (many : Int) (d : D) : Prop := ∃ (other ago : Int) (turn : D), d = .tup [.int other, .int ago, turn] ∧ 0 ≤ other ∧ other < count ∧ 1 ≤ ago ∧ Turn many turn
theorem rgD_at {a b : Int} {i : Nat} (h : i < (b - a).toNat) : (rgD a b)[i]? = some (.int (a + (i : Nat))) := by
  unfold rgD
  rw [List.getElem?_map, List.getElem?_range h]
  rfl
theorem at_mem {ds : List D} {n : Nat} (h : n < ds.length) : ∃ d, ds[n]? = some d ∧ d ∈ ds := ⟨_, List.getElem?_eq_getElem h, List.getElem_mem h⟩
theorem ty_cell {st : Sto} {n : Nat} {xs : List D} (e : st[n]? = some (.lst xs)) : tyOf st (.ref n) = some "list" := by
  unfold tyOf
  simp only [e]
theorem seen_turn {st0 st : Sto} {h n b count i j : Nat} {many strange : Int} {long beforeT : D} {before ways : List D} {rows : List D} {v8 v9 v10 v11 v12 v13 : Option D}
    (x : Ho st h n) (hn : n < 2 ^ 59) (m0 : 1 ≤ many) (m1 : many ≤ 9) (hb0 : h < st0.length) (hb : st0.length ≤ b) (o : Onl h st0 st) (s0 : 0 < strange) (s1 : strange < 2 ^ 64)
    (hbe : before.length = count) (hbi : ∀ x ∈ before, IntIn 0 many x) (hw : ways.length = count) (hwi : ∀ w ∈ ways, Way count many w) (hr : ∀ k, k < count → rows[k]? = some (.ref (b + k)))
    (hi : i < 1000) (hj : j < count) (c : Cells st b count (fun k => if k < j then i + 1 else i) many) :
    OkR ((mSeq (mAsg (mOp dIx (mVar 5) (mVar 9)) (gTp [gNm 10, gNm 11, gNm 12]))
   (mSeq (mSet 13 (mOp dIx (mVar 12) (mIf (mB (mOp (dCmp pGe) (mVar 8) (mVar 11))) (mOp dIx (mOp dIx (mVar 7) (mVar 10)) (mOp dSub (mVar 8) (mVar 11))) (mOp dIx (mVar 4) (mVar 10)))))
   (mSeq (mIfS (mB (mOp dEq (mCal 2 Lib.g__law_draw (mCons (mVar 0) (mCons (mVar 6) mNil))) (mC (.int 0)))) (mSet 13 (mCal 2 Lib.g__law_draw (mCons (mVar 0) (mCons (mVar 2) mNil)))) mNext)
   (mDrop (mMt "list" dApp (mOp dIx (mVar 7) (mVar 9)) (mCons (mVar 13) mNil))))))
     [some (.ref h), some long, some (.int many), some (.int count), some (.tup before), some (.lst ways), some (.int strange), some (.lst rows), some (.int i), some (.int j), v10, v11, v12, v13, none, none] st)
     fun f st' => ∃ w10 w11 w12 w13, f = .nx [some (.ref h), some long, some (.int many), some (.int count), some (.tup before), some (.lst ways), some (.int strange), some (.lst rows), some (.int i), some (.int j), w10, w11, w12, w13, none, none] ∧
      Ho st' h (n + 2) ∧ Onl h st0 st' ∧ Cells st' b count (fun k => if k < j + 1 then i + 1 else i) many := by
  obtain ⟨w, hwj, hwm⟩ := at_mem (ds := ways) (n := j) (by omega)
  obtain ⟨other, ago, turn, rfl, q0, q1, q2, ts, rfl, tl, tin⟩ := hwi w hwm
  refine ok_seq (ok_asg ?_)
  simp only [ev_c, ev_var0, ev_varS, ev_nil, ev_cons, ev_op, ev_un, ev_b', ev_and, ev_or, ev_not, ev_if, ev_andV, ev_orV, ev_notV, ev_tup, ev_lst, ev_fix, ev_new, ev_fn, ev_cal, ev_chain, ev_nopart, ev_part, ev_slice, ev_yes, ev_src, bind_ok, bindN_ok, bindS_ok, bind_assoc', asB_bl, asO_int, List.set_cons_succ, List.set_cons_zero, List.length_cons, List.length_nil, Nat.zero_add, Nat.reduceAdd, if_true, DL.add_int, DL.sub_int, DL.cmp_int, DL.eq_int, DL.ne_int, DL.eq_str, DL.ne_str, DL.neg_int, DL.len_tup, DL.len_lst, DL.tuple_tup, DL.tuple_lst, DL.cut_tup, DL.cut_lst, ix_lst (i := (j : Int)) rfl hwj]
  refine okR_ok ?_
  unfold gTp gNm
  simp only [ev_c, ev_var0, ev_varS, ev_nil, ev_cons, ev_op, ev_un, ev_b', ev_and, ev_or, ev_not, ev_if, ev_andV, ev_orV, ev_notV, ev_tup, ev_lst, ev_fix, ev_new, ev_fn, ev_cal, ev_chain, ev_nopart, ev_part, ev_slice, ev_yes, ev_src, bind_ok, bindN_ok, bindS_ok, bind_assoc', asB_bl, asO_int, List.set_cons_succ, List.set_cons_zero, List.length_cons, List.length_nil, Nat.zero_add, Nat.reduceAdd, if_true, DL.add_int, DL.sub_int, DL.cmp_int, DL.eq_int, DL.ne_int, DL.eq_str, DL.ne_str, DL.neg_int, DL.len_tup, DL.len_lst, DL.tuple_tup, DL.tuple_lst, DL.cut_tup, DL.cut_lst, gSeq, List.length_cons, List.length_nil, if_true]
  refine okR_ok ?_
  refine ok_seq (ok_set ?_)
  simp only [ev_c, ev_var0, ev_varS, ev_nil, ev_cons, ev_op, ev_un, ev_b', ev_and, ev_or, ev_not, ev_if, ev_andV, ev_orV, ev_notV, ev_tup, ev_lst, ev_fix, ev_new, ev_fn, ev_cal, ev_chain, ev_nopart, ev_part, ev_slice, ev_yes, ev_src, bind_ok, bindN_ok, bindS_ok, bind_assoc', asB_bl, asO_int, List.set_cons_succ, List.set_cons_zero, List.length_cons, List.length_nil, Nat.zero_add, Nat.reduceAdd, if_true, DL.add_int, DL.sub_int, DL.cmp_int, DL.eq_int, DL.ne_int, DL.eq_str, DL.ne_str, DL.neg_int, DL.len_tup, DL.len_lst, DL.tuple_tup, DL.tuple_lst, DL.cut_tup, DL.cut_lst, pGe]
  -- the doing that is copied
  have look : ∀ (v : D), IntIn 0 many v → ∃ t, dIx (.tup ts) v st = .ok t st ∧ IntIn 0 many t := by
    rintro v ⟨k, rfl, k0, k1⟩
    obtain ⟨t, ht, htm⟩ := at_mem (ds := ts) (n := k.toNat) (by omega)
    exact ⟨t, ix_tup (n := k.toNat) (by omega) ht, tin t htm⟩
  have copied : ∃ v, (if decide (ago ≤ (i : Int)) = true then ((dIx (.lst rows) (.int other) st).bind fun x st => dIx x (.int ((i : Int) - ago)) st) else dIx (.tup before) (.int other) st) = .ok v st ∧ IntIn 0 many v := by
    by_cases ha : ago ≤ (i : Int)
    · simp only [ha, decide_true, if_true]
      have e1 : dIx (.lst rows) (.int other) st = .ok (.ref (b + other.toNat)) st := ix_lst (n := other.toNat) (by omega) (hr _ (by omega))
      rw [e1, bind_ok]
      obtain ⟨xs, ex, lx, inx⟩ := c other.toNat (by omega)
      have ll : i ≤ xs.length := by rw [lx]; dsimp only; split <;> omega
      obtain ⟨v, hv, hvm⟩ := at_mem (ds := xs) (n := ((i : Int) - ago).toNat) (by omega)
      exact ⟨v, ix_ref ex (n := ((i : Int) - ago).toNat) (by omega) hv, inx v hvm⟩
    · simp only [ha, decide_false, Bool.false_eq_true, if_false]
      obtain ⟨v, hv, hvm⟩ := at_mem (ds := before) (n := other.toNat) (by omega)
      exact ⟨v, ix_tup (n := other.toNat) (by omega) hv, hbi v hvm⟩
  obtain ⟨v, ev, vin⟩ := copied
  rw [ev, bind_ok]
  obtain ⟨t, et, tin'⟩ := look v vin
  rw [et]
  refine okR_ok (ok_seq (ok_ifS ?_))
  try simp only [ev_c, ev_var0, ev_varS, ev_nil, ev_cons, ev_op, ev_un, ev_b', ev_and, ev_or, ev_not, ev_if, ev_andV, ev_orV, ev_notV, ev_tup, ev_lst, ev_fix, ev_new, ev_fn, ev_cal, ev_chain, ev_nopart, ev_part, ev_slice, ev_yes, ev_src, bind_ok, bindN_ok, bindS_ok, bind_assoc', asB_bl, asO_int, List.set_cons_succ, List.set_cons_zero, List.length_cons, List.length_nil, Nat.zero_add, Nat.reduceAdd, if_true, DL.add_int, DL.sub_int, DL.cmp_int, DL.eq_int, DL.ne_int, DL.eq_str, DL.ne_str, DL.neg_int, DL.len_tup, DL.len_lst, DL.tuple_tup, DL.tuple_lst, DL.cut_tup, DL.cut_lst]
  refine draw_bind x (by omega) s0 s1 fun r st1 r0 r1 x1 o1 l1 => ?_
  try simp only [ev_c, ev_var0, ev_varS, ev_nil, ev_cons, ev_op, ev_un, ev_b', ev_and, ev_or, ev_not, ev_if, ev_andV, ev_orV, ev_notV, ev_tup, ev_lst, ev_fix, ev_new, ev_fn, ev_cal, ev_chain, ev_nopart, ev_part, ev_slice, ev_yes, ev_src, bind_ok, bindN_ok, bindS_ok, bind_assoc', asB_bl, asO_int, List.set_cons_succ, List.set_cons_zero, List.length_cons, List.length_nil, Nat.zero_add, Nat.reduceAdd, if_true, DL.add_int, DL.sub_int, DL.cmp_int, DL.eq_int, DL.ne_int, DL.eq_str, DL.ne_str, DL.neg_int, DL.len_tup, DL.len_lst, DL.tuple_tup, DL.tuple_lst, DL.cut_tup, DL.cut_lst]
  have hr9 : dIx (.lst rows) (.int (j : Int)) st1 = .ok (.ref (b + j)) st1 := ix_lst (n := j) rfl (hr _ hj)
  -- the end: the doing is put behind the row
  have fin : ∀ (dg : D) (st2 : Sto), IntIn 0 many dg → Ho st2 h (n + 2) → Onl h st1 st2 → OkR ((mDrop (mMt "list" dApp (mOp dIx (mVar 7) (mVar 9)) (mCons (mVar 13) mNil)))
      [some (.ref h), some long, some (.int many), some (.int count), some (.tup before), some (.lst ways), some (.int strange), some (.lst rows), some (.int i), some (.int j), some (.int other), some (.int ago), some (.tup ts), some dg, none, none] st2)
      fun f st' => ∃ w10 w11 w12 w13, f = .nx [some (.ref h), some long, some (.int many), some (.int count), some (.tup before), some (.lst ways), some (.int strange), some (.lst rows), some (.int i), some (.int j), w10, w11, w12, w13, none, none] ∧
      Ho st' h (n + 2) ∧ Onl h st0 st' ∧ Cells st' b count (fun k => if k < j + 1 then i + 1 else i) many := by
    intro dg st2 hdg x2 o2
    have c2 : Cells st2 b count (fun k => if k < j then i + 1 else i) many := c.onl (o1.trans o2) (by omega)
    obtain ⟨xs, ex, lx, inx⟩ := c2 j hj
    refine ok_drop ?_
    have hr92 : dIx (.lst rows) (.int (j : Int)) st2 = .ok (.ref (b + j)) st2 := ix_lst (n := j) rfl (hr _ hj)
    have bl : b + j < st2.length := (List.getElem?_eq_some_iff.mp ex).1
    have lx' : xs.length = i := by rw [lx]; simp
    have room : xs.length < sizeLine := by
      rw [lx', sizeLine_eq]; omega
    simp only [ev_mt, ev_c, ev_var0, ev_varS, ev_nil, ev_cons, ev_op, ev_un, ev_b', ev_and, ev_or, ev_not, ev_if, ev_andV, ev_orV, ev_notV, ev_tup, ev_lst, ev_fix, ev_new, ev_fn, ev_cal, ev_chain, ev_nopart, ev_part, ev_slice, ev_yes, ev_src, bind_ok, bindN_ok, bindS_ok, bind_assoc', asB_bl, asO_int, List.set_cons_succ, List.set_cons_zero, List.length_cons, List.length_nil, Nat.zero_add, Nat.reduceAdd, if_true, DL.add_int, DL.sub_int, DL.cmp_int, DL.eq_int, DL.ne_int, DL.eq_str, DL.ne_str, DL.neg_int, DL.len_tup, DL.len_lst, DL.tuple_tup, DL.tuple_lst, DL.cut_tup, DL.cut_lst, hr92, ty_cell ex, app_by ex room]
    refine okR_ok ⟨_, _, _, _, rfl, x2.keep (List.getElem?_set_ne (by omega)), ?_, fun k hk => ?_⟩
    · have oo := (o.trans o1).trans o2
      refine ⟨by rw [List.length_set]; exact oo.le, fun z hz hh => ?_⟩
      rw [List.getElem?_set_ne (by omega)]
      exact oo.same z hz hh
    · by_cases hkj : k = j
      · subst hkj
        refine ⟨xs ++ [dg], List.getElem?_set_self bl, ?_, fun y hy => ?_⟩
        · rw [List.length_append, lx']
          show i + 1 = if k < k + 1 then i + 1 else i
          rw [if_pos (Nat.lt_succ_self _)]
        · rcases List.mem_append.mp hy with z | z
          · exact inx y z
          · have e : y = dg := by simpa using z
            rw [e]; exact hdg
      · obtain ⟨ys, ey, ly, iny⟩ := c2 k hk
        refine ⟨ys, by rw [List.getElem?_set_ne (by omega)]; exact ey, ?_, iny⟩
        rw [ly]
        dsimp only
        by_cases hlt : k < j
        · rw [if_pos hlt, if_pos (by omega)]
        · rw [if_neg hlt, if_neg (by omega)]
  refine okR_ok ⟨fun _ => ?_, fun _ => ok_next ?_⟩
  · refine ok_set ?_
    try simp only [ev_c, ev_var0, ev_varS, ev_nil, ev_cons, ev_op, ev_un, ev_b', ev_and, ev_or, ev_not, ev_if, ev_andV, ev_orV, ev_notV, ev_tup, ev_lst, ev_fix, ev_new, ev_fn, ev_cal, ev_chain, ev_nopart, ev_part, ev_slice, ev_yes, ev_src, bind_ok, bindN_ok, bindS_ok, bind_assoc', asB_bl, asO_int, List.set_cons_succ, List.set_cons_zero, List.length_cons, List.length_nil, Nat.zero_add, Nat.reduceAdd, if_true, DL.add_int, DL.sub_int, DL.cmp_int, DL.eq_int, DL.ne_int, DL.eq_str, DL.ne_str, DL.neg_int, DL.len_tup, DL.len_lst, DL.tuple_tup, DL.tuple_lst, DL.cut_tup, DL.cut_lst]
    refine (draw_ok x1 (by omega) (by omega) (by omega)).imp fun d st2 ⟨r, er, r0, r1, xx, oo, ll⟩ => ?_
    exact fin d st2 ⟨r, er, r0, r1⟩ (xx.mono (by omega)) oo
  · exact fin t st1 tin' (x1.mono (by omega)) (.refl _ _)
/-- new empty rows -/
theorem empties_ok {rho : En} {st : Sto} {e : ME} {count ix : Nat} (he : e rho st = .ok (.int count) st) (hc : count ≤ 100) : OkR (mLc (mRng1 (mCons e mNil)) (gNm ix) mYes (mNew (mLst mNil)) [ix] rho st)
    fun ds st' => ds = (List.range count).map (fun j => .ref (st.length + j)) ∧ st' = st ++ List.replicate count (.lst []) := by
  refine lc_bind (rng1_ok he (by omega)) ?_
  have hl : (rgD 0 (count : Int)).length = count := by rw [rgD_length]; omega
  refine (lc_ok (fun i acc st' => i ≤ count ∧ acc = (List.range i).map (fun j => .ref (st.length + j)) ∧ st' = st ++ List.replicate i (.lst [])) (rgD 0 count) (fun _ _ _ _ => good_nil) (fun i d acc st' hd inv => ?_) ⟨Nat.zero_le _, rfl, by simp⟩).imp fun ds st' z => ?_
  · obtain ⟨hi, rfl, rfl⟩ := inv
    have hlt : i < count := by rw [← hl]; exact (List.getElem?_eq_some_iff.mp hd).1
    refine okR_ok (okR_ok ?_)
    rw [if_pos rfl]
    simp only [ev_c, ev_var0, ev_varS, ev_nil, ev_cons, ev_op, ev_un, ev_b', ev_and, ev_or, ev_not, ev_if, ev_andV, ev_orV, ev_notV, ev_tup, ev_lst, ev_fix, ev_new, ev_fn, ev_cal, ev_chain, ev_nopart, ev_part, ev_slice, ev_yes, ev_src, bind_ok, bindN_ok, bindS_ok, bind_assoc', asB_bl, asO_int, List.set_cons_succ, List.set_cons_zero, List.length_cons, List.length_nil, Nat.zero_add, Nat.reduceAdd, if_true, DL.add_int, DL.sub_int, DL.cmp_int, DL.eq_int, DL.ne_int, DL.eq_str, DL.ne_str, DL.neg_int, DL.len_tup, DL.len_lst, DL.tuple_tup, DL.tuple_lst, DL.cut_tup, DL.cut_lst, if_pos (Nat.zero_le sizeLine)]
    refine okR_ok ⟨?_, by omega, ?_, ?_⟩
    · rw [List.length_map, List.length_range, sizeLine_eq]; omega
    · rw [List.range_succ, List.map_append, List.length_append, List.length_replicate]; rfl
    · rw [List.append_assoc, List.replicate_succ']
  · rw [hl] at z
    exact ⟨z.2.1, z.2.2⟩
theorem rng1_bind {rho : En} {st : Sto} {e : ME} {P : Src → Sto → Prop} (h : OkR (e rho st) fun d st1 => ∃ j : Int, d = .int j ∧ (-(2 ^ 62) ≤ j ∧ j < 2 ^ 62) ∧ P ⟨rgD 0 j, []⟩ st1) : OkR (mRng1 (mCons e mNil) rho st) P := by
  obtain ⟨d, st1, e1, j, rfl, hj, p⟩ := h
  unfold mRng1
  simp only [ev_cons, ev_nil, e1, bind_ok, if_pos hj]
  exact okR_ok p
theorem some_seen_ok {st : Sto} {h n : Nat} {long : Int} (x : Ho st h n) (hn : n < 2 ^ 58) (h0 : 1 ≤ long) (h1 : long ≤ 300) : OkR (Lib.g__law_some_seen [.ref h, .int long] st) fun d st' => SeenD long d ∧ Ho st' h (n + 5000) ∧ Onl h st st' := by
  refine ok_fn ?_
  show OkR (Lib.m__law_some_seen [some (.ref h), some (.int long), none, none, none, none, none, none, none, none, none, none, none, none, none, none] st) _
  have s3 : 3 ≤ sizeLine := small_line (by omega)
  have s4 : 4 ≤ sizeLine := small_line (by omega)
  -- many
  refine ok_seq (ok_set ?_)
  try simp only [ev_c, ev_var0, ev_varS, ev_nil, ev_cons, ev_op, ev_un, ev_b', ev_and, ev_or, ev_not, ev_if, ev_andV, ev_orV, ev_notV, ev_tup, ev_lst, ev_fix, ev_new, ev_fn, ev_cal, ev_chain, ev_nopart, ev_part, ev_slice, ev_yes, ev_src, bind_ok, bindN_ok, bindS_ok, bind_assoc', asB_bl, asO_int, List.set_cons_succ, List.set_cons_zero, List.length_cons, List.length_nil, Nat.zero_add, Nat.reduceAdd, if_true, DL.add_int, DL.sub_int, DL.cmp_int, DL.eq_int, DL.ne_int, DL.eq_str, DL.ne_str, DL.neg_int, DL.len_tup, DL.len_lst, DL.tuple_tup, DL.tuple_lst, DL.cut_tup, DL.cut_lst]
  refine draw_bind x (by omega) (by decide) (by decide) fun m0 st1 a1 b1 x1 o1 l1 => ?_
  simp only [ev_c, ev_var0, ev_varS, ev_nil, ev_cons, ev_op, ev_un, ev_b', ev_and, ev_or, ev_not, ev_if, ev_andV, ev_orV, ev_notV, ev_tup, ev_lst, ev_fix, ev_new, ev_fn, ev_cal, ev_chain, ev_nopart, ev_part, ev_slice, ev_yes, ev_src, bind_ok, bindN_ok, bindS_ok, bind_assoc', asB_bl, asO_int, List.set_cons_succ, List.set_cons_zero, List.length_cons, List.length_nil, Nat.zero_add, Nat.reduceAdd, if_true, DL.add_int, DL.sub_int, DL.cmp_int, DL.eq_int, DL.ne_int, DL.eq_str, DL.ne_str, DL.neg_int, DL.len_tup, DL.len_lst, DL.tuple_tup, DL.tuple_lst, DL.cut_tup, DL.cut_lst, if_pos s3]
  refine draw_bind x1 (by omega) (by decide) (by decide) fun m1 st2 a2 b2 x2 o2 l2 => ?_
  obtain ⟨many, em, mp, mq⟩ : ∃ many : Int, dIx (.lst [.int (1 + m0), .int 2, .int 3]) (.int m1) st2 = .ok (.int many) st2 ∧ 1 ≤ many ∧ many ≤ 9 := by
    rcases (by omega : m1 = 0 ∨ m1 = 1 ∨ m1 = 2) with rfl | rfl | rfl
    · exact ⟨_, ix_lst (n := 0) rfl rfl, by omega, by omega⟩
    · exact ⟨_, ix_lst (n := 1) rfl rfl, by omega, by omega⟩
    · exact ⟨_, ix_lst (n := 2) rfl rfl, by omega, by omega⟩
  rw [em]
  refine okR_ok (ok_seq (ok_set ?_))
  -- count
  try simp only [ev_c, ev_var0, ev_varS, ev_nil, ev_cons, ev_op, ev_un, ev_b', ev_and, ev_or, ev_not, ev_if, ev_andV, ev_orV, ev_notV, ev_tup, ev_lst, ev_fix, ev_new, ev_fn, ev_cal, ev_chain, ev_nopart, ev_part, ev_slice, ev_yes, ev_src, bind_ok, bindN_ok, bindS_ok, bind_assoc', asB_bl, asO_int, List.set_cons_succ, List.set_cons_zero, List.length_cons, List.length_nil, Nat.zero_add, Nat.reduceAdd, if_true, DL.add_int, DL.sub_int, DL.cmp_int, DL.eq_int, DL.ne_int, DL.eq_str, DL.ne_str, DL.neg_int, DL.len_tup, DL.len_lst, DL.tuple_tup, DL.tuple_lst, DL.cut_tup, DL.cut_lst]
  refine draw_bind x2 (by omega) (by decide) (by decide) fun c0 st3 a3 b3 x3 o3 l3 => ?_
  try simp only [ev_c, ev_var0, ev_varS, ev_nil, ev_cons, ev_op, ev_un, ev_b', ev_and, ev_or, ev_not, ev_if, ev_andV, ev_orV, ev_notV, ev_tup, ev_lst, ev_fix, ev_new, ev_fn, ev_cal, ev_chain, ev_nopart, ev_part, ev_slice, ev_yes, ev_src, bind_ok, bindN_ok, bindS_ok, bind_assoc', asB_bl, asO_int, List.set_cons_succ, List.set_cons_zero, List.length_cons, List.length_nil, Nat.zero_add, Nat.reduceAdd, if_true, DL.add_int, DL.sub_int, DL.cmp_int, DL.eq_int, DL.ne_int, DL.eq_str, DL.ne_str, DL.neg_int, DL.len_tup, DL.len_lst, DL.tuple_tup, DL.tuple_lst, DL.cut_tup, DL.cut_lst]
  obtain ⟨count, hcount⟩ : ∃ count : Nat, 1 + c0 = (count : Int) := ⟨(1 + c0).toNat, by omega⟩
  rw [hcount]
  have cp : 1 ≤ count := by omega
  have cq : count ≤ 6 := by omega
  have o13 := (o1.trans o2).trans o3
  refine okR_ok (ok_seq (ok_set ?_))
  -- before
  have hlc : (rgD 0 (count : Int)).length = count := by rw [rgD_length]; omega
  have eB : OkR ((mLc (mRng1 (mCons (mVar 3) mNil)) (gNm 14) mYes (mCal 2 Lib.g__law_draw (mCons (mVar 0) (mCons (mVar 2) mNil))) [14]) [some (.ref h), some (.int long), some (.int many), some (.int count), none, none, none, none, none, none, none, none, none, none, none, none] st3)
      fun ds st' => ds.length = count ∧ (∀ d ∈ ds, IntIn 0 many d) ∧ Ho st' h (n + 9) ∧ Onl h st st' := by
    refine lc_bind (rng1_ok (j := count) rfl (by omega)) ?_
    refine (lc_draws (k := 1) (IntIn 0 many) (rgD 0 count) (by rw [hlc, sizeLine_eq]; omega) rfl x3 fun i d st' hi hd x' o' => ?_).imp fun ds st' ⟨q1, q2, q3, q4⟩ => ⟨q1.trans hlc, q2, q3.mono (by omega), o13.trans q4⟩
    refine okR_ok ⟨rfl, ?_⟩
    simp only [wipeR, ev_c, ev_var0, ev_varS, ev_nil, ev_cons, ev_op, ev_un, ev_b', ev_and, ev_or, ev_not, ev_if, ev_andV, ev_orV, ev_notV, ev_tup, ev_lst, ev_fix, ev_new, ev_fn, ev_cal, ev_chain, ev_nopart, ev_part, ev_slice, ev_yes, ev_src, bind_ok, bindN_ok, bindS_ok, bind_assoc', asB_bl, asO_int, List.set_cons_succ, List.set_cons_zero, List.length_cons, List.length_nil, Nat.zero_add, Nat.reduceAdd, if_true, DL.add_int, DL.sub_int, DL.cmp_int, DL.eq_int, DL.ne_int, DL.eq_str, DL.ne_str, DL.neg_int, DL.len_tup, DL.len_lst, DL.tuple_tup, DL.tuple_lst, DL.cut_tup, DL.cut_lst]
    exact (draw_ok x' (by rw [hlc] at hi; omega) (by omega) (by omega)).imp fun d2 st2 ⟨r, er, r0, r1, xx, oo, ll⟩ => ⟨⟨r, er, r0, r1⟩, xx.mono (by omega), o'.trans oo⟩
  try simp only [ev_c, ev_var0, ev_varS, ev_nil, ev_cons, ev_op, ev_un, ev_b', ev_and, ev_or, ev_not, ev_if, ev_andV, ev_orV, ev_notV, ev_tup, ev_lst, ev_fix, ev_new, ev_fn, ev_cal, ev_chain, ev_nopart, ev_part, ev_slice, ev_yes, ev_src, bind_ok, bindN_ok, bindS_ok, bind_assoc', asB_bl, asO_int, List.set_cons_succ, List.set_cons_zero, List.length_cons, List.length_nil, Nat.zero_add, Nat.reduceAdd, if_true, DL.add_int, DL.sub_int, DL.cmp_int, DL.eq_int, DL.ne_int, DL.eq_str, DL.ne_str, DL.neg_int, DL.len_tup, DL.len_lst, DL.tuple_tup, DL.tuple_lst, DL.cut_tup, DL.cut_lst]
  refine eB.bind fun before st4 ⟨hbe, hbi, x4, o4⟩ => ?_
  refine okR_ok (ok_seq (ok_set ?_))
  -- ways
  have eW : OkR ((mLc (mRng1 (mCons (mVar 3) mNil)) (gNm 14) mYes (mTup (mCons (mCal 2 Lib.g__law_draw (mCons (mVar 0) (mCons (mVar 3) mNil))) (mCons (mOp dAdd (mC (.int 1)) (mCal 2 Lib.g__law_draw (mCons (mVar 0) (mCons (mC (.int 12)) mNil)))) (mCons (mCal 2 Lib.g__law_shift (mCons (mVar 0) (mCons (mVar 2) mNil))) mNil)))) [14])
      [some (.ref h), some (.int long), some (.int many), some (.int count), some (.tup before), none, none, none, none, none, none, none, none, none, none, none] st4)
      fun ds st' => ds.length = count ∧ (∀ d ∈ ds, Way count many d) ∧ Ho st' h (n + 200) ∧ Onl h st st' := by
    refine lc_bind (rng1_ok (j := count) rfl (by omega)) ?_
    refine (lc_draws (k := 22) (Way count many) (rgD 0 count) (by rw [hlc, sizeLine_eq]; omega) rfl x4 fun i d st' hi hd x' o' => ?_).imp fun ds st' ⟨q1, q2, q3, q4⟩ => ⟨q1.trans hlc, q2, q3.mono (by omega), o4.trans q4⟩
    refine okR_ok ⟨rfl, ?_⟩
    rw [hlc] at hi
    simp only [wipeR, ev_c, ev_var0, ev_varS, ev_nil, ev_cons, ev_op, ev_un, ev_b', ev_and, ev_or, ev_not, ev_if, ev_andV, ev_orV, ev_notV, ev_tup, ev_lst, ev_fix, ev_new, ev_fn, ev_cal, ev_chain, ev_nopart, ev_part, ev_slice, ev_yes, ev_src, bind_ok, bindN_ok, bindS_ok, bind_assoc', asB_bl, asO_int, List.set_cons_succ, List.set_cons_zero, List.length_cons, List.length_nil, Nat.zero_add, Nat.reduceAdd, if_true, DL.add_int, DL.sub_int, DL.cmp_int, DL.eq_int, DL.ne_int, DL.eq_str, DL.ne_str, DL.neg_int, DL.len_tup, DL.len_lst, DL.tuple_tup, DL.tuple_lst, DL.cut_tup, DL.cut_lst]
    refine draw_bind x' (by omega) (by omega) (by omega) fun other st5 p0 p1 x5 o5 l5 => ?_
    try simp only [ev_c, ev_var0, ev_varS, ev_nil, ev_cons, ev_op, ev_un, ev_b', ev_and, ev_or, ev_not, ev_if, ev_andV, ev_orV, ev_notV, ev_tup, ev_lst, ev_fix, ev_new, ev_fn, ev_cal, ev_chain, ev_nopart, ev_part, ev_slice, ev_yes, ev_src, bind_ok, bindN_ok, bindS_ok, bind_assoc', asB_bl, asO_int, List.set_cons_succ, List.set_cons_zero, List.length_cons, List.length_nil, Nat.zero_add, Nat.reduceAdd, if_true, DL.add_int, DL.sub_int, DL.cmp_int, DL.eq_int, DL.ne_int, DL.eq_str, DL.ne_str, DL.neg_int, DL.len_tup, DL.len_lst, DL.tuple_tup, DL.tuple_lst, DL.cut_tup, DL.cut_lst]
    refine draw_bind x5 (by omega) (by decide) (by decide) fun ago st6 p2 p3 x6 o6 l6 => ?_
    try simp only [ev_c, ev_var0, ev_varS, ev_nil, ev_cons, ev_op, ev_un, ev_b', ev_and, ev_or, ev_not, ev_if, ev_andV, ev_orV, ev_notV, ev_tup, ev_lst, ev_fix, ev_new, ev_fn, ev_cal, ev_chain, ev_nopart, ev_part, ev_slice, ev_yes, ev_src, bind_ok, bindN_ok, bindS_ok, bind_assoc', asB_bl, asO_int, List.set_cons_succ, List.set_cons_zero, List.length_cons, List.length_nil, Nat.zero_add, Nat.reduceAdd, if_true, DL.add_int, DL.sub_int, DL.cmp_int, DL.eq_int, DL.ne_int, DL.eq_str, DL.ne_str, DL.neg_int, DL.len_tup, DL.len_lst, DL.tuple_tup, DL.tuple_lst, DL.cut_tup, DL.cut_lst]
    refine (shift_ok x6 (by omega) (by omega) (by omega)).bind fun turn st7 ⟨ht, x7, o7⟩ => ?_
    simp only [ev_c, ev_var0, ev_varS, ev_nil, ev_cons, ev_op, ev_un, ev_b', ev_and, ev_or, ev_not, ev_if, ev_andV, ev_orV, ev_notV, ev_tup, ev_lst, ev_fix, ev_new, ev_fn, ev_cal, ev_chain, ev_nopart, ev_part, ev_slice, ev_yes, ev_src, bind_ok, bindN_ok, bindS_ok, bind_assoc', asB_bl, asO_int, List.set_cons_succ, List.set_cons_zero, List.length_cons, List.length_nil, Nat.zero_add, Nat.reduceAdd, if_true, DL.add_int, DL.sub_int, DL.cmp_int, DL.eq_int, DL.ne_int, DL.eq_str, DL.ne_str, DL.neg_int, DL.len_tup, DL.len_lst, DL.tuple_tup, DL.tuple_lst, DL.cut_tup, DL.cut_lst, if_pos s3]
    exact okR_ok ⟨⟨other, 1 + ago, turn, rfl, p0, p1, by omega, ht⟩, x7.mono (by omega), ((o'.trans o5).trans o6).trans o7⟩
  try simp only [ev_c, ev_var0, ev_varS, ev_nil, ev_cons, ev_op, ev_un, ev_b', ev_and, ev_or, ev_not, ev_if, ev_andV, ev_orV, ev_notV, ev_tup, ev_lst, ev_fix, ev_new, ev_fn, ev_cal, ev_chain, ev_nopart, ev_part, ev_slice, ev_yes, ev_src, bind_ok, bindN_ok, bindS_ok, bind_assoc', asB_bl, asO_int, List.set_cons_succ, List.set_cons_zero, List.length_cons, List.length_nil, Nat.zero_add, Nat.reduceAdd, if_true, DL.add_int, DL.sub_int, DL.cmp_int, DL.eq_int, DL.ne_int, DL.eq_str, DL.ne_str, DL.neg_int, DL.len_tup, DL.len_lst, DL.tuple_tup, DL.tuple_lst, DL.cut_tup, DL.cut_lst]
  refine eW.bind fun ways st5 ⟨hw, hwi, x5, o5⟩ => ?_
  refine okR_ok (ok_seq (ok_set ?_))
  -- strange
  have b4 : Builtin.Int.intBits 10 ≤ 4 := bits_le (by decide) (by decide)
  have w6 : CPowW 10 6 := ⟨by decide, by omega⟩
  simp only [ev_c, ev_var0, ev_varS, ev_nil, ev_cons, ev_op, ev_un, ev_b', ev_and, ev_or, ev_not, ev_if, ev_andV, ev_orV, ev_notV, ev_tup, ev_lst, ev_fix, ev_new, ev_fn, ev_cal, ev_chain, ev_nopart, ev_part, ev_slice, ev_yes, ev_src, bind_ok, bindN_ok, bindS_ok, bind_assoc', asB_bl, asO_int, List.set_cons_succ, List.set_cons_zero, List.length_cons, List.length_nil, Nat.zero_add, Nat.reduceAdd, if_true, DL.add_int, DL.sub_int, DL.cmp_int, DL.eq_int, DL.ne_int, DL.eq_str, DL.ne_str, DL.neg_int, DL.len_tup, DL.len_lst, DL.tuple_tup, DL.tuple_lst, DL.cut_tup, DL.cut_lst, pow_int' w6, if_pos s4]
  refine draw_bind x5 (by omega) (by decide) (by decide) fun g0 st6 a6 b6 x6 o6 l6 => ?_
  obtain ⟨strange, es, sp, sq⟩ : ∃ strange : Int, dIx (.lst [.int 1, .int 4, .int 30, .int (10 ^ (6 : Int).toNat)]) (.int g0) st6 = .ok (.int strange) st6 ∧ 0 < strange ∧ strange < 2 ^ 64 := by
    rcases (by omega : g0 = 0 ∨ g0 = 1 ∨ g0 = 2 ∨ g0 = 3) with rfl | rfl | rfl | rfl
    · exact ⟨_, ix_lst (n := 0) rfl rfl, by omega, by omega⟩
    · exact ⟨_, ix_lst (n := 1) rfl rfl, by omega, by omega⟩
    · exact ⟨_, ix_lst (n := 2) rfl rfl, by omega, by omega⟩
    · exact ⟨_, ix_lst (n := 3) rfl rfl, by decide, by decide⟩
  rw [es]
  have o06 := o5.trans o6
  refine okR_ok (ok_seq (ok_set ?_))
  -- rows
  try simp only [ev_c, ev_var0, ev_varS, ev_nil, ev_cons, ev_op, ev_un, ev_b', ev_and, ev_or, ev_not, ev_if, ev_andV, ev_orV, ev_notV, ev_tup, ev_lst, ev_fix, ev_new, ev_fn, ev_cal, ev_chain, ev_nopart, ev_part, ev_slice, ev_yes, ev_src, bind_ok, bindN_ok, bindS_ok, bind_assoc', asB_bl, asO_int, List.set_cons_succ, List.set_cons_zero, List.length_cons, List.length_nil, Nat.zero_add, Nat.reduceAdd, if_true, DL.add_int, DL.sub_int, DL.cmp_int, DL.eq_int, DL.ne_int, DL.eq_str, DL.ne_str, DL.neg_int, DL.len_tup, DL.len_lst, DL.tuple_tup, DL.tuple_lst, DL.cut_tup, DL.cut_lst]
  refine (empties_ok (count := count) (e := mVar 3) rfl (by omega)).bind fun rows st7 ⟨erows, e7⟩ => ?_
  refine okR_ok (ok_seq (ok_for ?_))
  have hr : ∀ k, k < count → rows[k]? = some (.ref (st6.length + k)) := fun k hk => by
    rw [erows, List.getElem?_map, List.getElem?_range hk]; rfl
  have hrl : rows.length = count := by rw [erows, List.length_map, List.length_range]
  have x7 : Ho st7 h (n + 201) := by rw [e7]; exact x6.keep (List.getElem?_append_left x6.lt)
  have o7 : Onl h st st7 := by
    rw [e7]
    exact o06.trans ⟨by simp, fun i hi _ => List.getElem?_append_left hi⟩
  have c7 : Cells st7 st6.length count (fun _ => 0) many := fun j hj => ⟨[], by
    rw [e7, List.getElem?_append_right (by omega), Nat.add_sub_cancel_left, List.getElem?_replicate, if_pos hj], rfl, fun _ z => nomatch z⟩
  have hb : st.length ≤ st6.length := o06.le
  generalize st6.length = b at *
  clear e7 erows
  refine rng1_bind ?_
  simp only [ev_c, ev_var0, ev_varS, ev_nil, ev_cons, ev_op, ev_un, ev_b', ev_and, ev_or, ev_not, ev_if, ev_andV, ev_orV, ev_notV, ev_tup, ev_lst, ev_fix, ev_new, ev_fn, ev_cal, ev_chain, ev_nopart, ev_part, ev_slice, ev_yes, ev_src, bind_ok, bindN_ok, bindS_ok, bind_assoc', asB_bl, asO_int, List.set_cons_succ, List.set_cons_zero, List.length_cons, List.length_nil, Nat.zero_add, Nat.reduceAdd, if_true, DL.add_int, DL.sub_int, DL.cmp_int, DL.eq_int, DL.ne_int, DL.eq_str, DL.ne_str, DL.neg_int, DL.len_tup, DL.len_lst, DL.tuple_tup, DL.tuple_lst, DL.cut_tup, DL.cut_lst]
  refine draw_bind x7 (by omega) (by omega) (by omega) fun l0 st8 a8 b8 x8 o8 l8 => ?_
  obtain ⟨beats, hbeats⟩ : ∃ beats : Nat, 1 + l0 = (beats : Int) := ⟨(1 + l0).toNat, by omega⟩
  refine okR_ok ⟨1 + l0, rfl, by omega, ?_⟩
  rw [hbeats]
  have hlb : (rgD 0 (beats : Int)).length = beats := by rw [rgD_length]; omega
  have c8 : Cells st8 b count (fun _ => 0) many := c7.onl o8 (by have := x.lt; omega)
  let Env (v8 v9 v10 v11 v12 v13 : Option D) : En := [some (.ref h), some (.int long), some (.int many), some (.int count), some (.tup before), some (.lst ways), some (.int strange), some (.lst rows), v8, v9, v10, v11, v12, v13, none, none]
  refine for_ok (fun i rho st' => i ≤ beats ∧ (∃ v8 v9 v10 v11 v12 v13, rho = Env v8 v9 v10 v11 v12 v13) ∧ Ho st' h (n + 202 + 2 * count * i) ∧ Onl h st st' ∧ Cells st' b count (fun _ => i) many) (rgD 0 beats) (fun _ _ _ _ => good_nil) (fun i d rho st' hd inv => ?_) (fun rho st' inv => ?_)
    ⟨Nat.zero_le _, ⟨_, _, _, _, _, _, rfl⟩, x8, o7.trans o8, c8⟩
  · obtain ⟨hi, ⟨v8, v9, v10, v11, v12, v13, rfl⟩, x', o', c'⟩ := inv
    have hlt : i < beats := by rw [← hlb]; exact (List.getElem?_eq_some_iff.mp hd).1
    have ed : d = .int i := by
      rw [rgD_at (by omega)] at hd
      rw [← Option.some.inj hd, Int.zero_add]
    subst ed
    refine okR_ok (ok_for ?_)
    refine rng1_bind (okR_ok ⟨count, rfl, by omega, ?_⟩)
    refine for_ok (fun j rho st2 => j ≤ count ∧ (∃ v9 v10 v11 v12 v13, rho = Env (some (.int i)) v9 v10 v11 v12 v13) ∧ Ho st2 h (n + 202 + 2 * count * i + 2 * j) ∧ Onl h st st2 ∧ Cells st2 b count (fun k => if k < j then i + 1 else i) many) (rgD 0 count) (fun _ _ _ _ => good_nil) (fun j d rho st2 hd inv => ?_) (fun rho st2 inv => ?_)
      ⟨Nat.zero_le _, ⟨_, _, _, _, _, rfl⟩, x', o', by simpa using c'⟩
    · obtain ⟨_, ⟨w9, w10, w11, w12, w13, rfl⟩, x2, o2, c2⟩ := inv
      have hj : j < count := by rw [← hlc]; exact (List.getElem?_eq_some_iff.mp hd).1
      have ed : d = .int j := by
        rw [rgD_at (by omega)] at hd
        rw [← Option.some.inj hd, Int.zero_add]
      subst ed
      have bnd : 2 * count * i ≤ 2 * 6 * 300 := Nat.mul_le_mul (by omega) (by omega)
      refine okR_ok ?_
      refine (seen_turn (st0 := st) (beforeT := .non) (v8 := none) (v9 := none) (v10 := w10) (v11 := w11) (v12 := w12) (v13 := w13) x2 (by omega) mp mq x.lt hb o2 sp sq hbe hbi hw hwi hr (by omega) hj c2).imp fun f st3 z => ?_
      obtain ⟨z10, z11, z12, z13, rfl, x3, o3, c3⟩ := z
      exact ⟨by omega, ⟨_, _, _, _, _, rfl⟩, x3.mono (by omega), o3, c3⟩
    · obtain ⟨_, ⟨w9, w10, w11, w12, w13, rfl⟩, x2, o2, c2⟩ := inv
      rw [hlc] at x2 c2
      refine ⟨by omega, ⟨_, _, _, _, _, _, rfl⟩, ?_, o2, fun k hk => ?_⟩
      · have e : n + 202 + 2 * count * i + 2 * count = n + 202 + 2 * count * (i + 1) := by rw [Nat.mul_succ]; omega
        rw [e] at x2
        exact x2
      · obtain ⟨xs, q1, q2, q3⟩ := c2 k hk
        dsimp only at q2
        rw [if_pos hk] at q2
        exact ⟨xs, q1, q2, q3⟩
  · obtain ⟨_, ⟨v8, v9, v10, v11, v12, v13, rfl⟩, x', o', c'⟩ := inv
    rw [hlb] at x' c'
    have bnd : 2 * count * beats ≤ 2 * 6 * 300 := Nat.mul_le_mul (by omega) (by omega)
    refine ok_ret ?_
    have eR : OkR ((mLc (mSrc (mVar 7)) (gNm 15) mYes (mFn dTuple (mCons (mVar 15) mNil)) [15]) (Env v8 v9 v10 v11 v12 v13) st') fun ds st2 => st2 = st' ∧ ds.length = count ∧ ∀ r ∈ ds, Row many beats r := by
      refine lc_bind (s := ⟨rows, []⟩) rfl ?_
      refine (lc_ok (fun i acc st2 => st2 = st' ∧ acc.length = i ∧ ∀ r ∈ acc, Row many beats r) rows (fun _ _ _ _ => good_nil) (fun i d acc st2 hd inv => ?_) ⟨rfl, rfl, fun _ z => nomatch z⟩).imp fun ds st2 ⟨z1, z2, z3⟩ => ⟨z1, z2.trans hrl, z3⟩
      obtain ⟨rfl, la, ra⟩ := inv
      have hi : i < count := by rw [← hrl]; exact (List.getElem?_eq_some_iff.mp hd).1
      have ed : d = .ref (b + i) := by
        rw [hr i hi] at hd
        exact (Option.some.inj hd).symm
      subst ed
      obtain ⟨xs, ex, lx, inx⟩ := c' i hi
      refine okR_ok (okR_ok ?_)
      rw [if_pos rfl]
      simp only [wipeR, Env, ev_c, ev_var0, ev_varS, ev_nil, ev_cons, ev_op, ev_un, ev_b', ev_and, ev_or, ev_not, ev_if, ev_andV, ev_orV, ev_notV, ev_tup, ev_lst, ev_fix, ev_new, ev_fn, ev_cal, ev_chain, ev_nopart, ev_part, ev_slice, ev_yes, ev_src, bind_ok, bindN_ok, bindS_ok, bind_assoc', asB_bl, asO_int, List.set_cons_succ, List.set_cons_zero, List.length_cons, List.length_nil, Nat.zero_add, Nat.reduceAdd, if_true, DL.add_int, DL.sub_int, DL.cmp_int, DL.eq_int, DL.ne_int, DL.eq_str, DL.ne_str, DL.neg_int, DL.len_tup, DL.len_lst, DL.tuple_tup, DL.tuple_lst, DL.cut_tup, DL.cut_lst, tuple_ref ex]
      refine okR_ok ⟨by rw [la, sizeLine_eq]; omega, rfl, by rw [List.length_append, la]; rfl, fun r hr => ?_⟩
      rcases List.mem_append.mp hr with z | z
      · exact ra r z
      · have e : r = .tup xs := by simpa using z
        exact ⟨xs, e, lx, inx⟩
    try simp only [Env, ev_c, ev_var0, ev_varS, ev_nil, ev_cons, ev_op, ev_un, ev_b', ev_and, ev_or, ev_not, ev_if, ev_andV, ev_orV, ev_notV, ev_tup, ev_lst, ev_fix, ev_new, ev_fn, ev_cal, ev_chain, ev_nopart, ev_part, ev_slice, ev_yes, ev_src, bind_ok, bindN_ok, bindS_ok, bind_assoc', asB_bl, asO_int, List.set_cons_succ, List.set_cons_zero, List.length_cons, List.length_nil, Nat.zero_add, Nat.reduceAdd, if_true, DL.add_int, DL.sub_int, DL.cmp_int, DL.eq_int, DL.ne_int, DL.eq_str, DL.ne_str, DL.neg_int, DL.len_tup, DL.len_lst, DL.tuple_tup, DL.tuple_lst, DL.cut_tup, DL.cut_lst]
    refine eR.bind fun rs st2 ⟨e2, hl2, hrs⟩ => ?_
    subst e2
    simp only [ev_c, ev_var0, ev_varS, ev_nil, ev_cons, ev_op, ev_un, ev_b', ev_and, ev_or, ev_not, ev_if, ev_andV, ev_orV, ev_notV, ev_tup, ev_lst, ev_fix, ev_new, ev_fn, ev_cal, ev_chain, ev_nopart, ev_part, ev_slice, ev_yes, ev_src, bind_ok, bindN_ok, bindS_ok, bind_assoc', asB_bl, asO_int, List.set_cons_succ, List.set_cons_zero, List.length_cons, List.length_nil, Nat.zero_add, Nat.reduceAdd, if_true, DL.add_int, DL.sub_int, DL.cmp_int, DL.eq_int, DL.ne_int, DL.eq_str, DL.ne_str, DL.neg_int, DL.len_tup, DL.len_lst, DL.tuple_tup, DL.tuple_lst, DL.cut_tup, DL.cut_lst, if_pos s3]
    exact okR_ok ⟨⟨many, before, rs, beats, rfl, mp, mq, by omega, by omega, hbi, by omega, by omega, by omega, hrs⟩, x'.mono (by omega), o'⟩
end DL

set_option Elab.async false
set_option linter.all false
set_option maxRecDepth 100000
set_option maxHeartbeats 2000000
/-! DDat: data without cells, as the library's plain data. -/
namespace DL
open PySem PySem.Spec PyProof.Rows L2

mutual
def pyD : D → PyData
  | .bl b => .bool b
  | .int i => .int i
  | .str x => .str x
  | .tup ds => .tuple (pyL ds)
  | .lst ds => .list (pyL ds)
  | _ => .none
def pyL : List D → List PyData
  | [] => []
  | d :: ds => pyD d :: pyL ds
end
mutual
/-- no cell within, small numbers -/
def fitD : D → Bool
  | .non => true
  | .bl _ => true
  | .int i => decide (i.natAbs < 10 ^ 11)
  | .str x => PyData.strOk x
  | .tup ds => fitL ds
  | .lst ds => fitL ds
  | _ => false
def fitL : List D → Bool
  | [] => true
  | d :: ds => fitD d && fitL ds
end
mutual
def hD : D → Nat
  | .tup ds => hL ds + 1
  | .lst ds => hL ds + 1
  | _ => 0
def hL : List D → Nat
  | [] => 0
  | d :: ds => max (hD d) (hL ds)
end
mutual
def wD : D → Nat
  | .int _ => 37
  | .str x => x.cps.size
  | .tup ds => wL ds
  | .lst ds => wL ds
  | _ => 0
def wL : List D → Nat
  | [] => 0
  | d :: ds => wD d + 1 + wL ds
end
def Plain (p : PyData) : Prop := p.canLay0 = true ∧ p.showable = true ∧ p.leavesShort 13 = true
def PlainL (p : List PyData) : Prop := PyData.canLayAll0 p = true ∧ PyData.showableAll p = true ∧ PyData.leavesShortAll 13 p = true
mutual
theorem fit_plain : ∀ d : D, fitD d = true → Plain (pyD d) ∧ (pyD d).depth = hD d ∧ (pyD d).weight ≤ wD d
  | .non, _ => ⟨⟨rfl, rfl, rfl⟩, rfl, Nat.le_refl _⟩
  | .bl b, _ => ⟨⟨rfl, rfl, rfl⟩, rfl, Nat.le_refl _⟩
  | .int i, h => by
    have h' : i.natAbs < 10 ^ 11 := of_decide_eq_true h
    have h37 : i.natAbs.log2 < 37 := log_lt (by decide) (by omega)
    refine ⟨⟨rfl, ?_, ?_⟩, rfl, ?_⟩
    · simp only [pyD, PyData.showable, decide_eq_true_eq]; omega
    · simp only [pyD, PyData.leavesShort, decide_eq_true_eq]
      exact PyData.shown_int_le (by omega)
    · simp only [pyD, PyData.weight, wD]
      split <;> omega
  | .str x, h => by
    refine ⟨⟨h, rfl, ?_⟩, rfl, Nat.le_refl _⟩
    simp only [pyD, PyData.leavesShort]
    have h' : PyData.strOk x = true := h
    unfold PyData.strOk at h'
    rw [List.all_eq_true]
    intro c hc
    have q := (Array.all_eq_true'.mp h') c (by simpa using hc)
    simp only [decide_eq_true_eq] at q ⊢
    omega
  | .tup ds, h => by
    obtain ⟨⟨a, b, c⟩, e, w⟩ := fit_plainL ds h
    refine ⟨⟨?_, ?_, ?_⟩, ?_, ?_⟩
    · simp only [pyD, PyData.canLay0]; exact a
    · simp only [pyD, PyData.showable]; exact b
    · simp only [pyD, PyData.leavesShort]; exact c
    · simp only [pyD, PyData.depth, hD, e]
    · simp only [pyD, PyData.weight, wD]; exact w
  | .lst ds, h => by
    obtain ⟨⟨a, b, c⟩, e, w⟩ := fit_plainL ds h
    refine ⟨⟨?_, ?_, ?_⟩, ?_, ?_⟩
    · simp only [pyD, PyData.canLay0]; exact a
    · simp only [pyD, PyData.showable]; exact b
    · simp only [pyD, PyData.leavesShort]; exact c
    · simp only [pyD, PyData.depth, hD, e]
    · simp only [pyD, PyData.weight, wD]; exact w
theorem fit_plainL : ∀ ds : List D, fitL ds = true → PlainL (pyL ds) ∧ PyData.depthAll (pyL ds) = hL ds ∧ PyData.weightAll (pyL ds) ≤ wL ds
  | [], _ => ⟨⟨rfl, rfl, rfl⟩, rfl, Nat.le_refl _⟩
  | d :: ds, h => by
    have h' : (fitD d && fitL ds) = true := h
    rw [Bool.and_eq_true] at h'
    obtain ⟨⟨a, b, c⟩, e, w⟩ := fit_plain d h'.1
    obtain ⟨⟨a2, b2, c2⟩, e2, w2⟩ := fit_plainL ds h'.2
    refine ⟨⟨?_, ?_, ?_⟩, ?_, ?_⟩
    · simp only [pyL, PyData.canLayAll0, a, a2, Bool.and_self]
    · simp only [pyL, PyData.showableAll, b, b2, Bool.and_self]
    · simp only [pyL, PyData.leavesShortAll, c, c2, Bool.and_self]
    · simp only [pyL, PyData.depthAll, hL, e, e2]
    · simp only [pyL, PyData.weightAll, wL]; omega
end
mutual
theorem toPy_fit : ∀ (d : D) (k : Nat) (st : Sto), fitD d = true → hD d < k → toPy k st d = some (pyD d)
  | .non, k + 1, _, _, _ => rfl
  | .bl _, k + 1, _, _, _ => rfl
  | .int _, k + 1, _, _, _ => rfl
  | .str _, k + 1, _, _, _ => rfl
  | .tup ds, k + 1, st, h, hk => by
    have e := toPy_fitL ds k st h (by simp only [hD] at hk; omega)
    show (ds.mapM (toPy k st)).map PyData.tuple = _
    rw [e]
    rfl
  | .lst ds, k + 1, st, h, hk => by
    have e := toPy_fitL ds k st h (by simp only [hD] at hk; omega)
    show (ds.mapM (toPy k st)).map PyData.list = _
    rw [e]
    rfl
  | .ref _, _, _, h, _ => by cases h
  | .adr _, _, _, h, _ => by cases h
  | .ty _, _, _, h, _ => by cases h
  | _, 0, _, _, hk => by omega
theorem toPy_fitL : ∀ (ds : List D) (k : Nat) (st : Sto), fitL ds = true → (hL ds < k ∨ ds = []) → ds.mapM (toPy k st) = some (pyL ds)
  | [], _, _, _, _ => rfl
  | d :: ds, k, st, h, hk => by
    have h' : (fitD d && fitL ds) = true := h
    rw [Bool.and_eq_true] at h'
    have hk' : hL (d :: ds) < k := by rcases hk with z | z; exact z; cases z
    simp only [hL] at hk'
    rw [List.mapM_cons, toPy_fit d k st h'.1 (by omega), toPy_fitL ds k st h'.2 (.inl (by omega))]
    rfl
end
/-- small data -/
structure Fine (d : D) : Prop where
  fit : fitD d = true
  h : hD d ≤ 10
  w : wD d ≤ 2 ^ 20
theorem Fine.py {d : D} (f : Fine d) (st : Sto) : toPy 20 st d = some (pyD d) := toPy_fit d 20 st f.fit (by have := f.h; omega)
theorem Fine.pyR {d : D} (f : Fine d) (st : Sto) : toPyR st d = some (pyD d) := by
  cases d with
  | ref n => have := f.fit; cases this
  | _ => exact f.py st
theorem Fine.shaped {d : D} (f : Fine d) : SeqAt.shaped (pyD d) = true := by
  obtain ⟨⟨a, _, _⟩, e, _⟩ := fit_plain d f.fit
  have := f.h
  unfold SeqAt.shaped
  rw [a, e]
  simp only [Bool.true_and, decide_eq_true_eq]
  omega
theorem Fine.show {d : D} (f : Fine d) : showOk (pyD d) := by
  obtain ⟨⟨_, b, c⟩, e, w⟩ := fit_plain d f.fit
  have := f.h
  exact ⟨b, by omega, PyData.shown_fits (by decide) (by decide) c (Nat.le_trans w f.w)⟩
theorem Fine.repr {d : D} (f : Fine d) (st : Sto) : dRepr [d] st = .ok (.str (pyD d).shown) st := by
  unfold dRepr
  simp only [f.pyR st, if_pos f.show]
theorem kn_fit {d : D} {st : Sto} (h : fitD d = true) : Kn st d := by
  cases d <;> first | rfl | (cases h; done)
theorem fitL_mem : ∀ {ds : List D} {d : D}, fitL ds = true → d ∈ ds → fitD d = true
  | e :: ds, d, h, hm => by
    have h' : (fitD e && fitL ds) = true := h
    rw [Bool.and_eq_true] at h'
    rcases List.mem_cons.mp hm with z | z
    · rw [z]; exact h'.1
    · exact fitL_mem h'.2 z
theorem fitL_of : ∀ {ds : List D}, (∀ d ∈ ds, fitD d = true) → fitL ds = true
  | [], _ => rfl
  | d :: ds, h => by
    show (fitD d && fitL ds) = true
    rw [h d List.mem_cons_self, fitL_of fun x hx => h x (List.mem_cons_of_mem _ hx)]
    rfl
theorem wL_mem : ∀ {ds : List D} {d : D}, d ∈ ds → wD d ≤ wL ds
  | e :: ds, d, hm => by
    simp only [wL]
    rcases List.mem_cons.mp hm with z | z
    · rw [z]; omega
    · have := wL_mem z; omega
theorem hL_mem : ∀ {ds : List D} {d : D}, d ∈ ds → hD d ≤ hL ds
  | e :: ds, d, hm => by
    simp only [hL]
    rcases List.mem_cons.mp hm with z | z
    · rw [z]; omega
    · have := hL_mem z; omega
theorem wL_le {n : Nat} : ∀ {ds : List D}, (∀ d ∈ ds, wD d ≤ n) → wL ds ≤ (n + 1) * ds.length
  | [], _ => Nat.zero_le _
  | d :: ds, h => by
    simp only [wL, List.length_cons]
    have h1 := h d List.mem_cons_self
    have h2 := wL_le (ds := ds) fun x hx => h x (List.mem_cons_of_mem _ hx)
    rw [Nat.mul_succ]
    omega
theorem hL_le {n : Nat} : ∀ {ds : List D}, (∀ d ∈ ds, hD d ≤ n) → hL ds ≤ n
  | [], _ => Nat.zero_le _
  | d :: ds, h => by
    simp only [hL]
    have h1 := h d List.mem_cons_self
    have h2 := hL_le (ds := ds) fun x hx => h x (List.mem_cons_of_mem _ hx)
    omega
theorem wL_app : ∀ (xs ys : List D), wL (xs ++ ys) = wL xs + wL ys
  | [], ys => by simp [wL]
  | x :: xs, ys => by simp only [List.cons_append, wL, wL_app xs ys]; omega
theorem len_wL : ∀ (ds : List D), ds.length ≤ wL ds
  | [] => Nat.zero_le _
  | d :: ds => by simp only [wL, List.length_cons]; have := len_wL ds; omega
theorem Fine.len {ds : List D} (f : Fine (.tup ds)) : ds.length ≤ sizeLine := by
  have h := f.w
  have := len_wL ds
  simp only [wD] at h
  rw [sizeLine_eq]; omega
theorem Fine.knA {d : D} {st : Sto} (f : Fine d) : KnA st d := by
  cases d with
  | tup ds => exact ⟨f.len, fun x hx => kn_fit (fitL_mem f.fit hx)⟩
  | _ => trivial
theorem Fine.mem {ds : List D} {d : D} (f : Fine (.tup ds)) (hm : d ∈ ds) : Fine d :=
  ⟨fitL_mem f.fit hm, by have := f.h; have := hL_mem hm; simp only [hD] at *; omega, Nat.le_trans (wL_mem hm) f.w⟩
end DL

set_option Elab.async false
set_option linter.all false
set_option maxRecDepth 100000
set_option maxHeartbeats 2000000
/-! DGv: values by their sizes. -/
namespace DL
open PySem PySem.Spec L2

/-- bounds of a thing: depth, weight -/
structure Sz (h w : Nat) (d : D) : Prop where
  fit : fitD d = true
  h : hD d ≤ h
  w : wD d ≤ w
theorem Sz.mono {h w h' w' : Nat} {d : D} (s : Sz h w d) (a : h ≤ h' := by decide) (b : w ≤ w' := by decide) : Sz h' w' d := ⟨s.fit, Nat.le_trans s.h a, Nat.le_trans s.w b⟩
theorem Sz.fine {h w : Nat} {d : D} (s : Sz h w d) (a : h ≤ 10 := by decide) (b : w ≤ 2 ^ 20 := by decide) : Fine d := ⟨s.fit, Nat.le_trans s.h a, Nat.le_trans s.w b⟩
def TupB (h w m : Nat) (d : D) : Prop := ∃ ds, d = .tup ds ∧ ds.length ≤ m ∧ ∀ x ∈ ds, Sz h w x
theorem szL {h w m : Nat} {ds : List D} (a : ds.length ≤ m) (b : ∀ x ∈ ds, Sz h w x) : fitL ds = true ∧ hL ds ≤ h ∧ wL ds ≤ (w + 1) * m :=
  ⟨fitL_of fun d hd => (b d hd).fit, hL_le fun d hd => (b d hd).h, Nat.le_trans (wL_le fun d hd => (b d hd).w) (Nat.mul_le_mul_left _ a)⟩
theorem TupB.sz {h w m : Nat} {d : D} (t : TupB h w m d) : Sz (h + 1) ((w + 1) * m) d := by
  obtain ⟨ds, rfl, a, b⟩ := t
  obtain ⟨h1, h2, h3⟩ := szL a b
  exact ⟨h1, Nat.succ_le_succ h2, h3⟩
theorem lst_sz {h w m : Nat} {ds : List D} (a : ds.length ≤ m) (b : ∀ x ∈ ds, Sz h w x) : Sz (h + 1) ((w + 1) * m) (.lst ds) := by
  obtain ⟨h1, h2, h3⟩ := szL a b
  exact ⟨h1, Nat.succ_le_succ h2, h3⟩
theorem TupB.mono {h w m h' w' m' : Nat} {d : D} (t : TupB h w m d) (a : h ≤ h' := by decide) (b : w ≤ w' := by decide) (c : m ≤ m' := by decide) : TupB h' w' m' d := by
  obtain ⟨ds, rfl, q, r⟩ := t
  exact ⟨ds, rfl, Nat.le_trans q c, fun x hx => (r x hx).mono a b⟩
theorem sz_int {i : Int} (h : i.natAbs < 10 ^ 11) : Sz 0 37 (.int i) := ⟨decide_eq_true h, Nat.le_refl _, Nat.le_refl _⟩
theorem sz_in {lo hi : Int} {d : D} (h : IntIn lo hi d) (a : -10 ^ 10 ≤ lo) (b : hi ≤ 10 ^ 10) : Sz 0 37 d := by
  obtain ⟨i, rfl, h1, h2⟩ := h
  exact sz_int (by omega)
theorem cut_sub {ds : List D} {lo hi : Option Int} {d : D} (h : d ∈ cutD ds lo hi) : d ∈ ds := List.mem_of_mem_drop (List.mem_of_mem_take h)
theorem cut_len {ds : List D} {lo hi : Option Int} : (cutD ds lo hi).length ≤ ds.length := by
  unfold cutD
  rw [List.length_take, List.length_drop]
  omega
/-- whatever the store: a value with P, nothing changed -/
def Gv (rho : En) (e : ME) (P : D → Prop) : Prop := ∀ st, ∃ d, e rho st = .ok d st ∧ P d
section
variable {rho : En} {a b e : ME} {h w m n : Nat} {P Q : D → Prop}
theorem Gv.imp (g : Gv rho e P) (k : ∀ d, P d → Q d) : Gv rho e Q := fun st => let ⟨d, h1, h2⟩ := g st; ⟨d, h1, k d h2⟩
theorem gv_c {d : D} (p : P d) : Gv rho (mC d) P := fun st => ⟨d, rfl, p⟩
theorem gv_var {i : Nat} {d : D} (e : rho[i]? = some (some d)) (p : P d) : Gv rho (mVar i) P := fun st => ⟨d, ev_var e, p⟩
theorem gv_add (ga : Gv rho a (TupB h w m)) (gb : Gv rho b (TupB h w n)) (hz : m + n ≤ sizeLine) : Gv rho (mOp dAdd a b) (TupB h w (m + n)) := fun st => by
  obtain ⟨x, e1, xs, rfl, l1, s1⟩ := ga st
  obtain ⟨y, e2, ys, rfl, l2, s2⟩ := gb st
  refine ⟨.tup (xs ++ ys), by simp only [ev_op, e1, e2, bind_ok]; exact add_tup (by omega), _, rfl, by rw [List.length_append]; omega, fun x hx => ?_⟩
  rcases List.mem_append.mp hx with z | z
  · exact s1 x z
  · exact s2 x z
theorem gv_addI {c d : Int} (ga : Gv rho a fun x => x = .int c) (gb : Gv rho b fun x => x = .int d) : Gv rho (mOp dAdd a b) fun x => x = .int (c + d) := fun st => by
  obtain ⟨x, e1, rfl⟩ := ga st
  obtain ⟨y, e2, rfl⟩ := gb st
  exact ⟨_, by simp only [ev_op, e1, e2, bind_ok, DL.add_int], rfl⟩
theorem gv_subI {c d : Int} (ga : Gv rho a fun x => x = .int c) (gb : Gv rho b fun x => x = .int d) : Gv rho (mOp dSub a b) fun x => x = .int (c - d) := fun st => by
  obtain ⟨x, e1, rfl⟩ := ga st
  obtain ⟨y, e2, rfl⟩ := gb st
  exact ⟨_, by simp only [ev_op, e1, e2, bind_ok, DL.sub_int], rfl⟩
/-- a part of a slice -/
def GvO (rho : En) (o : MO) : Prop := ∀ st, ∃ q, o rho st = .ok q st
theorem go_none : GvO rho mNoPart := fun st => ⟨none, rfl⟩
theorem go_some {i : Int} (g : Gv rho e fun x => x = .int i) : GvO rho (mPart e) := fun st => by
  obtain ⟨d, e1, rfl⟩ := g st
  exact ⟨some i, by simp only [ev_part, e1, bind_ok, asO_int]⟩
theorem gv_cut {l r : MO} (g : Gv rho a (TupB h w m)) (gl : GvO rho l) (gr : GvO rho r) : Gv rho (mSl a l r) (TupB h w m) := fun st => by
  obtain ⟨d, e1, ds, rfl, q, s⟩ := g st
  obtain ⟨lo, e2⟩ := gl st
  obtain ⟨hi, e3⟩ := gr st
  exact ⟨.tup (cutD ds lo hi), by simp only [ev_slice, e1, e2, e3, bind_ok, DL.cut_tup], _, rfl, Nat.le_trans cut_len q, fun x hx => s x (cut_sub hx)⟩
/-- lists of values -/
def GvL (rho : En) (as : MA) (P : D → Prop) (m : Nat) : Prop := ∀ st, ∃ ds, as rho st = .ok ds st ∧ ds.length = m ∧ ∀ d ∈ ds, P d
theorem gl_nil : GvL rho mNil P 0 := fun st => ⟨[], rfl, rfl, fun _ z => nomatch z⟩
theorem gl_cons {as : MA} (g : Gv rho e P) (gs : GvL rho as P m) : GvL rho (mCons e as) P (m + 1) := fun st => by
  obtain ⟨d, e1, p⟩ := g st
  obtain ⟨ds, e2, l, q⟩ := gs st
  refine ⟨d :: ds, by simp only [ev_cons, e1, e2, bind_ok], by rw [List.length_cons, l], fun x hx => ?_⟩
  rcases List.mem_cons.mp hx with z | z
  · rw [z]; exact p
  · exact q x z
theorem gv_tup {as : MA} (g : GvL rho as (Sz h w) m) (hz : m ≤ sizeLine) : Gv rho (mTup as) (TupB h w m) := fun st => by
  obtain ⟨ds, e1, l, q⟩ := g st
  exact ⟨.tup ds, by simp only [ev_tup, e1, bind_ok, l, if_pos hz], ds, rfl, Nat.le_of_eq l, q⟩
theorem gv_list (g : Gv rho a (TupB h w m)) : Gv rho (mFix (mListOf a)) (Sz (h + 1) ((w + 1) * m)) := fun st => by
  obtain ⟨d, e1, ds, rfl, q, s⟩ := g st
  exact ⟨.lst ds, by simp only [ev_fix]; unfold mListOf; simp only [e1, bind_ok, seqOf], lst_sz q s⟩
theorem rep_len {α : Type} (l : List α) : ∀ k : Nat, (List.replicate k l).flatten.length = k * l.length
  | 0 => by simp
  | k + 1 => by rw [List.replicate_succ, List.flatten_cons, List.length_append, rep_len l k, Nat.succ_mul]; omega
theorem rep_mem {α : Type} {l : List α} {k : Nat} {x : α} (h : x ∈ (List.replicate k l).flatten) : x ∈ l := by
  obtain ⟨y, hy, hx⟩ := List.mem_flatten.mp h
  rw [List.eq_of_mem_replicate hy] at hx
  exact hx
theorem gv_mul {k : Nat} (g : Gv rho a fun d => TupB h w m d ∧ d ≠ .tup []) (gb : Gv rho b fun x => x = .int (k : Nat)) (h2 : 2 ≤ k) (hk : k ≤ 1000) (hm : m ≤ 1000) : Gv rho (mOp dMul a b) fun d => TupB h w (k * m) d ∧ d ≠ .tup [] := fun st => by
  obtain ⟨d, e1, ⟨ds, rfl, q, s⟩, ne⟩ := g st
  obtain ⟨y, e2, rfl⟩ := gb st
  have hne : ds ≠ [] := fun z => ne (by rw [z])
  have hz : ds ≠ [] ∧ (2 : Int) ≤ k ∧ (k : Int) ≤ 1000 ∧ ds.length ≤ 1000 := ⟨hne, by omega, by omega, by omega⟩
  refine ⟨.tup (List.replicate k ds).flatten, ?_, ⟨_, rfl, by rw [rep_len]; exact Nat.mul_le_mul_left _ q, fun x hx => s x (rep_mem hx)⟩, fun z => ?_⟩
  · simp only [ev_op, e1, e2, bind_ok]
    show (if ds ≠ [] ∧ (2 : Int) ≤ k ∧ (k : Int) ≤ 1000 ∧ ds.length ≤ 1000 then R.ok (D.tup (List.replicate (k : Int).toNat ds).flatten) st else .bad) = _
    rw [if_pos hz]
    rfl
  · have e : (List.replicate k ds).flatten = [] := by injection z
    have l := rep_len ds k
    rw [e] at l
    have : 0 < ds.length := List.length_pos_iff.mpr hne
    have : 0 < k * ds.length := Nat.mul_pos (by omega) this
    simp only [List.length_nil] at l
    omega
end
/-! ### a list of things, in a cell -/
def Thing (st : Sto) (d : D) : Prop := Fine d ∨ ∃ n, d = .ref n ∧ st[n]? = some (.dct [])
theorem Thing.app {st : Sto} {d : D} (t : Thing st d) (l : List C) : Thing (st ++ l) d := by
  rcases t with t | ⟨n, e, q⟩
  · exact .inl t
  · exact .inr ⟨n, e, by rw [List.getElem?_append_left (List.getElem?_eq_some_iff.mp q).1]; exact q⟩
def GvT (rho : En) (as : MA) (m : Nat) : Prop := ∀ st, ∃ ds l, as rho st = .ok ds (st ++ l) ∧ ds.length = m ∧ ∀ d ∈ ds, Thing (st ++ l) d
section
variable {rho : En} {e : ME} {as : MA} {m k L h : Nat}
theorem gt_nil : GvT rho mNil 0 := fun st => ⟨[], [], by rw [List.append_nil]; rfl, rfl, fun _ z => nomatch z⟩
theorem gt_cons (g : Gv rho e Fine) (gs : GvT rho as m) : GvT rho (mCons e as) (m + 1) := fun st => by
  obtain ⟨d, e1, p⟩ := g st
  obtain ⟨ds, l, e2, q, r⟩ := gs st
  refine ⟨d :: ds, l, by simp only [ev_cons, e1, e2, bind_ok], by rw [List.length_cons, q], fun x hx => ?_⟩
  rcases List.mem_cons.mp hx with z | z
  · rw [z]; exact .inl p
  · exact r x z
theorem gt_dct (gs : GvT rho as m) : GvT rho (mCons mDct as) (m + 1) := fun st => by
  obtain ⟨ds, l, e2, q, r⟩ := gs (st ++ [.dct []])
  rw [List.append_assoc] at e2 r
  refine ⟨.ref st.length :: ds, [.dct []] ++ l, ?_, by rw [List.length_cons, q], fun x hx => ?_⟩
  · rw [ev_cons]
    have e0 : mDct rho st = .ok (.ref st.length) (st ++ [.dct []]) := rfl
    rw [e0, bind_ok, e2, bind_ok]
  · rcases List.mem_cons.mp hx with z | z
    · refine .inr ⟨st.length, z, ?_⟩
      rw [List.getElem?_append_right (Nat.le_refl _), Nat.sub_self]
      rfl
    · exact r x z
def Fd (st : Sto) (L m : Nat) : Prop := ∃ fs, st[L]? = some (.lst fs) ∧ fs.length ≤ m ∧ ∀ t ∈ fs, Thing st t
theorem onl_app (h : Nat) (st : Sto) (l : List C) : Onl h st (st ++ l) := ⟨by simp, fun i hi _ => List.getElem?_append_left hi⟩
/-- found = [..] -/
theorem found_new {st : Sto} {i : Nat} (g : GvT rho as m) (hm : m ≤ 1000) (hh : h < st.length) : OkR (mSet i (mNew (mLst as)) rho st) fun f st' => ∃ L, f = .nx (rho.set i (some (.ref L))) ∧ h < L ∧ st.length ≤ L ∧ Fd st' L m ∧ Onl h st st' ∧ st'[h]? = st[h]? := by
  obtain ⟨ds, l, e1, q, r⟩ := g st
  refine ok_set ?_
  simp only [ev_new, ev_lst, e1, bind_ok, if_pos (show ds.length ≤ sizeLine from small_line (by omega))]
  refine okR_ok ⟨_, rfl, by rw [List.length_append]; omega, by rw [List.length_append]; omega, ⟨ds, List.getElem?_concat_length .., by omega, fun t ht => (r t ht).app _⟩, ?_, ?_⟩
  · rw [List.append_assoc]
    exact onl_app ..
  · rw [List.append_assoc]
    exact List.getElem?_append_left hh
/-- found = found + [..] -/
theorem found_cat {st : Sto} {i : Nat} (hv : rho[i]? = some (some (.ref L))) (fd : Fd st L k) (g : GvT rho as m) (hm : m ≤ 1000) (hk : k ≤ 1000) (hh : h < st.length) :
    OkR (mSet i (mNew (mCat (mVar i) (mFix (mLst as)))) rho st) fun f st' => ∃ L, f = .nx (rho.set i (some (.ref L))) ∧ h < L ∧ st.length ≤ L ∧ Fd st' L (k + m) ∧ Onl h st st' ∧ st'[h]? = st[h]? := by
  obtain ⟨fs, e0, q0, r0⟩ := fd
  obtain ⟨ds, l, e1, q, r⟩ := g st
  refine ok_set ?_
  have e2 : lstOf (st ++ l) (.ref L) = some fs := lstOf_ref (by rw [List.getElem?_append_left (List.getElem?_eq_some_iff.mp e0).1]; exact e0)
  have e3 : lstOf (st ++ l) (.lst ds) = some ds := rfl
  simp only [ev_new, ev_cat, ev_fix, ev_lst, ev_var hv, e1, e2, e3, bind_ok, bind_assoc', if_pos (show ds.length ≤ sizeLine from small_line (by omega)), if_pos (show fs.length + ds.length ≤ sizeLine from small_line (by omega))]
  refine okR_ok ⟨_, rfl, by rw [List.length_append]; omega, by rw [List.length_append]; omega, ⟨fs ++ ds, List.getElem?_concat_length .., by rw [List.length_append]; omega, fun t ht => ?_⟩, ?_, ?_⟩
  · rcases List.mem_append.mp ht with z | z
    · rw [List.append_assoc]; exact (r0 t z).app _
    · exact (r t z).app _
  · rw [List.append_assoc]
    exact onl_app ..
  · rw [List.append_assoc]
    exact List.getElem?_append_left hh
/-- found.append(..) -/
theorem found_app {st : Sto} {i : Nat} (hv : rho[i]? = some (some (.ref L))) (fd : Fd st L k) (g : Gv rho e Fine) (hk : k ≤ 1000) (hL : b ≤ L) :
    OkR (mDrop (mMt "list" dApp (mVar i) (mCons e mNil)) rho st) fun f st' => f = .nx rho ∧ Fd st' L (k + 1) ∧ st'.length = st.length ∧ ∀ j, j ≠ L → st'[j]? = st[j]? := by
  obtain ⟨fs, e0, q0, r0⟩ := fd
  obtain ⟨d, e1, p⟩ := g st
  have hl : L < st.length := (List.getElem?_eq_some_iff.mp e0).1
  refine ok_drop ?_
  simp only [ev_mt, ev_var hv, ty_cell e0, if_true, ev_cons, ev_nil, e1, bind_ok, app_by e0 (show fs.length < sizeLine by rw [sizeLine_eq]; omega)]
  refine okR_ok ⟨?_, ⟨fs ++ [d], List.getElem?_set_self hl, by rw [List.length_append]; simp only [List.length_cons, List.length_nil]; omega, fun t ht => ?_⟩, List.length_set .., fun j hj => List.getElem?_set_ne fun z => hj z.symm⟩
  · first | rfl | trivial
  rcases List.mem_append.mp ht with z | z
  · rcases r0 t z with y | ⟨n, e, y⟩
    · exact .inl y
    · refine .inr ⟨n, e, ?_⟩
      rw [List.getElem?_set_ne]
      · exact y
      · intro w
        rw [w] at e0
        rw [e0] at y
        cases y
  · have e : t = d := by simpa using z
    rw [e]; exact .inl p
end
end DL

set_option Elab.async false
set_option linter.all false
set_option maxRecDepth 100000
set_option maxHeartbeats 2000000
namespace DL.Lib
open PySem PySem.Spec PyProof.Rows L2 DL
noncomputable def m_seen_at : MS :=
  (mSeq (mAsg (mVar 0) (gTp [gNm 3, gNm 4, gNm 5]))
   (mRet (mIf (mB (mOp (dCmp pLt) (mVar 2) (mC (.int 0)))) (mOp dIx (mVar 4) (mVar 1)) (mOp dIx (mOp dIx (mVar 5) (mVar 1)) (mVar 2)))))
noncomputable def g_seen_at : List D → Sto → R D := fnRun 3 m_seen_at
noncomputable def m_pairs_of : MS :=
  (mRet (mFix (mLc (mEnum (mCons (mOp dIx (mOp dIx (mVar 0) (mC (.int 2))) (mVar 1)) mNil)) (gTp [gNm 4, gNm 5]) mYes (mTup (mCons (mCal 3 g_seen_at (mCons (mVar 0) (mCons (mVar 2) (mCons (mOp dSub (mVar 4) (mVar 3)) mNil)))) (mCons (mVar 5) mNil))) [4, 5])))
noncomputable def g_pairs_of : List D → Sto → R D := fnRun 2 m_pairs_of
noncomputable def m_turn_that_fits : MS :=
  (mSeq (mSet 2 (mNew (mRep (mLst (mCons (mC .non) mNil)) (mVar 0))))
   (mSeq (mFor (mSrc (mVar 1)) (gTp [gNm 3, gNm 4]) (mSeq (mIfS (mAnd (mB (mOp dNotN (mOp dIx (mVar 2) (mVar 3)) (mC .non))) (mB (mOp dNe (mOp dIx (mVar 2) (mVar 3)) (mVar 4)))) (mRet (mC .non)) mNext)
   (mAsg (mVar 4) (gIx (mVar 2) (mVar 3)))))
   (mRet (mFn dTuple (mCons (mVar 2) mNil)))))
noncomputable def g_turn_that_fits : List D → Sto → R D := fnRun 3 m_turn_that_fits
noncomputable def m_fits : MS :=
  (mSeq (mSet 3 (mNew (mLst mNil)))
   (mSeq (mFor (mRng1 (mCons (mFn dLen (mCons (mOp dIx (mVar 0) (mC (.int 1))) mNil)) mNil)) (gNm 4) (mFor (mRng2 (mCons (mC (.int 1)) (mCons (mOp dAdd (mVar 2) (mC (.int 1))) mNil))) (gNm 5) (mSeq (mSet 6 (mCal 2 g_turn_that_fits (mCons (mOp dIx (mVar 0) (mC (.int 0))) (mCons (mCal 4 g_pairs_of (mCons (mVar 0) (mCons (mVar 1) (mCons (mVar 4) (mCons (mVar 5) mNil))))) mNil))))
   (mIfS (mB (mOp dNotN (mVar 6) (mC .non))) (mDrop (mMt "list" dApp (mVar 3) (mCons (mTup (mCons (mVar 4) (mCons (mVar 5) (mCons (mVar 6) mNil)))) mNil))) mNext))))
   (mRet (mVar 3))))
noncomputable def g_fits : List D → Sto → R D := fnRun 4 m_fits
noncomputable def m__law_did : MS :=
  (mRet (mIf (mB (mOp (dCmp pGe) (mVar 2) (mC (.int 0)))) (mOp dIx (mOp dIx (mOp dIx (mVar 0) (mC (.int 2))) (mVar 1)) (mVar 2)) (mOp dIx (mOp dIx (mVar 0) (mC (.int 1))) (mVar 1))))
noncomputable def g__law_did : List D → Sto → R D := fnRun 0 m__law_did
end DL.Lib

set_option Elab.async false
set_option linter.all false
set_option maxRecDepth 100000
set_option maxHeartbeats 2000000
/-! DSee: what was seen, as numbers; copies that fit. -/
namespace DL
open PySem PySem.Spec L2

def dN (n : Nat) : D := .int n
def dRow (r : List Nat) : D := .tup (r.map dN)
structure See where
  m : Nat
  bef : List Nat
  rows : List (List Nat)
def See.d (s : See) : D := .tup [dN s.m, dRow s.bef, .tup (s.rows.map dRow)]
structure See.Ok (s : See) (beats : Nat) : Prop where
  m1 : 1 ≤ s.m
  m9 : s.m ≤ 9
  c1 : 1 ≤ s.bef.length
  c6 : s.bef.length ≤ 6
  lb : ∀ x ∈ s.bef, x < s.m
  lr : s.rows.length = s.bef.length
  rl : ∀ r ∈ s.rows, r.length = beats
  rm : ∀ r ∈ s.rows, ∀ x ∈ r, x < s.m
  b1 : 1 ≤ beats
  b3 : beats ≤ 300
def See.row (s : See) (h : Nat) : List Nat := s.rows.getD h []
/-- what a hand did at a beat -/
def See.did (s : See) (h : Nat) (b : Int) : Nat := if b < 0 then s.bef.getD h 0 else (s.row h).getD b.toNat 0
theorem nats_of {m : Int} : ∀ {ds : List D}, (∀ d ∈ ds, IntIn 0 m d) → ∃ l : List Nat, ds = l.map dN ∧ ∀ n ∈ l, (n : Int) < m
  | [], _ => ⟨[], rfl, fun _ z => nomatch z⟩
  | d :: ds, h => by
    obtain ⟨i, rfl, h0, h1⟩ := h d List.mem_cons_self
    obtain ⟨l, rfl, q⟩ := nats_of (ds := ds) fun x hx => h x (List.mem_cons_of_mem _ hx)
    refine ⟨i.toNat :: l, ?_, fun n hn => ?_⟩
    · rw [List.map_cons]
      congr 1
      show D.int i = D.int (i.toNat : Int)
      rw [Int.toNat_of_nonneg h0]
    · rcases List.mem_cons.mp hn with z | z
      · rw [z]; omega
      · exact q n z
theorem rows_of {m : Int} {beats : Nat} : ∀ {ds : List D}, (∀ d ∈ ds, Row m beats d) → ∃ l : List (List Nat), ds = l.map dRow ∧ ∀ r ∈ l, r.length = beats ∧ ∀ n ∈ r, (n : Int) < m
  | [], _ => ⟨[], rfl, fun _ z => nomatch z⟩
  | d :: ds, h => by
    obtain ⟨xs, rfl, lx, hx⟩ := h d List.mem_cons_self
    obtain ⟨r, rfl, q1⟩ := nats_of hx
    obtain ⟨l, rfl, q⟩ := rows_of (ds := ds) fun x hx => h x (List.mem_cons_of_mem _ hx)
    refine ⟨r :: l, rfl, fun n hn => ?_⟩
    rcases List.mem_cons.mp hn with z | z
    · rw [z]; exact ⟨by rw [← lx, List.length_map], q1⟩
    · exact q n z
theorem see_of {long : Int} {d : D} (h : SeenD long d) (hl : long ≤ 300) : ∃ (s : See) (beats : Nat), d = s.d ∧ s.Ok beats ∧ (beats : Int) ≤ long := by
  obtain ⟨many, before, rows, beats, rfl, m0, m1, lb0, lb1, hb, lr, be0, be1, hr⟩ := h
  obtain ⟨bs, rfl, qb⟩ := nats_of hb
  obtain ⟨rs, rfl, qr⟩ := rows_of hr
  rw [List.length_map] at lb0 lb1 lr
  rw [List.length_map] at lr
  refine ⟨⟨many.toNat, bs, rs⟩, beats, ?_, ⟨?_, ?_, lb0, lb1, fun x hx => ?_, lr, fun r hr => (qr r hr).1, fun r hr x hx => ?_, be0, by omega⟩, be1⟩
  · unfold See.d
    have e : dN many.toNat = .int many := by show D.int (many.toNat : Int) = _; rw [Int.toNat_of_nonneg (by omega)]
    rw [e]
    rfl
  · show 1 ≤ many.toNat; omega
  · show many.toNat ≤ 9; omega
  · have := qb x hx; show x < many.toNat; omega
  · have := (qr r hr).2 x hx; show x < many.toNat; omega
section
variable {s : See} {beats : Nat}
theorem See.Ok.row_mem (o : s.Ok beats) {h : Nat} (hh : h < s.bef.length) : s.row h ∈ s.rows := by
  have hl : h < s.rows.length := by rw [o.lr]; exact hh
  unfold See.row
  rw [List.getD_eq_getElem?_getD, List.getElem?_eq_getElem hl]
  exact List.getElem_mem hl
theorem See.Ok.row_len (o : s.Ok beats) {h : Nat} (hh : h < s.bef.length) : (s.row h).length = beats := o.rl _ (o.row_mem hh)
theorem See.Ok.row_at (o : s.Ok beats) {h : Nat} (hh : h < s.bef.length) : (s.rows.map dRow)[h]? = some (dRow (s.row h)) := by
  have hl : h < s.rows.length := by rw [o.lr]; exact hh
  unfold See.row
  rw [List.getElem?_map, List.getD_eq_getElem?_getD, List.getElem?_eq_getElem hl]
  rfl
theorem get_dN {r : List Nat} {n : Nat} (h : n < r.length) : (r.map dN)[n]? = some (dN (r.getD n 0)) := by
  rw [List.getElem?_map, List.getD_eq_getElem?_getD, List.getElem?_eq_getElem h]
  rfl
theorem See.Ok.did_lt (o : s.Ok beats) {h : Nat} {b : Int} (hh : h < s.bef.length) (hb : b < beats) : s.did h b < s.m := by
  unfold See.did
  split
  · rw [List.getD_eq_getElem?_getD, List.getElem?_eq_getElem hh]
    exact o.lb _ (List.getElem_mem hh)
  · have hl : b.toNat < (s.row h).length := by rw [o.row_len hh]; omega
    rw [List.getD_eq_getElem?_getD, List.getElem?_eq_getElem hl]
    exact o.rm _ (o.row_mem hh) _ (List.getElem_mem hl)
theorem seen_at_run (o : s.Ok beats) {h : Nat} {b : Int} {st : Sto} (hh : h < s.bef.length) (hb : b < beats) : Lib.g_seen_at [s.d, dN h, .int b] st = .ok (dN (s.did h b)) st := by
  refine okR_iff.mpr (ok_fn ?_)
  show OkR (Lib.m_seen_at [some s.d, some (dN h), some (.int b), none, none, none] st) _
  refine ok_seq (ok_asg ?_)
  try simp only [ev_c, ev_var0, ev_varS, ev_nil, ev_cons, ev_op, ev_un, ev_b', ev_and, ev_or, ev_not, ev_if, ev_andV, ev_orV, ev_notV, ev_tup, ev_lst, ev_fix, ev_new, ev_fn, ev_cal, ev_chain, ev_nopart, ev_part, ev_slice, ev_yes, ev_src, bind_ok, bindN_ok, bindS_ok, bind_assoc', asB_bl, asO_int, List.set_cons_succ, List.set_cons_zero, List.length_cons, List.length_nil, Nat.zero_add, Nat.reduceAdd, if_true, DL.add_int, DL.sub_int, DL.cmp_int, DL.eq_int, DL.ne_int, DL.eq_str, DL.ne_str, DL.neg_int, DL.len_tup, DL.len_lst, DL.tuple_tup, DL.tuple_lst, DL.cut_tup, DL.cut_lst]
  refine okR_ok ?_
  unfold See.d
  rw [tp3]
  try simp only [ev_c, ev_var0, ev_varS, ev_nil, ev_cons, ev_op, ev_un, ev_b', ev_and, ev_or, ev_not, ev_if, ev_andV, ev_orV, ev_notV, ev_tup, ev_lst, ev_fix, ev_new, ev_fn, ev_cal, ev_chain, ev_nopart, ev_part, ev_slice, ev_yes, ev_src, bind_ok, bindN_ok, bindS_ok, bind_assoc', asB_bl, asO_int, List.set_cons_succ, List.set_cons_zero, List.length_cons, List.length_nil, Nat.zero_add, Nat.reduceAdd, if_true, DL.add_int, DL.sub_int, DL.cmp_int, DL.eq_int, DL.ne_int, DL.eq_str, DL.ne_str, DL.neg_int, DL.len_tup, DL.len_lst, DL.tuple_tup, DL.tuple_lst, DL.cut_tup, DL.cut_lst]
  refine okR_ok (ok_ret ?_)
  try simp only [ev_c, ev_var0, ev_varS, ev_nil, ev_cons, ev_op, ev_un, ev_b', ev_and, ev_or, ev_not, ev_if, ev_andV, ev_orV, ev_notV, ev_tup, ev_lst, ev_fix, ev_new, ev_fn, ev_cal, ev_chain, ev_nopart, ev_part, ev_slice, ev_yes, ev_src, bind_ok, bindN_ok, bindS_ok, bind_assoc', asB_bl, asO_int, List.set_cons_succ, List.set_cons_zero, List.length_cons, List.length_nil, Nat.zero_add, Nat.reduceAdd, if_true, DL.add_int, DL.sub_int, DL.cmp_int, DL.eq_int, DL.ne_int, DL.eq_str, DL.ne_str, DL.neg_int, DL.len_tup, DL.len_lst, DL.tuple_tup, DL.tuple_lst, DL.cut_tup, DL.cut_lst, pLt]
  by_cases h0 : b < 0
  · have e : dIx (dRow s.bef) (dN h) st = .ok (dN (s.bef.getD h 0)) st := ix_tup (n := h) rfl (get_dN hh)
    simp only [h0, decide_true, if_true, e]
    refine okR_ok ⟨?_, rfl⟩
    unfold See.did
    rw [if_pos h0]
  · have e1 : dIx (.tup (s.rows.map dRow)) (dN h) st = .ok (dRow (s.row h)) st := ix_tup (n := h) rfl (o.row_at hh)
    have e2 : dIx (dRow (s.row h)) (.int b) st = .ok (dN ((s.row h).getD b.toNat 0)) st := ix_tup (n := b.toNat) (by omega) (get_dN (by rw [o.row_len hh]; omega))
    simp only [h0, decide_false, Bool.false_eq_true, if_false, e1, e2, bind_ok]
    refine okR_ok ⟨?_, rfl⟩
    unfold See.did
    rw [if_neg h0]
theorem did_run (o : s.Ok beats) {h : Nat} {b : Int} {st : Sto} (hh : h < s.bef.length) (hb : b < beats) : Lib.g__law_did [s.d, dN h, .int b] st = .ok (dN (s.did h b)) st := by
  refine okR_iff.mpr (ok_fn ?_)
  show OkR (Lib.m__law_did [some s.d, some (dN h), some (.int b)] st) _
  refine ok_ret ?_
  have f1 : dIx s.d (.int 1) st = .ok (dRow s.bef) st := ix_tup (n := 1) rfl rfl
  have f2 : dIx s.d (.int 2) st = .ok (.tup (s.rows.map dRow)) st := ix_tup (n := 2) rfl rfl
  try simp only [ev_c, ev_var0, ev_varS, ev_nil, ev_cons, ev_op, ev_un, ev_b', ev_and, ev_or, ev_not, ev_if, ev_andV, ev_orV, ev_notV, ev_tup, ev_lst, ev_fix, ev_new, ev_fn, ev_cal, ev_chain, ev_nopart, ev_part, ev_slice, ev_yes, ev_src, bind_ok, bindN_ok, bindS_ok, bind_assoc', asB_bl, asO_int, List.set_cons_succ, List.set_cons_zero, List.length_cons, List.length_nil, Nat.zero_add, Nat.reduceAdd, if_true, DL.add_int, DL.sub_int, DL.cmp_int, DL.eq_int, DL.ne_int, DL.eq_str, DL.ne_str, DL.neg_int, DL.len_tup, DL.len_lst, DL.tuple_tup, DL.tuple_lst, DL.cut_tup, DL.cut_lst, pGe, f1, f2]
  by_cases h0 : b < 0
  · have e : dIx (dRow s.bef) (dN h) st = .ok (dN (s.bef.getD h 0)) st := ix_tup (n := h) rfl (get_dN hh)
    simp only [show ¬ (0 : Int) ≤ b by omega, decide_false, Bool.false_eq_true, if_false, e]
    refine okR_ok ⟨?_, rfl⟩
    unfold See.did
    rw [if_pos h0]
  · have e1 : dIx (.tup (s.rows.map dRow)) (dN h) st = .ok (dRow (s.row h)) st := ix_tup (n := h) rfl (o.row_at hh)
    have e2 : dIx (dRow (s.row h)) (.int b) st = .ok (dN ((s.row h).getD b.toNat 0)) st := ix_tup (n := b.toNat) (by omega) (get_dN (by rw [o.row_len hh]; omega))
    simp only [show (0 : Int) ≤ b by omega, decide_true, if_true, e1, e2, bind_ok]
    refine okR_ok ⟨?_, rfl⟩
    unfold See.did
    rw [if_neg h0]
/-- the pairs of what is copied and what is done -/
def See.pairs (s : See) (hand other ago : Nat) : List (Nat × Nat) := (List.range (s.row hand).length).map fun (b : Nat) => (s.did other ((b : Int) - ago), (s.row hand).getD b 0)
def dP (p : Nat × Nat) : D := .tup [dN p.1, dN p.2]
theorem pairs_lt (o : s.Ok beats) {hand other ago : Nat} (hh : hand < s.bef.length) (ho : other < s.bef.length) : ∀ p ∈ s.pairs hand other ago, p.1 < s.m ∧ p.2 < s.m := by
  intro p hp
  obtain ⟨b, hb, rfl⟩ := List.mem_map.mp hp
  have hb' : b < (s.row hand).length := by simpa using hb
  refine ⟨o.did_lt ho (by rw [o.row_len hh] at hb'; omega), ?_⟩
  show (s.row hand).getD b 0 < s.m
  rw [List.getD_eq_getElem?_getD, List.getElem?_eq_getElem hb']
  exact o.rm _ (o.row_mem hh) _ (List.getElem_mem hb')
theorem pairs_len (o : s.Ok beats) {hand other ago : Nat} (hh : hand < s.bef.length) : (s.pairs hand other ago).length = beats := by
  unfold See.pairs
  rw [List.length_map, List.length_range, o.row_len hh]
theorem enumD_dN (r : List Nat) : enumD 0 (r.map dN) = (List.range r.length).map fun b => .tup [dN b, dN (r.getD b 0)] := by
  apply List.ext_getElem?
  intro i
  rw [enumD_get, List.getElem?_map, List.getElem?_map]
  by_cases h : i < r.length
  · rw [List.getElem?_range h, List.getElem?_eq_getElem h]
    simp only [Option.map_some, Nat.zero_add]
    rw [List.getD_eq_getElem?_getD, List.getElem?_eq_getElem h]
    rfl
  · rw [List.getElem?_eq_none (by omega), List.getElem?_eq_none (by simpa using h)]
    rfl
theorem pairs_run (o : s.Ok beats) {hand other ago : Nat} {st : Sto} (hh : hand < s.bef.length) (ho : other < s.bef.length) : Lib.g_pairs_of [s.d, dN hand, dN other, dN ago] st = .ok (.lst ((s.pairs hand other ago).map dP)) st := by
  refine okR_iff.mpr (ok_fn ?_)
  show OkR (Lib.m_pairs_of [some s.d, some (dN hand), some (dN other), some (dN ago), none, none] st) _
  refine ok_ret ?_
  have f2 : dIx s.d (.int 2) st = .ok (.tup (s.rows.map dRow)) st := ix_tup (n := 2) rfl rfl
  have e1 : dIx (.tup (s.rows.map dRow)) (dN hand) st = .ok (dRow (s.row hand)) st := ix_tup (n := hand) rfl (o.row_at hh)
  have lr := o.row_len hh
  have e0 : (mEnum (mCons (mOp dIx (mOp dIx (mVar 0) (mC (.int 2))) (mVar 1)) mNil)) [some s.d, some (dN hand), some (dN other), some (dN ago), none, none] st = .ok ⟨(List.range (s.row hand).length).map fun b => .tup [dN b, dN ((s.row hand).getD b 0)], []⟩ st := by
    unfold mEnum
    simp only [ev_c, ev_var0, ev_varS, ev_nil, ev_cons, ev_op, ev_un, ev_b', ev_and, ev_or, ev_not, ev_if, ev_andV, ev_orV, ev_notV, ev_tup, ev_lst, ev_fix, ev_new, ev_fn, ev_cal, ev_chain, ev_nopart, ev_part, ev_slice, ev_yes, ev_src, bind_ok, bindN_ok, bindS_ok, bind_assoc', asB_bl, asO_int, List.set_cons_succ, List.set_cons_zero, List.length_cons, List.length_nil, Nat.zero_add, Nat.reduceAdd, if_true, DL.add_int, DL.sub_int, DL.cmp_int, DL.eq_int, DL.ne_int, DL.eq_str, DL.ne_str, DL.neg_int, DL.len_tup, DL.len_lst, DL.tuple_tup, DL.tuple_lst, DL.cut_tup, DL.cut_lst, f2, e1]
    show R.ok (Src.mk (enumD 0 ((s.row hand).map dN)) []) st = _
    rw [enumD_dN]
  have e : (mLc (mEnum (mCons (mOp dIx (mOp dIx (mVar 0) (mC (.int 2))) (mVar 1)) mNil)) (gTp [gNm 4, gNm 5]) mYes (mTup (mCons (mCal 3 Lib.g_seen_at (mCons (mVar 0) (mCons (mVar 2) (mCons (mOp dSub (mVar 4) (mVar 3)) mNil)))) (mCons (mVar 5) mNil))) [4, 5])
      [some s.d, some (dN hand), some (dN other), some (dN ago), none, none] st = .ok ((s.pairs hand other ago).map dP) st := by
    rw [ev_lc, e0, bind_ok]
    rw [lc_map (fun d => match d with | .tup [.int b, x] => .tup [dN (s.did other (b - ago)), x] | d => d) _ (by rw [List.length_map, List.length_range, lr, sizeLine_eq]; have := o.b3; omega) good_nil fun d hd => ?_]
    · rw [List.map_map]
      unfold See.pairs
      rw [List.map_map]
      rfl
    · obtain ⟨b, hb, rfl⟩ := List.mem_map.mp hd
      have hb' : b < beats := by rw [← lr]; simpa using hb
      refine ⟨_, tp2, rfl, ?_⟩
      have n2 : (2 : Nat) ≤ sizeLine := small_line (by decide)
      have sb : dSub (dN b) (dN ago) st = .ok (.int ((b : Int) - ago)) st := rfl
      simp only [wipeR, ev_c, ev_var0, ev_varS, ev_nil, ev_cons, ev_op, ev_un, ev_b', ev_and, ev_or, ev_not, ev_if, ev_andV, ev_orV, ev_notV, ev_tup, ev_lst, ev_fix, ev_new, ev_fn, ev_cal, ev_chain, ev_nopart, ev_part, ev_slice, ev_yes, ev_src, bind_ok, bindN_ok, bindS_ok, bind_assoc', asB_bl, asO_int, List.set_cons_succ, List.set_cons_zero, List.length_cons, List.length_nil, Nat.zero_add, Nat.reduceAdd, if_true, DL.add_int, DL.sub_int, DL.cmp_int, DL.eq_int, DL.ne_int, DL.eq_str, DL.ne_str, DL.neg_int, DL.len_tup, DL.len_lst, DL.tuple_tup, DL.tuple_lst, DL.cut_tup, DL.cut_lst, sb, seen_at_run o ho (show (b : Int) - ago < beats by omega), if_pos n2]
      rfl
  simp only [ev_c, ev_var0, ev_varS, ev_nil, ev_cons, ev_op, ev_un, ev_b', ev_and, ev_or, ev_not, ev_if, ev_andV, ev_orV, ev_notV, ev_tup, ev_lst, ev_fix, ev_new, ev_fn, ev_cal, ev_chain, ev_nopart, ev_part, ev_slice, ev_yes, ev_src, bind_ok, bindN_ok, bindS_ok, bind_assoc', asB_bl, asO_int, List.set_cons_succ, List.set_cons_zero, List.length_cons, List.length_nil, Nat.zero_add, Nat.reduceAdd, if_true, DL.add_int, DL.sub_int, DL.cmp_int, DL.eq_int, DL.ne_int, DL.eq_str, DL.ne_str, DL.neg_int, DL.len_tup, DL.len_lst, DL.tuple_tup, DL.tuple_lst, DL.cut_tup, DL.cut_lst, e]
  exact okR_ok ⟨rfl, rfl⟩
end
/-! ### turns that fit -/
def look (ps : List (Nat × Nat)) (c : Nat) : Option Nat := (ps.find? fun p => p.1 == c).map (·.2)
def cns (ps : List (Nat × Nat)) : Bool := ps.all fun p => look ps p.1 == some p.2
def turnOf (m : Nat) (ps : List (Nat × Nat)) : Option (List (Option Nat)) := if cns ps = true then some ((List.range m).map (look ps)) else none
def dT : Option Nat → D
  | none => .non
  | some n => dN n
def dTurn : Option (List (Option Nat)) → D
  | none => .non
  | some t => .tup (t.map dT)
theorem look_app (ps qs : List (Nat × Nat)) (c : Nat) : look (ps ++ qs) c = (look ps c).or (look qs c) := by
  unfold look
  rw [List.find?_append]
  cases ps.find? fun p => p.1 == c <;> rfl
theorem look_one (p : Nat × Nat) (c : Nat) : look [p] c = if p.1 = c then some p.2 else none := by
  unfold look
  by_cases h : p.1 = c
  · simp [h]
  · simp [h]
theorem look_mem {ps : List (Nat × Nat)} {c d : Nat} (h : look ps c = some d) : (c, d) ∈ ps := by
  unfold look at h
  cases q : ps.find? fun p => p.1 == c with
  | none => rw [q] at h; cases h
  | some p =>
    rw [q] at h
    have e : p.2 = d := Option.some.inj h
    have e1 := List.find?_some q
    have e2 : p.1 = c := by simpa using e1
    have := List.mem_of_find?_eq_some q
    rw [← e, ← e2]
    exact this
theorem look_some {ps : List (Nat × Nat)} {c d : Nat} (h : (c, d) ∈ ps) : ∃ x, look ps c = some x := by
  unfold look
  cases q : ps.find? fun p => p.1 == c with
  | none =>
    have := List.find?_eq_none.mp q _ h
    simp at this
  | some p => exact ⟨p.2, rfl⟩
theorem cns_iff {ps : List (Nat × Nat)} : cns ps = true ↔ ∀ p ∈ ps, look ps p.1 = some p.2 := by
  unfold cns
  simp [List.all_eq_true]
theorem cns_pre {ps qs : List (Nat × Nat)} (h : cns (ps ++ qs) = true) : cns ps = true := by
  rw [cns_iff] at h ⊢
  intro p hp
  have q := h p (List.mem_append_left _ hp)
  obtain ⟨x, hx⟩ := look_some (show (p.1, p.2) ∈ ps from hp)
  rw [look_app, hx] at q
  rw [hx]
  exact q
theorem cns_snoc {ps : List (Nat × Nat)} {p : Nat × Nat} (h : cns ps = true) (hp : look ps p.1 = none ∨ look ps p.1 = some p.2) : cns (ps ++ [p]) = true := by
  rw [cns_iff] at h ⊢
  intro q hq
  rw [look_app]
  rcases List.mem_append.mp hq with z | z
  · rw [h q z]; rfl
  · have e : q = p := by simpa using z
    subst e
    rcases hp with y | y
    · rw [y, look_one, if_pos rfl]; rfl
    · rw [y]; rfl
def tbl (m : Nat) (ps : List (Nat × Nat)) : List D := (List.range m).map fun c => dT (look ps c)
theorem tbl_len {m : Nat} {ps : List (Nat × Nat)} : (tbl m ps).length = m := by unfold tbl; rw [List.length_map, List.length_range]
theorem tbl_at {m c : Nat} {ps : List (Nat × Nat)} (h : c < m) : (tbl m ps)[c]? = some (dT (look ps c)) := by
  unfold tbl
  rw [List.getElem?_map, List.getElem?_range h]
  rfl
theorem tbl_set {m c x : Nat} {ps : List (Nat × Nat)} (h : c < m) (hx : look ps c = none ∨ look ps c = some x) : (tbl m ps).set c (dN x) = tbl m (ps ++ [(c, x)]) := by
  apply List.ext_getElem?
  intro j
  rw [List.getElem?_set, tbl_len]
  by_cases hj : c = j
  · subst hj
    rw [if_pos rfl, if_pos h, tbl_at h, look_app, look_one, if_pos rfl]
    rcases hx with y | y <;> rw [y] <;> rfl
  · rw [if_neg hj]
    by_cases hm : j < m
    · rw [tbl_at hm, tbl_at hm, look_app, look_one, if_neg hj]
      cases look ps j <;> rfl
    · rw [List.getElem?_eq_none (by rw [tbl_len]; omega), List.getElem?_eq_none (by rw [tbl_len]; omega)]
theorem tbl_nil (m : Nat) : tbl m [] = List.replicate m .non := by
  unfold tbl
  apply List.ext_getElem?
  intro j
  rw [List.getElem?_map, List.getElem?_replicate]
  by_cases hj : j < m
  · rw [List.getElem?_range hj, if_pos hj]; rfl
  · rw [List.getElem?_eq_none (by simpa using hj), if_neg hj]; rfl
theorem dTurn_tbl {m : Nat} {ps : List (Nat × Nat)} (h : cns ps = true) : dTurn (turnOf m ps) = .tup (tbl m ps) := by
  unfold turnOf
  rw [if_pos h]
  show D.tup (((List.range m).map (look ps)).map dT) = _
  rw [List.map_map]
  rfl
theorem dTurn_non {m : Nat} {ps : List (Nat × Nat)} (h : ¬ cns ps = true) : dTurn (turnOf m ps) = .non := by
  unfold turnOf
  rw [if_neg h]
  rfl
/-- a cell at the end -/
theorem set_end {st : Sto} {c c' : C} : (st ++ [c]).set st.length c' = st ++ [c'] := by
  rw [List.set_append_right _ _ (Nat.le_refl _), Nat.sub_self]
  exact List.append_cancel_left_eq .. |>.mpr rfl
theorem get_end {st : Sto} {c : C} : (st ++ [c])[st.length]? = some c := List.getElem?_concat_length ..
theorem rep_one {m : Nat} {d : D} : (List.replicate m [d]).flatten = List.replicate m d := by
  induction m with
  | zero => rfl
  | succ k ih => rw [List.replicate_succ, List.flatten_cons, ih]; rfl
theorem rep_ok {rho : En} {st : Sto} {a : MA} {b : ME} {xs : List D} {k : Int} (h1 : a rho st = .ok xs st) (h2 : b rho st = .ok (.int k) st) (hz : -(2 ^ 63) ≤ k ∧ k < 2 ^ 63 ∧ xs.length * k.toNat ≤ sizeLine) : mRep a b rho st = .ok (List.replicate k.toNat xs).flatten st := by
  unfold mRep
  rw [h1, bind_ok, h2, bind_ok]
  exact if_pos hz
theorem lst_one {rho : En} {st : Sto} {e : ME} {d : D} (h : e rho st = .ok d st) : mLst (mCons e mNil) rho st = .ok [d] st := by
  rw [ev_lst, ev_cons, h, bind_ok, ev_nil, bind_ok, bind_ok]
  exact if_pos (small_line (by decide : 1 ≤ 100000))
theorem rep_non {rho : En} {st : Sto} {m : Nat} {e : ME} (he : e rho st = .ok (dN m) st) (hm : m ≤ 1000) : (mRep (mLst (mCons (mC .non) mNil)) e) rho st = .ok (List.replicate m .non) st := by
  have hz : -(2 ^ 63) ≤ (m : Int) ∧ (m : Int) < 2 ^ 63 ∧ [D.non].length * (m : Int).toNat ≤ sizeLine := by
    refine ⟨by omega, by omega, ?_⟩
    rw [Int.toNat_natCast, List.length_singleton, Nat.one_mul]
    exact small_line (by omega)
  rw [rep_ok (lst_one (d := .non) rfl) he hz, Int.toNat_natCast, rep_one]
theorem turn_ok {m : Nat} {ps : List (Nat × Nat)} {st : Sto} (hm : m ≤ 9) (hp : ∀ p ∈ ps, p.1 < m) : OkR (Lib.g_turn_that_fits [dN m, .lst (ps.map dP)] st) fun d st' => d = dTurn (turnOf m ps) ∧ ∃ l, st' = st ++ l := by
  refine ok_fn ?_
  show OkR (Lib.m_turn_that_fits [some (dN m), some (.lst (ps.map dP)), none, none, none] st) _
  refine ok_seq (ok_set ?_)
  have n1 : (1 : Nat) ≤ sizeLine := small_line (by decide)
  have rep := rep_non (rho := [some (dN m), some (.lst (ps.map dP)), none, none, none]) (st := st) (m := m) (e := mVar 0) rfl (by omega)
  simp only [ev_c, ev_var0, ev_varS, ev_nil, ev_cons, ev_op, ev_un, ev_b', ev_and, ev_or, ev_not, ev_if, ev_andV, ev_orV, ev_notV, ev_tup, ev_lst, ev_fix, ev_new, ev_fn, ev_cal, ev_chain, ev_nopart, ev_part, ev_slice, ev_yes, ev_src, bind_ok, bindN_ok, bindS_ok, bind_assoc', asB_bl, asO_int, List.set_cons_succ, List.set_cons_zero, List.length_cons, List.length_nil, Nat.zero_add, Nat.reduceAdd, if_true, DL.add_int, DL.sub_int, DL.cmp_int, DL.eq_int, DL.ne_int, DL.eq_str, DL.ne_str, DL.neg_int, DL.len_tup, DL.len_lst, DL.tuple_tup, DL.tuple_lst, DL.cut_tup, DL.cut_lst, rep]
  refine okR_ok (ok_seq (ok_for ?_))
  simp only [ev_c, ev_var0, ev_varS, ev_nil, ev_cons, ev_op, ev_un, ev_b', ev_and, ev_or, ev_not, ev_if, ev_andV, ev_orV, ev_notV, ev_tup, ev_lst, ev_fix, ev_new, ev_fn, ev_cal, ev_chain, ev_nopart, ev_part, ev_slice, ev_yes, ev_src, bind_ok, bindN_ok, bindS_ok, bind_assoc', asB_bl, asO_int, List.set_cons_succ, List.set_cons_zero, List.length_cons, List.length_nil, Nat.zero_add, Nat.reduceAdd, if_true, DL.add_int, DL.sub_int, DL.cmp_int, DL.eq_int, DL.ne_int, DL.eq_str, DL.ne_str, DL.neg_int, DL.len_tup, DL.len_lst, DL.tuple_tup, DL.tuple_lst, DL.cut_tup, DL.cut_lst, srcOf]
  refine okR_ok ?_
  refine for_ok (fun i rho st' => cns (ps.take i) = true ∧ (∃ v3 v4, rho = [some (dN m), some (.lst (ps.map dP)), some (.ref st.length), v3, v4]) ∧ st' = st ++ [.lst (tbl m (ps.take i))]) (ps.map dP) (fun _ _ _ _ => good_nil) (fun i d rho st' hd inv => ?_) (fun rho st' inv => ?_) ⟨rfl, ⟨_, _, rfl⟩, by rw [List.take_zero, tbl_nil]⟩
  · obtain ⟨hc, ⟨v3, v4, rfl⟩, rfl⟩ := inv
    have hi : i < ps.length := by simpa using (List.getElem?_eq_some_iff.mp hd).1
    obtain ⟨⟨c, x⟩, ep⟩ : ∃ p, ps[i]? = some p := ⟨_, List.getElem?_eq_getElem hi⟩
    have ed : d = .tup [dN c, dN x] := by
      rw [List.getElem?_map, ep] at hd
      exact (Option.some.inj hd).symm
    subst ed
    have hcm : c < m := hp _ (List.mem_of_getElem? ep)
    have tk : ps.take (i + 1) = ps.take i ++ [(c, x)] := by rw [List.take_add_one, ep]; rfl
    have pre : ∀ y, look (ps.take i) c = some y → look ps c = some y := fun y h => by
      rw [← List.take_append_drop i ps, look_app, h]; rfl
    generalize hq : ps.take i = q at *
    rw [tp2]
    simp only [ev_c, ev_var0, ev_varS, ev_nil, ev_cons, ev_op, ev_un, ev_b', ev_and, ev_or, ev_not, ev_if, ev_andV, ev_orV, ev_notV, ev_tup, ev_lst, ev_fix, ev_new, ev_fn, ev_cal, ev_chain, ev_nopart, ev_part, ev_slice, ev_yes, ev_src, bind_ok, bindN_ok, bindS_ok, bind_assoc', asB_bl, asO_int, List.set_cons_succ, List.set_cons_zero, List.length_cons, List.length_nil, Nat.zero_add, Nat.reduceAdd, if_true, DL.add_int, DL.sub_int, DL.cmp_int, DL.eq_int, DL.ne_int, DL.eq_str, DL.ne_str, DL.neg_int, DL.len_tup, DL.len_lst, DL.tuple_tup, DL.tuple_lst, DL.cut_tup, DL.cut_lst]
    refine okR_ok (ok_seq (ok_ifS ?_))
    have at_ : dIx (.ref st.length) (dN c) (st ++ [C.lst (tbl m q)]) = .ok (dT (look q c)) (st ++ [C.lst (tbl m q)]) := ix_ref get_end (n := c) rfl (tbl_at hcm)
    simp only [ev_c, ev_var0, ev_varS, ev_nil, ev_cons, ev_op, ev_un, ev_b', ev_and, ev_or, ev_not, ev_if, ev_andV, ev_orV, ev_notV, ev_tup, ev_lst, ev_fix, ev_new, ev_fn, ev_cal, ev_chain, ev_nopart, ev_part, ev_slice, ev_yes, ev_src, bind_ok, bindN_ok, bindS_ok, bind_assoc', asB_bl, asO_int, List.set_cons_succ, List.set_cons_zero, List.length_cons, List.length_nil, Nat.zero_add, Nat.reduceAdd, if_true, DL.add_int, DL.sub_int, DL.cmp_int, DL.eq_int, DL.ne_int, DL.eq_str, DL.ne_str, DL.neg_int, DL.len_tup, DL.len_lst, DL.tuple_tup, DL.tuple_lst, DL.cut_tup, DL.cut_lst, at_]
    have p0 : dPut (.ref st.length) (dN c) (dN x) (st ++ [C.lst (tbl m q)]) = .ok () (st ++ [C.lst ((tbl m q).set c (dN x))]) := by
      have z := put_by (v := dN x) (get_end (st := st) (c := C.lst (tbl m q))) (n := c) (i := (c : Int)) rfl (by rw [tbl_len]; exact hcm)
      rw [set_end] at z
      exact z
    cases hk : look q c with
    | none =>
      refine okR_ok ⟨fun z => (by cases z), fun _ => ok_next ?_⟩
      refine ok_asg ?_
      try simp only [ev_c, ev_var0, ev_varS, ev_nil, ev_cons, ev_op, ev_un, ev_b', ev_and, ev_or, ev_not, ev_if, ev_andV, ev_orV, ev_notV, ev_tup, ev_lst, ev_fix, ev_new, ev_fn, ev_cal, ev_chain, ev_nopart, ev_part, ev_slice, ev_yes, ev_src, bind_ok, bindN_ok, bindS_ok, bind_assoc', asB_bl, asO_int, List.set_cons_succ, List.set_cons_zero, List.length_cons, List.length_nil, Nat.zero_add, Nat.reduceAdd, if_true, DL.add_int, DL.sub_int, DL.cmp_int, DL.eq_int, DL.ne_int, DL.eq_str, DL.ne_str, DL.neg_int, DL.len_tup, DL.len_lst, DL.tuple_tup, DL.tuple_lst, DL.cut_tup, DL.cut_lst]
      refine okR_ok ?_
      unfold gIx
      simp only [ev_c, ev_var0, ev_varS, ev_nil, ev_cons, ev_op, ev_un, ev_b', ev_and, ev_or, ev_not, ev_if, ev_andV, ev_orV, ev_notV, ev_tup, ev_lst, ev_fix, ev_new, ev_fn, ev_cal, ev_chain, ev_nopart, ev_part, ev_slice, ev_yes, ev_src, bind_ok, bindN_ok, bindS_ok, bind_assoc', asB_bl, asO_int, List.set_cons_succ, List.set_cons_zero, List.length_cons, List.length_nil, Nat.zero_add, Nat.reduceAdd, if_true, DL.add_int, DL.sub_int, DL.cmp_int, DL.eq_int, DL.ne_int, DL.eq_str, DL.ne_str, DL.neg_int, DL.len_tup, DL.len_lst, DL.tuple_tup, DL.tuple_lst, DL.cut_tup, DL.cut_lst, p0]
      refine okR_ok ⟨?_, ⟨_, _, rfl⟩, ?_⟩
      · rw [tk]; exact cns_snoc hc (.inl hk)
      · rw [tbl_set hcm (.inl hk), tk]
    | some y =>
      have ne : dNe (dT (some y)) (dN x) (st ++ [C.lst (tbl m q)]) = .ok (.bl (!decide ((y : Int) = x))) (st ++ [C.lst (tbl m q)]) := rfl
      have nn : dNotN (dT (some y)) .non (st ++ [C.lst (tbl m q)]) = .ok (.bl true) (st ++ [C.lst (tbl m q)]) := rfl
      rw [hk] at at_
      simp only [ev_c, ev_var0, ev_varS, ev_nil, ev_cons, ev_op, ev_un, ev_b', ev_and, ev_or, ev_not, ev_if, ev_andV, ev_orV, ev_notV, ev_tup, ev_lst, ev_fix, ev_new, ev_fn, ev_cal, ev_chain, ev_nopart, ev_part, ev_slice, ev_yes, ev_src, bind_ok, bindN_ok, bindS_ok, bind_assoc', asB_bl, asO_int, List.set_cons_succ, List.set_cons_zero, List.length_cons, List.length_nil, Nat.zero_add, Nat.reduceAdd, if_true, DL.add_int, DL.sub_int, DL.cmp_int, DL.eq_int, DL.ne_int, DL.eq_str, DL.ne_str, DL.neg_int, DL.len_tup, DL.len_lst, DL.tuple_tup, DL.tuple_lst, DL.cut_tup, DL.cut_lst, nn, at_, ne]
      by_cases hyx : y = x
      · subst hyx
        simp only [decide_true, Bool.not_true]
        refine okR_ok ⟨fun z => (by cases z), fun _ => ok_next ?_⟩
        refine ok_asg ?_
        try simp only [ev_c, ev_var0, ev_varS, ev_nil, ev_cons, ev_op, ev_un, ev_b', ev_and, ev_or, ev_not, ev_if, ev_andV, ev_orV, ev_notV, ev_tup, ev_lst, ev_fix, ev_new, ev_fn, ev_cal, ev_chain, ev_nopart, ev_part, ev_slice, ev_yes, ev_src, bind_ok, bindN_ok, bindS_ok, bind_assoc', asB_bl, asO_int, List.set_cons_succ, List.set_cons_zero, List.length_cons, List.length_nil, Nat.zero_add, Nat.reduceAdd, if_true, DL.add_int, DL.sub_int, DL.cmp_int, DL.eq_int, DL.ne_int, DL.eq_str, DL.ne_str, DL.neg_int, DL.len_tup, DL.len_lst, DL.tuple_tup, DL.tuple_lst, DL.cut_tup, DL.cut_lst]
        refine okR_ok ?_
        unfold gIx
        simp only [ev_c, ev_var0, ev_varS, ev_nil, ev_cons, ev_op, ev_un, ev_b', ev_and, ev_or, ev_not, ev_if, ev_andV, ev_orV, ev_notV, ev_tup, ev_lst, ev_fix, ev_new, ev_fn, ev_cal, ev_chain, ev_nopart, ev_part, ev_slice, ev_yes, ev_src, bind_ok, bindN_ok, bindS_ok, bind_assoc', asB_bl, asO_int, List.set_cons_succ, List.set_cons_zero, List.length_cons, List.length_nil, Nat.zero_add, Nat.reduceAdd, if_true, DL.add_int, DL.sub_int, DL.cmp_int, DL.eq_int, DL.ne_int, DL.eq_str, DL.ne_str, DL.neg_int, DL.len_tup, DL.len_lst, DL.tuple_tup, DL.tuple_lst, DL.cut_tup, DL.cut_lst, p0]
        refine okR_ok ⟨?_, ⟨_, _, rfl⟩, ?_⟩
        · rw [tk]; exact cns_snoc hc (.inr hk)
        · rw [tbl_set hcm (.inr hk), tk]
      · simp only [show ¬ ((y : Int) = x) by omega, decide_false, Bool.not_false]
        refine okR_ok ⟨fun _ => ok_ret (okR_ok ⟨?_, _, rfl⟩), fun z => by cases z⟩
        rw [dTurn_non]
        intro h
        have := cns_iff.mp h _ (List.mem_of_getElem? ep)
        rw [pre y hk] at this
        exact hyx (Option.some.inj this)
  · obtain ⟨hc, ⟨v3, v4, rfl⟩, rfl⟩ := inv
    rw [List.length_map, List.take_length] at *
    refine ok_ret ?_
    simp only [ev_c, ev_var0, ev_varS, ev_nil, ev_cons, ev_op, ev_un, ev_b', ev_and, ev_or, ev_not, ev_if, ev_andV, ev_orV, ev_notV, ev_tup, ev_lst, ev_fix, ev_new, ev_fn, ev_cal, ev_chain, ev_nopart, ev_part, ev_slice, ev_yes, ev_src, bind_ok, bindN_ok, bindS_ok, bind_assoc', asB_bl, asO_int, List.set_cons_succ, List.set_cons_zero, List.length_cons, List.length_nil, Nat.zero_add, Nat.reduceAdd, if_true, DL.add_int, DL.sub_int, DL.cmp_int, DL.eq_int, DL.ne_int, DL.eq_str, DL.ne_str, DL.neg_int, DL.len_tup, DL.len_lst, DL.tuple_tup, DL.tuple_lst, DL.cut_tup, DL.cut_lst, tuple_ref get_end]
    exact okR_ok ⟨(dTurn_tbl hc).symm, _, rfl⟩
end DL

set_option Elab.async false
set_option linter.all false
set_option maxRecDepth 100000
set_option maxHeartbeats 2000000
/-! DFit: all copies that fit, in their order. -/
namespace DL
open PySem PySem.Spec L2

/-- the store only grows -/
structure Ext (st st' : Sto) : Prop where
  le : st.length ≤ st'.length
  same : ∀ i, i < st.length → st'[i]? = st[i]?
theorem Ext.refl (st : Sto) : Ext st st := ⟨Nat.le_refl _, fun _ _ => rfl⟩
theorem Ext.trans {a b c : Sto} (x : Ext a b) (y : Ext b c) : Ext a c := ⟨Nat.le_trans x.le y.le, fun i hi => (y.same i (Nat.lt_of_lt_of_le hi x.le)).trans (x.same i hi)⟩
theorem Ext.app (st l : Sto) : Ext st (st ++ l) := ⟨by simp, fun i hi => List.getElem?_append_left hi⟩
theorem Ext.of {st st' : Sto} (h : ∃ l, st' = st ++ l) : Ext st st' := by obtain ⟨l, rfl⟩ := h; exact .app st l
theorem Ext.set {a b : Sto} (x : Ext a b) {n : Nat} (hn : a.length ≤ n) (c : C) : Ext a (b.set n c) :=
  ⟨by rw [List.length_set]; exact x.le, fun i hi => by rw [List.getElem?_set_ne (by omega)]; exact x.same i hi⟩
theorem Ext.get {st st' : Sto} (x : Ext st st') {n : Nat} {c : C} (h : st[n]? = some c) : st'[n]? = some c := (x.same n (List.getElem?_eq_some_iff.mp h).1).trans h
theorem Ext.onl {st st' : Sto} (x : Ext st st') (h : Nat) : Onl h st st' := ⟨x.le, fun i hi _ => x.same i hi⟩
theorem Ho.ext {st st' : Sto} {h n : Nat} (x : Ho st h n) (e : Ext st st') : Ho st' h n := x.keep (e.same h x.lt)

def fit1 (s : See) (hand other ago : Nat) : Option D := (turnOf s.m (s.pairs hand other ago)).map fun t => .tup [dN other, dN ago, dTurn (some t)]
def fitRow (s : See) (hand other k : Nat) : List D := (List.range k).filterMap fun a => fit1 s hand other (a + 1)
def fitTo (s : See) (hand most i : Nat) : List D := (List.range i).flatMap fun o => fitRow s hand o most
def fitsL (s : See) (hand most : Nat) : List D := fitTo s hand most s.bef.length
def optL : Option D → List D
  | none => []
  | some d => [d]
theorem fitRow_succ (s : See) (hand other k : Nat) : fitRow s hand other (k + 1) = fitRow s hand other k ++ optL (fit1 s hand other (k + 1)) := by
  unfold fitRow
  rw [List.range_succ, List.filterMap_append]
  congr 1
  cases h : fit1 s hand other (k + 1) <;> simp [h, optL]
theorem fitTo_succ (s : See) (hand most i : Nat) : fitTo s hand most (i + 1) = fitTo s hand most i ++ fitRow s hand i most := by
  unfold fitTo
  rw [List.range_succ, List.flatMap_append]
  simp
theorem filt_len {α β : Type} (f : α → Option β) : ∀ l : List α, (l.filterMap f).length ≤ l.length
  | [] => Nat.le_refl _
  | a :: l => by
    rw [List.filterMap_cons]
    have := filt_len f l
    split
    · rw [List.length_cons]; omega
    · rw [List.length_cons, List.length_cons]; omega
theorem fitRow_len (s : See) (hand other k : Nat) : (fitRow s hand other k).length ≤ k := by
  unfold fitRow
  have := filt_len (fun a => fit1 s hand other (a + 1)) (List.range k)
  rwa [List.length_range] at this
theorem fitTo_len (s : See) (hand most : Nat) : ∀ i, (fitTo s hand most i).length ≤ i * most
  | 0 => by simp [fitTo]
  | i + 1 => by
    rw [fitTo_succ, List.length_append, Nat.succ_mul]
    have := fitTo_len s hand most i
    have := fitRow_len s hand i most
    omega
/-- for other .. for ago .., by any way to a turn -/
noncomputable def fitsM (E : ME) : MS :=
  (mSeq (mSet 3 (mNew (mLst mNil)))
   (mSeq (mFor (mRng1 (mCons (mFn dLen (mCons (mOp dIx (mVar 0) (mC (.int 1))) mNil)) mNil)) (gNm 4) (mFor (mRng2 (mCons (mC (.int 1)) (mCons (mOp dAdd (mVar 2) (mC (.int 1))) mNil))) (gNm 5) (mSeq (mSet 6 E)
   (mIfS (mB (mOp dNotN (mVar 6) (mC .non))) (mDrop (mMt "list" dApp (mVar 3) (mCons (mTup (mCons (mVar 4) (mCons (mVar 5) (mCons (mVar 6) mNil)))) mNil))) mNext))))
   (mRet (mVar 3))))
theorem rng2_bind {rho : En} {st : Sto} {e e' : ME} {i j : Int} {P : Src → Sto → Prop} (h1 : e rho st = .ok (.int i) st) (h2 : e' rho st = .ok (.int j) st) (hz : -(2 ^ 62) ≤ i ∧ i < 2 ^ 62 ∧ -(2 ^ 62) ≤ j ∧ j < 2 ^ 62) (p : P ⟨rgD i j, []⟩ st) : OkR (mRng2 (mCons e (mCons e' mNil)) rho st) P := by
  unfold mRng2
  rw [ev_cons, h1, bind_ok, ev_cons, h2, bind_ok, ev_nil, bind_ok, bind_ok, bind_ok]
  refine okR_eq (if_pos hz) p
section
variable {s : See} {beats : Nat}
theorem fitsM_ok {E : ME} {hand most : Nat} {st : Sto} (o : s.Ok beats) (hh : hand < s.bef.length) (hm : most ≤ 12)
    (hE : ∀ (other ago : Nat) (v3 v6 : Option D) (st' : Sto), other < s.bef.length → 1 ≤ ago → ago ≤ most → OkR (E [some s.d, some (dN hand), some (dN most), v3, some (dN other), some (dN ago), v6] st') fun d st2 => d = dTurn (turnOf s.m (s.pairs hand other ago)) ∧ Ext st' st2) :
    OkR (fnRun 4 (fitsM E) [s.d, dN hand, dN most] st) fun d st' => d = .ref st.length ∧ st'[st.length]? = some (.lst (fitsL s hand most)) ∧ Ext st st' := by
  refine ok_fn ?_
  show OkR (fitsM E [some s.d, some (dN hand), some (dN most), none, none, none, none] st) _
  unfold fitsM
  refine ok_seq (ok_set ?_)
  simp only [ev_c, ev_var0, ev_varS, ev_nil, ev_cons, ev_op, ev_un, ev_b', ev_and, ev_or, ev_not, ev_if, ev_andV, ev_orV, ev_notV, ev_tup, ev_lst, ev_fix, ev_new, ev_fn, ev_cal, ev_chain, ev_nopart, ev_part, ev_slice, ev_yes, ev_src, bind_ok, bindN_ok, bindS_ok, bind_assoc', asB_bl, asO_int, List.set_cons_succ, List.set_cons_zero, List.length_cons, List.length_nil, Nat.zero_add, Nat.reduceAdd, if_true, DL.add_int, DL.sub_int, DL.cmp_int, DL.eq_int, DL.ne_int, DL.eq_str, DL.ne_str, DL.neg_int, DL.len_tup, DL.len_lst, DL.tuple_tup, DL.tuple_lst, DL.cut_tup, DL.cut_lst, if_pos (Nat.zero_le sizeLine)]
  refine okR_ok (ok_seq (ok_for ?_))
  have f1 : dIx s.d (.int 1) (st ++ [C.lst []]) = .ok (dRow s.bef) (st ++ [C.lst []]) := ix_tup (n := 1) rfl rfl
  have f1l : dLen [dRow s.bef] (st ++ [C.lst []]) = .ok (dN s.bef.length) (st ++ [C.lst []]) := by
    show R.ok (D.int ((s.bef.map dN).length : Nat)) _ = _
    rw [List.length_map]
    rfl
  have c6 := o.c6
  refine okR_eq (rng1_ok (j := (s.bef.length : Nat)) (by simp only [ev_c, ev_var0, ev_varS, ev_nil, ev_cons, ev_op, ev_un, ev_b', ev_and, ev_or, ev_not, ev_if, ev_andV, ev_orV, ev_notV, ev_tup, ev_lst, ev_fix, ev_new, ev_fn, ev_cal, ev_chain, ev_nopart, ev_part, ev_slice, ev_yes, ev_src, bind_ok, bindN_ok, bindS_ok, bind_assoc', asB_bl, asO_int, List.set_cons_succ, List.set_cons_zero, List.length_cons, List.length_nil, Nat.zero_add, Nat.reduceAdd, if_true, DL.add_int, DL.sub_int, DL.cmp_int, DL.eq_int, DL.ne_int, DL.eq_str, DL.ne_str, DL.neg_int, DL.len_tup, DL.len_lst, DL.tuple_tup, DL.tuple_lst, DL.cut_tup, DL.cut_lst, f1, f1l]; rfl) (by omega)) ?_
  have hlc : (rgD 0 (s.bef.length : Int)).length = s.bef.length := by rw [rgD_length]; omega
  let Env (v4 v5 v6 : Option D) : En := [some s.d, some (dN hand), some (dN most), some (.ref st.length), v4, v5, v6]
  refine for_ok (fun i rho st' => i ≤ s.bef.length ∧ (∃ v4 v5 v6, rho = Env v4 v5 v6) ∧ st'[st.length]? = some (.lst (fitTo s hand most i)) ∧ Ext st st') (rgD 0 (s.bef.length : Int)) (fun _ _ _ _ => good_nil) (fun i d rho st' hd inv => ?_) (fun rho st' inv => ?_)
    ⟨Nat.zero_le _, ⟨_, _, _, rfl⟩, get_end, .app _ _⟩
  · obtain ⟨_, ⟨v4, v5, v6, rfl⟩, gL, ex⟩ := inv
    have hi : i < s.bef.length := by rw [← hlc]; exact (List.getElem?_eq_some_iff.mp hd).1
    have ed : d = dN i := by
      rw [rgD_at (by omega)] at hd
      rw [← Option.some.inj hd, Int.zero_add]
      rfl
    subst ed
    rw [gnm]
    refine okR_ok (ok_for ?_)
    refine rng2_bind (i := 1) (j := (most : Int) + 1) rfl rfl (by omega) ?_
    have hlm : (rgD 1 ((most : Int) + 1)).length = most := by rw [rgD_length]; omega
    refine for_ok (fun j rho st2 => j ≤ most ∧ (∃ v5 v6, rho = Env (some (dN i)) v5 v6) ∧ st2[st.length]? = some (.lst (fitTo s hand most i ++ fitRow s hand i j)) ∧ Ext st st2) (rgD 1 ((most : Int) + 1)) (fun _ _ _ _ => good_nil) (fun j d rho st2 hd inv => ?_) (fun rho st2 inv => ?_)
      ⟨Nat.zero_le _, ⟨_, _, rfl⟩, by rw [show fitRow s hand i 0 = [] from rfl, List.append_nil]; exact gL, ex⟩
    · obtain ⟨_, ⟨w5, w6, rfl⟩, gL2, ex2⟩ := inv
      have hj : j < most := by rw [← hlm]; exact (List.getElem?_eq_some_iff.mp hd).1
      have ed : d = dN (j + 1) := by
        rw [rgD_at (by omega)] at hd
        rw [← Option.some.inj hd]
        show D.int (1 + (j : Int)) = D.int ((j + 1 : Nat) : Int)
        congr 1
        omega
      subst ed
      rw [gnm]
      refine okR_ok (ok_seq (ok_set ?_))
      refine (hE i (j + 1) _ _ st2 hi (by omega) (by omega)).imp fun t st3 ⟨et, ex3⟩ => ?_
      subst et
      have gL3 := ex3.get gL2
      refine ok_ifS ?_
      have bnd := fitTo_len s hand most i
      have bnd2 := fitRow_len s hand i j
      have bnd3 : i * most ≤ 6 * 12 := Nat.mul_le_mul (by omega) hm
      cases ht : turnOf s.m (s.pairs hand i (j + 1)) with
      | none =>
        refine okR_ok ⟨fun z => (by cases z), fun _ => ok_next ⟨by omega, ⟨_, _, rfl⟩, ?_, ex2.trans ex3⟩⟩
        rw [fitRow_succ, show fit1 s hand i (j + 1) = none by unfold fit1; rw [ht]; rfl]
        simpa [optL] using gL3
      | some t =>
        refine okR_ok ⟨fun _ => ok_drop ?_, fun z => by cases z⟩
        have n3 : (3 : Nat) ≤ sizeLine := small_line (by decide)
        simp only [Env, ev_mt, ev_c, ev_var0, ev_varS, ev_nil, ev_cons, ev_op, ev_un, ev_b', ev_and, ev_or, ev_not, ev_if, ev_andV, ev_orV, ev_notV, ev_tup, ev_lst, ev_fix, ev_new, ev_fn, ev_cal, ev_chain, ev_nopart, ev_part, ev_slice, ev_yes, ev_src, bind_ok, bindN_ok, bindS_ok, bind_assoc', asB_bl, asO_int, List.set_cons_succ, List.set_cons_zero, List.length_cons, List.length_nil, Nat.zero_add, Nat.reduceAdd, if_true, DL.add_int, DL.sub_int, DL.cmp_int, DL.eq_int, DL.ne_int, DL.eq_str, DL.ne_str, DL.neg_int, DL.len_tup, DL.len_lst, DL.tuple_tup, DL.tuple_lst, DL.cut_tup, DL.cut_lst, ty_cell gL3, if_pos n3, app_by gL3 (show (fitTo s hand most i ++ fitRow s hand i j).length < sizeLine by rw [List.length_append, sizeLine_eq]; omega)]
        have ln : st.length < st3.length := (List.getElem?_eq_some_iff.mp gL3).1
        refine okR_ok ?_
        refine ⟨by omega, ⟨_, _, rfl⟩, ?_, (ex2.trans ex3).set (Nat.le_refl _) _⟩
        rw [List.getElem?_set_self ln, fitRow_succ, show fit1 s hand i (j + 1) = some (.tup [dN i, dN (j + 1), dTurn (some t)]) by unfold fit1; rw [ht]; rfl, ← List.append_assoc]
        rfl
    · obtain ⟨_, ⟨w5, w6, rfl⟩, gL2, ex2⟩ := inv
      rw [hlm] at gL2
      exact ⟨by omega, ⟨_, _, _, rfl⟩, by rw [fitTo_succ]; exact gL2, ex2⟩
  · obtain ⟨_, ⟨v4, v5, v6, rfl⟩, gL, ex⟩ := inv
    rw [hlc] at gL
    exact ok_ret (okR_ok ⟨rfl, gL, ex⟩)
theorem fits_ok {hand most : Nat} {st : Sto} (o : s.Ok beats) (hh : hand < s.bef.length) (hm : most ≤ 12) : OkR (Lib.g_fits [s.d, dN hand, dN most] st) fun d st' => d = .ref st.length ∧ st'[st.length]? = some (.lst (fitsL s hand most)) ∧ Ext st st' := by
  refine fitsM_ok (E := mCal 2 Lib.g_turn_that_fits (mCons (mOp dIx (mVar 0) (mC (.int 0))) (mCons (mCal 4 Lib.g_pairs_of (mCons (mVar 0) (mCons (mVar 1) (mCons (mVar 4) (mCons (mVar 5) mNil))))) mNil))) o hh hm fun other ago v3 v6 st' ho h1 h2 => ?_
  have f0 : dIx s.d (.int 0) st' = .ok (dN s.m) st' := ix_tup (n := 0) rfl rfl
  simp only [ev_c, ev_var0, ev_varS, ev_nil, ev_cons, ev_op, ev_un, ev_b', ev_and, ev_or, ev_not, ev_if, ev_andV, ev_orV, ev_notV, ev_tup, ev_lst, ev_fix, ev_new, ev_fn, ev_cal, ev_chain, ev_nopart, ev_part, ev_slice, ev_yes, ev_src, bind_ok, bindN_ok, bindS_ok, bind_assoc', asB_bl, asO_int, List.set_cons_succ, List.set_cons_zero, List.length_cons, List.length_nil, Nat.zero_add, Nat.reduceAdd, if_true, DL.add_int, DL.sub_int, DL.cmp_int, DL.eq_int, DL.ne_int, DL.eq_str, DL.ne_str, DL.neg_int, DL.len_tup, DL.len_lst, DL.tuple_tup, DL.tuple_lst, DL.cut_tup, DL.cut_lst, f0, pairs_run o hh ho]
  exact (turn_ok o.m9 fun p hp => (pairs_lt o hh ho p hp).1).imp fun d st2 ⟨e, x⟩ => ⟨e, .of x⟩
end
end DL

set_option Elab.async false
set_option linter.all false
set_option maxRecDepth 100000
set_option maxHeartbeats 4000000
namespace A62
open PySem PySem.Spec PyProof.Rows L2 DL
def topS (i : Nat) : Stmt := PySem.Challenge.pw_agohands_k62_copies_that_fit.main.body.getD i (.Pass ⟨0, 0, 0, 0⟩)
abbrev s__law_hoard_of : Stmt := topS 8
def Fd__law_hoard_of (K : PySem.W.Frag) (fd : FuncData) : Prop := FunD K "_law_hoard_of" "_law_hoard_of" (defArgs s__law_hoard_of) (defBody s__law_hoard_of) (defScope s__law_hoard_of) [] [] (He.ga K "_law_hoard_of") fd
abbrev s__law_draw : Stmt := topS 9
def Fd__law_draw (K : PySem.W.Frag) (fd : FuncData) : Prop := FunD K "_law_draw" "_law_draw" (defArgs s__law_draw) (defBody s__law_draw) (defScope s__law_draw) [] [] (He.ga K "_law_draw") fd
abbrev s__law_shift : Stmt := topS 10
def Fd__law_shift (K : PySem.W.Frag) (fd : FuncData) : Prop := FunD K "_law_shift" "_law_shift" (defArgs s__law_shift) (defBody s__law_shift) (defScope s__law_shift) [] [] (He.ga K "_law_shift") fd
abbrev s__law_some_seen : Stmt := topS 11
def Fd__law_some_seen (K : PySem.W.Frag) (fd : FuncData) : Prop := FunD K "_law_some_seen" "_law_some_seen" (defArgs s__law_some_seen) (defBody s__law_some_seen) (defScope s__law_some_seen) [] [] (He.ga K "_law_some_seen") fd
abbrev s__law_did : Stmt := topS 12
def Fd__law_did (K : PySem.W.Frag) (fd : FuncData) : Prop := FunD K "_law_did" "_law_did" (defArgs s__law_did) (defBody s__law_did) (defScope s__law_did) [] [] (He.ga K "_law_did") fd
abbrev s__law_turn_due : Stmt := topS 13
def Fd__law_turn_due (K : PySem.W.Frag) (fd : FuncData) : Prop := FunD K "_law_turn_due" "_law_turn_due" (defArgs s__law_turn_due) (defBody s__law_turn_due) (defScope s__law_turn_due) [] [] (He.ga K "_law_turn_due") fd
abbrev s__law_due_now : Stmt := topS 14
def Fd__law_due_now (K : PySem.W.Frag) (fd : FuncData) : Prop := FunD K "_law_due_now" "_law_due_now" (defArgs s__law_due_now) (defBody s__law_due_now) (defScope s__law_due_now) [] [] (He.ga K "_law_due_now") fd
abbrev s_turn_that_fits : Stmt := topS 5
def Fd_turn_that_fits (K : PySem.W.Frag) (fd : FuncData) : Prop := FunD K "turn_that_fits" "turn_that_fits" (defArgs s_turn_that_fits) (defBody s_turn_that_fits) (defScope s_turn_that_fits) [] [] (He.ga K "turn_that_fits") fd
abbrev s_seen_at : Stmt := topS 3
def Fd_seen_at (K : PySem.W.Frag) (fd : FuncData) : Prop := FunD K "seen_at" "seen_at" (defArgs s_seen_at) (defBody s_seen_at) (defScope s_seen_at) [] [] (He.ga K "seen_at") fd
abbrev s_pairs_of : Stmt := topS 4
def Fd_pairs_of (K : PySem.W.Frag) (fd : FuncData) : Prop := FunD K "pairs_of" "pairs_of" (defArgs s_pairs_of) (defBody s_pairs_of) (defScope s_pairs_of) [] [] (He.ga K "pairs_of") fd
abbrev s_fits : Stmt := topS 6
def Fd_fits (K : PySem.W.Frag) (fd : FuncData) : Prop := FunD K "fits" "fits" (defArgs s_fits) (defBody s_fits) (defScope s_fits) [] [("most", .int 12)] (He.ga K "fits") fd
abbrev s_law : Stmt := topS 15
def Fd_law (K : PySem.W.Frag) (fd : FuncData) : Prop := FunD K "law" "law" (defArgs s_law) (defBody s_law) (defScope s_law) [] [] (He.ga K "law") fd
structure Txt (K : PySem.W.Frag) (mg : Str → Option Value) : Prop where
  g__law_hoard_of : mg "_law_hoard_of" = some (.ref (He.ga K "_law_hoard_of"))
  g__law_draw : mg "_law_draw" = some (.ref (He.ga K "_law_draw"))
  g__law_shift : mg "_law_shift" = some (.ref (He.ga K "_law_shift"))
  g__law_some_seen : mg "_law_some_seen" = some (.ref (He.ga K "_law_some_seen"))
  g__law_did : mg "_law_did" = some (.ref (He.ga K "_law_did"))
  g__law_turn_due : mg "_law_turn_due" = some (.ref (He.ga K "_law_turn_due"))
  g__law_due_now : mg "_law_due_now" = some (.ref (He.ga K "_law_due_now"))
  g_turn_that_fits : mg "turn_that_fits" = some (.ref (He.ga K "turn_that_fits"))
  g_seen_at : mg "seen_at" = some (.ref (He.ga K "seen_at"))
  g_pairs_of : mg "pairs_of" = some (.ref (He.ga K "pairs_of"))
  g_fits : mg "fits" = some (.ref (He.ga K "fits"))
  g_law : mg "law" = some (.ref (He.ga K "law"))
  d__law_hoard_of : ∃ fd, Fd__law_hoard_of K fd
  d__law_draw : ∃ fd, Fd__law_draw K fd
  d__law_shift : ∃ fd, Fd__law_shift K fd
  d__law_some_seen : ∃ fd, Fd__law_some_seen K fd
  d__law_did : ∃ fd, Fd__law_did K fd
  d__law_turn_due : ∃ fd, Fd__law_turn_due K fd
  d__law_due_now : ∃ fd, Fd__law_due_now K fd
  d_turn_that_fits : ∃ fd, Fd_turn_that_fits K fd
  d_seen_at : ∃ fd, Fd_seen_at K fd
  d_pairs_of : ∃ fd, Fd_pairs_of K fd
  d_fits : ∃ fd, Fd_fits K fd
  d_law : ∃ fd, Fd_law K fd
  n_max : mg "max" = none
  n_range : mg "range" = none
  n_tuple : mg "tuple" = none
  n_list : mg "list" = none
  n_len : mg "len" = none
  n_sorted : mg "sorted" = none
  n_set : mg "set" = none
  n_enumerate : mg "enumerate" = none
  n_repr : mg "repr" = none
  c_MOST_AGO : ∃ t, mg "MOST_AGO" = some (.int 12 t)
def d__law_hoard_of : He.DefD := ⟨("_law_hoard_of", none), "_law_hoard_of", "_law_hoard_of", defArgs s__law_hoard_of, defBody s__law_hoard_of, defScope s__law_hoard_of, [], []⟩
def d__law_draw : He.DefD := ⟨("_law_draw", none), "_law_draw", "_law_draw", defArgs s__law_draw, defBody s__law_draw, defScope s__law_draw, [], []⟩
def d__law_shift : He.DefD := ⟨("_law_shift", none), "_law_shift", "_law_shift", defArgs s__law_shift, defBody s__law_shift, defScope s__law_shift, [], []⟩
def d__law_some_seen : He.DefD := ⟨("_law_some_seen", none), "_law_some_seen", "_law_some_seen", defArgs s__law_some_seen, defBody s__law_some_seen, defScope s__law_some_seen, [], []⟩
def d__law_did : He.DefD := ⟨("_law_did", none), "_law_did", "_law_did", defArgs s__law_did, defBody s__law_did, defScope s__law_did, [], []⟩
def d__law_turn_due : He.DefD := ⟨("_law_turn_due", none), "_law_turn_due", "_law_turn_due", defArgs s__law_turn_due, defBody s__law_turn_due, defScope s__law_turn_due, [], []⟩
def d__law_due_now : He.DefD := ⟨("_law_due_now", none), "_law_due_now", "_law_due_now", defArgs s__law_due_now, defBody s__law_due_now, defScope s__law_due_now, [], []⟩
def d_turn_that_fits : He.DefD := ⟨("turn_that_fits", none), "turn_that_fits", "turn_that_fits", defArgs s_turn_that_fits, defBody s_turn_that_fits, defScope s_turn_that_fits, [], []⟩
def d_seen_at : He.DefD := ⟨("seen_at", none), "seen_at", "seen_at", defArgs s_seen_at, defBody s_seen_at, defScope s_seen_at, [], []⟩
def d_pairs_of : He.DefD := ⟨("pairs_of", none), "pairs_of", "pairs_of", defArgs s_pairs_of, defBody s_pairs_of, defScope s_pairs_of, [], []⟩
def d_fits : He.DefD := ⟨("fits", none), "fits", "fits", defArgs s_fits, defBody s_fits, defScope s_fits, [], [("most", .int 12)]⟩
def d_law : He.DefD := ⟨("law", none), "law", "law", defArgs s_law, defBody s_law, defScope s_law, [], []⟩
def fn : List He.DefD := [d__law_hoard_of, d__law_draw, d__law_shift, d__law_some_seen, d__law_did, d__law_turn_due, d__law_due_now, d_turn_that_fits, d_seen_at, d_pairs_of, d_fits, d_law]
def fa : List He.Fa := [.glo "_law_hoard_of", .glo "_law_draw", .glo "_law_shift", .glo "_law_some_seen", .glo "_law_did", .glo "_law_turn_due", .glo "_law_due_now", .glo "turn_that_fits", .glo "seen_at", .glo "pairs_of", .glo "fits", .glo "law", .free "max", .free "range", .free "tuple", .free "list", .free "len", .free "sorted", .free "set", .free "enumerate", .free "repr", .int "MOST_AGO" 12]
theorem txt_of {K : PySem.W.Frag} {h : Heap} {mg : Str → Option Value} (X : K.In h) (G : h.Ns mainGlobals mg) (c : He.SaysD fa fn K) : Txt K mg :=
  ⟨He.glo_ok X G (c.fact 0 (f := .glo "_law_hoard_of") rfl),
   He.glo_ok X G (c.fact 1 (f := .glo "_law_draw") rfl),
   He.glo_ok X G (c.fact 2 (f := .glo "_law_shift") rfl),
   He.glo_ok X G (c.fact 3 (f := .glo "_law_some_seen") rfl),
   He.glo_ok X G (c.fact 4 (f := .glo "_law_did") rfl),
   He.glo_ok X G (c.fact 5 (f := .glo "_law_turn_due") rfl),
   He.glo_ok X G (c.fact 6 (f := .glo "_law_due_now") rfl),
   He.glo_ok X G (c.fact 7 (f := .glo "turn_that_fits") rfl),
   He.glo_ok X G (c.fact 8 (f := .glo "seen_at") rfl),
   He.glo_ok X G (c.fact 9 (f := .glo "pairs_of") rfl),
   He.glo_ok X G (c.fact 10 (f := .glo "fits") rfl),
   He.glo_ok X G (c.fact 11 (f := .glo "law") rfl),
   c.def_ 0 (d := d__law_hoard_of) rfl,
   c.def_ 1 (d := d__law_draw) rfl,
   c.def_ 2 (d := d__law_shift) rfl,
   c.def_ 3 (d := d__law_some_seen) rfl,
   c.def_ 4 (d := d__law_did) rfl,
   c.def_ 5 (d := d__law_turn_due) rfl,
   c.def_ 6 (d := d__law_due_now) rfl,
   c.def_ 7 (d := d_turn_that_fits) rfl,
   c.def_ 8 (d := d_seen_at) rfl,
   c.def_ 9 (d := d_pairs_of) rfl,
   c.def_ 10 (d := d_fits) rfl,
   c.def_ 11 (d := d_law) rfl,
   He.free_ok X G (c.fact 12 (f := .free "max") rfl),
   He.free_ok X G (c.fact 13 (f := .free "range") rfl),
   He.free_ok X G (c.fact 14 (f := .free "tuple") rfl),
   He.free_ok X G (c.fact 15 (f := .free "list") rfl),
   He.free_ok X G (c.fact 16 (f := .free "len") rfl),
   He.free_ok X G (c.fact 17 (f := .free "sorted") rfl),
   He.free_ok X G (c.fact 18 (f := .free "set") rfl),
   He.free_ok X G (c.fact 19 (f := .free "enumerate") rfl),
   He.free_ok X G (c.fact 20 (f := .free "repr") rfl),
   He.int_ok X G (c.fact 21 (f := .int "MOST_AGO" 12) rfl)⟩
section
variable {P : Program} {w : World} {K : PySem.W.Frag} {mg : Str → Option Value} {base : Heap}
theorem kb_fits {fd : FuncData} (F : Fd_fits K fd) : ∃ ds, Vals [V.int 12] ds ∧ Binds K fd ["seen", "hand", "most"] ds :=
  FunD.binds0 F 2 (by decide) rfl fun D doc pm an cdv ct us ks hl hk => match us, hl, ks, hk with
    | [_, _], _, [_], _ => ⟨_, _, _, _, _, _, rfl, rfl, rfl⟩
theorem kbk_fits {fd : FuncData} (F : Fd_fits K fd) : ∃ mv : List Value, KBn K fd ["seen", "hand", "most"] 2 ["most"] (fun us ws => us ++ ws) (fun vs zs => vs ++ zs) :=
  FunD.kbinds0 F 2 ["most"] [] (fun {α} vs mz zs => vs ++ zs) (by decide) (fun _ h => nomatch h) (fun r1 _ r3 => r1.append r3) fun D doc pm an cdv ct us mv ws hl hm hk => match us, hl, mv, hm, ws, hk with
    | [_, _], _, [], _, [_], _ => rfl
theorem sc__law_hoard_of : FnScope ["cell", "nth"] ["cell", "nth"] (defScope s__law_hoard_of) := ⟨rfl, rfl, rfl, by decide +kernel, rfl, by decide +kernel, by decide +kernel⟩
theorem ok__law_hoard_of (T : Txt K mg) {fd : FuncData} (F : Fd__law_hoard_of K fd) : FnG P w K mg base 1 (He.ga K "_law_hoard_of") fd ["cell", "nth"] (spD K 2 Lib.g__law_hoard_of) := by
  refine fun_dD (k := 0) (m := Lib.m__law_hoard_of) F sc__law_hoard_of rfl rfl rfl ?_
  unfold Lib.m__law_hoard_of
  exact fun cdv A outer s H E c => ⟨_,
   pdb_one (pds_ret (pd_new (pdf_lst (pda_cons (pd_callB (call_max2 c.calm) max2D noex_max2 T.n_max bo_max (pda_cons pd_int (pda_cons (pd_op op_sub subD noex_sub (pd_var (i := 0)) (pd_op op_powW powD noex_pow pd_int pd_int)) pda_nil))) (pda_cons (pd_op op_addD addD noex_add (pd_op op_mulD mulD noex_mul (pd_op op_mod modD noex_mod (pd_var (i := 0)) (pd_op op_powW powD noex_pow pd_int pd_int)) pd_int) (pd_op op_mod modD noex_mod (pd_var (i := 1)) pd_int)) (pda_cons pd_int pda_nil))))))⟩
theorem sc__law_draw : FnScope ["hoard", "many", "found", "stirred"] ["hoard", "many"] (defScope s__law_draw) := ⟨rfl, rfl, rfl, by decide +kernel, rfl, by decide +kernel, by decide +kernel⟩
theorem ok__law_draw (T : Txt K mg) {fd : FuncData} (F : Fd__law_draw K fd) : FnG P w K mg base 1 (He.ga K "_law_draw") fd ["hoard", "many"] (spD K 2 Lib.g__law_draw) := by
  refine fun_dD (k := 0) (m := Lib.m__law_draw) F sc__law_draw rfl rfl rfl ?_
  unfold Lib.m__law_draw
  exact fun cdv A outer s H E c => ⟨_,
   pdb_cons (pds_if (pdt_cmp op_gt cmpD noex_cmp (pd_ix (pd_var (i := 0)) pd_int) pd_int) (pdb_cons (pds_set (i := 2) c (pd_op op_mod modD noex_mod (pd_ix (pd_var (i := 0)) pd_int) (pd_var (i := 1))))
   (pdb_cons (pds_asg (pd_op op_fdivW divD noex_div (pd_ix (pd_var (i := 0)) pd_int) (pd_var (i := 1))) (pdj_ix (pd_var (i := 0)) pd_int))
   (pdb_one (pds_ret (pd_var (i := 2)))))) (pdb_nil))
   (pdb_cons (pds_asg (pd_op op_addD addD noex_add (pd_ix (pd_var (i := 0)) pd_int) pd_int) (pdj_ix (pd_var (i := 0)) pd_int))
   (pdb_cons (pds_set (i := 3) c (pd_op op_powW powD noex_pow (pd_op op_addD addD noex_add (pd_op op_addD addD noex_add (pd_ix (pd_var (i := 0)) pd_int) (pd_op op_mulD mulD noex_mul pd_int (pd_ix (pd_var (i := 0)) pd_int))) pd_int) pd_int))
   (pdb_cons (pds_set (i := 3) c (pd_op op_mod modD noex_mod (pd_var (i := 3)) pd_int))
   (pdb_cons (pds_set (i := 3) c (pd_op op_mod modD noex_mod (pd_op op_powW powD noex_pow (pd_op op_addD addD noex_add (pd_var (i := 3)) (pd_op op_mulD mulD noex_mul pd_int (pd_ix (pd_var (i := 0)) pd_int))) pd_int) (pd_op op_addD addD noex_add (pd_op op_powW powD noex_pow pd_int pd_int) pd_int)))
   (pdb_one (pds_ret (pd_op op_mod modD noex_mod (pd_op op_fdivW divD noex_div (pd_var (i := 3)) pd_int) (pd_var (i := 1)))))))))⟩
theorem sc__law_shift : FnScope ["hoard", "many", "way", "by", "one", "row", "doing"] ["hoard", "many"] (defScope s__law_shift) := ⟨rfl, rfl, rfl, by decide +kernel, rfl, by decide +kernel, by decide +kernel⟩
theorem ok__law_shift (T : Txt K mg) {fd : FuncData} (F : Fd__law_shift K fd) : FnG P w K mg base 2 (He.ga K "_law_shift") fd ["hoard", "many"] (spD K 2 Lib.g__law_shift) := by
  obtain ⟨fd__law_draw, F__law_draw⟩ := T.d__law_draw
  have G__law_draw := ok__law_draw (P := P) (w := w) (base := base) T F__law_draw
  have b__law_draw := FunD.bindsN (ps := ["hoard", "many"]) F__law_draw fun _ _ _ _ _ _ us hl => match us, hl with | [_, _], _ => rfl
  refine fun_dD (k := 1) (m := Lib.m__law_shift) F sc__law_shift rfl rfl rfl ?_
  unfold Lib.m__law_shift
  exact fun cdv A outer s H E c => ⟨_,
   pdb_cons (pds_set (i := 2) c (pd_call c G__law_draw (by decide) T.g__law_draw F__law_draw.kp b__law_draw (pda_cons (pd_var (i := 0)) (pda_cons pd_int pda_nil))))
   (pdb_cons (pds_asg (pd_tup (pda_cons (pd_call c G__law_draw (by decide) T.g__law_draw F__law_draw.kp b__law_draw (pda_cons (pd_var (i := 0)) (pda_cons (pd_var (i := 1)) pda_nil))) (pda_cons (pd_call c G__law_draw (by decide) T.g__law_draw F__law_draw.kp b__law_draw (pda_cons (pd_var (i := 0)) (pda_cons (pd_var (i := 1)) pda_nil))) pda_nil))) (pdj_tup c (pdjs_cons (pdj_name (i := 3) c) (pdjs_cons (pdj_name (i := 4) c) pdjs_nil))))
   (pdb_cons (pds_if (pdt_cmp (op_eqU c.hu64) eqD noex_eq (pd_var (i := 2)) pd_int) (pdb_one (pds_ret (pd_callTy call_tuple_of tupleD noex_tuple T.n_tuple bo_tuple (pda_cons (pd_fix (pdf_lc (own := [("doing", 6)]) c (pdi_rng1 T.n_range (pda_cons (pd_var (i := 1)) pda_nil)) (by kernel_rfl) (blk_mk c (fun _ _ _ _ _ c1 => ⟨_, pdj_name (i := 6) c1⟩) (fun _ _ _ _ _ c1 => ⟨_, pdts_nil⟩) (fun _ _ _ _ _ c1 => ⟨_, (pd_op op_mod modD noex_mod (pd_op op_addD addD noex_add (pd_var (i := 6)) (pd_var (i := 3))) (pd_var (i := 1)))⟩)) (by decide))) pda_nil)))) (pdb_nil))
   (pdb_cons (pds_if (pdt_cmp (op_eqU c.hu64) eqD noex_eq (pd_var (i := 2)) pd_int) (pdb_cons (pds_set (i := 5) c (pd_new (pdf_listRg c T.n_range T.n_list (pd_var (i := 1)))))
   (pdb_cons (pds_asg (pd_var (i := 4)) (pdj_ix (pd_var (i := 5)) (pd_var (i := 3))))
   (pdb_cons (pds_asg (pd_var (i := 3)) (pdj_ix (pd_var (i := 5)) (pd_var (i := 4))))
   (pdb_one (pds_ret (pd_callTy call_tuple_of tupleD noex_tuple T.n_tuple bo_tuple (pda_cons (pd_var (i := 5)) pda_nil))))))) (pdb_nil))
   (pdb_one (pds_ret (pd_callTy call_tuple_of tupleD noex_tuple T.n_tuple bo_tuple (pda_cons (pd_fix (pdf_lc (own := [("doing", 6)]) c (pdi_rng1 T.n_range (pda_cons (pd_var (i := 1)) pda_nil)) (by kernel_rfl) (blk_mk c (fun _ _ _ _ _ c1 => ⟨_, pdj_name (i := 6) c1⟩) (fun _ _ _ _ _ c1 => ⟨_, pdts_nil⟩) (fun _ _ _ _ _ c1 => ⟨_, (pd_ifExp (pdt_cmp (op_eqU c1.hu64) eqD noex_eq (pd_var (i := 2)) pd_int) (pd_call c1 G__law_draw (by decide) T.g__law_draw F__law_draw.kp b__law_draw (pda_cons (pd_var (i := 0)) (pda_cons (pd_var (i := 1)) pda_nil))) (pd_var (i := 4)))⟩)) (by decide))) pda_nil)))))))⟩
theorem sc__law_some_seen : FnScope ["hoard", "long", "many", "count", "before", "ways", "strange", "rows", "beat", "hand", "other", "ago", "turn", "doing", "k", "row"] ["hoard", "long"] (defScope s__law_some_seen) := ⟨rfl, rfl, rfl, by decide +kernel, rfl, by decide +kernel, by decide +kernel⟩
theorem ok__law_some_seen (T : Txt K mg) {fd : FuncData} (F : Fd__law_some_seen K fd) : FnG P w K mg base 3 (He.ga K "_law_some_seen") fd ["hoard", "long"] (spD K 2 Lib.g__law_some_seen) := by
  obtain ⟨fd__law_draw, F__law_draw⟩ := T.d__law_draw
  have G__law_draw := ok__law_draw (P := P) (w := w) (base := base) T F__law_draw
  have b__law_draw := FunD.bindsN (ps := ["hoard", "many"]) F__law_draw fun _ _ _ _ _ _ us hl => match us, hl with | [_, _], _ => rfl
  obtain ⟨fd__law_shift, F__law_shift⟩ := T.d__law_shift
  have G__law_shift := ok__law_shift (P := P) (w := w) (base := base) T F__law_shift
  have b__law_shift := FunD.bindsN (ps := ["hoard", "many"]) F__law_shift fun _ _ _ _ _ _ us hl => match us, hl with | [_, _], _ => rfl
  refine fun_dD (k := 2) (m := Lib.m__law_some_seen) F sc__law_some_seen rfl rfl rfl ?_
  unfold Lib.m__law_some_seen
  exact fun cdv A outer s H E c => ⟨_,
   pdb_cons (pds_set (i := 2) c (pd_ix (pd_fix (pdf_lst (pda_cons (pd_op op_addD addD noex_add pd_int (pd_call c G__law_draw (by decide) T.g__law_draw F__law_draw.kp b__law_draw (pda_cons (pd_var (i := 0)) (pda_cons pd_int pda_nil)))) (pda_cons pd_int (pda_cons pd_int pda_nil))))) (pd_call c G__law_draw (by decide) T.g__law_draw F__law_draw.kp b__law_draw (pda_cons (pd_var (i := 0)) (pda_cons pd_int pda_nil)))))
   (pdb_cons (pds_set (i := 3) c (pd_op op_addD addD noex_add pd_int (pd_call c G__law_draw (by decide) T.g__law_draw F__law_draw.kp b__law_draw (pda_cons (pd_var (i := 0)) (pda_cons pd_int pda_nil)))))
   (pdb_cons (pds_set (i := 4) c (pd_callTy call_tuple_of tupleD noex_tuple T.n_tuple bo_tuple (pda_cons (pd_fix (pdf_lc (own := [("k", 14)]) c (pdi_rng1 T.n_range (pda_cons (pd_var (i := 3)) pda_nil)) (by kernel_rfl) (blk_mk c (fun _ _ _ _ _ c1 => ⟨_, pdj_name (i := 14) c1⟩) (fun _ _ _ _ _ c1 => ⟨_, pdts_nil⟩) (fun _ _ _ _ _ c1 => ⟨_, (pd_call c1 G__law_draw (by decide) T.g__law_draw F__law_draw.kp b__law_draw (pda_cons (pd_var (i := 0)) (pda_cons (pd_var (i := 2)) pda_nil)))⟩)) (by decide))) pda_nil)))
   (pdb_cons (pds_setFixC (i := 5) (own := [("k", 14)]) c (sw_true rfl rfl (by rfl) (by kernel_rfl)) (pdi_rng1 T.n_range (pda_cons (pd_var (i := 3)) pda_nil)) (by kernel_rfl) (blk_mk c (fun _ _ _ _ _ c1 => ⟨_, pdj_name (i := 14) c1⟩) (fun _ _ _ _ _ c1 => ⟨_, pdts_nil⟩) (fun _ _ _ _ _ c1 => ⟨_, (pd_tup (pda_cons (pd_call c1 G__law_draw (by decide) T.g__law_draw F__law_draw.kp b__law_draw (pda_cons (pd_var (i := 0)) (pda_cons (pd_var (i := 3)) pda_nil))) (pda_cons (pd_op op_addD addD noex_add pd_int (pd_call c1 G__law_draw (by decide) T.g__law_draw F__law_draw.kp b__law_draw (pda_cons (pd_var (i := 0)) (pda_cons pd_int pda_nil)))) (pda_cons (pd_call c1 G__law_shift (by decide) T.g__law_shift F__law_shift.kp b__law_shift (pda_cons (pd_var (i := 0)) (pda_cons (pd_var (i := 2)) pda_nil))) pda_nil))))⟩)) (by decide))
   (pdb_cons (pds_set (i := 6) c (pd_ix (pd_fix (pdf_lst (pda_cons pd_int (pda_cons pd_int (pda_cons pd_int (pda_cons (pd_op op_powW powD noex_pow pd_int pd_int) pda_nil)))))) (pd_call c G__law_draw (by decide) T.g__law_draw F__law_draw.kp b__law_draw (pda_cons (pd_var (i := 0)) (pda_cons pd_int pda_nil)))))
   (pdb_cons (pds_setFixC (i := 7) (own := [("k", 14)]) c (sw_true rfl rfl (by rfl) (by kernel_rfl)) (pdi_rng1 T.n_range (pda_cons (pd_var (i := 3)) pda_nil)) (by kernel_rfl) (blk_mk c (fun _ _ _ _ _ c1 => ⟨_, pdj_name (i := 14) c1⟩) (fun _ _ _ _ _ c1 => ⟨_, pdts_nil⟩) (fun _ _ _ _ _ c1 => ⟨_, (pd_new (pdf_lst pda_nil))⟩)) (by decide))
   (pdb_cons (pds_for c (pdi_rng1 T.n_range (pda_cons (pd_op op_addD addD noex_add pd_int (pd_call c G__law_draw (by decide) T.g__law_draw F__law_draw.kp b__law_draw (pda_cons (pd_var (i := 0)) (pda_cons (pd_var (i := 1)) pda_nil)))) pda_nil)) (pdj_name (i := 8) c) (pdb_one (pds_for c (pdi_rng1 T.n_range (pda_cons (pd_var (i := 3)) pda_nil)) (pdj_name (i := 9) c) (pdb_cons (pds_asg (pd_ix (pd_var (i := 5)) (pd_var (i := 9))) (pdj_tup c (pdjs_cons (pdj_name (i := 10) c) (pdjs_cons (pdj_name (i := 11) c) (pdjs_cons (pdj_name (i := 12) c) pdjs_nil)))))
   (pdb_cons (pds_set (i := 13) c (pd_ix (pd_var (i := 12)) (pd_ifExp (pdt_cmp op_ge cmpD noex_cmp (pd_var (i := 8)) (pd_var (i := 11))) (pd_ix (pd_ix (pd_var (i := 7)) (pd_var (i := 10))) (pd_op op_sub subD noex_sub (pd_var (i := 8)) (pd_var (i := 11)))) (pd_ix (pd_var (i := 4)) (pd_var (i := 10))))))
   (pdb_cons (pds_if (pdt_cmp (op_eqU c.hu64) eqD noex_eq (pd_call c G__law_draw (by decide) T.g__law_draw F__law_draw.kp b__law_draw (pda_cons (pd_var (i := 0)) (pda_cons (pd_var (i := 6)) pda_nil))) pd_int) (pdb_one (pds_set (i := 13) c (pd_call c G__law_draw (by decide) T.g__law_draw F__law_draw.kp b__law_draw (pda_cons (pd_var (i := 0)) (pda_cons (pd_var (i := 2)) pda_nil))))) (pdb_nil))
   (pdb_one (pds_expr (pd_mt PySem.F.plainAttrs_list PySem.F.slot_list_append PySem.F.type_list_append mt_append appD noex_app rfl (pd_ix (pd_var (i := 7)) (pd_var (i := 9))) (pda_cons (pd_var (i := 13)) pda_nil))))))))))
   (pdb_one (pds_ret (pd_tup (pda_cons (pd_var (i := 2)) (pda_cons (pd_var (i := 4)) (pda_cons (pd_callTy call_tuple_of tupleD noex_tuple T.n_tuple bo_tuple (pda_cons (pd_fix (pdf_lc (own := [("row", 15)]) c (pdi_seq (pd_var (i := 7))) (by kernel_rfl) (blk_mk c (fun _ _ _ _ _ c1 => ⟨_, pdj_name (i := 15) c1⟩) (fun _ _ _ _ _ c1 => ⟨_, pdts_nil⟩) (fun _ _ _ _ _ c1 => ⟨_, (pd_callTy call_tuple_of tupleD noex_tuple T.n_tuple bo_tuple (pda_cons (pd_var (i := 15)) pda_nil))⟩)) (by decide))) pda_nil)) pda_nil))))))))))))⟩
theorem sc__law_did : FnScope ["seen", "hand", "beat"] ["seen", "hand", "beat"] (defScope s__law_did) := ⟨rfl, rfl, rfl, by decide +kernel, rfl, by decide +kernel, by decide +kernel⟩
theorem ok__law_did (T : Txt K mg) {fd : FuncData} (F : Fd__law_did K fd) : FnG P w K mg base 1 (He.ga K "_law_did") fd ["seen", "hand", "beat"] (spD K 3 Lib.g__law_did) := by
  refine fun_dD (k := 0) (m := Lib.m__law_did) F sc__law_did rfl rfl rfl ?_
  unfold Lib.m__law_did
  exact fun cdv A outer s H E c => ⟨_,
   pdb_one (pds_ret (pd_ifExp (pdt_cmp op_ge cmpD noex_cmp (pd_var (i := 2)) pd_int) (pd_ix (pd_ix (pd_ix (pd_var (i := 0)) pd_int) (pd_var (i := 1))) (pd_var (i := 2))) (pd_ix (pd_ix (pd_var (i := 0)) pd_int) (pd_var (i := 1)))))⟩
theorem sc__law_turn_due : FnScope ["seen", "hand", "other", "ago", "turn", "doing", "beats", "some", "beat"] ["seen", "hand", "other", "ago"] (defScope s__law_turn_due) := ⟨rfl, rfl, rfl, by decide +kernel, rfl, by decide +kernel, by decide +kernel⟩
noncomputable def m__law_turn_due : MS :=
  (mSeq (mSet 4 (mNew (mLst mNil)))
   (mSeq (mFor (mRng1 (mCons (mOp dIx (mVar 0) (mC (.int 0))) mNil)) (gNm 5) (mSeq (mSet 6 (mFix (mLc (mRng1 (mCons (mFn dLen (mCons (mOp dIx (mOp dIx (mVar 0) (mC (.int 2))) (mVar 1)) mNil)) mNil)) (gNm 8) (mB (mOp dEq (mCal 3 Lib.g__law_did (mCons (mVar 0) (mCons (mVar 2) (mCons (mOp dSub (mVar 8) (mVar 3)) mNil)))) (mVar 5))) (mVar 8) [8])))
   (mSeq (mSet 7 (mFix (mSortS (mFix (mLc (mSrc (mVar 6)) (gNm 8) mYes (mOp dIx (mOp dIx (mOp dIx (mVar 0) (mC (.int 2))) (mVar 1)) (mVar 8)) [8])))))
   (mSeq (mIfS (mB (mOp (dCmp pGt) (mFn dLen (mCons (mVar 7) mNil)) (mC (.int 1)))) (mRet (mC .non)) mNext)
   (mDrop (mMt "list" dApp (mVar 4) (mCons (mOp dIx (mOp dAdd (mVar 7) (mFix (mLst (mCons (mC .non) mNil)))) (mC (.int 0))) mNil)))))))
   (mRet (mFn dTuple (mCons (mVar 4) mNil)))))
noncomputable def g__law_turn_due : List D → Sto → R D := fnRun 5 m__law_turn_due
theorem ok__law_turn_due (T : Txt K mg) {fd : FuncData} (F : Fd__law_turn_due K fd) : FnG P w K mg base 2 (He.ga K "_law_turn_due") fd ["seen", "hand", "other", "ago"] (spD K 4 g__law_turn_due) := by
  obtain ⟨fd__law_did, F__law_did⟩ := T.d__law_did
  have G__law_did := ok__law_did (P := P) (w := w) (base := base) T F__law_did
  have b__law_did := FunD.bindsN (ps := ["seen", "hand", "beat"]) F__law_did fun _ _ _ _ _ _ us hl => match us, hl with | [_, _, _], _ => rfl
  refine fun_dD (k := 1) (m := m__law_turn_due) F sc__law_turn_due rfl rfl rfl ?_
  unfold m__law_turn_due
  exact fun cdv A outer s H E c => ⟨_,
   pdb_cons (pds_set (i := 4) c (pd_new (pdf_lst pda_nil)))
   (pdb_cons (pds_for c (pdi_rng1 T.n_range (pda_cons (pd_ix (pd_var (i := 0)) pd_int) pda_nil)) (pdj_name (i := 5) c) (pdb_cons (pds_setFixC (i := 6) (own := [("beat", 8)]) c (sw_true rfl rfl (by rfl) (by kernel_rfl)) (pdi_rng1 T.n_range (pda_cons (pd_callB call_len lenD noex_len T.n_len bo_len (pda_cons (pd_ix (pd_ix (pd_var (i := 0)) pd_int) (pd_var (i := 1))) pda_nil)) pda_nil)) (by kernel_rfl) (blk_mk c (fun _ _ _ _ _ c1 => ⟨_, pdj_name (i := 8) c1⟩) (fun _ _ _ _ _ c1 => ⟨_, pdts_one (pdt_cmp (op_eqU c1.hu64) eqD noex_eq (pd_call c1 G__law_did (by decide) T.g__law_did F__law_did.kp b__law_did (pda_cons (pd_var (i := 0)) (pda_cons (pd_var (i := 2)) (pda_cons (pd_op op_sub subD noex_sub (pd_var (i := 8)) (pd_var (i := 3))) pda_nil)))) (pd_var (i := 5)))⟩) (fun _ _ _ _ _ c1 => ⟨_, (pd_var (i := 8))⟩)) (by decide))
   (pdb_cons (pds_set (i := 7) c (pd_fix (pdf_sortedS c T.n_sorted T.n_set (pd_fix (pdf_lc (own := [("beat", 8)]) c (pdi_seq (pd_var (i := 6))) (by kernel_rfl) (blk_mk c (fun _ _ _ _ _ c1 => ⟨_, pdj_name (i := 8) c1⟩) (fun _ _ _ _ _ c1 => ⟨_, pdts_nil⟩) (fun _ _ _ _ _ c1 => ⟨_, (pd_ix (pd_ix (pd_ix (pd_var (i := 0)) pd_int) (pd_var (i := 1))) (pd_var (i := 8)))⟩)) (by decide))))))
   (pdb_cons (pds_if (pdt_cmp op_gt cmpD noex_cmp (pd_callB call_len lenD noex_len T.n_len bo_len (pda_cons (pd_var (i := 7)) pda_nil)) pd_int) (pdb_one (pds_ret pd_non)) (pdb_nil))
   (pdb_one (pds_expr (pd_mt PySem.F.plainAttrs_list PySem.F.slot_list_append PySem.F.type_list_append mt_append appD noex_app rfl (pd_var (i := 4)) (pda_cons (pd_ix (pd_op op_addD addD noex_add (pd_var (i := 7)) (pd_fix (pdf_lst (pda_cons pd_non pda_nil)))) pd_int) pda_nil))))))))
   (pdb_one (pds_ret (pd_callTy call_tuple_of tupleD noex_tuple T.n_tuple bo_tuple (pda_cons (pd_var (i := 4)) pda_nil)))))⟩
theorem sc__law_due_now : FnScope ["seen", "hand", "reach", "found", "other", "ago", "turn"] ["seen", "hand", "reach"] (defScope s__law_due_now) := ⟨rfl, rfl, rfl, by decide +kernel, rfl, by decide +kernel, by decide +kernel⟩
noncomputable def m__law_due_now : MS :=
  (mSeq (mSet 3 (mNew (mLst mNil)))
   (mSeq (mFor (mRng1 (mCons (mFn dLen (mCons (mOp dIx (mVar 0) (mC (.int 1))) mNil)) mNil)) (gNm 4) (mFor (mRng2 (mCons (mC (.int 1)) (mCons (mOp dAdd (mVar 2) (mC (.int 1))) mNil))) (gNm 5) (mSeq (mSet 6 (mCal 4 g__law_turn_due (mCons (mVar 0) (mCons (mVar 1) (mCons (mVar 4) (mCons (mVar 5) mNil))))))
   (mIfS (mB (mOp dNotN (mVar 6) (mC .non))) (mDrop (mMt "list" dApp (mVar 3) (mCons (mTup (mCons (mVar 4) (mCons (mVar 5) (mCons (mVar 6) mNil)))) mNil))) mNext))))
   (mRet (mVar 3))))
noncomputable def g__law_due_now : List D → Sto → R D := fnRun 4 m__law_due_now
theorem ok__law_due_now (T : Txt K mg) {fd : FuncData} (F : Fd__law_due_now K fd) : FnG P w K mg base 3 (He.ga K "_law_due_now") fd ["seen", "hand", "reach"] (spD K 3 g__law_due_now) := by
  obtain ⟨fd__law_turn_due, F__law_turn_due⟩ := T.d__law_turn_due
  have G__law_turn_due := ok__law_turn_due (P := P) (w := w) (base := base) T F__law_turn_due
  have b__law_turn_due := FunD.bindsN (ps := ["seen", "hand", "other", "ago"]) F__law_turn_due fun _ _ _ _ _ _ us hl => match us, hl with | [_, _, _, _], _ => rfl
  refine fun_dD (k := 2) (m := m__law_due_now) F sc__law_due_now rfl rfl rfl ?_
  unfold m__law_due_now
  exact fun cdv A outer s H E c => ⟨_,
   pdb_cons (pds_set (i := 3) c (pd_new (pdf_lst pda_nil)))
   (pdb_cons (pds_for c (pdi_rng1 T.n_range (pda_cons (pd_callB call_len lenD noex_len T.n_len bo_len (pda_cons (pd_ix (pd_var (i := 0)) pd_int) pda_nil)) pda_nil)) (pdj_name (i := 4) c) (pdb_one (pds_for c (pdi_rng2 T.n_range (pda_cons pd_int (pda_cons (pd_op op_addD addD noex_add (pd_var (i := 2)) pd_int) pda_nil))) (pdj_name (i := 5) c) (pdb_cons (pds_set (i := 6) c (pd_call c G__law_turn_due (by decide) T.g__law_turn_due F__law_turn_due.kp b__law_turn_due (pda_cons (pd_var (i := 0)) (pda_cons (pd_var (i := 1)) (pda_cons (pd_var (i := 4)) (pda_cons (pd_var (i := 5)) pda_nil))))))
   (pdb_one (pds_if (pdt_cmp op_notN notND noex_notN (pd_var (i := 6)) pd_non) (pdb_one (pds_expr (pd_mt PySem.F.plainAttrs_list PySem.F.slot_list_append PySem.F.type_list_append mt_append appD noex_app rfl (pd_var (i := 3)) (pda_cons (pd_tup (pda_cons (pd_var (i := 4)) (pda_cons (pd_var (i := 5)) (pda_cons (pd_var (i := 6)) pda_nil)))) pda_nil)))) (pdb_nil)))))))
   (pdb_one (pds_ret (pd_var (i := 3)))))⟩
theorem sc_turn_that_fits : FnScope ["many", "pairs", "turn", "copied", "doing"] ["many", "pairs"] (defScope s_turn_that_fits) := ⟨rfl, rfl, rfl, by decide +kernel, rfl, by decide +kernel, by decide +kernel⟩
theorem ok_turn_that_fits (T : Txt K mg) {fd : FuncData} (F : Fd_turn_that_fits K fd) : FnG P w K mg base 1 (He.ga K "turn_that_fits") fd ["many", "pairs"] (spD K 2 Lib.g_turn_that_fits) := by
  refine fun_dD (k := 0) (m := Lib.m_turn_that_fits) F sc_turn_that_fits rfl rfl rfl ?_
  unfold Lib.m_turn_that_fits
  exact fun cdv A outer s H E c => ⟨_,
   pdb_cons (pds_set (i := 2) c (pd_new (pdf_rep (pdf_lst (pda_cons pd_non pda_nil)) (pd_var (i := 0)))))
   (pdb_cons (pds_for c (pdi_seq (pd_var (i := 1))) (pdj_tup c (pdjs_cons (pdj_name (i := 3) c) (pdjs_cons (pdj_name (i := 4) c) pdjs_nil))) (pdb_cons (pds_if ((pdw_and (pdt_cmp op_notN notND noex_notN (pd_ix (pd_var (i := 2)) (pd_var (i := 3))) pd_non) (pdw_and1 (pdt_cmp (op_neU c.hu64) neD noex_ne (pd_ix (pd_var (i := 2)) (pd_var (i := 3))) (pd_var (i := 4))))).t) (pdb_one (pds_ret pd_non)) (pdb_nil))
   (pdb_one (pds_asg (pd_var (i := 4)) (pdj_ix (pd_var (i := 2)) (pd_var (i := 3)))))))
   (pdb_one (pds_ret (pd_callTy call_tuple_of tupleD noex_tuple T.n_tuple bo_tuple (pda_cons (pd_var (i := 2)) pda_nil)))))⟩
theorem sc_seen_at : FnScope ["seen", "hand", "beat", "many", "before", "rows"] ["seen", "hand", "beat"] (defScope s_seen_at) := ⟨rfl, rfl, rfl, by decide +kernel, rfl, by decide +kernel, by decide +kernel⟩
theorem ok_seen_at (T : Txt K mg) {fd : FuncData} (F : Fd_seen_at K fd) : FnG P w K mg base 1 (He.ga K "seen_at") fd ["seen", "hand", "beat"] (spD K 3 Lib.g_seen_at) := by
  refine fun_dD (k := 0) (m := Lib.m_seen_at) F sc_seen_at rfl rfl rfl ?_
  unfold Lib.m_seen_at
  exact fun cdv A outer s H E c => ⟨_,
   pdb_cons (pds_asg (pd_var (i := 0)) (pdj_tup c (pdjs_cons (pdj_name (i := 3) c) (pdjs_cons (pdj_name (i := 4) c) (pdjs_cons (pdj_name (i := 5) c) pdjs_nil)))))
   (pdb_one (pds_ret (pd_ifExp (pdt_cmp op_lt cmpD noex_cmp (pd_var (i := 2)) pd_int) (pd_ix (pd_var (i := 4)) (pd_var (i := 1))) (pd_ix (pd_ix (pd_var (i := 5)) (pd_var (i := 1))) (pd_var (i := 2))))))⟩
theorem sc_pairs_of : FnScope ["seen", "hand", "other", "ago", "beat", "doing"] ["seen", "hand", "other", "ago"] (defScope s_pairs_of) := ⟨rfl, rfl, rfl, by decide +kernel, rfl, by decide +kernel, by decide +kernel⟩
theorem ok_pairs_of (T : Txt K mg) {fd : FuncData} (F : Fd_pairs_of K fd) : FnG P w K mg base 2 (He.ga K "pairs_of") fd ["seen", "hand", "other", "ago"] (spD K 4 Lib.g_pairs_of) := by
  obtain ⟨fd_seen_at, F_seen_at⟩ := T.d_seen_at
  have G_seen_at := ok_seen_at (P := P) (w := w) (base := base) T F_seen_at
  have b_seen_at := FunD.bindsN (ps := ["seen", "hand", "beat"]) F_seen_at fun _ _ _ _ _ _ us hl => match us, hl with | [_, _, _], _ => rfl
  refine fun_dD (k := 1) (m := Lib.m_pairs_of) F sc_pairs_of rfl rfl rfl ?_
  unfold Lib.m_pairs_of
  exact fun cdv A outer s H E c => ⟨_,
   pdb_one (pds_ret (pd_fix (pdf_lc (own := [("beat", 4), ("doing", 5)]) c (pdi_enum T.n_enumerate (pda_cons (pd_ix (pd_ix (pd_var (i := 0)) pd_int) (pd_var (i := 1))) pda_nil)) (by kernel_rfl) (blk_mk c (fun _ _ _ _ _ c1 => ⟨_, pdj_tup c1 (pdjs_cons (pdj_name (i := 4) c1) (pdjs_cons (pdj_name (i := 5) c1) pdjs_nil))⟩) (fun _ _ _ _ _ c1 => ⟨_, pdts_nil⟩) (fun _ _ _ _ _ c1 => ⟨_, (pd_tup (pda_cons (pd_call c1 G_seen_at (by decide) T.g_seen_at F_seen_at.kp b_seen_at (pda_cons (pd_var (i := 0)) (pda_cons (pd_var (i := 2)) (pda_cons (pd_op op_sub subD noex_sub (pd_var (i := 4)) (pd_var (i := 3))) pda_nil)))) (pda_cons (pd_var (i := 5)) pda_nil)))⟩)) (by decide))))⟩
theorem sc_fits : FnScope ["seen", "hand", "most", "found", "other", "ago", "turn"] ["seen", "hand", "most"] (defScope s_fits) := ⟨rfl, rfl, rfl, by decide +kernel, rfl, by decide +kernel, by decide +kernel⟩
theorem ok_fits (T : Txt K mg) {fd : FuncData} (F : Fd_fits K fd) : FnG P w K mg base 3 (He.ga K "fits") fd ["seen", "hand", "most"] (spD K 3 Lib.g_fits) := by
  obtain ⟨fd_turn_that_fits, F_turn_that_fits⟩ := T.d_turn_that_fits
  have G_turn_that_fits := ok_turn_that_fits (P := P) (w := w) (base := base) T F_turn_that_fits
  have b_turn_that_fits := FunD.bindsN (ps := ["many", "pairs"]) F_turn_that_fits fun _ _ _ _ _ _ us hl => match us, hl with | [_, _], _ => rfl
  obtain ⟨fd_pairs_of, F_pairs_of⟩ := T.d_pairs_of
  have G_pairs_of := ok_pairs_of (P := P) (w := w) (base := base) T F_pairs_of
  have b_pairs_of := FunD.bindsN (ps := ["seen", "hand", "other", "ago"]) F_pairs_of fun _ _ _ _ _ _ us hl => match us, hl with | [_, _, _, _], _ => rfl
  refine fun_dD (k := 2) (m := Lib.m_fits) F sc_fits rfl rfl rfl ?_
  unfold Lib.m_fits
  exact fun cdv A outer s H E c => ⟨_,
   pdb_cons (pds_set (i := 3) c (pd_new (pdf_lst pda_nil)))
   (pdb_cons (pds_for c (pdi_rng1 T.n_range (pda_cons (pd_callB call_len lenD noex_len T.n_len bo_len (pda_cons (pd_ix (pd_var (i := 0)) pd_int) pda_nil)) pda_nil)) (pdj_name (i := 4) c) (pdb_one (pds_for c (pdi_rng2 T.n_range (pda_cons pd_int (pda_cons (pd_op op_addD addD noex_add (pd_var (i := 2)) pd_int) pda_nil))) (pdj_name (i := 5) c) (pdb_cons (pds_set (i := 6) c (pd_call c G_turn_that_fits (by decide) T.g_turn_that_fits F_turn_that_fits.kp b_turn_that_fits (pda_cons (pd_ix (pd_var (i := 0)) pd_int) (pda_cons (pd_call c G_pairs_of (by decide) T.g_pairs_of F_pairs_of.kp b_pairs_of (pda_cons (pd_var (i := 0)) (pda_cons (pd_var (i := 1)) (pda_cons (pd_var (i := 4)) (pda_cons (pd_var (i := 5)) pda_nil))))) pda_nil))))
   (pdb_one (pds_if (pdt_cmp op_notN notND noex_notN (pd_var (i := 6)) pd_non) (pdb_one (pds_expr (pd_mt PySem.F.plainAttrs_list PySem.F.slot_list_append PySem.F.type_list_append mt_append appD noex_app rfl (pd_var (i := 3)) (pda_cons (pd_tup (pda_cons (pd_var (i := 4)) (pda_cons (pd_var (i := 5)) (pda_cons (pd_var (i := 6)) pda_nil)))) pda_nil)))) (pdb_nil)))))))
   (pdb_one (pds_ret (pd_var (i := 3)))))⟩
theorem sc_law : FnScope ["script", "nth", "cell", "hoard", "seen", "kept", "turn", "hand", "reach", "due", "told"] ["script"] (defScope s_law) := ⟨rfl, rfl, rfl, by decide +kernel, rfl, by decide +kernel, by decide +kernel⟩
noncomputable def m_law : MS :=
  (mSeq (mFor (mEnum (mCons (mSl (mOp dAdd (mVar 0) (mFix (mLst (mCons (mC (.int 0)) mNil)))) mNoPart (mPart (mC (.int 3)))) mNil)) (gTp [gNm 1, gNm 2]) (mSeq (mSet 3 (mCal 2 Lib.g__law_hoard_of (mCons (mVar 2) (mCons (mVar 1) mNil))))
   (mSeq (mSet 4 (mCal 2 Lib.g__law_some_seen (mCons (mVar 3) (mCons (mOp dIx (mFix (mLst (mCons (mC (.int 6)) (mCons (mC (.int 30)) (mCons (mC (.int 100)) (mCons (mC (.int 300)) mNil)))))) (mCal 2 Lib.g__law_draw (mCons (mVar 3) (mCons (mC (.int 4)) mNil)))) mNil))))
   (mSeq (mSet 5 (mFn dRepr (mCons (mVar 4) mNil)))
   (mFor (mRng1 (mCons (mC (.int 2)) mNil)) (gNm 6) (mSeq (mPar 7 8 (mCons (mCal 2 Lib.g__law_draw (mCons (mVar 3) (mCons (mFn dLen (mCons (mOp dIx (mVar 4) (mC (.int 1))) mNil)) mNil))) (mCons (mOp dAdd (mC (.int 1)) (mCal 2 Lib.g__law_draw (mCons (mVar 3) (mCons (mC (.int 12)) mNil)))) mNil)))
   (mSeq (mSet 9 (mCal 3 g__law_due_now (mCons (mVar 4) (mCons (mVar 7) (mCons (mVar 8) mNil)))))
   (mSeq (mSet 10 (mCalK 2 1 3 Lib.g_fits (fun ds es => ds ++ es) (mCons (mVar 4) (mCons (mVar 7) mNil)) (mCons (mVar 8) mNil)))
   (mSeq (mIfS (mOr (mB (mOp dNe (mFn dRepr (mCons (mVar 10) mNil)) (mFn dRepr (mCons (mVar 9) mNil)))) (mB (mOp dNe (mFn dRepr (mCons (mVar 4) mNil)) (mVar 5)))) (mRet (mC (.bl false))) mNext)
   (mSeq (mDrop (mMt "list" dApp (mVar 10) (mCons (mC .non) mNil)))
   (mSeq (mIfS (mB (mOp dNe (mFn dRepr (mCons (mCalK 2 1 3 Lib.g_fits (fun ds es => ds ++ es) (mCons (mVar 4) (mCons (mVar 7) mNil)) (mCons (mVar 8) mNil)) mNil)) (mFn dRepr (mCons (mVar 9) mNil)))) (mRet (mC (.bl false))) mNext)
   (mIfS (mB (mOp dNe (mFn dRepr (mCons (mCalDf 3 Lib.g_fits [.int 12] (mCons (mVar 4) (mCons (mVar 7) mNil))) mNil)) (mFn dRepr (mCons (mCal 3 g__law_due_now (mCons (mVar 4) (mCons (mVar 7) (mCons (mC (.int 12)) mNil)))) mNil)))) (mRet (mC (.bl false))) mNext))))))))))))
   (mRet (mOp dEq (mC (.int 12)) (mC (.int 12)))))
noncomputable def g_law : List D → Sto → R D := fnRun 10 m_law
theorem ok_law (T : Txt K mg) {fd : FuncData} (F : Fd_law K fd) : FnG P w K mg base 4 (He.ga K "law") fd ["script"] (spD K 1 g_law) := by
  obtain ⟨fd__law_hoard_of, F__law_hoard_of⟩ := T.d__law_hoard_of
  have G__law_hoard_of := ok__law_hoard_of (P := P) (w := w) (base := base) T F__law_hoard_of
  have b__law_hoard_of := FunD.bindsN (ps := ["cell", "nth"]) F__law_hoard_of fun _ _ _ _ _ _ us hl => match us, hl with | [_, _], _ => rfl
  obtain ⟨fd__law_some_seen, F__law_some_seen⟩ := T.d__law_some_seen
  have G__law_some_seen := ok__law_some_seen (P := P) (w := w) (base := base) T F__law_some_seen
  have b__law_some_seen := FunD.bindsN (ps := ["hoard", "long"]) F__law_some_seen fun _ _ _ _ _ _ us hl => match us, hl with | [_, _], _ => rfl
  obtain ⟨fd__law_due_now, F__law_due_now⟩ := T.d__law_due_now
  have G__law_due_now := ok__law_due_now (P := P) (w := w) (base := base) T F__law_due_now
  have b__law_due_now := FunD.bindsN (ps := ["seen", "hand", "reach"]) F__law_due_now fun _ _ _ _ _ _ us hl => match us, hl with | [_, _, _], _ => rfl
  obtain ⟨fd_fits, F_fits⟩ := T.d_fits
  have G_fits := ok_fits (P := P) (w := w) (base := base) T F_fits
  have b_fits := kb_fits F_fits
  obtain ⟨_, bk_fits⟩ := kbk_fits F_fits
  obtain ⟨fd__law_draw, F__law_draw⟩ := T.d__law_draw
  have G__law_draw := ok__law_draw (P := P) (w := w) (base := base) T F__law_draw
  have b__law_draw := FunD.bindsN (ps := ["hoard", "many"]) F__law_draw fun _ _ _ _ _ _ us hl => match us, hl with | [_, _], _ => rfl
  refine fun_dD (k := 3) (m := m_law) F sc_law rfl rfl rfl ?_
  unfold m_law
  exact fun cdv A outer s H E c => ⟨_,
   pdb_cons (pds_for c (pdi_enum T.n_enumerate (pda_cons (pd_slice (pd_op op_addD addD noex_add (pd_var (i := 0)) (pd_fix (pdf_lst (pda_cons pd_int pda_nil)))) pdo_none (pdo_some pd_int)) pda_nil)) (pdj_tup c (pdjs_cons (pdj_name (i := 1) c) (pdjs_cons (pdj_name (i := 2) c) pdjs_nil))) (pdb_cons (pds_set (i := 3) c (pd_call c G__law_hoard_of (by decide) T.g__law_hoard_of F__law_hoard_of.kp b__law_hoard_of (pda_cons (pd_var (i := 2)) (pda_cons (pd_var (i := 1)) pda_nil))))
   (pdb_cons (pds_set (i := 4) c (pd_call c G__law_some_seen (by decide) T.g__law_some_seen F__law_some_seen.kp b__law_some_seen (pda_cons (pd_var (i := 3)) (pda_cons (pd_ix (pd_fix (pdf_lst (pda_cons pd_int (pda_cons pd_int (pda_cons pd_int (pda_cons pd_int pda_nil)))))) (pd_call c G__law_draw (by decide) T.g__law_draw F__law_draw.kp b__law_draw (pda_cons (pd_var (i := 3)) (pda_cons pd_int pda_nil)))) pda_nil))))
   (pdb_cons (pds_set (i := 5) c (pd_callB (call_reprD c.gd c.hu64) reprD noex_repr T.n_repr bo_repr (pda_cons (pd_var (i := 4)) pda_nil)))
   (pdb_one (pds_for c (pdi_rng1 T.n_range (pda_cons pd_int pda_nil)) (pdj_name (i := 6) c) (pdb_cons (pds_par (i := 7) (j := 8) c (pda_cons (pd_call c G__law_draw (by decide) T.g__law_draw F__law_draw.kp b__law_draw (pda_cons (pd_var (i := 3)) (pda_cons (pd_callB call_len lenD noex_len T.n_len bo_len (pda_cons (pd_ix (pd_var (i := 4)) pd_int) pda_nil)) pda_nil))) (pda_cons (pd_op op_addD addD noex_add pd_int (pd_call c G__law_draw (by decide) T.g__law_draw F__law_draw.kp b__law_draw (pda_cons (pd_var (i := 3)) (pda_cons pd_int pda_nil)))) pda_nil)))
   (pdb_cons (pds_set (i := 9) c (pd_call c G__law_due_now (by decide) T.g__law_due_now F__law_due_now.kp b__law_due_now (pda_cons (pd_var (i := 4)) (pda_cons (pd_var (i := 7)) (pda_cons (pd_var (i := 8)) pda_nil)))))
   (pdb_cons (pds_set (i := 10) c (pd_callK c G_fits (by decide) T.g_fits F_fits.kp bk_fits (pda_cons (pd_var (i := 4)) (pda_cons (pd_var (i := 7)) pda_nil)) (pdk_one (pd_var (i := 8))) (fun _ _ _ _ _ _ => RpL.append)))
   (pdb_cons (pds_if ((pdw_or (pdt_cmp (op_neU c.hu64) neD noex_ne (pd_callB (call_reprD c.gd c.hu64) reprD noex_repr T.n_repr bo_repr (pda_cons (pd_var (i := 10)) pda_nil)) (pd_callB (call_reprD c.gd c.hu64) reprD noex_repr T.n_repr bo_repr (pda_cons (pd_var (i := 9)) pda_nil))) (pdw_or1 (pdt_cmp (op_neU c.hu64) neD noex_ne (pd_callB (call_reprD c.gd c.hu64) reprD noex_repr T.n_repr bo_repr (pda_cons (pd_var (i := 4)) pda_nil)) (pd_var (i := 5))))).t) (pdb_one (pds_ret pd_bl)) (pdb_nil))
   (pdb_cons (pds_expr (pd_mt PySem.F.plainAttrs_list PySem.F.slot_list_append PySem.F.type_list_append mt_append appD noex_app rfl (pd_var (i := 10)) (pda_cons pd_non pda_nil)))
   (pdb_cons (pds_if (pdt_cmp (op_neU c.hu64) neD noex_ne (pd_callB (call_reprD c.gd c.hu64) reprD noex_repr T.n_repr bo_repr (pda_cons (pd_callK c G_fits (by decide) T.g_fits F_fits.kp bk_fits (pda_cons (pd_var (i := 4)) (pda_cons (pd_var (i := 7)) pda_nil)) (pdk_one (pd_var (i := 8))) (fun _ _ _ _ _ _ => RpL.append)) pda_nil)) (pd_callB (call_reprD c.gd c.hu64) reprD noex_repr T.n_repr bo_repr (pda_cons (pd_var (i := 9)) pda_nil))) (pdb_one (pds_ret pd_bl)) (pdb_nil))
   (pdb_one (pds_if (pdt_cmp (op_neU c.hu64) neD noex_ne (pd_callB (call_reprD c.gd c.hu64) reprD noex_repr T.n_repr bo_repr (pda_cons (pd_callDf c G_fits (by decide) T.g_fits F_fits.kp b_fits (pda_cons (pd_var (i := 4)) (pda_cons (pd_var (i := 7)) pda_nil)) (rpl_one (fun _ _ => .int 12))) pda_nil)) (pd_callB (call_reprD c.gd c.hu64) reprD noex_repr T.n_repr bo_repr (pda_cons (pd_call c G__law_due_now (by decide) T.g__law_due_now F__law_due_now.kp b__law_due_now (pda_cons (pd_var (i := 4)) (pda_cons (pd_var (i := 7)) (pda_cons pd_int pda_nil)))) pda_nil))) (pdb_one (pds_ret pd_bl)) (pdb_nil)))))))))))))))
   (pdb_one (pds_ret (pd_cmp (op_eqU c.hu64) eqD noex_eq (pd_gint T.c_MOST_AGO.choose_spec ⟨_, rfl⟩) pd_int)))⟩
end
end A62

set_option Elab.async false
set_option linter.all false
set_option maxRecDepth 100000
set_option maxHeartbeats 2000000
/-! M62a: the law's own turns. -/
namespace A62
open PySem PySem.Spec L2 DL

def dl (ps : List (Nat × Nat)) (c : Nat) : List Int := (ps.filter fun p => p.1 == c).map fun p => (p.2 : Int)
theorem mem_dl {ps : List (Nat × Nat)} {c : Nat} {k : Int} : k ∈ dl ps c ↔ ∃ x, (c, x) ∈ ps ∧ k = (x : Int) := by
  unfold dl
  rw [List.mem_map]
  constructor
  · rintro ⟨p, hp, rfl⟩
    obtain ⟨h1, h2⟩ := List.mem_filter.mp hp
    have e : p.1 = c := by simpa using h2
    exact ⟨p.2, by rw [← e]; exact h1, rfl⟩
  · rintro ⟨x, hx, rfl⟩
    exact ⟨(c, x), List.mem_filter.mpr ⟨hx, by simp⟩, rfl⟩
theorem one_of {l : List Int} {a b : Int} (h : l.length ≤ 1) (ha : a ∈ l) (hb : b ∈ l) : a = b := by
  match l, h with
  | [], _ => cases ha
  | [x], _ =>
    have e1 : a = x := by simpa using ha
    have e2 : b = x := by simpa using hb
    rw [e1, e2]
theorem few_cns {ps : List (Nat × Nat)} {m : Nat} (hp : ∀ p ∈ ps, p.1 < m) (h : ∀ c, c < m → (sortS (dl ps c)).length ≤ 1) : cns ps = true := by
  refine cns_iff.mpr fun p hm => ?_
  obtain ⟨x, hx⟩ := look_some (show (p.1, p.2) ∈ ps from hm)
  have a : (x : Int) ∈ sortS (dl ps p.1) := mem_sortS.mpr (mem_dl.mpr ⟨x, look_mem hx, rfl⟩)
  have b : (p.2 : Int) ∈ sortS (dl ps p.1) := mem_sortS.mpr (mem_dl.mpr ⟨p.2, hm, rfl⟩)
  have := one_of (h p.1 (hp p hm)) a b
  rw [hx]
  congr 1
  omega
theorem cns_few {ps : List (Nat × Nat)} {c : Nat} (h : cns ps = true) : (sortS (dl ps c)).length ≤ 1 := by
  have nd := ord_nodup (ord_sortS (dl ps c))
  have all : ∀ k ∈ sortS (dl ps c), ∀ j ∈ sortS (dl ps c), k = j := fun k hk j hj => by
    obtain ⟨x, hx, rfl⟩ := mem_dl.mp (mem_sortS.mp hk)
    obtain ⟨y, hy, rfl⟩ := mem_dl.mp (mem_sortS.mp hj)
    have e1 := cns_iff.mp h _ hx
    have e2 := cns_iff.mp h _ hy
    rw [e1] at e2
    have := Option.some.inj e2
    show (x : Int) = y
    have e : x = y := this
    rw [e]
  match hl : sortS (dl ps c), nd, all with
  | [], _, _ => exact Nat.zero_le _
  | [_], _, _ => exact Nat.le_refl _
  | a :: b :: l, nd, all =>
    have e := all a List.mem_cons_self b (List.mem_cons_of_mem _ List.mem_cons_self)
    rw [e] at nd
    exact absurd List.mem_cons_self (List.nodup_cons.mp nd).1
theorem head_dl {ps : List (Nat × Nat)} {c : Nat} (h : (sortS (dl ps c)).length ≤ 1) : ((sortS (dl ps c)).map D.int ++ [D.non])[0]? = some (dT (look ps c)) := by
  cases q : look ps c with
  | none =>
    have e : sortS (dl ps c) = [] := by
      cases z : sortS (dl ps c) with
      | nil => rfl
      | cons a l =>
        obtain ⟨x, hx, _⟩ := mem_dl.mp (mem_sortS.mp (by rw [z]; exact List.mem_cons_self))
        obtain ⟨y, hy⟩ := look_some hx
        rw [q] at hy
        cases hy
    rw [e]
    rfl
  | some x =>
    have a : (x : Int) ∈ sortS (dl ps c) := mem_sortS.mpr (mem_dl.mpr ⟨x, look_mem q, rfl⟩)
    match z : sortS (dl ps c), h with
    | [], _ => rw [z] at a; cases a
    | [y], _ =>
      rw [z] at a
      have e : (x : Int) = y := by simpa using a
      subst e
      rfl
theorem ord_len {m : Int} : ∀ {l : List Int} {a : Int}, l.Pairwise (· < ·) → (∀ x ∈ l, a ≤ x ∧ x < m) → a ≤ m → (l.length : Int) ≤ m - a
  | [], a, _, _, h => by simp only [List.length_nil]; omega
  | x :: l, a, p, q, h => by
    have p1 := List.pairwise_cons.mp p
    have qx := q x List.mem_cons_self
    have := ord_len (l := l) (a := x + 1) p1.2 (fun y hy => ⟨by have := p1.1 y hy; omega, (q y (List.mem_cons_of_mem _ hy)).2⟩) (by omega)
    simp only [List.length_cons]
    omega
section
variable {s : See} {beats : Nat}
theorem dl_pairs {hand other ago c : Nat} : dl (s.pairs hand other ago) c = ((List.range (s.row hand).length).filter fun (b : Nat) => s.did other ((b : Int) - ago) == c).map fun b => (((s.row hand).getD b 0 : Nat) : Int) := by
  unfold dl See.pairs
  rw [List.filter_map, List.map_map]
  rfl
theorem due_turn_ok {hand other ago : Nat} {st : Sto} (o : s.Ok beats) (hh : hand < s.bef.length) (ho : other < s.bef.length) :
    OkR (g__law_turn_due [s.d, dN hand, dN other, dN ago] st) fun d st' => d = dTurn (turnOf s.m (s.pairs hand other ago)) ∧ Ext st st' := by
  refine ok_fn ?_
  show OkR (m__law_turn_due [some s.d, some (dN hand), some (dN other), some (dN ago), none, none, none, none, none] st) _
  refine ok_seq (ok_set ?_)
  simp only [ev_c, ev_var0, ev_varS, ev_nil, ev_cons, ev_op, ev_un, ev_b', ev_and, ev_or, ev_not, ev_if, ev_andV, ev_orV, ev_notV, ev_tup, ev_lst, ev_fix, ev_new, ev_fn, ev_cal, ev_chain, ev_nopart, ev_part, ev_slice, ev_yes, ev_src, bind_ok, bindN_ok, bindS_ok, bind_assoc', asB_bl, asO_int, List.set_cons_succ, List.set_cons_zero, List.length_cons, List.length_nil, Nat.zero_add, Nat.reduceAdd, if_true, DL.add_int, DL.sub_int, DL.cmp_int, DL.eq_int, DL.ne_int, DL.eq_str, DL.ne_str, DL.neg_int, DL.len_tup, DL.len_lst, DL.tuple_tup, DL.tuple_lst, DL.cut_tup, DL.cut_lst, if_pos (Nat.zero_le sizeLine)]
  refine okR_ok (ok_seq (ok_for ?_))
  have lr := o.row_len hh
  have m9 := o.m9
  have b3 := o.b3
  have f0 : ∀ st' : Sto, dIx s.d (.int 0) st' = .ok (dN s.m) st' := fun _ => ix_tup (n := 0) rfl rfl
  have f2 : ∀ st' : Sto, dIx s.d (.int 2) st' = .ok (.tup (s.rows.map dRow)) st' := fun _ => ix_tup (n := 2) rfl rfl
  have f3 : ∀ st' : Sto, dIx (.tup (s.rows.map dRow)) (dN hand) st' = .ok (dRow (s.row hand)) st' := fun _ => ix_tup (n := hand) rfl (o.row_at hh)
  have f4 : ∀ st' : Sto, dLen [dRow (s.row hand)] st' = .ok (dN (s.row hand).length) st' := fun st' => by
    show R.ok (D.int (((s.row hand).map dN).length : Nat)) st' = _
    rw [List.length_map]
    rfl
  refine okR_eq (rng1_ok (j := (s.m : Nat)) (by simp only [ev_c, ev_var0, ev_varS, ev_nil, ev_cons, ev_op, ev_un, ev_b', ev_and, ev_or, ev_not, ev_if, ev_andV, ev_orV, ev_notV, ev_tup, ev_lst, ev_fix, ev_new, ev_fn, ev_cal, ev_chain, ev_nopart, ev_part, ev_slice, ev_yes, ev_src, bind_ok, bindN_ok, bindS_ok, bind_assoc', asB_bl, asO_int, List.set_cons_succ, List.set_cons_zero, List.length_cons, List.length_nil, Nat.zero_add, Nat.reduceAdd, if_true, DL.add_int, DL.sub_int, DL.cmp_int, DL.eq_int, DL.ne_int, DL.eq_str, DL.ne_str, DL.neg_int, DL.len_tup, DL.len_lst, DL.tuple_tup, DL.tuple_lst, DL.cut_tup, DL.cut_lst, f0]; rfl) (by omega)) ?_
  have hlm : (rgD 0 (s.m : Int)).length = s.m := by rw [rgD_length]; omega
  have plt := pairs_lt (ago := ago) o hh ho
  let ps := s.pairs hand other ago
  let Env (v5 v6 v7 v8 : Option D) : En := [some s.d, some (dN hand), some (dN other), some (dN ago), some (.ref st.length), v5, v6, v7, v8]
  refine for_ok (fun i rho st' => i ≤ s.m ∧ (∃ v5 v6 v7 v8, rho = Env v5 v6 v7 v8) ∧ (∀ c, c < i → (sortS (dl ps c)).length ≤ 1) ∧ st' = st ++ [.lst ((List.range i).map fun c => dT (look ps c))]) (rgD 0 (s.m : Int)) (fun _ _ _ _ => good_nil) (fun i d rho st' hd inv => ?_) (fun rho st' inv => ?_)
    ⟨Nat.zero_le _, ⟨_, _, _, _, rfl⟩, fun c hc => absurd hc (Nat.not_lt_zero c), rfl⟩
  · obtain ⟨_, ⟨v5, v6, v7, v8, rfl⟩, few, rfl⟩ := inv
    have hi : i < s.m := by rw [← hlm]; exact (List.getElem?_eq_some_iff.mp hd).1
    have ed : d = dN i := by
      rw [rgD_at (by omega)] at hd
      rw [← Option.some.inj hd, Int.zero_add]
      rfl
    subst ed
    rw [gnm]
    refine okR_ok (ok_seq (ok_set ?_))
    generalize hst : st ++ [C.lst ((List.range i).map fun c => dT (look ps c))] = st1
    have gL : st1[st.length]? = some (.lst ((List.range i).map fun c => dT (look ps c))) := by rw [← hst]; exact get_end
    let bs := (List.range (s.row hand).length).filter fun (b : Nat) => s.did other ((b : Int) - ago) == i
    have e6 : (mLc (mRng1 (mCons (mFn dLen (mCons (mOp dIx (mOp dIx (mVar 0) (mC (.int 2))) (mVar 1)) mNil)) mNil)) (gNm 8) (mB (mOp dEq (mCal 3 Lib.g__law_did (mCons (mVar 0) (mCons (mVar 2) (mCons (mOp dSub (mVar 8) (mVar 3)) mNil)))) (mVar 5))) (mVar 8) [8]) ((Env v5 v6 v7 v8).set 5 (some (dN i))) st1
        = .ok (bs.map dN) st1 := by
      rw [ev_lc, rng1_ok (j := ((s.row hand).length : Nat)) (by simp only [Env, ev_c, ev_var0, ev_varS, ev_nil, ev_cons, ev_op, ev_un, ev_b', ev_and, ev_or, ev_not, ev_if, ev_andV, ev_orV, ev_notV, ev_tup, ev_lst, ev_fix, ev_new, ev_fn, ev_cal, ev_chain, ev_nopart, ev_part, ev_slice, ev_yes, ev_src, bind_ok, bindN_ok, bindS_ok, bind_assoc', asB_bl, asO_int, List.set_cons_succ, List.set_cons_zero, List.length_cons, List.length_nil, Nat.zero_add, Nat.reduceAdd, if_true, DL.add_int, DL.sub_int, DL.cmp_int, DL.eq_int, DL.ne_int, DL.eq_str, DL.ne_str, DL.neg_int, DL.len_tup, DL.len_lst, DL.tuple_tup, DL.tuple_lst, DL.cut_tup, DL.cut_lst, f2, f3, f4]; rfl) (by omega), bind_ok]
      have er : rgD 0 ((s.row hand).length : Int) = (List.range (s.row hand).length).map dN := by
        unfold rgD
        rw [Int.sub_zero, Int.toNat_natCast]
        refine List.map_congr_left fun b _ => ?_
        show D.int (0 + (b : Int)) = D.int b
        rw [Int.zero_add]
      show lcLoop [] _ _ _ _ (rgD 0 ((s.row hand).length : Int)) [] st1 = _
      rw [er, lc_filter (fun d => match d with | .int b => s.did other (b - ago) == i | _ => false) id _ (by rw [List.length_map, List.length_range, lr, sizeLine_eq]; omega) good_nil fun d hd => ?_]
      · rw [List.map_id, List.filter_map]
        rfl
      · obtain ⟨b, hb, rfl⟩ := List.mem_map.mp hd
        have hb' : b < beats := by rw [← lr]; simpa using hb
        refine ⟨_, gnm, ?_, fun _ => ?_⟩
        · have sb : dSub (dN b) (dN ago) st1 = .ok (.int ((b : Int) - ago)) st1 := rfl
          simp only [Env, wipeR, ev_c, ev_var0, ev_varS, ev_nil, ev_cons, ev_op, ev_un, ev_b', ev_and, ev_or, ev_not, ev_if, ev_andV, ev_orV, ev_notV, ev_tup, ev_lst, ev_fix, ev_new, ev_fn, ev_cal, ev_chain, ev_nopart, ev_part, ev_slice, ev_yes, ev_src, bind_ok, bindN_ok, bindS_ok, bind_assoc', asB_bl, asO_int, List.set_cons_succ, List.set_cons_zero, List.length_cons, List.length_nil, Nat.zero_add, Nat.reduceAdd, if_true, DL.add_int, DL.sub_int, DL.cmp_int, DL.eq_int, DL.ne_int, DL.eq_str, DL.ne_str, DL.neg_int, DL.len_tup, DL.len_lst, DL.tuple_tup, DL.tuple_lst, DL.cut_tup, DL.cut_lst, sb, did_run o ho (show (b : Int) - ago < beats by omega)]
          show R.ok (decide (((s.did other ((b : Int) - ago) : Nat) : Int) = (i : Int))) st1 = _
          congr 1
          show _ = (s.did other ((b : Int) - ago) == i)
          rw [Bool.eq_iff_iff, decide_eq_true_eq, beq_iff_eq]
          omega
        · simp only [Env, wipeR, ev_c, ev_var0, ev_varS, ev_nil, ev_cons, ev_op, ev_un, ev_b', ev_and, ev_or, ev_not, ev_if, ev_andV, ev_orV, ev_notV, ev_tup, ev_lst, ev_fix, ev_new, ev_fn, ev_cal, ev_chain, ev_nopart, ev_part, ev_slice, ev_yes, ev_src, bind_ok, bindN_ok, bindS_ok, bind_assoc', asB_bl, asO_int, List.set_cons_succ, List.set_cons_zero, List.length_cons, List.length_nil, Nat.zero_add, Nat.reduceAdd, if_true, DL.add_int, DL.sub_int, DL.cmp_int, DL.eq_int, DL.ne_int, DL.eq_str, DL.ne_str, DL.neg_int, DL.len_tup, DL.len_lst, DL.tuple_tup, DL.tuple_lst, DL.cut_tup, DL.cut_lst]
          rfl
    simp only [ev_c, ev_var0, ev_varS, ev_nil, ev_cons, ev_op, ev_un, ev_b', ev_and, ev_or, ev_not, ev_if, ev_andV, ev_orV, ev_notV, ev_tup, ev_lst, ev_fix, ev_new, ev_fn, ev_cal, ev_chain, ev_nopart, ev_part, ev_slice, ev_yes, ev_src, bind_ok, bindN_ok, bindS_ok, bind_assoc', asB_bl, asO_int, List.set_cons_succ, List.set_cons_zero, List.length_cons, List.length_nil, Nat.zero_add, Nat.reduceAdd, if_true, DL.add_int, DL.sub_int, DL.cmp_int, DL.eq_int, DL.ne_int, DL.eq_str, DL.ne_str, DL.neg_int, DL.len_tup, DL.len_lst, DL.tuple_tup, DL.tuple_lst, DL.cut_tup, DL.cut_lst, e6]
    refine okR_ok (ok_seq (ok_set ?_))
    have e7 : (mLc (mSrc (mVar 6)) (gNm 8) mYes (mOp dIx (mOp dIx (mOp dIx (mVar 0) (mC (.int 2))) (mVar 1)) (mVar 8)) [8]) (((Env v5 v6 v7 v8).set 5 (some (dN i))).set 6 (some (.lst (bs.map dN)))) st1 = .ok ((dl ps i).map D.int) st1 := by
      rw [ev_lc]
      simp only [Env, ev_c, ev_var0, ev_varS, ev_nil, ev_cons, ev_op, ev_un, ev_b', ev_and, ev_or, ev_not, ev_if, ev_andV, ev_orV, ev_notV, ev_tup, ev_lst, ev_fix, ev_new, ev_fn, ev_cal, ev_chain, ev_nopart, ev_part, ev_slice, ev_yes, ev_src, bind_ok, bindN_ok, bindS_ok, bind_assoc', asB_bl, asO_int, List.set_cons_succ, List.set_cons_zero, List.length_cons, List.length_nil, Nat.zero_add, Nat.reduceAdd, if_true, DL.add_int, DL.sub_int, DL.cmp_int, DL.eq_int, DL.ne_int, DL.eq_str, DL.ne_str, DL.neg_int, DL.len_tup, DL.len_lst, DL.tuple_tup, DL.tuple_lst, DL.cut_tup, DL.cut_lst, srcOf]
      have bl : (bs.map dN).length ≤ 300 := by
        rw [List.length_map]
        refine Nat.le_trans (List.length_filter_le _ _) ?_
        rw [List.length_range]; omega
      rw [lc_map (fun d => match d with | .int b => dN ((s.row hand).getD b.toNat 0) | d => d) _ (Nat.le_trans bl (small_line (by decide))) good_nil fun d hd => ?_]
      · rw [dl_pairs, List.map_map, List.map_map]
        rfl
      · obtain ⟨b, hb, rfl⟩ := List.mem_map.mp hd
        have hb' : b < (s.row hand).length := by simpa using (List.mem_filter.mp hb).1
        have f5 : dIx (dRow (s.row hand)) (dN b) st1 = .ok (dN ((s.row hand).getD b 0)) st1 := ix_tup (n := b) rfl (get_dN hb')
        refine ⟨_, gnm, rfl, ?_⟩
        simp only [wipeR, ev_c, ev_var0, ev_varS, ev_nil, ev_cons, ev_op, ev_un, ev_b', ev_and, ev_or, ev_not, ev_if, ev_andV, ev_orV, ev_notV, ev_tup, ev_lst, ev_fix, ev_new, ev_fn, ev_cal, ev_chain, ev_nopart, ev_part, ev_slice, ev_yes, ev_src, bind_ok, bindN_ok, bindS_ok, bind_assoc', asB_bl, asO_int, List.set_cons_succ, List.set_cons_zero, List.length_cons, List.length_nil, Nat.zero_add, Nat.reduceAdd, if_true, DL.add_int, DL.sub_int, DL.cmp_int, DL.eq_int, DL.ne_int, DL.eq_str, DL.ne_str, DL.neg_int, DL.len_tup, DL.len_lst, DL.tuple_tup, DL.tuple_lst, DL.cut_tup, DL.cut_lst, f2, f3, f5]
        rfl
    have dll : (dl ps i).length ≤ 300 := by
      show (dl (s.pairs hand other ago) i).length ≤ 300
      rw [dl_pairs, List.length_map]
      refine Nat.le_trans (List.length_filter_le _ _) ?_
      rw [List.length_range]; omega
    have sl : (sortS (dl ps i)).length ≤ 9 := by
      have := ord_len (m := s.m) (a := 0) (ord_sortS (dl ps i)) (fun x hx => by
        obtain ⟨y, hy, rfl⟩ := mem_dl.mp (mem_sortS.mp hx)
        have := (plt _ hy).2
        dsimp only at this
        omega) (by omega)
      omega
    have e8 : mSortS (mFix (mLc (mSrc (mVar 6)) (gNm 8) mYes (mOp dIx (mOp dIx (mOp dIx (mVar 0) (mC (.int 2))) (mVar 1)) (mVar 8)) [8])) (((Env v5 v6 v7 v8).set 5 (some (dN i))).set 6 (some (.lst (bs.map dN)))) st1 = .ok ((sortS (dl ps i)).map D.int) st1 := by
      unfold mSortS
      simp only [ev_fix, e7, bind_ok, lstOf, intsOf_map]
      rw [if_pos ⟨by omega, by omega⟩]
    simp only [ev_fix, e8, bind_ok]
    refine okR_ok (ok_seq (ok_ifS ?_))
    simp only [Env, ev_c, ev_var0, ev_varS, ev_nil, ev_cons, ev_op, ev_un, ev_b', ev_and, ev_or, ev_not, ev_if, ev_andV, ev_orV, ev_notV, ev_tup, ev_lst, ev_fix, ev_new, ev_fn, ev_cal, ev_chain, ev_nopart, ev_part, ev_slice, ev_yes, ev_src, bind_ok, bindN_ok, bindS_ok, bind_assoc', asB_bl, asO_int, List.set_cons_succ, List.set_cons_zero, List.length_cons, List.length_nil, Nat.zero_add, Nat.reduceAdd, if_true, DL.add_int, DL.sub_int, DL.cmp_int, DL.eq_int, DL.ne_int, DL.eq_str, DL.ne_str, DL.neg_int, DL.len_tup, DL.len_lst, DL.tuple_tup, DL.tuple_lst, DL.cut_tup, DL.cut_lst, pGt, List.length_map]
    by_cases h1 : (1 : Int) < ((sortS (dl ps i)).length : Nat)
    · simp only [h1, decide_true]
      refine okR_ok ⟨fun _ => ok_ret (okR_ok ⟨?_, ?_⟩), fun z => by cases z⟩
      · rw [dTurn_non]
        intro hc
        have := cns_few (c := i) hc
        have h2 : (sortS (dl (s.pairs hand other ago) i)).length = (sortS (dl ps i)).length := rfl
        omega
      · rw [← hst]; exact .app _ _
    · simp only [h1, decide_false]
      refine okR_ok ⟨fun z => (by cases z), fun _ => ok_next (ok_drop ?_)⟩
      have le1 : (sortS (dl ps i)).length ≤ 1 := by omega
      have n1 : (1 : Nat) ≤ sizeLine := small_line (by decide)
      have ad : dAdd (.lst ((sortS (dl ps i)).map D.int)) (.lst [.non]) st1 = .ok (.lst ((sortS (dl ps i)).map D.int ++ [.non])) st1 := add_lst (small_line (by rw [List.length_map]; simp only [List.length_cons, List.length_nil]; omega))
      have hd0 : dIx (.lst ((sortS (dl ps i)).map D.int ++ [.non])) (.int 0) st1 = .ok (dT (look ps i)) st1 := ix_lst (n := 0) rfl (head_dl le1)
      simp only [ev_mt, ev_c, ev_var0, ev_varS, ev_nil, ev_cons, ev_op, ev_un, ev_b', ev_and, ev_or, ev_not, ev_if, ev_andV, ev_orV, ev_notV, ev_tup, ev_lst, ev_fix, ev_new, ev_fn, ev_cal, ev_chain, ev_nopart, ev_part, ev_slice, ev_yes, ev_src, bind_ok, bindN_ok, bindS_ok, bind_assoc', asB_bl, asO_int, List.set_cons_succ, List.set_cons_zero, List.length_cons, List.length_nil, Nat.zero_add, Nat.reduceAdd, if_true, DL.add_int, DL.sub_int, DL.cmp_int, DL.eq_int, DL.ne_int, DL.eq_str, DL.ne_str, DL.neg_int, DL.len_tup, DL.len_lst, DL.tuple_tup, DL.tuple_lst, DL.cut_tup, DL.cut_lst, ty_cell gL, if_pos n1, ad, hd0, app_by gL (show ((List.range i).map fun c => dT (look ps c)).length < sizeLine by rw [List.length_map, List.length_range, sizeLine_eq]; omega)]
      refine okR_ok ⟨by omega, ⟨_, _, _, _, rfl⟩, fun c hc => ?_, ?_⟩
      · by_cases e : c = i
        · rw [e]; exact le1
        · exact few c (by omega)
      · rw [← hst, set_end, List.range_succ, List.map_append]
        rfl
  · obtain ⟨_, ⟨v5, v6, v7, v8, rfl⟩, few, rfl⟩ := inv
    rw [hlm] at few ⊢
    refine ok_ret ?_
    simp only [Env, ev_c, ev_var0, ev_varS, ev_nil, ev_cons, ev_op, ev_un, ev_b', ev_and, ev_or, ev_not, ev_if, ev_andV, ev_orV, ev_notV, ev_tup, ev_lst, ev_fix, ev_new, ev_fn, ev_cal, ev_chain, ev_nopart, ev_part, ev_slice, ev_yes, ev_src, bind_ok, bindN_ok, bindS_ok, bind_assoc', asB_bl, asO_int, List.set_cons_succ, List.set_cons_zero, List.length_cons, List.length_nil, Nat.zero_add, Nat.reduceAdd, if_true, DL.add_int, DL.sub_int, DL.cmp_int, DL.eq_int, DL.ne_int, DL.eq_str, DL.ne_str, DL.neg_int, DL.len_tup, DL.len_lst, DL.tuple_tup, DL.tuple_lst, DL.cut_tup, DL.cut_lst, tuple_ref get_end]
    refine okR_ok ⟨?_, .app _ _⟩
    rw [dTurn_tbl (few_cns (fun p hp => (plt p hp).1) few)]
    rfl
end
end A62

set_option Elab.async false
set_option linter.all false
set_option maxRecDepth 100000
set_option maxHeartbeats 4000000
/-! M62b: the law. -/
namespace A62
open PySem PySem.Spec L2 DL

section
variable {s : See} {beats : Nat}
theorem due_ok {hand most : Nat} {st : Sto} (o : s.Ok beats) (hh : hand < s.bef.length) (hm : most ≤ 12) : OkR (g__law_due_now [s.d, dN hand, dN most] st) fun d st' => d = .ref st.length ∧ st'[st.length]? = some (.lst (fitsL s hand most)) ∧ Ext st st' := by
  refine fitsM_ok (E := mCal 4 g__law_turn_due (mCons (mVar 0) (mCons (mVar 1) (mCons (mVar 4) (mCons (mVar 5) mNil))))) o hh hm fun other ago v3 v6 st' ho h1 h2 => ?_
  simp only [ev_c, ev_var0, ev_varS, ev_nil, ev_cons, ev_op, ev_un, ev_b', ev_and, ev_or, ev_not, ev_if, ev_andV, ev_orV, ev_notV, ev_tup, ev_lst, ev_fix, ev_new, ev_fn, ev_cal, ev_chain, ev_nopart, ev_part, ev_slice, ev_yes, ev_src, bind_ok, bindN_ok, bindS_ok, bind_assoc', asB_bl, asO_int, List.set_cons_succ, List.set_cons_zero, List.length_cons, List.length_nil, Nat.zero_add, Nat.reduceAdd, if_true, DL.add_int, DL.sub_int, DL.cmp_int, DL.eq_int, DL.ne_int, DL.eq_str, DL.ne_str, DL.neg_int, DL.len_tup, DL.len_lst, DL.tuple_tup, DL.tuple_lst, DL.cut_tup, DL.cut_lst]
  exact due_turn_ok o hh ho
theorem fit_dT {q : Option Nat} (h : ∀ x, q = some x → x < 9) : Sz 0 37 (dT q) := by
  cases q with
  | none => exact ⟨rfl, by decide, by decide⟩
  | some x => have := h x rfl; exact sz_int (by omega)
theorem fit1_sz {hand other ago : Nat} {d : D} (o : s.Ok beats) (hh : hand < s.bef.length) (ho : other < s.bef.length) (ha : ago ≤ 12) (h : fit1 s hand other ago = some d) : Sz 2 1500 d := by
  unfold fit1 at h
  cases q : turnOf s.m (s.pairs hand other ago) with
  | none => rw [q] at h; cases h
  | some t =>
    rw [q] at h
    have e : D.tup [dN other, dN ago, dTurn (some t)] = d := Option.some.inj h
    subst e
    have et : t = (List.range s.m).map (look (s.pairs hand other ago)) := by
      unfold turnOf at q
      split at q
      · exact (Option.some.inj q).symm
      · cases q
    have tb : TupB 0 37 9 (dTurn (some t)) := by
      refine ⟨t.map dT, rfl, ?_, fun x hx => ?_⟩
      · rw [List.length_map, et, List.length_map, List.length_range]; exact o.m9
      · obtain ⟨y, hy, rfl⟩ := List.mem_map.mp hx
        rw [et] at hy
        obtain ⟨c, _, rfl⟩ := List.mem_map.mp hy
        refine fit_dT fun x hx => ?_
        have := (pairs_lt o hh ho _ (look_mem hx)).2
        have := o.m9
        dsimp only at *
        omega
    have c6 := o.c6
    have : TupB 1 400 3 (.tup [dN other, dN ago, dTurn (some t)]) := ⟨_, rfl, Nat.le_refl _, fun x hx => by
      simp only [List.mem_cons, List.not_mem_nil, or_false] at hx
      rcases hx with rfl | rfl | rfl
      · exact (sz_int (i := (other : Int)) (by omega)).mono
      · exact (sz_int (i := (ago : Int)) (by omega)).mono
      · exact tb.sz.mono⟩
    exact this.sz.mono
theorem fits_fine {hand most : Nat} (o : s.Ok beats) (hh : hand < s.bef.length) (hm : most ≤ 12) : Fine (.lst (fitsL s hand most)) := by
  have c6 := o.c6
  have hl : (fitsL s hand most).length ≤ 72 := by
    have := fitTo_len s hand most s.bef.length
    have : s.bef.length * most ≤ 6 * 12 := Nat.mul_le_mul c6 hm
    unfold fitsL
    omega
  refine (lst_sz (h := 2) (w := 1500) hl fun x hx => ?_).fine
  unfold fitsL fitTo at hx
  obtain ⟨i, hi, hx⟩ := List.mem_flatMap.mp hx
  unfold fitRow at hx
  obtain ⟨a, ha, e⟩ := List.mem_filterMap.mp hx
  exact fit1_sz o hh (by simpa using hi) (by have : a < most := by simpa using ha
                                             omega) e
theorem repr_ref {st : Sto} {n : Nat} {ds : List D} (e : st[n]? = some (.lst ds)) (f : Fine (.lst ds)) : dRepr [.ref n] st = .ok (.str (pyD (.lst ds)).shown) st := by
  have t : toPyR st (.ref n) = some (pyD (.lst ds)) := by
    unfold toPyR
    simp only [e]
    have q := f.py st
    show (match lstOf st (.ref n) with
        | some ds => (ds.mapM (toPy 19 st)).map PyData.list
        | none => none) = _
    rw [lstOf_ref e]
    exact q
  unfold dRepr
  simp only [t, if_pos f.show]
theorem see_fine (o : s.Ok beats) : Fine s.d := by
  have b3 := o.b3
  have m9 := o.m9
  have row : ∀ r ∈ s.rows, TupB 0 37 300 (dRow r) := fun r hr => ⟨_, rfl, by rw [List.length_map, o.rl r hr]; exact b3, fun x hx => by
    obtain ⟨n, hn, rfl⟩ := List.mem_map.mp hx
    have := o.rm r hr n hn
    exact sz_int (by omega)⟩
  have : TupB 2 68406 3 s.d := ⟨_, rfl, Nat.le_refl _, fun x hx => by
    simp only [List.mem_cons, List.not_mem_nil, or_false] at hx
    rcases hx with rfl | rfl | rfl
    · exact (sz_int (i := (s.m : Int)) (by omega)).mono
    · have : TupB 0 37 6 (dRow s.bef) := ⟨_, rfl, by rw [List.length_map]; exact o.c6, fun x hx => by
        obtain ⟨n, hn, rfl⟩ := List.mem_map.mp hx
        have := o.lb n hn
        exact sz_int (by omega)⟩
      exact this.sz.mono
    · have : TupB 1 11400 6 (.tup (s.rows.map dRow)) := ⟨_, rfl, by rw [List.length_map, o.lr]; exact o.c6, fun x hx => by
        obtain ⟨r, hr, rfl⟩ := List.mem_map.mp hx
        exact (row r hr).sz.mono⟩
      exact this.sz.mono⟩
  exact this.sz.fine
end
end A62

set_option Elab.async false
set_option linter.all false
set_option maxRecDepth 100000
set_option maxHeartbeats 4000000
/-! M62c: the law. -/
namespace A62
open PySem PySem.Spec L2 DL

theorem ev_calK {n m np : Nat} {g : List D → Sto → R D} {gD : List D → List D → List D} {a b : MA} {rho : En} {st : Sto} : mCalK n m np g gD a b rho st = (a rho st).bind fun ds st1 => (b rho st1).bind fun es st2 => if ds.length = n ∧ es.length = m ∧ (gD ds es).length = np then g (gD ds es) st2 else .bad := id rfl
theorem ev_calDf {np : Nat} {g : List D → Sto → R D} {dd : List D} {a : MA} {rho : En} {st : Sto} : mCalDf np g dd a rho st = (a rho st).bind fun ds st => if (ds ++ dd).length = np then g (ds ++ dd) st else .bad := id rfl
theorem enumD_mem {k : Nat} {ds : List D} {x : D} (h : x ∈ enumD k ds) : ∃ (j : Nat) (d : D), x = .tup [.int (j : Nat), d] ∧ d ∈ ds := by
  obtain ⟨i, hi⟩ := List.mem_iff_getElem?.mp h
  rw [enumD_get] at hi
  cases q : ds[i]? with
  | none => rw [q] at hi; cases hi
  | some d =>
    rw [q] at hi
    cases hi
    exact ⟨k + i, d, rfl, List.mem_of_getElem? q⟩
theorem law_runs (ns : List Int) (hlen : ns.length ≤ 63) (_hb : ∀ z ∈ ns, PySem.Builtin.Int.intBits z ≤ 1048576) : ∃ st', g_law [.lst (ns.map D.int)] [] = .ok (.bl true) st' := by
  have goal : OkR (g_law [.lst (ns.map D.int)] []) fun d _ => d = .bl true := by
    refine ok_fn ?_
    show OkR (m_law [some (.lst (ns.map D.int)), none, none, none, none, none, none, none, none, none, none] []) _
    refine ok_seq (ok_for ?_)
    have n1 : (1 : Nat) ≤ sizeLine := small_line (by decide)
    have n4 : (4 : Nat) ≤ sizeLine := small_line (by decide)
    have ea : dAdd (.lst (ns.map D.int)) (.lst [.int 0]) [] = .ok (.lst (ns.map D.int ++ [.int 0])) [] := add_lst (small_line (by rw [List.length_map]; simp only [List.length_cons, List.length_nil]; omega))
    have e0 : (mEnum (mCons (mSl (mOp dAdd (mVar 0) (mFix (mLst (mCons (mC (.int 0)) mNil)))) mNoPart (mPart (mC (.int 3)))) mNil)) [some (.lst (ns.map D.int)), none, none, none, none, none, none, none, none, none, none] []
        = .ok ⟨enumD 0 (cutD (ns.map D.int ++ [.int 0]) none (some 3)), []⟩ [] := by
      unfold mEnum
      simp only [ev_c, ev_var0, ev_varS, ev_nil, ev_cons, ev_op, ev_un, ev_b', ev_and, ev_or, ev_not, ev_if, ev_andV, ev_orV, ev_notV, ev_tup, ev_lst, ev_fix, ev_new, ev_fn, ev_cal, ev_chain, ev_nopart, ev_part, ev_slice, ev_yes, ev_src, bind_ok, bindN_ok, bindS_ok, bind_assoc', asB_bl, asO_int, List.set_cons_succ, List.set_cons_zero, List.length_cons, List.length_nil, Nat.zero_add, Nat.reduceAdd, if_true, DL.add_int, DL.sub_int, DL.cmp_int, DL.eq_int, DL.ne_int, DL.eq_str, DL.ne_str, DL.neg_int, DL.len_tup, DL.len_lst, DL.tuple_tup, DL.tuple_lst, DL.cut_tup, DL.cut_lst, if_pos n1, ea, srcOf]
    refine okR_eq e0 ?_
    let Sc : Option D := some (.lst (ns.map D.int))
    refine for_ok (fun i rho st => ∃ v1 v2 v3 v4 v5 v6 v7 v8 v9 v10, rho = [Sc, v1, v2, v3, v4, v5, v6, v7, v8, v9, v10]) _ (fun _ _ _ _ => good_nil) (fun i d rho st hd inv => ?_) (fun rho st inv => ?_) ⟨_, _, _, _, _, _, _, _, _, _, rfl⟩
    · obtain ⟨v1, v2, v3, v4, v5, v6, v7, v8, v9, v10, rfl⟩ := inv
      obtain ⟨j, c, rfl, hc⟩ := enumD_mem (List.mem_of_getElem? hd)
      obtain ⟨cell, rfl⟩ : ∃ z : Int, c = .int z := by
        rcases List.mem_append.mp (cut_sub hc) with z | z
        · obtain ⟨y, _, e⟩ := List.mem_map.mp z
          exact ⟨y, e.symm⟩
        · exact ⟨0, by simpa using z⟩
      rw [tp2]
      try simp only [ev_c, ev_var0, ev_varS, ev_nil, ev_cons, ev_op, ev_un, ev_b', ev_and, ev_or, ev_not, ev_if, ev_andV, ev_orV, ev_notV, ev_tup, ev_lst, ev_fix, ev_new, ev_fn, ev_cal, ev_chain, ev_nopart, ev_part, ev_slice, ev_yes, ev_src, bind_ok, bindN_ok, bindS_ok, bind_assoc', asB_bl, asO_int, List.set_cons_succ, List.set_cons_zero, List.length_cons, List.length_nil, Nat.zero_add, Nat.reduceAdd, if_true, DL.add_int, DL.sub_int, DL.cmp_int, DL.eq_int, DL.ne_int, DL.eq_str, DL.ne_str, DL.neg_int, DL.len_tup, DL.len_lst, DL.tuple_tup, DL.tuple_lst, DL.cut_tup, DL.cut_lst]
      refine okR_ok (ok_seq (ok_set ?_))
      try simp only [ev_c, ev_var0, ev_varS, ev_nil, ev_cons, ev_op, ev_un, ev_b', ev_and, ev_or, ev_not, ev_if, ev_andV, ev_orV, ev_notV, ev_tup, ev_lst, ev_fix, ev_new, ev_fn, ev_cal, ev_chain, ev_nopart, ev_part, ev_slice, ev_yes, ev_src, bind_ok, bindN_ok, bindS_ok, bind_assoc', asB_bl, asO_int, List.set_cons_succ, List.set_cons_zero, List.length_cons, List.length_nil, Nat.zero_add, Nat.reduceAdd, if_true, DL.add_int, DL.sub_int, DL.cmp_int, DL.eq_int, DL.ne_int, DL.eq_str, DL.ne_str, DL.neg_int, DL.len_tup, DL.len_lst, DL.tuple_tup, DL.tuple_lst, DL.cut_tup, DL.cut_lst]
      refine hoard_ok.imp fun dh st1 ⟨e1, x1, o1, l1⟩ => ?_
      subst e1
      refine ok_seq (ok_set ?_)
      simp only [ev_c, ev_var0, ev_varS, ev_nil, ev_cons, ev_op, ev_un, ev_b', ev_and, ev_or, ev_not, ev_if, ev_andV, ev_orV, ev_notV, ev_tup, ev_lst, ev_fix, ev_new, ev_fn, ev_cal, ev_chain, ev_nopart, ev_part, ev_slice, ev_yes, ev_src, bind_ok, bindN_ok, bindS_ok, bind_assoc', asB_bl, asO_int, List.set_cons_succ, List.set_cons_zero, List.length_cons, List.length_nil, Nat.zero_add, Nat.reduceAdd, if_true, DL.add_int, DL.sub_int, DL.cmp_int, DL.eq_int, DL.ne_int, DL.eq_str, DL.ne_str, DL.neg_int, DL.len_tup, DL.len_lst, DL.tuple_tup, DL.tuple_lst, DL.cut_tup, DL.cut_lst, if_pos n4]
      refine draw_bind x1 (by decide) (by decide) (by decide) fun q st2 q0 q1 x2 o2 l2 => ?_
      obtain ⟨long, el, g0, g1⟩ : ∃ long : Int, dIx (.lst [.int 6, .int 30, .int 100, .int 300]) (.int q) st2 = .ok (.int long) st2 ∧ 1 ≤ long ∧ long ≤ 300 := by
        rcases (by omega : q = 0 ∨ q = 1 ∨ q = 2 ∨ q = 3) with rfl | rfl | rfl | rfl
        · exact ⟨_, ix_lst (n := 0) rfl rfl, by decide, by decide⟩
        · exact ⟨_, ix_lst (n := 1) rfl rfl, by decide, by decide⟩
        · exact ⟨_, ix_lst (n := 2) rfl rfl, by decide, by decide⟩
        · exact ⟨_, ix_lst (n := 3) rfl rfl, by decide, by decide⟩
      simp only [el, ev_c, ev_var0, ev_varS, ev_nil, ev_cons, ev_op, ev_un, ev_b', ev_and, ev_or, ev_not, ev_if, ev_andV, ev_orV, ev_notV, ev_tup, ev_lst, ev_fix, ev_new, ev_fn, ev_cal, ev_chain, ev_nopart, ev_part, ev_slice, ev_yes, ev_src, bind_ok, bindN_ok, bindS_ok, bind_assoc', asB_bl, asO_int, List.set_cons_succ, List.set_cons_zero, List.length_cons, List.length_nil, Nat.zero_add, Nat.reduceAdd, if_true, DL.add_int, DL.sub_int, DL.cmp_int, DL.eq_int, DL.ne_int, DL.eq_str, DL.ne_str, DL.neg_int, DL.len_tup, DL.len_lst, DL.tuple_tup, DL.tuple_lst, DL.cut_tup, DL.cut_lst]
      refine (some_seen_ok x2 (by decide) g0 g1).imp fun seen st3 ⟨hs, x3, o3⟩ => ?_
      obtain ⟨s, beats, rfl, o, _⟩ := see_of hs g1
      have sf := see_fine o
      refine ok_seq (ok_set ?_)
      simp only [ev_c, ev_var0, ev_varS, ev_nil, ev_cons, ev_op, ev_un, ev_b', ev_and, ev_or, ev_not, ev_if, ev_andV, ev_orV, ev_notV, ev_tup, ev_lst, ev_fix, ev_new, ev_fn, ev_cal, ev_chain, ev_nopart, ev_part, ev_slice, ev_yes, ev_src, bind_ok, bindN_ok, bindS_ok, bind_assoc', asB_bl, asO_int, List.set_cons_succ, List.set_cons_zero, List.length_cons, List.length_nil, Nat.zero_add, Nat.reduceAdd, if_true, DL.add_int, DL.sub_int, DL.cmp_int, DL.eq_int, DL.ne_int, DL.eq_str, DL.ne_str, DL.neg_int, DL.len_tup, DL.len_lst, DL.tuple_tup, DL.tuple_lst, DL.cut_tup, DL.cut_lst, sf.repr]
      refine okR_ok (ok_for ?_)
      refine okR_eq (rng1_ok (j := 2) rfl (by decide)) ?_
      have h2l : (rgD 0 (2 : Int)).length = 2 := by rw [rgD_length]; rfl
      generalize hh0 : st.length = h0 at *
      refine for_ok (fun i rho stx => i ≤ 2 ∧ (∃ v6 v7 v8 v9 v10, rho = [Sc, some (.int (j : Nat)), some (.int cell), some (.ref h0), some s.d, some (.str (pyD s.d).shown), v6, v7, v8, v9, v10]) ∧ Ho stx h0 (5001 + 2 * i)) (rgD 0 (2 : Int)) (fun _ _ _ _ => good_nil) (fun i t rho sta ht inv => ?_) (fun rho st5 inv => ?_) ⟨by decide, ⟨_, _, _, _, _, rfl⟩, x3.mono (by decide)⟩
      · obtain ⟨_, ⟨w6, w7, w8, w9, w10, rfl⟩, xa⟩ := inv
        have hi : i < 2 := by rw [← h2l]; exact (List.getElem?_eq_some_iff.mp ht).1
        rw [gnm]
        refine okR_ok (ok_seq (ok_par ?_))
        have f1 : dIx s.d (.int 1) sta = .ok (dRow s.bef) sta := ix_tup (n := 1) rfl rfl
        have f1l : dLen [dRow s.bef] sta = .ok (.int (s.bef.length : Nat)) sta := by
          show R.ok (D.int ((s.bef.map dN).length : Nat)) sta = _
          rw [List.length_map]
        have c1 := o.c1
        have c6 := o.c6
        simp only [ev_c, ev_var0, ev_varS, ev_nil, ev_cons, ev_op, ev_un, ev_b', ev_and, ev_or, ev_not, ev_if, ev_andV, ev_orV, ev_notV, ev_tup, ev_lst, ev_fix, ev_new, ev_fn, ev_cal, ev_chain, ev_nopart, ev_part, ev_slice, ev_yes, ev_src, bind_ok, bindN_ok, bindS_ok, bind_assoc', asB_bl, asO_int, List.set_cons_succ, List.set_cons_zero, List.length_cons, List.length_nil, Nat.zero_add, Nat.reduceAdd, if_true, DL.add_int, DL.sub_int, DL.cmp_int, DL.eq_int, DL.ne_int, DL.eq_str, DL.ne_str, DL.neg_int, DL.len_tup, DL.len_lst, DL.tuple_tup, DL.tuple_lst, DL.cut_tup, DL.cut_lst, f1, f1l]
        refine draw_bind xa (by omega) (by omega) (by omega) fun hz stb a1 a2 xb ob lb => ?_
        try simp only [ev_c, ev_var0, ev_varS, ev_nil, ev_cons, ev_op, ev_un, ev_b', ev_and, ev_or, ev_not, ev_if, ev_andV, ev_orV, ev_notV, ev_tup, ev_lst, ev_fix, ev_new, ev_fn, ev_cal, ev_chain, ev_nopart, ev_part, ev_slice, ev_yes, ev_src, bind_ok, bindN_ok, bindS_ok, bind_assoc', asB_bl, asO_int, List.set_cons_succ, List.set_cons_zero, List.length_cons, List.length_nil, Nat.zero_add, Nat.reduceAdd, if_true, DL.add_int, DL.sub_int, DL.cmp_int, DL.eq_int, DL.ne_int, DL.eq_str, DL.ne_str, DL.neg_int, DL.len_tup, DL.len_lst, DL.tuple_tup, DL.tuple_lst, DL.cut_tup, DL.cut_lst]
        refine draw_bind xb (by omega) (by decide) (by decide) fun rz stc b1 b2 xc oc lc => ?_
        obtain ⟨hand, rfl⟩ : ∃ n : Nat, hz = n := ⟨hz.toNat, by omega⟩
        obtain ⟨reach, er⟩ : ∃ n : Nat, 1 + rz = n := ⟨(1 + rz).toNat, by omega⟩
        have hh : hand < s.bef.length := by omega
        have hr : reach ≤ 12 := by omega
        try simp only [ev_c, ev_var0, ev_varS, ev_nil, ev_cons, ev_op, ev_un, ev_b', ev_and, ev_or, ev_not, ev_if, ev_andV, ev_orV, ev_notV, ev_tup, ev_lst, ev_fix, ev_new, ev_fn, ev_cal, ev_chain, ev_nopart, ev_part, ev_slice, ev_yes, ev_src, bind_ok, bindN_ok, bindS_ok, bind_assoc', asB_bl, asO_int, List.set_cons_succ, List.set_cons_zero, List.length_cons, List.length_nil, Nat.zero_add, Nat.reduceAdd, if_true, DL.add_int, DL.sub_int, DL.cmp_int, DL.eq_int, DL.ne_int, DL.eq_str, DL.ne_str, DL.neg_int, DL.len_tup, DL.len_lst, DL.tuple_tup, DL.tuple_lst, DL.cut_tup, DL.cut_lst]
        refine okR_ok ⟨_, _, rfl, ?_⟩
        rw [er]
        try simp only [ev_c, ev_var0, ev_varS, ev_nil, ev_cons, ev_op, ev_un, ev_b', ev_and, ev_or, ev_not, ev_if, ev_andV, ev_orV, ev_notV, ev_tup, ev_lst, ev_fix, ev_new, ev_fn, ev_cal, ev_chain, ev_nopart, ev_part, ev_slice, ev_yes, ev_src, bind_ok, bindN_ok, bindS_ok, bind_assoc', asB_bl, asO_int, List.set_cons_succ, List.set_cons_zero, List.length_cons, List.length_nil, Nat.zero_add, Nat.reduceAdd, if_true, DL.add_int, DL.sub_int, DL.cmp_int, DL.eq_int, DL.ne_int, DL.eq_str, DL.ne_str, DL.neg_int, DL.len_tup, DL.len_lst, DL.tuple_tup, DL.tuple_lst, DL.cut_tup, DL.cut_lst]
        refine ok_seq (ok_set ?_)
        try simp only [ev_c, ev_var0, ev_varS, ev_nil, ev_cons, ev_op, ev_un, ev_b', ev_and, ev_or, ev_not, ev_if, ev_andV, ev_orV, ev_notV, ev_tup, ev_lst, ev_fix, ev_new, ev_fn, ev_cal, ev_chain, ev_nopart, ev_part, ev_slice, ev_yes, ev_src, bind_ok, bindN_ok, bindS_ok, bind_assoc', asB_bl, asO_int, List.set_cons_succ, List.set_cons_zero, List.length_cons, List.length_nil, Nat.zero_add, Nat.reduceAdd, if_true, DL.add_int, DL.sub_int, DL.cmp_int, DL.eq_int, DL.ne_int, DL.eq_str, DL.ne_str, DL.neg_int, DL.len_tup, DL.len_lst, DL.tuple_tup, DL.tuple_lst, DL.cut_tup, DL.cut_lst]
        refine (due_ok (st := stc) o hh hr).imp fun dd st3' ⟨e3, g3, ex3⟩ => ?_
        subst e3
        refine ok_seq (ok_set ?_)
        simp only [ev_calK, ev_c, ev_var0, ev_varS, ev_nil, ev_cons, ev_op, ev_un, ev_b', ev_and, ev_or, ev_not, ev_if, ev_andV, ev_orV, ev_notV, ev_tup, ev_lst, ev_fix, ev_new, ev_fn, ev_cal, ev_chain, ev_nopart, ev_part, ev_slice, ev_yes, ev_src, bind_ok, bindN_ok, bindS_ok, bind_assoc', asB_bl, asO_int, List.set_cons_succ, List.set_cons_zero, List.length_cons, List.length_nil, Nat.zero_add, Nat.reduceAdd, if_true, DL.add_int, DL.sub_int, DL.cmp_int, DL.eq_int, DL.ne_int, DL.eq_str, DL.ne_str, DL.neg_int, DL.len_tup, DL.len_lst, DL.tuple_tup, DL.tuple_lst, DL.cut_tup, DL.cut_lst, List.cons_append, List.nil_append, and_self, if_true]
        refine (fits_ok (st := st3') o hh hr).imp fun dt st4 ⟨e4, g4, ex4⟩ => ?_
        subst e4
        have ff := fits_fine (hand := hand) (most := reach) o hh hr
        have ff12 := fits_fine (hand := hand) (most := 12) o hh (by decide)
        have g3' := ex4.get g3
        have lc3 : stc.length < st3'.length := (List.getElem?_eq_some_iff.mp g3).1
        refine ok_seq (ok_ifS ?_)
        simp only [ev_c, ev_var0, ev_varS, ev_nil, ev_cons, ev_op, ev_un, ev_b', ev_and, ev_or, ev_not, ev_if, ev_andV, ev_orV, ev_notV, ev_tup, ev_lst, ev_fix, ev_new, ev_fn, ev_cal, ev_chain, ev_nopart, ev_part, ev_slice, ev_yes, ev_src, bind_ok, bindN_ok, bindS_ok, bind_assoc', asB_bl, asO_int, List.set_cons_succ, List.set_cons_zero, List.length_cons, List.length_nil, Nat.zero_add, Nat.reduceAdd, if_true, DL.add_int, DL.sub_int, DL.cmp_int, DL.eq_int, DL.ne_int, DL.eq_str, DL.ne_str, DL.neg_int, DL.len_tup, DL.len_lst, DL.tuple_tup, DL.tuple_lst, DL.cut_tup, DL.cut_lst, repr_ref g4 ff, repr_ref g3' ff, sf.repr, decide_true, Bool.not_true, Bool.false_eq_true, if_false]
        refine okR_ok ⟨fun z => (by cases z), fun _ => ok_next ?_⟩
        -- told.append(None)
        refine ok_seq (ok_drop ?_)
        have fl : (fitsL s hand reach).length < sizeLine := by
          have := fitTo_len s hand reach s.bef.length
          have : s.bef.length * reach ≤ 6 * 12 := Nat.mul_le_mul c6 hr
          unfold fitsL
          rw [sizeLine_eq]
          omega
        simp only [ev_mt, ev_c, ev_var0, ev_varS, ev_nil, ev_cons, ev_op, ev_un, ev_b', ev_and, ev_or, ev_not, ev_if, ev_andV, ev_orV, ev_notV, ev_tup, ev_lst, ev_fix, ev_new, ev_fn, ev_cal, ev_chain, ev_nopart, ev_part, ev_slice, ev_yes, ev_src, bind_ok, bindN_ok, bindS_ok, bind_assoc', asB_bl, asO_int, List.set_cons_succ, List.set_cons_zero, List.length_cons, List.length_nil, Nat.zero_add, Nat.reduceAdd, if_true, DL.add_int, DL.sub_int, DL.cmp_int, DL.eq_int, DL.ne_int, DL.eq_str, DL.ne_str, DL.neg_int, DL.len_tup, DL.len_lst, DL.tuple_tup, DL.tuple_lst, DL.cut_tup, DL.cut_lst, ty_cell g4, app_by g4 fl]
        refine okR_ok ?_
        have ex5 : Ext st3' (st4.set st3'.length (.lst (fitsL s hand reach ++ [.non]))) := ex4.set (Nat.le_refl _) _
        have x5 : Ho (st4.set st3'.length (.lst (fitsL s hand reach ++ [.non]))) h0 (5001 + 2 * i + 1 + 1) := (xc.ext ex3).ext ex5
        have g5 := ex5.get g3
        generalize st4.set st3'.length (.lst (fitsL s hand reach ++ [.non])) = st5 at ex5 x5 g5
        refine ok_seq (ok_ifS ?_)
        simp only [ev_calK, ev_c, ev_var0, ev_varS, ev_nil, ev_cons, ev_op, ev_un, ev_b', ev_and, ev_or, ev_not, ev_if, ev_andV, ev_orV, ev_notV, ev_tup, ev_lst, ev_fix, ev_new, ev_fn, ev_cal, ev_chain, ev_nopart, ev_part, ev_slice, ev_yes, ev_src, bind_ok, bindN_ok, bindS_ok, bind_assoc', asB_bl, asO_int, List.set_cons_succ, List.set_cons_zero, List.length_cons, List.length_nil, Nat.zero_add, Nat.reduceAdd, if_true, DL.add_int, DL.sub_int, DL.cmp_int, DL.eq_int, DL.ne_int, DL.eq_str, DL.ne_str, DL.neg_int, DL.len_tup, DL.len_lst, DL.tuple_tup, DL.tuple_lst, DL.cut_tup, DL.cut_lst, List.cons_append, List.nil_append, and_self, if_true]
        refine (fits_ok (st := st5) o hh hr).bind fun dt st6 ⟨e6, g6, ex6⟩ => ?_
        subst e6
        simp only [ev_c, ev_var0, ev_varS, ev_nil, ev_cons, ev_op, ev_un, ev_b', ev_and, ev_or, ev_not, ev_if, ev_andV, ev_orV, ev_notV, ev_tup, ev_lst, ev_fix, ev_new, ev_fn, ev_cal, ev_chain, ev_nopart, ev_part, ev_slice, ev_yes, ev_src, bind_ok, bindN_ok, bindS_ok, bind_assoc', asB_bl, asO_int, List.set_cons_succ, List.set_cons_zero, List.length_cons, List.length_nil, Nat.zero_add, Nat.reduceAdd, if_true, DL.add_int, DL.sub_int, DL.cmp_int, DL.eq_int, DL.ne_int, DL.eq_str, DL.ne_str, DL.neg_int, DL.len_tup, DL.len_lst, DL.tuple_tup, DL.tuple_lst, DL.cut_tup, DL.cut_lst, repr_ref g6 ff, repr_ref (ex6.get g5) ff, decide_true, Bool.not_true]
        refine okR_ok ⟨fun z => (by cases z), fun _ => ok_next ?_⟩
        refine ok_ifS ?_
        simp only [ev_calDf, ev_c, ev_var0, ev_varS, ev_nil, ev_cons, ev_op, ev_un, ev_b', ev_and, ev_or, ev_not, ev_if, ev_andV, ev_orV, ev_notV, ev_tup, ev_lst, ev_fix, ev_new, ev_fn, ev_cal, ev_chain, ev_nopart, ev_part, ev_slice, ev_yes, ev_src, bind_ok, bindN_ok, bindS_ok, bind_assoc', asB_bl, asO_int, List.set_cons_succ, List.set_cons_zero, List.length_cons, List.length_nil, Nat.zero_add, Nat.reduceAdd, if_true, DL.add_int, DL.sub_int, DL.cmp_int, DL.eq_int, DL.ne_int, DL.eq_str, DL.ne_str, DL.neg_int, DL.len_tup, DL.len_lst, DL.tuple_tup, DL.tuple_lst, DL.cut_tup, DL.cut_lst, List.cons_append, List.nil_append]
        refine (fits_ok (st := st6) (most := 12) o hh (by decide)).bind fun dt st7 ⟨e7, g7, ex7⟩ => ?_
        subst e7
        simp only [ev_c, ev_var0, ev_varS, ev_nil, ev_cons, ev_op, ev_un, ev_b', ev_and, ev_or, ev_not, ev_if, ev_andV, ev_orV, ev_notV, ev_tup, ev_lst, ev_fix, ev_new, ev_fn, ev_cal, ev_chain, ev_nopart, ev_part, ev_slice, ev_yes, ev_src, bind_ok, bindN_ok, bindS_ok, bind_assoc', asB_bl, asO_int, List.set_cons_succ, List.set_cons_zero, List.length_cons, List.length_nil, Nat.zero_add, Nat.reduceAdd, if_true, DL.add_int, DL.sub_int, DL.cmp_int, DL.eq_int, DL.ne_int, DL.eq_str, DL.ne_str, DL.neg_int, DL.len_tup, DL.len_lst, DL.tuple_tup, DL.tuple_lst, DL.cut_tup, DL.cut_lst, repr_ref g7 ff12]
        refine (due_ok (st := st7) (most := 12) o hh (by decide)).bind fun dt st8 ⟨e8, g8, ex8⟩ => ?_
        subst e8
        simp only [ev_c, ev_var0, ev_varS, ev_nil, ev_cons, ev_op, ev_un, ev_b', ev_and, ev_or, ev_not, ev_if, ev_andV, ev_orV, ev_notV, ev_tup, ev_lst, ev_fix, ev_new, ev_fn, ev_cal, ev_chain, ev_nopart, ev_part, ev_slice, ev_yes, ev_src, bind_ok, bindN_ok, bindS_ok, bind_assoc', asB_bl, asO_int, List.set_cons_succ, List.set_cons_zero, List.length_cons, List.length_nil, Nat.zero_add, Nat.reduceAdd, if_true, DL.add_int, DL.sub_int, DL.cmp_int, DL.eq_int, DL.ne_int, DL.eq_str, DL.ne_str, DL.neg_int, DL.len_tup, DL.len_lst, DL.tuple_tup, DL.tuple_lst, DL.cut_tup, DL.cut_lst, repr_ref g8 ff12, decide_true, Bool.not_true]
        refine okR_ok ⟨fun z => (by cases z), fun _ => ok_next ⟨by omega, ⟨_, _, _, _, _, rfl⟩, ?_⟩⟩
        exact (((x5.ext ex6).ext ex7).ext ex8).mono (by omega)
      · obtain ⟨_, ⟨w6, w7, w8, w9, w10, rfl⟩, xa⟩ := inv
        exact ⟨_, _, _, _, _, _, _, _, _, _, rfl⟩
    · obtain ⟨v1, v2, v3, v4, v5, v6, v7, v8, v9, v10, rfl⟩ := inv
      refine ok_ret ?_
      simp only [ev_c, ev_var0, ev_varS, ev_nil, ev_cons, ev_op, ev_un, ev_b', ev_and, ev_or, ev_not, ev_if, ev_andV, ev_orV, ev_notV, ev_tup, ev_lst, ev_fix, ev_new, ev_fn, ev_cal, ev_chain, ev_nopart, ev_part, ev_slice, ev_yes, ev_src, bind_ok, bindN_ok, bindS_ok, bind_assoc', asB_bl, asO_int, List.set_cons_succ, List.set_cons_zero, List.length_cons, List.length_nil, Nat.zero_add, Nat.reduceAdd, if_true, DL.add_int, DL.sub_int, DL.cmp_int, DL.eq_int, DL.ne_int, DL.eq_str, DL.ne_str, DL.neg_int, DL.len_tup, DL.len_lst, DL.tuple_tup, DL.tuple_lst, DL.cut_tup, DL.cut_lst, decide_true]
      exact okR_ok rfl
  obtain ⟨d, st', e, rfl⟩ := goal
  exact ⟨st', e⟩
end A62

set_option maxHeartbeats 0
namespace A62
open PySem PySem.Spec PyProof.Rows L2 DL
def nm0 : List PySem.Str := ["MOST_PAST", "MOST_AGO", "seen_at", "pairs_of", "turn_that_fits", "fits", "_law_hoard_of", "_law_draw", "_law_shift", "_law_some_seen", "_law_did", "_law_turn_due", "_law_due_now"]
def names : List PySem.Str := nm0
abbrev Rr : PySem.W.OpenRow := PySem.W.OpenLaw.row PySem.Challenge.rw_agohands_k62_copies_that_fit
abbrev hk : PySem.W.Hook := He.hookD 3 fa fn
def ob (s : PySem.W.SharedT) : He.AlD := He.obsDG 3 fa fn (HandSHeadRun.getT s)
theorem ob_eq (s : PySem.W.SharedT) : ob s = hk.obs s.abs := He.obsDG_eq (HandSHeadRun.getT_eq s)
theorem run (w : World) : HandSHeadRun.RunEq Rr (PySem.W.view Rr.prog [15]) hk ob 3000 names w := by
  intro os
  kernel_rfl
end A62
open PySem PySem.W PySem.Calls PyProof.Rows
theorem PySem.Challenge.cw_agohands_k62_copies_that_fit_holds : PySem.Challenge.rw_agohands_k62_copies_that_fit.Holds := by
  w_on; o_law
  refine HandSHeadRun.head_any (r := OpenLaw.row PySem.Challenge.rw_agohands_k62_copies_that_fit) (q := view (OpenLaw.row PySem.Challenge.rw_agohands_k62_copies_that_fit).prog [15]) (H := A62.hk) (ob := A62.ob) (M := 3000) (loose := A62.names) (d := HandSHeadRun.topDef (OpenLaw.row PySem.Challenge.rw_agohands_k62_copies_that_fit).prog 15) (kwd := []) A62.ob_eq
    (by kernel_rfl) (fun s => by kernel_rfl) A62.run (by kernel_rfl) (by kernel_rfl) (by kernel_rfl) (by rfl) (by first | assumption | decide +kernel) (by decide +kernel) ⟨rfl, rfl, rfl, rfl, rfl, by decide +kernel⟩ ?hw ?hc
  case hw => w_witness2
  case hc =>
    refine DL.walk_endE (l := PySem.Challenge.rw_agohands_k62_copies_that_fit) (n := 63) (k := 4) (x := "script") rfl (by decide) (by kernel_rfl) ⟨rfl, by decide, by decide⟩ ?F A62.law_runs
    intro w mg fa h Y G hmg0
    obtain ⟨K, KX, c⟩ := Y
    have hmg : mg ("law" : PySem.Str) = some (.ref fa) := by
      have e : (HandSHeadRun.topDef (OpenLaw.row PySem.Challenge.rw_agohands_k62_copies_that_fit).prog 15).name = ("law" : PySem.Str) := by kernel_rfl
      rw [← e]
      exact hmg0
    have T := A62.txt_of KX G c
    obtain ⟨fd, F⟩ := T.d_law
    have e := hmg.symm.trans T.g_law
    cases e
    have b := L2.FunD.bindsA (ps := ["script"]) F fun _ _ _ _ _ _ us hl => match us, hl with | [_], _ => rfl
    exact ⟨K, fd, KX, fun s v => b s [v] rfl, fun base _ G' => A62.ok_law T F⟩

