import PyProof.Rows.All
import Wide.All
import OpenK.AllK
import Wide.FinOn
import HandS.ForMost
import HandS.IsInst
import HandS.Deep
import HandS.TupAny
import HandS.Style
import HandS.Wide
import HandS.Walk
import HandS.Zip
import PySem.Challenge.RW_shapecourt_k04_makes_and_fields
set_option Elab.async false
set_option linter.all false
set_option maxRecDepth 100000
set_option maxHeartbeats 4000000
namespace DL
open PySem PySem.Spec PyProof.Rows L2

/-! ### data, and what a value denotes -/
abbrev D := PyData
def kD : Key → D
  | .inl i => .int i
  | .inr x => .str x
/-- a list of the module's own -/
def KLst (K : PySem.W.Frag) (a : Addr) (xs : List V) : Prop :=
  ∃ (ob : Obj) (its : Array Value) (n : Nat), K.lookup a = some ob ∧ ob.cls = .type "list" ∧ ob.dict = none ∧
    ob.data = .seq its n ∧ its.size ≤ sizeLine ∧ Vals xs its.toList
/-- a list to be read that is none of W -/
def LsR (K : PySem.W.Frag) (W : List Addr) (H : Hp) (a : Addr) (xs : List V) : Prop := (a ∉ W ∧ Rd H a (.lst xs)) ∨ KLst K a xs
theorem LsR.sq {K : PySem.W.Frag} {W : List Addr} {H : Hp} {a : Addr} {xs : List V} (h : LsR K W H a xs) : SqL K H a xs := h.elim (fun q => .inl q.2) fun q => .inr q
mutual
/-- v denotes d; no list or dict of W is met on the way -/
inductive Dn (K : PySem.W.Frag) (W : List Addr) (H : Hp) : V → D → Prop
  | non : Dn K W H .non .none
  | bl (b : Bool) : Dn K W H (.bl b) (.bool b)
  | int (i : Int) : Dn K W H (.int i) (.int i)
  | str (x : Str) : Dn K W H (.str x) (.str x)
  | lst {a : Addr} {xs : List V} {ds : List D} : LsR K W H a xs → xs.length ≤ sizeLine → DnA K W H xs ds → Dn K W H (.ref a) (.list ds)
  | tup {a : Addr} {xs : List V} {ds : List D} : SqT K H a xs → xs.length ≤ sizeLine → DnA K W H xs ds → Dn K W H (.ref a) (.tuple ds)
  | dct {a : Addr} {kvs : List (Key × V)} {es : List (D × D)} : a ∉ W → Rd H a (.dK kvs) → DnK K W H kvs es → Dn K W H (.ref a) (.dict es)
inductive DnA (K : PySem.W.Frag) (W : List Addr) (H : Hp) : List V → List D → Prop
  | nil : DnA K W H [] []
  | cons {v : V} {d : D} {vs : List V} {ds : List D} : Dn K W H v d → DnA K W H vs ds → DnA K W H (v :: vs) (d :: ds)
inductive DnK (K : PySem.W.Frag) (W : List Addr) (H : Hp) : List (Key × V) → List (D × D) → Prop
  | nil : DnK K W H [] []
  | cons {k : Key} {v : V} {d : D} {kvs : List (Key × V)} {es : List (D × D)} : Dn K W H v d → DnK K W H kvs es → DnK K W H ((k, v) :: kvs) ((kD k, d) :: es)
end
section
variable {K : PySem.W.Frag} {W W' : List Addr} {H H' : Hp}
/-- what carries a denotation from one heap to another -/
structure Cr (K : PySem.W.Frag) (W W' : List Addr) (H H' : Hp) : Prop where
  l : ∀ a xs, a ∉ W → Rd H a (.lst xs) → a ∉ W' ∧ Rd H' a (.lst xs)
  d : ∀ a kvs, a ∉ W → Rd H a (.dK kvs) → a ∉ W' ∧ Rd H' a (.dK kvs)
  t : ∀ a xs, SqT K H a xs → SqT K H' a xs
theorem Cr.ls (c : Cr K W W' H H') {a : Addr} {xs : List V} (h : LsR K W H a xs) : LsR K W' H' a xs := h.elim (fun q => .inl (c.l _ _ q.1 q.2)) .inr
theorem Cr.dn (c : Cr K W W' H H') {v : V} {d : D} (h : Dn K W H v d) : Dn K W' H' v d :=
  Dn.rec (motive_1 := fun v d _ => Dn K W' H' v d) (motive_2 := fun vs ds _ => DnA K W' H' vs ds) (motive_3 := fun kvs es _ => DnK K W' H' kvs es)
    .non (fun b => .bl b) (fun i => .int i) (fun x => .str x) (fun h1 hz _ ih => .lst (c.ls h1) hz ih) (fun h1 hz _ ih => .tup (c.t _ _ h1) hz ih)
    (fun h1 h2 _ ih => .dct (c.d _ _ h1 h2).1 (c.d _ _ h1 h2).2 ih) .nil (fun _ _ i1 i2 => .cons i1 i2) .nil (fun _ _ i1 i2 => .cons i1 i2) h
theorem Cr.all (c : Cr K W W' H H') : ∀ {vs : List V} {ds : List D}, DnA K W H vs ds → DnA K W' H' vs ds
  | _, _, .nil => .nil
  | _, _, .cons h t => .cons (c.dn h) (c.all t)
theorem Cr.kvs (c : Cr K W W' H H') : ∀ {kvs : List (Key × V)} {es : List (D × D)}, DnK K W H kvs es → DnK K W' H' kvs es
  | _, _, .nil => .nil
  | _, _, .cons h t => .cons (c.dn h) (c.kvs t)
theorem Cr.less (h : ∀ a ∈ W', a ∈ W) : Cr K W W' H H := ⟨fun _ _ n r => ⟨fun z => n (h _ z), r⟩, fun _ _ n r => ⟨fun z => n (h _ z), r⟩, fun _ _ r => r⟩
theorem rd_new {p a : Addr} {o u : HO} (n : H p = none) (r : Rd H a u) : a ≠ p ∧ Rd (upd H p o) a u := by
  rcases r with r | ⟨x, r⟩
  · have e := ne_of_none r n
    exact ⟨e, .inl (by rw [upd_ne e]; exact r)⟩
  · have e := ne_of_none r n
    exact ⟨e, .inr ⟨x, by rw [upd_ne e]; exact r⟩⟩
theorem sqt_new {p a : Addr} {o : HO} {xs : List V} (n : H p = none) (r : SqT K H a xs) : SqT K (upd H p o) a xs := by
  rcases r with r | r
  · exact .inl (rd_new n r).2
  · exact .inr r
/-- a new object, in W or not -/
theorem Cr.new {p : Addr} {o : HO} (n : H p = none) : Cr K W W H (upd H p o) :=
  ⟨fun _ _ h r => ⟨h, (rd_new n r).2⟩, fun _ _ h r => ⟨h, (rd_new n r).2⟩, fun _ _ r => sqt_new n r⟩
theorem Cr.newW {p : Addr} {o : HO} (n : H p = none) : Cr K W (p :: W) H (upd H p o) :=
  ⟨fun _ _ h r => ⟨by simp only [List.mem_cons, not_or]; exact ⟨(rd_new (o := o) n r).1, h⟩, (rd_new n r).2⟩, fun _ _ h r => ⟨by simp only [List.mem_cons, not_or]; exact ⟨(rd_new (o := o) n r).1, h⟩, (rd_new n r).2⟩, fun _ _ r => sqt_new n r⟩
/-- what may be changed in place -/
def Mu : HO → Prop
  | .lst _ => True
  | .dK _ => True
  | _ => False
theorem Cr.wr {a : Addr} {o u : HO} (e : H a = some u) (m : Mu u) (ha : a ∈ W) : Cr K W W H (upd H a o) := by
  refine ⟨fun b xs n r => ⟨n, ?_⟩, fun b xs n r => ⟨n, ?_⟩, fun b xs r => ?_⟩
  · have q : b ≠ a := fun z => n (z ▸ ha)
    rcases r with r | ⟨x, r⟩
    · exact .inl (by rw [upd_ne q]; exact r)
    · exact .inr ⟨x, by rw [upd_ne q]; exact r⟩
  · have q : b ≠ a := fun z => n (z ▸ ha)
    rcases r with r | ⟨x, r⟩
    · exact .inl (by rw [upd_ne q]; exact r)
    · exact .inr ⟨x, by rw [upd_ne q]; exact r⟩
  · rcases r with (r | ⟨x, r⟩) | r
    · have q : b ≠ a := fun z => by subst z; rw [r] at e; cases e; exact m
      exact .inl (.inl (by rw [upd_ne q]; exact r))
    · have q : b ≠ a := fun z => by subst z; rw [r] at e; cases e; exact m
      exact .inl (.inr ⟨x, by rw [upd_ne q]; exact r⟩)
    · exact .inr r
theorem DnA.length : ∀ {vs : List V} {ds : List D}, DnA K W H vs ds → vs.length = ds.length
  | _, _, .nil => rfl
  | _, _, .cons _ t => by rw [List.length_cons, List.length_cons, DnA.length t]
theorem DnA.get : ∀ {vs : List V} {ds : List D} {i : Nat} {v : V}, DnA K W H vs ds → vs[i]? = some v → ∃ d, ds[i]? = some d ∧ Dn K W H v d
  | _, _, _, _, .nil, e => by simp at e
  | _, _, 0, _, .cons h _, e => by simp at e; subst e; exact ⟨_, rfl, h⟩
  | _, _, i + 1, v, .cons _ t, e => by
    obtain ⟨d, h1, h2⟩ := DnA.get (i := i) (v := v) t (by simpa using e)
    exact ⟨d, by simpa using h1, h2⟩
theorem DnA.getD : ∀ {vs : List V} {ds : List D} {i : Nat} {d : D}, DnA K W H vs ds → ds[i]? = some d → ∃ v, vs[i]? = some v ∧ Dn K W H v d
  | _, _, _, _, .nil, e => by simp at e
  | _, _, 0, _, .cons h _, e => by simp at e; subst e; exact ⟨_, rfl, h⟩
  | _, _, i + 1, v, .cons _ t, e => by
    obtain ⟨d, h1, h2⟩ := DnA.getD (i := i) (d := v) t (by simpa using e)
    exact ⟨d, by simpa using h1, h2⟩
theorem DnA.append : ∀ {vs ws : List V} {ds es : List D}, DnA K W H vs ds → DnA K W H ws es → DnA K W H (vs ++ ws) (ds ++ es)
  | _, _, _, _, .nil, s => s
  | _, _, _, _, .cons h t, s => .cons h (DnA.append t s)
theorem DnA.drop : ∀ {vs : List V} {ds : List D} (n : Nat), DnA K W H vs ds → DnA K W H (vs.drop n) (ds.drop n)
  | _, _, 0, h => h
  | _, _, _ + 1, .nil => .nil
  | _, _, n + 1, .cons _ t => DnA.drop n t
theorem DnA.take : ∀ {vs : List V} {ds : List D} (n : Nat), DnA K W H vs ds → DnA K W H (vs.take n) (ds.take n)
  | _, _, 0, _ => .nil
  | _, _, _ + 1, .nil => .nil
  | _, _, n + 1, .cons h t => .cons h (DnA.take n t)
theorem DnA.set {v : V} {d : D} (q : Dn K W H v d) : ∀ {vs : List V} {ds : List D} (n : Nat), DnA K W H vs ds → DnA K W H (vs.set n v) (ds.set n d)
  | _, _, _, .nil => .nil
  | _, _, 0, .cons _ t => .cons q t
  | _, _, n + 1, .cons h t => .cons h (DnA.set q n t)
theorem DnA.erase : ∀ {vs : List V} {ds : List D} (n : Nat), DnA K W H vs ds → DnA K W H (vs.eraseIdx n) (ds.eraseIdx n)
  | _, _, _, .nil => .nil
  | _, _, 0, .cons _ t => t
  | _, _, n + 1, .cons h t => .cons h (DnA.erase n t)
theorem DnA.rep : ∀ {vs : List V} {ds : List D} (n : Nat), DnA K W H vs ds → DnA K W H (List.replicate n vs).flatten (List.replicate n ds).flatten
  | _, _, 0, _ => .nil
  | _, _, n + 1, h => by
    rw [List.replicate_succ, List.replicate_succ, List.flatten_cons, List.flatten_cons]
    exact h.append (DnA.rep n h)

/-- what may be read at v, owned or not -/
def Rn (K : PySem.W.Frag) (W : List Addr) (H : Hp) (v : V) : D → Prop
  | .none => v = .non
  | .bool b => v = .bl b
  | .int i => v = .int i
  | .str x => v = .str x
  | .list ds => ∃ a xs, v = .ref a ∧ SqL K H a xs ∧ DnA K W H xs ds ∧ ds.length ≤ sizeLine
  | .tuple ds => ∃ a xs, v = .ref a ∧ SqT K H a xs ∧ DnA K W H xs ds ∧ ds.length ≤ sizeLine
  | .dict es => ∃ a kvs, v = .ref a ∧ Rd H a (.dK kvs) ∧ DnK K W H kvs es
theorem Dn.rn {v : V} {d : D} (h : Dn K W H v d) : Rn K W H v d := by
  cases h with
  | non => rfl
  | bl b => rfl
  | int i => rfl
  | str x => rfl
  | lst h1 hz h3 => exact ⟨_, _, rfl, h1.sq, h3, h3.length ▸ hz⟩
  | tup h1 hz h2 => exact ⟨_, _, rfl, h1, h2, h2.length ▸ hz⟩
  | dct h1 h2 h3 => exact ⟨_, _, rfl, h2, h3⟩
theorem Dn.dp {v : V} {d : D} (h : Dn K W H v d) : d.canLay0 = true → Dp K H v d :=
  Dn.rec (motive_1 := fun v d _ => d.canLay0 = true → Dp K H v d) (motive_2 := fun vs ds _ => PyData.canLayAll0 ds = true → DpAll K H vs ds) (motive_3 := fun _ _ _ => True)
    (fun _ => .non) (fun b _ => .bl b) (fun i _ => .int i) (fun x _ => .str x) (fun h2 _ _ ih c => .lst h2.sq (ih (by simpa [PyData.canLay0] using c))) (fun h1 _ _ ih c => .tup h1 (ih (by simpa [PyData.canLay0] using c)))
    (fun _ _ _ _ c => by simp [PyData.canLay0] at c) (fun _ => .nil) (fun _ _ i1 i2 c => by
      rw [PyData.canLayAll0, Bool.and_eq_true] at c
      exact .cons (i1 c.1) (i2 c.2)) True.intro (fun _ _ _ _ => True.intro) h
theorem DnA.dp : ∀ {vs : List V} {ds : List D}, DnA K W H vs ds → PyData.canLayAll0 ds = true → DpAll K H vs ds
  | _, _, .nil, _ => .nil
  | _, _, .cons h t, c => by
    rw [PyData.canLayAll0, Bool.and_eq_true] at c
    exact .cons (h.dp c.1) (DnA.dp t c.2)
theorem rn_dp {v : V} {d : D} (h : Rn K W H v d) (c : d.canLay0 = true) : Dp K H v d := by
  cases d with
  | none => cases h; exact .non
  | bool b => cases h; exact .bl b
  | int i => cases h; exact .int i
  | str x => cases h; exact .str x
  | list ds => obtain ⟨a, xs, rfl, r, q, _⟩ := h; exact .lst r (q.dp (by simpa [PyData.canLay0] using c))
  | tuple ds => obtain ⟨a, xs, rfl, r, q, _⟩ := h; exact .tup r (q.dp (by simpa [PyData.canLay0] using c))
  | dict es => simp [PyData.canLay0] at c
theorem Rn.less {v : V} {d : D} (h : Rn K W H v d) (l : ∀ a ∈ W', a ∈ W) : Rn K W' H v d := by
  cases d with
  | list ds => obtain ⟨a, xs, e, r, q, z⟩ := h; exact ⟨a, xs, e, r, (Cr.less l).all q, z⟩
  | tuple ds => obtain ⟨a, xs, e, r, q, z⟩ := h; exact ⟨a, xs, e, r, (Cr.less l).all q, z⟩
  | dict es => obtain ⟨a, xs, e, r, q⟩ := h; exact ⟨a, xs, e, r, (Cr.less l).kvs q⟩
  | _ => exact h
end

/-! ### cells: a value and what is known of it -/
inductive Sl where
  | no
  | val (d : D)
  | own (d : D)
abbrev Cell := Option V × Sl
def ownC : Cell → Option Addr
  | (some (.ref a), .own _) => some a
  | _ => none
def ownA (l : List Cell) : List Addr := l.filterMap ownC
/-- an owned list or dict -/
def Ow (K : PySem.W.Frag) (W : List Addr) (H : Hp) (a : Addr) : D → Prop
  | .list ds => ∃ xs, H a = some (.lst xs) ∧ DnA K W H xs ds ∧ ds.length ≤ sizeLine
  | .dict es => ∃ kvs, H a = some (.dK kvs) ∧ DnK K W H kvs es
  | _ => False
def COk (K : PySem.W.Frag) (W : List Addr) (H : Hp) (c : Cell) : Prop :=
  match c.2 with
  | .no => True
  | .val d => ∃ v, c.1 = some v ∧ Dn K W H v d
  | .own d => ∃ a, c.1 = some (.ref a) ∧ Ow K W H a d
structure Hd (K : PySem.W.Frag) (H : Hp) (l : List Cell) : Prop where
  nd : (ownA l).Nodup
  ok : ∀ c ∈ l, COk K (ownA l) H c
section
variable {K : PySem.W.Frag} {W W' : List Addr} {H H' : Hp} {l l' : List Cell}
theorem Ow.there {a : Addr} {d : D} (h : Ow K W H a d) : ∃ u, H a = some u ∧ Mu u := by
  cases d with
  | list ds => obtain ⟨xs, e, _⟩ := h; exact ⟨_, e, True.intro⟩
  | dict es => obtain ⟨xs, e, _⟩ := h; exact ⟨_, e, True.intro⟩
  | _ => exact h.elim
theorem Cr.ow (c : Cr K W W' H H') {a : Addr} {d : D} (h : Ow K W H a d) (e : H' a = H a) : Ow K W' H' a d := by
  cases d with
  | list ds => obtain ⟨xs, q, r, z⟩ := h; exact ⟨xs, e.trans q, c.all r, z⟩
  | dict es => obtain ⟨xs, q, r⟩ := h; exact ⟨xs, e.trans q, c.kvs r⟩
  | _ => exact h.elim
theorem Cr.cok (c : Cr K W W' H H') {x : Cell} (h : COk K W H x) (e : ∀ a, ownC x = some a → H' a = H a) : COk K W' H' x := by
  obtain ⟨o, s⟩ := x
  cases s with
  | no => exact True.intro
  | val d => obtain ⟨v, q, r⟩ := h; exact ⟨v, q, c.dn r⟩
  | own d =>
    obtain ⟨a, q, r⟩ := h
    have q' : o = some (.ref a) := q
    subst q'
    exact ⟨a, rfl, c.ow r (e a rfl)⟩
theorem mem_ownA {c : Cell} {a : Addr} (h : c ∈ l) (e : ownC c = some a) : a ∈ ownA l := List.mem_filterMap.mpr ⟨c, h, e⟩
theorem Hd.there (h : Hd K H l) {a : Addr} (ha : a ∈ ownA l) : ∃ u, H a = some u ∧ Mu u := by
  obtain ⟨⟨o, s⟩, hc, e⟩ := List.mem_filterMap.mp ha
  have q := h.ok _ hc
  unfold ownC at e
  split at e
  · rename_i b d heq
    cases heq
    cases e
    obtain ⟨b, e1, r⟩ := q
    cases e1
    exact r.there
  · cases e
theorem Hd.perm (h : Hd K H l) (p : l.Perm l') : Hd K H l' := by
  have pp : (ownA l).Perm (ownA l') := p.filterMap _
  exact ⟨pp.nodup_iff.mp h.nd, fun c hc => (Cr.less fun a ha => pp.mem_iff.mpr ha).cok (h.ok c (p.mem_iff.mpr hc)) fun _ _ => rfl⟩
theorem Hd.sub (h : Hd K H l) (p : l'.Sublist l) : Hd K H l' := by
  have pp : (ownA l').Sublist (ownA l) := p.filterMap _
  exact ⟨h.nd.sublist pp, fun c hc => (Cr.less fun a ha => pp.subset ha).cok (h.ok c (p.subset hc)) fun _ _ => rfl⟩
theorem Hd.tail {c : Cell} (h : Hd K H (c :: l)) : Hd K H l := h.sub (List.sublist_cons_self c l)
/-- a cell that owns nothing may be put in -/
theorem Hd.add {c : Cell} (h : Hd K H l) (n : ownC c = none) (k : COk K (ownA l) H c) : Hd K H (c :: l) := by
  have e : ownA (c :: l) = ownA l := by unfold ownA; rw [List.filterMap_cons, n]
  refine ⟨by rw [e]; exact h.nd, fun x hx => ?_⟩
  rw [e]
  rcases List.mem_cons.mp hx with rfl | hx
  · exact k
  · exact h.ok x hx
theorem ownC_val (o : Option V) (d : D) : ownC (o, .val d) = none := by unfold ownC; split <;> simp_all
theorem ownC_no (o : Option V) : ownC (o, .no) = none := by unfold ownC; split <;> simp_all
theorem Hd.addNo (h : Hd K H l) (o : Option V) : Hd K H ((o, .no) :: l) := h.add (ownC_no o) True.intro
theorem Hd.addVal {v : V} {d : D} (h : Hd K H l) (q : Dn K (ownA l) H v d) : Hd K H ((some v, .val d) :: l) := h.add (ownC_val _ _) ⟨v, rfl, q⟩
theorem ownA_cons {c : Cell} : ownA (c :: l) = match ownC c with | none => ownA l | some a => a :: ownA l := by
  unfold ownA
  rw [List.filterMap_cons]
  cases ownC c <;> rfl
theorem ownA_val {o : Option V} {d : D} : ownA ((o, .val d) :: l) = ownA l := by rw [ownA_cons, ownC_val]
theorem ownA_no {o : Option V} : ownA ((o, .no) :: l) = ownA l := by rw [ownA_cons, ownC_no]
theorem ownA_own {a : Addr} {d : D} : ownA ((some (.ref a), .own d) :: l) = a :: ownA l := rfl
theorem Hd.valOf {v : V} {d : D} (h : Hd K H ((some v, .val d) :: l)) : Dn K (ownA l) H v d := by
  obtain ⟨w, e, r⟩ := h.ok _ List.mem_cons_self
  cases e
  rw [ownA_val] at r
  exact r
theorem Hd.dup {v : V} {d : D} (h : Hd K H ((some v, .val d) :: l)) : Hd K H ((some v, .val d) :: (some v, .val d) :: l) := h.addVal (by rw [ownA_val]; exact h.valOf)
/-- an owned thing becomes a shared one -/
theorem Hd.frz {o : Option V} {d : D} (h : Hd K H ((o, .own d) :: l)) : Hd K H ((o, .val d) :: l) := by
  obtain ⟨a, e, r⟩ := h.ok _ List.mem_cons_self
  have e' : o = some (.ref a) := e
  subst e'
  have nd := h.nd
  rw [ownA_own] at r nd
  have c : Cr K (a :: ownA l) (ownA l) H H := Cr.less fun _ z => List.mem_cons_of_mem _ z
  have na := (List.nodup_cons.mp nd).1
  refine h.tail.addVal ?_
  cases d with
  | list ds => obtain ⟨xs, q, r, z⟩ := r; exact .lst (.inl ⟨na, .inl q⟩) (r.length ▸ z) (c.all r)
  | dict es => obtain ⟨xs, q, r⟩ := r; exact .dct na (.inl q) (c.kvs r)
  | _ => exact r.elim
/-- what is told of a cell is to be read there -/
theorem Hd.rn {v : V} {s : Sl} {d : D} (h : Hd K H l) (m : (some v, s) ∈ l) (e : s = .val d ∨ s = .own d) : Rn K (ownA l) H v d := by
  have q := h.ok _ m
  rcases e with rfl | rfl
  · obtain ⟨w, e, r⟩ := q
    cases e
    exact r.rn
  · obtain ⟨a, e, r⟩ := q
    cases e
    cases d with
    | list ds => obtain ⟨xs, q, r, z⟩ := r; exact ⟨_, _, rfl, .inl (.inl q), r, z⟩
    | dict es => obtain ⟨xs, q, r⟩ := r; exact ⟨_, _, rfl, .inl q, r⟩
    | _ => exact r.elim
/-- a new object that is owned -/
theorem Hd.newO {p : Addr} {o : HO} {d : D} (h : Hd K H l) (n : H p = none) (q : Ow K (p :: ownA l) (upd H p o) p d) : Hd K (upd H p o) ((some (.ref p), .own d) :: l) := by
  have np : p ∉ ownA l := fun z => by
    obtain ⟨u, e, _⟩ := h.there z
    rw [n] at e; cases e
  refine ⟨List.nodup_cons.mpr ⟨np, h.nd⟩, fun c hc => ?_⟩
  rw [ownA_own]
  rcases List.mem_cons.mp hc with rfl | hd
  · exact ⟨p, rfl, q⟩
  · refine (Cr.newW n).cok (h.ok c hd) fun a e => ?_
    rw [upd_ne]
    intro z
    exact np (z ▸ mem_ownA hd e)
theorem Hd.newL {p : Addr} {xs : List V} {ds : List D} (h : Hd K H l) (n : H p = none) (q : DnA K (ownA l) H xs ds) (z : ds.length ≤ sizeLine) : Hd K (upd H p (.lst xs)) ((some (.ref p), .own (.list ds)) :: l) :=
  h.newO n ⟨xs, upd_same, (Cr.newW n).all q, z⟩
theorem Hd.newD {p : Addr} {kvs : List (Key × V)} {es : List (D × D)} (h : Hd K H l) (n : H p = none) (q : DnK K (ownA l) H kvs es) : Hd K (upd H p (.dK kvs)) ((some (.ref p), .own (.dict es)) :: l) :=
  h.newO n ⟨kvs, upd_same, (Cr.newW n).kvs q⟩
/-- a new object that is not owned -/
theorem Hd.grow {p : Addr} {o : HO} (h : Hd K H l) (n : H p = none) : Hd K (upd H p o) l := by
  refine ⟨h.nd, fun c hc => (Cr.new n).cok (h.ok c hc) fun a e => ?_⟩
  rw [upd_ne]
  rintro rfl
  obtain ⟨u, e2, _⟩ := h.there (mem_ownA hc e)
  rw [n] at e2; cases e2
theorem Hd.newT {p : Addr} {xs : List V} {ds : List D} (h : Hd K H l) (n : H p = none) (q : DnA K (ownA l) H xs ds) (z : ds.length ≤ sizeLine) : Hd K (upd H p (.tup xs)) ((some (.ref p), .val (.tuple ds)) :: l) :=
  (h.grow n).addVal (.tup (.inl (.inl upd_same)) (q.length ▸ z) ((Cr.new n).all q))
/-- an owned object is changed -/
theorem Hd.wr {a : Addr} {o : HO} {d d' : D} (h : Hd K H ((some (.ref a), .own d) :: l)) (q : Ow K (a :: ownA l) (upd H a o) a d') : Hd K (upd H a o) ((some (.ref a), .own d') :: l) := by
  refine ⟨h.nd, fun c hc => ?_⟩
  obtain ⟨u, e, m⟩ := h.there (a := a) (by rw [ownA_own]; exact List.mem_cons_self)
  rw [ownA_own]
  rcases List.mem_cons.mp hc with rfl | hd
  · exact ⟨a, rfl, q⟩
  · refine (Cr.wr e m List.mem_cons_self).cok (h.ok c (List.mem_cons_of_mem _ hd)) fun b eb => ?_
    rw [upd_ne]
    intro z
    exact (List.nodup_cons.mp h.nd).1 (z ▸ mem_ownA hd eb)
theorem Hd.wrL {a : Addr} {xs : List V} {d : D} {ds : List D} (h : Hd K H ((some (.ref a), .own d) :: l)) (q : DnA K (a :: ownA l) H xs ds) (z : ds.length ≤ sizeLine) : Hd K (upd H a (.lst xs)) ((some (.ref a), .own (.list ds)) :: l) := by
  obtain ⟨u, e, m⟩ := h.there (a := a) (by rw [ownA_own]; exact List.mem_cons_self)
  exact h.wr ⟨xs, upd_same, (Cr.wr e m List.mem_cons_self).all q, z⟩
theorem Hd.wrD {a : Addr} {kvs : List (Key × V)} {d : D} {es : List (D × D)} (h : Hd K H ((some (.ref a), .own d) :: l)) (q : DnK K (a :: ownA l) H kvs es) : Hd K (upd H a (.dK kvs)) ((some (.ref a), .own (.dict es)) :: l) := by
  obtain ⟨u, e, m⟩ := h.there (a := a) (by rw [ownA_own]; exact List.mem_cons_self)
  exact h.wr ⟨kvs, upd_same, (Cr.wr e m List.mem_cons_self).kvs q⟩
end
end DL
namespace DL
open PySem PySem.Spec L2

/-! ### places in lists of cells -/
section
variable {K : PySem.W.Frag} {H H' : Hp} {l l' A B C : List Cell} {σ : St} {ρ : List Sl}
theorem zip_at : ∀ {σ : St} {ρ : List Sl} {i : Nat} {s : Sl}, σ.length = ρ.length → ρ[i]? = some s → ∃ c, σ[i]? = some c ∧ (σ.zip ρ)[i]? = some (c, s)
  | [], [], i, s, _, e => by simp at e
  | [], _ :: _, _, _, h, _ => by simp at h
  | _ :: _, [], _, _, h, _ => by simp at h
  | x :: σ, y :: ρ, 0, s, _, e => by simp at e; subst e; exact ⟨x, rfl, rfl⟩
  | x :: σ, y :: ρ, i + 1, s, h, e => by
    obtain ⟨c, h1, h2⟩ := zip_at (σ := σ) (ρ := ρ) (i := i) (s := s) (by simpa using h) (by simpa using e)
    exact ⟨c, by simpa using h1, by simpa using h2⟩
theorem zip_set : ∀ (σ : St) (ρ : List Sl) (i : Nat) (x : Option V) (s : Sl), (σ.set i x).zip (ρ.set i s) = (σ.zip ρ).set i (x, s)
  | [], ρ, i, x, s => by simp
  | _ :: _, [], i, x, s => by simp
  | a :: σ, b :: ρ, 0, x, s => rfl
  | a :: σ, b :: ρ, i + 1, x, s => by simp only [List.set_cons_succ, List.zip_cons_cons, zip_set σ ρ i x s]
theorem zip_setR {σ : St} {ρ : List Sl} {i : Nat} {x : Option V} {s : Sl} (h : σ[i]? = some x) : σ.zip (ρ.set i s) = (σ.zip ρ).set i (x, s) := by
  have e : σ.set i x = σ := by
    apply List.ext_getElem?
    intro j
    by_cases hj : i = j
    · subst hj
      have hl : i < σ.length := (List.getElem?_eq_some_iff.mp h).1
      rw [List.getElem?_set_self hl, h]
    · rw [List.getElem?_set_ne hj]
  rw [← zip_set, e]
theorem perm_at : ∀ {l : List Cell} {i : Nat} {c : Cell}, l[i]? = some c → l.Perm (c :: l.eraseIdx i)
  | [], _, _, h => by simp at h
  | x :: l, 0, c, h => by simp at h; subst h; exact List.Perm.refl _
  | x :: l, i + 1, c, h => ((perm_at (l := l) (i := i) (by simpa using h)).cons x).trans (List.Perm.swap _ _ _)
theorem perm_set : ∀ {l : List Cell} {i : Nat} {c : Cell}, i < l.length → (l.set i c).Perm (c :: l.eraseIdx i)
  | [], _, _, h => by simp at h
  | x :: l, 0, c, h => List.Perm.refl _
  | x :: l, i + 1, c, h => ((perm_set (l := l) (i := i) (c := c) (by simpa using h)).cons x).trans (List.Perm.swap _ _ _)
/-- slot i is taken out -/
theorem Hd.take {i : Nat} {c : Option V} {s : Sl} {stk : List Cell} (h : Hd K H (σ.zip ρ ++ stk)) (e : (σ.zip ρ)[i]? = some (c, s)) (e2 : σ[i]? = some c) : Hd K H ((c, s) :: (σ.zip (ρ.set i .no) ++ stk)) := by
  have hi := (List.getElem?_eq_some_iff.mp e).1
  have h1 : Hd K H ((c, s) :: ((σ.zip ρ).eraseIdx i ++ stk)) := h.perm ((perm_at e).append_right stk)
  have h2 : Hd K H ((c, .no) :: (c, s) :: ((σ.zip ρ).eraseIdx i ++ stk)) := h1.addNo c
  rw [zip_setR e2]
  refine h2.perm ((List.Perm.swap _ _ _).trans (List.Perm.cons _ ?_))
  exact ((perm_set hi).append_right stk).symm
/-- and put back -/
theorem Hd.put {i : Nat} {c : Option V} {s t : Sl} {stk : List Cell} (h : Hd K H ((c, s) :: (σ.zip ρ ++ stk))) (hl : σ.length = ρ.length) (e : ρ[i]? = some t) (e2 : σ[i]? = some c) : Hd K H (σ.zip (ρ.set i s) ++ stk) := by
  obtain ⟨c', q1, q2⟩ := zip_at hl e
  have hi := (List.getElem?_eq_some_iff.mp q2).1
  rw [zip_setR e2]
  have h1 : Hd K H ((c, s) :: (c', t) :: ((σ.zip ρ).eraseIdx i ++ stk)) := h.perm (List.Perm.cons _ ((perm_at q2).append_right stk))
  have h2 : Hd K H ((c, s) :: ((σ.zip ρ).eraseIdx i ++ stk)) := h1.sub (List.Sublist.cons_cons _ (List.sublist_cons_self _ _))
  exact h2.perm ((perm_set hi).append_right stk).symm
end

/-! ### operands -/
abbrev Rh := List Sl
inductive Opd where
  | tmp (s : Sl)
  | slot (i : Nat)
abbrev EvX := Rh → Option (Opd × Rh)
@[simp] def cellOf (v : V) : Opd → List Cell
  | .tmp s => [(some v, s)]
  | .slot _ => []
def AtO (σ : St) (v : V) : Opd → Prop
  | .tmp _ => True
  | .slot i => σ[i]? = some (some v)
/-- what is to be read at an operand -/
@[simp] def slD : Sl → Option D
  | .no => none
  | .val d => some d
  | .own d => some d
@[simp] def cont (ρ : Rh) : Opd → Option D
  | .tmp s => slD s
  | .slot i => (ρ[i]?).bind slD
theorem slD_some {s : Sl} {d : D} (h : slD s = some d) : s = .val d ∨ s = .own d := by
  cases s with
  | no => cases h
  | val e => cases h; exact .inl rfl
  | own e => cases h; exact .inr rfl
section
variable {K : PySem.W.Frag} {H : Hp} {σ : St} {ρ : Rh} {stk : List Cell}
theorem cont_rn {v : V} {o : Opd} {d : D} {l : List Cell} (hl : σ.length = ρ.length) (h : Hd K H l) (hs : ∀ c ∈ σ.zip ρ, c ∈ l) (hc : ∀ c ∈ cellOf v o, c ∈ l) (a : AtO σ v o) (e : cont ρ o = some d) : Rn K (ownA l) H v d := by
  cases o with
  | tmp s => exact h.rn (hc (some v, s) (by simp [cellOf])) (slD_some e)
  | slot i =>
    dsimp only [cont] at e
    cases q : ρ[i]? with
    | none => rw [q] at e; cases e
    | some s =>
      rw [q] at e
      obtain ⟨c, q1, q2⟩ := zip_at hl q
      have a' : σ[i]? = some (some v) := a
      rw [a'] at q1
      cases q1
      exact h.rn (hs _ (List.mem_of_getElem? q2)) (slD_some e)
end
theorem Hd.res {K : PySem.W.Frag} {H : Hp} {v : V} {s : Sl} {A B C F : List Cell} (h : Hd K H ((some v, s) :: (B ++ (A ++ (C ++ F))))) : Hd K H (cellOf v (.tmp s) ++ (A ++ F)) :=
  Hd.sub (l' := (some v, s) :: (A ++ F)) h (List.Sublist.cons_cons _ (List.Sublist.trans (List.Sublist.append_left (List.sublist_append_right _ _) _) (List.sublist_append_right _ _)))
def DX (K : PySem.W.Frag) (te : TE) (f : EvX) : Prop :=
  ∀ (σ : St) (ρ : Rh) (stk : List Cell) (H : Hp) (Q : VK) (o : Opd) (ρ' : Rh), σ.length = ρ.length → Hd K H (σ.zip ρ ++ stk) → f ρ = some (o, ρ') →
    (∀ v H', ρ'.length = ρ.length → Hd K H' (cellOf v o ++ (σ.zip ρ' ++ stk)) → AtO σ v o → Q v H') → te σ H Q
structure EX (X : Cx) (e : Expr) (f : EvX) : Prop where
  ex : ∃ te, PE X e te ∧ DX X.K te f

section
variable {X : Cx} {pos : Pos} {e a b c : Expr} {fa fb fc : EvX}
/-! ### names, constants -/
@[simp] def nameF (i : Nat) : EvX := fun ρ =>
  match ρ[i]? with
  | some (.val d) => some (.tmp (.val d), ρ)
  | some (.own _) => some (.slot i, ρ)
  | _ => none
theorem dx_name {K : PySem.W.Frag} (i : Nat) : DX K (tVar i) (nameF i) := fun σ ρ stk H Q o ρ' hl h e q => by
  unfold nameF at e
  split at e
  · rename_i d hd
    cases e
    obtain ⟨c, q1, q2⟩ := zip_at hl hd
    obtain ⟨v, ev, r⟩ := h.ok _ (List.mem_append_left _ (List.mem_of_getElem? q2))
    have ev' : c = some v := ev
    subst ev'
    exact ⟨v, q1, q v H rfl (h.addVal r) True.intro⟩
  · rename_i d hd
    cases e
    obtain ⟨c, q1, q2⟩ := zip_at hl hd
    obtain ⟨ad, ev, r⟩ := h.ok _ (List.mem_append_left _ (List.mem_of_getElem? q2))
    have ev' : c = some (.ref ad) := ev
    subst ev'
    exact ⟨.ref ad, q1, q (.ref ad) H rfl h q1⟩
  · cases e
theorem ex_name (i : Nat) {x : Str} {pos : Pos} (hN : X.N[i]? = some x := by rfl) (hv : Vis X.env.scope x := by first | exact Or.inl rfl | exact Or.inr (Or.inl rfl) | exact Or.inr (Or.inr rfl)) (hd : (x == ("__debug__" : Str)) = false := by decide)
    (hcd : (x == ("__classdict__" : Str)) = false := by decide) : EX X (.Name x pos) (nameF i) := ⟨_, pe_var hN hv hd hcd, dx_name i⟩
@[simp] def consF (d : D) : EvX := fun ρ => some (.tmp (.val d), ρ)
theorem dx_const {K : PySem.W.Frag} {v : V} {d : D} (r : ∀ W H, Dn K W H v d) : DX K (tC v) (consF d) := fun σ ρ stk H Q o ρ' hl h e q => by
  cases e
  exact q v H rfl (h.addVal (r _ _)) True.intro
theorem ex_int {i j pos} : EX X (.Constant (.int i) j pos) (consF (.int i)) := ⟨_, pe_int, dx_const fun _ _ => .int i⟩
theorem ex_bl {i j pos} : EX X (.Constant (.bool i) j pos) (consF (.bool i)) := ⟨_, pe_bl, dx_const fun _ _ => .bl i⟩
theorem ex_non {j pos} : EX X (.Constant .none j pos) (consF .none) := ⟨_, pe_non, dx_const fun _ _ => .non⟩
theorem ex_str {x j pos} : EX X (.Constant (.str x) j pos) (consF (.str x)) := ⟨_, pe_str, dx_const fun _ _ => .str x⟩
theorem ex_glob {x : Str} {v : V} {d : D} {u : Value} {pos : Pos} (hg : Gl X x) (hm : X.mg x = some u) (r : RelV v u) (q : ∀ W H, Dn X.K W H v d) (hd : (x == ("__debug__" : Str)) = false := by decide) : EX X (.Name x pos) (consF d) :=
  ⟨_, pe_glob hg hm r hd, dx_const q⟩

/-! ### operators by values -/
abbrev Op2 := D → D → Option Sl
def OpOk (K : PySem.W.Frag) (r : R2) (g : Op2) : Prop :=
  ∀ (l : List Cell) (H : Hp) (x y : V) (dx dy : D) (s : Sl) (Q : VK), Hd K H l → Rn K (ownA l) H x dx → Rn K (ownA l) H y dy → g dx dy = some s → (∀ v H', Hd K H' ((some v, s) :: l) → Q v H') → r x y H Q
def opF (g : Op2) (f h : EvX) : EvX := fun ρ =>
  (f ρ).bind fun p => (h p.2).bind fun q => (cont q.2 p.1).bind fun d1 => (cont q.2 q.1).bind fun d2 => (g d1 d2).bind fun s => some (.tmp s, q.2)
theorem dx_op {K : PySem.W.Frag} {r : R2} {g : Op2} {ta tb : TE} (ho : OpOk K r g) (ha : DX K ta fa) (hb : DX K tb fb) : DX K (tOp r ta tb) (opF g fa fb) := fun σ ρ stk H Q o ρ' hl h e q => by
  unfold opF at e
  simp only [Option.bind_eq_some_iff] at e
  obtain ⟨⟨o1, ρ1⟩, e1, ⟨o2, ρ2⟩, e2, d1, c1, d2, c2, s, es, ef⟩ := e
  dsimp only at ef
  cases ef
  refine ha σ ρ stk H _ o1 ρ1 hl h e1 fun v1 H1 l1 h1 a1 => ?_
  refine hb σ ρ1 (cellOf v1 o1 ++ stk) H1 _ o2 ρ' (by omega) (h1.perm ?_) e2 fun v2 H2 l2 h2 a2 => ?_
  · exact List.perm_append_comm_assoc _ _ _
  have hm : ∀ c ∈ σ.zip ρ', c ∈ cellOf v2 o2 ++ (σ.zip ρ' ++ (cellOf v1 o1 ++ stk)) := fun c hc => List.mem_append_right _ (List.mem_append_left _ hc)
  refine ho _ H2 v1 v2 d1 d2 s Q h2 (cont_rn (by omega) h2 hm (fun c hc => List.mem_append_right _ (List.mem_append_right _ (List.mem_append_left _ hc))) a1 c1) (cont_rn (by omega) h2 hm (fun c hc => List.mem_append_left _ hc) a2 c2) es fun v H' hf => ?_
  exact q v H' (by omega) hf.res True.intro
theorem ex_op {op : Operator} {r : R2} {g : Op2} (ho : OpR X (binaryOp op) r) (hg : OpOk X.K r g) (ha : EX X a fa) (hb : EX X b fb) : EX X (.BinOp a op b pos) (opF g fa fb) := by
  obtain ⟨ta, pa, qa⟩ := ha.ex
  obtain ⟨tb, pb, qb⟩ := hb.ex
  exact ⟨_, pe_op ho pa pb, dx_op hg qa qb⟩
theorem ex_cmp {op : CmpOp} {r : R2} {g : Op2} (ho : OpR X (compareOp op) r) (hg : OpOk X.K r g) (ha : EX X a fa) (hb : EX X b fb) (hm : behindInMarks op b = false) : EX X (.Compare a [op] [b] pos) (opF g fa fb) := by
  obtain ⟨ta, pa, qa⟩ := ha.ex
  obtain ⟨tb, pb, qb⟩ := hb.ex
  exact ⟨_, pe_cmpR ho pa pb hm, dx_op hg qa qb⟩
theorem ex_ix {r : R2} {g : Op2} (ho : IxR X r) (hg : OpOk X.K r g) (ha : EX X a fa) (hb : EX X b fb) (hs : PlainIx b) : EX X (.Subscript a b pos) (opF g fa fb) := by
  obtain ⟨ta, pa, qa⟩ := ha.ex
  obtain ⟨tb, pb, qb⟩ := hb.ex
  exact ⟨_, pe_ix ho pa pb hs, dx_op hg qa qb⟩
theorem OpOk.or {K : PySem.W.Frag} {r r' : R2} {g g' : Op2} (h : OpOk K r g) (h' : OpOk K r' g') : OpOk K (fun x y H Q => r x y H Q ∨ r' x y H Q) (fun d1 d2 => (g d1 d2).orElse fun _ => g' d1 d2) := fun l H x y dx dy s Q hd rx ry e q => by
  cases eg : g dx dy with
  | some s' =>
    have e' : (g dx dy).orElse (fun _ => g' dx dy) = some s := e
    rw [eg] at e'
    cases e'
    exact .inl (h l H x y dx dy _ Q hd rx ry eg q)
  | none =>
    have e' : (g dx dy).orElse (fun _ => g' dx dy) = some s := e
    rw [eg] at e'
    exact .inr (h' l H x y dx dy _ Q hd rx ry e' q)
abbrev Op1 := D → Option Sl
def UnOk (K : PySem.W.Frag) (r : V → Hp → VK → Prop) (g : Op1) : Prop :=
  ∀ (l : List Cell) (H : Hp) (x : V) (dx : D) (s : Sl) (Q : VK), Hd K H l → Rn K (ownA l) H x dx → g dx = some s → (∀ v H', Hd K H' ((some v, s) :: l) → Q v H') → r x H Q
def unF (g : Op1) (f : EvX) : EvX := fun ρ => (f ρ).bind fun p => (cont p.2 p.1).bind fun d => (g d).bind fun s => some (.tmp s, p.2)
theorem dx_un {K : PySem.W.Frag} {r : V → Hp → VK → Prop} {g : Op1} {ta : TE} (ho : UnOk K r g) (ha : DX K ta fa) : DX K (tUn r ta) (unF g fa) := fun σ ρ stk H Q o ρ' hl h e q => by
  unfold unF at e
  simp only [Option.bind_eq_some_iff] at e
  obtain ⟨⟨o1, ρ1⟩, e1, d1, c1, s, es, ef⟩ := e
  dsimp only at ef
  cases ef
  refine ha σ ρ stk H _ o1 ρ' hl h e1 fun v1 H1 l1 h1 a1 => ?_
  refine ho _ H1 v1 d1 s Q h1 (cont_rn (by omega) h1 (fun c hc => List.mem_append_right _ (List.mem_append_left _ hc)) (fun c hc => List.mem_append_left _ hc) a1 c1) es fun v H' hf => ?_
  exact q v H' (by omega) (hf.sub (List.Sublist.cons_cons _ (List.sublist_append_right _ _))) True.intro
theorem ex_un {op : UnaryOp} {r : V → Hp → VK → Prop} {g : Op1} (ho : UnR X (unaryOp op) r) (hg : UnOk X.K r g) (ha : EX X a fa) : EX X (.UnaryOp op a pos) (unF g fa) := by
  obtain ⟨ta, pa, qa⟩ := ha.ex
  exact ⟨_, pe_un ho pa, dx_un hg qa⟩

/-! ### tests -/
abbrev EvT := Rh → Option (Bool × Rh)
def DT (K : PySem.W.Frag) (tt : TT) (f : EvT) : Prop :=
  ∀ (σ : St) (ρ : Rh) (stk : List Cell) (H : Hp) (Q : Bool → Hp → Prop) (b : Bool) (ρ' : Rh), σ.length = ρ.length → Hd K H (σ.zip ρ ++ stk) → f ρ = some (b, ρ') →
    (∀ H', ρ'.length = ρ.length → Hd K H' (σ.zip ρ' ++ stk) → Q b H') → tt σ H Q
structure TX (X : Cx) (e : Expr) (f : EvT) : Prop where
  ex : ∃ te, PT X e te ∧ DT X.K te f
structure WX (X : Cx) (e : Expr) (f : EvT) : Prop where
  ex : ∃ te, PW X e te ∧ DT X.K te f
theorem WX.tx {f : EvT} (h : WX X e f) : TX X e f := by
  obtain ⟨t, p, q⟩ := h.ex
  exact ⟨t, p.pt, q⟩
/-- a value that is a bool -/
def boolF (f : EvX) : EvT := fun ρ => (f ρ).bind fun p => match p.1 with | .tmp (.val (.bool b)) => some (b, p.2) | _ => none
theorem dt_bool {K : PySem.W.Frag} {ta : TE} (ha : DX K ta fa) : DT K (tTest ta) (boolF fa) := fun σ ρ stk H Q b ρ' hl h e q => by
  unfold boolF at e
  simp only [Option.bind_eq_some_iff] at e
  obtain ⟨⟨o1, ρ1⟩, e1, e2⟩ := e
  refine ha σ ρ stk H _ o1 ρ1 hl h e1 fun v1 H1 l1 h1 a1 => ?_
  dsimp only at e2
  split at e2
  · cases e2
    have r := (Hd.valOf (l := σ.zip ρ' ++ stk) h1).rn
    exact ⟨b, r, q H1 l1 (Hd.tail h1)⟩
  · cases e2
theorem tx_cmp {op : CmpOp} {r : R2} {g : Op2} (ho : OpR X (compareOp op) r) (hg : OpOk X.K r g) (ha : EX X a fa) (hb : EX X b fb) (hm : behindInMarks op b = false) : TX X (.Compare a [op] [b] pos) (boolF (opF g fa fb)) := by
  obtain ⟨ta, pa, qa⟩ := ha.ex
  obtain ⟨tb, pb, qb⟩ := hb.ex
  exact ⟨_, pt_cmpR ho pa pb hm, dt_bool (dx_op hg qa qb)⟩
/-- the truth of any value -/
@[simp] def truD : D → Option Bool
  | .none => some false
  | .bool b => some b
  | .int i => some (i != 0)
  | .str y => if y.length ≤ 16777216 then some ((y.length : Int) != 0) else none
  | .list ds => some (!ds.isEmpty)
  | .tuple ds => some (!ds.isEmpty)
  | .dict _ => none
def truF (f : EvX) : EvT := fun ρ => (f ρ).bind fun p => (cont p.2 p.1).bind fun d => (truD d).bind fun b => some (b, p.2)
theorem isEmpty_dn {K : PySem.W.Frag} {W : List Addr} {H : Hp} {vs : List V} {ds : List D} (h : DnA K W H vs ds) : (!ds.isEmpty) = !vs.isEmpty := by cases h <;> rfl
theorem tru_rn {K : PySem.W.Frag} {W : List Addr} {H : Hp} {x : V} {d : D} {b : Bool} (h : Rn K W H x d) (e : truD d = some b) : TruV K x H b := by
  cases d with
  | none => cases h; cases e; rfl
  | bool y => cases h; cases e; rfl
  | int i => cases h; cases e; rfl
  | str y =>
    cases h
    simp only [truD] at e
    split at e
    · cases e; exact ⟨by rw [sizeLine_eq]; assumption, rfl⟩
    · cases e
  | list ds => obtain ⟨a, xs, rfl, r, q, _⟩ := h; cases e; exact .inl ⟨xs, r, isEmpty_dn q⟩
  | tuple ds => obtain ⟨a, xs, rfl, r, q, _⟩ := h; cases e; exact .inr (.inl ⟨xs, r, isEmpty_dn q⟩)
  | dict es => cases e
theorem tx_tru (ha : EX X a fa) (he : ∀ whole, isTrue a X.env whole = (do let v ← whole; standAt a.pos; holding [v] (truthy v)) := by intro _; rfl) : TX X a (truF fa) := by
  obtain ⟨ta, pa, qa⟩ := ha.ex
  refine ⟨_, pt_truth pa he, fun σ ρ stk H Q b ρ' hl h e q => ?_⟩
  unfold truF at e
  simp only [Option.bind_eq_some_iff] at e
  obtain ⟨⟨o1, ρ1⟩, e1, d1, c1, b', es, ef⟩ := e
  dsimp only at ef
  cases ef
  refine qa σ ρ stk H _ o1 ρ' hl h e1 fun v1 H1 l1 h1 a1 => ?_
  exact ⟨b, tru_rn (cont_rn (by omega) h1 (fun c hc => List.mem_append_right _ (List.mem_append_left _ hc)) (fun c hc => List.mem_append_left _ hc) a1 c1) es, q H1 l1 (h1.sub (List.sublist_append_right _ _))⟩
def notF (f : EvT) : EvT := fun ρ => (f ρ).bind fun p => some (!p.1, p.2)
theorem tx_not {f : EvT} (h : TX X a f) : TX X (.UnaryOp .Not a pos) (notF f) := by
  obtain ⟨t, p, q⟩ := h.ex
  refine ⟨_, pt_not p, fun σ ρ stk H Q b ρ' hl h e k => ?_⟩
  unfold notF at e
  simp only [Option.bind_eq_some_iff] at e
  obtain ⟨⟨b1, ρ1⟩, e1, ef⟩ := e
  dsimp only at ef
  cases ef
  exact q σ ρ stk H _ b1 ρ' hl h e1 fun H1 l1 h1 => k H1 l1 h1
def andF (f g : EvT) : EvT := fun ρ => (f ρ).bind fun p => if p.1 then g p.2 else some (false, p.2)
def orF (f g : EvT) : EvT := fun ρ => (f ρ).bind fun p => if p.1 then some (true, p.2) else g p.2
theorem wx_and1 {f : EvT} (h : TX X a f) : WX X (.BoolOp .And [a] pos) f := by
  obtain ⟨t, p, q⟩ := h.ex
  exact ⟨t, pw_and1 p, q⟩
theorem wx_or1 {f : EvT} (h : TX X a f) : WX X (.BoolOp .Or [a] pos) f := by
  obtain ⟨t, p, q⟩ := h.ex
  exact ⟨t, pw_or1 p, q⟩
theorem wx_and {f g : EvT} {rest : List Expr} (h : TX X a f) (h2 : WX X (.BoolOp .And (b :: rest) pos) g) : WX X (.BoolOp .And (a :: b :: rest) pos) (andF f g) := by
  obtain ⟨t, p, q⟩ := h.ex
  obtain ⟨t2, p2, q2⟩ := h2.ex
  refine ⟨_, pw_and p p2, fun σ ρ stk H Q b ρ' hl h e k => ?_⟩
  unfold andF at e
  simp only [Option.bind_eq_some_iff] at e
  obtain ⟨⟨b1, ρ1⟩, e1, ef⟩ := e
  refine q σ ρ stk H _ b1 ρ1 hl h e1 fun H1 l1 h1 => ?_
  cases b1 with
  | true => exact iteT (q2 σ ρ1 stk H1 _ b ρ' (by omega) h1 ef fun H2 l2 h2 => k H2 (by omega) h2)
  | false => cases ef; exact iteF (k H1 l1 h1)
theorem wx_or {f g : EvT} {rest : List Expr} (h : TX X a f) (h2 : WX X (.BoolOp .Or (b :: rest) pos) g) : WX X (.BoolOp .Or (a :: b :: rest) pos) (orF f g) := by
  obtain ⟨t, p, q⟩ := h.ex
  obtain ⟨t2, p2, q2⟩ := h2.ex
  refine ⟨_, pw_or p p2, fun σ ρ stk H Q b ρ' hl h e k => ?_⟩
  unfold orF at e
  simp only [Option.bind_eq_some_iff] at e
  obtain ⟨⟨b1, ρ1⟩, e1, ef⟩ := e
  refine q σ ρ stk H _ b1 ρ1 hl h e1 fun H1 l1 h1 => ?_
  cases b1 with
  | false => exact iteF (q2 σ ρ1 stk H1 _ b ρ' (by omega) h1 ef fun H2 l2 h2 => k H2 (by omega) h2)
  | true => cases ef; exact iteT (k H1 l1 h1)
/-- and, or, not as values (of bools) -/
def asB (f : EvT) : EvX := fun ρ => (f ρ).bind fun p => some (.tmp (.val (.bool p.1)), p.2)
def andV (f g : EvX) : EvX := fun ρ => (boolF f ρ).bind fun p => if p.1 then g p.2 else some (.tmp (.val (.bool false)), p.2)
def orV (f g : EvX) : EvX := fun ρ => (boolF f ρ).bind fun p => if p.1 then some (.tmp (.val (.bool true)), p.2) else g p.2
def notV (f : EvX) : EvX := fun ρ => (boolF f ρ).bind fun p => some (.tmp (.val (.bool !p.1)), p.2)
theorem ex_one {op} (h : EX X a fa) : EX X (.BoolOp op [a] pos) fa := by
  obtain ⟨t, p, q⟩ := h.ex
  exact ⟨t, pe_one p, q⟩
theorem dx_bool_then {K : PySem.W.Frag} {ta : TE} (ha : DX K ta fa) {σ : St} {ρ : Rh} {stk : List Cell} {H : Hp} {R : V → Hp → Prop} {b : Bool} {ρ' : Rh} (hl : σ.length = ρ.length) (h : Hd K H (σ.zip ρ ++ stk)) (e : boolF fa ρ = some (b, ρ'))
    (k : ∀ H', ρ'.length = ρ.length → Hd K H' (σ.zip ρ' ++ stk) → R (.bl b) H') : ta σ H R := by
  unfold boolF at e
  simp only [Option.bind_eq_some_iff] at e
  obtain ⟨⟨o1, ρ1⟩, e1, e2⟩ := e
  refine ha σ ρ stk H _ o1 ρ1 hl h e1 fun v1 H1 l1 h1 a1 => ?_
  dsimp only at e2
  split at e2
  · cases e2
    have r : v1 = .bl b := (Hd.valOf (l := σ.zip ρ' ++ stk) h1).rn
    subst r
    exact k H1 l1 (Hd.tail h1)
  · cases e2
theorem ex_and {rest : List Expr} (h : EX X a fa) (h2 : EX X (.BoolOp .And (b :: rest) pos) fb) : EX X (.BoolOp .And (a :: b :: rest) pos) (andV fa fb) := by
  obtain ⟨t, p, q⟩ := h.ex
  obtain ⟨t2, p2, q2⟩ := h2.ex
  refine ⟨_, pe_and p p2, fun σ ρ stk H Q o ρ' hl h e k => ?_⟩
  unfold andV at e
  rw [Option.bind_eq_some_iff] at e
  obtain ⟨⟨b1, ρ1⟩, e1, ef⟩ := e
  refine dx_bool_then q hl h e1 fun H1 l1 h1 => ⟨b1, rfl, ?_⟩
  cases b1 with
  | true => exact iteT (q2 σ ρ1 stk H1 _ o ρ' (by omega) h1 ef fun v H2 l2 h2 => k v H2 (by omega) h2)
  | false => cases ef; exact iteF (k (.bl false) H1 l1 (h1.addVal (.bl false)) True.intro)
theorem ex_or {rest : List Expr} (h : EX X a fa) (h2 : EX X (.BoolOp .Or (b :: rest) pos) fb) : EX X (.BoolOp .Or (a :: b :: rest) pos) (orV fa fb) := by
  obtain ⟨t, p, q⟩ := h.ex
  obtain ⟨t2, p2, q2⟩ := h2.ex
  refine ⟨_, pe_or p p2, fun σ ρ stk H Q o ρ' hl h e k => ?_⟩
  unfold orV at e
  rw [Option.bind_eq_some_iff] at e
  obtain ⟨⟨b1, ρ1⟩, e1, ef⟩ := e
  refine dx_bool_then q hl h e1 fun H1 l1 h1 => ⟨b1, rfl, ?_⟩
  cases b1 with
  | false => exact iteF (q2 σ ρ1 stk H1 _ o ρ' (by omega) h1 ef fun v H2 l2 h2 => k v H2 (by omega) h2)
  | true => cases ef; exact iteT (k (.bl true) H1 l1 (h1.addVal (.bl true)) True.intro)
theorem ex_not (h : EX X a fa) : EX X (.UnaryOp .Not a pos) (notV fa) := by
  obtain ⟨t, p, q⟩ := h.ex
  refine ⟨_, pe_not p, fun σ ρ stk H Q o ρ' hl h e k => ?_⟩
  unfold notV at e
  rw [Option.bind_eq_some_iff] at e
  obtain ⟨⟨b1, ρ1⟩, e1, ef⟩ := e
  dsimp only at ef
  cases ef
  exact dx_bool_then q hl h e1 fun H1 l1 h1 => ⟨b1, rfl, k (.bl !b1) H1 l1 (h1.addVal (.bl _)) True.intro⟩
def ifF (t : EvT) (f g : EvX) : EvX := fun ρ => (t ρ).bind fun p => if p.1 then f p.2 else g p.2
theorem ex_if {ft : EvT} (ht : TX X c ft) (ha : EX X a fa) (hb : EX X b fb) : EX X (.IfExp c a b pos) (ifF ft fa fb) := by
  obtain ⟨t, p, q⟩ := ht.ex
  obtain ⟨t1, p1, q1⟩ := ha.ex
  obtain ⟨t2, p2, q2⟩ := hb.ex
  refine ⟨_, pe_ifExp p p1 p2, fun σ ρ stk H Q o ρ' hl h e k => ?_⟩
  unfold ifF at e
  rw [Option.bind_eq_some_iff] at e
  obtain ⟨⟨b1, ρ1⟩, e1, ef⟩ := e
  refine q σ ρ stk H _ b1 ρ1 hl h e1 fun H1 l1 h1 => ?_
  cases b1 with
  | true => exact iteT (q1 σ ρ1 stk H1 _ o ρ' (by omega) h1 ef fun v H2 l2 h2 => k v H2 (by omega) h2)
  | false => exact iteF (q2 σ ρ1 stk H1 _ o ρ' (by omega) h1 ef fun v H2 l2 h2 => k v H2 (by omega) h2)
/-- a chain of two comparisons -/
def chainF (g g' : Op2) (f h k : EvX) : EvX := fun ρ =>
  (f ρ).bind fun p => (h p.2).bind fun q => (cont q.2 p.1).bind fun d1 => (cont q.2 q.1).bind fun d2 => (g d1 d2).bind fun s => match s with
    | .val (.bool true) => (k q.2).bind fun r => (cont r.2 q.1).bind fun d2' => (cont r.2 r.1).bind fun d3 => (g' d2' d3).bind fun s' => some (.tmp s', r.2)
    | .val (.bool false) => some (.tmp (.val (.bool false)), q.2)
    | _ => none
theorem dx_chain {K : PySem.W.Frag} {r r' : R2} {g g' : Op2} {ta tb tc : TE} (ho : OpOk K r g) (ho' : OpOk K r' g') (ha : DX K ta fa) (hb : DX K tb fb) (hc : DX K tc fc) : DX K (tChain r r' ta tb tc) (chainF g g' fa fb fc) := fun σ ρ stk H Q o ρ' hl h e q => by
  unfold chainF at e
  simp only [Option.bind_eq_some_iff] at e
  obtain ⟨⟨o1, ρ1⟩, e1, ⟨o2, ρ2⟩, e2, d1, c1, d2, c2, s, es, ef⟩ := e
  refine ha σ ρ stk H _ o1 ρ1 hl h e1 fun v1 H1 l1 h1 a1 => ?_
  refine hb σ ρ1 (cellOf v1 o1 ++ stk) H1 _ o2 ρ2 (by omega) (h1.perm (List.perm_append_comm_assoc _ _ _)) e2 fun v2 H2 l2 h2 a2 => ?_
  have hm : ∀ c ∈ σ.zip ρ2, c ∈ cellOf v2 o2 ++ (σ.zip ρ2 ++ (cellOf v1 o1 ++ stk)) := fun c hc => List.mem_append_right _ (List.mem_append_left _ hc)
  refine ho _ H2 v1 v2 d1 d2 s _ h2 (cont_rn (by omega) h2 hm (fun c hc => List.mem_append_right _ (List.mem_append_right _ (List.mem_append_left _ hc))) a1 c1) (cont_rn (by omega) h2 hm (fun c hc => List.mem_append_left _ hc) a2 c2) es fun v H' hf => ?_
  split at ef
  · have r : v = .bl true := (Hd.valOf hf).rn
    refine ⟨true, r, iteT ?_⟩
    simp only [Option.bind_eq_some_iff] at ef
    obtain ⟨⟨o3, ρ3⟩, e3, d2', c2', d3, c3, s', es', ef⟩ := ef
    dsimp only at ef
    cases ef
    have hf' : Hd K H' (σ.zip ρ2 ++ (cellOf v2 o2 ++ stk)) := by
      refine (hf.tail.perm (List.perm_append_comm_assoc _ _ _)).sub ?_
      refine List.Sublist.append_left (List.Sublist.append_left (List.sublist_append_right _ _) _) _
    refine hc σ ρ2 (cellOf v2 o2 ++ stk) H' _ o3 ρ' (by omega) hf' e3 fun v3 H3 l3 h3 a3 => ?_
    have hm' : ∀ c ∈ σ.zip ρ', c ∈ cellOf v3 o3 ++ (σ.zip ρ' ++ (cellOf v2 o2 ++ stk)) := fun c hc => List.mem_append_right _ (List.mem_append_left _ hc)
    refine ho' _ H3 v2 v3 d2' d3 s' Q h3 (cont_rn (by omega) h3 hm' (fun c hc => List.mem_append_right _ (List.mem_append_right _ (List.mem_append_left _ hc))) a2 c2') (cont_rn (by omega) h3 hm' (fun c hc => List.mem_append_left _ hc) a3 c3) es' fun v' H4 hg => ?_
    exact q v' H4 (by omega) hg.res True.intro
  · have r : v = .bl false := (Hd.valOf hf).rn
    subst r
    dsimp only at ef
    cases ef
    exact ⟨false, rfl, iteF (q (.bl false) H' (by omega) hf.res True.intro)⟩
  · cases ef
end
end DL
namespace DL
open PySem PySem.Spec L2

section
variable {X : Cx} {pos p : Pos} {e a b c : Expr} {fa fb fc : EvX} {es : List Expr}
theorem ex_chain {op op' : CmpOp} {r r' : R2} {g g' : Op2} (ho : OpR X (compareOp op) r) (hg : OpOk X.K r g) (ho' : OpR X (compareOp op') r') (hg' : OpOk X.K r' g') (ha : EX X a fa) (hb : EX X b fb) (hc : EX X c fc)
    (hm : lastMarks [op, op'] [b, c] = false := by with_unfolding_all rfl) : EX X (.Compare a [op, op'] [b, c] pos) (chainF g g' fa fb fc) := by
  obtain ⟨ta, pa, qa⟩ := ha.ex
  obtain ⟨tb, pb, qb⟩ := hb.ex
  obtain ⟨tc, pc, qc⟩ := hc.ex
  exact ⟨_, pe_chain ho ho' pa pb pc hm, dx_chain hg hg' qa qb qc⟩
theorem tx_chain {op op' : CmpOp} {r r' : R2} {g g' : Op2} (ho : OpR X (compareOp op) r) (hg : OpOk X.K r g) (ho' : OpR X (compareOp op') r') (hg' : OpOk X.K r' g') (ha : EX X a fa) (hb : EX X b fb) (hc : EX X c fc)
    (hm : lastMarks [op, op'] [b, c] = false := by with_unfolding_all rfl) : TX X (.Compare a [op, op'] [b, c] pos) (boolF (chainF g g' fa fb fc)) := by
  obtain ⟨ta, pa, qa⟩ := ha.ex
  obtain ⟨tb, pb, qb⟩ := hb.ex
  obtain ⟨tc, pc, qc⟩ := hc.ex
  exact ⟨_, pt_chain ho ho' pa pb pc hm, dt_bool (dx_chain hg hg' qa qb qc)⟩
end

/-! ### lists of operands -/
abbrev EvA := Rh → Option (List Opd × Rh)
def cellsOf : List V → List Opd → List Cell
  | v :: vs, o :: os => cellOf v o ++ cellsOf vs os
  | _, _ => []
def AtOs (σ : St) : List V → List Opd → Prop
  | [], [] => True
  | v :: vs, o :: os => AtO σ v o ∧ AtOs σ vs os
  | _, _ => False
theorem AtOs.len {σ : St} : ∀ {vs : List V} {os : List Opd}, AtOs σ vs os → vs.length = os.length
  | [], [], _ => rfl
  | _ :: vs, _ :: os, h => by rw [List.length_cons, List.length_cons, AtOs.len h.2]
  | [], _ :: _, h => h.elim
  | _ :: _, [], h => h.elim
def DAx (K : PySem.W.Frag) (ta : TA) (f : EvA) : Prop :=
  ∀ (σ : St) (ρ : Rh) (stk : List Cell) (H : Hp) (Q : List V → Hp → Prop) (os : List Opd) (ρ' : Rh), σ.length = ρ.length → Hd K H (σ.zip ρ ++ stk) → f ρ = some (os, ρ') →
    (∀ vs H', ρ'.length = ρ.length → Hd K H' (cellsOf vs os ++ (σ.zip ρ' ++ stk)) → AtOs σ vs os → Q vs H') → ta σ H Q
structure AX (X : Cx) (es : List Expr) (f : EvA) : Prop where
  ex : ∃ ta, PA X es ta ∧ DAx X.K ta f
  len : ∀ ρ os ρ', f ρ = some (os, ρ') → os.length = es.length
@[simp] def nilA : EvA := fun ρ => some ([], ρ)
def consA (f : EvX) (g : EvA) : EvA := fun ρ => (f ρ).bind fun p => (g p.2).bind fun q => some (p.1 :: q.1, q.2)
theorem perm_rot (A B C E : List Cell) : (A ++ (B ++ (C ++ E))).Perm ((C ++ A) ++ (B ++ E)) := by
  refine ((List.perm_append_comm_assoc B C E).append_left A).trans ?_
  rw [List.append_assoc]
  exact List.perm_append_comm_assoc A C (B ++ E)
theorem ax_nil {X : Cx} : AX X [] nilA := ⟨⟨_, pa_nil, fun σ ρ stk H Q os ρ' hl h e q => by
  cases e
  exact q [] H rfl h True.intro⟩, fun ρ os ρ' e => by cases e; rfl⟩
theorem ax_cons {X : Cx} {e : Expr} {es : List Expr} {f : EvX} {g : EvA} (h : EX X e f) (h2 : AX X es g) (hs : starEach (e :: es) X.env = (false, eval e X.env) :: starEach es X.env := by rfl) : AX X (e :: es) (consA f g) := by
  obtain ⟨t, p, q⟩ := h.ex
  obtain ⟨t2, p2, q2⟩ := h2.ex
  refine ⟨⟨_, pa_cons p p2 hs, fun σ ρ stk H Q os ρ' hl h e k => ?_⟩, fun ρ os ρ' e => ?_⟩
  · unfold consA at e
    simp only [Option.bind_eq_some_iff] at e
    obtain ⟨⟨o1, ρ1⟩, e1, ⟨os2, ρ2⟩, e2, ef⟩ := e
    dsimp only at ef
    cases ef
    refine q σ ρ stk H _ o1 ρ1 hl h e1 fun v1 H1 l1 h1 a1 => ?_
    refine q2 σ ρ1 (cellOf v1 o1 ++ stk) H1 _ os2 ρ' (by omega) (h1.perm (List.perm_append_comm_assoc _ _ _)) e2 fun vs H2 l2 h2 a2 => ?_
    exact k (v1 :: vs) H2 (by omega) (h2.perm (perm_rot _ _ _ _)) ⟨a1, a2⟩
  · unfold consA at e
    simp only [Option.bind_eq_some_iff] at e
    obtain ⟨⟨o1, ρ1⟩, e1, ⟨os2, ρ2⟩, e2, ef⟩ := e
    dsimp only at ef
    cases ef
    rw [List.length_cons, List.length_cons, h2.len _ _ _ e2]

/-! ### operands made plain values: what is owned is shared from now on -/
@[simp] def frzO : Opd → Rh → Option (D × Rh)
  | .tmp (.val d), ρ => some (d, ρ)
  | .tmp (.own d), ρ => some (d, ρ)
  | .tmp .no, _ => none
  | .slot i, ρ => match ρ[i]? with
    | some (.own d) => some (d, ρ.set i (.val d))
    | some (.val d) => some (d, ρ)
    | _ => none
section
variable {K : PySem.W.Frag} {H : Hp} {σ : St} {ρ : Rh} {stk : List Cell}
theorem frzO_ok {v : V} {o : Opd} {d : D} {ρ' : Rh} (hl : σ.length = ρ.length) (h : Hd K H (cellOf v o ++ (σ.zip ρ ++ stk))) (a : AtO σ v o) (e : frzO o ρ = some (d, ρ')) : Hd K H ((some v, .val d) :: (σ.zip ρ' ++ stk)) ∧ ρ'.length = ρ.length := by
  cases o with
  | tmp s =>
    cases s with
    | no => cases e
    | val x => cases e; exact ⟨h, rfl⟩
    | own x => cases e; exact ⟨Hd.frz h, rfl⟩
  | slot i =>
    dsimp only [frzO] at e
    have a' : σ[i]? = some (some v) := a
    have h' : Hd K H (σ.zip ρ ++ stk) := h
    split at e
    · rename_i x hx
      cases e
      obtain ⟨c, q1, q2⟩ := zip_at hl hx
      rw [a'] at q1
      cases q1
      have h1 := (h'.take q2 a').frz.dup
      have hl' : σ.length = (ρ.set i Sl.no).length := by rw [List.length_set]; exact hl
      have hi : i < ρ.length := (List.getElem?_eq_some_iff.mp hx).1
      have h2 := Hd.put (σ := σ) (ρ := ρ.set i .no) (i := i) (t := .no) (stk := (some v, .val d) :: stk) (h1.perm (List.Perm.cons _ (List.perm_middle.symm))) hl' (List.getElem?_set_self hi) a'
      rw [List.set_set] at h2
      exact ⟨h2.perm List.perm_middle, List.length_set⟩
    · rename_i x hx
      cases e
      obtain ⟨c, q1, q2⟩ := zip_at hl hx
      rw [a'] at q1
      cases q1
      obtain ⟨w, ew, r⟩ := h'.ok _ (List.mem_append_left _ (List.mem_of_getElem? q2))
      cases ew
      exact ⟨h'.addVal r, rfl⟩
    · cases e
end
def valCells : List V → List D → List Cell
  | v :: vs, d :: ds => (some v, .val d) :: valCells vs ds
  | _, _ => []
@[simp] def frzAll : List Opd → Rh → Option (List D × Rh)
  | [], ρ => some ([], ρ)
  | o :: os, ρ => (frzO o ρ).bind fun p => (frzAll os p.2).bind fun q => some (p.1 :: q.1, q.2)
section
variable {K : PySem.W.Frag} {H : Hp} {σ : St} {stk : List Cell}
theorem frzAll_ok : ∀ {vs : List V} {os : List Opd} {ds : List D} {ρ ρ' : Rh} {stk : List Cell}, σ.length = ρ.length → Hd K H (cellsOf vs os ++ (σ.zip ρ ++ stk)) → AtOs σ vs os → frzAll os ρ = some (ds, ρ') → Hd K H (valCells vs ds ++ (σ.zip ρ' ++ stk)) ∧ ρ'.length = ρ.length ∧ vs.length = ds.length
  | [], [], ds, ρ, ρ', stk, hl, h, _, e => by cases e; exact ⟨h, rfl, rfl⟩
  | [], _ :: _, _, _, _, _, _, _, a, _ => a.elim
  | _ :: _, [], _, _, _, _, _, _, a, _ => a.elim
  | v :: vs, o :: os, ds, ρ, ρ', stk, hl, h, a, e => by
    unfold frzAll at e
    simp only [Option.bind_eq_some_iff] at e
    obtain ⟨⟨d1, ρ1⟩, e1, ⟨ds2, ρ2⟩, e2, ef⟩ := e
    dsimp only at ef
    cases ef
    have h0 : Hd K H ((cellOf v o ++ cellsOf vs os) ++ (σ.zip ρ ++ stk)) := h
    have h1 : Hd K H (cellOf v o ++ (σ.zip ρ ++ (cellsOf vs os ++ stk))) := by
      rw [List.append_assoc] at h0
      exact h0.perm ((List.perm_append_comm_assoc _ _ _).append_left _)
    obtain ⟨h2, l2⟩ := frzO_ok hl h1 a.1 e1
    have h3 : Hd K H (cellsOf vs os ++ (σ.zip ρ1 ++ ((some v, .val d1) :: stk))) := by
      refine h2.perm ?_
      have q : ((some v, Sl.val d1) :: (σ.zip ρ1 ++ (cellsOf vs os ++ stk))).Perm ((some v, Sl.val d1) :: (cellsOf vs os ++ (σ.zip ρ1 ++ stk))) := List.Perm.cons _ (List.perm_append_comm_assoc _ _ _)
      refine q.trans (List.perm_middle.symm.trans ((List.perm_middle.symm).append_left _))
    obtain ⟨h4, l4, l5⟩ := frzAll_ok (by omega) h3 a.2 e2
    refine ⟨h4.perm ?_, by omega, by rw [List.length_cons, List.length_cons, l5]⟩
    exact ((List.perm_middle).append_left _).trans List.perm_middle
theorem ownA_valCells : ∀ {vs : List V} {ds : List D} {l : List Cell}, ownA (valCells vs ds ++ l) = ownA l
  | [], _, _ => rfl
  | _ :: _, [], _ => rfl
  | v :: vs, d :: ds, l => by
    show ownA ((some v, .val d) :: (valCells vs ds ++ l)) = ownA l
    rw [ownA_val]
    exact ownA_valCells
theorem Hd.vals : ∀ {vs : List V} {ds : List D} {l : List Cell}, vs.length = ds.length → Hd K H (valCells vs ds ++ l) → DnA K (ownA l) H vs ds
  | [], [], _, _, _ => .nil
  | [], _ :: _, _, e, _ => by simp at e
  | _ :: _, [], _, e, _ => by simp at e
  | v :: vs, d :: ds, l, e, h => by
    have h' : Hd K H ((some v, .val d) :: (valCells vs ds ++ l)) := h
    refine .cons ?_ (Hd.vals (by simpa using e) h'.tail)
    have q := h'.valOf
    rw [ownA_valCells] at q
    exact q
theorem Hd.noVals : ∀ {vs : List V} {ds : List D} {l : List Cell}, Hd K H (valCells vs ds ++ l) → Hd K H l := fun {vs ds l} h => h.sub (List.sublist_append_right _ _)
end
section
variable {X : Cx} {pos : Pos} {es : List Expr} {f : EvA}
/-- a display -/
def tupF (f : EvA) : EvX := fun ρ => (f ρ).bind fun p => (frzAll p.1 p.2).bind fun q => some (.tmp (.val (.tuple q.1)), q.2)
def lstF (f : EvA) : EvX := fun ρ => (f ρ).bind fun p => (frzAll p.1 p.2).bind fun q => some (.tmp (.own (.list q.1)), q.2)
theorem line1000 {n : Nat} (h : n ≤ 1000) : n ≤ sizeLine := Nat.le_of_lt (small1000 h)
theorem ex_tup {k : Nat} (h : AX X es f) (hn : es.length ≤ 1000 := by decide) : EX X (.Tuple es k pos) (tupF f) := by
  obtain ⟨t, p, q⟩ := h.ex
  refine ⟨_, pe_tup p, fun σ ρ stk H Q o ρ' hl hd e k => ?_⟩
  unfold tupF at e
  simp only [Option.bind_eq_some_iff] at e
  obtain ⟨⟨os, ρ1⟩, e1, ⟨ds, ρ2⟩, e2, ef⟩ := e
  dsimp only at ef
  cases ef
  refine q σ ρ stk H _ os ρ1 hl hd e1 fun vs H1 l1 h1 a1 => ?_
  obtain ⟨h2, l2, l3⟩ := frzAll_ok (by omega) h1 a1 e2
  have z : vs.length ≤ sizeLine := line1000 (by rw [a1.len, h.len _ _ _ e1]; exact hn)
  refine ⟨z, fun p np => ?_⟩
  exact k (.ref p) _ (by omega) (h2.noVals.newT np (h2.vals l3) (l3 ▸ z)) True.intro
theorem ex_lst (h : AX X es f) (hn : es.length ≤ 1000 := by decide) : EX X (.List es pos) (lstF f) := by
  obtain ⟨t, p, q⟩ := h.ex
  refine ⟨_, pe_lst p, fun σ ρ stk H Q o ρ' hl hd e k => ?_⟩
  unfold lstF at e
  simp only [Option.bind_eq_some_iff] at e
  obtain ⟨⟨os, ρ1⟩, e1, ⟨ds, ρ2⟩, e2, ef⟩ := e
  dsimp only at ef
  cases ef
  refine q σ ρ stk H _ os ρ1 hl hd e1 fun vs H1 l1 h1 a1 => ?_
  obtain ⟨h2, l2, l3⟩ := frzAll_ok (by omega) h1 a1 e2
  have z : vs.length ≤ sizeLine := line1000 (by rw [a1.len, h.len _ _ _ e1]; exact hn)
  refine ⟨z, fun p np => ?_⟩
  exact k (.ref p) _ (by omega) (h2.noVals.newL np (h2.vals l3) (l3 ▸ z)) True.intro
end

/-! ### built-ins by values -/
def RnA (K : PySem.W.Frag) (W : List Addr) (H : Hp) : List V → List D → Prop
  | [], [] => True
  | v :: vs, d :: ds => Rn K W H v d ∧ RnA K W H vs ds
  | _, _ => False
@[simp] def conts (ρ : Rh) : List Opd → Option (List D)
  | [] => some []
  | o :: os => (cont ρ o).bind fun d => (conts ρ os).bind fun ds => some (d :: ds)
section
variable {K : PySem.W.Frag} {H : Hp} {σ : St} {ρ : Rh}
theorem conts_rn {l : List Cell} (hl : σ.length = ρ.length) (h : Hd K H l) (hs : ∀ c ∈ σ.zip ρ, c ∈ l) : ∀ {vs : List V} {os : List Opd} {ds : List D}, (∀ c ∈ cellsOf vs os, c ∈ l) → AtOs σ vs os → conts ρ os = some ds → RnA K (ownA l) H vs ds
  | [], [], ds, _, _, e => by cases e; exact True.intro
  | [], _ :: _, _, _, a, _ => a.elim
  | _ :: _, [], _, _, a, _ => a.elim
  | v :: vs, o :: os, ds, hc, a, e => by
    unfold conts at e
    simp only [Option.bind_eq_some_iff] at e
    obtain ⟨d1, e1, ds2, e2, ef⟩ := e
    cases ef
    exact ⟨cont_rn hl h hs (fun c hm => hc c (List.mem_append_left _ hm)) a.1 e1, conts_rn hl h hs (fun c hm => hc c (List.mem_append_right _ hm)) a.2 e2⟩
end
abbrev OpN := List D → Option Sl
def CbOk (K : PySem.W.Frag) (r : List V → Hp → VK → Prop) (g : OpN) : Prop :=
  ∀ (l : List Cell) (H : Hp) (xs : List V) (ds : List D) (s : Sl) (Q : VK), Hd K H l → RnA K (ownA l) H xs ds → g ds = some s → (∀ v H', Hd K H' ((some v, s) :: l) → Q v H') → r xs H Q
def cbF (g : OpN) (f : EvA) : EvX := fun ρ => (f ρ).bind fun p => (conts p.2 p.1).bind fun ds => (g ds).bind fun s => some (.tmp s, p.2)
section
variable {X : Cx} {x : Str} {p pos : Pos} {e : Expr} {es : List Expr} {f : EvA} {id T : String} {r : List V → Hp → VK → Prop} {g : OpN}
theorem dx_cb {K : PySem.W.Frag} {t : TA} (hg : CbOk K r g) (ha : DAx K t f) : DX K (tCB r t) (cbF g f) := fun σ ρ stk H Q o ρ' hl h e q => by
  unfold cbF at e
  simp only [Option.bind_eq_some_iff] at e
  obtain ⟨⟨os, ρ1⟩, e1, ds, c1, s, es, ef⟩ := e
  dsimp only at ef
  cases ef
  refine ha σ ρ stk H _ os ρ' hl h e1 fun vs H1 l1 h1 a1 => ?_
  refine hg _ H1 vs ds s Q h1 (conts_rn (by omega) h1 (fun c hc => List.mem_append_right _ (List.mem_append_left _ hc)) (fun c hc => List.mem_append_left _ hc) a1 c1) es fun v H' hf => ?_
  exact q v H' l1 (Hd.sub (l' := (some v, s) :: (σ.zip ρ' ++ stk)) hf (List.Sublist.cons_cons _ (List.sublist_append_right _ _))) True.intro
theorem ex_callB (hc : CallR X (.builtin id) r) (hok : CbOk X.K r g) (hg : Gl X x) (hm : X.mg x = none) (hv : bootBuiltins x = some (.builtin id)) (ha : AX X (e :: es) f) (hn : x ≠ "__name__" := by decide) (hdb : (x == ("__debug__" : Str)) = false := by decide)
    (he : starEach (e :: es) X.env = (false, eval e X.env) :: starEach es X.env := by rfl) (hpl : (backTo pos (starEach es X.env)).any (·.1) = false := by rfl) : EX X (.Call (.Name x p) (e :: es) [] pos) (cbF g f) := by
  obtain ⟨t, p, q⟩ := ha.ex
  exact ⟨_, pe_callB hc hg hm hv p hn hdb he hpl, dx_cb hok q⟩
theorem ex_callTy (hc : CallR X (.type T) r) (hok : CbOk X.K r g) (hg : Gl X x) (hm : X.mg x = none) (hv : bootBuiltins x = some (.type T)) (ha : AX X (e :: es) f) (hn : x ≠ "__name__" := by decide) (hdb : (x == ("__debug__" : Str)) = false := by decide)
    (he : starEach (e :: es) X.env = (false, eval e X.env) :: starEach es X.env := by rfl) (hpl : (backTo pos (starEach es X.env)).any (·.1) = false := by rfl) : EX X (.Call (.Name x p) (e :: es) [] pos) (cbF g f) := by
  obtain ⟨t, p, q⟩ := ha.ex
  exact ⟨_, pe_callTy hc hg hm hv p hn hdb he hpl, dx_cb hok q⟩
end
end DL
namespace DL
open PySem PySem.Spec L2

/-! ### slices -/
abbrev EvO := Rh → Option (Option Int × Rh)
def DO (K : PySem.W.Frag) (t : TO) (f : EvO) : Prop :=
  ∀ (σ : St) (ρ : Rh) (stk : List Cell) (H : Hp) (Q : Option Int → Hp → Prop) (i : Option Int) (ρ' : Rh), σ.length = ρ.length → Hd K H (σ.zip ρ ++ stk) → f ρ = some (i, ρ') →
    (∀ H', ρ'.length = ρ.length → Hd K H' (σ.zip ρ' ++ stk) → Q i H') → t σ H Q
structure OX (X : Cx) (e : Option Expr) (f : EvO) : Prop where
  ex : ∃ t, PO X e t ∧ DO X.K t f
@[simp] def noO : EvO := fun ρ => some (none, ρ)
def someO (f : EvX) : EvO := fun ρ => (f ρ).bind fun p => match p.1 with | .tmp (.val (.int i)) => some (some i, p.2) | _ => none
section
variable {X : Cx} {pos p2 : Pos} {e : Expr} {f : EvX} {lo hi : Option Expr} {fl fh : EvO}
theorem ox_none : OX X none noO := ⟨_, po_none, fun σ ρ stk H Q i ρ' hl h e k => by cases e; exact k H rfl h⟩
theorem ox_some (h : EX X e f) : OX X (some e) (someO f) := by
  obtain ⟨t, p, q⟩ := h.ex
  refine ⟨_, po_some p, fun σ ρ stk H Q i ρ' hl h e k => ?_⟩
  unfold someO at e
  rw [Option.bind_eq_some_iff] at e
  obtain ⟨⟨o1, ρ1⟩, e1, e2⟩ := e
  refine q σ ρ stk H _ o1 ρ1 hl h e1 fun v1 H1 l1 h1 a1 => ?_
  dsimp only at e2
  split at e2
  · cases e2
    rename_i j
    have r : v1 = .int j := (Hd.valOf (l := σ.zip ρ' ++ stk) h1).rn
    exact ⟨j, r, k H1 l1 (Hd.tail h1)⟩
  · cases e2
def SlOk (K : PySem.W.Frag) (r : V → Option Int → Option Int → Hp → VK → Prop) (g : D → Option Int → Option Int → Option Sl) : Prop :=
  ∀ (l : List Cell) (H : Hp) (x : V) (d : D) (lo hi : Option Int) (s : Sl) (Q : VK), Hd K H l → Rn K (ownA l) H x d → g d lo hi = some s → (∀ v H', Hd K H' ((some v, s) :: l) → Q v H') → r x lo hi H Q
def slF (g : D → Option Int → Option Int → Option Sl) (f : EvX) (fl fh : EvO) : EvX := fun ρ =>
  (f ρ).bind fun p => (fl p.2).bind fun q => (fh q.2).bind fun r => (cont r.2 p.1).bind fun d => (g d q.1 r.1).bind fun s => some (.tmp s, r.2)
theorem ex_slice {r : V → Option Int → Option Int → Hp → VK → Prop} {g : D → Option Int → Option Int → Option Sl} (hr : SlR X r) (hg : SlOk X.K r g) (he : EX X e f) (hlo : OX X lo fl) (hhi : OX X hi fh) : EX X (.Subscript e (.Slice lo hi none p2) pos) (slF g f fl fh) := by
  obtain ⟨t, p, q⟩ := he.ex
  obtain ⟨t1, p1, q1⟩ := hlo.ex
  obtain ⟨t2, p2, q2⟩ := hhi.ex
  refine ⟨_, pe_slice hr p p1 p2, fun σ ρ stk H Q o ρ' hl h e k => ?_⟩
  unfold slF at e
  simp only [Option.bind_eq_some_iff] at e
  obtain ⟨⟨o1, ρ1⟩, e1, ⟨i1, ρ2⟩, e2, ⟨i2, ρ3⟩, e3, d, c, s, es, ef⟩ := e
  dsimp only at ef
  cases ef
  refine q σ ρ stk H _ o1 ρ1 hl h e1 fun v1 H1 l1 h1 a1 => ?_
  refine q1 σ ρ1 (cellOf v1 o1 ++ stk) H1 _ i1 ρ2 (by omega) (h1.perm (List.perm_append_comm_assoc _ _ _)) e2 fun H2 l2 h2 => ?_
  refine q2 σ ρ2 (cellOf v1 o1 ++ stk) H2 _ i2 ρ' (by omega) h2 e3 fun H3 l3 h3 => ?_
  refine hg _ H3 v1 d i1 i2 s Q h3 (cont_rn (by omega) h3 (fun c hc => List.mem_append_left _ hc) (fun c hc => List.mem_append_right _ (List.mem_append_left _ hc)) a1 c) es fun v H' hf => ?_
  exact k v H' (by omega) (Hd.res (B := []) hf) True.intro
end

/-! ### methods of built-in things -/
@[simp] def tyD (T : String) : D → Bool
  | .str _ => T == "str"
  | .list _ => T == "list"
  | _ => false
theorem tyD_ok {K : PySem.W.Frag} {W : List Addr} {H : Hp} {T : String} {x : V} {d : D} (h : Rn K W H x d) (e : tyD T d = true) : tyV K T x H := by
  cases d with
  | str z =>
    cases h
    have q : T = "str" := by simpa [tyD] using e
    exact q
  | list ds => obtain ⟨a, xs, rfl, r, _⟩ := h; exact .inl ⟨by simpa [tyD] using e, xs, r⟩
  | _ => cases e
def MtOk (K : PySem.W.Frag) (r : V → List V → Hp → VK → Prop) (g : D → List D → Option Sl) : Prop :=
  ∀ (l : List Cell) (H : Hp) (x : V) (xs : List V) (d : D) (ds : List D) (s : Sl) (Q : VK), Hd K H l → Rn K (ownA l) H x d → RnA K (ownA l) H xs ds → g d ds = some s → (∀ v H', Hd K H' ((some v, s) :: l) → Q v H') → r x xs H Q
def bmF (T : String) (g : D → List D → Option Sl) (f : EvX) (fs : EvA) : EvX := fun ρ =>
  (f ρ).bind fun p => (cont p.2 p.1).bind fun d0 => if tyD T d0 then (fs p.2).bind fun q => (cont q.2 p.1).bind fun d => (conts q.2 q.1).bind fun ds => (g d ds).bind fun s => some (.tmp s, q.2) else none
section
variable {X : Cx} {apos cpos : Pos} {o e : Expr} {es : List Expr} {f : EvX} {fs : EvA} {T id : String} {name : Str} {r : V → List V → Hp → VK → Prop} {g : D → List D → Option Sl}
theorem dx_bm {K : PySem.W.Frag} {to : TE} {t : TA} (hg : MtOk K r g) (ho : DX K to f) (ha : DAx K t fs) : DX K (tBM K T r to t) (bmF T g f fs) := fun σ ρ stk H Q o ρ' hl h e k => by
  unfold bmF at e
  simp only [Option.bind_eq_some_iff] at e
  obtain ⟨⟨o1, ρ1⟩, e1, d0, c0, e⟩ := e
  split at e
  · rename_i ty
    simp only [Option.bind_eq_some_iff] at e
    obtain ⟨⟨os, ρ2⟩, e2, d, c1, ds, c2, s, es, ef⟩ := e
    dsimp only at ef
    cases ef
    refine ho σ ρ stk H _ o1 ρ1 hl h e1 fun v1 H1 l1 h1 a1 => ?_
    refine ⟨tyD_ok (cont_rn (by omega) h1 (fun c hc => List.mem_append_right _ (List.mem_append_left _ hc)) (fun c hc => List.mem_append_left _ hc) a1 c0) ty, ?_⟩
    refine ha σ ρ1 (cellOf v1 o1 ++ stk) H1 _ os ρ' (by omega) (h1.perm (List.perm_append_comm_assoc _ _ _)) e2 fun vs H2 l2 h2 a2 => ?_
    have hm : ∀ c ∈ σ.zip ρ', c ∈ cellsOf vs os ++ (σ.zip ρ' ++ (cellOf v1 o1 ++ stk)) := fun c hc => List.mem_append_right _ (List.mem_append_left _ hc)
    refine hg _ H2 v1 vs d ds s Q h2 (cont_rn (by omega) h2 hm (fun c hc => List.mem_append_right _ (List.mem_append_right _ (List.mem_append_left _ hc))) a1 c1) (conts_rn (by omega) h2 hm (fun c hc => List.mem_append_left _ hc) a2 c2) es fun v H' hf => ?_
    exact k v H' (by omega) hf.res True.intro
  · cases e
theorem ex_bm (pa : PlainAttrs T) (slot : Slot T name id) (hty : typeOf (.builtin id) = pure (.type "method_descriptor")) (hm : MtR X id r) (hg : MtOk X.K r g) (ho : EX X o f) (ha : AX X (e :: es) fs)
    (hbase : attributeBase o name X.env (eval o X.env) = eval o X.env := by rfl)
    (hfew : ((backTo cpos (starEach (e :: es) X.env)).all (fun x => !x.1) && (backToKw cpos (keywordEach [] X.env)).all (fun x => x.1.isSome)
      && decide ((e :: es).length + ([] : List Keyword).length + (if ([] : List Keyword).isEmpty then 0 else 1) < 30)) = true := by rfl)
    (hline : (apos.endLine == cpos.line) = true := by rfl) (hs : starEach (e :: es) X.env = (false, eval e X.env) :: starEach es X.env := by rfl) (hplain : (backTo cpos (starEach es X.env)).any (·.1) = false := by rfl) :
    EX X (.Call (.Attribute o name apos) (e :: es) [] cpos) (bmF T g f fs) := by
  obtain ⟨t, p, q⟩ := ho.ex
  obtain ⟨t2, p2, q2⟩ := ha.ex
  exact ⟨_, pe_bm pa slot hty hm p p2 hbase hfew hline hs hplain, dx_bm hg q q2⟩
/-- a method that changes what its slot owns -/
def MuOk (K : PySem.W.Frag) (r : V → List V → Hp → VK → Prop) (g : D → List D → Option (D × Sl)) : Prop :=
  ∀ (l : List Cell) (H : Hp) (a : Addr) (xs : List V) (d : D) (ds : List D) (d' : D) (s : Sl) (Q : VK), xs.length = ds.length → Hd K H (valCells xs ds ++ ((some (.ref a), .own d) :: l)) → g d ds = some (d', s) →
    (∀ v H', Hd K H' ((some v, s) :: (some (.ref a), .own d') :: l) → Q v H') → r (.ref a) xs H Q
def tyM (T : String) : D → Bool
  | .list _ => T == "list"
  | .dict _ => T == "dict"
  | _ => false
def muF (T : String) (i : Nat) (g : D → List D → Option (D × Sl)) (fs : EvA) : EvX := fun ρ =>
  match ρ[i]? with
  | some (.own d0) => if tyM T d0 then (fs ρ).bind fun p => (frzAll p.1 p.2).bind fun q => match q.2[i]? with
      | some (.own d) => (g d q.1).bind fun r => some (.tmp r.2, q.2.set i (.own r.1))
      | _ => none
    else none
  | _ => none
theorem tyM_ok {K : PySem.W.Frag} {W : List Addr} {H : Hp} {T : String} {a : Addr} {d : D} (h : Ow K W H a d) (e : tyM T d = true) : tyV K T (.ref a) H := by
  cases d with
  | list ds => obtain ⟨xs, r, _⟩ := h; exact .inl ⟨by simpa [tyM] using e, xs, .inl (.inl r)⟩
  | dict es => obtain ⟨kvs, r, _⟩ := h; exact .inr (.inr (.inl ⟨by simpa [tyM] using e, .inl ⟨kvs, r⟩⟩))
  | _ => cases e
theorem dx_mu {K : PySem.W.Frag} {i : Nat} {t : TA} {g : D → List D → Option (D × Sl)} (hg : MuOk K r g) (ha : DAx K t fs) : DX K (tBM K T r (tVar i) t) (muF T i g fs) := fun σ ρ stk H Q o ρ' hl h e k => by
  unfold muF at e
  split at e
  · rename_i d0 hd
    split at e
    · rename_i ty
      simp only [Option.bind_eq_some_iff] at e
      obtain ⟨⟨os, ρ1⟩, e1, ⟨ds, ρ2⟩, e2, e⟩ := e
      dsimp only at e e2
      split at e
      · rename_i d hd2
        simp only [Option.bind_eq_some_iff] at e
        obtain ⟨⟨d', s⟩, eg, ef⟩ := e
        dsimp only at ef
        cases ef
        obtain ⟨c, q1, q2⟩ := zip_at hl hd
        obtain ⟨a, ev, r⟩ := h.ok _ (List.mem_append_left _ (List.mem_of_getElem? q2))
        have ev' : c = some (.ref a) := ev
        subst ev'
        refine ⟨.ref a, q1, tyM_ok r ty, ?_⟩
        refine ha σ ρ stk H _ os ρ1 hl h e1 fun vs H1 l1 h1 a1 => ?_
        obtain ⟨h2, l2, l3⟩ := frzAll_ok (by omega) h1 a1 e2
        obtain ⟨c, z1, z2⟩ := zip_at (σ := σ) (ρ := ρ2) (by omega) hd2
        rw [q1] at z1
        cases z1
        have h3 := (h2.perm (List.perm_append_comm_assoc _ _ _)).take z2 q1
        have h4 : Hd K H1 (valCells vs ds ++ ((some (.ref a), .own d) :: (σ.zip (ρ2.set i .no) ++ stk))) := h3.perm (by
          refine (List.Perm.cons _ (List.perm_append_comm_assoc _ _ _)).trans ?_
          exact List.perm_middle.symm)
        refine hg _ H1 a vs d ds d' s Q l3 h4 eg fun v H' hf => ?_
        have hi : i < ρ2.length := (List.getElem?_eq_some_iff.mp hd2).1
        have h5 := Hd.put (σ := σ) (ρ := ρ2.set i .no) (i := i) (t := .no) (c := some (.ref a)) (s := .own d') (stk := (some v, s) :: stk) (hf.perm (by
          refine (List.Perm.swap _ _ _).trans (List.Perm.cons _ ?_)
          exact List.perm_middle.symm)) (by rw [List.length_set]; omega) (List.getElem?_set_self hi) q1
        rw [List.set_set] at h5
        exact k v H' (by rw [List.length_set]; omega) (h5.perm List.perm_middle) True.intro
      · cases e
    · cases e
  · cases e
theorem ex_mu {i : Nat} {x : Str} {xpos : Pos} {g : D → List D → Option (D × Sl)} (pa : PlainAttrs T) (slot : Slot T name id) (hty : typeOf (.builtin id) = pure (.type "method_descriptor")) (hm : MtR X id r) (hg : MuOk X.K r g) (ho : PE X (.Name x xpos) (tVar i)) (ha : AX X (e :: es) fs)
    (hbase : attributeBase (.Name x xpos) name X.env (eval (.Name x xpos) X.env) = eval (.Name x xpos) X.env := by rfl)
    (hfew : ((backTo cpos (starEach (e :: es) X.env)).all (fun x => !x.1) && (backToKw cpos (keywordEach [] X.env)).all (fun x => x.1.isSome)
      && decide ((e :: es).length + ([] : List Keyword).length + (if ([] : List Keyword).isEmpty then 0 else 1) < 30)) = true := by rfl)
    (hline : (apos.endLine == cpos.line) = true := by rfl) (hs : starEach (e :: es) X.env = (false, eval e X.env) :: starEach es X.env := by rfl) (hplain : (backTo cpos (starEach es X.env)).any (·.1) = false := by rfl) :
    EX X (.Call (.Attribute (.Name x xpos) name apos) (e :: es) [] cpos) (muF T i g fs) := by
  obtain ⟨t2, p2, q2⟩ := ha.ex
  exact ⟨_, pe_bm pa slot hty hm ho p2 hbase hfew hline hs hplain, dx_mu hg q2⟩
theorem dax_nil {K : PySem.W.Frag} : DAx K tNil nilA := fun σ ρ stk H Q os ρ' hl h e q => by
  cases e
  exact q [] H rfl h True.intro
theorem ex_mu0 {i : Nat} {x : Str} {xpos : Pos} {g : D → List D → Option (D × Sl)} (pa : PlainAttrs T) (slot : Slot T name id) (hty : typeOf (.builtin id) = pure (.type "method_descriptor")) (hm : MtR X id r) (hg : MuOk X.K r g) (ho : PE X (.Name x xpos) (tVar i))
    (hbase : attributeBase (.Name x xpos) name X.env (eval (.Name x xpos) X.env) = eval (.Name x xpos) X.env := by rfl) (hline : (apos.endLine == cpos.line) = true := by rfl) : EX X (.Call (.Attribute (.Name x xpos) name apos) [] [] cpos) (muF T i g nilA) := by
  refine ⟨_, pe_bm0 pa slot hty hm ho hbase hline, ?_⟩
  exact dx_mu (T := T) (i := i) (t := tNil) hg dax_nil
end
end DL
namespace DL
open PySem PySem.Spec L2

/-! ### stores to slots; M: the slots that are never stored to -/
def OkS (M : Nat → Prop) (σ σ' : St) : Prop := σ'.length = σ.length ∧ ∀ i, M i → σ'[i]? = σ[i]?
theorem OkS.refl {M : Nat → Prop} {σ : St} : OkS M σ σ := ⟨rfl, fun _ _ => rfl⟩
theorem OkS.trans {M : Nat → Prop} {σ σ' σ'' : St} (a : OkS M σ σ') (b : OkS M σ' σ'') : OkS M σ σ'' := ⟨b.1.trans a.1, fun i h => (b.2 i h).trans (a.2 i h)⟩
theorem OkS.set {M : Nat → Prop} {σ : St} {i : Nat} {x : Option V} (h : ¬ M i) : OkS M σ (σ.set i x) := ⟨List.length_set, fun j hj => by
  rw [List.getElem?_set_ne]
  rintro rfl
  exact h hj⟩
section
variable {K : PySem.W.Frag} {H : Hp} {σ : St} {ρ : Rh} {stk : List Cell}
theorem Hd.store {i : Nat} {v : V} {s : Sl} (h : Hd K H ((some v, s) :: (σ.zip ρ ++ stk))) (hl : σ.length = ρ.length) (hi : i < ρ.length) : Hd K H ((σ.set i (some v)).zip (ρ.set i s) ++ stk) := by
  rw [zip_set]
  have hz : i < (σ.zip ρ).length := by rw [List.length_zip]; omega
  have e : (σ.zip ρ)[i]? = some (σ.zip ρ)[i] := List.getElem?_eq_getElem hz
  have h1 := h.perm (List.Perm.cons _ ((perm_at e).append_right stk))
  have h2 : Hd K H ((some v, s) :: ((σ.zip ρ).eraseIdx i ++ stk)) := h1.sub (List.Sublist.cons_cons _ (List.sublist_cons_self _ _))
  exact h2.perm ((perm_set hz).append_right stk).symm
end
abbrev EvG := D → Rh → Option Rh
def DG (K : PySem.W.Frag) (M : Nat → Prop) (g : TG) (f : EvG) : Prop :=
  ∀ (v : V) (d : D) (σ : St) (ρ : Rh) (stk : List Cell) (H : Hp) (Q : St → Hp → Prop) (ρ' : Rh), σ.length = ρ.length → Hd K H ((some v, .val d) :: (σ.zip ρ ++ stk)) → f d ρ = some ρ' →
    (∀ σ' H', OkS M σ σ' → ρ'.length = ρ.length → Hd K H' (σ'.zip ρ' ++ stk) → Q σ' H') → g v σ H Q
structure GX (X : Cx) (M : Nat → Prop) (tg : Expr) (f : EvG) : Prop where
  ex : ∃ g, PG X tg g ∧ DG X.K M g f
@[simp] def gnF (i : Nat) : EvG := fun d ρ => if i < ρ.length then some (ρ.set i (.val d)) else none
section
variable {X : Cx} {M : Nat → Prop} {pos : Pos}
theorem dg_name {K : PySem.W.Frag} {i : Nat} (hM : ¬ M i) : DG K M (gName i) (gnF i) := fun v d σ ρ stk H Q ρ' hl h e k => by
  unfold gnF at e
  split at e
  · cases e
    exact k _ H (OkS.set hM) List.length_set (h.store hl (by assumption))
  · cases e
theorem gx_name {i : Nat} {x : Str} (hN : X.N.Nodup) (hi : X.N[i]? = some x) (hM : ¬ M i := by first | decide | exact fun h => h rfl | (intro h; revert h; decide)) (hx : Loc X.env.scope x := by first | exact .inl rfl | exact .inr rfl) (hf : X.fn x = true ∨ X.env.scope.names.lookup x = some .local := by first | exact .inl rfl | exact .inr rfl | assumption) : GX X M (.Name x pos) (gnF i) :=
  ⟨_, pg_name hN hi hx hf, dg_name hM⟩
def DGs (K : PySem.W.Frag) (M : Nat → Prop) (g : TGs) (f : List D → Rh → Option Rh) : Prop :=
  ∀ (vs : List V) (ds : List D) (σ : St) (ρ : Rh) (stk : List Cell) (H : Hp) (Q : St → Hp → Prop) (ρ' : Rh), σ.length = ρ.length → vs.length = ds.length → Hd K H (valCells vs ds ++ (σ.zip ρ ++ stk)) → f ds ρ = some ρ' →
    (∀ σ' H', OkS M σ σ' → ρ'.length = ρ.length → Hd K H' (σ'.zip ρ' ++ stk) → Q σ' H') → g vs σ H Q
structure GXs (X : Cx) (M : Nat → Prop) (tgs : List Expr) (f : List D → Rh → Option Rh) : Prop where
  ex : ∃ g, PGs X tgs g ∧ DGs X.K M g f
  len : ∀ ds ρ ρ', f ds ρ = some ρ' → ds.length = tgs.length
@[simp] def gsNil : List D → Rh → Option Rh
  | [], ρ => some ρ
  | _, _ => none
@[simp] def gsCons (f : EvG) (g : List D → Rh → Option Rh) : List D → Rh → Option Rh
  | d :: ds, ρ => (f d ρ).bind fun ρ1 => g ds ρ1
  | _, _ => none
theorem gxs_nil : GXs X M [] gsNil := by
  refine ⟨⟨_, pgs_nil, fun vs ds σ ρ stk H Q ρ' hl hv h e k => ?_⟩, fun ds ρ ρ' e => ?_⟩
  · cases ds with
    | nil =>
      cases e
      cases vs with
      | nil => exact ⟨rfl, k σ H OkS.refl rfl h⟩
      | cons _ _ => simp at hv
    | cons _ _ => cases e
  · cases ds with
    | nil => rfl
    | cons _ _ => cases e
theorem gxs_cons {t : Expr} {ts : List Expr} {f : EvG} {g : List D → Rh → Option Rh} (h1 : GX X M t f) (h2 : GXs X M ts g)
    (hs : (assignEach (t :: ts) X.env).map (·.2) = assign t X.env :: (assignEach ts X.env).map (·.2) := by rfl) : GXs X M (t :: ts) (gsCons f g) := by
  obtain ⟨t1, p1, q1⟩ := h1.ex
  obtain ⟨t2, p2, q2⟩ := h2.ex
  refine ⟨⟨_, pgs_cons p1 p2 hs, fun vs ds σ ρ stk H Q ρ' hl hv h e k => ?_⟩, fun ds ρ ρ' e => ?_⟩
  · cases ds with
    | nil => cases e
    | cons d ds =>
      cases vs with
      | nil => simp at hv
      | cons v vs =>
        simp only [gsCons, Option.bind_eq_some_iff] at e
        obtain ⟨ρ1, e1, e2⟩ := e
        refine ⟨v, vs, rfl, ?_⟩
        have h' : Hd X.K H ((some v, .val d) :: (valCells vs ds ++ (σ.zip ρ ++ stk))) := h
        refine q1 v d σ ρ (valCells vs ds ++ stk) H _ ρ1 hl (h'.perm (List.Perm.cons _ (List.perm_append_comm_assoc _ _ _))) e1 fun σ1 H1 o1 l1 hd1 => ?_
        refine q2 vs ds σ1 ρ1 stk H1 Q ρ' (by rw [o1.1]; omega) (by simpa using hv) (hd1.perm (List.perm_append_comm_assoc _ _ _)) e2 fun σ2 H2 o2 l2 hd2 => ?_
        exact k σ2 H2 (o1.trans o2) (by omega) hd2
  · cases ds with
    | nil => cases e
    | cons d ds =>
      simp only [gsCons, Option.bind_eq_some_iff] at e
      obtain ⟨ρ1, e1, e2⟩ := e
      rw [List.length_cons, List.length_cons, h2.len _ _ _ e2]
theorem Hd.putVals {K : PySem.W.Frag} {H : Hp} {l : List Cell} (h : Hd K H l) : ∀ {vs : List V} {ds : List D}, DnA K (ownA l) H vs ds → Hd K H (valCells vs ds ++ l)
  | _, _, .nil => h
  | _, _, .cons q t => by
    refine (Hd.putVals h t).addVal ?_
    rw [ownA_valCells]
    exact q
@[simp] def gtF (g : List D → Rh → Option Rh) : EvG
  | .tuple ds, ρ => g ds ρ
  | _, _ => none
theorem gx_tup {ts : List Expr} {k : Nat} {g : List D → Rh → Option Rh} (hc : X.calm = true) (h : GXs X M ts g) (hn : (assignEach ts X.env).length = ts.length := by rfl) (hst : (assignEach ts X.env).findIdx? (·.1) = none := by rfl) : GX X M (.Tuple ts k pos) (gtF g) := by
  obtain ⟨t, p, q⟩ := h.ex
  refine ⟨_, pg_tup hc p hn hst, fun v d σ ρ stk H Q ρ' hl hd e kk => ?_⟩
  cases d with
  | tuple ds =>
    have e' : g ds ρ = some ρ' := e
    have r := hd.valOf
    cases r with
    | tup r1 rz r2 =>
      refine ⟨_, _, rfl, r1, r2.length.trans (h.len _ _ _ e'), ?_⟩
      exact q _ ds σ ρ stk H Q ρ' hl r2.length (hd.tail.putVals r2) e' kk
  | _ => cases e
end

/-! ### statements -/
inductive Fl where
  | nx (ρ : Rh)
  | rt (s : Sl) (ρ : Rh)
  | bk (ρ : Rh)
  | ct (ρ : Rh)
abbrev EvS := Rh → Option Fl
def PostS (K : PySem.W.Frag) (M : Nat → Prop) (E : Ends) (σ : St) (stk : List Cell) : Fl → Prop
  | .nx ρ' => ∀ σ' H', OkS M σ σ' → σ'.length = ρ'.length → Hd K H' (σ'.zip ρ' ++ stk) → E.nx σ' H'
  | .bk ρ' => ∀ σ' H', OkS M σ σ' → σ'.length = ρ'.length → Hd K H' (σ'.zip ρ' ++ stk) → E.bk σ' H'
  | .ct ρ' => ∀ σ' H', OkS M σ σ' → σ'.length = ρ'.length → Hd K H' (σ'.zip ρ' ++ stk) → E.ct σ' H'
  | .rt s ρ' => ∀ v σ' H', OkS M σ σ' → σ'.length = ρ'.length → Hd K H' ((some v, s) :: (σ'.zip ρ' ++ stk)) → E.rt v H'
theorem PostS.from {K : PySem.W.Frag} {M : Nat → Prop} {E : Ends} {σ σ' : St} {stk : List Cell} {fl : Fl} (h : PostS K M E σ stk fl) (o : OkS M σ σ') : PostS K M E σ' stk fl := by
  cases fl with
  | nx ρ => exact fun σ2 H2 o2 l2 h2 => h σ2 H2 (o.trans o2) l2 h2
  | bk ρ => exact fun σ2 H2 o2 l2 h2 => h σ2 H2 (o.trans o2) l2 h2
  | ct ρ => exact fun σ2 H2 o2 l2 h2 => h σ2 H2 (o.trans o2) l2 h2
  | rt s ρ => exact fun v σ2 H2 o2 l2 h2 => h v σ2 H2 (o.trans o2) l2 h2
def DS (K : PySem.W.Frag) (M : Nat → Prop) (ts : TS) (f : EvS) : Prop :=
  ∀ (E : Ends) (σ : St) (ρ : Rh) (stk : List Cell) (H : Hp) (fl : Fl), σ.length = ρ.length → Hd K H (σ.zip ρ ++ stk) → f ρ = some fl → PostS K M E σ stk fl → ts E σ H
structure SX (X : Cx) (M : Nat → Prop) (st : Stmt) (f : EvS) : Prop where
  ex : ∃ ts, PS X st ts ∧ DS X.K M ts f
structure BX (X : Cx) (M : Nat → Prop) (sts : List Stmt) (f : EvS) : Prop where
  ex : ∃ ts, PSs X sts ts ∧ DS X.K M ts f
@[simp] def nxF : EvS := fun ρ => some (.nx ρ)
def seqF (f g : EvS) : EvS := fun ρ => (f ρ).bind fun fl => match fl with
  | .nx ρ1 => g ρ1
  | .rt s ρ1 => some (.rt s ρ1)
  | .bk ρ1 => some (.bk ρ1)
  | .ct ρ1 => some (.ct ρ1)
section
variable {X : Cx} {M : Nat → Prop} {pos pos' : Pos} {st : Stmt} {rest : List Stmt} {f g : EvS} {e a b c : Expr} {fe : EvX} {ft : EvT} {i : Nat} {x : Str}
theorem bx_nil : BX X M [] nxF := ⟨_, pss_nil, fun E σ ρ stk H fl hl h e k => by cases e; exact k σ H OkS.refl hl h⟩
theorem bx_one (h : SX X M st f) : BX X M [st] f := by
  obtain ⟨t, p, q⟩ := h.ex
  exact ⟨t, pss_one p, q⟩
theorem ds_seq {K : PySem.W.Frag} {t u : TS} (h1 : DS K M t f) (h2 : DS K M u g) : DS K M (tSeq t u) (seqF f g) := fun E σ ρ stk H fl hl h e k => by
  unfold seqF at e
  rw [Option.bind_eq_some_iff] at e
  obtain ⟨f1, e1, e2⟩ := e
  refine h1 { E with nx := u E } σ ρ stk H f1 hl h e1 ?_
  cases f1 with
  | nx ρ1 => exact fun σ' H' o l hd => h2 E σ' ρ1 stk H' fl l hd e2 (k.from o)
  | rt s ρ1 => cases e2; exact k
  | bk ρ1 => cases e2; exact k
  | ct ρ1 => cases e2; exact k
theorem bx_cons (h : SX X M st f) (h2 : BX X M rest g) : BX X M (st :: rest) (seqF f g) := by
  obtain ⟨t, p, q⟩ := h.ex
  obtain ⟨t2, p2, q2⟩ := h2.ex
  exact ⟨_, pss_cons p p2, ds_seq q q2⟩
@[simp] def noneS : EvS := fun _ => none
/-- a statement that is never met -/
theorem sx_never : SX X M st noneS := ⟨_, ps_never, fun E σ ρ stk H fl hl h e k => by cases e⟩
theorem sx_pass : SX X M (.Pass pos) nxF := ⟨_, ps_pass, fun E σ ρ stk H fl hl h e k => by cases e; exact k σ H OkS.refl hl h⟩
@[simp] def bkF : EvS := fun ρ => some (.bk ρ)
@[simp] def ctF : EvS := fun ρ => some (.ct ρ)
theorem sx_break : SX X M (.Break pos) bkF := ⟨_, ps_break, fun E σ ρ stk H fl hl h e k => by cases e; exact k σ H OkS.refl hl h⟩
theorem sx_continue : SX X M (.Continue pos) ctF := ⟨_, ps_continue, fun E σ ρ stk H fl hl h e k => by cases e; exact k σ H OkS.refl hl h⟩
def exprF (fe : EvX) : EvS := fun ρ => (fe ρ).bind fun p => some (.nx p.2)
theorem sx_expr (h : EX X e fe) (hs : swapsWith e none pos.line X.env = pure false := by rfl) : SX X M (.Expr e pos) (exprF fe) := by
  obtain ⟨t, p, q⟩ := h.ex
  refine ⟨_, ps_expr p hs, fun E σ ρ stk H fl hl h e k => ?_⟩
  unfold exprF at e
  rw [Option.bind_eq_some_iff] at e
  obtain ⟨⟨o1, ρ1⟩, e1, ef⟩ := e
  cases ef
  exact q σ ρ stk H _ o1 ρ1 hl h e1 fun v1 H1 l1 h1 a1 => k σ H1 OkS.refl (by dsimp only; omega) (h1.sub (List.sublist_append_right _ _))
/-- return: an owned slot is handed on -/
def retF (fe : EvX) : EvS := fun ρ => (fe ρ).bind fun p => match p.1 with
  | .tmp s => some (.rt s p.2)
  | .slot i => match p.2[i]? with
    | some s => some (.rt s (p.2.set i .no))
    | none => none
theorem sx_ret (h : EX X e fe) : SX X M (.Return (some e) pos) (retF fe) := by
  obtain ⟨t, p, q⟩ := h.ex
  refine ⟨_, ps_ret p, fun E σ ρ stk H fl hl h e k => ?_⟩
  unfold retF at e
  rw [Option.bind_eq_some_iff] at e
  obtain ⟨⟨o1, ρ1⟩, e1, ef⟩ := e
  refine q σ ρ stk H _ o1 ρ1 hl h e1 fun v1 H1 l1 h1 a1 => ?_
  cases o1 with
  | tmp s =>
    cases ef
    exact k v1 σ H1 OkS.refl (by dsimp only; omega) h1
  | slot j =>
    dsimp only at ef
    split at ef
    · rename_i s hs
      cases ef
      have a' : σ[j]? = some (some v1) := a1
      obtain ⟨c, z1, z2⟩ := zip_at (σ := σ) (ρ := ρ1) (by omega) hs
      rw [a'] at z1
      cases z1
      exact k v1 σ H1 OkS.refl (by rw [List.length_set]; omega) (Hd.take (h := h1) z2 a')
    · cases ef
@[simp] def retNF : EvS := fun ρ => some (.rt (.val .none) ρ)
theorem sx_retN : SX X M (.Return none pos) retNF := ⟨_, ps_retN, fun E σ ρ stk H fl hl h e k => by cases e; exact k .non σ H OkS.refl hl (h.addVal .non)⟩
def ifS (t : EvT) (f g : EvS) : EvS := fun ρ => (t ρ).bind fun p => if p.1 then f p.2 else g p.2
theorem sx_if {sa sb : List Stmt} (hc : TX X c ft) (ha : BX X M sa f) (hb : BX X M sb g) : SX X M (.If c sa sb pos) (ifS ft f g) := by
  obtain ⟨t, p, q⟩ := hc.ex
  obtain ⟨t1, p1, q1⟩ := ha.ex
  obtain ⟨t2, p2, q2⟩ := hb.ex
  refine ⟨_, ps_if p p1 p2, fun E σ ρ stk H fl hl h e k => ?_⟩
  unfold ifS at e
  rw [Option.bind_eq_some_iff] at e
  obtain ⟨⟨b1, ρ1⟩, e1, ef⟩ := e
  refine q σ ρ stk H _ b1 ρ1 hl h e1 fun H1 l1 h1 => ?_
  cases b1 with
  | true => exact iteT (q1 E σ ρ1 stk H1 fl (by omega) h1 ef k)
  | false => exact iteF (q2 E σ ρ1 stk H1 fl (by omega) h1 ef k)
/-- name = value -/
def setF (i : Nat) (fe : EvX) : EvS := fun ρ => (fe ρ).bind fun p => if i < p.2.length then (match p.1 with
  | .tmp s => some (.nx (p.2.set i s))
  | .slot j => (frzO (.slot j) p.2).bind fun q => some (.nx (q.2.set i (.val q.1)))) else none
theorem ds_set {K : PySem.W.Frag} {te : TE} (q : DX K te fe) (hM : ¬ M i) : DS K M (tAsg te (gName i)) (setF i fe) := fun E σ ρ stk H fl hl h e k => by
  unfold setF at e
  rw [Option.bind_eq_some_iff] at e
  obtain ⟨⟨o1, ρ1⟩, e1, ef⟩ := e
  refine q σ ρ stk H _ o1 ρ1 hl h e1 fun v1 H1 l1 h1 a1 => ?_
  dsimp only at ef
  split at ef
  · rename_i hi
    cases o1 with
    | tmp s =>
      cases ef
      exact k _ H1 (OkS.set hM) (by rw [List.length_set, List.length_set]; omega) (Hd.store h1 (by omega) hi)
    | slot j =>
      dsimp only at ef
      rw [Option.bind_eq_some_iff] at ef
      obtain ⟨⟨d, ρ2⟩, e2, ef⟩ := ef
      dsimp only at ef
      cases ef
      obtain ⟨h2, l2⟩ := frzO_ok (by omega) h1 a1 e2
      exact k _ H1 (OkS.set hM) (by rw [List.length_set, List.length_set]; omega) (Hd.store h2 (by omega) (by omega))
  · cases ef
theorem sx_set (hN : X.N.Nodup) (hi : X.N[i]? = some x) (he : EX X e fe) (hM : ¬ M i := by first | decide | exact fun h => h rfl | (intro h; revert h; decide)) (hx : Loc X.env.scope x := by first | exact .inl rfl | exact .inr rfl) (hs : swapsWith e (some (.Name x pos')) pos.line X.env = pure false := by rfl)
    (hf : X.fn x = true ∨ X.env.scope.names.lookup x = some .local := by first | exact .inl rfl | exact .inr rfl | assumption) : SX X M (.Assign [.Name x pos'] e pos) (setF i fe) := by
  obtain ⟨t, p, q⟩ := he.ex
  exact ⟨_, ps_set hN hi hx p hs hf, ds_set q hM⟩
/-- target = value, the value shared -/
def asgF (fg : EvG) (fe : EvX) : EvS := fun ρ => (fe ρ).bind fun p => (frzO p.1 p.2).bind fun q => (fg q.1 q.2).bind fun ρ' => some (.nx ρ')
theorem sx_asg {tg : Expr} {fg : EvG} (he : EX X e fe) (hg : GX X M tg fg) (hs : swapsWithSole [tg] e pos.line X.env = pure false := by rfl) (hw : swappedStores [tg] e X.env = pure none := by rfl)
    (h1 : (assignEach [tg] X.env).map (·.2) = [assign tg X.env] := by rfl) : SX X M (.Assign [tg] e pos) (asgF fg fe) := by
  obtain ⟨t, p, q⟩ := he.ex
  obtain ⟨t2, p2, q2⟩ := hg.ex
  refine ⟨_, ps_asg p p2 hs hw h1, fun E σ ρ stk H fl hl h e k => ?_⟩
  unfold asgF at e
  simp only [Option.bind_eq_some_iff] at e
  obtain ⟨⟨o1, ρ1⟩, e1, ⟨d, ρ2⟩, e2, ρ3, e3, ef⟩ := e
  cases ef
  refine q σ ρ stk H _ o1 ρ1 hl h e1 fun v1 H1 l1 h1 a1 => ?_
  obtain ⟨h2, l2⟩ := frzO_ok (by omega) h1 a1 e2
  exact q2 v1 d σ ρ2 stk H1 _ ρ3 (by omega) h2 e3 fun σ' H' o' l' h' => k σ' H' o' (by rw [o'.1]; omega) h'
/-- slot[i] = value, the slot owned -/
def SeOk (K : PySem.W.Frag) (t : TSet) (g : D → D → D → Option D) : Prop :=
  ∀ (l : List Cell) (H : Hp) (a : Addr) (iv v : V) (d di dv d' : D) (Q : Hp → Prop), Hd K H ((some iv, .val di) :: (some v, .val dv) :: (some (.ref a), .own d) :: l) → g d di dv = some d' →
    (∀ H', Hd K H' ((some (.ref a), .own d') :: l) → Q H') → t (.ref a) iv v H Q
def sitF (i : Nat) (g : D → D → D → Option D) (fe fi : EvX) : EvS := fun ρ => (fe ρ).bind fun p => (frzO p.1 p.2).bind fun q => match q.2[i]? with
  | some (.own _) => (fi q.2).bind fun r => (frzO r.1 r.2).bind fun s => (match s.2[i]? with
    | some (.own d) => (g d s.1 q.1).bind fun d' => some (.nx (s.2.set i (.own d')))
    | _ => none)
  | _ => none
theorem sx_sit {t : TSet} {g : D → D → D → Option D} {ie : Expr} {fi : EvX} {xpos tpos : Pos} (hset : PSet X t) (hg : SeOk X.K t g) (ho : PE X (.Name x xpos) (tVar i)) (hi : EX X ie fi) (he : EX X e fe)
    (ha : ∀ v, assign (.Subscript (.Name x xpos) ie tpos) X.env v = (do
      let ov ← holding [v] (eval (.Name x xpos) X.env)
      let iv ← holding [v, ov] (eval ie X.env)
      standAt tpos
      holding [v, ov, iv] (setItem ov iv v)
      release [v, ov, iv] []) := by intro _; rfl)
    (hs : swapsWithSole [.Subscript (.Name x xpos) ie tpos] e pos.line X.env = pure false := by rfl) (hw : swappedStores [.Subscript (.Name x xpos) ie tpos] e X.env = pure none := by rfl)
    (h1 : (assignEach [.Subscript (.Name x xpos) ie tpos] X.env).map (·.2) = [assign (.Subscript (.Name x xpos) ie tpos) X.env] := by rfl) : SX X M (.Assign [.Subscript (.Name x xpos) ie tpos] e pos) (sitF i g fe fi) := by
  obtain ⟨t1, p1, q1⟩ := he.ex
  obtain ⟨t2, p2, q2⟩ := hi.ex
  refine ⟨_, ps_asg p1 (pg_sub ho p2 hset ha) hs hw h1, fun E σ ρ stk H fl hl h e k => ?_⟩
  unfold sitF at e
  simp only [Option.bind_eq_some_iff] at e
  obtain ⟨⟨o1, ρ1⟩, e1, ⟨dv, ρ2⟩, e2, e⟩ := e
  dsimp only at e e2
  split at e
  · rename_i d0 hd0
    simp only [Option.bind_eq_some_iff] at e
    obtain ⟨⟨o3, ρ3⟩, e3, ⟨di, ρ4⟩, e4, e⟩ := e
    dsimp only at e e4
    split at e
    · rename_i d hd
      simp only [Option.bind_eq_some_iff] at e
      obtain ⟨d', eg, ef⟩ := e
      cases ef
      refine q1 σ ρ stk H _ o1 ρ1 hl h e1 fun v1 H1 l1 h1 a1 => ?_
      obtain ⟨h2, l2⟩ := frzO_ok (by omega) h1 a1 e2
      obtain ⟨c, z1, z2⟩ := zip_at (σ := σ) (ρ := ρ2) (by omega) hd0
      obtain ⟨a, ev, r⟩ := h2.ok _ (List.mem_cons_of_mem _ (List.mem_append_left _ (List.mem_of_getElem? z2)))
      have ev' : c = some (.ref a) := ev
      subst ev'
      refine ⟨.ref a, z1, ?_⟩
      refine q2 σ ρ2 ((some v1, .val dv) :: stk) H1 _ o3 ρ3 (by omega) (h2.perm List.perm_middle.symm) e3 fun v3 H3 l3 h3 a3 => ?_
      obtain ⟨h4, l4⟩ := frzO_ok (by omega) h3 a3 e4
      obtain ⟨c, y1, y2⟩ := zip_at (σ := σ) (ρ := ρ4) (by omega) hd
      rw [z1] at y1
      cases y1
      have h5 := (Hd.perm h4 (List.Perm.symm (List.perm_middle (a := (some v3, Sl.val di)) (l₁ := σ.zip ρ4)))).take y2 z1
      have h6 : Hd X.K H3 ((some v3, .val di) :: (some v1, .val dv) :: (some (.ref a), .own d) :: (σ.zip (ρ4.set i .no) ++ stk)) := h5.perm (by
        refine (List.Perm.cons _ List.perm_middle).trans ?_
        refine (List.Perm.swap _ _ _).trans (List.Perm.cons _ ?_)
        exact (List.Perm.cons _ List.perm_middle).trans (List.Perm.swap _ _ _))
      refine hg _ H3 a v3 v1 d di dv d' _ h6 eg fun H' hf => ?_
      have hi' : i < ρ4.length := (List.getElem?_eq_some_iff.mp hd).1
      have h7 := Hd.put (σ := σ) (ρ := ρ4.set i .no) (i := i) (t := .no) (c := some (.ref a)) (s := .own d') (stk := stk) hf (by rw [List.length_set]; omega) (List.getElem?_set_self hi') z1
      rw [List.set_set] at h7
      exact k σ H' OkS.refl (by rw [List.length_set]; omega) h7
    · cases e
  · cases e
end
end DL
namespace DL
open PySem PySem.Spec L2

theorem lineOf {n : Nat} (h : n ≤ 16777216) : n ≤ sizeLine := by rw [sizeLine_eq]; exact h
theorem ofLine {n : Nat} (h : n ≤ sizeLine) : n ≤ 16777216 := by rw [sizeLine_eq] at h; exact h
/-! ### what a loop walks -/
/-- while the cells src stand, J gives the data ds, one behind the other -/
structure WalkD (K : PySem.W.Frag) (J : It) (src : List Cell) (ds : List D) : Prop where
  go : ∀ i H l, i < ds.length → Hd K H (src ++ l) → J.go i H
  stop : ∀ H l, Hd K H (src ++ l) → J.stop ds.length H
  len : ∀ H l, Hd K H (src ++ l) → ds.length ≤ sizeLine
  yld : ∀ i d H l x H', ds[i]? = some d → Hd K H (src ++ l) → J.yld i H x H' → Hd K H' ((some x, .val d) :: (src ++ l))
abbrev EvI := Rh → Option (List D × Rh)
def DI (K : PySem.W.Frag) (wi : TI) (f : EvI) : Prop :=
  ∀ (σ : St) (ρ : Rh) (stk : List Cell) (H : Hp) (R : It → Hp → Prop) (ds : List D) (ρ' : Rh), σ.length = ρ.length → Hd K H (σ.zip ρ ++ stk) → f ρ = some (ds, ρ') →
    (∀ J H' src, ρ'.length = ρ.length → Hd K H' (src ++ (σ.zip ρ' ++ stk)) → WalkD K J src ds → R J H') → wi σ H R
structure IX (X : Cx) (tg iter : Expr) (f : EvI) : Prop where
  ex : ∃ wi, PI X tg iter wi ∧ DI X.K wi f
theorem pi_or {X : Cx} {tg e : Expr} {w1 w2 : TI} (h1 : PI X tg e w1) (h2 : PI X tg e w2) : PI X tg e (fun σ H R => w1 σ H R ∨ w2 σ H R) :=
  ⟨fun pins s σ H R I h => h.elim (h1.run pins s σ H R I) (h2.run pins s σ H R I)⟩
def signs (z : Str) : List D := z.cps.toList.map fun c => .str ⟨#[c]⟩
@[simp] def itemsD : D → Option (List D)
  | .list ds => some ds
  | .tuple ds => some ds
  | .str z => if z.length ≤ 16777216 then some (signs z) else none
  | _ => none
section
variable {K : PySem.W.Frag}
theorem walkD_list {a : Addr} {s : Sl} {ds : List D} (e : slD s = some (.list ds)) : WalkD K (Itl K a) [(some (.ref a), s)] ds := by
  have rd : ∀ H l, Hd K H ([(some (.ref a), s)] ++ l) → ∃ xs, SqL K H a xs ∧ DnA K (ownA ([(some (.ref a), s)] ++ l)) H xs ds ∧ ds.length ≤ sizeLine := fun H l h => by
    obtain ⟨b, xs, eb, r, q, z⟩ := h.rn (v := .ref a) (s := s) List.mem_cons_self (slD_some e)
    cases eb
    exact ⟨xs, r, q, z⟩
  refine ⟨fun i H l hi h => ?_, fun H l h => ?_, fun H l h => ?_, fun i d H l x H' hi h y => ?_⟩
  · obtain ⟨xs, r, q, z⟩ := rd H l h
    have hx : i < xs.length := by rw [q.length]; exact hi
    exact ⟨xs, xs[i], r, List.getElem?_eq_getElem hx⟩
  · obtain ⟨xs, r, q, z⟩ := rd H l h
    exact ⟨xs, r, by rw [q.length]; exact Nat.le_refl _⟩
  · obtain ⟨xs, r, q, z⟩ := rd H l h
    exact z
  · obtain ⟨xs, r, q, z⟩ := rd H l h
    obtain ⟨rfl, y⟩ := y
    obtain ⟨d', e1, e2⟩ := q.get (y xs r)
    rw [hi] at e1
    cases e1
    exact h.addVal e2
theorem walkD_tup {a : Addr} {s : Sl} {ds : List D} (e : slD s = some (.tuple ds)) : WalkD K (Itt K a) [(some (.ref a), s)] ds := by
  have rd : ∀ H l, Hd K H ([(some (.ref a), s)] ++ l) → ∃ xs, SqT K H a xs ∧ DnA K (ownA ([(some (.ref a), s)] ++ l)) H xs ds ∧ ds.length ≤ sizeLine := fun H l h => by
    obtain ⟨b, xs, eb, r, q, z⟩ := h.rn (v := .ref a) (s := s) List.mem_cons_self (slD_some e)
    cases eb
    exact ⟨xs, r, q, z⟩
  refine ⟨fun i H l hi h => ?_, fun H l h => ?_, fun H l h => ?_, fun i d H l x H' hi h y => ?_⟩
  · obtain ⟨xs, r, q, z⟩ := rd H l h
    have hx : i < xs.length := by rw [q.length]; exact hi
    exact ⟨xs, xs[i], r, List.getElem?_eq_getElem hx⟩
  · obtain ⟨xs, r, q, z⟩ := rd H l h
    exact ⟨xs, r, by rw [q.length]; exact Nat.le_refl _⟩
  · obtain ⟨xs, r, q, z⟩ := rd H l h
    exact z
  · obtain ⟨xs, r, q, z⟩ := rd H l h
    obtain ⟨rfl, y⟩ := y
    obtain ⟨d', e1, e2⟩ := q.get (y xs r)
    rw [hi] at e1
    cases e1
    exact h.addVal e2
theorem walkD_str {z : Str} (hz : z.length ≤ sizeLine) : WalkD K (Its z) [] (signs z) := by
  have hl : (signs z).length = z.cps.size := by simp [signs]
  refine ⟨fun i H l hi h => ?_, fun H l h => ?_, fun H l h => ?_, fun i d H l x H' hi h y => ?_⟩
  · show i < z.cps.size
    omega
  · show z.cps.size ≤ (signs z).length
    omega
  · rw [hl]; exact hz
  · obtain ⟨rfl, c, e1, rfl⟩ := y
    have e2 : d = .str ⟨#[c]⟩ := by
      have q : (signs z)[i]? = some (.str ⟨#[c]⟩) := by simp [signs, e1]
      rw [hi] at q
      exact Option.some.inj q
    subst e2
    exact h.addVal (.str _)
end
def itF (f : EvX) : EvI := fun ρ => (f ρ).bind fun p => match p.1 with
  | .tmp s => (slD s).bind fun d => (itemsD d).bind fun ds => some (ds, p.2)
  | .slot i => (frzO (.slot i) p.2).bind fun q => (itemsD q.1).bind fun ds => some (ds, q.2)
section
variable {X : Cx} {tg e : Expr} {f : EvX}
theorem ix_seq (h : EX X e f) : IX X tg e (itF f) := by
  obtain ⟨t, p, q⟩ := h.ex
  refine ⟨_, pi_or (pi_list p) (pi_or (pi_tup p) (pi_str p)), fun σ ρ stk H R ds ρ' hl h e k => ?_⟩
  unfold itF at e
  rw [Option.bind_eq_some_iff] at e
  obtain ⟨⟨o1, ρ1⟩, e1, e⟩ := e
  -- what stands there in the end: a cell c with its data d
  have main : ∀ d, itemsD d = some ds → (∀ v1 H1, ρ1.length = ρ.length → Hd X.K H1 (cellOf v1 o1 ++ (σ.zip ρ1 ++ stk)) → AtO σ v1 o1 → ∃ s, slD s = some d ∧ ρ'.length = ρ.length ∧ Hd X.K H1 ([(some v1, s)] ++ (σ.zip ρ' ++ stk))) →
      (iList X.K t σ H R ∨ iTup X.K t σ H R ∨ iStr t σ H R) := fun d hd hc => by
    cases d with
    | list es =>
      cases hd
      refine .inl (q σ ρ stk H _ o1 ρ1 hl h e1 fun v1 H1 l1 h1 a1 => ?_)
      obtain ⟨s, es, l, hh⟩ := hc v1 H1 l1 h1 a1
      obtain ⟨a, xs, rfl, r, qq, _⟩ := hh.rn (v := v1) (s := s) List.mem_cons_self (slD_some es)
      exact ⟨a, rfl, ⟨xs, r⟩, k _ H1 _ l hh (walkD_list es)⟩
    | tuple es =>
      cases hd
      refine .inr (.inl (q σ ρ stk H _ o1 ρ1 hl h e1 fun v1 H1 l1 h1 a1 => ?_))
      obtain ⟨s, es, l, hh⟩ := hc v1 H1 l1 h1 a1
      obtain ⟨a, xs, rfl, r, qq, _⟩ := hh.rn (v := v1) (s := s) List.mem_cons_self (slD_some es)
      exact ⟨a, rfl, ⟨xs, r⟩, k _ H1 _ l hh (walkD_tup es)⟩
    | str z =>
      simp only [itemsD] at hd
      split at hd
      case isFalse => cases hd
      rename_i hz
      cases hd
      refine .inr (.inr (q σ ρ stk H _ o1 ρ1 hl h e1 fun v1 H1 l1 h1 a1 => ?_))
      obtain ⟨s, es, l, hh⟩ := hc v1 H1 l1 h1 a1
      have ev : v1 = .str z := hh.rn (v := v1) (s := s) List.mem_cons_self (slD_some es)
      exact ⟨z, ev, k _ H1 [] l (Hd.tail hh) (walkD_str (lineOf hz))⟩
    | _ => cases hd
  cases o1 with
  | tmp s =>
    simp only [Option.bind_eq_some_iff] at e
    obtain ⟨d, es, ds', ei, ef⟩ := e
    cases ef
    exact main d ei fun v1 H1 l1 h1 a1 => ⟨s, es, l1, h1⟩
  | slot i =>
    simp only [Option.bind_eq_some_iff] at e
    obtain ⟨⟨d, ρ2⟩, e2, ds', ei, ef⟩ := e
    cases ef
    refine main d ei fun v1 H1 l1 h1 a1 => ?_
    obtain ⟨h2, l2⟩ := frzO_ok (by omega) h1 a1 e2
    exact ⟨.val d, rfl, by dsimp only; omega, h2⟩
end
def rangeD (n : Nat) (lo : Int) : List D := (List.range n).map fun (i : Nat) => .int (lo + (i : Int))
theorem walkD_range {K : PySem.W.Frag} {lo : Int} {n : Nat} (hz : n ≤ sizeLine) : WalkD K (Itr lo n) [] (rangeD n lo) := by
  have hl : (rangeD n lo).length = n := by simp [rangeD]
  refine ⟨fun i H l hi h => ?_, fun H l h => ?_, fun H l h => ?_, fun i d H l x H' hi h y => ?_⟩
  · show i < n
    omega
  · show n ≤ (rangeD n lo).length
    omega
  · rw [hl]; exact hz
  · obtain ⟨rfl, rfl⟩ := y
    have hn : i < n := by
      have := (List.getElem?_eq_some_iff.mp hi).1
      omega
    have e2 : d = .int (lo + (i : Int)) := by
      have q : (rangeD n lo)[i]? = some (.int (lo + (i : Int))) := by simp [rangeD, hn]
      rw [hi] at q
      exact Option.some.inj q
    subst e2
    exact h.addVal (.int _)
def rng1F (f : EvX) : EvI := fun ρ => (f ρ).bind fun p => match p.1 with
  | .tmp (.val (.int j)) => if -(2 ^ 62) ≤ j ∧ j ≤ 16777216 then some (rangeD j.toNat 0, p.2) else none
  | _ => none
def rng2F (f g : EvX) : EvI := fun ρ => (f ρ).bind fun p => (g p.2).bind fun q => match p.1, q.1 with
  | .tmp (.val (.int i)), .tmp (.val (.int j)) => if -(2 ^ 62) ≤ i ∧ i < 2 ^ 62 ∧ -(2 ^ 62) ≤ j ∧ j < 2 ^ 62 ∧ j - i ≤ 16777216 then some (rangeD (j - i).toNat i, q.2) else none
  | _, _ => none
section
variable {X : Cx} {tg a b : Expr} {f g : EvX} {p pos : Pos}
theorem ix_range1 (hg : Gl X "range") (hm : X.mg "range" = none) (h : EX X a f) (hs : starEach [a] X.env = [(false, eval a X.env)] := by rfl) (hs0 : starEach [a] X.env = (false, eval a X.env) :: starEach [] X.env := by rfl) : IX X tg (.Call (.Name "range" p) [a] [] pos) (rng1F f) := by
  obtain ⟨t, pe, q⟩ := h.ex
  refine ⟨_, pi_range1 hg hm (pa_cons pe pa_nil hs0) hs, fun σ ρ stk H R ds ρ' hl h e k => ?_⟩
  unfold rng1F at e
  rw [Option.bind_eq_some_iff] at e
  obtain ⟨⟨o1, ρ1⟩, e1, e⟩ := e
  refine q σ ρ stk H _ o1 ρ1 hl h e1 fun v1 H1 l1 h1 a1 => ?_
  dsimp only at e
  split at e
  · rename_i j
    split at e
    · rename_i hj
      cases e
      have r : v1 = .int j := (Hd.valOf (l := σ.zip ρ' ++ stk) h1).rn
      subst r
      exact ⟨j, rfl, hj.1, by omega, k _ H1 [] l1 (Hd.tail h1) (walkD_range (lineOf (by omega)))⟩
    · cases e
  · cases e
theorem ix_range2 (hg : Gl X "range") (hm : X.mg "range" = none) (h : EX X a f) (h2 : EX X b g) (hs : starEach [a, b] X.env = [(false, eval a X.env), (false, eval b X.env)] := by rfl) (hs2 : starEach [b] X.env = [(false, eval b X.env)] := by rfl)
    (hs3 : starEach [a, b] X.env = (false, eval a X.env) :: starEach [b] X.env := by rfl) (hs4 : starEach [b] X.env = (false, eval b X.env) :: starEach [] X.env := by rfl) : IX X tg (.Call (.Name "range" p) [a, b] [] pos) (rng2F f g) := by
  obtain ⟨t, pe, q⟩ := h.ex
  obtain ⟨t2, pe2, q2⟩ := h2.ex
  refine ⟨_, pi_range2 hg hm (pa_cons pe (pa_cons pe2 pa_nil hs4) hs3) hs hs2, fun σ ρ stk H R ds ρ' hl h e k => ?_⟩
  unfold rng2F at e
  simp only [Option.bind_eq_some_iff] at e
  obtain ⟨⟨o1, ρ1⟩, e1, ⟨o2, ρ2⟩, e2, e⟩ := e
  refine q σ ρ stk H _ o1 ρ1 hl h e1 fun v1 H1 l1 h1 a1 => ?_
  refine q2 σ ρ1 (cellOf v1 o1 ++ stk) H1 _ o2 ρ2 (by omega) (h1.perm (List.perm_append_comm_assoc _ _ _)) e2 fun v2 H2 l2 h2 a2 => ?_
  dsimp only at e
  split at e
  · rename_i i j
    split at e
    · rename_i hj
      cases e
      have r2 : v2 = .int j := (Hd.valOf (l := σ.zip ρ' ++ (cellOf v1 (.tmp (.val (.int i))) ++ stk)) h2).rn
      have h3 : Hd X.K H2 ((some v1, .val (.int i)) :: (σ.zip ρ' ++ stk)) := (Hd.tail h2).perm List.perm_middle
      have r1 : v1 = .int i := h3.valOf.rn
      subst r1 r2
      exact ⟨i, j, rfl, ⟨hj.1, hj.2.1, hj.2.2.1, hj.2.2.2.1⟩, k _ H2 [] (by omega) h3.tail (walkD_range (lineOf (by omega)))⟩
    · cases e
  · cases e
end

/-! ### for, while -/
@[simp] def forGo (tg : EvG) (body : EvS) : List D → Rh → Option Fl
  | [], ρ => some (.nx ρ)
  | d :: ds, ρ => (tg d ρ).bind fun ρ1 => (body ρ1).bind fun fl => match fl with
    | .nx ρ2 => forGo tg body ds ρ2
    | .ct ρ2 => forGo tg body ds ρ2
    | .bk ρ2 => some (.nx ρ2)
    | .rt s ρ2 => some (.rt s ρ2)
def forF (it : EvI) (tg : EvG) (body : EvS) : EvS := fun ρ => (it ρ).bind fun p => forGo tg body p.1 p.2
theorem ds_for {K : PySem.W.Frag} {M : Nat → Prop} {wi : TI} {g : TG} {tb : TS} {fi : EvI} {fg : EvG} {fb : EvS} (hi : DI K wi fi) (hg : DG K M g fg) (hb : DS K M tb fb) : DS K M (tFor wi g tb) (forF fi fg fb) := fun E σ ρ stk H fl hl h e k => by
  unfold forF at e
  rw [Option.bind_eq_some_iff] at e
  obtain ⟨⟨ds, ρ1⟩, e1, e⟩ := e
  dsimp only at e
  refine hi σ ρ stk H _ ds ρ1 hl h e1 fun J H1 src l1 h1 w => ?_
  refine ⟨fun i m σ' H' => m = ds.length - i ∧ i ≤ ds.length ∧ OkS M σ σ' ∧ ∃ ρi, σ'.length = ρi.length ∧ Hd K H' (src ++ (σ'.zip ρi ++ stk)) ∧ forGo fg fb (ds.drop i) ρi = some fl, ⟨ds.length, by simp, Nat.zero_le _, OkS.refl, ρ1, by omega, h1, by simpa using e⟩, ?_⟩
  rintro i m σ' H' ⟨rfl, hle, o', ρi, li, hi', ei⟩
  by_cases hlt : i < ds.length
  · refine .inr ⟨w.go i H' _ hlt hi', fun σ2 H2 => OkS M σ σ2 ∧ ∃ ρ2, σ2.length = ρ2.length ∧ Hd K H2 (src ++ (σ2.zip ρ2 ++ stk)) ∧ forGo fg fb (ds.drop (i + 1)) ρ2 = some fl, fun σ2 H2 n2 => ⟨ds.length - (i + 1), by omega, rfl, hlt, n2⟩, fun x H2 y => ?_⟩
    rw [List.drop_eq_getElem_cons hlt] at ei
    simp only [forGo, Option.bind_eq_some_iff] at ei
    obtain ⟨ρ2, eg, fl2, eb, ef⟩ := ei
    have h2 := w.yld i ds[i] H' _ x H2 (List.getElem?_eq_getElem hlt) hi' y
    refine hg x ds[i] σ' ρi (src ++ stk) H2 _ ρ2 li (h2.perm (List.Perm.cons _ (List.perm_append_comm_assoc _ _ _))) eg fun σ3 H3 o3 l3 h3 => ?_
    refine hb _ σ3 ρ2 (src ++ stk) H3 fl2 (by rw [o3.1]; omega) h3 eb ?_
    cases fl2 with
    | nx ρ4 => exact fun σ4 H4 o4 l4 h4 => ⟨(o'.trans o3).trans o4, ρ4, l4, h4.perm (List.perm_append_comm_assoc _ _ _), ef⟩
    | ct ρ4 => exact fun σ4 H4 o4 l4 h4 => ⟨(o'.trans o3).trans o4, ρ4, l4, h4.perm (List.perm_append_comm_assoc _ _ _), ef⟩
    | bk ρ4 =>
      cases ef
      exact fun σ4 H4 o4 l4 h4 => k σ4 H4 ((o'.trans o3).trans o4) l4 ((h4.perm (List.perm_append_comm_assoc _ _ _)).sub (List.sublist_append_right _ _))
    | rt s ρ4 =>
      cases ef
      refine fun v σ4 H4 o4 l4 h4 => k v σ4 H4 ((o'.trans o3).trans o4) l4 (h4.sub (List.Sublist.cons_cons _ ?_))
      exact List.Sublist.append_left (List.sublist_append_right _ _) _
  · have ed : i = ds.length := by omega
    subst ed
    refine .inl ⟨w.stop H' _ hi', ?_⟩
    rw [List.drop_length] at ei
    cases ei
    exact k σ' H' o' li (hi'.sub (List.sublist_append_right _ _))
def whileGo (c : EvT) (body : EvS) : Nat → Rh → Option Fl
  | 0, _ => none
  | n + 1, ρ => (c ρ).bind fun p => if p.1 then (body p.2).bind fun fl => match fl with
      | .nx ρ2 => whileGo c body n ρ2
      | .ct ρ2 => whileGo c body n ρ2
      | .bk ρ2 => some (.nx ρ2)
      | .rt s ρ2 => some (.rt s ρ2)
    else some (.nx p.2)
theorem ds_while {K : PySem.W.Frag} {M : Nat → Prop} {tc : TT} {tb : TS} {fc : EvT} {fb : EvS} (n : Nat) (hc : DT K tc fc) (hb : DS K M tb fb) : DS K M (tWhile tc tb) (whileGo fc fb n) := fun E σ ρ stk H fl hl h e k => by
  refine ⟨fun m σ' H' => OkS M σ σ' ∧ ∃ ρi, σ'.length = ρi.length ∧ Hd K H' (σ'.zip ρi ++ stk) ∧ whileGo fc fb m ρi = some fl, ⟨n, OkS.refl, ρ, hl, h, e⟩, ?_⟩
  rintro m σ' H' ⟨o', ρi, li, hi', ei⟩
  cases m with
  | zero => cases ei
  | succ m =>
    simp only [whileGo, Option.bind_eq_some_iff] at ei
    obtain ⟨⟨b, ρ1⟩, ec, ei⟩ := ei
    refine hc σ' ρi stk H' _ b ρ1 li hi' ec fun H1 l1 h1 => ?_
    cases b with
    | false =>
      have ei' : some (Fl.nx ρ1) = some fl := ei
      cases ei'
      exact iteF (k σ' H1 o' (by omega) h1)
    | true =>
      rw [if_pos rfl, Option.bind_eq_some_iff] at ei
      obtain ⟨fl2, eb, ef⟩ := ei
      refine iteT ⟨fun σ2 H2 => OkS M σ σ2 ∧ ∃ ρ2, σ2.length = ρ2.length ∧ Hd K H2 (σ2.zip ρ2 ++ stk) ∧ whileGo fc fb m ρ2 = some fl, fun σ2 H2 n2 => ⟨m, Nat.lt_succ_self m, n2⟩, ?_⟩
      refine hb _ σ' ρ1 stk H1 fl2 (by omega) h1 eb ?_
      cases fl2 with
      | nx ρ4 => exact fun σ4 H4 o4 l4 h4 => ⟨o'.trans o4, ρ4, l4, h4, ef⟩
      | ct ρ4 => exact fun σ4 H4 o4 l4 h4 => ⟨o'.trans o4, ρ4, l4, h4, ef⟩
      | bk ρ4 => cases ef; exact fun σ4 H4 o4 l4 h4 => k σ4 H4 (o'.trans o4) l4 h4
      | rt s ρ4 => cases ef; exact fun v σ4 H4 o4 l4 h4 => k v σ4 H4 (o'.trans o4) l4 h4
section
variable {X : Cx} {M : Nat → Prop} {tg iter c : Expr} {body : List Stmt} {pos : Pos} {fi : EvI} {fg : EvG} {fb : EvS} {fc : EvT}
theorem sx_for (hp : PassesOwn (model X.prog X.w) X.A X.env X.xe) (hc : X.calm = true) (hi : IX X tg iter fi) (hg : GX X M tg fg) (hb : BX X M body fb) (hs : ∀ x, foldedSetIterable iter X.env x = pure x := by intro _; rfl) : SX X M (.For tg iter body [] pos) (forF fi fg fb) := by
  obtain ⟨t, p, q⟩ := hi.ex
  obtain ⟨t2, p2, q2⟩ := hg.ex
  obtain ⟨t3, p3, q3⟩ := hb.ex
  exact ⟨_, ps_for hp hc p p2 p3 hs, ds_for q q2 q3⟩
theorem sx_while (n : Nat) (hp : PassesOwn (model X.prog X.w) X.A X.env X.xe) (hc : TX X c fc) (hb : BX X M body fb) : SX X M (.While c body [] pos) (whileGo fc fb n) := by
  obtain ⟨t, p, q⟩ := hc.ex
  obtain ⟨t3, p3, q3⟩ := hb.ex
  exact ⟨_, ps_while hp p p3, ds_while n q q3⟩
end
end DL
namespace DL
open PySem PySem.Spec L2

/-! ### comprehensions -/
@[simp] def wipeR (ρ : Rh) : List Nat → Rh
  | [] => ρ
  | v :: vs => (wipeR ρ vs).set v .no
/-- the block's own slots as they were ahead of it -/
@[simp] def restR (ρ ρe : Rh) : List Nat → Rh
  | [] => ρe
  | v :: vs => restR ρ (ρe.set v (((wipeR ρ vs)[v]?).getD .no)) vs
def savC (σ : St) (ρ : Rh) : List Nat → List Cell
  | [] => []
  | v :: vs => ((((wipe σ vs)[v]?).getD none), ((wipeR ρ vs)[v]?).getD .no) :: savC σ ρ vs
theorem wipeR_length (ρ : Rh) : ∀ vs : List Nat, (wipeR ρ vs).length = ρ.length
  | [] => rfl
  | v :: vs => by unfold wipeR; rw [List.length_set, wipeR_length ρ vs]
theorem restR_length (ρ : Rh) : ∀ (vs : List Nat) (ρe : Rh), (restR ρ ρe vs).length = ρe.length
  | [], _ => rfl
  | v :: vs, ρe => by unfold restR; rw [restR_length ρ vs, List.length_set]
section
variable {K : PySem.W.Frag} {H : Hp} {stk : List Cell}
theorem Hd.storeO {σ : St} {ρ : Rh} {i : Nat} {x : Option V} {s : Sl} (h : Hd K H ((x, s) :: (σ.zip ρ ++ stk))) (hl : σ.length = ρ.length) : Hd K H ((σ.set i x).zip (ρ.set i s) ++ stk) := by
  by_cases hi : i < ρ.length
  · rw [zip_set]
    have hz : i < (σ.zip ρ).length := by rw [List.length_zip]; omega
    have e : (σ.zip ρ)[i]? = some (σ.zip ρ)[i] := List.getElem?_eq_getElem hz
    have h1 := h.perm (List.Perm.cons _ ((perm_at e).append_right stk))
    have h2 : Hd K H ((x, s) :: ((σ.zip ρ).eraseIdx i ++ stk)) := h1.sub (List.Sublist.cons_cons _ (List.sublist_cons_self _ _))
    exact h2.perm ((perm_set hz).append_right stk).symm
  · rw [List.set_eq_of_length_le (by omega), List.set_eq_of_length_le (by omega)]
    exact h.tail
theorem Hd.takeO {σ : St} {ρ : Rh} {i : Nat} (h : Hd K H (σ.zip ρ ++ stk)) (hl : σ.length = ρ.length) : Hd K H (((σ[i]?).getD none, (ρ[i]?).getD .no) :: ((σ.set i none).zip (ρ.set i .no) ++ stk)) := by
  by_cases hi : i < ρ.length
  · have e : ρ[i]? = some ρ[i] := List.getElem?_eq_getElem hi
    obtain ⟨c, q1, q2⟩ := zip_at hl e
    have h1 := h.take q2 q1
    rw [q1, e]
    have h2 : Hd K H ((none, Sl.no) :: (σ.zip (ρ.set i .no) ++ ((c, ρ[i]) :: stk))) := (h1.perm List.perm_middle.symm).addNo none
    have h3 := h2.storeO (i := i) (by rw [List.length_set]; exact hl)
    rw [List.set_set] at h3
    exact h3.perm List.perm_middle
  · rw [List.set_eq_of_length_le (by omega), List.set_eq_of_length_le (by omega), List.getElem?_eq_none (by omega), List.getElem?_eq_none (by omega)]
    exact h.addNo none
theorem Hd.wipeOut {σ : St} {ρ : Rh} (h : Hd K H (σ.zip ρ ++ stk)) (hl : σ.length = ρ.length) : ∀ vs : List Nat, Hd K H ((wipe σ vs).zip (wipeR ρ vs) ++ (savC σ ρ vs ++ stk))
  | [] => h
  | v :: vs => by
    have q := (Hd.wipeOut h hl vs).takeO (i := v) (by rw [wipe_length, wipeR_length]; exact hl)
    exact q.perm List.perm_middle.symm
theorem set_getD {σ : St} {v : Nat} : (σ.set v none).set v ((σ[v]?).getD none) = σ := by
  rw [List.set_set]
  apply List.ext_getElem?
  intro j
  by_cases hj : v = j
  · subst hj
    by_cases hv : v < σ.length
    · rw [List.getElem?_set_self hv, List.getElem?_eq_getElem hv]; rfl
    · rw [List.getElem?_eq_none (by rw [List.length_set]; omega), List.getElem?_eq_none (by omega)]
  · rw [List.getElem?_set_ne hj]
theorem Hd.wipeBack {σ : St} {ρ : Rh} : ∀ (vs : List Nat) (ρe : Rh), σ.length = ρe.length → Hd K H ((wipe σ vs).zip ρe ++ (savC σ ρ vs ++ stk)) → Hd K H (σ.zip (restR ρ ρe vs) ++ stk)
  | [], ρe, _, h => h
  | v :: vs, ρe, hl, h => by
    have h1 : Hd K H ((((wipe σ vs)[v]?).getD none, ((wipeR ρ vs)[v]?).getD .no) :: (((wipe σ vs).set v none).zip ρe ++ (savC σ ρ vs ++ stk))) := h.perm List.perm_middle
    have h2 := h1.storeO (i := v) (by rw [List.length_set, wipe_length]; exact hl)
    rw [set_getD] at h2
    exact Hd.wipeBack vs _ (by rw [List.length_set]; exact hl) h2
end
@[simp] def lcGo (fg : EvG) (ft : EvT) (fe : EvX) (vs : List Nat) : List D → Rh → Option (List D × Rh)
  | [], ρ => some ([], ρ)
  | d :: ds, ρ => (fg d ρ).bind fun ρ1 => (ft ρ1).bind fun p => if p.1 then (fe p.2).bind fun q => (frzO q.1 q.2).bind fun r => (lcGo fg ft fe vs ds (wipeR r.2 vs)).bind fun z => some (r.1 :: z.1, z.2)
    else lcGo fg ft fe vs ds (wipeR p.2 vs)
def lcF (fi : EvI) (fg : EvG) (ft : EvT) (fe : EvX) (vs : List Nat) : EvX := fun ρ => (fi ρ).bind fun p => (lcGo fg ft fe vs p.1 (wipeR p.2 vs)).bind fun z => some (.tmp (.own (.list z.1)), restR p.2 z.2 vs)
theorem wipe_wipe {σ σ2 : St} {vs : List Nat} (h : ∀ i, i ∉ vs → σ2[i]? = σ[i]?) (hl : σ2.length = σ.length) : wipe σ2 vs = wipe σ vs := by
  apply List.ext_getElem?
  intro j
  by_cases hj : j ∈ vs
  · have q : ∀ (τ : St) (ws : List Nat), j ∈ ws → (wipe τ ws)[j]? = if j < τ.length then some none else none := by
      intro τ ws
      induction ws with
      | nil => intro h; simp at h
      | cons w ws ih =>
        intro hm
        unfold wipe
        by_cases hw : w = j
        · subst hw
          by_cases hlt : w < τ.length
          · rw [List.getElem?_set_self (by rw [wipe_length]; exact hlt), if_pos hlt]
          · rw [List.getElem?_eq_none (by rw [List.length_set, wipe_length]; omega), if_neg hlt]
        · rw [List.getElem?_set_ne hw]
          exact ih (by rcases List.mem_cons.mp hm with e | e; exact absurd e.symm hw; exact e)
    rw [q σ2 vs hj, q σ vs hj, hl]
  · rw [wipe_out hj, wipe_out hj]
    exact h j hj
theorem dx_lc {K : PySem.W.Frag} {wi : TI} {g : TG} {tt : TT} {te : TE} {fi : EvI} {fg : EvG} {ft : EvT} {fe : EvX} {vs : List Nat} (hi : DI K wi fi) (hg : DG K (fun i => i ∉ vs) g fg) (ht : DT K tt ft) (he : DX K te fe) : DX K (tLc wi g tt te vs) (lcF fi fg ft fe vs) := fun σ ρ stk H Q o ρ' hl h e k => by
  unfold lcF at e
  simp only [Option.bind_eq_some_iff] at e
  obtain ⟨⟨ds, ρ1⟩, e1, ⟨out, ρe⟩, e2, ef⟩ := e
  dsimp only at ef e2
  cases ef
  refine hi σ ρ stk H _ ds ρ1 hl h e1 fun J H1 src l1 h1 w Da nD => ?_
  have hlen := w.len H1 _ h1
  -- the slots of the block put aside
  have h2 : Hd K H1 ((wipe σ vs).zip (wipeR ρ1 vs) ++ (savC σ ρ1 vs ++ (src ++ stk))) := (h1.perm (List.perm_append_comm_assoc _ _ _)).wipeOut (by omega) vs
  have h3 : Hd K (upd H1 Da (.lst [])) ((some (.ref Da), .own (.list [])) :: ((wipe σ vs).zip (wipeR ρ1 vs) ++ (savC σ ρ1 vs ++ (src ++ stk)))) := h2.newL nD .nil (Nat.zero_le _)
  refine ⟨fun i m H' => m = ds.length - i ∧ i ≤ ds.length ∧ ∃ ρi acc rest, acc.length ≤ i ∧ ρi.length = ρ1.length ∧ Hd K H' ((some (.ref Da), .own (.list acc)) :: ((wipe σ vs).zip ρi ++ (savC σ ρ1 vs ++ (src ++ stk)))) ∧ lcGo fg ft fe vs (ds.drop i) ρi = some (rest, ρe) ∧ acc ++ rest = out,
    ⟨ds.length, by simp, Nat.zero_le _, _, [], out, Nat.zero_le _, wipeR_length _ _, h3, by simpa using e2, rfl⟩, ?_⟩
  rintro i m H' ⟨rfl, hle, ρi, acc, rest, hacc, li, hi', ei, eo⟩
  -- src to the front
  have toFront : ∀ {H : Hp} {c : Cell} {ρi : Rh}, Hd K H (c :: ((wipe σ vs).zip ρi ++ (savC σ ρ1 vs ++ (src ++ stk)))) → Hd K H (src ++ (c :: ((wipe σ vs).zip ρi ++ (savC σ ρ1 vs ++ stk)))) := fun {H c ρi} h => by
    refine h.perm ?_
    refine List.Perm.trans (List.Perm.cons _ ?_) List.perm_middle.symm
    refine ((List.perm_append_comm_assoc _ _ _).append_left _).trans ?_
    exact List.perm_append_comm_assoc _ _ _
  by_cases hlt : i < ds.length
  · refine .inr ⟨w.go i H' _ hlt (toFront hi'), fun H2 => ∃ ρ2 acc rest, acc.length ≤ i + 1 ∧ ρ2.length = ρ1.length ∧ Hd K H2 ((some (.ref Da), .own (.list acc)) :: ((wipe σ vs).zip ρ2 ++ (savC σ ρ1 vs ++ (src ++ stk)))) ∧ lcGo fg ft fe vs (ds.drop (i + 1)) ρ2 = some (rest, ρe) ∧ acc ++ rest = out,
      fun H2 n2 => ⟨ds.length - (i + 1), by omega, rfl, hlt, n2⟩, fun x H2 y => ?_⟩
    rw [List.drop_eq_getElem_cons hlt] at ei
    simp only [lcGo, Option.bind_eq_some_iff] at ei
    obtain ⟨ρ2, eg, ⟨b, ρ3⟩, et, ei⟩ := ei
    have h4 := w.yld i ds[i] H' _ x H2 (List.getElem?_eq_getElem hlt) (toFront hi') y
    have h5 : Hd K H2 ((some x, .val ds[i]) :: ((wipe σ vs).zip ρi ++ ((some (.ref Da), .own (.list acc)) :: (savC σ ρ1 vs ++ (src ++ stk))))) := h4.perm (List.Perm.cons _ (by
      refine List.Perm.trans List.perm_middle ?_
      refine List.Perm.trans (List.Perm.cons _ ?_) List.perm_middle.symm
      refine (List.perm_append_comm_assoc _ _ _).trans ?_
      exact (List.perm_append_comm_assoc _ _ _).append_left _))
    refine hg x ds[i] (wipe σ vs) ρi _ H2 _ ρ2 (by rw [wipe_length]; omega) h5 eg fun σ3 H3 o3 l3 h6 => ⟨?_, ?_⟩
    · have q : wipe σ3 vs = wipe (wipe σ vs) vs := wipe_wipe (fun j hj => o3.2 j hj) o3.1
      rw [q]
      exact wipe_wipe (fun j hj => wipe_out hj) (wipe_length _ _)
    have hs3 : σ3.length = ρ2.length := by rw [o3.1, wipe_length]; omega
    -- back to the wiped slots
    have back : ∀ {H : Hp} {ρ4 : Rh} {stk' : List Cell}, ρ4.length = ρ1.length → Hd K H (σ3.zip ρ4 ++ stk') → Hd K H ((wipe σ vs).zip (wipeR ρ4 vs) ++ stk') := fun {H ρ4 stk'} l4 hh => by
      have q := hh.wipeOut (by omega) vs
      have e3 : wipe σ3 vs = wipe σ vs := by
        have q : wipe σ3 vs = wipe (wipe σ vs) vs := wipe_wipe (fun j hj => o3.2 j hj) o3.1
        rw [q]
        exact wipe_wipe (fun j hj => wipe_out hj) (wipe_length _ _)
      rw [e3] at q
      exact q.sub (List.Sublist.append_left (List.sublist_append_right _ _) _)
    refine ht σ3 ρ2 _ H3 _ b ρ3 hs3 h6 et fun H4 l4 h7 => ?_
    cases b with
    | false =>
      have ei' : lcGo fg ft fe vs (ds.drop (i + 1)) (wipeR ρ3 vs) = some (rest, ρe) := ei
      refine iteF ⟨wipeR ρ3 vs, acc, rest, by omega, by rw [wipeR_length]; omega, ?_, ei', eo⟩
      exact (back (by omega) h7).perm List.perm_middle
    | true =>
      simp only [if_true, Option.bind_eq_some_iff] at ei
      obtain ⟨⟨o4, ρ4⟩, e4, ⟨d5, ρ5⟩, e5, ⟨rest', ρe'⟩, e6, ef⟩ := ei
      dsimp only at ef e5 e6
      cases ef
      refine iteT (he σ3 ρ3 _ H4 _ o4 ρ4 (by omega) h7 e4 fun v4 H5 l5 h8 a4 => ?_)
      obtain ⟨h9, l9⟩ := frzO_ok (by omega) h8 a4 e5
      have h10 : Hd K H5 ((some (.ref Da), .own (.list acc)) :: (some v4, .val d5) :: (σ3.zip ρ5 ++ (savC σ ρ1 vs ++ (src ++ stk)))) := h9.perm ((List.Perm.cons _ List.perm_middle).trans (List.Perm.swap _ _ _))
      obtain ⟨Db, eb, xs, eD, qa, qz⟩ := h10.ok _ List.mem_cons_self
      cases eb
      have hx : xs.length = acc.length := qa.length
      refine ⟨xs, eD, by omega, wipeR ρ5 vs, acc ++ [d5], rest', by rw [List.length_append, List.length_singleton]; omega, by rw [wipeR_length]; omega, ?_, e6, by rw [List.append_assoc]; exact eo⟩
      rw [ownA_own] at qa
      have qv : Dn K (Da :: ownA ((some v4, .val d5) :: (σ3.zip ρ5 ++ (savC σ ρ1 vs ++ (src ++ stk))))) H5 v4 d5 := by
        obtain ⟨v', ev, r⟩ := h10.ok (some v4, .val d5) (List.mem_cons_of_mem _ List.mem_cons_self)
        cases ev
        rw [ownA_own] at r
        exact r
      have h11 := h10.wrL (qa.append (.cons qv .nil)) (by rw [List.length_append, List.length_singleton]; omega)
      have h12 := h11.sub (List.Sublist.cons_cons _ (List.sublist_cons_self _ _))
      exact (back (by omega) (h12.perm List.perm_middle.symm)).perm List.perm_middle
  · have ed : i = ds.length := by omega
    subst ed
    refine .inl ⟨w.stop H' _ (toFront hi'), ?_⟩
    rw [List.drop_length] at ei
    cases ei
    rw [List.append_nil] at eo
    subst eo
    refine k (.ref Da) H' (by rw [restR_length]; omega) ?_ True.intro
    have q1 : Hd K H' ((wipe σ vs).zip ρe ++ (savC σ ρ1 vs ++ ((some (.ref Da), .own (.list acc)) :: stk))) := by
      refine (toFront hi').sub (List.sublist_append_right _ _) |>.perm ?_
      refine List.Perm.trans List.perm_middle.symm ?_
      exact (List.perm_middle.symm).append_left _
    exact (Hd.wipeBack vs ρe (by omega) q1).perm List.perm_middle
section
variable {X : Cx} {M : Nat → Prop} {pos spos py : Pos} {elt tg iter : Expr} {ifs : List Expr} {scope : Scope} {own : List (Str × Nat)} {fi : EvI} {fg : EvG} {ft : EvT} {fe : EvX} {g : TG} {tt : TT} {te : TE}
theorem ex_lc (hc : X.calm = true) (hN : X.N.Nodup) (hi : IX X tg iter fi) (ok : BlkOk X.N X.env.scope scope own)
    (hg : ∀ (s : Shared) (H : Hp) (C : Addr) (cl : List (Str × Addr)) (fp : List Addr), PG (X.blk s H scope (compEnvC scope cl C X.env) fp) tg g) (dg : DG X.K (fun i => i ∉ own.map (·.2)) g fg)
    (ht : ∀ (s : Shared) (H : Hp) (C : Addr) (cl : List (Str × Addr)) (fp : List Addr), PTs (X.blk s H scope (compEnvC scope cl C X.env) fp) ifs tt) (dt : DT X.K tt ft)
    (he : ∀ (s : Shared) (H : Hp) (C : Addr) (cl : List (Str × Addr)) (fp : List Addr), PE (X.blk s H scope (compEnvC scope cl C X.env) fp) elt te) (de : DX X.K te fe)
    (hs : ∀ x, foldedSetIterable iter X.env x = pure x := by intro _; rfl) : EX X (.ListComp elt [⟨tg, iter, ifs, 0⟩] scope pos) (lcF fi fg ft fe (own.map (·.2))) := by
  obtain ⟨t, p, q⟩ := hi.ex
  exact ⟨_, pe_lc hc hN p ok hg ht he hs, dx_lc q dg dt de⟩
end
end DL
namespace DL
open PySem PySem.Spec L2

/-! ### the widest readings -/
def teD (K : PySem.W.Frag) (f : EvX) : TE := fun σ H Q => ∃ ρ stk o ρ', σ.length = ρ.length ∧ Hd K H (σ.zip ρ ++ stk) ∧ f ρ = some (o, ρ') ∧ ∀ v H', ρ'.length = ρ.length → Hd K H' (cellOf v o ++ (σ.zip ρ' ++ stk)) → AtO σ v o → Q v H'
def ttD (K : PySem.W.Frag) (f : EvT) : TT := fun σ H Q => ∃ ρ stk b ρ', σ.length = ρ.length ∧ Hd K H (σ.zip ρ ++ stk) ∧ f ρ = some (b, ρ') ∧ ∀ H', ρ'.length = ρ.length → Hd K H' (σ.zip ρ' ++ stk) → Q b H'
def tgD (K : PySem.W.Frag) (M : Nat → Prop) (f : EvG) : TG := fun v σ H Q => ∃ d ρ stk ρ', σ.length = ρ.length ∧ Hd K H ((some v, .val d) :: (σ.zip ρ ++ stk)) ∧ f d ρ = some ρ' ∧ ∀ σ' H', OkS M σ σ' → ρ'.length = ρ.length → Hd K H' (σ'.zip ρ' ++ stk) → Q σ' H'
theorem dx_teD {K : PySem.W.Frag} {f : EvX} : DX K (teD K f) f := fun σ ρ stk H Q o ρ' hl h e q => ⟨ρ, stk, o, ρ', hl, h, e, q⟩
theorem dt_ttD {K : PySem.W.Frag} {f : EvT} : DT K (ttD K f) f := fun σ ρ stk H Q o ρ' hl h e q => ⟨ρ, stk, o, ρ', hl, h, e, q⟩
theorem dg_tgD {K : PySem.W.Frag} {M : Nat → Prop} {f : EvG} : DG K M (tgD K M f) f := fun v d σ ρ stk H Q ρ' hl h e q => ⟨d, ρ, stk, ρ', hl, h, e, q⟩
theorem EX.pe {X : Cx} {e : Expr} {f : EvX} (h : EX X e f) : PE X e (teD X.K f) := by
  obtain ⟨t, p, q⟩ := h.ex
  exact ⟨fun pins s σ H Q I ⟨ρ, stk, o, ρ', hl, hd, e, k⟩ => p.run pins s σ H Q I (q σ ρ stk H Q o ρ' hl hd e k)⟩
theorem TX.pt {X : Cx} {e : Expr} {f : EvT} (h : TX X e f) : PT X e (ttD X.K f) := by
  obtain ⟨t, p, q⟩ := h.ex
  exact ⟨fun pins s σ H Q I ⟨ρ, stk, o, ρ', hl, hd, e, k⟩ => p.run pins s σ H Q I (q σ ρ stk H Q o ρ' hl hd e k)⟩
theorem GX.pg {X : Cx} {M : Nat → Prop} {e : Expr} {f : EvG} (h : GX X M e f) : PG X e (tgD X.K M f) := by
  obtain ⟨t, p, q⟩ := h.ex
  exact ⟨fun pins s σ H v u Q I r ⟨d, ρ, stk, ρ', hl, hd, e, k⟩ => p.run pins s σ H v u Q I r (q v d σ ρ stk H Q ρ' hl hd e k)⟩
structure TXs (X : Cx) (es : List Expr) (f : EvT) : Prop where
  ex : PTs X es (ttD X.K f)
@[simp] def yesT : EvT := fun ρ => some (true, ρ)
theorem txs_nil {X : Cx} : TXs X [] yesT := by
  have q : PTs X [] tYes := pts_nil
  exact ⟨⟨fun pins s σ H Q I ⟨ρ, stk, o, ρ', hl, hd, e, k⟩ => q.run pins s σ H Q I (by cases e; exact k H rfl hd)⟩⟩
theorem txs_one {X : Cx} {c : Expr} {f : EvT} (h : TX X c f) : TXs X [c] f := ⟨pts_one h.pt⟩
section
variable {X : Cx} {M : Nat → Prop} {pos spos py : Pos} {elt tg iter : Expr} {ifs : List Expr} {scope : Scope} {own : List (Str × Nat)} {fi : EvI} {fg : EvG} {ft : EvT} {fe : EvX} {i : Nat} {y : Str}
theorem ex_comp (hc : X.calm = true) (hN : X.N.Nodup) (hi : IX X tg iter fi) (ok : BlkOk X.N X.env.scope scope own)
    (hg : ∀ (s : Shared) (H : Hp) (C : Addr) (cl : List (Str × Addr)) (fp : List Addr), GX (X.blk s H scope (compEnvC scope cl C X.env) fp) (fun i => i ∉ own.map (·.2)) tg fg)
    (ht : ∀ (s : Shared) (H : Hp) (C : Addr) (cl : List (Str × Addr)) (fp : List Addr), TXs (X.blk s H scope (compEnvC scope cl C X.env) fp) ifs ft)
    (he : ∀ (s : Shared) (H : Hp) (C : Addr) (cl : List (Str × Addr)) (fp : List Addr), EX (X.blk s H scope (compEnvC scope cl C X.env) fp) elt fe)
    (hs : ∀ x, foldedSetIterable iter X.env x = pure x := by intro _; rfl) : EX X (.ListComp elt [⟨tg, iter, ifs, 0⟩] scope pos) (lcF fi fg ft fe (own.map (·.2))) :=
  ex_lc hc hN hi ok (fun s H C cl fp => (hg s H C cl fp).pg) dg_tgD (fun s H C cl fp => (ht s H C cl fp).ex) dt_ttD (fun s H C cl fp => (he s H C cl fp).pe) dx_teD hs
theorem sx_setLc (hc : X.calm = true) (hN : X.N.Nodup) (hy : X.N[i]? = some y) (hyl : X.env.scope.names.lookup y = some .local)
    (hsw : swapsWith (.ListComp elt [⟨tg, iter, ifs, 0⟩] scope pos) (some (.Name y py)) spos.line X.env = pure true) (hM : ¬ M i) (hi : IX X tg iter fi) (ok : BlkOk X.N X.env.scope scope own)
    (hg : ∀ (s : Shared) (H : Hp) (C : Addr) (cl : List (Str × Addr)) (fp : List Addr), GX (X.blk s H scope (compEnvC scope cl C X.env) fp) (fun i => i ∉ own.map (·.2)) tg fg)
    (ht : ∀ (s : Shared) (H : Hp) (C : Addr) (cl : List (Str × Addr)) (fp : List Addr), TXs (X.blk s H scope (compEnvC scope cl C X.env) fp) ifs ft)
    (he : ∀ (s : Shared) (H : Hp) (C : Addr) (cl : List (Str × Addr)) (fp : List Addr), EX (X.blk s H scope (compEnvC scope cl C X.env) fp) elt fe)
    (hs : ∀ x, foldedSetIterable iter X.env x = pure x := by intro _; rfl) : SX X M (.Assign [.Name y py] (.ListComp elt [⟨tg, iter, ifs, 0⟩] scope pos) spos) (setF i (lcF fi fg ft fe (own.map (·.2)))) := by
  obtain ⟨t, p, q⟩ := hi.ex
  exact ⟨_, ps_setLc hc hN hy hyl hsw p ok (fun s H C cl fp => (hg s H C cl fp).pg) (fun s H C cl fp => (ht s H C cl fp).ex) (fun s H C cl fp => (he s H C cl fp).pe) hs, ds_set (dx_lc q dg_tgD dt_ttD dx_teD) hM⟩
end

/-! ### a def of the text, called -/
abbrev Mir := List Sl → Option (Sl × List Sl)
def zipC (vs : List V) (ss : List Sl) : List Cell := (vs.map some).zip ss
def spD (K : PySem.W.Frag) (n : Nat) (m : Mir) : Sp := fun vs H Q _ => vs.length = n ∧ ∃ ss stk r ss', ss.length = n ∧ ss'.length = n ∧ Hd K H (zipC vs ss ++ stk) ∧ m ss = some (r, ss') ∧ ∀ v H', Hd K H' ((some v, r) :: (zipC vs ss' ++ stk)) → Q v H'
@[simp] def takeAll : List Opd → Rh → Option (List Sl × Rh)
  | [], ρ => some ([], ρ)
  | .tmp s :: os, ρ => (takeAll os ρ).bind fun p => some (s :: p.1, p.2)
  | .slot i :: os, ρ => match ρ[i]? with
    | some (.own d) => (takeAll os (ρ.set i .no)).bind fun p => some (.own d :: p.1, p.2)
    | some (.val d) => (takeAll os (ρ.set i .no)).bind fun p => some (.val d :: p.1, p.2)
    | _ => none
@[simp] def putAll : List Opd → List Sl → Rh → Rh
  | .slot i :: os, s :: ss, ρ => putAll os ss (ρ.set i s)
  | .tmp _ :: os, _ :: ss, ρ => putAll os ss ρ
  | _, _, ρ => ρ
section
variable {K : PySem.W.Frag} {H : Hp} {σ : St}
theorem takeAll_ok : ∀ {vs : List V} {os : List Opd} {ss : List Sl} {ρ ρ' : Rh} {stk : List Cell}, σ.length = ρ.length → Hd K H (cellsOf vs os ++ (σ.zip ρ ++ stk)) → AtOs σ vs os → takeAll os ρ = some (ss, ρ') → Hd K H (zipC vs ss ++ (σ.zip ρ' ++ stk)) ∧ ρ'.length = ρ.length ∧ vs.length = ss.length
  | [], [], ss, ρ, ρ', stk, hl, h, _, e => by cases e; exact ⟨h, rfl, rfl⟩
  | [], _ :: _, _, _, _, _, _, _, a, _ => a.elim
  | _ :: _, [], _, _, _, _, _, _, a, _ => a.elim
  | v :: vs, o :: os, ss, ρ, ρ', stk, hl, h, a, e => by
    have fin : ∀ {s : Sl} {ss2 : List Sl} {ρ1 : Rh}, ρ1.length = ρ.length → Hd K H ((some v, s) :: (cellsOf vs os ++ (σ.zip ρ1 ++ stk))) → takeAll os ρ1 = some (ss2, ρ') → Hd K H (zipC (v :: vs) (s :: ss2) ++ (σ.zip ρ' ++ stk)) ∧ ρ'.length = ρ.length ∧ (v :: vs).length = (s :: ss2).length := fun {s ss2 ρ1} l1 h1 e2 => by
      have h3 : Hd K H (cellsOf vs os ++ (σ.zip ρ1 ++ ((some v, s) :: stk))) := h1.perm (List.perm_middle.symm.trans ((List.perm_middle.symm).append_left _))
      obtain ⟨h4, l4, l5⟩ := takeAll_ok (by omega) h3 a.2 e2
      refine ⟨h4.perm (((List.perm_middle).append_left _).trans List.perm_middle), by omega, by rw [List.length_cons, List.length_cons, l5]⟩
    cases o with
    | tmp s =>
      simp only [takeAll, Option.bind_eq_some_iff] at e
      obtain ⟨⟨ss2, ρ2⟩, e2, ef⟩ := e
      dsimp only at ef
      cases ef
      exact fin rfl h e2
    | slot i =>
      have a' : σ[i]? = some (some v) := a.1
      have h0 : Hd K H (σ.zip ρ ++ (cellsOf vs os ++ stk)) := h.perm (List.perm_append_comm_assoc _ _ _)
      dsimp only [takeAll] at e
      split at e
      · rename_i d hd
        rw [Option.bind_eq_some_iff] at e
        obtain ⟨⟨ss2, ρ2⟩, e2, ef⟩ := e
        dsimp only at ef
        cases ef
        obtain ⟨c, z1, z2⟩ := zip_at hl hd
        rw [a'] at z1
        cases z1
        exact fin List.length_set ((h0.take z2 a').perm (List.Perm.cons _ (List.perm_append_comm_assoc _ _ _))) e2
      · rename_i d hd
        rw [Option.bind_eq_some_iff] at e
        obtain ⟨⟨ss2, ρ2⟩, e2, ef⟩ := e
        dsimp only at ef
        cases ef
        obtain ⟨c, z1, z2⟩ := zip_at hl hd
        rw [a'] at z1
        cases z1
        exact fin List.length_set ((h0.take z2 a').perm (List.Perm.cons _ (List.perm_append_comm_assoc _ _ _))) e2
      · cases e
theorem putAll_ok : ∀ {vs : List V} {os : List Opd} {ss : List Sl} {ρ : Rh} {stk : List Cell}, σ.length = ρ.length → vs.length = ss.length → Hd K H (zipC vs ss ++ (σ.zip ρ ++ stk)) → AtOs σ vs os → Hd K H (σ.zip (putAll os ss ρ) ++ stk) ∧ (putAll os ss ρ).length = ρ.length
  | [], [], ss, ρ, stk, hl, hv, h, _ => by
    cases ss with
    | nil => exact ⟨h, rfl⟩
    | cons _ _ => simp at hv
  | [], _ :: _, _, _, _, _, _, _, a => a.elim
  | _ :: _, [], _, _, _, _, _, _, a => a.elim
  | v :: vs, o :: os, [], _, _, _, hv, _, _ => by simp at hv
  | v :: vs, .tmp s0 :: os, s :: ss, ρ, stk, hl, hv, h, a => by
    have h' : Hd K H ((some v, s) :: (zipC vs ss ++ (σ.zip ρ ++ stk))) := h
    exact putAll_ok (vs := vs) (ss := ss) hl (by simpa using hv) h'.tail a.2
  | v :: vs, .slot i :: os, s :: ss, ρ, stk, hl, hv, h, a => by
    have h' : Hd K H ((some v, s) :: (zipC vs ss ++ (σ.zip ρ ++ stk))) := h
    have a' : σ[i]? = some (some v) := a.1
    have hi : i < ρ.length := by
      have := (List.getElem?_eq_some_iff.mp a').1
      omega
    have h1 : Hd K H (σ.zip (ρ.set i s) ++ (zipC vs ss ++ stk)) := Hd.put (h'.perm (List.Perm.cons _ (List.perm_append_comm_assoc _ _ _))) hl (List.getElem?_eq_getElem hi) a'
    obtain ⟨h2, l2⟩ := putAll_ok (ρ := ρ.set i s) (by rw [List.length_set]; exact hl) (by simpa using hv) (h1.perm (List.perm_append_comm_assoc _ _ _)) a.2
    exact ⟨h2, by rw [show putAll (.slot i :: os) (s :: ss) ρ = putAll os ss (ρ.set i s) from rfl, l2, List.length_set]⟩
end
def callF (m : Mir) (f : EvA) : EvX := fun ρ => (f ρ).bind fun p => (takeAll p.1 p.2).bind fun q => (m q.1).bind fun r => some (.tmp r.1, putAll p.1 r.2 q.2)
theorem dx_call {K : PySem.W.Frag} {n : Nat} {m : Mir} {E : XK} {t : TA} {f : EvA} (hn : ∀ ρ os ρ', f ρ = some (os, ρ') → os.length = n) (hm : ∀ ss r ss', m ss = some (r, ss') → ss'.length = ss.length) (ha : DAx K t f) : DX K (tCall (spD K n m) [] E t) (callF m f) := fun σ ρ stk H Q o ρ' hl h e k => by
  unfold callF at e
  simp only [Option.bind_eq_some_iff] at e
  obtain ⟨⟨os, ρ1⟩, e1, ⟨ss, ρ2⟩, e2, ⟨r, ss'⟩, e3, ef⟩ := e
  dsimp only at ef e2 e3
  cases ef
  refine ha σ ρ stk H _ os ρ1 hl h e1 fun vs H1 l1 h1 a1 => ?_
  obtain ⟨h2, l2, l3⟩ := takeAll_ok (by omega) h1 a1 e2
  have ln := hn _ _ _ e1
  have lv := a1.len
  have lm := hm _ _ _ e3
  rw [List.append_nil]
  refine ⟨by omega, ss, σ.zip ρ2 ++ stk, r, ss', by omega, by omega, h2, e3, fun v H' hf => ?_⟩
  have h3 : Hd K H' (zipC vs ss' ++ (σ.zip ρ2 ++ ((some v, r) :: stk))) := hf.perm (List.perm_middle.symm.trans ((List.perm_middle.symm).append_left _))
  obtain ⟨h4, l4⟩ := putAll_ok (by omega) (by omega) h3 a1
  exact k v H' (by omega) (h4.perm List.perm_middle) True.intro
section
variable {X : Cx} {CX : CXT} {k n : Nat} {f : Addr} {fd : FuncData} {ps : List Str} {m : Mir} {E : XK} {x : Str} {p pos : Pos} {e : Expr} {es : List Expr} {fa : EvA}
theorem ex_call (F : FnOk X.prog X.w X.K X.mg X.base CX k f fd ps (spD X.K n m)) (hr : Room k X.A) (hg : Gl X x) (hm : X.mg x = some (.ref f)) (hk : PySem.W.keepIn X.K (.ref f) = true) (hb : Binds X.K fd ps []) (hx : Passes CX X E) (hl : ∀ ss r ss', m ss = some (r, ss') → ss'.length = ss.length)
    (ha : AX X (e :: es) fa) (hn : (e :: es).length = n := by rfl) (hdb : (x == ("__debug__" : Str)) = false := by decide) (he : starEach (e :: es) X.env = (false, eval e X.env) :: starEach es X.env := by rfl) (hpl : (backTo pos (starEach es X.env)).any (·.1) = false := by rfl) :
    EX X (.Call (.Name x p) (e :: es) [] pos) (callF m fa) := by
  obtain ⟨t, p, q⟩ := ha.ex
  exact ⟨_, pe_call F hr hg hm hk hb .nil hx p hdb he hpl, dx_call (fun ρ os ρ' e => (ha.len ρ os ρ' e).trans hn) hl q⟩
theorem ex_call0 (F : FnOk X.prog X.w X.K X.mg X.base CX k f fd ps (spD X.K 0 m)) (hr : Room k X.A) (hg : Gl X x) (hm : X.mg x = some (.ref f)) (hk : PySem.W.keepIn X.K (.ref f) = true) (hb : Binds X.K fd ps []) (hx : Passes CX X E) (hl : ∀ ss r ss', m ss = some (r, ss') → ss'.length = ss.length)
    (hdb : (x == ("__debug__" : Str)) = false := by decide) : EX X (.Call (.Name x p) [] [] pos) (callF m nilA) :=
  ⟨_, pe_call0 F hr hg hm hk hb .nil hx hdb, dx_call (fun ρ os ρ' e => by cases e; rfl) hl dax_nil⟩
end

/-! ### a def's body keeps the promise of its mirror -/
abbrev Pn (pin : List Bool) : Nat → Prop := fun i => pin[i]? = some true
/-- what is stored to must not be owned by the caller -/
@[simp] def okIn : List Bool → List Sl → Bool
  | [], [] => true
  | true :: ps, _ :: ss => okIn ps ss
  | false :: ps, .own _ :: ss => false
  | false :: ps, _ :: ss => okIn ps ss
  | _, _ => false
def maskS : List Bool → List Sl → List Sl
  | true :: ps, _ :: ss => .no :: maskS ps ss
  | false :: ps, s :: ss => s :: maskS ps ss
  | _, _ => []
@[simp] def outS : List Bool → List Sl → Rh → List Sl
  | true :: ps, _ :: ss, r :: ρ => r :: outS ps ss ρ
  | false :: ps, s :: ss, _ :: ρ => s :: outS ps ss ρ
  | _, _, _ => []
def fnD (n : Nat) (pin : List Bool) (body : EvS) : Mir := fun ss => if okIn pin ss then (body (ss ++ List.replicate (n - ss.length) .no)).bind fun fl => match fl with
    | .rt r ρ' => if ρ'.length = n then some (r, outS pin ss ρ') else none
    | .nx ρ' => if ρ'.length = n then some (.val .none, outS pin ss ρ') else none
    | _ => none
  else none
theorem okIn_len : ∀ {pin : List Bool} {ss : List Sl}, okIn pin ss = true → pin.length = ss.length
  | [], [], _ => rfl
  | [], _ :: _, h => by cases h
  | true :: ps, [], h => by cases h
  | false :: ps, [], h => by cases h
  | true :: ps, _ :: ss, h => by rw [List.length_cons, List.length_cons, okIn_len (pin := ps) (ss := ss) h]
  | false :: ps, .own _ :: ss, h => by cases h
  | false :: ps, .val _ :: ss, h => by rw [List.length_cons, List.length_cons, okIn_len (pin := ps) (ss := ss) h]
  | false :: ps, .no :: ss, h => by rw [List.length_cons, List.length_cons, okIn_len (pin := ps) (ss := ss) h]
theorem outS_len : ∀ {pin : List Bool} {ss : List Sl} {ρ : Rh}, pin.length = ss.length → ss.length ≤ ρ.length → (outS pin ss ρ).length = ss.length
  | [], [], _, _, _ => rfl
  | [], _ :: _, _, h, _ => by simp at h
  | _ :: _, [], _, h, _ => by simp at h
  | _ :: _, _ :: _, [], _, h => by simp at h
  | true :: ps, _ :: ss, _ :: ρ, h, h2 => by
    have := outS_len (pin := ps) (ss := ss) (ρ := ρ) (by simpa using h) (by simpa using h2)
    rw [show outS (true :: ps) (_ :: ss) (_ :: ρ) = _ :: outS ps ss ρ from rfl, List.length_cons, List.length_cons, this]
  | false :: ps, _ :: ss, _ :: ρ, h, h2 => by
    have := outS_len (pin := ps) (ss := ss) (ρ := ρ) (by simpa using h) (by simpa using h2)
    rw [show outS (false :: ps) (_ :: ss) (_ :: ρ) = _ :: outS ps ss ρ from rfl, List.length_cons, List.length_cons, this]
theorem fnD_len {n : Nat} {pin : List Bool} {body : EvS} (hp : pin.length ≤ n) {ss : List Sl} {r : Sl} {ss' : List Sl} (e : fnD n pin body ss = some (r, ss')) : ss'.length = ss.length := by
  unfold fnD at e
  split at e
  · rename_i hok
    have hl := okIn_len hok
    rw [Option.bind_eq_some_iff] at e
    obtain ⟨fl, e1, e2⟩ := e
    split at e2
    · split at e2
      · cases e2; exact outS_len hl (by omega)
      · cases e2
    · split at e2
      · cases e2; exact outS_len hl (by omega)
      · cases e2
    · cases e2
  · cases e
section
variable {K : PySem.W.Frag} {H : Hp}
theorem Hd.dups : ∀ {pin : List Bool} {vs : List V} {ss : List Sl} {stk : List Cell}, okIn pin ss = true → vs.length = ss.length → Hd K H (zipC vs ss ++ stk) → Hd K H (zipC vs ss ++ (zipC vs (maskS pin ss) ++ stk))
  | [], vs, [], stk, _, _, h => by
    cases vs with
    | nil => exact h
    | cons _ _ => exact h
  | [], _, _ :: _, _, h, _, _ => by cases h
  | true :: ps, _, [], _, h, _, _ => by cases h
  | false :: ps, _, [], _, h, _, _ => by cases h
  | b :: ps, [], _ :: _, _, _, h, _ => by simp at h
  | b :: ps, v :: vs, s :: ss, stk, hok, hl, h => by
    have h' : Hd K H ((some v, s) :: (zipC vs ss ++ stk)) := h
    have fin : ∀ {s' : Sl}, okIn ps ss = true → Hd K H ((some v, s') :: (some v, s) :: (zipC vs ss ++ stk)) → Hd K H (((some v, s) :: zipC vs ss) ++ (((some v, s') :: zipC vs (maskS ps ss)) ++ stk)) := fun {s'} ok h1 => by
      have h2 : Hd K H (zipC vs ss ++ ((some v, s') :: (some v, s) :: stk)) := h1.perm (by
        refine (List.Perm.cons _ List.perm_middle.symm).trans ?_
        exact List.perm_middle.symm)
      have h3 := Hd.dups ok (by simpa using hl) h2
      refine h3.perm ?_
      have q1 : (zipC vs (maskS ps ss) ++ ((some v, s') :: (some v, s) :: stk)).Perm ((some v, s) :: (((some v, s') :: zipC vs (maskS ps ss)) ++ stk)) := List.perm_middle.trans ((List.Perm.cons _ List.perm_middle).trans (List.Perm.swap _ _ _))
      exact (q1.append_left _).trans List.perm_middle
    cases b with
    | true => exact fin (s' := .no) hok (h'.addNo _)
    | false =>
      cases s with
      | own d => cases hok
      | no => exact fin (s' := .no) hok (h'.addNo _)
      | val d => exact fin (s' := .val d) hok h'.dup
theorem Hd.outs : ∀ {pin : List Bool} {vs : List V} {ss : List Sl} {σ : St} {ρ : Rh} {cs stk : List Cell}, pin.length = ss.length → vs.length = ss.length → vs.length ≤ σ.length → σ.length = ρ.length → (∀ i : Nat, pin[i]? = some true → σ[i]? = some (vs[i]?)) →
    Hd K H (cs ++ (σ.zip ρ ++ (zipC vs (maskS pin ss) ++ stk))) → Hd K H (cs ++ (zipC vs (outS pin ss ρ) ++ stk))
  | [], [], [], σ, ρ, cs, stk, _, _, _, _, _, h => by
    refine h.sub (List.Sublist.append_left ?_ _)
    exact List.sublist_append_right _ _
  | [], _, _ :: _, _, _, _, _, h, _, _, _, _, _ => by simp at h
  | _ :: _, _, [], _, _, _, _, h, _, _, _, _, _ => by simp at h
  | _, [], _ :: _, _, _, _, _, _, h, _, _, _, _ => by simp at h
  | _, _ :: _, [], _, _, _, _, _, h, _, _, _, _ => by simp at h
  | _, _ :: _, _, [], _, _, _, _, _, h, _, _, _ => by simp at h
  | _, _, _, _ :: _, [], _, _, _, _, _, h, _, _ => by simp at h
  | b :: ps, v :: vs, s :: ss, x :: σ, r :: ρ, cs, stk, h1, h2, h3, h4, hp, h => by
    have rec' : ∀ {c : Cell}, Hd K H ((cs ++ [c]) ++ (σ.zip ρ ++ (zipC vs (maskS ps ss) ++ stk))) → Hd K H (cs ++ ((c :: zipC vs (outS ps ss ρ)) ++ stk)) := fun {c} hh => by
      have q := Hd.outs (pin := ps) (cs := cs ++ [c]) (by simpa using h1) (by simpa using h2) (by simpa using h3) (by simpa using h4) (fun i hi => by simpa using hp (i + 1) (by simpa using hi)) hh
      rw [List.append_assoc] at q
      exact q
    cases b with
    | true =>
      have ex : x = some v := by simpa using hp 0 rfl
      subst ex
      have h' : Hd K H (cs ++ ((some v, r) :: (σ.zip ρ ++ ((some v, .no) :: (zipC vs (maskS ps ss) ++ stk))))) := h
      refine rec' (c := (some v, r)) ?_
      rw [List.append_assoc]
      exact Hd.sub (l' := cs ++ ((some v, r) :: (σ.zip ρ ++ (zipC vs (maskS ps ss) ++ stk)))) h' (List.Sublist.append_left (List.Sublist.cons_cons _ (List.Sublist.append_left (List.sublist_cons_self _ _) _)) _)
    | false =>
      have h' : Hd K H (cs ++ ((x, r) :: (σ.zip ρ ++ ((some v, s) :: (zipC vs (maskS ps ss) ++ stk))))) := h
      refine rec' (c := (some v, s)) ?_
      rw [List.append_assoc]
      refine Hd.perm (l := cs ++ (σ.zip ρ ++ ((some v, s) :: (zipC vs (maskS ps ss) ++ stk)))) (h'.sub (List.Sublist.append_left (List.sublist_cons_self _ _) _)) (List.Perm.append_left _ List.perm_middle)
theorem Hd.addNos (h : Hd K H l) : ∀ n : Nat, Hd K H (List.replicate n (none, Sl.no) ++ l)
  | 0 => h
  | n + 1 => (Hd.addNos h n).addNo none
end
section
variable {P : Program} {w : World} {K : PySem.W.Frag} {mg : Str → Option Value} {base : Heap}
theorem fn_ok {x qual : Str} {st : Stmt} {f : Addr} {fd : FuncData} {N ps : List Str} {k : Nat} {pin : List Bool} {body : EvS} (F : Fun K x qual st f fd) (S : FnScope N ps (defScope st)) (hpin : pin.length = ps.length)
    (hb : ∀ (cdv : Value) (A : Around) (outer : List PySem.Env) (s : Shared) (H : Hp) (E : XK), Room k (A.deeper (PyProof.Rows.envOfC qual (defScope st) s.heap.objs.size f cdv)) → BX (cxOf CX0 P w K mg base N qual (defScope st) f cdv A outer s H E).nox (Pn pin) (defBody st) body) :
    FnOk P w K mg base CX0 (k + 1) f fd ps (spD K ps.length (fnD N.length pin body)) := by
  have hN : ps.length ≤ N.length := by
    have := congrArg List.length S.pre
    rw [List.length_take] at this
    omega
  refine F.ok S (fun vs H Q E h => h.1) (fun cdv A outer s H vs Q E hr h => ?_)
  obtain ⟨hv, ss, stk, r, ss', l1, l2, hd, em, q⟩ := h
  obtain ⟨t, p, d⟩ := (hb cdv A outer s H E hr).ex
  refine ⟨t, p, ?_⟩
  unfold fnD at em
  split at em
  case isFalse => cases em
  rename_i hok
  rw [Option.bind_eq_some_iff] at em
  obtain ⟨fl, e1, e2⟩ := em
  have hz : (L2.start N vs).zip (ss ++ List.replicate (N.length - ss.length) Sl.no) = zipC vs ss ++ List.replicate (N.length - ss.length) (none, Sl.no) := by
    unfold L2.start zipC
    rw [List.zip_append (by rw [List.length_map]; omega), hv, l1]
    congr 1
    generalize N.length - ps.length = j
    induction j with
    | zero => rfl
    | succ j ih => rw [List.replicate_succ, List.replicate_succ, List.replicate_succ, List.zip_cons_cons, ih]
  have ls : (L2.start N vs).length = N.length := by
    unfold L2.start
    rw [List.length_append, List.length_map, List.length_replicate]
    omega
  have h1 := Hd.dups hok (by omega) hd
  have h2 : Hd K H ((L2.start N vs).zip (ss ++ List.replicate (N.length - ss.length) Sl.no) ++ (zipC vs (maskS pin ss) ++ stk)) := by
    rw [hz, List.append_assoc]
    exact (Hd.addNos h1 (N.length - ss.length)).perm (List.perm_append_comm_assoc _ _ _)
  have hM : ∀ {σ' : St}, OkS (Pn pin) (L2.start N vs) σ' → ∀ i : Nat, pin[i]? = some true → σ'[i]? = some (vs[i]?) := fun {σ'} o i hi => by
    rw [o.2 i hi]
    have hlt : i < vs.length := by
      have := (List.getElem?_eq_some_iff.mp hi).1
      omega
    unfold L2.start
    rw [List.getElem?_append_left (by rw [List.length_map]; exact hlt), List.getElem?_map, List.getElem?_eq_getElem hlt]
    rfl
  have fin : ∀ {c : Sl} {v : V} {σ' : St} {ρ' : Rh} {H' : Hp}, ρ'.length = N.length → OkS (Pn pin) (L2.start N vs) σ' → Hd K H' ((some v, c) :: (σ'.zip ρ' ++ (zipC vs (maskS pin ss) ++ stk))) → Hd K H' ((some v, c) :: (zipC vs (outS pin ss ρ') ++ stk)) := fun {c v σ' ρ' H'} lr o hh =>
    Hd.outs (cs := [(some v, c)]) (by omega) (by omega) (by rw [o.1, ls]; omega) (by rw [o.1, ls]; exact lr.symm) (hM o) hh
  refine d _ (L2.start N vs) _ _ H fl (by rw [ls, List.length_append, List.length_replicate]; omega) h2 e1 ?_
  split at e2
  · rename_i r' ρ'
    split at e2
    · rename_i lr
      cases e2
      exact fun v σ' H' o l h => q v H' (fin lr o h)
    · cases e2
  · rename_i ρ'
    split at e2
    · rename_i lr
      cases e2
      exact fun σ' H' o l h => q .non H' (fin lr o (h.addVal .non))
    · cases e2
  · cases e2
end
end DL
namespace DL
open PySem PySem.Spec L2

/-! ### the operators' answers over data -/
@[simp] def vI (i : Int) : Option Sl := some (.val (.int i))
@[simp] def vB (b : Bool) : Option Sl := some (.val (.bool b))
@[simp] def vS (x : Str) : Option Sl := some (.val (.str x))
@[simp] def addD : Op2
  | .int i, .int j => vI (i + j)
  | .str x, .str y => if x.length + y.length ≤ 16777216 then vS (x ++ y) else none
  | .list xs, .list ys => if xs.length + ys.length ≤ 16777216 then some (.own (.list (xs ++ ys))) else none
  | .tuple xs, .tuple ys => if xs.length + ys.length ≤ 16777216 then some (.val (.tuple (xs ++ ys))) else none
  | _, _ => none
@[simp] def subD : Op2
  | .int i, .int j => vI (i - j)
  | _, _ => none
def mulOk (i j : Int) : Bool := decide (-(2 ^ 64) < i ∧ i < 2 ^ 64) || decide (-(2 ^ 64) < j ∧ j < 2 ^ 64)
@[simp] def mulD : Op2
  | .int i, .int j => if mulOk i j then vI (i * j) else none
  | _, _ => none
@[simp] def modD : Op2
  | .int i, .int j => if 0 < j then vI (i % j) else none
  | _, _ => none
@[simp] def fdivD : Op2
  | .int i, .int j => if 0 < j ∧ j ≤ 10 ^ 80 then vI (i / j) else none
  | _, _ => none
@[simp] def powD : Op2
  | .int i, .int j => if 0 ≤ j ∧ j ≤ 1000000 ∧ i.natAbs < 2 ^ 64 then vI (i ^ j.toNat) else none
  | _, _ => none
@[simp] def ltD : Op2
  | .int i, .int j => vB (decide (i < j))
  | _, _ => none
@[simp] def leD : Op2
  | .int i, .int j => vB (decide (i ≤ j))
  | _, _ => none
@[simp] def gtD : Op2
  | .int i, .int j => vB (decide (j < i))
  | _, _ => none
@[simp] def geD : Op2
  | .int i, .int j => vB (decide (j ≤ i))
  | _, _ => none
/-- == -/
@[simp] def eqB : D → D → Option Bool
  | .int i, .int j => some (decide (i = j))
  | .str x, .str y => some (decide (x = y))
  | .bool x, .bool y => some (decide (x = y))
  | .none, .none => some true
  | d, e => if SeqAt.shaped d && SeqAt.shaped e then some (PyData.eqv d e) else none
@[simp] def eqD : Op2 := fun d e => (eqB d e).bind fun b => vB b
@[simp] def neD : Op2 := fun d e => (eqB d e).bind fun b => vB (!b)
@[simp] def isNone : D → Bool
  | .none => true
  | _ => false
/-- is: against None, or of two bools -/
@[simp] def isB : D → D → Option Bool
  | d, .none => some (isNone d)
  | .bool a, .bool b => some (decide (a = b))
  | _, .bool _ => some false
  | _, _ => none
@[simp] def isD : Op2 := fun d e => (isB d e).bind fun b => vB b
@[simp] def isntD : Op2 := fun d e => (isB d e).bind fun b => vB (!b)
@[simp] def flatD : D → Bool
  | .none => true
  | .bool _ => true
  | .int _ => true
  | .str _ => true
  | _ => false
@[simp] def eqF : D → D → Bool
  | .none, .none => true
  | .bool a, .bool b => a == b
  | .bool a, .int b => (if a then 1 else 0) == b
  | .int a, .bool b => a == (if b then 1 else 0)
  | .int a, .int b => a == b
  | .str a, .str b => a == b
  | _, _ => false
@[simp] def keyD : D → Option Key
  | .int i => some (.inl i)
  | .str x => some (.inr x)
  | _ => none
def isKey (k : Key) : D → Bool
  | .int i => decide (k = .inl i)
  | .str x => decide (k = .inr x)
  | _ => false
def lookD (es : List (D × D)) (k : Key) : Option D := (es.find? fun e => isKey k e.1).map (·.2)
/-- in -/
@[simp] def inB : D → D → Option Bool
  | x, .list ds => if flatD x && ds.all flatD then some (ds.any fun y => eqF y x) else if SeqAt.shaped x && SeqAt.shaped (.list ds) then some (ds.any fun y => PyData.eqv y x) else none
  | x, .tuple ds => if flatD x && ds.all flatD then some (ds.any fun y => eqF y x) else none
  | .str x, .str z => match x.cps.toList with
    | [c] => some (decide (c ∈ z.cps.toList))
    | _ => some (!(Builtin.Str.occurrences z x 0 z.length 1).isEmpty)
  | x, .dict es => (keyD x).map fun k => (lookD es k).isSome
  | _, _ => none
@[simp] def inD : Op2 := fun d e => (inB d e).bind fun b => vB b
@[simp] def notInD : Op2 := fun d e => (inB d e).bind fun b => vB (!b)
/-- a[i] -/
@[simp] def ixD : Op2
  | .list ds, .int i => (atI ds i).map Sl.val
  | .tuple ds, .int i => (atI ds i).map Sl.val
  | .str z, .int i => if z.length ≤ 16777216 then (atI z.cps.toList i).map (fun c => Sl.val (.str ⟨#[c]⟩)) else none
  | .dict es, x => (keyD x).bind fun k => (lookD es k).map Sl.val
  | _, _ => none
@[simp] def negD : Op1
  | .int i => vI (-i)
  | _ => none
def cutD (xs : List D) (lo hi : Option Int) : List D := (xs.drop (HT.sIx xs.length 0 lo)).take (HT.sIx xs.length xs.length hi - HT.sIx xs.length 0 lo)
@[simp] def sliceD : D → Option Int → Option Int → Option Sl
  | .list ds, lo, hi => some (.own (.list (cutD ds lo hi)))
  | .tuple ds, lo, hi => some (.val (.tuple (cutD ds lo hi)))
  | .str z, lo, hi => if z.length ≤ 16777216 then some (.val (.str (cutS z lo hi))) else none
  | _, _, _ => none

/-! ### they are what Python answers -/
section
variable {X : Cx} {K : PySem.W.Frag}
theorem ok_int {K : PySem.W.Frag} {l : List Cell} {H : Hp} {i : Int} {s : Sl} {Q : VK} (h : Hd K H l) (e : vI i = some s) (q : ∀ v H', Hd K H' ((some v, s) :: l) → Q v H') : Q (.int i) H := by
  cases e
  exact q _ H (h.addVal (.int i))
theorem ok_bool {K : PySem.W.Frag} {l : List Cell} {H : Hp} {i : Bool} {s : Sl} {Q : VK} (h : Hd K H l) (e : vB i = some s) (q : ∀ v H', Hd K H' ((some v, s) :: l) → Q v H') : Q (.bl i) H := by
  cases e
  exact q _ H (h.addVal (.bl i))
theorem ok_str {K : PySem.W.Frag} {l : List Cell} {H : Hp} {i : Str} {s : Sl} {Q : VK} (h : Hd K H l) (e : vS i = some s) (q : ∀ v H', Hd K H' ((some v, s) :: l) → Q v H') : Q (.str i) H := by
  cases e
  exact q _ H (h.addVal (.str i))
/-- two lists to be read, one behind the other -/
def rCatR (K : PySem.W.Frag) : R2 := fun x y H Q => ∃ l b xs zs, x = .ref l ∧ y = .ref b ∧ SqL K H l xs ∧ SqL K H b zs ∧ xs.length + zs.length ≤ sizeLine ∧ ∀ p, H p = none → Q (.ref p) (upd H p (.lst (xs ++ zs)))
theorem op_catR : OpR X (binaryOp .Add) (rCatR X.K) := fun pins s σ H x y v u Q I rx ry h => by
  obtain ⟨l, b, xs, zs, e1, e2, r1, r2, z, q⟩ := h
  subst e1 e2
  cases rx
  cases ry
  obtain ⟨a1, p1, ⟨⟨c1, d1, t1, k1⟩, n1, g1, w1, w2, w3⟩, _⟩ := I.list r1
  obtain ⟨a2, p2, ⟨⟨c2, d2, t2, k2⟩, n2, g2, v1, v2, v3⟩, _⟩ := I.list r2
  simp only at w1 w3 v1 v3
  subst w1 w3 v1 v3
  have m1 := p1.length
  have m2 := p2.length
  refine PySem.concat_meets ⟨_, g1, rfl⟩ ⟨_, g2, rfl⟩ PySem.noFill_list_add PySem.seq_list_add PySem.F.slot_list_add PySem.F.entry_list_add (PySem.F.args_list_add_2 _ _)
    (PyProof.Rows.list_addW l b a1.toArray a2.toArray n1 n2 d1 d2 k1 k2 (by simp only [List.size_toArray]; omega)) ⟨g1, g2, ?_⟩
  rw [show a1.toArray ++ a2.toArray = (a1 ++ a2).toArray by simp]
  exact ⟨.ref _, _, I.lnew (t' := s.toks) (p1.append p2) (by simp only [List.length_append]; omega), rfl, q _ I.fresh⟩
def rAddA (K : PySem.W.Frag) : R2 := fun x y H Q => rI0 (fun i j => .int (i + j)) x y H Q ∨ (∃ i j, x = .str i ∧ y = .str j ∧ i.length + j.length ≤ sizeLine ∧ Q (.str (i ++ j)) H) ∨ rCatR K x y H Q ∨ rCatA K x y H Q
theorem op_addA : OpR X (binaryOp .Add) (rAddA X.K) := op_add.or (op_add_str.or (op_catR.or op_catA))
theorem ok_add : OpOk K (rAddA K) addD := fun l H x y dx dy s Q h rx ry e q => by
  unfold addD at e
  split at e
  · cases rx; cases ry; exact .inl ⟨_, _, rfl, rfl, ok_int h e q⟩
  · split at e
    · cases rx; cases ry; exact .inr (.inl ⟨_, _, rfl, rfl, lineOf (by assumption), ok_str h e q⟩)
    · cases e
  · split at e
    · rename_i hz
      cases e
      obtain ⟨a, xs, rfl, r1, q1, _⟩ := rx
      obtain ⟨b, ys, rfl, r2, q2, _⟩ := ry
      refine .inr (.inr (.inl ⟨a, b, xs, ys, rfl, rfl, r1, r2, by rw [q1.length, q2.length]; exact lineOf hz, fun p np => ?_⟩))
      exact q _ _ (h.newL np (q1.append q2) (by rw [List.length_append]; exact lineOf hz))
    · cases e
  · split at e
    · rename_i hz
      cases e
      obtain ⟨a, xs, rfl, r1, q1, z1⟩ := rx
      obtain ⟨b, ys, rfl, r2, q2, z2⟩ := ry
      refine .inr (.inr (.inr ⟨a, b, xs, ys, rfl, rfl, r1, r2, by rw [q1.length, q2.length]; exact lineOf hz, fun hx => ?_, fun hx hy => ?_, fun hx hy p np => ?_⟩))
      · subst hx
        cases q1
        exact q _ _ (h.addVal (.tup r2 (q2.length ▸ z2) q2))
      · subst hy
        cases q2
        rw [List.append_nil] at q
        exact q _ _ (h.addVal (.tup r1 (q1.length ▸ z1) q1))
      · exact q _ _ (h.newT np (q1.append q2) (by rw [List.length_append]; exact lineOf hz))
    · cases e
  · cases e
theorem ok_sub : OpOk K (rI0 fun i j => .int (i - j)) subD := fun l H x y dx dy s Q h rx ry e q => by
  unfold subD at e
  split at e
  · cases rx; cases ry; exact ⟨_, _, rfl, rfl, ok_int h e q⟩
  · cases e
theorem ok_mul : OpOk K (rI CMul fun i j => .int (i * j)) mulD := fun l H x y dx dy s Q h rx ry e q => by
  unfold mulD at e
  split at e
  · split at e
    · rename_i hm
      cases rx; cases ry
      refine ⟨_, _, rfl, rfl, ?_, ok_int h e q⟩
      simpa [mulOk, CMul] using hm
    · cases e
  · cases e
theorem ok_mod : OpOk K (rI (fun _ j => 0 < j) fun i j => .int (i % j)) modD := fun l H x y dx dy s Q h rx ry e q => by
  unfold modD at e
  split at e
  · split at e
    · cases rx; cases ry; exact ⟨_, _, rfl, rfl, by assumption, ok_int h e q⟩
    · cases e
  · cases e
theorem ok_fdiv : OpOk K (rI CDivW fun i j => .int (i / j)) fdivD := fun l H x y dx dy s Q h rx ry e q => by
  unfold fdivD at e
  split at e
  · split at e
    · rename_i i j hj
      have hb : j.natAbs < 2 ^ 300 := by
        have h1 : (10 : Int) ^ 80 < 2 ^ 300 := by decide
        omega
      cases rx; cases ry; exact ⟨_, _, rfl, rfl, wide_div hj.1 hb (by decide) (by decide), ok_int h e q⟩
    · cases e
  · cases e
theorem ok_pow : OpOk K (rI CPow fun i j => .int (i ^ j.toNat)) powD := fun l H x y dx dy s Q h rx ry e q => by
  unfold powD at e
  split at e
  · split at e
    · cases rx; cases ry; exact ⟨_, _, rfl, rfl, by assumption, ok_int h e q⟩
    · cases e
  · cases e
theorem ok_lt : OpOk K (rI0 fun i j => .bl (decide (i < j))) ltD := fun l H x y dx dy s Q h rx ry e q => by
  unfold ltD at e
  split at e
  · cases rx; cases ry; exact ⟨_, _, rfl, rfl, ok_bool h e q⟩
  · cases e
theorem ok_le : OpOk K (rI0 fun i j => .bl (decide (i ≤ j))) leD := fun l H x y dx dy s Q h rx ry e q => by
  unfold leD at e
  split at e
  · cases rx; cases ry; exact ⟨_, _, rfl, rfl, ok_bool h e q⟩
  · cases e
theorem ok_gt : OpOk K (rI0 fun i j => .bl (decide (j < i))) gtD := fun l H x y dx dy s Q h rx ry e q => by
  unfold gtD at e
  split at e
  · cases rx; cases ry; exact ⟨_, _, rfl, rfl, ok_bool h e q⟩
  · cases e
theorem ok_ge : OpOk K (rI0 fun i j => .bl (decide (j ≤ i))) geD := fun l H x y dx dy s Q h rx ry e q => by
  unfold geD at e
  split at e
  · cases rx; cases ry; exact ⟨_, _, rfl, rfl, ok_bool h e q⟩
  · cases e
def rEqA (K : PySem.W.Frag) : R2 := fun x y H Q => rEq x y H Q ∨ rEqD K x y H Q
def rNeA (K : PySem.W.Frag) : R2 := fun x y H Q => rNe x y H Q ∨ rNeD K x y H Q
theorem op_eqA (hu : X.A.units + 64 < cLine) : OpR X (compareOp .Eq) (rEqA X.K) := op_eq.or (op_eqD hu)
theorem op_neA (hu : X.A.units + 64 < cLine) : OpR X (compareOp .NotEq) (rNeA X.K) := op_ne.or (op_neD hu)
theorem eqB_rn {W : List Addr} {H : Hp} {x y : V} {dx dy : D} {b : Bool} (rx : Rn K W H x dx) (ry : Rn K W H y dy) (e : eqB dx dy = some b) : (scal x y = true ∧ decide (x = y) = b) ∨ ∃ d e, Dp K H x d ∧ Dp K H y e ∧ SeqAt.shaped d = true ∧ SeqAt.shaped e = true ∧ PyData.eqv d e = b := by
  unfold eqB at e
  split at e
  · cases rx; cases ry; cases e; exact .inl ⟨rfl, by simp⟩
  · cases rx; cases ry; cases e; exact .inl ⟨rfl, by simp⟩
  · cases rx; cases ry; cases e; exact .inl ⟨rfl, by simp⟩
  · cases rx; cases ry; cases e; exact .inl ⟨rfl, by simp⟩
  · split at e
    · rename_i hs
      rw [Bool.and_eq_true] at hs
      cases e
      exact .inr ⟨_, _, rn_dp rx (SeqAt.canLay_of_shaped hs.1), rn_dp ry (SeqAt.canLay_of_shaped hs.2), hs.1, hs.2, rfl⟩
    · cases e
theorem ok_eq : OpOk K (rEqA K) eqD := fun l H x y dx dy s Q h rx ry e q => by
  unfold eqD at e
  rw [Option.bind_eq_some_iff] at e
  obtain ⟨b, e1, e2⟩ := e
  rcases eqB_rn rx ry e1 with ⟨h1, rfl⟩ | ⟨d, e, h1, h2, h3, h4, rfl⟩
  · exact .inl ⟨h1, ok_bool h e2 q⟩
  · exact .inr ⟨d, e, h1, h2, h3, h4, ok_bool h e2 q⟩
theorem ok_ne : OpOk K (rNeA K) neD := fun l H x y dx dy s Q h rx ry e q => by
  unfold neD at e
  rw [Option.bind_eq_some_iff] at e
  obtain ⟨b, e1, e2⟩ := e
  rcases eqB_rn rx ry e1 with ⟨h1, rfl⟩ | ⟨d, e, h1, h2, h3, h4, rfl⟩
  · exact .inl ⟨h1, ok_bool h e2 q⟩
  · exact .inr ⟨d, e, h1, h2, h3, h4, ok_bool h e2 q⟩
def rIsY : R2 := fun x y H Q => ∃ b : Bool, y = .bl b ∧ Q (.bl (decide (x = .bl b))) H
def rIsntY : R2 := fun x y H Q => ∃ b : Bool, y = .bl b ∧ Q (.bl (!decide (x = .bl b))) H
theorem op_isY : OpR X (compareOp .Is) rIsY := by
  intro pins s σ H x y v u Q I rx ry h
  obtain ⟨b, rfl, q⟩ := h
  cases (show u = Value.bool b from ry)
  by_cases e : x = .bl b
  · subst e
    cases (show v = Value.bool b from rx)
    exact wpAny_is_self rfl ⟨.bl true, H, I, rfl, by simpa using q⟩
  · have q' : Q (.bl false) H := by simpa [e] using q
    cases x with
    | non => cases rx; exact wpAny_is_other rfl (fun z => by cases z) ⟨.bl false, H, I, rfl, q'⟩
    | bl a => cases rx; exact wpAny_is_other rfl (fun z => e (by cases z; rfl)) ⟨.bl false, H, I, rfl, q'⟩
    | int i => obtain ⟨t, rfl⟩ := rx; exact wpAny_is_other rfl (fun z => by cases z) ⟨.bl false, H, I, rfl, q'⟩
    | str i => obtain ⟨t, rfl⟩ := rx; exact wpAny_is_other rfl (fun z => by cases z) ⟨.bl false, H, I, rfl, q'⟩
    | byt i => obtain ⟨t, rfl⟩ := rx; exact wpAny_is_other rfl (fun z => by cases z) ⟨.bl false, H, I, rfl, q'⟩
    | flt i => obtain ⟨t, rfl⟩ := rx; exact wpAny_is_other rfl (fun z => by cases z) ⟨.bl false, H, I, rfl, q'⟩
    | ref i => cases rx; exact wpAny_is_other rfl (fun z => by cases z) ⟨.bl false, H, I, rfl, q'⟩
    | ty i => cases rx; exact wpAny_is_other rfl (fun z => by cases z) ⟨.bl false, H, I, rfl, q'⟩
theorem op_isntY : OpR X (compareOp .IsNot) rIsntY := by
  intro pins s σ H x y v u Q I rx ry h
  obtain ⟨b, rfl, q⟩ := h
  cases (show u = Value.bool b from ry)
  by_cases e : x = .bl b
  · subst e
    cases (show v = Value.bool b from rx)
    exact wpAny_isNot_self rfl ⟨.bl false, H, I, rfl, by simpa using q⟩
  · have q' : Q (.bl true) H := by simpa [e] using q
    cases x with
    | non => cases rx; exact wpAny_isNot_other rfl (fun z => by cases z) ⟨.bl true, H, I, rfl, q'⟩
    | bl a => cases rx; exact wpAny_isNot_other rfl (fun z => e (by cases z; rfl)) ⟨.bl true, H, I, rfl, q'⟩
    | int i => obtain ⟨t, rfl⟩ := rx; exact wpAny_isNot_other rfl (fun z => by cases z) ⟨.bl true, H, I, rfl, q'⟩
    | str i => obtain ⟨t, rfl⟩ := rx; exact wpAny_isNot_other rfl (fun z => by cases z) ⟨.bl true, H, I, rfl, q'⟩
    | byt i => obtain ⟨t, rfl⟩ := rx; exact wpAny_isNot_other rfl (fun z => by cases z) ⟨.bl true, H, I, rfl, q'⟩
    | flt i => obtain ⟨t, rfl⟩ := rx; exact wpAny_isNot_other rfl (fun z => by cases z) ⟨.bl true, H, I, rfl, q'⟩
    | ref i => cases rx; exact wpAny_isNot_other rfl (fun z => by cases z) ⟨.bl true, H, I, rfl, q'⟩
    | ty i => cases rx; exact wpAny_isNot_other rfl (fun z => by cases z) ⟨.bl true, H, I, rfl, q'⟩
def rIsA : R2 := fun x y H Q => (y = .non ∧ Q (.bl (decide (x = .non))) H) ∨ rIsY x y H Q
def rIsntA : R2 := fun x y H Q => (y = .non ∧ Q (.bl (!decide (x = .non))) H) ∨ rIsntY x y H Q
theorem op_isA : OpR X (compareOp .Is) rIsA := op_isN.or op_isY
theorem op_isntA : OpR X (compareOp .IsNot) rIsntA := op_notN.or op_isntY
theorem isNone_rn {W : List Addr} {H : Hp} {x : V} {d : D} (r : Rn K W H x d) : decide (x = V.non) = isNone d := by
  cases d with
  | none => cases r; rfl
  | bool b => cases r; rfl
  | int b => cases r; rfl
  | str b => cases r; rfl
  | list ds => obtain ⟨a, xs, rfl, _⟩ := r; rfl
  | tuple ds => obtain ⟨a, xs, rfl, _⟩ := r; rfl
  | dict ds => obtain ⟨a, xs, rfl, _⟩ := r; rfl
theorem isB_rn {W : List Addr} {H : Hp} {x y : V} {dx dy : D} {b : Bool} (rx : Rn K W H x dx) (ry : Rn K W H y dy) (e : isB dx dy = some b) : (y = .non ∧ decide (x = V.non) = b) ∨ ∃ j : Bool, y = .bl j ∧ decide (x = .bl j) = b := by
  unfold isB at e
  split at e
  · cases ry; cases e; exact .inl ⟨rfl, isNone_rn rx⟩
  · rename_i i j
    cases rx; cases ry; cases e
    refine .inr ⟨_, rfl, ?_⟩
    cases i <;> cases j <;> rfl
  · rename_i j hn
    cases ry; cases e
    refine .inr ⟨_, rfl, ?_⟩
    cases dx with
    | bool b => exact absurd rfl (hn b)
    | none => cases rx; rfl
    | int b => cases rx; rfl
    | str b => cases rx; rfl
    | list ds => obtain ⟨a, xs, rfl, _⟩ := rx; rfl
    | tuple ds => obtain ⟨a, xs, rfl, _⟩ := rx; rfl
    | dict ds => obtain ⟨a, xs, rfl, _⟩ := rx; rfl
  · cases e
theorem ok_is : OpOk K rIsA isD := fun l H x y dx dy s Q h rx ry e q => by
  unfold isD at e
  rw [Option.bind_eq_some_iff] at e
  obtain ⟨b, e1, e2⟩ := e
  rcases isB_rn rx ry e1 with ⟨h1, rfl⟩ | ⟨j, h2, rfl⟩
  · exact .inl ⟨h1, ok_bool h e2 q⟩
  · exact .inr ⟨j, h2, ok_bool h e2 q⟩
theorem ok_isnt : OpOk K rIsntA isntD := fun l H x y dx dy s Q h rx ry e q => by
  unfold isntD at e
  rw [Option.bind_eq_some_iff] at e
  obtain ⟨b, e1, e2⟩ := e
  rcases isB_rn rx ry e1 with ⟨h1, rfl⟩ | ⟨j, h2, rfl⟩
  · exact .inl ⟨h1, ok_bool h e2 q⟩
  · exact .inr ⟨j, h2, ok_bool h e2 q⟩
/-! in -/
def rInDict (neg : Bool) : R2 := fun x y H Q => ∃ a o, y = .ref a ∧ DGet H a x o ∧ Q (.bl (if neg then !o.isSome else o.isSome)) H
theorem op_inDict (hu : X.A.units + 1 < cLine) : OpR X (compareOp .In) (rInDict false) := fun pins s σ H x y v u Q I rx ry h => by
  obtain ⟨a, o, e, g, q⟩ := h
  subst e
  cases ry
  exact d_in hu I g rx fun s' I' => ⟨.bl _, H, I', rfl, q⟩
theorem op_notInDict (hu : X.A.units + 1 < cLine) : OpR X (compareOp .NotIn) (rInDict true) := fun pins s σ H x y v u Q I rx ry h => by
  obtain ⟨a, o, e, g, q⟩ := h
  subst e
  cases ry
  exact d_notIn hu I g rx fun s' I' => ⟨.bl _, H, I', rfl, q⟩
def rInA (K : PySem.W.Frag) : R2 := fun x y H Q => rIn K false x y H Q ∨ rInD K x y H Q ∨ (∃ (c : Nat) (z : Str), x = .str ⟨#[c]⟩ ∧ y = .str z ∧ Q (.bl (decide (c ∈ z.cps.toList))) H) ∨
  (∃ i j, x = .str i ∧ y = .str j ∧ Q (.bl (!(Builtin.Str.occurrences j i 0 j.length 1).isEmpty)) H) ∨ rInDict false x y H Q
theorem op_inA (hu : X.A.units + 65 < cLine) : OpR X (compareOp .In) (rInA X.K) := op_in_seq.or ((op_inD hu).or (op_in_sign.or (op_in_str.or (op_inDict (by omega)))))
def rNotInA (K : PySem.W.Frag) : R2 := fun x y H Q => rIn K true x y H Q ∨ rNotInD K x y H Q ∨ (∃ (c : Nat) (z : Str), x = .str ⟨#[c]⟩ ∧ y = .str z ∧ Q (.bl (!decide (c ∈ z.cps.toList))) H) ∨
  (∃ i j, x = .str i ∧ y = .str j ∧ Q (.bl (!(!(Builtin.Str.occurrences j i 0 j.length 1).isEmpty))) H) ∨ rInDict true x y H Q
theorem flat_rn {W : List Addr} {H : Hp} {x : V} {d : D} (r : Rn K W H x d) (f : flatD d = true) : flatV x = true := by
  cases d with
  | none => cases r; rfl
  | bool b => cases r; rfl
  | int b => cases r; rfl
  | str b => cases r; rfl
  | _ => cases f
theorem eqF_rn {W : List Addr} {H : Hp} {x y : V} {d e : D} (rx : Rn K W H x d) (ry : Rn K W H y e) (fx : flatD d = true) (fy : flatD e = true) : eqV x y = eqF d e := by
  cases d <;> first | (cases fx; done) | (cases e <;> first | (cases fy; done) | (cases rx; cases ry; rfl))
theorem flats_dn {W : List Addr} {H : Hp} : ∀ {vs : List V} {ds : List D}, DnA K W H vs ds → ds.all flatD = true → vs.all flatV = true
  | _, _, .nil, _ => rfl
  | _, _, .cons h t, f => by
    rw [List.all_cons, Bool.and_eq_true] at f
    rw [List.all_cons, flat_rn h.rn f.1, flats_dn t f.2]
    rfl
theorem inV_dn {W : List Addr} {H : Hp} {x : V} {d : D} (rx : Rn K W H x d) (fx : flatD d = true) : ∀ {vs : List V} {ds : List D}, DnA K W H vs ds → ds.all flatD = true → inV x vs = ds.any fun y => eqF y d
  | _, _, .nil, _ => rfl
  | _, _, .cons h t, f => by
    rw [List.all_cons, Bool.and_eq_true] at f
    have := inV_dn rx fx t f.2
    unfold inV at this ⊢
    rw [List.any_cons, List.any_cons, this, eqF_rn h.rn rx f.1 fx]
theorem look_dn {W : List Addr} {H : Hp} {k : Key} : ∀ {kvs : List (Key × V)} {es : List (D × D)}, DnK K W H kvs es → (∀ d, lookD es k = some d → ∃ v, valV kvs k = some v ∧ Dn K W H v d) ∧ (lookD es k = none → valV kvs k = none)
  | _, _, .nil => ⟨fun d e => (by cases e), fun _ => rfl⟩
  | _, _, .cons (k := k') (v := v) (d := d) (kvs := kvs) (es := es) h t => by
    obtain ⟨i1, i2⟩ := look_dn (k := k) t
    have hk : isKey k (kD k') = decide (k' = k) := by
      cases k' with
      | inl i => simp only [kD, isKey]; exact decide_eq_decide.mpr ⟨fun e => e.symm, fun e => e.symm⟩
      | inr i => simp only [kD, isKey]; exact decide_eq_decide.mpr ⟨fun e => e.symm, fun e => e.symm⟩
    by_cases e : k' = k
    · have hk1 : isKey k (kD k') = true := by rw [hk, decide_eq_true e]
      have e1 : lookD ((kD k', d) :: es) k = some d := by simp [lookD, List.find?_cons, hk1]
      rw [e1]
      exact ⟨fun d' e2 => (by cases e2; exact ⟨v, valV_pos e, h⟩), fun e2 => (by cases e2)⟩
    · have hk1 : isKey k (kD k') = false := by rw [hk, decide_eq_false e]
      have e1 : lookD ((kD k', d) :: es) k = lookD es k := by simp [lookD, List.find?_cons, hk1]
      rw [e1, valV_neg e]
      exact ⟨i1, i2⟩
theorem look_isSome {W : List Addr} {H : Hp} {k : Key} {kvs : List (Key × V)} {es : List (D × D)} (h : DnK K W H kvs es) : (valV kvs k).isSome = (lookD es k).isSome := by
  obtain ⟨i1, i2⟩ := look_dn (k := k) h
  cases e : lookD es k with
  | none => rw [i2 e]; rfl
  | some d =>
    obtain ⟨v, e2, _⟩ := i1 d e
    rw [e2]
    rfl
theorem keyD_rn {W : List Addr} {H : Hp} {x : V} {d : D} {k : Key} (r : Rn K W H x d) (e : keyD d = some k) : x = kV k := by
  cases d with
  | int i => cases e; cases r; rfl
  | str i => cases e; cases r; rfl
  | _ => cases e
theorem DGet.rd {H : Hp} {a : Addr} {kvs : List (Key × V)} {k : Key} (e : Rd H a (.dK kvs)) : DGet H a (kV k) (valV kvs k) := .inl ⟨kvs, k, e, rfl, rfl⟩
/-- what «in» asks, by cases -/
theorem inB_rn {W : List Addr} {H : Hp} {x y : V} {dx dy : D} {b : Bool} (rx : Rn K W H x dx) (ry : Rn K W H y dy) (e : inB dx dy = some b) :
    (∃ p xs, y = .ref p ∧ (SqL K H p xs ∨ SqT K H p xs) ∧ flatV x = true ∧ xs.all flatV = true ∧ inV x xs = b) ∨
    (∃ d ds, Dp K H x d ∧ Dp K H y (.list ds) ∧ SeqAt.shaped d = true ∧ SeqAt.shaped (.list ds) = true ∧ (ds.any fun z => PyData.eqv z d) = b) ∨
    (∃ (c : Nat) (z : Str), x = .str ⟨#[c]⟩ ∧ y = .str z ∧ decide (c ∈ z.cps.toList) = b) ∨
    (∃ i j, x = .str i ∧ y = .str j ∧ (!(Builtin.Str.occurrences j i 0 j.length 1).isEmpty) = b) ∨
    (∃ a o, y = .ref a ∧ DGet H a x o ∧ o.isSome = b) := by
  unfold inB at e
  split at e
  · obtain ⟨a, xs, rfl, r, q, z⟩ := ry
    split at e
    · rename_i hf
      rw [Bool.and_eq_true] at hf
      cases e
      exact .inl ⟨a, xs, rfl, .inl r, flat_rn rx hf.1, flats_dn q hf.2, inV_dn rx hf.1 q hf.2⟩
    · split at e
      · rename_i hs
        rw [Bool.and_eq_true] at hs
        cases e
        exact .inr (.inl ⟨_, _, rn_dp rx (SeqAt.canLay_of_shaped hs.1), .lst r (q.dp (by simpa [PyData.canLay0] using SeqAt.canLay_of_shaped hs.2)), hs.1, hs.2, rfl⟩)
      · cases e
  · obtain ⟨a, xs, rfl, r, q, z⟩ := ry
    split at e
    · rename_i hf
      rw [Bool.and_eq_true] at hf
      cases e
      exact .inl ⟨a, xs, rfl, .inr r, flat_rn rx hf.1, flats_dn q hf.2, inV_dn rx hf.1 q hf.2⟩
    · cases e
  · rename_i x' z'
    cases rx
    cases ry
    split at e
    · rename_i c hc
      cases e
      have ex : x' = ⟨#[c]⟩ := by
        cases x' with
        | mk cps => 
          have : cps = #[c] := by
            apply Array.ext'
            simpa using hc
          rw [this]
      exact .inr (.inr (.inl ⟨c, z', by rw [ex], rfl, rfl⟩))
    · cases e
      exact .inr (.inr (.inr (.inl ⟨x', z', rfl, rfl, rfl⟩)))
  · obtain ⟨a, kvs, rfl, r, q⟩ := ry
    rw [Option.map_eq_some_iff] at e
    obtain ⟨k, ek, rfl⟩ := e
    have ex := keyD_rn rx ek
    subst ex
    exact .inr (.inr (.inr (.inr ⟨a, _, rfl, DGet.rd r, look_isSome q⟩)))
  · cases e
theorem ok_in : OpOk K (rInA K) inD := fun l H x y dx dy s Q h rx ry e q => by
  unfold inD at e
  rw [Option.bind_eq_some_iff] at e
  obtain ⟨b, e1, e2⟩ := e
  have k := ok_bool h e2 q
  rcases inB_rn rx ry e1 with ⟨p, xs, h1, h2, h3, h4, rfl⟩ | ⟨d, ds, h1, h2, h3, h4, rfl⟩ | ⟨c, z, h1, h2, rfl⟩ | ⟨i, j, h1, h2, rfl⟩ | ⟨a, o, h1, h2, rfl⟩
  · exact .inl ⟨p, xs, h1, h2, h3, h4, k⟩
  · exact .inr (.inl ⟨d, ds, h1, h2, h3, h4, k⟩)
  · exact .inr (.inr (.inl ⟨c, z, h1, h2, k⟩))
  · exact .inr (.inr (.inr (.inl ⟨i, j, h1, h2, k⟩)))
  · exact .inr (.inr (.inr (.inr ⟨a, o, h1, h2, k⟩)))
theorem ok_notIn : OpOk K (rNotInA K) notInD := fun l H x y dx dy s Q h rx ry e q => by
  unfold notInD at e
  rw [Option.bind_eq_some_iff] at e
  obtain ⟨b, e1, e2⟩ := e
  have k := ok_bool h e2 q
  rcases inB_rn rx ry e1 with ⟨p, xs, h1, h2, h3, h4, rfl⟩ | ⟨d, ds, h1, h2, h3, h4, rfl⟩ | ⟨c, z, h1, h2, rfl⟩ | ⟨i, j, h1, h2, rfl⟩ | ⟨a, o, h1, h2, rfl⟩
  · exact .inl ⟨p, xs, h1, h2, h3, h4, k⟩
  · exact .inr (.inl ⟨d, ds, h1, h2, h3, h4, k⟩)
  · exact .inr (.inr (.inl ⟨c, z, h1, h2, k⟩))
  · exact .inr (.inr (.inr (.inl ⟨i, j, h1, h2, k⟩)))
  · exact .inr (.inr (.inr (.inr ⟨a, o, h1, h2, k⟩)))
theorem op_notInA (hu : X.A.units + 65 < cLine) : OpR X (compareOp .NotIn) (rNotInA X.K) := op_notIn_seq.or ((op_notInD hu).or (op_notIn_sign.or (op_notIn_str.or (op_notInDict (by omega)))))
/-! subscripts -/
def rIxDict : R2 := fun x y H Q => ∃ a v, x = .ref a ∧ DGet H a y (some v) ∧ Q v H
theorem atI_dn {W : List Addr} {H : Hp} {vs : List V} {ds : List D} {i : Int} {d : D} (h : DnA K W H vs ds) (e : atI ds i = some d) : ∃ v, atI vs i = some v ∧ Dn K W H v d := by
  unfold atI at e ⊢
  rw [Option.bind_eq_some_iff] at e
  obtain ⟨j, e1, e2⟩ := e
  obtain ⟨v, e3, e4⟩ := h.getD e2
  rw [h.length, e1]
  exact ⟨v, e3, e4⟩
theorem ix_dict (hu : X.A.units + 1 < cLine) : IxR X rIxDict := fun value slice pins s σ H x y v u Q I rx ry h hs => by
  obtain ⟨a, w', e, g, q⟩ := h
  subst e
  cases rx
  exact PyProof.Rows.tail_any (dict_typeIs I g) slot_dict_getitem.lookup (d_getItem hu I g ry fun z s' I' rz => ⟨w', H, I', rz, q⟩) hs
def rIxA (K : PySem.W.Frag) : R2 := fun x y H Q => rIx K x y H Q ∨ rIxDict x y H Q
theorem ix_any (hu : X.A.units + 1 < cLine) : IxR X (rIxA X.K) := L2.ix_seq.or (ix_dict hu)
theorem ok_ix : OpOk K (rIxA K) ixD := fun l H x y dx dy s Q h rx ry e q => by
  unfold ixD at e
  split at e
  · rw [Option.map_eq_some_iff] at e
    obtain ⟨d, e1, rfl⟩ := e
    obtain ⟨a, xs, rfl, r, qa, _⟩ := rx
    cases ry
    obtain ⟨v, e2, e3⟩ := atI_dn qa e1
    exact .inl (.inl ⟨a, xs, _, v, rfl, rfl, r, e2, q v H (h.addVal e3)⟩)
  · rw [Option.map_eq_some_iff] at e
    obtain ⟨d, e1, rfl⟩ := e
    obtain ⟨a, xs, rfl, r, qa, _⟩ := rx
    cases ry
    obtain ⟨v, e2, e3⟩ := atI_dn qa e1
    exact .inl (.inr (.inl ⟨a, xs, _, v, rfl, rfl, r, e2, q v H (h.addVal e3)⟩))
  · split at e
    · rename_i hz
      rw [Option.map_eq_some_iff] at e
      obtain ⟨c, e1, rfl⟩ := e
      cases rx
      cases ry
      exact .inl (.inr (.inr ⟨_, _, c, rfl, rfl, lineOf hz, e1, q _ H (h.addVal (.str _))⟩))
    · cases e
  · rw [Option.bind_eq_some_iff] at e
    obtain ⟨k, ek, e⟩ := e
    rw [Option.map_eq_some_iff] at e
    obtain ⟨d, e1, rfl⟩ := e
    obtain ⟨a, kvs, rfl, r, qa⟩ := rx
    have ey := keyD_rn ry ek
    subst ey
    obtain ⟨v, e2, e3⟩ := (look_dn qa).1 d e1
    exact .inr ⟨a, v, rfl, e2 ▸ DGet.rd r, q v H (h.addVal e3)⟩
  · cases e
theorem ok_neg : UnOk K (rU fun i => .int (-i)) negD := fun l H x dx s Q h rx e q => by
  unfold negD at e
  split at e
  · cases rx; exact ⟨_, rfl, ok_int h e q⟩
  · cases e
/-! slices -/
theorem cut_dn {W : List Addr} {H : Hp} {vs : List V} {ds : List D} (h : DnA K W H vs ds) (lo hi : Option Int) : DnA K W H (cutV vs lo hi) (cutD ds lo hi) := by
  unfold cutV cutD
  rw [h.length]
  exact (h.drop _).take _
theorem cutD_length (xs : List D) (lo hi : Option Int) : (cutD xs lo hi).length ≤ xs.length := by
  unfold cutD
  rw [List.length_take, List.length_drop]
  omega
def rSlAll (K : PySem.W.Frag) : V → Option Int → Option Int → Hp → VK → Prop := fun x lo hi H Q => rSlL K x lo hi H Q ∨ rSlA K x lo hi H Q ∨ rSlS x lo hi H Q
theorem sl_all : SlR X (rSlAll X.K) := sl_list.or (sl_tupA.or sl_str)
theorem ok_slice : SlOk K (rSlAll K) sliceD := fun l H x d lo hi s Q h rx e q => by
  unfold sliceD at e
  split at e
  · cases e
    obtain ⟨a, xs, rfl, r, qa, z⟩ := rx
    exact .inl ⟨a, xs, rfl, r, fun p np => q _ _ (h.newL np (cut_dn qa _ _) (Nat.le_trans (cutD_length _ _ _) z))⟩
  · cases e
    obtain ⟨a, xs, rfl, r, qa, z⟩ := rx
    refine .inr (.inl ⟨a, xs, rfl, r, fun hw => ?_, fun hw p np => ?_⟩)
    · have ec : cutV xs lo hi = xs := by
        unfold cutV
        rw [hw.1, hw.2]
        simp
      have q2 := cut_dn qa lo hi
      rw [ec] at q2
      exact q _ _ (h.addVal (.tup r (qa.length ▸ z) q2))
    · exact q _ _ (h.newT np (cut_dn qa _ _) (Nat.le_trans (cutD_length _ _ _) z))
  · split at e
    · cases e
      cases rx
      exact .inr (.inr ⟨_, rfl, lineOf (by assumption), q _ H (h.addVal (.str _))⟩)
    · cases e
  · cases e
end
end DL
namespace DL
open PySem PySem.Spec L2

/-! ### built-in functions over data -/
@[simp] def lenD : OpN
  | [.str z] => if z.length ≤ 16777216 then vI z.length else none
  | [.list ds] => vI ds.length
  | [.tuple ds] => vI ds.length
  | [.dict es] => vI es.length
  | _ => none
@[simp] def maxD : OpN
  | [.int i, .int j] => vI (if j > i then j else i)
  | _ => none
@[simp] def minD : OpN
  | [.int i, .int j] => vI (if j < i then j else i)
  | _ => none
@[simp] def absD : OpN
  | [.int i] => vI (if i < 0 then -i else i)
  | _ => none
@[simp] def intD : OpN
  | [.int i] => vI i
  | [.bool k] => vI (if k then 1 else 0)
  | _ => none
@[simp] def tupleD : OpN
  | [.list ds] => some (.val (.tuple ds))
  | [.tuple ds] => some (.val (.tuple ds))
  | _ => none
@[simp] def listD : OpN
  | [.list ds] => some (.own (.list ds))
  | [.tuple ds] => some (.own (.list ds))
  | _ => none
@[simp] def dictD : OpN
  | [.dict es] => some (.own (.dict es))
  | _ => none
@[simp] def boolsD : List D → Option (List Bool)
  | [] => some []
  | .bool b :: ds => (boolsD ds).map fun bs => b :: bs
  | _ => none
@[simp] def intsD : List D → Option (List Int)
  | [] => some []
  | .int b :: ds => (intsD ds).map fun bs => b :: bs
  | _ => none
@[simp] def strsD : List D → Option (List Str)
  | [] => some []
  | .str b :: ds => (strsD ds).map fun bs => b :: bs
  | _ => none
@[simp] def allD : OpN
  | [.list ds] => (boolsD ds).bind fun bs => vB (bs.all id)
  | _ => none
@[simp] def anyD : OpN
  | [.list ds] => (boolsD ds).bind fun bs => vB (bs.any id)
  | _ => none
@[simp] def sumD : OpN
  | [.list ds] => (intsD ds).bind fun ns => vI ns.sum
  | _ => none
section
variable {X : Cx} {K : PySem.W.Frag}
theorem rnA1 {W : List Addr} {H : Hp} {xs : List V} {d : D} (h : RnA K W H xs [d]) : ∃ x, xs = [x] ∧ Rn K W H x d := by
  match xs, h with
  | [x], h => exact ⟨x, rfl, h.1⟩
theorem rnA2 {W : List Addr} {H : Hp} {xs : List V} {d e : D} (h : RnA K W H xs [d, e]) : ∃ x y, xs = [x, y] ∧ Rn K W H x d ∧ Rn K W H y e := by
  match xs, h with
  | [x, y], h => exact ⟨x, y, rfl, h.1, h.2.1⟩
theorem dnK_length {W : List Addr} {H : Hp} : ∀ {kvs : List (Key × V)} {es : List (D × D)}, DnK K W H kvs es → kvs.length = es.length
  | _, _, .nil => rfl
  | _, _, .cons _ t => by rw [List.length_cons, List.length_cons, dnK_length t]
def rLenD : List V → Hp → VK → Prop := fun xs H Q => ∃ a kvs, xs = [V.ref a] ∧ Rd H a (.dK kvs) ∧ Q (.int kvs.length) H
theorem call_lenR : CallR X (.builtin "len") rLenD := fun pins s σ H xs us Q I r h => by
  obtain ⟨a, kvs, e, g, q⟩ := h
  subst e
  obtain ⟨u, rfl, ru⟩ := vals1 r
  cases ru
  exact d_len I g fun t s' I' => ⟨.int _, H, I', ⟨_, rfl⟩, q⟩
def rLenA (K : PySem.W.Frag) : List V → Hp → VK → Prop := fun xs H Q => (∃ x n, xs = [x] ∧ LenV K x H n ∧ Q (.int n) H) ∨ rLenD xs H Q
theorem call_lenA : CallR X (.builtin "len") (rLenA X.K) := call_len.or call_lenR
theorem ok_len : CbOk K (rLenA K) lenD := fun l H xs ds s Q h r e q => by
  unfold lenD at e
  split at e
  · split at e
    · obtain ⟨x, rfl, rx⟩ := rnA1 r
      cases rx
      exact .inl ⟨_, _, rfl, ⟨lineOf (by assumption), rfl⟩, ok_int h e q⟩
    · cases e
  · obtain ⟨x, rfl, a, xs, rfl, r1, q1, z⟩ := rnA1 r
    rw [← q1.length] at e
    exact .inl ⟨_, _, rfl, .inl ⟨xs, r1, rfl⟩, ok_int h e q⟩
  · obtain ⟨x, rfl, a, xs, rfl, r1, q1, z⟩ := rnA1 r
    rw [← q1.length] at e
    exact .inl ⟨_, _, rfl, .inr ⟨xs, r1, rfl⟩, ok_int h e q⟩
  · obtain ⟨x, rfl, a, kvs, rfl, r1, q1⟩ := rnA1 r
    rw [← dnK_length q1] at e
    exact .inr ⟨a, kvs, rfl, r1, ok_int h e q⟩
  · cases e
theorem ok_max : CbOk K (fun xs H Q => ∃ i j, xs = [.int i, .int j] ∧ Q (.int (if j > i then j else i)) H) maxD := fun l H xs ds s Q h r e q => by
  unfold maxD at e
  split at e
  · obtain ⟨x, y, rfl, rx, ry⟩ := rnA2 r
    cases rx; cases ry
    exact ⟨_, _, rfl, ok_int h e q⟩
  · cases e
theorem ok_min : CbOk K (fun xs H Q => ∃ i j, xs = [.int i, .int j] ∧ Q (.int (if j < i then j else i)) H) minD := fun l H xs ds s Q h r e q => by
  unfold minD at e
  split at e
  · obtain ⟨x, y, rfl, rx, ry⟩ := rnA2 r
    cases rx; cases ry
    exact ⟨_, _, rfl, ok_int h e q⟩
  · cases e
theorem ok_abs : CbOk K (fun xs H Q => ∃ i, xs = [.int i] ∧ Q (.int (if i < 0 then -i else i)) H) absD := fun l H xs ds s Q h r e q => by
  unfold absD at e
  split at e
  · obtain ⟨x, rfl, rx⟩ := rnA1 r
    cases rx
    exact ⟨_, rfl, ok_int h e q⟩
  · cases e
theorem ok_intC : CbOk K (fun xs H Q => (∃ i, xs = [.int i] ∧ Q (.int i) H) ∨ ∃ k, xs = [.bl k] ∧ Q (.int (if k then 1 else 0)) H) intD := fun l H xs ds s Q h r e q => by
  unfold intD at e
  split at e
  · obtain ⟨x, rfl, rx⟩ := rnA1 r
    cases rx
    exact .inl ⟨_, rfl, ok_int h e q⟩
  · obtain ⟨x, rfl, rx⟩ := rnA1 r
    cases rx
    exact .inr ⟨_, rfl, ok_int h e q⟩
  · cases e
theorem ok_tuple : CbOk K (fun xs H Q => ∃ p ys, xs = [.ref p] ∧ ((SqL K H p ys ∧ ∀ l, H l = none → Q (.ref l) (upd H l (.tup ys))) ∨ (SqT K H p ys ∧ Q (.ref p) H))) tupleD := fun l H xs ds s Q h r e q => by
  unfold tupleD at e
  split at e
  · cases e
    obtain ⟨x, rfl, a, xs, rfl, r1, q1, z⟩ := rnA1 r
    exact ⟨a, xs, rfl, .inl ⟨r1, fun p np => q _ _ (h.newT np q1 z)⟩⟩
  · cases e
    obtain ⟨x, rfl, a, xs, rfl, r1, q1, z⟩ := rnA1 r
    exact ⟨a, xs, rfl, .inr ⟨r1, q _ _ (h.addVal (.tup r1 (q1.length ▸ z) q1))⟩⟩
  · cases e
theorem ok_listC : CbOk K (fun xs H Q => ∃ p ys, xs = [.ref p] ∧ (SqL K H p ys ∨ SqT K H p ys) ∧ ∀ l, H l = none → Q (.ref l) (upd H l (.lst ys))) listD := fun l H xs ds s Q h r e q => by
  unfold listD at e
  split at e
  · cases e
    obtain ⟨x, rfl, a, xs, rfl, r1, q1, z⟩ := rnA1 r
    exact ⟨a, xs, rfl, .inl r1, fun p np => q _ _ (h.newL np q1 z)⟩
  · cases e
    obtain ⟨x, rfl, a, xs, rfl, r1, q1, z⟩ := rnA1 r
    exact ⟨a, xs, rfl, .inr r1, fun p np => q _ _ (h.newL np q1 z)⟩
  · cases e
def rDictC : List V → Hp → VK → Prop := fun xs H Q => ∃ a kvs, xs = [V.ref a] ∧ Rd H a (.dK kvs) ∧ ∀ p, H p = none → Q (.ref p) (upd H p (.dK kvs))
theorem call_dictC : CallR X (.type "dict") rDictC := fun pins s σ H xs us Q I r h => by
  obtain ⟨a, kvs, e, g, q⟩ := h
  subst e
  obtain ⟨u, rfl, ru⟩ := vals1 r
  cases ru
  exact d_copyOf I g fun p s' np I' => ⟨.ref p, _, I', rfl, q p np⟩
theorem ok_dict : CbOk K rDictC dictD := fun l H xs ds s Q h r e q => by
  unfold dictD at e
  split at e
  · cases e
    obtain ⟨x, rfl, a, kvs, rfl, r1, q1⟩ := rnA1 r
    exact ⟨a, kvs, rfl, r1, fun p np => q _ _ (h.newD np q1)⟩
  · cases e
theorem bools_dn {W : List Addr} {H : Hp} : ∀ {vs : List V} {ds : List D} {bs : List Bool}, DnA K W H vs ds → boolsD ds = some bs → vs = bs.map V.bl
  | _, _, _, .nil, e => by cases e; rfl
  | _, _, _, .cons (d := d) h t, e => by
    cases d with
    | bool b =>
      simp only [boolsD, Option.map_eq_some_iff] at e
      obtain ⟨bs, e1, rfl⟩ := e
      cases h
      rw [List.map_cons, bools_dn t e1]
    | _ => cases e
theorem ints_dn {W : List Addr} {H : Hp} : ∀ {vs : List V} {ds : List D} {bs : List Int}, DnA K W H vs ds → intsD ds = some bs → vs = bs.map V.int
  | _, _, _, .nil, e => by cases e; rfl
  | _, _, _, .cons (d := d) h t, e => by
    cases d with
    | int b =>
      simp only [intsD, Option.map_eq_some_iff] at e
      obtain ⟨bs, e1, rfl⟩ := e
      cases h
      rw [List.map_cons, ints_dn t e1]
    | _ => cases e
theorem strs_dn {W : List Addr} {H : Hp} : ∀ {vs : List V} {ds : List D} {bs : List Str}, DnA K W H vs ds → strsD ds = some bs → vs = bs.map V.str
  | _, _, _, .nil, e => by cases e; rfl
  | _, _, _, .cons (d := d) h t, e => by
    cases d with
    | str b =>
      simp only [strsD, Option.map_eq_some_iff] at e
      obtain ⟨bs, e1, rfl⟩ := e
      cases h
      rw [List.map_cons, strs_dn t e1]
    | _ => cases e
theorem ok_all : CbOk K (rAll K) allD := fun l H xs ds s Q h r e q => by
  unfold allD at e
  split at e
  · rw [Option.bind_eq_some_iff] at e
    obtain ⟨bs, e1, e2⟩ := e
    obtain ⟨x, rfl, a, xs, rfl, r1, q1, z⟩ := rnA1 r
    have ex := bools_dn q1 e1
    subst ex
    exact ⟨a, bs, rfl, r1, ok_bool h e2 q⟩
  · cases e
theorem ok_any : CbOk K (rAny K) anyD := fun l H xs ds s Q h r e q => by
  unfold anyD at e
  split at e
  · rw [Option.bind_eq_some_iff] at e
    obtain ⟨bs, e1, e2⟩ := e
    obtain ⟨x, rfl, a, xs, rfl, r1, q1, z⟩ := rnA1 r
    have ex := bools_dn q1 e1
    subst ex
    exact ⟨a, bs, rfl, r1, ok_bool h e2 q⟩
  · cases e
theorem ok_sum : CbOk K (rSum K) sumD := fun l H xs ds s Q h r e q => by
  unfold sumD at e
  split at e
  · rw [Option.bind_eq_some_iff] at e
    obtain ⟨bs, e1, e2⟩ := e
    obtain ⟨x, rfl, a, xs, rfl, r1, q1, z⟩ := rnA1 r
    have ex := ints_dn q1 e1
    subst ex
    exact ⟨a, bs, rfl, r1, ok_int h e2 q⟩
  · cases e
end

/-! ### isinstance with a built-in class -/
@[simp] def tyN : D → String
  | .none => "NoneType"
  | .bool _ => "bool"
  | .int _ => "int"
  | .str _ => "str"
  | .list _ => "list"
  | .tuple _ => "tuple"
  | .dict _ => "dict"
/-- the answer, read off a table of the seven kinds -/
@[simp] def isiS (T t : String) : Bool := t == T || (t == "bool" && T == "int")
@[simp] def isiT (T : String) (d : D) : Bool := isiS T (tyN d)
@[simp] def isiF (T : String) (f : EvX) : EvX := unF (fun d => vB (isiT T d)) f
structure IsiOk (T : String) : Prop where
  ok : ∀ d : D, kitB (tyN d) T = some (isiT T d)
theorem tyx_rn {K : PySem.W.Frag} {W : List Addr} {H : Hp} {x : V} {d : D} (r : Rn K W H x d) : TyX K H x (.type (tyN d)) := by
  cases d with
  | none => cases r; exact .base .non
  | bool b => cases r; exact .base (.bl b)
  | int b => cases r; exact .base (.int b)
  | str b => cases r; exact .base (.str b)
  | list ds =>
    obtain ⟨a, xs, rfl, (r1 | ⟨o, r1⟩) | ⟨o, its, n, h1, h2, _⟩, _⟩ := r
    · exact .base (.lst r1)
    · exact .base (.frz r1)
    · exact .kList h1 h2
  | tuple ds =>
    obtain ⟨a, xs, rfl, (r1 | ⟨o, r1⟩) | ⟨o, its, n, h1, h2, _⟩, _⟩ := r
    · exact .base (.tup r1)
    · exact .fTuple r1
    · exact .kTuple h1 h2
  | dict es =>
    obtain ⟨a, kvs, rfl, r1 | ⟨o, r1⟩, _⟩ := r
    · exact .base (.dK r1)
    · exact .fDict r1
theorem ex_isi {X : Cx} {T : String} {a : Expr} {f : EvX} {nm : Str} {p p2 pos : Pos} (ok : IsiOk T) (hg : Gl X "isinstance") (hm : X.mg "isinstance" = none) (hg2 : Gl X nm) (hm2 : X.mg nm = none) (hv2 : bootBuiltins nm = some (.type T)) (ha : EX X a f) (hb : bootBuiltins "isinstance" = some (.builtin "isinstance"))
    (hn : nm ≠ "__name__" := by decide) (hd : (nm == ("__debug__" : Str)) = false := by decide)
    (hs : starEach [a, .Name nm p2] X.env = (false, eval a X.env) :: starEach [.Name nm p2] X.env := by rfl) (hs2 : starEach [.Name nm p2] X.env = (false, eval (.Name nm p2) X.env) :: starEach [] X.env := by rfl) (hpl : (backTo pos (starEach [.Name nm p2] X.env)).any (·.1) = false := by rfl) :
    EX X (.Call (.Name "isinstance" p) [a, .Name nm p2] [] pos) (isiF T f) := by
  obtain ⟨t, pe, q⟩ := ha.ex
  refine ⟨_, pe_callB call_isi hg hm hb (pa_cons pe (pa_cons (pe_bltn (v := .ty T) hg2 hm2 hv2 rfl hn hd) pa_nil hs2) hs) (by decide) (by decide) hs hpl, fun σ ρ stk H Q o ρ' hl h e k => ?_⟩
  unfold isiF unF at e
  simp only [Option.bind_eq_some_iff] at e
  obtain ⟨⟨o1, ρ1⟩, e1, d1, c1, s, es, ef⟩ := e
  dsimp only at ef
  cases ef
  refine q σ ρ stk H _ o1 ρ' hl h e1 fun v1 H1 l1 h1 a1 => ?_
  have r := cont_rn (by omega) h1 (fun c hc => List.mem_append_right _ (List.mem_append_left _ hc)) (fun c hc => List.mem_append_left _ hc) a1 c1
  refine ⟨v1, .ty T, .type (tyN d1), .type T, isiT T d1, rfl, .ty T, tyx_rn r, kit_ty (ok.ok d1), ?_⟩
  cases es
  exact k (.bl _) H1 l1 (Hd.addVal (h1.sub (List.sublist_append_right _ _)) (.bl _)) True.intro
def tyNs : List String := ["NoneType", "bool", "int", "str", "list", "tuple", "dict"]
theorem tyN_mem (d : D) : tyN d ∈ tyNs := by cases d <;> simp [tyN, tyNs]
theorem isi_of {T : String} (h : ∀ t ∈ tyNs, kitB t T = some (isiS T t)) : IsiOk T := ⟨fun d => h _ (tyN_mem d)⟩
theorem isi_str : IsiOk "str" := isi_of (by decide +kernel)
theorem isi_int : IsiOk "int" := isi_of (by decide +kernel)
theorem isi_bool : IsiOk "bool" := isi_of (by decide +kernel)
theorem isi_tuple : IsiOk "tuple" := isi_of (by decide +kernel)
theorem isi_list : IsiOk "list" := isi_of (by decide +kernel)

/-! ### methods over data -/
@[simp] def joinM : D → List D → Option Sl
  | .str a, [.list ds] => (strsD ds).bind fun ys => if (ys.map (·.length)).sum + ys.length * a.length ≤ 16777216 then vS (Txt.join a ys) else none
  | .str a, [.tuple ds] => (strsD ds).bind fun ys => if (ys.map (·.length)).sum + ys.length * a.length ≤ 16777216 then vS (Txt.join a ys) else none
  | _, _ => none
@[simp] def countM : D → List D → Option Sl
  | .str a, [.str b] => vI (Txt.count a b)
  | _, _ => none
@[simp] def startsM : D → List D → Option Sl
  | .str a, [.str b] => vB (Txt.startswith a b)
  | _, _ => none
@[simp] def appM : D → List D → Option (D × Sl)
  | .list ds, [d] => if ds.length < 16777216 then some (.list (ds ++ [d]), .val .none) else none
  | _, _ => none
@[simp] def popM : D → List D → Option (D × Sl)
  | .list ds, [] => (ds[ds.length - 1]?).map fun d => (.list ds.dropLast, .val d)
  | _, _ => none
@[simp] def popAtM : D → List D → Option (D × Sl)
  | .list ds, [.int i] => if -(2 ^ 63) ≤ i ∧ i < 2 ^ 63 then (seqIndex? i ds.length).bind fun k => (ds[k]?).map fun d => (.list (ds.eraseIdx k), .val d) else none
  | _, _ => none
@[simp] def extM : D → List D → Option (D × Sl)
  | .list ds, [.list es] => if ds.length + es.length ≤ 16777216 then some (.list (ds ++ es), .val .none) else none
  | .list ds, [.tuple es] => if ds.length + es.length ≤ 16777216 then some (.list (ds ++ es), .val .none) else none
  | _, _ => none
/-- xs[i] = v, d[k] = v -/
def putE (es : List (D × D)) (k : Key) (d : D) : List (D × D) := if (es.any fun e => isKey k e.1) then es.map fun e => if isKey k e.1 then (e.1, d) else e else es ++ [(kD k, d)]
@[simp] def setM : D → D → D → Option D
  | .list ds, .int k, d => (ixN ds.length k).map fun j => .list (ds.set j d)
  | .dict es, x, d => (keyD x).bind fun k => if es.length < 16777216 then some (.dict (putE es k d)) else none
  | _, _, _ => none
section
variable {X : Cx} {K : PySem.W.Frag}
theorem ok_join : MtOk K (fun x xs H Q => ∃ a p, ∃ ys : List Str, x = .str a ∧ xs = [.ref p] ∧ (SqL K H p (ys.map V.str) ∨ SqT K H p (ys.map V.str)) ∧ (ys.map (·.length)).sum + ys.length * a.length ≤ 16777216 ∧ Q (.str (Txt.join a ys)) H) joinM := fun l H x xs d ds s Q h rx r e q => by
  unfold joinM at e
  split at e
  · rw [Option.bind_eq_some_iff] at e
    obtain ⟨ys, e1, e2⟩ := e
    split at e2
    · cases rx
      obtain ⟨y, rfl, p, xs, rfl, r1, q1, z⟩ := rnA1 r
      have ex := strs_dn q1 e1
      subst ex
      exact ⟨_, p, ys, rfl, rfl, .inl r1, by assumption, ok_str h e2 q⟩
    · cases e2
  · rw [Option.bind_eq_some_iff] at e
    obtain ⟨ys, e1, e2⟩ := e
    split at e2
    · cases rx
      obtain ⟨y, rfl, p, xs, rfl, r1, q1, z⟩ := rnA1 r
      have ex := strs_dn q1 e1
      subst ex
      exact ⟨_, p, ys, rfl, rfl, .inr r1, by assumption, ok_str h e2 q⟩
    · cases e2
  · cases e
theorem ok_count : MtOk K (fun x xs H Q => ∃ a b, x = .str a ∧ xs = [.str b] ∧ Q (.int (Txt.count a b)) H) countM := fun l H x xs d ds s Q h rx r e q => by
  unfold countM at e
  split at e
  · cases rx
    obtain ⟨y, rfl, ry⟩ := rnA1 r
    cases ry
    exact ⟨_, _, rfl, rfl, ok_int h e q⟩
  · cases e
theorem ok_starts : MtOk K (fun x xs H Q => ∃ a b, x = .str a ∧ xs = [.str b] ∧ Q (.bl (Txt.startswith a b)) H) startsM := fun l H x xs d ds s Q h rx r e q => by
  unfold startsM at e
  split at e
  · cases rx
    obtain ⟨y, rfl, ry⟩ := rnA1 r
    cases ry
    exact ⟨_, _, rfl, rfl, ok_bool h e q⟩
  · cases e
/-- the changed cell, read off -/
theorem own_list {l : List Cell} {H : Hp} {a : Addr} {xs : List V} {ds es : List D} (hl : xs.length = es.length) (h : Hd K H (valCells xs es ++ ((some (.ref a), .own (.list ds)) :: l))) :
    ∃ ys, H a = some (.lst ys) ∧ DnA K (a :: ownA l) H ys ds ∧ ds.length ≤ sizeLine ∧ Hd K H ((some (.ref a), .own (.list ds)) :: l) ∧ DnA K (a :: ownA l) H xs es := by
  have h1 := h.noVals
  obtain ⟨b, eb, ys, e, q, z⟩ := h1.ok _ List.mem_cons_self
  cases eb
  have h2 := h.vals hl
  rw [ownA_own] at q h2
  exact ⟨ys, e, q, z, h1, h2⟩
theorem ok_append : MuOk K rAppend appM := fun l H a xs d ds d' s Q hl h e q => by
  unfold appM at e
  split at e
  · split at e
    · rename_i es de hz
      cases e
      match xs, hl with
      | [y], hl =>
        obtain ⟨ys, e1, q1, z, h1, q2⟩ := own_list hl h
        refine ⟨a, ys, y, rfl, rfl, e1, by rw [q1.length, sizeLine_eq]; exact hz, q _ _ ?_⟩
        exact (h1.wrL (q1.append q2) (lineOf (by rw [List.length_append, List.length_singleton]; omega))).addVal .non
    · cases e
  · cases e
theorem ok_pop : MuOk K rPop popM := fun l H a xs d ds d' s Q hl h e q => by
  unfold popM at e
  split at e
  · rw [Option.map_eq_some_iff] at e
    obtain ⟨dl, e1, e2⟩ := e
    cases e2
    match xs, hl with
    | [], hl =>
      obtain ⟨ys, e3, q1, z, h1, q2⟩ := own_list hl h
      obtain ⟨v, e4, e5⟩ := q1.getD e1
      rw [← q1.length] at e4
      refine ⟨a, ys, v, rfl, rfl, e3, e4, q _ _ ?_⟩
      have q3 : ∀ {vs : List V} {es : List D}, DnA K (a :: ownA l) H vs es → DnA K (a :: ownA l) H vs.dropLast es.dropLast := fun {vs es} hh => by
        rw [List.dropLast_eq_take, List.dropLast_eq_take, hh.length]
        exact hh.take _
      obtain ⟨u, eu, m⟩ := h1.there (a := a) (by rw [ownA_own]; exact List.mem_cons_self)
      refine (h1.wrL (q3 q1) (by rw [List.length_dropLast]; omega)).addVal ?_
      rw [ownA_own]
      exact (Cr.wr eu m List.mem_cons_self).dn e5
  · cases e
theorem ok_popAt : MuOk K rPopAt popAtM := fun l H a xs d ds d' s Q hl h e q => by
  unfold popAtM at e
  split at e
  · split at e
    · rename_i es i hi
      rw [Option.bind_eq_some_iff] at e
      obtain ⟨k, e0, e⟩ := e
      rw [Option.map_eq_some_iff] at e
      obtain ⟨dl, e1, e2⟩ := e
      cases e2
      match xs, hl with
      | [y], hl =>
        obtain ⟨ys, e3, q1, z, h1, q2⟩ := own_list hl h
        obtain ⟨v, e4, e5⟩ := q1.getD e1
        have ey : y = .int i := by
          cases q2 with
          | cons h0 _ => exact h0.rn
        subst ey
        refine ⟨a, ys, i, k, v, rfl, rfl, e3, hi.1, hi.2, by rw [q1.length]; exact e0, e4, q _ _ ?_⟩
        obtain ⟨u, eu, m⟩ := h1.there (a := a) (by rw [ownA_own]; exact List.mem_cons_self)
        refine (h1.wrL (q1.erase k) (Nat.le_trans (List.length_eraseIdx_le ..) z)).addVal ?_
        rw [ownA_own]
        exact (Cr.wr eu m List.mem_cons_self).dn e5
    · cases e
  · cases e
theorem ok_setL : SeOk K rSetL (fun d i v => match d with | .list ds => setM (.list ds) i v | _ => none) := fun l H a iv v d di dv d' Q h e q => by
  cases d with
  | list ds =>
    cases di with
    | int k =>
      simp only [setM, Option.map_eq_some_iff] at e
      obtain ⟨j, e1, rfl⟩ := e
      have h1 : Hd K H (valCells [iv, v] [.int k, dv] ++ ((some (.ref a), .own (.list ds)) :: l)) := h
      obtain ⟨ys, e3, q1, z, h2, q2⟩ := own_list rfl h1
      cases q2 with
      | cons a1 t =>
        cases t with
        | cons a2 _ =>
          have ei : iv = .int k := a1.rn
          subst ei
          refine ⟨a, ys, k, j, rfl, rfl, e3, by rw [q1.length]; exact e1, q _ ?_⟩
          exact h2.wrL (q1.set a2 j) (by rw [List.length_set]; exact z)
    | _ => cases e
  | _ => cases e
end
/-! ### a display times an int -/
def repF (f g : EvX) : EvX := fun ρ => (f ρ).bind fun p => (g p.2).bind fun q => match p.1, q.1 with
  | .tmp (.own (.list ds)), .tmp (.val (.int k)) => if -(2 ^ 63) ≤ k ∧ k < 2 ^ 63 ∧ ds.length * k.toNat ≤ 16777216 then some (.tmp (.own (.list (List.replicate k.toNat ds).flatten)), q.2) else none
  | _, _ => none
theorem ex_rep {X : Cx} {a b : Expr} {pos : Pos} {f g : EvX} (ha : EX X a f) (hb : EX X b g) : EX X (.BinOp a .Mult b pos) (repF f g) := by
  obtain ⟨ta, pa, qa⟩ := ha.ex
  obtain ⟨tb, pb, qb⟩ := hb.ex
  refine ⟨_, pe_op op_rep pa pb, fun σ ρ stk H Q o ρ' hl h e k => ?_⟩
  unfold repF at e
  simp only [Option.bind_eq_some_iff] at e
  obtain ⟨⟨o1, ρ1⟩, e1, ⟨o2, ρ2⟩, e2, e⟩ := e
  refine qa σ ρ stk H _ o1 ρ1 hl h e1 fun v1 H1 l1 h1 a1 => ?_
  refine qb σ ρ1 (cellOf v1 o1 ++ stk) H1 _ o2 ρ2 (by omega) (h1.perm (List.perm_append_comm_assoc _ _ _)) e2 fun v2 H2 l2 h2 a2 => ?_
  dsimp only at e
  split at e
  · rename_i ds n
    split at e
    · rename_i hz
      cases e
      have r2 : v2 = .int n := (Hd.valOf (l := σ.zip ρ' ++ (cellOf v1 (.tmp (.own (.list ds))) ++ stk)) h2).rn
      subst r2
      have h3 : Hd X.K H2 ((some v1, .own (.list ds)) :: (σ.zip ρ' ++ stk)) := (Hd.tail h2).perm List.perm_middle
      obtain ⟨b', eb, ys, eH, q, z⟩ := h3.ok _ List.mem_cons_self
      cases eb
      refine ⟨b', n, ys, rfl, rfl, eH, hz.1, hz.2.1, by rw [q.length]; exact lineOf hz.2.2, fun p np => ?_⟩
      have q2 := (Cr.less (W' := ownA (σ.zip ρ' ++ stk)) fun a ha => by rw [ownA_own]; exact List.mem_cons_of_mem _ ha).all q
      refine k (.ref p) _ (by omega) (h3.tail.newL np (q2.rep _) ?_) True.intro
      have : (List.replicate n.toNat ds).flatten.length = n.toNat * ds.length := by simp
      rw [this, Nat.mul_comm]
      exact lineOf hz.2.2
    · cases e
  · cases e
end DL
namespace DL
open PySem PySem.Spec L2

/-! ### the text's defs, by name -/
def AtE (K : PySem.W.Frag) (mg : Str → Option Value) (x : Str) (st : Stmt) (ps : List Str) : Prop := ∃ f fd, Fun K x x st f fd ∧ mg x = some (.ref f) ∧ Binds K fd ps []
def OkD (P : Program) (w : World) (K : PySem.W.Frag) (mg : Str → Option Value) (base : Heap) (x : Str) (k : Nat) (ps : List Str) (m : Mir) : Prop :=
  ∃ f fd, mg x = some (.ref f) ∧ PySem.W.keepIn K (.ref f) = true ∧ Binds K fd ps [] ∧ (∃ oc od osl, K.lookup f = some ⟨oc, od, .func fd, osl⟩) ∧ (∀ ss r ss', m ss = some (r, ss') → ss'.length = ss.length) ∧ FnOk P w K mg base CX0 k f fd ps (spD K ps.length m)
section
variable {P : Program} {w : World} {K : PySem.W.Frag} {mg : Str → Option Value} {base : Heap} {x : Str} {st : Stmt} {ps N : List Str} {k n : Nat} {m : Mir}
theorem OkD.mono {j : Nat} (h : OkD P w K mg base x j ps m) (l : j ≤ k) : OkD P w K mg base x k ps m := by
  obtain ⟨f, fd, h2, h3, h4, h0, h5, h6⟩ := h
  exact ⟨f, fd, h2, h3, h4, h0, h5, h6.mono l⟩
theorem def_ok {pin : List Bool} {body : EvS} (T : AtE K mg x st ps) (S : FnScope N ps (defScope st)) (hpin : pin.length = ps.length)
    (hb : ∀ (f : Addr) (cdv : Value) (A : Around) (outer : List PySem.Env) (s : Shared) (H : Hp) (E : XK), Room k (A.deeper (PyProof.Rows.envOfC x (defScope st) s.heap.objs.size f cdv)) → BX (cxOf CX0 P w K mg base N x (defScope st) f cdv A outer s H E).nox (Pn pin) (defBody st) body) :
    OkD P w K mg base x (k + 1) ps (fnD N.length pin body) := by
  obtain ⟨f, fd, F, hm, hbi⟩ := T
  have hN : pin.length ≤ N.length := by
    have := congrArg List.length S.pre
    rw [List.length_take] at this
    omega
  obtain ⟨oc, od, _, _, _, _, _, _, osl, _, lk, _⟩ := F.ex
  exact ⟨f, fd, hm, F.kp, hbi, ⟨oc, od, osl, lk⟩, fun ss r ss' e => fnD_len hN e, fn_ok F S hpin (hb f)⟩
/-- a mirror without a promise: its fuel is used up -/
theorem OkD.none (T : AtE K mg x st ps) : OkD P w K mg base x k ps (fun _ => none) := by
  obtain ⟨f, fd, F, hm, hbi⟩ := T
  obtain ⟨oc, od, _, _, _, _, _, _, osl, _, lk, _⟩ := F.ex
  refine ⟨f, fd, hm, F.kp, hbi, ⟨oc, od, osl, lk⟩, fun ss r ss' e => (by cases e), ⟨fun vs H Q E h => h.1, fun A outer s H args us vs Q E _ _ _ _ h => ?_⟩⟩
  obtain ⟨_, _, _, _, _, _, _, _, e, _⟩ := h
  cases e
end
section
variable {X : Cx} {k : Nat} {ps : List Str} {m : Mir} {x : Str} {p pos : Pos} {e : Expr} {es : List Expr} {fa : EvA}
theorem ex_def (F : OkD X.prog X.w X.K X.mg X.base x k ps m) (hr : Room k X.A) (hg : Gl X x) (ha : AX X (e :: es) fa) (hn : (e :: es).length = ps.length := by rfl) (hdb : (x == ("__debug__" : Str)) = false := by decide)
    (he : starEach (e :: es) X.env = (false, eval e X.env) :: starEach es X.env := by rfl) (hpl : (backTo pos (starEach es X.env)).any (·.1) = false := by rfl) : EX X (.Call (.Name x p) (e :: es) [] pos) (callF m fa) := by
  obtain ⟨f, fd, h2, h3, h4, _, h5, h6⟩ := F
  exact ex_call h6 hr hg h2 h3 h4 pass0 h5 ha hn hdb he hpl
theorem ex_def0 (F : OkD X.prog X.w X.K X.mg X.base x k [] m) (hr : Room k X.A) (hg : Gl X x) (hdb : (x == ("__debug__" : Str)) = false := by decide) : EX X (.Call (.Name x p) [] [] pos) (callF m nilA) := by
  obtain ⟨f, fd, h2, h3, h4, _, h5, h6⟩ := F
  exact ex_call0 h6 hr hg h2 h3 h4 pass0 h5 hdb
theorem ex_gstr {z : Str} (hg : Gl X x) (h : ∃ t, X.mg x = some (.str z t)) (hd : (x == ("__debug__" : Str)) = false := by decide) : EX X (.Name x pos) (consF (.str z)) := by
  obtain ⟨t, h⟩ := h
  exact ex_glob (v := .str z) hg h ⟨t, rfl⟩ (fun _ _ => .str z) hd
theorem ex_gint {z : Int} (hg : Gl X x) (h : ∃ t, X.mg x = some (.int z t)) (hd : (x == ("__debug__" : Str)) = false := by decide) : EX X (.Name x pos) (consF (.int z)) := by
  obtain ⟨t, h⟩ := h
  exact ex_glob (v := .int z) hg h ⟨t, rfl⟩ (fun _ _ => .int z) hd
end
theorem hu65 {k : Nat} {A : Around} (r : Room k A) : A.units + 65 < cLine := by have := r.un; omega
theorem hu1 {k : Nat} {A : Around} (r : Room k A) : A.units + 1 < cLine := by have := r.un; omega
/-! ### what the top has left -/
section
variable {K : PySem.W.Frag} {h : Heap} {mg : Str → Option Value}
theorem mk_at {x : Str} {st : Stmt} {ps : List Str} {f : Addr} {oc : Value} {od an : Option Addr} {osl : Array (Option Value)} {kV doc pm cdv ct : Value} (X : K.In h) (G : h.Ns mainGlobals mg) (a : PySem.W.nsIn K mainGlobals x = some (some (.ref f)))
    (l : K.lookup f = some ⟨oc, od, .func (PySem.W.fnOf x x (defArgs st) (defBody st) (defScope st) .none kV doc pm an cdv ct), osl⟩) (c : PySem.W.codeIn K cdv x = true) (k : PySem.W.keepIn K (.ref f) = true)
    (hb : ∀ (kV doc pm : Value) (an : Option Addr) (cdv ct : Value) (us : List Value), us.length = ps.length → bindArgs (PySem.W.fnOf x x (defArgs st) (defBody st) (defScope st) .none kV doc pm an cdv ct) ⟨us, []⟩ = pure (ps.zip us)) : AtE K mg x st ps :=
  have F := fun_mk (st := st) l c k
  ⟨f, _, F, PySem.W.mg_of X G a, F.binds hb⟩
theorem mk_str {x z : Str} {t : Tok} (X : K.In h) (G : h.Ns mainGlobals mg) (a : PySem.W.nsIn K mainGlobals x = some (some (.str z t))) : ∃ t, mg x = some (.str z t) := ⟨t, PySem.W.mg_of X G a⟩
theorem mk_int {x : Str} {z : Int} {t : Tok} (X : K.In h) (G : h.Ns mainGlobals mg) (a : PySem.W.nsIn K mainGlobals x = some (some (.int z t))) : ∃ t, mg x = some (.int z t) := ⟨t, PySem.W.mg_of X G a⟩
end
/-- the law's promise -/
def spLaw (K : PySem.W.Frag) : Sp := fun vs H Q _ => ∃ (a : Addr) (ns : List Int), vs = [.ref a] ∧ SqL K H a (ns.map V.int) ∧ ns.length ≤ 63 ∧ ∀ H', Q (.bl true) H'
theorem ints_dnA {K : PySem.W.Frag} {W : List Addr} {H : Hp} : ∀ ns : List Int, DnA K W H (ns.map V.int) (ns.map PyData.int)
  | [] => .nil
  | i :: ns => .cons (.int i) (ints_dnA ns)
/-- a law whose mirror answers True at every script -/
theorem law_sp {K : PySem.W.Frag} {m : Mir} (hm : ∀ ns : List Int, ns.length ≤ 63 → ∃ ss', m [.val (.list (ns.map PyData.int))] = some (.val (.bool true), ss') ∧ ss'.length = 1) {vs : List V} {H : Hp} {Q : VK} {E : XK} (h : spLaw K vs H Q E) : spD K 1 m vs H Q E := by
  obtain ⟨a, ns, rfl, hr, hn, q⟩ := h
  obtain ⟨ss', e, l⟩ := hm ns hn
  refine ⟨rfl, [.val (.list (ns.map PyData.int))], [], _, ss', rfl, l, ?_, e, fun v H' hh => ?_⟩
  · have z : (ns.map V.int).length ≤ sizeLine := line1000 (by rw [List.length_map]; omega)
    have h0 : Hd K H [] := ⟨List.nodup_nil, fun c hc => by cases hc⟩
    exact h0.addVal (.lst (hr.elim (fun r => .inl ⟨(by intro hh; cases hh), r⟩) .inr) z (ints_dnA ns))
  · have r : v = .bl true := hh.valOf.rn
    subst r
    exact q H'
theorem law_end {P : Program} {w : World} {K : PySem.W.Frag} {mg : Str → Option Value} {st : Stmt} {k : Nat} {m : Mir} {fa : Addr} (T : AtE K mg "law" st ["script"]) (h : ∀ base : Heap, OkD P w K mg base "law" k ["script"] m)
    (hm : ∀ ns : List Int, ns.length ≤ 63 → ∃ ss', m [.val (.list (ns.map PyData.int))] = some (.val (.bool true), ss') ∧ ss'.length = 1) (hfa : mg "law" = some (.ref fa)) : ∃ fd : FuncData, Fun K "law" "law" st fa fd ∧ ∀ base : Heap, FnOk P w K mg base CX0 k fa fd ["script"] (spLaw K) := by
  obtain ⟨f, fd, F, hf, _⟩ := T
  rw [hfa] at hf
  cases hf
  refine ⟨fd, F, fun base => ?_⟩
  obtain ⟨f, fd', hf, _, _, ⟨oc, od, osl, lk⟩, _, ok⟩ := h base
  rw [hfa] at hf
  cases hf
  obtain ⟨oc2, od2, _, _, _, _, _, _, osl2, _, lk2, _⟩ := F.ex
  rw [lk] at lk2
  have e : fd' = fd := by
    have := congrArg (fun o => o.map fun (x : Obj) => x.data) lk2
    simpa using this
  subst e
  exact ok.imp fun vs H Q E q => law_sp hm q
/-- the goal that the head leaves -/
theorem walk_law {l : PySem.W.OpenLaw} {k : Nat} {q : Program} {loose : List Str} {XP : (Str → Option Value) → Heap → Prop} {YP : World → Heap → Prop} {d : DefRec} {K : Params → PySem.W.Frag} {st : Stmt}
    (hn : l.most = some 63) (hdf : d.params.defaults = []) (hr : Room k callerA) (hY : ∀ (w : World) (h : Heap), YP w h → (K w.params).In h)
    (F : ∀ (w : World) (mg : Str → Option Value) (fa : Addr) (h : Heap), (K w.params).In h → h.Ns mainGlobals mg → mg d.name = some (.ref fa) → ∃ fd : FuncData, Fun (K w.params) "law" "law" st fa fd ∧ ∀ base : Heap, FnOk l.prog w (K w.params) mg base CX0 k fa fd ["script"] (spLaw (K w.params)))
    (B : ∀ (kV doc pm : Value) (an : Option Addr) (cdv ct : Value) (s : Shared) (u : Value), BindsTo s (PySem.W.fnOf "law" "law" (defArgs st) (defBody st) (defScope st) .none kV doc pm an cdv ct) ⟨[u], []⟩ [("script", u)]) :
    PySem.W.WalkO q loose XP YP l.row.toRowW d [] (fun f vs => PySem.call f vs) :=
  L2.walk_of (n := 63) (k := k) (x := "script") (CX := fun _ => CX0) (sp := fun w => spLaw (K w.params)) hn (by decide) hdf hr hY (fun w mg fa h KX G hmg => by
    obtain ⟨fd, Fn, ok⟩ := F w mg fa h KX G hmg
    obtain ⟨_, _, kV, doc, pm, an, cdv, ct, _, e, _, _⟩ := Fn.ex
    subst e
    exact ⟨_, B kV doc pm an cdv ct, fun base _ _ => ok base⟩) (fun _ _ a ns hl _ hS => ⟨a, ns, rfl, hS, hl, fun _ => rfl⟩) (fun _ _ _ _ _ z => z)
/-! ### stores by place and by key -/
section
variable {X : Cx} {K : PySem.W.Frag}
def rSetD : V → V → V → Hp → (Hp → Prop) → Prop := fun o i v H Q => ∃ a H', o = .ref a ∧ DPut H a i v H' ∧ Q H'
theorem set_dict (hu : X.A.units + 1 < cLine) : PSet X rSetD := fun pins s σ H o i v ov iv u Q I ro ri rv h => by
  obtain ⟨a, H', e, g, q⟩ := h
  subst e
  cases ro
  exact d_setItem hu I g ri rv fun s' I' => ⟨H', I', q⟩
def rSetA : V → V → V → Hp → (Hp → Prop) → Prop := fun o i v H Q => rSetL o i v H Q ∨ rSetD o i v H Q
theorem set_any (hu : X.A.units + 1 < cLine) : PSet X rSetA := fun pins s σ H o i v ov iv u Q I ro ri rv h => h.elim (set_list pins s σ H o i v ov iv u Q I ro ri rv) (set_dict hu pins s σ H o i v ov iv u Q I ro ri rv)
theorem isKey_kD (k k' : Key) : isKey k (kD k') = decide (k' = k) := by
  cases k' with
  | inl i => simp only [kD, isKey]; exact decide_eq_decide.mpr ⟨fun e => e.symm, fun e => e.symm⟩
  | inr i => simp only [kD, isKey]; exact decide_eq_decide.mpr ⟨fun e => e.symm, fun e => e.symm⟩
theorem DnK.append {W : List Addr} {H : Hp} : ∀ {a b : List (Key × V)} {c d : List (D × D)}, DnK K W H a c → DnK K W H b d → DnK K W H (a ++ b) (c ++ d)
  | _, _, _, _, .nil, h => h
  | _, _, _, _, .cons q t, h => .cons q (DnK.append t h)
theorem any_key {W : List Addr} {H : Hp} {k : Key} : ∀ {kvs : List (Key × V)} {es : List (D × D)}, DnK K W H kvs es → (es.any fun e => isKey k e.1) = kvs.any fun kv => decide (kv.1 = k)
  | _, _, .nil => rfl
  | _, _, .cons _ t => by rw [List.any_cons, List.any_cons, any_key t, isKey_kD]
theorem put_dn {W : List Addr} {H : Hp} {k : Key} {v : V} {d : D} {kvs : List (Key × V)} {es : List (D × D)} (h : DnK K W H kvs es) (q : Dn K W H v d) : DnK K W H (putK kvs k v) (putE es k d) := by
  unfold putK putE
  rw [any_key h]
  split
  · have : ∀ {kvs : List (Key × V)} {es : List (D × D)}, DnK K W H kvs es → DnK K W H (kvs.map fun kv => if kv.1 = k then (kv.1, v) else kv) (es.map fun e => if isKey k e.1 then (e.1, d) else e) := by
      intro kvs es h
      induction kvs generalizing es with
      | nil => cases h; exact .nil
      | cons kv kvs ih =>
        cases h with
        | cons h1 t =>
          rename_i k' v' d' es'
          rw [List.map_cons, List.map_cons, isKey_kD]
          by_cases e : k' = k
          · simp only [e, decide_true, if_true]
            exact .cons q (ih t)
          · simp only [e, decide_false, if_false, Bool.false_eq_true]
            exact .cons h1 (ih t)
    exact this h
  · exact h.append (.cons q .nil)
theorem ok_set : SeOk K rSetA setM := fun l H a iv v d di dv d' Q h e q => by
  cases d with
  | list ds => exact .inl (ok_setL l H a iv v (.list ds) di dv d' Q h e q)
  | dict es =>
    have e' : ((keyD di).bind fun k => if es.length < 16777216 then some (PyData.dict (putE es k dv)) else none) = some d' := by
      cases di <;> exact e
    rw [Option.bind_eq_some_iff] at e'
    obtain ⟨k, ek, e'⟩ := e'
    split at e'
    · rename_i hz
      cases e'
      have h1 : Hd K H (valCells [iv, v] [di, dv] ++ ((some (.ref a), .own (.dict es)) :: l)) := h
      have h2 := h1.noVals
      have h3 := h1.vals rfl
      obtain ⟨b, eb, kvs, eH, qk⟩ := h2.ok _ List.mem_cons_self
      cases eb
      rw [ownA_own] at qk h3
      cases h3 with
      | cons a1 t =>
        cases t with
        | cons a2 _ =>
          have ei := keyD_rn a1.rn ek
          subst ei
          exact .inr ⟨a, _, rfl, DPut.k eH (by rw [dnK_length qk, sizeLine_eq]; exact hz), q _ (h2.wrD (put_dn qk a2))⟩
    · cases e'
  | _ => cases di <;> cases e
end
end DL
namespace DL
open PySem L2
/-! ### a mirror run statement by statement -/
def runD (n : Nat) (pin : List Bool) (ss : List Sl) (o : Option Fl) : Option (Sl × List Sl) := if okIn pin ss then o.bind fun fl => match fl with
    | .rt r ρ' => if ρ'.length = n then some (r, outS pin ss ρ') else none
    | .nx ρ' => if ρ'.length = n then some (.val .none, outS pin ss ρ') else none
    | _ => none
  else none
theorem run_rt {n : Nat} {pin : List Bool} {ss : List Sl} {o : Option Fl} {r : Sl} {ρ' : Rh} {out : List Sl} (h0 : okIn pin ss = true) (h1 : o = some (.rt r ρ')) (h2 : ρ'.length = n) (h3 : outS pin ss ρ' = out) : runD n pin ss o = some (r, out) := by
  subst h1 h3
  simp only [runD, h0, h2, if_true, Option.bind_some]
theorem run_nx {n : Nat} {pin : List Bool} {ss : List Sl} {o : Option Fl} {ρ' : Rh} {out : List Sl} (h0 : okIn pin ss = true) (h1 : o = some (.nx ρ')) (h2 : ρ'.length = n) (h3 : outS pin ss ρ' = out) : runD n pin ss o = some (.val .none, out) := by
  subst h1 h3
  simp only [runD, h0, h2, if_true, Option.bind_some]
theorem seq_nx {f g : EvS} {ρ ρ1 : Rh} {r : Option Fl} (h1 : f ρ = some (.nx ρ1)) (h2 : g ρ1 = r) : seqF f g ρ = r := by
  simp only [seqF, h1, Option.bind_some, h2]
theorem seq_rt {f g : EvS} {ρ ρ1 : Rh} {s : Sl} (h1 : f ρ = some (.rt s ρ1)) : seqF f g ρ = some (.rt s ρ1) := by
  simp only [seqF, h1, Option.bind_some]
theorem if_tt {t : EvT} {f g : EvS} {ρ ρ1 : Rh} {r : Option Fl} (h1 : t ρ = some (true, ρ1)) (h2 : f ρ1 = r) : ifS t f g ρ = r := by
  simp only [ifS, h1, Option.bind_some, if_true, h2]
theorem if_ff {t : EvT} {f g : EvS} {ρ ρ1 : Rh} {r : Option Fl} (h1 : t ρ = some (false, ρ1)) (h2 : g ρ1 = r) : ifS t f g ρ = r := by
  simp only [ifS, h1, Option.bind_some, h2]
  rfl
theorem for_eq {it : EvI} {tg : EvG} {body : EvS} {ρ ρ1 : Rh} {ds : List D} {r : Option Fl} (h1 : it ρ = some (ds, ρ1)) (h2 : forGo tg body ds ρ1 = r) : forF it tg body ρ = r := by
  simp only [forF, h1, Option.bind_some, h2]
theorem set_tmp {i : Nat} {fe : EvX} {ρ ρ1 : Rh} {s : Sl} (h1 : fe ρ = some (.tmp s, ρ1)) (h2 : i < ρ1.length) : setF i fe ρ = some (.nx (ρ1.set i s)) := by
  simp only [setF, h1, Option.bind_some, h2, if_true]
theorem ret_tmp {fe : EvX} {ρ ρ1 : Rh} {s : Sl} (h1 : fe ρ = some (.tmp s, ρ1)) : retF fe ρ = some (.rt s ρ1) := by
  simp only [retF, h1, Option.bind_some]
theorem lc_eq {fi : EvI} {fg : EvG} {ft : EvT} {fe : EvX} {vs : List Nat} {ρ ρ1 ρ2 : Rh} {ds out : List D} (h1 : fi ρ = some (ds, ρ1)) (h2 : lcGo fg ft fe vs ds (wipeR ρ1 vs) = some (out, ρ2)) : lcF fi fg ft fe vs ρ = some (.tmp (.own (.list out)), restR ρ1 ρ2 vs) := by
  simp only [lcF, h1, Option.bind_some, h2]
theorem call_eq {m : Mir} {f : EvA} {ρ ρ1 ρ2 : Rh} {os : List Opd} {ss ss' : List Sl} {r : Sl} (h1 : f ρ = some (os, ρ1)) (h2 : takeAll os ρ1 = some (ss, ρ2)) (h3 : m ss = some (r, ss')) : callF m f ρ = some (.tmp r, putAll os ss' ρ2) := by
  simp only [callF, h1, h2, h3, Option.bind_some]
/-! ### evaluation by simp: a bound part is looked at when it is reached -/
theorem nr {α : Type} {a b : α} (h : a = b) : a = b := h
inductive Wit {α β : Type} (f : α → Option β) : Type
  | mk : Wit f
def bd {α β : Type} (x : Option α) (f : α → Option β) (_ : Wit f) : Option β := x.bind f
@[simp] theorem bd_some {α β : Type} (a : α) (f : α → Option β) (w : Wit f) : bd (some a) f w = f a := nr rfl
@[simp] theorem bd_none {α β : Type} (f : α → Option β) (w : Wit f) : bd none f w = none := nr rfl
section
variable {f g h k : EvX} {ft gt : EvT} {fa : EvA} {fs gs : EvS} {ρ : Rh} {i : Nat} {T : String} {fl fh : EvO} {fi : EvI} {fg : EvG}
@[simp] theorem v_op {o : Op2} : opF o f g ρ = bd (f ρ) (fun p => bd (g p.2) (fun q => bd (cont q.2 p.1) (fun d1 => bd (cont q.2 q.1) (fun d2 => bd (o d1 d2) (fun s => some (.tmp s, q.2)) .mk) .mk) .mk) .mk) .mk := nr rfl
@[simp] theorem v_un {o : Op1} : unF o f ρ = bd (f ρ) (fun p => bd (cont p.2 p.1) (fun d => bd (o d) (fun s => some (.tmp s, p.2)) .mk) .mk) .mk := nr rfl
@[simp] theorem v_bool : boolF f ρ = bd (f ρ) (fun p => match p.1 with | .tmp (.val (.bool b)) => some (b, p.2) | _ => none) .mk := nr rfl
@[simp] theorem v_tru : truF f ρ = bd (f ρ) (fun p => bd (cont p.2 p.1) (fun d => bd (truD d) (fun b => some (b, p.2)) .mk) .mk) .mk := nr rfl
@[simp] theorem v_not : notF ft ρ = bd (ft ρ) (fun p => some (!p.1, p.2)) .mk := nr rfl
@[simp] theorem v_and : andF ft gt ρ = bd (ft ρ) (fun p => if p.1 then gt p.2 else some (false, p.2)) .mk := nr rfl
@[simp] theorem v_or : orF ft gt ρ = bd (ft ρ) (fun p => if p.1 then some (true, p.2) else gt p.2) .mk := nr rfl
@[simp] theorem v_asB : asB ft ρ = bd (ft ρ) (fun p => some (.tmp (.val (.bool p.1)), p.2)) .mk := nr rfl
@[simp] theorem v_andV : andV f g ρ = bd (boolF f ρ) (fun p => if p.1 then g p.2 else some (.tmp (.val (.bool false)), p.2)) .mk := nr rfl
@[simp] theorem v_orV : orV f g ρ = bd (boolF f ρ) (fun p => if p.1 then some (.tmp (.val (.bool true)), p.2) else g p.2) .mk := nr rfl
@[simp] theorem v_notV : notV f ρ = bd (boolF f ρ) (fun p => some (.tmp (.val (.bool !p.1)), p.2)) .mk := nr rfl
@[simp] theorem v_if : ifF ft f g ρ = bd (ft ρ) (fun p => if p.1 then f p.2 else g p.2) .mk := nr rfl
@[simp] theorem v_chain {o o' : Op2} : chainF o o' f h k ρ = bd (f ρ) (fun p => bd (h p.2) (fun q => bd (cont q.2 p.1) (fun d1 => bd (cont q.2 q.1) (fun d2 => bd (o d1 d2) (fun s => match s with
    | .val (.bool true) => bd (k q.2) (fun r => bd (cont r.2 q.1) (fun d2' => bd (cont r.2 r.1) (fun d3 => bd (o' d2' d3) (fun s' => some (.tmp s', r.2)) .mk) .mk) .mk) .mk
    | .val (.bool false) => some (.tmp (.val (.bool false)), q.2)
    | _ => none) .mk) .mk) .mk) .mk) .mk := nr rfl
@[simp] theorem v_cons : consA f fa ρ = bd (f ρ) (fun p => bd (fa p.2) (fun q => some (p.1 :: q.1, q.2)) .mk) .mk := nr rfl
@[simp] theorem v_tup : tupF fa ρ = bd (fa ρ) (fun p => bd (frzAll p.1 p.2) (fun q => some (.tmp (.val (.tuple q.1)), q.2)) .mk) .mk := nr rfl
@[simp] theorem v_lst : lstF fa ρ = bd (fa ρ) (fun p => bd (frzAll p.1 p.2) (fun q => some (.tmp (.own (.list q.1)), q.2)) .mk) .mk := nr rfl
@[simp] theorem v_cb {o : OpN} : cbF o fa ρ = bd (fa ρ) (fun p => bd (conts p.2 p.1) (fun ds => bd (o ds) (fun s => some (.tmp s, p.2)) .mk) .mk) .mk := nr rfl
@[simp] theorem v_someO : someO f ρ = bd (f ρ) (fun p => match p.1 with | .tmp (.val (.int i)) => some (some i, p.2) | _ => none) .mk := nr rfl
@[simp] theorem v_sl {o : D → Option Int → Option Int → Option Sl} : slF o f fl fh ρ = bd (f ρ) (fun p => bd (fl p.2) (fun q => bd (fh q.2) (fun r => bd (cont r.2 p.1) (fun d => bd (o d q.1 r.1) (fun s => some (.tmp s, r.2)) .mk) .mk) .mk) .mk) .mk := nr rfl
@[simp] theorem v_bm {o : D → List D → Option Sl} : bmF T o f fa ρ = bd (f ρ) (fun p => bd (cont p.2 p.1) (fun d0 => if tyD T d0 then bd (fa p.2) (fun q => bd (cont q.2 p.1) (fun d => bd (conts q.2 q.1) (fun ds => bd (o d ds) (fun s => some (.tmp s, q.2)) .mk) .mk) .mk) .mk else none) .mk) .mk := nr rfl
@[simp] theorem v_mu {o : D → List D → Option (D × Sl)} : muF T i o fa ρ = (match ρ[i]? with
  | some (.own d0) => if tyM T d0 then bd (fa ρ) (fun p => bd (frzAll p.1 p.2) (fun q => match q.2[i]? with
      | some (.own d) => bd (o d q.1) (fun r => some (.tmp r.2, q.2.set i (.own r.1))) .mk
      | _ => none) .mk) .mk else none
  | _ => none) := nr rfl
@[simp] theorem v_seq : seqF fs gs ρ = bd (fs ρ) (fun fl => match fl with
  | .nx ρ1 => gs ρ1
  | .rt s ρ1 => some (.rt s ρ1)
  | .bk ρ1 => some (.bk ρ1)
  | .ct ρ1 => some (.ct ρ1)) .mk := nr rfl
@[simp] theorem v_expr : exprF f ρ = bd (f ρ) (fun p => some (.nx p.2)) .mk := nr rfl
@[simp] theorem v_ret : retF f ρ = bd (f ρ) (fun p => match p.1 with
  | .tmp s => some (.rt s p.2)
  | .slot i => match p.2[i]? with
    | some s => some (.rt s (p.2.set i .no))
    | none => none) .mk := nr rfl
@[simp] theorem v_ifS : ifS ft fs gs ρ = bd (ft ρ) (fun p => if p.1 then fs p.2 else gs p.2) .mk := nr rfl
@[simp] theorem v_set : setF i f ρ = bd (f ρ) (fun p => if i < p.2.length then (match p.1 with
  | .tmp s => some (.nx (p.2.set i s))
  | .slot j => bd (frzO (.slot j) p.2) (fun q => some (.nx (q.2.set i (.val q.1)))) .mk) else none) .mk := nr rfl
@[simp] theorem v_asg : asgF fg f ρ = bd (f ρ) (fun p => bd (frzO p.1 p.2) (fun q => bd (fg q.1 q.2) (fun ρ' => some (.nx ρ')) .mk) .mk) .mk := nr rfl
@[simp] theorem v_sit {o : D → D → D → Option D} : sitF i o f g ρ = bd (f ρ) (fun p => bd (frzO p.1 p.2) (fun q => match q.2[i]? with
  | some (.own _) => bd (g q.2) (fun r => bd (frzO r.1 r.2) (fun s => match s.2[i]? with
    | some (.own d) => bd (o d s.1 q.1) (fun d' => some (.nx (s.2.set i (.own d')))) .mk
    | _ => none) .mk) .mk
  | _ => none) .mk) .mk := nr rfl
@[simp] theorem v_it : itF f ρ = bd (f ρ) (fun p => match p.1 with
  | .tmp s => bd (slD s) (fun d => bd (itemsD d) (fun ds => some (ds, p.2)) .mk) .mk
  | .slot i => bd (frzO (.slot i) p.2) (fun q => bd (itemsD q.1) (fun ds => some (ds, q.2)) .mk) .mk) .mk := nr rfl
@[simp] theorem v_rng1 : rng1F f ρ = bd (f ρ) (fun p => match p.1 with
  | .tmp (.val (.int j)) => if -(2 ^ 62) ≤ j ∧ j ≤ 16777216 then some (rangeD j.toNat 0, p.2) else none
  | _ => none) .mk := nr rfl
@[simp] theorem v_rng2 : rng2F f g ρ = bd (f ρ) (fun p => bd (g p.2) (fun q => match p.1, q.1 with
  | .tmp (.val (.int i)), .tmp (.val (.int j)) => if -(2 ^ 62) ≤ i ∧ i < 2 ^ 62 ∧ -(2 ^ 62) ≤ j ∧ j < 2 ^ 62 ∧ j - i ≤ 16777216 then some (rangeD (j - i).toNat i, q.2) else none
  | _, _ => none) .mk) .mk := nr rfl
@[simp] theorem v_for : forF fi fg fs ρ = bd (fi ρ) (fun p => forGo fg fs p.1 p.2) .mk := nr rfl
@[simp] theorem v_lc {vs : List Nat} : lcF fi fg ft f vs ρ = bd (fi ρ) (fun p => bd (lcGo fg ft f vs p.1 (wipeR p.2 vs)) (fun z => some (.tmp (.own (.list z.1)), restR p.2 z.2 vs)) .mk) .mk := nr rfl
@[simp] theorem v_call {m : Mir} : callF m fa ρ = bd (fa ρ) (fun p => bd (takeAll p.1 p.2) (fun q => bd (m q.1) (fun r => some (.tmp r.1, putAll p.1 r.2 q.2)) .mk) .mk) .mk := nr rfl
@[simp] theorem v_fn {n : Nat} {pin : List Bool} {ss : List Sl} : fnD n pin fs ss = (if okIn pin ss then bd (fs (ss ++ List.replicate (n - ss.length) .no)) (fun fl => match fl with
    | .rt r ρ' => if ρ'.length = n then some (r, outS pin ss ρ') else none
    | .nx ρ' => if ρ'.length = n then some (.val .none, outS pin ss ρ') else none
    | _ => none) .mk else none) := nr rfl
@[simp] theorem v_rep : repF f g ρ = bd (f ρ) (fun p => bd (g p.2) (fun q => match p.1, q.1 with
  | .tmp (.own (.list ds)), .tmp (.val (.int k)) => if -(2 ^ 63) ≤ k ∧ k < 2 ^ 63 ∧ ds.length * k.toNat ≤ 16777216 then some (.tmp (.own (.list (List.replicate k.toNat ds).flatten)), q.2) else none
  | _, _ => none) .mk) .mk := nr rfl
end
/-! ### loops of mirrors, by what holds of them -/
theorem forGo_inv {tg : EvG} {body : EvS} (P : Rh → Prop) : ∀ {ds : List D} {ρ : Rh}, P ρ → (∀ d ∈ ds, ∀ ρ, P ρ → ∃ ρ1 ρ2, tg d ρ = some ρ1 ∧ body ρ1 = some (.nx ρ2) ∧ P ρ2) → ∃ ρ', forGo tg body ds ρ = some (.nx ρ') ∧ P ρ'
  | [], ρ, h, _ => ⟨ρ, rfl, h⟩
  | d :: ds, ρ, h, st => by
    obtain ⟨ρ1, ρ2, e1, e2, p2⟩ := st d List.mem_cons_self ρ h
    obtain ⟨ρ', e, p⟩ := forGo_inv P (ds := ds) p2 fun d hd => st d (List.mem_cons_of_mem _ hd)
    exact ⟨ρ', by simp only [forGo, e1, e2, Option.bind_some, e], p⟩
/-- each turn goes on or leaves -/
theorem forGo_find {tg : EvG} {body : EvS} (P : Rh → Prop) (p : D → Bool) (r : D → Sl) : ∀ {ds : List D} {ρ : Rh}, P ρ → (∀ d ∈ ds, ∀ ρ, P ρ → ∃ ρ1 ρ2, tg d ρ = some ρ1 ∧ body ρ1 = some (if p d then .rt (r d) ρ2 else .nx ρ2) ∧ P ρ2) →
    ∃ ρ', P ρ' ∧ forGo tg body ds ρ = some (match ds.find? p with | some d => .rt (r d) ρ' | none => .nx ρ')
  | [], ρ, h, _ => ⟨ρ, h, rfl⟩
  | d :: ds, ρ, h, st => by
    obtain ⟨ρ1, ρ2, e1, e2, p2⟩ := st d List.mem_cons_self ρ h
    cases hp : p d with
    | true =>
      rw [hp] at e2
      exact ⟨ρ2, p2, by simp only [forGo, e1, e2, Option.bind_some, List.find?_cons, hp, if_true]⟩
    | false =>
      rw [hp] at e2
      obtain ⟨ρ', q, e⟩ := forGo_find P p r (ds := ds) p2 fun d hd => st d (List.mem_cons_of_mem _ hd)
      exact ⟨ρ', q, by simp only [forGo, e1, e2, Option.bind_some, List.find?_cons, hp, if_false, Bool.false_eq_true, e]⟩
theorem lcGo_all {fg : EvG} {fe : EvX} {vs : List Nat} (P : Rh → Prop) (R : D → Prop) : ∀ {ds : List D} {ρ : Rh}, P ρ → (∀ d ∈ ds, ∀ ρ, P ρ → ∃ ρ1 o ρ2 r ρ3, fg d ρ = some ρ1 ∧ fe ρ1 = some (o, ρ2) ∧ frzO o ρ2 = some (r, ρ3) ∧ R r ∧ P (wipeR ρ3 vs)) →
    ∃ out ρ', lcGo fg yesT fe vs ds ρ = some (out, ρ') ∧ P ρ' ∧ (∀ x ∈ out, R x) ∧ out.length = ds.length
  | [], ρ, h, _ => ⟨[], ρ, rfl, h, by simp, rfl⟩
  | d :: ds, ρ, h, st => by
    obtain ⟨ρ1, o, ρ2, r, ρ3, e1, e2, e3, hr, p3⟩ := st d List.mem_cons_self ρ h
    obtain ⟨out, ρ', e, p, hx, hl⟩ := lcGo_all P R (ds := ds) p3 fun d hd => st d (List.mem_cons_of_mem _ hd)
    refine ⟨r :: out, ρ', by simp only [lcGo, yesT, e1, e2, e3, e, Option.bind_some, if_true], p, fun x hx' => ?_, by rw [List.length_cons, List.length_cons, hl]⟩
    rcases List.mem_cons.mp hx' with rfl | hm
    · exact hr
    · exact hx x hm
theorem lcGo_filter {fg : EvG} {ft : EvT} {fe : EvX} {vs : List Nat} {ρ : Rh} (p : D → Bool) (f : D → D) : ∀ {ds : List D}, (∀ d ∈ ds, ∃ ρ1 ρ2, fg d ρ = some ρ1 ∧ ft ρ1 = some (p d, ρ2) ∧ (p d = true → ∃ o ρ3 ρ4, fe ρ2 = some (o, ρ3) ∧ frzO o ρ3 = some (f d, ρ4) ∧ wipeR ρ4 vs = ρ) ∧ (p d = false → wipeR ρ2 vs = ρ)) →
    lcGo fg ft fe vs ds ρ = some ((ds.filter p).map f, ρ)
  | [], _ => rfl
  | d :: ds, st => by
    obtain ⟨ρ1, ρ2, e1, e2, h1, h2⟩ := st d List.mem_cons_self
    have e := lcGo_filter p f (ds := ds) fun d hd => st d (List.mem_cons_of_mem _ hd)
    cases hp : p d with
    | true =>
      obtain ⟨o, ρ3, ρ4, e3, e4, e5⟩ := h1 hp
      rw [hp] at e2
      simp only [lcGo, e1, e2, e3, e4, e5, e, Option.bind_some, if_true, List.filter_cons, hp, List.map_cons]
    | false =>
      have e5 := h2 hp
      rw [hp] at e2
      simp only [lcGo, e1, e2, e5, e, Option.bind_some, if_false, Bool.false_eq_true, List.filter_cons, hp]
theorem lcGo_map {fg : EvG} {fe : EvX} {vs : List Nat} {ρ : Rh} (f : D → D) {ds : List D} (st : ∀ d ∈ ds, ∃ ρ1 o ρ3 ρ4, fg d ρ = some ρ1 ∧ fe ρ1 = some (o, ρ3) ∧ frzO o ρ3 = some (f d, ρ4) ∧ wipeR ρ4 vs = ρ) :
    lcGo fg yesT fe vs ds ρ = some (ds.map f, ρ) := by
  have := lcGo_filter (ft := yesT) (ρ := ρ) (fun _ => true) f (ds := ds) (fg := fg) (fe := fe) (vs := vs) fun d hd => by
    obtain ⟨ρ1, o, ρ3, ρ4, e1, e2, e3, e4⟩ := st d hd
    exact ⟨ρ1, ρ1, e1, rfl, fun _ => ⟨o, ρ3, ρ4, e2, e3, e4⟩, fun z => by cases z⟩
  rw [this, List.filter_eq_self.mpr (fun _ _ => rfl)]
/-! the same over the images of a list -/
theorem lcGo_fm {α : Type} {fg : EvG} {ft : EvT} {fe : EvX} {vs : List Nat} {ρ : Rh} (g : α → D) (p : α → Bool) (f : α → D) : ∀ {xs : List α}, (∀ a ∈ xs, ∃ ρ1 ρ2, fg (g a) ρ = some ρ1 ∧ ft ρ1 = some (p a, ρ2) ∧ (p a = true → ∃ o ρ3 ρ4, fe ρ2 = some (o, ρ3) ∧ frzO o ρ3 = some (f a, ρ4) ∧ wipeR ρ4 vs = ρ) ∧ (p a = false → wipeR ρ2 vs = ρ)) →
    lcGo fg ft fe vs (xs.map g) ρ = some ((xs.filter p).map f, ρ)
  | [], _ => rfl
  | a :: xs, st => by
    obtain ⟨ρ1, ρ2, e1, e2, h1, h2⟩ := st a List.mem_cons_self
    have e := lcGo_fm g p f (xs := xs) fun d hd => st d (List.mem_cons_of_mem _ hd)
    cases hp : p a with
    | true =>
      obtain ⟨o, ρ3, ρ4, e3, e4, e5⟩ := h1 hp
      rw [hp] at e2
      simp only [List.map_cons, lcGo, e1, e2, e3, e4, e5, e, Option.bind_some, if_true, List.filter_cons, hp, List.map_cons]
    | false =>
      have e5 := h2 hp
      rw [hp] at e2
      simp only [List.map_cons, lcGo, e1, e2, e5, e, Option.bind_some, if_false, Bool.false_eq_true, List.filter_cons, hp]
theorem lcGo_m {α : Type} {fg : EvG} {fe : EvX} {vs : List Nat} {ρ : Rh} (g f : α → D) {xs : List α} (st : ∀ a ∈ xs, ∃ ρ1 o ρ3 ρ4, fg (g a) ρ = some ρ1 ∧ fe ρ1 = some (o, ρ3) ∧ frzO o ρ3 = some (f a, ρ4) ∧ wipeR ρ4 vs = ρ) :
    lcGo fg yesT fe vs (xs.map g) ρ = some (xs.map f, ρ) := by
  have := lcGo_fm (ft := yesT) (ρ := ρ) g (fun _ => true) f (xs := xs) (fg := fg) (fe := fe) (vs := vs) fun d hd => by
    obtain ⟨ρ1, o, ρ3, ρ4, e1, e2, e3, e4⟩ := st d hd
    exact ⟨ρ1, ρ1, e1, rfl, fun _ => ⟨o, ρ3, ρ4, e2, e3, e4⟩, fun z => by cases z⟩
  rw [this, List.filter_eq_self.mpr (fun _ _ => rfl)]
theorem forGo_fm {α : Type} {tg : EvG} {body : EvS} (P : Rh → Prop) (g : α → D) (p : α → Bool) (r : α → Sl) : ∀ {xs : List α} {ρ : Rh}, P ρ → (∀ a ∈ xs, ∀ ρ, P ρ → ∃ ρ1 ρ2, tg (g a) ρ = some ρ1 ∧ body ρ1 = some (if p a then .rt (r a) ρ2 else .nx ρ2) ∧ P ρ2) →
    ∃ ρ', P ρ' ∧ forGo tg body (xs.map g) ρ = some (match xs.find? p with | some a => .rt (r a) ρ' | none => .nx ρ')
  | [], ρ, h, _ => ⟨ρ, h, rfl⟩
  | a :: xs, ρ, h, st => by
    obtain ⟨ρ1, ρ2, e1, e2, p2⟩ := st a List.mem_cons_self ρ h
    cases hp : p a with
    | true =>
      rw [hp] at e2
      exact ⟨ρ2, p2, by simp only [List.map_cons, forGo, e1, e2, Option.bind_some, List.find?_cons, hp, if_true]⟩
    | false =>
      rw [hp] at e2
      obtain ⟨ρ', q, e⟩ := forGo_fm P g p r (xs := xs) p2 fun d hd => st d (List.mem_cons_of_mem _ hd)
      exact ⟨ρ', q, by simp only [List.map_cons, forGo, e1, e2, Option.bind_some, List.find?_cons, hp, if_false, Bool.false_eq_true, e]⟩
theorem forGo_fold {α : Type} {tg : EvG} {body : EvS} (g : α → D) (P : List α → Rh → Prop) : ∀ {xs ys : List α} {ρ : Rh}, P ys ρ → (∀ ys a, a ∈ xs → ∀ ρ, P ys ρ → ∃ ρ1 ρ2, tg (g a) ρ = some ρ1 ∧ body ρ1 = some (.nx ρ2) ∧ P (ys ++ [a]) ρ2) → ∃ ρ', forGo tg body (xs.map g) ρ = some (.nx ρ') ∧ P (ys ++ xs) ρ'
  | [], ys, ρ, h, _ => ⟨ρ, rfl, by simpa using h⟩
  | a :: xs, ys, ρ, h, st => by
    obtain ⟨ρ1, ρ2, e1, e2, p2⟩ := st ys a List.mem_cons_self ρ h
    obtain ⟨ρ', e, p⟩ := forGo_fold g P (xs := xs) p2 fun ys d hd => st ys d (List.mem_cons_of_mem _ hd)
    exact ⟨ρ', by simp only [List.map_cons, forGo, e1, e2, Option.bind_some, e], by simpa using p⟩
/-- one sign, counted in a text -/
theorem count_pos {z : Str} {c : Nat} (h : ¬ c ∈ z.cps.toList) : Txt.count z ⟨#[c]⟩ = 0 := by
  rcases StrLaws.occ_head z ⟨#[c]⟩ (z.length + 1) (by omega) with ⟨h0, _⟩ | ⟨i, r, h0, hi, hn⟩
  · have : Txt.count z ⟨#[c]⟩ = ((Builtin.Str.occurrences z ⟨#[c]⟩ 0 z.length (z.length + 1)).length : Nat) := rfl
    rw [this, h0]
    rfl
  · exact absurd (List.mem_of_getElem? ((StrLaws.subAt_one z c i).mp hi)) h
theorem rangeD_succ (n : Nat) (lo : Int) : rangeD (n + 1) lo = .int lo :: rangeD n (lo + 1) := by
  unfold rangeD
  rw [List.range_succ_eq_map, List.map_cons, List.map_map]
  congr 1
  · simp
  · apply List.map_congr_left
    intro i _
    simp only [Function.comp]
    congr 1
    omega
/-- a loop over range(n) -/
theorem forGo_rng {tg : EvG} {body : EvS} (P : Nat → Rh → Prop) {N : Nat} : ∀ {n k : Nat} {ρ : Rh}, k + n = N → P k ρ → (∀ k, k < N → ∀ ρ, P k ρ → ∃ ρ1 ρ2, tg (.int k) ρ = some ρ1 ∧ body ρ1 = some (.nx ρ2) ∧ P (k + 1) ρ2) → ∃ ρ', forGo tg body (rangeD n k) ρ = some (.nx ρ') ∧ P N ρ'
  | 0, k, ρ, hk, h, _ => by
    have : k = N := by omega
    exact ⟨ρ, rfl, this ▸ h⟩
  | n + 1, k, ρ, hk, h, st => by
    obtain ⟨ρ1, ρ2, e1, e2, p2⟩ := st k (by omega) ρ h
    obtain ⟨ρ', e, p⟩ := forGo_rng P (n := n) (k := k + 1) (by omega) p2 st
    refine ⟨ρ', ?_, p⟩
    rw [rangeD_succ]
    have ek : ((k : Int) + 1) = ((k + 1 : Nat) : Int) := by omega
    rw [ek]
    simp only [forGo, e1, e2, Option.bind_some, e]
theorem forGo_rng0 {tg : EvG} {body : EvS} (P : Nat → Rh → Prop) {N : Nat} {ρ : Rh} (h : P 0 ρ) (st : ∀ k, k < N → ∀ ρ, P k ρ → ∃ ρ1 ρ2, tg (.int k) ρ = some ρ1 ∧ body ρ1 = some (.nx ρ2) ∧ P (k + 1) ρ2) : ∃ ρ', forGo tg body (rangeD N 0) ρ = some (.nx ρ') ∧ P N ρ' := forGo_rng P (n := N) (k := 0) (by omega) h st
theorem whileGo_mono {c : EvT} {body : EvS} {fl : Fl} : ∀ {n m : Nat} {ρ : Rh}, n ≤ m → whileGo c body n ρ = some fl → whileGo c body m ρ = some fl
  | 0, _, _, _, h => by cases h
  | n + 1, 0, _, h, _ => by omega
  | n + 1, m + 1, ρ, hl, h => by
    simp only [whileGo, Option.bind_eq_some_iff] at h ⊢
    obtain ⟨p, e1, e2⟩ := h
    refine ⟨p, e1, ?_⟩
    split at e2
    · rename_i hp
      rw [if_pos hp]
      rw [Option.bind_eq_some_iff] at e2 ⊢
      obtain ⟨f, e3, e4⟩ := e2
      refine ⟨f, e3, ?_⟩
      cases f with
      | nx ρ2 => exact whileGo_mono (by omega) e4
      | ct ρ2 => exact whileGo_mono (by omega) e4
      | bk ρ2 => exact e4
      | rt s ρ2 => exact e4
    · rename_i hp
      rw [if_neg hp]
      exact e2
theorem atI_lt {α : Type} {xs : List α} {i : Int} (h0 : 0 ≤ i) (h1 : i < xs.length) : ∃ c, atI xs i = some c ∧ xs[i.toNat]? = some c := by
  have hi : i.toNat < xs.length := by omega
  refine ⟨xs[i.toNat], ?_, List.getElem?_eq_getElem hi⟩
  have e : i = ((i.toNat : Nat) : Int) := by omega
  have q := atI_nat (xs := xs) (j := i.toNat) (List.getElem?_eq_getElem hi)
  rw [← e] at q
  exact q
theorem ixN_lt {n : Nat} {i : Int} (h0 : 0 ≤ i) (h1 : i < n) : ixN n i = some i.toNat := by
  simp [ixN, h0, h1]
/-! texts -/
theorem join_len (sep : Str) (ys : List Str) : (Txt.join sep ys).length ≤ (ys.map (·.length)).sum + ys.length * sep.length := by
  have e : Txt.join sep ys = Str.join sep ys := StrLaws.glued_eq_join sep ys
  rw [e]
  exact StrLaws.join_length_le sep ys
theorem strsD_map : ∀ (ys : List Str), strsD (ys.map PyData.str) = some ys
  | [] => rfl
  | y :: ys => by simp only [List.map_cons, strsD, strsD_map ys, Option.map_some]
theorem boolsD_map : ∀ (ys : List Bool), boolsD (ys.map PyData.bool) = some ys
  | [] => rfl
  | y :: ys => by simp only [List.map_cons, boolsD, boolsD_map ys, Option.map_some]
theorem intsD_map : ∀ (ys : List Int), intsD (ys.map PyData.int) = some ys
  | [] => rfl
  | y :: ys => by simp only [List.map_cons, intsD, intsD_map ys, Option.map_some]
/-- lists of texts, told by their items -/
theorem strs_of : ∀ {ds : List D} {B : Nat}, (∀ d ∈ ds, ∃ x : Str, d = .str x ∧ x.length ≤ B) → ∃ ys : List Str, ds = ys.map PyData.str ∧ ∀ y ∈ ys, y.length ≤ B
  | [], _, _ => ⟨[], rfl, by simp⟩
  | d :: ds, B, h => by
    obtain ⟨x, rfl, hx⟩ := h d List.mem_cons_self
    obtain ⟨ys, rfl, hy⟩ := strs_of (ds := ds) (B := B) fun d hd => h d (List.mem_cons_of_mem _ hd)
    refine ⟨x :: ys, rfl, fun y hm => ?_⟩
    rcases List.mem_cons.mp hm with rfl | hm
    · exact hx
    · exact hy y hm
theorem line_eq : sizeLine = 16777216 := sizeLine_eq
end DL
namespace K04
open PySem DL
def b_row_of_1 : EvS := ifS (boolF (opF eqD (nameF 4) (nameF 1))) (retF (tupF (consA (nameF 2) (consA (nameF 5) (nilA))))) (nxF)
def b_row_of_2 : EvS := forF (itF (nameF 3)) (gtF (gsCons (gnF 4) (gsCons (gnF 5) (gsNil)))) (b_row_of_1)
def m_row_of : Mir := fnD 6 [true, true] (seqF (forF (itF (nameF 0)) (gtF (gsCons (gnF 2) (gsCons (gnF 3) (gsNil)))) (b_row_of_2)) (retF (tupF (consA (consF (.str "num")) (consA (tupF (nilA)) (nilA))))))
theorem u_row_of (s0 s1 : Sl) : m_row_of [s0, s1] = runD 6 [true, true] [s0, s1] ((seqF (forF (itF (nameF 0)) (gtF (gsCons (gnF 2) (gsCons (gnF 3) (gsNil)))) (b_row_of_2)) (retF (tupF (consA (consF (.str "num")) (consA (tupF (nilA)) (nilA)))))) [s0, s1, .no, .no, .no, .no]) := rfl
def m_fields_of : Mir := fnD 2 [true, true] (retF (opF ixD (callF (m_row_of) (consA (nameF 0) (consA (nameF 1) (nilA)))) (consF (.int 1))))
theorem u_fields_of (s0 s1 : Sl) : m_fields_of [s0, s1] = runD 2 [true, true] [s0, s1] ((retF (opF ixD (callF (m_row_of) (consA (nameF 0) (consA (nameF 1) (nilA)))) (consF (.int 1)))) [s0, s1]) := rfl
def m_kind_of : Mir := fnD 2 [true, true] (retF (opF ixD (callF (m_row_of) (consA (nameF 0) (consA (nameF 1) (nilA)))) (consF (.int 0))))
theorem u_kind_of (s0 s1 : Sl) : m_kind_of [s0, s1] = runD 2 [true, true] [s0, s1] ((retF (opF ixD (callF (m_row_of) (consA (nameF 0) (consA (nameF 1) (nilA)))) (consF (.int 0)))) [s0, s1]) := rfl
def m_law_pool : Mir := fnD 1 [true] (retF (lstF (consA (cbF maxD (consA (consF (.int 0)) (consA (opF subD (nameF 0) (opF powD (consF (.int 10)) (consF (.int 18)))) (nilA)))) (consA (opF modD (nameF 0) (opF powD (consF (.int 10)) (consF (.int 18)))) (consA (consF (.int 0)) (nilA))))))
theorem u_law_pool (s0 : Sl) : m_law_pool [s0] = runD 1 [true] [s0] ((retF (lstF (consA (cbF maxD (consA (consF (.int 0)) (consA (opF subD (nameF 0) (opF powD (consF (.int 10)) (consF (.int 18)))) (nilA)))) (consA (opF modD (nameF 0) (opF powD (consF (.int 10)) (consF (.int 18)))) (consA (consF (.int 0)) (nilA)))))) [s0]) := rfl
def m_law_next : Mir := fnD 5 [true, true] (seqF (ifS (boolF (opF gtD (opF ixD (nameF 0) (consF (.int 0))) (consF (.int 0)))) (seqF (setF 4 (opF modD (opF ixD (nameF 0) (consF (.int 0))) (nameF 1))) (seqF (sitF 0 setM (opF fdivD (opF ixD (nameF 0) (consF (.int 0))) (nameF 1)) (consF (.int 0))) (retF (nameF 4)))) (nxF)) (seqF (sitF 0 setM (opF addD (opF ixD (nameF 0) (consF (.int 2))) (consF (.int 1))) (consF (.int 2))) (seqF (setF 2 (opF modD (opF addD (opF ixD (nameF 0) (consF (.int 1))) (opF mulD (consF (.int 7919)) (opF ixD (nameF 0) (consF (.int 2))))) (consF (.int 1000000007)))) (seqF (setF 3 (opF modD (opF mulD (opF addD (nameF 2) (consF (.int 11))) (opF addD (nameF 2) (consF (.int 48271)))) (consF (.int 998244353)))) (retF (opF modD (opF fdivD (opF modD (opF mulD (nameF 3) (nameF 3)) (consF (.int 2147483647))) (consF (.int 8))) (nameF 1)))))))
theorem u_law_next (s0 s1 : Sl) : m_law_next [s0, s1] = runD 5 [true, true] [s0, s1] ((seqF (ifS (boolF (opF gtD (opF ixD (nameF 0) (consF (.int 0))) (consF (.int 0)))) (seqF (setF 4 (opF modD (opF ixD (nameF 0) (consF (.int 0))) (nameF 1))) (seqF (sitF 0 setM (opF fdivD (opF ixD (nameF 0) (consF (.int 0))) (nameF 1)) (consF (.int 0))) (retF (nameF 4)))) (nxF)) (seqF (sitF 0 setM (opF addD (opF ixD (nameF 0) (consF (.int 2))) (consF (.int 1))) (consF (.int 2))) (seqF (setF 2 (opF modD (opF addD (opF ixD (nameF 0) (consF (.int 1))) (opF mulD (consF (.int 7919)) (opF ixD (nameF 0) (consF (.int 2))))) (consF (.int 1000000007)))) (seqF (setF 3 (opF modD (opF mulD (opF addD (nameF 2) (consF (.int 11))) (opF addD (nameF 2) (consF (.int 48271)))) (consF (.int 998244353)))) (retF (opF modD (opF fdivD (opF modD (opF mulD (nameF 3) (nameF 3)) (consF (.int 2147483647))) (consF (.int 8))) (nameF 1))))))) [s0, s1, .no, .no, .no]) := rfl
def b_law_cells_1 : EvS := ifS (boolF (opF ltD (nameF 3) (nameF 1))) (sitF 2 setM (opF ixD (nameF 0) (nameF 3)) (nameF 3)) (sitF 2 setM (opF addD (opF mulD (opF ixD (nameF 2) (opF modD (nameF 3) (nameF 1))) (consF (.int 31))) (opF ixD (nameF 0) (nameF 3))) (opF modD (nameF 3) (nameF 1)))
def m_law_cells : Mir := fnD 4 [true, true] (seqF (setF 2 (repF (lstF (consA (consF (.int 0)) (nilA))) (nameF 1))) (seqF (forF (rng1F (cbF lenD (consA (nameF 0) (nilA)))) (gnF 3) (b_law_cells_1)) (retF (nameF 2))))
theorem u_law_cells (s0 s1 : Sl) : m_law_cells [s0, s1] = runD 4 [true, true] [s0, s1] ((seqF (setF 2 (repF (lstF (consA (consF (.int 0)) (nilA))) (nameF 1))) (seqF (forF (rng1F (cbF lenD (consA (nameF 0) (nilA)))) (gnF 3) (b_law_cells_1)) (retF (nameF 2)))) [s0, s1, .no, .no]) := rfl
def b_law_spelt_1 : EvS := seqF (setF 3 (opF addD (opF ixD (nameF 2) (opF modD (nameF 0) (consF (.int 26)))) (nameF 3))) (setF 0 (opF fdivD (nameF 0) (consF (.int 26))))
def m_law_spelt : Mir := fnD 5 [false, true] (seqF (setF 2 (consF (.str "abcdefghijklmnopqrstuvwxyz"))) (seqF (setF 3 (consF (.str ""))) (seqF (forF (rng1F (nameF 1)) (gnF 4) (b_law_spelt_1)) (retF (nameF 3)))))
theorem u_law_spelt (s0 s1 : Sl) : m_law_spelt [s0, s1] = runD 5 [false, true] [s0, s1] ((seqF (setF 2 (consF (.str "abcdefghijklmnopqrstuvwxyz"))) (seqF (setF 3 (consF (.str ""))) (seqF (forF (rng1F (nameF 1)) (gnF 4) (b_law_spelt_1)) (retF (nameF 3))))) [s0, s1, .no, .no, .no]) := rfl
def b_law_any_name_1 : EvS := ifS (boolF (opF inD (callF (m_law_spelt) (consA (nameF 3) (consA (nameF 2) (nilA)))) (nameF 1))) (setF 3 (opF addD (nameF 3) (consF (.int 1)))) (nxF)
def m_law_any_name : Mir := fnD 5 [true, true] (seqF (setF 2 (opF addD (consF (.int 1)) (callF (m_law_next) (consA (nameF 0) (consA (consF (.int 8)) (nilA)))))) (seqF (setF 3 (callF (m_law_next) (consA (nameF 0) (consA (opF powD (consF (.int 26)) (consF (.int 8))) (nilA))))) (seqF (forF (rng1F (cbF lenD (consA (nameF 1) (nilA)))) (gnF 4) (b_law_any_name_1)) (retF (callF (m_law_spelt) (consA (nameF 3) (consA (nameF 2) (nilA))))))))
theorem u_law_any_name (s0 s1 : Sl) : m_law_any_name [s0, s1] = runD 5 [true, true] [s0, s1] ((seqF (setF 2 (opF addD (consF (.int 1)) (callF (m_law_next) (consA (nameF 0) (consA (consF (.int 8)) (nilA)))))) (seqF (setF 3 (callF (m_law_next) (consA (nameF 0) (consA (opF powD (consF (.int 26)) (consF (.int 8))) (nilA))))) (seqF (forF (rng1F (cbF lenD (consA (nameF 1) (nilA)))) (gnF 4) (b_law_any_name_1)) (retF (callF (m_law_spelt) (consA (nameF 3) (consA (nameF 2) (nilA)))))))) [s0, s1, .no, .no, .no]) := rfl
def b_law_names_1 : EvS := seqF (setF 10 (opF addD (opF addD (slF sliceD (nameF 5) (noO) (someO (nameF 6))) (callF (m_law_spelt) (consA (opF addD (nameF 7) (opF mulD (consF (.int 5)) (nameF 9))) (consA (consF (.int 1)) (nilA))))) (slF sliceD (nameF 5) (someO (nameF 6)) (noO)))) (seqF (ifS (orF (andF (boolF (opF eqD (nameF 8) (consF (.int 1)))) (boolF (opF eqD (opF modD (nameF 9) (consF (.int 2))) (consF (.int 1))))) (boolF (opF inD (nameF 10) (nameF 2)))) (setF 10 (opF addD (nameF 10) (consF (.str "b")))) (nxF)) (exprF (muF "list" 3 appM (consA (nameF 10) (nilA)))))
def b_law_names_2 : EvS := exprF (muF "list" 3 appM (consA (callF (m_law_any_name) (consA (nameF 0) (consA (opF addD (nameF 3) (nameF 2)) (nilA)))) (nilA)))
def m_law_names : Mir := fnD 11 [true, true, true] (seqF (setF 3 (lstF (nilA))) (seqF (setF 4 (callF (m_law_next) (consA (nameF 0) (consA (consF (.int 14)) (nilA))))) (seqF (ifS (boolF (opF gtD (nameF 4) (consF (.int 6)))) (seqF (forF (rng1F (nameF 1)) (gnF 9) (b_law_names_2)) (retF (nameF 3))) (nxF)) (seqF (setF 5 (callF (m_law_spelt) (consA (callF (m_law_next) (consA (nameF 0) (consA (opF powD (consF (.int 26)) (consF (.int 6))) (nilA)))) (consA (nameF 4) (nilA))))) (seqF (setF 6 (callF (m_law_next) (consA (nameF 0) (consA (opF addD (nameF 4) (consF (.int 1))) (nilA))))) (seqF (setF 7 (callF (m_law_next) (consA (nameF 0) (consA (consF (.int 26)) (nilA))))) (seqF (setF 8 (callF (m_law_next) (consA (nameF 0) (consA (consF (.int 3)) (nilA))))) (seqF (forF (rng1F (nameF 1)) (gnF 9) (b_law_names_1)) (retF (nameF 3))))))))))
theorem u_law_names (s0 s1 s2 : Sl) : m_law_names [s0, s1, s2] = runD 11 [true, true, true] [s0, s1, s2] ((seqF (setF 3 (lstF (nilA))) (seqF (setF 4 (callF (m_law_next) (consA (nameF 0) (consA (consF (.int 14)) (nilA))))) (seqF (ifS (boolF (opF gtD (nameF 4) (consF (.int 6)))) (seqF (forF (rng1F (nameF 1)) (gnF 9) (b_law_names_2)) (retF (nameF 3))) (nxF)) (seqF (setF 5 (callF (m_law_spelt) (consA (callF (m_law_next) (consA (nameF 0) (consA (opF powD (consF (.int 26)) (consF (.int 6))) (nilA)))) (consA (nameF 4) (nilA))))) (seqF (setF 6 (callF (m_law_next) (consA (nameF 0) (consA (opF addD (nameF 4) (consF (.int 1))) (nilA))))) (seqF (setF 7 (callF (m_law_next) (consA (nameF 0) (consA (consF (.int 26)) (nilA))))) (seqF (setF 8 (callF (m_law_next) (consA (nameF 0) (consA (consF (.int 3)) (nilA))))) (seqF (forF (rng1F (nameF 1)) (gnF 9) (b_law_names_1)) (retF (nameF 3)))))))))) [s0, s1, s2, .no, .no, .no, .no, .no, .no, .no, .no]) := rfl
def e_law_book_1 : EvX := opF ixD (nameF 9) (callF (m_law_next) (consA (nameF 0) (consA (cbF lenD (consA (nameF 9) (nilA))) (nilA))))
def b_law_book_1 : EvS := seqF (setF 12 (opF ixD (lstF (consA (consF (.int 0)) (consA (consF (.int 0)) (consA (consF (.int 1)) (consA (consF (.int 1)) (consA (consF (.int 2)) (consA (consF (.int 2)) (consA (consF (.int 3)) (consA (consF (.int 4)) (nilA)))))))))) (callF (m_law_next) (consA (nameF 0) (consA (consF (.int 8)) (nilA)))))) (seqF (setF 13 (lcF (rng1F (nameF 12)) (gnF 14) (yesT) (e_law_book_1) [14])) (seqF (ifS (truF (nameF 2)) (setF 13 (opF addD (slF sliceD (nameF 13) (noO) (someO (consF (.int 3)))) (slF sliceD (nameF 9) (noO) (someO (consF (.int 1)))))) (nxF)) (exprF (muF "list" 8 appM (consA (tupF (consA (muF "list" 4 popAtM (consA (consF (.int 0)) (nilA))) (consA (cbF tupleD (consA (nameF 13) (nilA))) (nilA)))) (nilA))))))
def b_law_book_2 : EvS := seqF (setF 8 (lstF (nilA))) (seqF (setF 9 (opF ixD (lstF (consA (opF addD (nameF 3) (lstF (consA (consF (.str "num")) (consA (consF (.str "num")) (nilA))))) (consA (opF addD (slF sliceD (nameF 3) (someO (opF addD (nameF 6) (consF (.int 1)))) (noO)) (lstF (consA (consF (.str "num")) (nilA)))) (nilA)))) (cbF intD (consA (nameF 2) (nilA))))) (seqF (setF 10 (cbF minD (consA (opF ixD (lstF (consA (consF (.int 1)) (consA (consF (.int 2)) (consA (consF (.int 2)) (consA (consF (.int 3)) (consA (consF (.int 3)) (consA (consF (.int 2)) (consA (consF (.int 4)) (consA (consF (.int 6)) (nilA)))))))))) (callF (m_law_next) (consA (nameF 0) (consA (consF (.int 8)) (nilA))))) (consA (opF subD (opF addD (opF addD (cbF lenD (consA (nameF 4) (nilA))) (nameF 6)) (consF (.int 1))) (nameF 1)) (nilA))))) (seqF (forF (rng1F (nameF 10)) (gnF 11) (b_law_book_1)) (exprF (muF "list" 5 appM (consA (tupF (consA (opF ixD (nameF 3) (nameF 6)) (consA (cbF tupleD (consA (nameF 8) (nilA))) (nilA)))) (nilA)))))))
def m_law_book : Mir := fnD 15 [true] (seqF (setF 1 (opF ixD (lstF (consA (consF (.int 1)) (consA (consF (.int 2)) (consA (consF (.int 2)) (consA (consF (.int 3)) (consA (consF (.int 3)) (consA (consF (.int 4)) (consA (consF (.int 4)) (consA (consF (.int 6)) (nilA)))))))))) (callF (m_law_next) (consA (nameF 0) (consA (consF (.int 8)) (nilA)))))) (seqF (setF 2 (opF eqD (callF (m_law_next) (consA (nameF 0) (consA (consF (.int 8)) (nilA)))) (consF (.int 0)))) (seqF (ifS (truF (nameF 2)) (setF 1 (opF addD (consF (.int 4)) (callF (m_law_next) (consA (nameF 0) (consA (consF (.int 3)) (nilA)))))) (nxF)) (seqF (setF 3 (callF (m_law_names) (consA (nameF 0) (consA (nameF 1) (consA (lstF (consA (consF (.str "num")) (nilA))) (nilA)))))) (seqF (setF 4 (callF (m_law_names) (consA (nameF 0) (consA (consF (.int 26)) (consA (lstF (nilA)) (nilA)))))) (seqF (setF 5 (lstF (nilA))) (seqF (forF (rng1F (nameF 1)) (gnF 6) (b_law_book_2)) (seqF (setF 7 (callF (m_law_next) (consA (nameF 0) (consA (nameF 1) (nilA))))) (retF (cbF tupleD (consA (opF addD (slF sliceD (nameF 5) (someO (nameF 7)) (noO)) (slF sliceD (nameF 5) (noO) (someO (nameF 7)))) (nilA))))))))))))
theorem u_law_book (s0 : Sl) : m_law_book [s0] = runD 15 [true] [s0] ((seqF (setF 1 (opF ixD (lstF (consA (consF (.int 1)) (consA (consF (.int 2)) (consA (consF (.int 2)) (consA (consF (.int 3)) (consA (consF (.int 3)) (consA (consF (.int 4)) (consA (consF (.int 4)) (consA (consF (.int 6)) (nilA)))))))))) (callF (m_law_next) (consA (nameF 0) (consA (consF (.int 8)) (nilA)))))) (seqF (setF 2 (opF eqD (callF (m_law_next) (consA (nameF 0) (consA (consF (.int 8)) (nilA)))) (consF (.int 0)))) (seqF (ifS (truF (nameF 2)) (setF 1 (opF addD (consF (.int 4)) (callF (m_law_next) (consA (nameF 0) (consA (consF (.int 3)) (nilA)))))) (nxF)) (seqF (setF 3 (callF (m_law_names) (consA (nameF 0) (consA (nameF 1) (consA (lstF (consA (consF (.str "num")) (nilA))) (nilA)))))) (seqF (setF 4 (callF (m_law_names) (consA (nameF 0) (consA (consF (.int 26)) (consA (lstF (nilA)) (nilA)))))) (seqF (setF 5 (lstF (nilA))) (seqF (forF (rng1F (nameF 1)) (gnF 6) (b_law_book_2)) (seqF (setF 7 (callF (m_law_next) (consA (nameF 0) (consA (nameF 1) (nilA))))) (retF (cbF tupleD (consA (opF addD (slF sliceD (nameF 5) (someO (nameF 7)) (noO)) (slF sliceD (nameF 5) (noO) (someO (nameF 7)))) (nilA)))))))))))) [s0, .no, .no, .no, .no, .no, .no, .no, .no, .no, .no, .no, .no, .no, .no]) := rfl
def b_law_1 : EvS := seqF (setF 7 (callF (m_fields_of) (consA (nameF 2) (consA (nameF 5) (nilA))))) (seqF (ifS (orF (notF (truF (isiF "tuple" (nameF 7)))) (boolF (opF neD (nameF 7) (nameF 6)))) (retF (consF (.bool false))) (nxF)) (ifS (boolF (opF neD (callF (m_kind_of) (consA (nameF 2) (consA (nameF 5) (nilA)))) (nameF 3))) (retF (consF (.bool false))) (nxF)))
def b_law_2 : EvS := forF (itF (nameF 4)) (gtF (gsCons (gnF 5) (gsCons (gnF 6) (gsNil)))) (b_law_1)
def b_law_3 : EvS := seqF (setF 2 (callF (m_law_book) (consA (callF (m_law_pool) (consA (nameF 1) (nilA))) (nilA)))) (forF (itF (nameF 2)) (gtF (gsCons (gnF 3) (gsCons (gnF 4) (gsNil)))) (b_law_2))
def m_law : Mir := fnD 8 [true] (seqF (forF (itF (callF (m_law_cells) (consA (nameF 0) (consA (cbF minD (consA (cbF maxD (consA (consF (.int 1)) (consA (cbF lenD (consA (nameF 0) (nilA))) (nilA)))) (consA (consF (.int 6)) (nilA)))) (nilA))))) (gnF 1) (b_law_3)) (retF (consF (.bool true))))
theorem u_law (s0 : Sl) : m_law [s0] = runD 8 [true] [s0] ((seqF (forF (itF (callF (m_law_cells) (consA (nameF 0) (consA (cbF minD (consA (cbF maxD (consA (consF (.int 1)) (consA (cbF lenD (consA (nameF 0) (nilA))) (nilA)))) (consA (consF (.int 6)) (nilA)))) (nilA))))) (gnF 1) (b_law_3)) (retF (consF (.bool true)))) [s0, .no, .no, .no, .no, .no, .no, .no]) := rfl
end K04
namespace K04
open PySem PySem.Spec L2 DL
def topS (i : Nat) : Stmt := PySem.Challenge.pw_shapecourt_k04_makes_and_fields.main.body.getD i (.Pass ⟨0, 0, 0, 0⟩)
abbrev s_row_of : Stmt := topS 2
abbrev N_row_of : List Str := ["book", "make", "kind", "makes", "name", "fields"]
theorem sc_row_of : FnScope N_row_of ["book", "make"] (defScope s_row_of) := ⟨rfl, rfl, rfl, by decide +kernel, rfl, by decide +kernel, by decide +kernel⟩
abbrev s_fields_of : Stmt := topS 3
abbrev N_fields_of : List Str := ["book", "make"]
theorem sc_fields_of : FnScope N_fields_of ["book", "make"] (defScope s_fields_of) := ⟨rfl, rfl, rfl, by decide +kernel, rfl, by decide +kernel, by decide +kernel⟩
abbrev s_kind_of : Stmt := topS 4
abbrev N_kind_of : List Str := ["book", "make"]
theorem sc_kind_of : FnScope N_kind_of ["book", "make"] (defScope s_kind_of) := ⟨rfl, rfl, rfl, by decide +kernel, rfl, by decide +kernel, by decide +kernel⟩
abbrev s_law_pool : Stmt := topS 6
abbrev N_law_pool : List Str := ["cell"]
theorem sc_law_pool : FnScope N_law_pool ["cell"] (defScope s_law_pool) := ⟨rfl, rfl, rfl, by decide +kernel, rfl, by decide +kernel, by decide +kernel⟩
abbrev s_law_next : Stmt := topS 7
abbrev N_law_next : List Str := ["pool", "base", "near", "stir", "digit"]
theorem sc_law_next : FnScope N_law_next ["pool", "base"] (defScope s_law_next) := ⟨rfl, rfl, rfl, by decide +kernel, rfl, by decide +kernel, by decide +kernel⟩
abbrev s_law_cells : Stmt := topS 8
abbrev N_law_cells : List Str := ["script", "many", "found", "k"]
theorem sc_law_cells : FnScope N_law_cells ["script", "many"] (defScope s_law_cells) := ⟨rfl, rfl, rfl, by decide +kernel, rfl, by decide +kernel, by decide +kernel⟩
abbrev s_law_spelt : Stmt := topS 9
abbrev N_law_spelt : List Str := ["number", "size", "letters", "name", "k"]
theorem sc_law_spelt : FnScope N_law_spelt ["number", "size"] (defScope s_law_spelt) := ⟨rfl, rfl, rfl, by decide +kernel, rfl, by decide +kernel, by decide +kernel⟩
abbrev s_law_any_name : Stmt := topS 10
abbrev N_law_any_name : List Str := ["pool", "taken", "size", "number", "turn"]
theorem sc_law_any_name : FnScope N_law_any_name ["pool", "taken"] (defScope s_law_any_name) := ⟨rfl, rfl, rfl, by decide +kernel, rfl, by decide +kernel, by decide +kernel⟩
abbrev s_law_names : Stmt := topS 11
abbrev N_law_names : List Str := ["pool", "many", "taken", "found", "size", "base", "at", "first", "tails", "k", "name"]
theorem sc_law_names : FnScope N_law_names ["pool", "many", "taken"] (defScope s_law_names) := ⟨rfl, rfl, rfl, by decide +kernel, rfl, by decide +kernel, by decide +kernel⟩
abbrev s_law_book : Stmt := topS 12
abbrev N_law_book : List Str := ["pool", "many", "chain", "kinds", "makes", "book", "at", "first", "some", "among", "count", "k", "size", "fields", "place"]
theorem sc_law_book : FnScope N_law_book ["pool"] (defScope s_law_book) := ⟨rfl, rfl, rfl, by decide +kernel, rfl, by decide +kernel, by decide +kernel⟩
abbrev s_law : Stmt := topS 13
abbrev N_law : List Str := ["script", "cell", "book", "kind", "makes", "name", "fields", "found"]
theorem sc_law : FnScope N_law ["script"] (defScope s_law) := ⟨rfl, rfl, rfl, by decide +kernel, rfl, by decide +kernel, by decide +kernel⟩
structure Tx (K : PySem.W.Frag) (mg : Str → Option Value) : Prop where
  t_row_of : AtE K mg "row_of" s_row_of ["book", "make"]
  t_fields_of : AtE K mg "fields_of" s_fields_of ["book", "make"]
  t_kind_of : AtE K mg "kind_of" s_kind_of ["book", "make"]
  t_law_pool : AtE K mg "_law_pool" s_law_pool ["cell"]
  t_law_next : AtE K mg "_law_next" s_law_next ["pool", "base"]
  t_law_cells : AtE K mg "_law_cells" s_law_cells ["script", "many"]
  t_law_spelt : AtE K mg "_law_spelt" s_law_spelt ["number", "size"]
  t_law_any_name : AtE K mg "_law_any_name" s_law_any_name ["pool", "taken"]
  t_law_names : AtE K mg "_law_names" s_law_names ["pool", "many", "taken"]
  t_law_book : AtE K mg "_law_book" s_law_book ["pool"]
  t_law : AtE K mg "law" s_law ["script"]
  z_int : mg "int" = none
  z_isinstance : mg "isinstance" = none
  z_len : mg "len" = none
  z_max : mg "max" = none
  z_min : mg "min" = none
  z_range : mg "range" = none
  z_tuple : mg "tuple" = none
  g_NUM : ∃ t, mg "NUM" = some (.str "num" t)
section
variable {P : Program} {w : World} {K : PySem.W.Frag} {mg : Str → Option Value} {base : Heap}
theorem ok_row_of (T : Tx K mg) : OkD P w K mg base "row_of" 1 ["book", "make"] m_row_of :=
  def_ok (k := 0) (pin := [true, true]) T.t_row_of sc_row_of rfl fun f cdv A outer s H E hr => have nd := sc_row_of.nd; bx_cons (sx_for PassesOwn.never rfl (ix_seq (ex_name 0)) (gx_tup rfl (gxs_cons (gx_name (i := 2) nd rfl) (gxs_cons (gx_name (i := 3) nd rfl) (gxs_nil)))) (bx_one (sx_for PassesOwn.never rfl (ix_seq (ex_name 3)) (gx_tup rfl (gxs_cons (gx_name (i := 4) nd rfl) (gxs_cons (gx_name (i := 5) nd rfl) (gxs_nil)))) (bx_one (sx_if (tx_cmp (op_eqA hr.units) ok_eq (ex_name 4) (ex_name 1) (nomark _)) (bx_one (sx_ret (ex_tup (ax_cons (ex_name 2) (ax_cons (ex_name 5) (ax_nil)))))) (bx_nil)))))) (bx_one (sx_ret (ex_tup (ax_cons (ex_gstr (by rfl) T.g_NUM) (ax_cons (ex_tup (ax_nil)) (ax_nil))))))
theorem ok_fields_of (T : Tx K mg) : OkD P w K mg base "fields_of" 2 ["book", "make"] m_fields_of :=
  def_ok (k := 1) (pin := [true, true]) T.t_fields_of sc_fields_of rfl fun f cdv A outer s H E hr => have nd := sc_fields_of.nd; bx_one (sx_ret (ex_ix (ix_any (hu1 hr)) ok_ix (ex_def (ok_row_of T) (hr.mono (by first | decide | omega)) (by rfl) (ax_cons (ex_name 0) (ax_cons (ex_name 1) (ax_nil)))) (ex_int) (fun _ _ => rfl)))
theorem ok_kind_of (T : Tx K mg) : OkD P w K mg base "kind_of" 2 ["book", "make"] m_kind_of :=
  def_ok (k := 1) (pin := [true, true]) T.t_kind_of sc_kind_of rfl fun f cdv A outer s H E hr => have nd := sc_kind_of.nd; bx_one (sx_ret (ex_ix (ix_any (hu1 hr)) ok_ix (ex_def (ok_row_of T) (hr.mono (by first | decide | omega)) (by rfl) (ax_cons (ex_name 0) (ax_cons (ex_name 1) (ax_nil)))) (ex_int) (fun _ _ => rfl)))
theorem ok_law_pool (T : Tx K mg) : OkD P w K mg base "_law_pool" 1 ["cell"] m_law_pool :=
  def_ok (k := 0) (pin := [true]) T.t_law_pool sc_law_pool rfl fun f cdv A outer s H E hr => have nd := sc_law_pool.nd; bx_one (sx_ret (ex_lst (ax_cons (ex_callB (call_max2 rfl) ok_max (by rfl) T.z_max (by decide +kernel) (ax_cons (ex_int) (ax_cons (ex_op op_sub ok_sub (ex_name 0) (ex_op op_pow ok_pow (ex_int) (ex_int))) (ax_nil)))) (ax_cons (ex_op op_mod ok_mod (ex_name 0) (ex_op op_pow ok_pow (ex_int) (ex_int))) (ax_cons (ex_int) (ax_nil))))))
theorem ok_law_next (T : Tx K mg) : OkD P w K mg base "_law_next" 1 ["pool", "base"] m_law_next :=
  def_ok (k := 0) (pin := [true, true]) T.t_law_next sc_law_next rfl fun f cdv A outer s H E hr => have nd := sc_law_next.nd; bx_cons (sx_if (tx_cmp op_gt ok_gt (ex_ix (ix_any (hu1 hr)) ok_ix (ex_name 0) (ex_int) (fun _ _ => rfl)) (ex_int) (nomark _)) (bx_cons (sx_set (i := 4) nd rfl (ex_op op_mod ok_mod (ex_ix (ix_any (hu1 hr)) ok_ix (ex_name 0) (ex_int) (fun _ _ => rfl)) (ex_name 1))) (bx_cons (sx_sit (i := 0) (set_any (hu1 hr)) ok_set (pv 0) (ex_int) (ex_op op_fdivW ok_fdiv (ex_ix (ix_any (hu1 hr)) ok_ix (ex_name 0) (ex_int) (fun _ _ => rfl)) (ex_name 1))) (bx_one (sx_ret (ex_name 4))))) (bx_nil)) (bx_cons (sx_sit (i := 0) (set_any (hu1 hr)) ok_set (pv 0) (ex_int) (ex_op op_addA ok_add (ex_ix (ix_any (hu1 hr)) ok_ix (ex_name 0) (ex_int) (fun _ _ => rfl)) (ex_int))) (bx_cons (sx_set (i := 2) nd rfl (ex_op op_mod ok_mod (ex_op op_addA ok_add (ex_ix (ix_any (hu1 hr)) ok_ix (ex_name 0) (ex_int) (fun _ _ => rfl)) (ex_op op_mul ok_mul (ex_int) (ex_ix (ix_any (hu1 hr)) ok_ix (ex_name 0) (ex_int) (fun _ _ => rfl)))) (ex_int))) (bx_cons (sx_set (i := 3) nd rfl (ex_op op_mod ok_mod (ex_op op_mul ok_mul (ex_op op_addA ok_add (ex_name 2) (ex_int)) (ex_op op_addA ok_add (ex_name 2) (ex_int))) (ex_int))) (bx_one (sx_ret (ex_op op_mod ok_mod (ex_op op_fdivW ok_fdiv (ex_op op_mod ok_mod (ex_op op_mul ok_mul (ex_name 3) (ex_name 3)) (ex_int)) (ex_int)) (ex_name 1)))))))
theorem ok_law_cells (T : Tx K mg) : OkD P w K mg base "_law_cells" 1 ["script", "many"] m_law_cells :=
  def_ok (k := 0) (pin := [true, true]) T.t_law_cells sc_law_cells rfl fun f cdv A outer s H E hr => have nd := sc_law_cells.nd; bx_cons (sx_set (i := 2) nd rfl (ex_rep (ex_lst (ax_cons (ex_int) (ax_nil))) (ex_name 1))) (bx_cons (sx_for PassesOwn.never rfl (ix_range1 (by rfl) T.z_range (ex_callB call_lenA ok_len (by rfl) T.z_len (by decide +kernel) (ax_cons (ex_name 0) (ax_nil)))) (gx_name (i := 3) nd rfl) (bx_one (sx_if (tx_cmp op_lt ok_lt (ex_name 3) (ex_name 1) (nomark _)) (bx_one (sx_sit (i := 2) (set_any (hu1 hr)) ok_set (pv 2) (ex_name 3) (ex_ix (ix_any (hu1 hr)) ok_ix (ex_name 0) (ex_name 3) (fun _ _ => rfl)))) (bx_one (sx_sit (i := 2) (set_any (hu1 hr)) ok_set (pv 2) (ex_op op_mod ok_mod (ex_name 3) (ex_name 1)) (ex_op op_addA ok_add (ex_op op_mul ok_mul (ex_ix (ix_any (hu1 hr)) ok_ix (ex_name 2) (ex_op op_mod ok_mod (ex_name 3) (ex_name 1)) (fun _ _ => rfl)) (ex_int)) (ex_ix (ix_any (hu1 hr)) ok_ix (ex_name 0) (ex_name 3) (fun _ _ => rfl)))))))) (bx_one (sx_ret (ex_name 2))))
theorem ok_law_spelt (T : Tx K mg) : OkD P w K mg base "_law_spelt" 1 ["number", "size"] m_law_spelt :=
  def_ok (k := 0) (pin := [false, true]) T.t_law_spelt sc_law_spelt rfl fun f cdv A outer s H E hr => have nd := sc_law_spelt.nd; bx_cons (sx_set (i := 2) nd rfl (ex_str)) (bx_cons (sx_set (i := 3) nd rfl (ex_str)) (bx_cons (sx_for PassesOwn.never rfl (ix_range1 (by rfl) T.z_range (ex_name 1)) (gx_name (i := 4) nd rfl) (bx_cons (sx_set (i := 3) nd rfl (ex_op op_addA ok_add (ex_ix (ix_any (hu1 hr)) ok_ix (ex_name 2) (ex_op op_mod ok_mod (ex_name 0) (ex_int)) (fun _ _ => rfl)) (ex_name 3))) (bx_one (sx_set (i := 0) nd rfl (ex_op op_fdivW ok_fdiv (ex_name 0) (ex_int)))))) (bx_one (sx_ret (ex_name 3)))))
theorem ok_law_any_name (T : Tx K mg) : OkD P w K mg base "_law_any_name" 2 ["pool", "taken"] m_law_any_name :=
  def_ok (k := 1) (pin := [true, true]) T.t_law_any_name sc_law_any_name rfl fun f cdv A outer s H E hr => have nd := sc_law_any_name.nd; bx_cons (sx_set (i := 2) nd rfl (ex_op op_addA ok_add (ex_int) (ex_def (ok_law_next T) (hr.mono (by first | decide | omega)) (by rfl) (ax_cons (ex_name 0) (ax_cons (ex_int) (ax_nil)))))) (bx_cons (sx_set (i := 3) nd rfl (ex_def (ok_law_next T) (hr.mono (by first | decide | omega)) (by rfl) (ax_cons (ex_name 0) (ax_cons (ex_op op_pow ok_pow (ex_int) (ex_int)) (ax_nil))))) (bx_cons (sx_for PassesOwn.never rfl (ix_range1 (by rfl) T.z_range (ex_callB call_lenA ok_len (by rfl) T.z_len (by decide +kernel) (ax_cons (ex_name 1) (ax_nil)))) (gx_name (i := 4) nd rfl) (bx_one (sx_if (tx_cmp (op_inA (hu65 hr)) ok_in (ex_def (ok_law_spelt T) (hr.mono (by first | decide | omega)) (by rfl) (ax_cons (ex_name 3) (ax_cons (ex_name 2) (ax_nil)))) (ex_name 1) (by rfl)) (bx_one (sx_set (i := 3) nd rfl (ex_op op_addA ok_add (ex_name 3) (ex_int)))) (bx_nil)))) (bx_one (sx_ret (ex_def (ok_law_spelt T) (hr.mono (by first | decide | omega)) (by rfl) (ax_cons (ex_name 3) (ax_cons (ex_name 2) (ax_nil))))))))
theorem ok_law_names (T : Tx K mg) : OkD P w K mg base "_law_names" 3 ["pool", "many", "taken"] m_law_names :=
  def_ok (k := 2) (pin := [true, true, true]) T.t_law_names sc_law_names rfl fun f cdv A outer s H E hr => have nd := sc_law_names.nd; bx_cons (sx_set (i := 3) nd rfl (ex_lst (ax_nil))) (bx_cons (sx_set (i := 4) nd rfl (ex_def (ok_law_next T) (hr.mono (by first | decide | omega)) (by rfl) (ax_cons (ex_name 0) (ax_cons (ex_int) (ax_nil))))) (bx_cons (sx_if (tx_cmp op_gt ok_gt (ex_name 4) (ex_int) (nomark _)) (bx_cons (sx_for PassesOwn.never rfl (ix_range1 (by rfl) T.z_range (ex_name 1)) (gx_name (i := 9) nd rfl) (bx_one (sx_expr (ex_mu (i := 3) PySem.F.plainAttrs_list PySem.F.slot_list_append PySem.F.type_list_append mt_append ok_append (pv 3) (ax_cons (ex_def (ok_law_any_name T) (hr.mono (by first | decide | omega)) (by rfl) (ax_cons (ex_name 0) (ax_cons (ex_op op_addA ok_add (ex_name 3) (ex_name 2)) (ax_nil)))) (ax_nil)))))) (bx_one (sx_ret (ex_name 3)))) (bx_nil)) (bx_cons (sx_set (i := 5) nd rfl (ex_def (ok_law_spelt T) (hr.mono (by first | decide | omega)) (by rfl) (ax_cons (ex_def (ok_law_next T) (hr.mono (by first | decide | omega)) (by rfl) (ax_cons (ex_name 0) (ax_cons (ex_op op_pow ok_pow (ex_int) (ex_int)) (ax_nil)))) (ax_cons (ex_name 4) (ax_nil))))) (bx_cons (sx_set (i := 6) nd rfl (ex_def (ok_law_next T) (hr.mono (by first | decide | omega)) (by rfl) (ax_cons (ex_name 0) (ax_cons (ex_op op_addA ok_add (ex_name 4) (ex_int)) (ax_nil))))) (bx_cons (sx_set (i := 7) nd rfl (ex_def (ok_law_next T) (hr.mono (by first | decide | omega)) (by rfl) (ax_cons (ex_name 0) (ax_cons (ex_int) (ax_nil))))) (bx_cons (sx_set (i := 8) nd rfl (ex_def (ok_law_next T) (hr.mono (by first | decide | omega)) (by rfl) (ax_cons (ex_name 0) (ax_cons (ex_int) (ax_nil))))) (bx_cons (sx_for PassesOwn.never rfl (ix_range1 (by rfl) T.z_range (ex_name 1)) (gx_name (i := 9) nd rfl) (bx_cons (sx_set (i := 10) nd rfl (ex_op op_addA ok_add (ex_op op_addA ok_add (ex_slice sl_all ok_slice (ex_name 5) (ox_none) (ox_some (ex_name 6))) (ex_def (ok_law_spelt T) (hr.mono (by first | decide | omega)) (by rfl) (ax_cons (ex_op op_addA ok_add (ex_name 7) (ex_op op_mul ok_mul (ex_int) (ex_name 9))) (ax_cons (ex_int) (ax_nil))))) (ex_slice sl_all ok_slice (ex_name 5) (ox_some (ex_name 6)) (ox_none)))) (bx_cons (sx_if ((wx_or ((wx_and (tx_cmp (op_eqA hr.units) ok_eq (ex_name 8) (ex_int) (nomark _)) (wx_and1 (tx_cmp (op_eqA hr.units) ok_eq (ex_op op_mod ok_mod (ex_name 9) (ex_int)) (ex_int) (nomark _)))).tx) (wx_or1 (tx_cmp (op_inA (hu65 hr)) ok_in (ex_name 10) (ex_name 2) (by rfl)))).tx) (bx_one (sx_set (i := 10) nd rfl (ex_op op_addA ok_add (ex_name 10) (ex_str)))) (bx_nil)) (bx_one (sx_expr (ex_mu (i := 3) PySem.F.plainAttrs_list PySem.F.slot_list_append PySem.F.type_list_append mt_append ok_append (pv 3) (ax_cons (ex_name 10) (ax_nil)))))))) (bx_one (sx_ret (ex_name 3))))))))))
theorem ok_law_book (T : Tx K mg) : OkD P w K mg base "_law_book" 4 ["pool"] m_law_book :=
  def_ok (k := 3) (pin := [true]) T.t_law_book sc_law_book rfl fun f cdv A outer s H E hr => have nd := sc_law_book.nd; bx_cons (sx_set (i := 1) nd rfl (ex_ix (ix_any (hu1 hr)) ok_ix (ex_lst (ax_cons (ex_int) (ax_cons (ex_int) (ax_cons (ex_int) (ax_cons (ex_int) (ax_cons (ex_int) (ax_cons (ex_int) (ax_cons (ex_int) (ax_cons (ex_int) (ax_nil)))))))))) (ex_def (ok_law_next T) (hr.mono (by first | decide | omega)) (by rfl) (ax_cons (ex_name 0) (ax_cons (ex_int) (ax_nil)))) (fun _ _ => rfl))) (bx_cons (sx_set (i := 2) nd rfl (ex_cmp (op_eqA hr.units) ok_eq (ex_def (ok_law_next T) (hr.mono (by first | decide | omega)) (by rfl) (ax_cons (ex_name 0) (ax_cons (ex_int) (ax_nil)))) (ex_int) (nomark _))) (bx_cons (sx_if (tx_tru (ex_name 2)) (bx_one (sx_set (i := 1) nd rfl (ex_op op_addA ok_add (ex_int) (ex_def (ok_law_next T) (hr.mono (by first | decide | omega)) (by rfl) (ax_cons (ex_name 0) (ax_cons (ex_int) (ax_nil))))))) (bx_nil)) (bx_cons (sx_set (i := 3) nd rfl (ex_def (ok_law_names T) (hr.mono (by first | decide | omega)) (by rfl) (ax_cons (ex_name 0) (ax_cons (ex_name 1) (ax_cons (ex_lst (ax_cons (ex_str) (ax_nil))) (ax_nil)))))) (bx_cons (sx_set (i := 4) nd rfl (ex_def (ok_law_names T) (hr.mono (by first | decide | omega)) (by rfl) (ax_cons (ex_name 0) (ax_cons (ex_int) (ax_cons (ex_lst (ax_nil)) (ax_nil)))))) (bx_cons (sx_set (i := 5) nd rfl (ex_lst (ax_nil))) (bx_cons (sx_for PassesOwn.never rfl (ix_range1 (by rfl) T.z_range (ex_name 1)) (gx_name (i := 6) nd rfl) (bx_cons (sx_set (i := 8) nd rfl (ex_lst (ax_nil))) (bx_cons (sx_set (i := 9) nd rfl (ex_ix (ix_any (hu1 hr)) ok_ix (ex_lst (ax_cons (ex_op op_addA ok_add (ex_name 3) (ex_lst (ax_cons (ex_str) (ax_cons (ex_str) (ax_nil))))) (ax_cons (ex_op op_addA ok_add (ex_slice sl_all ok_slice (ex_name 3) (ox_some (ex_op op_addA ok_add (ex_name 6) (ex_int))) (ox_none)) (ex_lst (ax_cons (ex_str) (ax_nil)))) (ax_nil)))) (ex_callTy call_int1 ok_intC (by rfl) T.z_int (by decide +kernel) (ax_cons (ex_name 2) (ax_nil))) (fun _ _ => rfl))) (bx_cons (sx_set (i := 10) nd rfl (ex_callB (call_min2 rfl) ok_min (by rfl) T.z_min (by decide +kernel) (ax_cons (ex_ix (ix_any (hu1 hr)) ok_ix (ex_lst (ax_cons (ex_int) (ax_cons (ex_int) (ax_cons (ex_int) (ax_cons (ex_int) (ax_cons (ex_int) (ax_cons (ex_int) (ax_cons (ex_int) (ax_cons (ex_int) (ax_nil)))))))))) (ex_def (ok_law_next T) (hr.mono (by first | decide | omega)) (by rfl) (ax_cons (ex_name 0) (ax_cons (ex_int) (ax_nil)))) (fun _ _ => rfl)) (ax_cons (ex_op op_sub ok_sub (ex_op op_addA ok_add (ex_op op_addA ok_add (ex_callB call_lenA ok_len (by rfl) T.z_len (by decide +kernel) (ax_cons (ex_name 4) (ax_nil))) (ex_name 6)) (ex_int)) (ex_name 1)) (ax_nil))))) (bx_cons (sx_for PassesOwn.never rfl (ix_range1 (by rfl) T.z_range (ex_name 10)) (gx_name (i := 11) nd rfl) (bx_cons (sx_set (i := 12) nd rfl (ex_ix (ix_any (hu1 hr)) ok_ix (ex_lst (ax_cons (ex_int) (ax_cons (ex_int) (ax_cons (ex_int) (ax_cons (ex_int) (ax_cons (ex_int) (ax_cons (ex_int) (ax_cons (ex_int) (ax_cons (ex_int) (ax_nil)))))))))) (ex_def (ok_law_next T) (hr.mono (by first | decide | omega)) (by rfl) (ax_cons (ex_name 0) (ax_cons (ex_int) (ax_nil)))) (fun _ _ => rfl))) (bx_cons (sx_setLc (i := 13) (own := [("place", 14)]) rfl nd rfl rfl (sw_true rfl rfl rfl (by decide +kernel)) (by decide) (ix_range1 (by rfl) T.z_range (ex_name 12)) (blkOk_by (own := [("place", 14)]) (N := N_law_book) (sc := defScope s_law_book) (by decide +kernel)) (fun _ _ _ _ _ => gx_name (i := 14) nd rfl) (fun _ _ _ _ _ => txs_nil) (fun _ _ _ _ _ => ex_ix (ix_any (hu1 hr)) ok_ix (ex_name 9) (ex_def (ok_law_next T) (hr.mono (by first | decide | omega)) (by rfl) (ax_cons (ex_name 0) (ax_cons (ex_callB call_lenA ok_len (by rfl) T.z_len (by decide +kernel) (ax_cons (ex_name 9) (ax_nil))) (ax_nil)))) (fun _ _ => rfl))) (bx_cons (sx_if (tx_tru (ex_name 2)) (bx_one (sx_set (i := 13) nd rfl (ex_op op_addA ok_add (ex_slice sl_all ok_slice (ex_name 13) (ox_none) (ox_some (ex_int))) (ex_slice sl_all ok_slice (ex_name 9) (ox_none) (ox_some (ex_int)))))) (bx_nil)) (bx_one (sx_expr (ex_mu (i := 8) PySem.F.plainAttrs_list PySem.F.slot_list_append PySem.F.type_list_append mt_append ok_append (pv 8) (ax_cons (ex_tup (ax_cons (ex_mu (i := 4) PySem.F.plainAttrs_list PySem.F.slot_list_pop PySem.F.type_list_pop mt_popAt ok_popAt (pv 4) (ax_cons (ex_int) (ax_nil))) (ax_cons (ex_callTy call_tuple_of ok_tuple (by rfl) T.z_tuple (by decide +kernel) (ax_cons (ex_name 13) (ax_nil))) (ax_nil)))) (ax_nil))))))))) (bx_one (sx_expr (ex_mu (i := 5) PySem.F.plainAttrs_list PySem.F.slot_list_append PySem.F.type_list_append mt_append ok_append (pv 5) (ax_cons (ex_tup (ax_cons (ex_ix (ix_any (hu1 hr)) ok_ix (ex_name 3) (ex_name 6) (fun _ _ => rfl)) (ax_cons (ex_callTy call_tuple_of ok_tuple (by rfl) T.z_tuple (by decide +kernel) (ax_cons (ex_name 8) (ax_nil))) (ax_nil)))) (ax_nil)))))))))) (bx_cons (sx_set (i := 7) nd rfl (ex_def (ok_law_next T) (hr.mono (by first | decide | omega)) (by rfl) (ax_cons (ex_name 0) (ax_cons (ex_name 1) (ax_nil))))) (bx_one (sx_ret (ex_callTy call_tuple_of ok_tuple (by rfl) T.z_tuple (by decide +kernel) (ax_cons (ex_op op_addA ok_add (ex_slice sl_all ok_slice (ex_name 5) (ox_some (ex_name 7)) (ox_none)) (ex_slice sl_all ok_slice (ex_name 5) (ox_none) (ox_some (ex_name 7)))) (ax_nil))))))))))))
theorem ok_law (T : Tx K mg) : OkD P w K mg base "law" 5 ["script"] m_law :=
  def_ok (k := 4) (pin := [true]) T.t_law sc_law rfl fun f cdv A outer s H E hr => have nd := sc_law.nd; bx_cons (sx_for PassesOwn.never rfl (ix_seq (ex_def (ok_law_cells T) (hr.mono (by first | decide | omega)) (by rfl) (ax_cons (ex_name 0) (ax_cons (ex_callB (call_min2 rfl) ok_min (by rfl) T.z_min (by decide +kernel) (ax_cons (ex_callB (call_max2 rfl) ok_max (by rfl) T.z_max (by decide +kernel) (ax_cons (ex_int) (ax_cons (ex_callB call_lenA ok_len (by rfl) T.z_len (by decide +kernel) (ax_cons (ex_name 0) (ax_nil))) (ax_nil)))) (ax_cons (ex_int) (ax_nil)))) (ax_nil))))) (gx_name (i := 1) nd rfl) (bx_cons (sx_set (i := 2) nd rfl (ex_def (ok_law_book T) (hr.mono (by first | decide | omega)) (by rfl) (ax_cons (ex_def (ok_law_pool T) (hr.mono (by first | decide | omega)) (by rfl) (ax_cons (ex_name 1) (ax_nil))) (ax_nil)))) (bx_one (sx_for PassesOwn.never rfl (ix_seq (ex_name 2)) (gx_tup rfl (gxs_cons (gx_name (i := 3) nd rfl) (gxs_cons (gx_name (i := 4) nd rfl) (gxs_nil)))) (bx_one (sx_for PassesOwn.never rfl (ix_seq (ex_name 4)) (gx_tup rfl (gxs_cons (gx_name (i := 5) nd rfl) (gxs_cons (gx_name (i := 6) nd rfl) (gxs_nil)))) (bx_cons (sx_set (i := 7) nd rfl (ex_def (ok_fields_of T) (hr.mono (by first | decide | omega)) (by rfl) (ax_cons (ex_name 2) (ax_cons (ex_name 5) (ax_nil))))) (bx_cons (sx_if ((wx_or (tx_not (tx_tru (ex_isi isi_tuple (by rfl) T.z_isinstance (by rfl) T.z_tuple (by decide +kernel) (ex_name 7) (by decide +kernel)))) (wx_or1 (tx_cmp (op_neA hr.units) ok_ne (ex_name 7) (ex_name 6) (nomark _)))).tx) (bx_one (sx_ret (ex_bl))) (bx_nil)) (bx_one (sx_if (tx_cmp (op_neA hr.units) ok_ne (ex_def (ok_kind_of T) (hr.mono (by first | decide | omega)) (by rfl) (ax_cons (ex_name 2) (ax_cons (ex_name 5) (ax_nil)))) (ex_name 3) (nomark _)) (bx_one (sx_ret (ex_bl))) (bx_nil))))))))))) (bx_one (sx_ret (ex_bl)))
end
theorem law_ok (hm : ∀ ns : List Int, ns.length ≤ 63 → ∃ ss', m_law [.val (.list (ns.map PyData.int))] = some (.val (.bool true), ss') ∧ ss'.length = 1) {P : Program} {w : World} {K : PySem.W.Frag} {mg : Str → Option Value} {fa : Addr} (T : Tx K mg) (hfa : mg "law" = some (.ref fa)) :
    ∃ fd : FuncData, Fun K "law" "law" s_law fa fd ∧ ∀ base : Heap, FnOk P w K mg base CX0 5 fa fd ["script"] (spLaw K) := law_end T.t_law (fun base => ok_law (P := P) (w := w) (base := base) T) hm hfa
end K04
namespace K04
open PySem DL L2
theorem next1 (a b c base : Int) (ha : 0 < a) (hb : 0 < base) (hl : base ≤ 10 ^ 80) : m_law_next [.own (.list [.int a, .int b, .int c]), .val (.int base)] = some (.val (.int (a % base)), [.own (.list [.int (a / base), .int b, .int c]), .val (.int base)]) := by
  have hl' : base ≤ 100000000000000000000000000000000000000000000000000000000000000000000000000000000 := hl
  simp [m_law_next, L2.ixN, L2.atI, ha, hb, hl']
theorem next2 (a b c base : Int) (ha : ¬ 0 < a) (hb : 0 < base) : ∃ d, m_law_next [.own (.list [.int a, .int b, .int c]), .val (.int base)] = some (.val (.int (d % base)), [.own (.list [.int a, .int b, .int (c + 1)]), .val (.int base)]) := by
  have h1 := Int.emod_nonneg (b + 7919 * (c + 1)) (by decide : (1000000007 : Int) ≠ 0)
  have h2 := Int.emod_lt_of_pos (b + 7919 * (c + 1)) (by decide : (0 : Int) < 1000000007)
  have hm0 : mulOk 7919 (c + 1) = true := by simp [mulOk]
  have hm1 : mulOk ((b + 7919 * (c + 1)) % 1000000007 + 11) ((b + 7919 * (c + 1)) % 1000000007 + 48271) = true := by simp [mulOk]; omega
  have h3 := Int.emod_nonneg (((b + 7919 * (c + 1)) % 1000000007 + 11) * ((b + 7919 * (c + 1)) % 1000000007 + 48271)) (by decide : (998244353 : Int) ≠ 0)
  have h4 := Int.emod_lt_of_pos (((b + 7919 * (c + 1)) % 1000000007 + 11) * ((b + 7919 * (c + 1)) % 1000000007 + 48271)) (by decide : (0 : Int) < 998244353)
  have hm2 : mulOk (((b + 7919 * (c + 1)) % 1000000007 + 11) * ((b + 7919 * (c + 1)) % 1000000007 + 48271) % 998244353) (((b + 7919 * (c + 1)) % 1000000007 + 11) * ((b + 7919 * (c + 1)) % 1000000007 + 48271) % 998244353) = true := by
    generalize (((b + 7919 * (c + 1)) % 1000000007 + 11) * ((b + 7919 * (c + 1)) % 1000000007 + 48271) % 998244353) = z at *
    simp [mulOk]; omega
  simp [m_law_next, L2.ixN, L2.atI, ha, hb, hm0, hm1, hm2]
  exact ⟨_, rfl⟩
theorem next_spec {a b c base : Int} (hb : 0 < base) (hl : base ≤ 10 ^ 80) : ∃ d a' b' c' : Int, m_law_next [.own (.list [.int a, .int b, .int c]), .val (.int base)] = some (.val (.int d), [.own (.list [.int a', .int b', .int c']), .val (.int base)]) ∧ 0 ≤ d ∧ d < base := by
  by_cases ha : 0 < a
  · exact ⟨_, _, _, _, next1 a b c base ha hb hl, Int.emod_nonneg _ (by omega), Int.emod_lt_of_pos _ hb⟩
  · obtain ⟨d, e⟩ := next2 a b c base ha hb
    exact ⟨_, _, _, _, e, Int.emod_nonneg _ (by omega), Int.emod_lt_of_pos _ hb⟩
theorem pool_spec (c : Int) : ∃ x y z : Int, m_law_pool [.val (.int c)] = some (.own (.list [.int x, .int y, .int z]), [.val (.int c)]) := ⟨_, _, _, by rfl⟩
abbrev Ltr : Str := "abcdefghijklmnopqrstuvwxyz"
theorem ltr_len : Ltr.cps.toList.length = 26 := by decide
theorem ltr_line : Ltr.length ≤ 16777216 := by decide
/-- a text by its signs -/
def st (l : List Nat) : Str := ⟨l.toArray⟩
theorem st_cat (a b : List Nat) : st a ++ st b = st (a ++ b) := by
  show (⟨a.toArray ++ b.toArray⟩ : Str) = ⟨(a ++ b).toArray⟩
  simp
theorem st_len (a : List Nat) : (st a).length = a.length := by
  show a.toArray.size = a.length
  simp
theorem st_inj {a b : List Nat} (h : st a = st b) : a = b := by
  have : (st a).cps.toList = (st b).cps.toList := by rw [h]
  simpa [st] using this
theorem st_one (c : Nat) : (⟨#[c]⟩ : Str) = st [c] := rfl
def lt (i : Int) : Nat := Ltr.cps.toList.getD (i % 26).toNat 0
theorem lt_at (i : Int) : atI Ltr.cps.toList (i % 26) = some (lt i) := by
  have h0 : 0 ≤ i % 26 := Int.emod_nonneg _ (by decide)
  have h1 : i % 26 < 26 := Int.emod_lt_of_pos _ (by decide)
  obtain ⟨c, e, e'⟩ := atI_lt (xs := Ltr.cps.toList) (i := i % 26) h0 (by rw [ltr_len]; exact h1)
  rw [e]
  simp only [lt, List.getD_eq_getElem?_getD, e', Option.getD_some]
theorem lt_mod (i : Int) : lt i = lt (i % 26) := by simp [lt, Int.emod_emod_of_dvd]
theorem lt_inj {i j : Int} (h : lt i = lt j) : i % 26 = j % 26 := by
  have key : ∀ a b : Fin 26, Ltr.cps.toList.getD a.1 0 = Ltr.cps.toList.getD b.1 0 → a = b := by decide +kernel
  have i0 : 0 ≤ i % 26 := Int.emod_nonneg _ (by decide)
  have i1 : i % 26 < 26 := Int.emod_lt_of_pos _ (by decide)
  have j0 : 0 ≤ j % 26 := Int.emod_nonneg _ (by decide)
  have j1 : j % 26 < 26 := Int.emod_lt_of_pos _ (by decide)
  have := key ⟨(i % 26).toNat, by omega⟩ ⟨(j % 26).toNat, by omega⟩ h
  have := congrArg Fin.val this
  simp only at this
  omega
def spl : Nat → Int → List Nat
  | 0, _ => []
  | n + 1, i => spl n (i / 26) ++ [lt i]
theorem spl_len : ∀ (n : Nat) (i : Int), (spl n i).length = n
  | 0, _ => rfl
  | n + 1, i => by simp [spl, spl_len n]
theorem spelt_go : ∀ (ds : List D) (i : Int) (sz : Sl) (w : List Nat) (s4 : Sl), w.length + ds.length ≤ 1000 → ∃ i' s4', forGo (gnF 4) b_law_spelt_1 ds [.val (.int i), sz, .val (.str Ltr), .val (.str (st w)), s4] = some (.nx [.val (.int i'), sz, .val (.str Ltr), .val (.str (st (spl ds.length i ++ w))), s4'])
  | [], i, sz, w, s4, _ => ⟨i, s4, rfl⟩
  | d :: ds, i, sz, w, s4, h => by
    obtain ⟨i', s4', e⟩ := spelt_go ds (i / 26) sz ([lt i] ++ w) (.val d) (by simp at h ⊢; omega)
    refine ⟨i', s4', ?_⟩
    have hl := ltr_line
    have hq := lt_at i
    have hw : (st [lt i]).length + (st w).length ≤ 16777216 := by rw [st_len, st_len]; simp at h ⊢; omega
    have e2 : b_law_spelt_1 [.val (.int i), sz, .val (.str Ltr), .val (.str (st w)), .val d] = some (.nx [.val (.int (i / 26)), sz, .val (.str Ltr), .val (.str (st ([lt i] ++ w))), .val d]) := by
      rw [← st_cat]
      generalize lt i = c at *
      generalize Ltr = L at *
      simp [b_law_spelt_1, hl, hq, st_one, hw]
    have e3 : spl (d :: ds).length i ++ w = spl ds.length (i / 26) ++ ([lt i] ++ w) := by simp [spl]
    rw [e3, ← e]
    simp [forGo, e2]
theorem spelt_spec (i : Int) (n : Nat) (h : n ≤ 1000) : m_law_spelt [.val (.int i), .val (.int n)] = some (.val (.str (st (spl n i))), [.val (.int i), .val (.int n)]) := by
  obtain ⟨i', s4', e⟩ := spelt_go (rangeD n 0) i (.val (.int n)) [] .no (by simp [rangeD]; omega)
  rw [show (rangeD n 0).length = n by simp [rangeD], List.append_nil] at e
  rw [u_law_spelt]
  refine run_rt (ρ' := [.val (.int i'), .val (.int n), .val (.str Ltr), .val (.str (st (spl n i))), s4']) rfl ?_ rfl rfl
  refine seq_nx (ρ1 := [.val (.int i), .val (.int n), .val (.str Ltr), .no, .no]) (by simp) ?_
  refine seq_nx (ρ1 := [.val (.int i), .val (.int n), .val (.str Ltr), .val (.str (st [])), .no]) (by simp; rfl) ?_
  refine seq_nx (for_eq (ds := rangeD n 0) (ρ1 := [.val (.int i), .val (.int n), .val (.str Ltr), .val (.str (st [])), .no]) ?_ e) (by simp)
  have h1 : -4611686018427387904 ≤ (n : Int) := by omega
  have h2 : (n : Int) ≤ 16777216 := by omega
  generalize Ltr = L
  simp [h1, h2]
theorem in_strs (x : Str) (tk : List Str) : inB (.str x) (.list (tk.map PyData.str)) = some (decide (x ∈ tk)) := by
  have h1 : (tk.map PyData.str).all flatD = true := by simp
  have h2 : ((tk.map PyData.str).any fun y => eqF y (.str x)) = decide (x ∈ tk) := by
    rw [Bool.eq_iff_iff]
    simp only [List.any_map, List.any_eq_true, Function.comp, eqF, beq_iff_eq, decide_eq_true_eq]
    exact ⟨fun ⟨y, hy, e⟩ => e ▸ hy, fun h => ⟨x, h, rfl⟩⟩
  simp only [inB, h1, h2, flatD, Bool.and_self, if_true]
theorem nodup_le {α : Type} [DecidableEq α] : ∀ {xs ys : List α}, xs.Nodup → (∀ x ∈ xs, x ∈ ys) → xs.length ≤ ys.length
  | [], _, _, _ => Nat.zero_le _
  | x :: xs, ys, hn, hs => by
    have hx := hs x List.mem_cons_self
    have h1 := nodup_le (xs := xs) (ys := ys.erase x) (List.nodup_cons.mp hn).2 fun y hy => (List.mem_erase_of_ne (fun (e : y = x) => (List.nodup_cons.mp hn).1 (e ▸ hy))).mpr (hs y (List.mem_cons_of_mem _ hy))
    rw [List.length_erase_of_mem hx] at h1
    have := List.length_pos_of_mem hx
    simp only [List.length_cons]
    omega
theorem nodup_map_on {α β : Type} {f : α → β} : ∀ {xs : List α}, (∀ a ∈ xs, ∀ b ∈ xs, f a = f b → a = b) → xs.Nodup → (xs.map f).Nodup
  | [], _, _ => List.nodup_nil
  | a :: xs, h, hn => by
    rw [List.map_cons, List.nodup_cons]
    refine ⟨fun hm => ?_, nodup_map_on (fun x hx y hy => h x (List.mem_cons_of_mem _ hx) y (List.mem_cons_of_mem _ hy)) (List.nodup_cons.mp hn).2⟩
    obtain ⟨b, hb, e⟩ := List.mem_map.mp hm
    have := h b (List.mem_cons_of_mem _ hb) a List.mem_cons_self e
    exact (List.nodup_cons.mp hn).1 (this ▸ hb)
theorem spl_last {n : Nat} {i j : Int} (hn : 0 < n) (h : spl n i = spl n j) : i % 26 = j % 26 := by
  cases n with
  | zero => omega
  | succ n =>
    simp only [spl] at h
    have := List.append_inj_right' h rfl
    exact lt_inj (by simpa using this)
def okW (w : Str) : Prop := w.length ≤ 9 ∧ PyData.strOk w = true
theorem lt_ok (i : Int) : lt i < 0x110000 := by
  have key : ∀ a : Fin 26, Ltr.cps.toList.getD a.1 0 < 0x110000 := by decide +kernel
  have i0 : 0 ≤ i % 26 := Int.emod_nonneg _ (by decide)
  have i1 : i % 26 < 26 := Int.emod_lt_of_pos _ (by decide)
  exact key ⟨(i % 26).toNat, by omega⟩
theorem spl_ok : ∀ (n : Nat) (i : Int), ∀ c ∈ spl n i, c < 0x110000
  | 0, _ => fun c h => by cases h
  | n + 1, i => fun c h => by
    rcases List.mem_append.mp h with h | h
    · exact spl_ok n _ c h
    · rw [List.mem_singleton.mp h]; exact lt_ok i
theorem st_ok {l : List Nat} (h : ∀ c ∈ l, c < 0x110000) : PyData.strOk (st l) = true := by
  unfold PyData.strOk st
  simpa using h
theorem num_ok : okW "num" := ⟨by decide, by
  have : ("num" : Str) = st [110, 117, 109] := by decide
  rw [this]
  exact st_ok (by decide)⟩
theorem any_go {pl : Sl} {tk : List Str} {n : Nat} (hn : n ≤ 1000) : ∀ (ds : List D) (i : Int) (s4 : Sl), ∃ j s4', forGo (gnF 4) b_law_any_name_1 ds [pl, .own (.list (tk.map PyData.str)), .val (.int n), .val (.int i), s4] = some (.nx [pl, .own (.list (tk.map PyData.str)), .val (.int n), .val (.int j), s4']) ∧ (¬ st (spl n j) ∈ tk ∨ (j = i + ds.length ∧ ∀ k : Nat, k < ds.length → st (spl n (i + k)) ∈ tk))
  | [], i, s4 => ⟨i, s4, rfl, .inr ⟨by simp, fun k hk => absurd hk (Nat.not_lt_zero _)⟩⟩
  | d :: ds, i, s4 => by
    have hs := spelt_spec i n hn
    have hi := in_strs (st (spl n i)) tk
    by_cases hm : st (spl n i) ∈ tk
    · obtain ⟨j, s4', e, h⟩ := any_go hn ds (i + 1) (.val d) (pl := pl) (tk := tk)
      have e2 : b_law_any_name_1 [pl, .own (.list (tk.map PyData.str)), .val (.int n), .val (.int i), .val d] = some (.nx [pl, .own (.list (tk.map PyData.str)), .val (.int n), .val (.int (i + 1)), .val d]) := by
        simp [-inB, b_law_any_name_1, hs, hi, hm]
      refine ⟨j, s4', by rw [← e]; simp [forGo, e2], ?_⟩
      rcases h with h | ⟨h1, h2⟩
      · exact .inl h
      · refine .inr ⟨by simp only [List.length_cons]; omega, fun k hk => ?_⟩
        cases k with
        | zero => simpa using hm
        | succ k =>
          have := h2 k (by simp only [List.length_cons] at hk; omega)
          have ek : i + 1 + (k : Int) = i + ((k + 1 : Nat) : Int) := by omega
          rw [← ek]
          exact this
    · obtain ⟨j, s4', e, h⟩ := any_go hn ds i (.val d) (pl := pl) (tk := tk)
      have e2 : b_law_any_name_1 [pl, .own (.list (tk.map PyData.str)), .val (.int n), .val (.int i), .val d] = some (.nx [pl, .own (.list (tk.map PyData.str)), .val (.int n), .val (.int i), .val d]) := by
        simp [-inB, b_law_any_name_1, hs, hi, hm]
      refine ⟨j, s4', by rw [← e]; simp [forGo, e2], ?_⟩
      rcases h with h | ⟨h1, h2⟩
      · exact .inl h
      · cases ds with
        | nil =>
          left
          have : j = i := by simpa using h1
          rw [this]
          exact hm
        | cons d' ds' => exact absurd (by simpa using h2 0 (by simp)) hm
theorem any_spec (a b c : Int) (tk : List Str) (ht : tk.length ≤ 25) : ∃ (w : Str) (a' b' c' : Int), m_law_any_name [.own (.list [.int a, .int b, .int c]), .own (.list (tk.map PyData.str))] = some (.val (.str w), [.own (.list [.int a', .int b', .int c']), .own (.list (tk.map PyData.str))]) ∧ okW w ∧ ¬ w ∈ tk := by
  obtain ⟨p, a1, b1, c1, e1, p0, p1⟩ := next_spec (a := a) (b := b) (c := c) (base := 8) (by decide) (by decide)
  obtain ⟨i, a2, b2, c2, e2, i0, i1⟩ := next_spec (a := a1) (b := b1) (c := c1) (base := 208827064576) (by decide) (by decide)
  obtain ⟨n, hn⟩ : ∃ n : Nat, (n : Int) = 1 + p := ⟨(1 + p).toNat, by omega⟩
  obtain ⟨j, s4', e3, h3⟩ := any_go (pl := .own (.list [.int a2, .int b2, .int c2])) (tk := tk) (n := n) (by omega) (rangeD tk.length 0) i .no
  have hl : (rangeD tk.length 0).length = tk.length := by simp [rangeD]
  have hs := spelt_spec j n (by omega)
  refine ⟨st (spl n j), a2, b2, c2, ?_, ⟨by rw [st_len, spl_len]; omega, st_ok (spl_ok n j)⟩, fun hm => ?_⟩
  · rw [u_law_any_name]
    refine run_rt (ρ' := [.own (.list [.int a2, .int b2, .int c2]), .own (.list (tk.map PyData.str)), .val (.int n), .val (.int j), s4']) rfl ?_ rfl rfl
    refine seq_nx (ρ1 := [.own (.list [.int a1, .int b1, .int c1]), .own (.list (tk.map PyData.str)), .val (.int n), .no, .no]) (by simp [e1, hn]) ?_
    refine seq_nx (ρ1 := [.own (.list [.int a2, .int b2, .int c2]), .own (.list (tk.map PyData.str)), .val (.int n), .val (.int i), .no]) (by simp [e2]) ?_
    refine seq_nx (for_eq (ds := rangeD tk.length 0) (ρ1 := [.own (.list [.int a2, .int b2, .int c2]), .own (.list (tk.map PyData.str)), .val (.int n), .val (.int i), .no]) ?_ e3) ?_
    · have h1 : -4611686018427387904 ≤ (tk.length : Int) := by omega
      have h2 : (tk.length : Int) ≤ 16777216 := by omega
      simp [h1, h2]
    · simp [hs]
  · rcases h3 with h3 | ⟨h3, h4⟩
    · exact h3 hm
    · rw [hl] at h3 h4
      have := nodup_le (xs := (List.range (tk.length + 1)).map fun k : Nat => st (spl n (i + k))) (ys := tk) (nodup_map_on (fun x hx y hy e => by
        have := spl_last (by omega) (st_inj e)
        have hx' := List.mem_range.mp hx
        have hy' := List.mem_range.mp hy
        omega) List.nodup_range) (fun w hw => by
          obtain ⟨k, hk, rfl⟩ := List.mem_map.mp hw
          have hk' := List.mem_range.mp hk
          by_cases he : k = tk.length
          · rw [he, ← h3]; exact hm
          · exact h4 k (by omega))
      simp at this
      omega
abbrev ptD (a b c : Int) : Sl := .own (.list [.int a, .int b, .int c])
abbrev strsL (ws : List Str) : List D := ws.map PyData.str
theorem names_a {m : Sl} {tk : List Str} {s4 s5 s6 s7 s8 s10 : Sl} : ∀ (ds : List D) (ws : List Str) (a b c : Int) (s9 : Sl), ws.length + ds.length + tk.length ≤ 26 → (∀ w ∈ ws, okW w) → ws.Nodup →
    ∃ (ws' : List Str) (a' b' c' : Int) (s9' : Sl), forGo (gnF 9) b_law_names_2 ds [ptD a b c, m, .own (.list (strsL tk)), .own (.list (strsL ws)), s4, s5, s6, s7, s8, s9, s10] = some (.nx [ptD a' b' c', m, .own (.list (strsL tk)), .own (.list (strsL ws')), s4, s5, s6, s7, s8, s9', s10]) ∧ ws'.length = ws.length + ds.length ∧ (∀ w ∈ ws', okW w) ∧ ws'.Nodup
  | [], ws, a, b, c, s9, _, h2, h3 => ⟨ws, a, b, c, s9, rfl, rfl, h2, h3⟩
  | d :: ds, ws, a, b, c, s9, h1, h2, h3 => by
    have h1' : ws.length + ds.length + 1 + tk.length ≤ 26 := by simp only [List.length_cons] at h1; omega
    obtain ⟨w, a1, b1, c1, e1, hw, hn⟩ := any_spec a b c (ws ++ tk) (by rw [List.length_append]; omega)
    have hn' : ¬ w ∈ ws := fun h => hn (List.mem_append_left _ h)
    obtain ⟨ws', a', b', c', s9', e, l1, l2, l3⟩ := names_a (m := m) (tk := tk) (s4 := s4) (s5 := s5) (s6 := s6) (s7 := s7) (s8 := s8) (s10 := s10) ds (ws ++ [w]) a1 b1 c1 (.val d) (by rw [List.length_append]; simp only [List.length_cons, List.length_nil]; omega)
      (fun x hx => by
        rcases List.mem_append.mp hx with h | h
        · exact h2 x h
        · rw [List.mem_singleton.mp h]; exact hw)
      (by
        rw [List.nodup_append]
        refine ⟨h3, by simp, fun x hx y hy => ?_⟩
        rw [List.mem_singleton.mp hy]
        exact fun e => hn' (e ▸ hx))
    refine ⟨ws', a', b', c', s9', ?_, by rw [l1, List.length_append]; simp only [List.length_cons, List.length_nil]; omega, l2, l3⟩
    rw [← e]
    have e2 : b_law_names_2 [ptD a b c, m, .own (.list (strsL tk)), .own (.list (strsL ws)), s4, s5, s6, s7, s8, .val d, s10] = some (.nx [ptD a1 b1 c1, m, .own (.list (strsL tk)), .own (.list (strsL (ws ++ [w]))), s4, s5, s6, s7, s8, .val d, s10]) := by
      have q1 : ws.length + tk.length ≤ 16777216 := by omega
      have q2 : ws.length < 16777216 := by omega
      have q3 : strsL ws ++ strsL tk = strsL (ws ++ tk) := by simp [strsL]
      have e1' : m_law_any_name [ptD a b c, .own (.list (strsL ws ++ strsL tk))] = some (.val (.str w), [ptD a1 b1 c1, .own (.list (strsL ws ++ strsL tk))]) := by rw [q3]; exact e1
      simp only [strsL, ptD] at e1'
      simp [b_law_names_2, e1', q1, q2, tyM]
    simp only [forGo, gnF, List.length_cons, List.length_nil]
    simp [e2, strsL]
/-- the name with the turned letter -/
def nmB (w : List Nat) (at_ : Nat) (f : Int) (k : Nat) : List Nat := w.take at_ ++ [lt (f + 5 * k)] ++ w.drop at_
def nmS (tk : List Str) (w : List Nat) (at_ : Nat) (f tl : Int) (k : Nat) : List Nat := if (tl = 1 ∧ k % 2 = 1) ∨ st (nmB w at_ f k) ∈ tk then nmB w at_ f k ++ [98] else nmB w at_ f k
theorem nmB_len {w : List Nat} {at_ : Nat} {f : Int} {k : Nat} (h : at_ ≤ w.length) : (nmB w at_ f k).length = w.length + 1 := by
  simp [nmB]
  omega
theorem nmB_inj {w : List Nat} {at_ : Nat} {f : Int} {i j : Nat} (hi : i < 26) (hj : j < 26) (h : nmB w at_ f i = nmB w at_ f j) : i = j := by
  simp only [nmB, List.append_assoc] at h
  have h1 := List.append_cancel_left h
  have h2 : lt (f + 5 * i) = lt (f + 5 * j) := by simpa using h1
  have h3 := lt_inj h2
  omega
theorem nmS_inj {tk : List Str} {w : List Nat} {at_ : Nat} {f tl : Int} (ha : at_ ≤ w.length) {i j : Nat} (hi : i < 26) (hj : j < 26) (h : nmS tk w at_ f tl i = nmS tk w at_ f tl j) : i = j := by
  unfold nmS at h
  have l1 := nmB_len (f := f) (k := i) ha
  have l2 := nmB_len (f := f) (k := j) ha
  split at h <;> split at h
  · exact nmB_inj hi hj (List.append_cancel_right h)
  · have := congrArg List.length h
    rw [List.length_append, l1, l2] at this
    simp at this
  · have := congrArg List.length h
    rw [List.length_append, l1, l2] at this
    simp at this
  · exact nmB_inj hi hj h
theorem nmS_len {tk : List Str} {w : List Nat} {at_ : Nat} {f tl : Int} {k : Nat} (ha : at_ ≤ w.length) (hw : w.length ≤ 6) : (nmS tk w at_ f tl k).length ≤ 9 := by
  unfold nmS
  have l1 := nmB_len (f := f) (k := k) ha
  split
  · rw [List.length_append, l1]; simp; omega
  · omega
theorem st_list (w : List Nat) : (st w).cps.toList = w := by simp [st]
theorem nmS_ok {tk : List Str} {w : List Nat} {at_ : Nat} {f tl : Int} {k : Nat} (ha : at_ ≤ w.length) (hw : w.length ≤ 6) (ho : ∀ c ∈ w, c < 0x110000) : okW (st (nmS tk w at_ f tl k)) := by
  refine ⟨by rw [st_len]; exact nmS_len ha hw, st_ok ?_⟩
  have hB : ∀ c ∈ nmB w at_ f k, c < 0x110000 := by
    intro c hc
    simp only [nmB] at hc
    rcases List.mem_append.mp hc with h | h
    · rcases List.mem_append.mp h with h | h
      · exact ho c (List.mem_of_mem_take h)
      · rw [List.mem_singleton.mp h]; exact lt_ok _
    · exact ho c (List.mem_of_mem_drop h)
  unfold nmS
  split
  · intro c hc
    rcases List.mem_append.mp hc with h | h
    · exact hB c h
    · rw [List.mem_singleton.mp h]; decide
  · exact hB
theorem cut_lo {w : List Nat} {k : Nat} (h : k ≤ w.length) : cutS (st w) none (some (k : Int)) = st (w.take k) := by
  unfold cutS
  rw [st_list, st_len, HT.sIx_none, HT.sIx_nat, Nat.min_eq_left h]
  simp [st]
theorem cut_hi {w : List Nat} {k : Nat} (h : k ≤ w.length) : cutS (st w) (some (k : Int)) none = st (w.drop k) := by
  unfold cutS
  rw [st_list, st_len, HT.sIx_none, HT.sIx_nat, Nat.min_eq_left h, List.take_of_length_le (by simp)]
  rfl
theorem names_b {a b c : Int} {m : Sl} {tk : List Str} {w : List Nat} {at_ : Nat} {f tl : Int} {s4 : Sl} (ha : at_ ≤ w.length) (hw : w.length ≤ 6) (N : Nat) (hN : N ≤ 26) :
    ∃ s9 s10, forGo (gnF 9) b_law_names_1 (rangeD N 0) [ptD a b c, m, .own (.list (strsL tk)), .own (.list []), s4, .val (.str (st w)), .val (.int at_), .val (.int f), .val (.int tl), .no, .no] =
      some (.nx [ptD a b c, m, .own (.list (strsL tk)), .own (.list (strsL ((List.range N).map fun k => st (nmS tk w at_ f tl k)))), s4, .val (.str (st w)), .val (.int at_), .val (.int f), .val (.int tl), s9, s10]) := by
  obtain ⟨ρ', e, s9, s10, rfl⟩ := forGo_rng0 (tg := gnF 9) (body := b_law_names_1) (fun n ρ => ∃ s9 s10, ρ = [ptD a b c, m, .own (.list (strsL tk)), .own (.list (strsL ((List.range n).map fun k => st (nmS tk w at_ f tl k)))), s4, .val (.str (st w)), .val (.int at_), .val (.int f), .val (.int tl), s9, s10])
    (N := N) (ρ := [ptD a b c, m, .own (.list (strsL tk)), .own (.list []), s4, .val (.str (st w)), .val (.int at_), .val (.int f), .val (.int tl), .no, .no]) ⟨_, _, rfl⟩ (by
      rintro k hk ρ ⟨s9, s10, rfl⟩
      have sp := spelt_spec (f + 5 * k) 1 (by decide)
      have sp' : m_law_spelt [.val (.int (f + 5 * k)), .val (.int 1)] = some (.val (.str (st [lt (f + 5 * k)])), [.val (.int (f + 5 * k)), .val (.int 1)]) := sp
      have l1 := nmB_len (f := f) (k := k) ha
      have hq : st (w.take at_) ++ st [lt (f + 5 * k)] ++ st (w.drop at_) = st (nmB w at_ f k) := by rw [st_cat, st_cat]; rfl
      have hin := in_strs (st (nmB w at_ f k)) tk
      have q1 : (st (w.take at_)).length + (st [lt (f + 5 * k)]).length ≤ 16777216 := by rw [st_len, st_len, List.length_take]; simp; omega
      have q2 : (st (w.take at_) ++ st [lt (f + 5 * k)]).length + (st (w.drop at_)).length ≤ 16777216 := by rw [st_cat, st_len, st_len, List.length_append, List.length_take, List.length_drop]; simp; omega
      have q3 : (st w).length ≤ 16777216 := by rw [st_len]; omega
      have q4 : mulOk 5 (k : Int) = true := by simp [mulOk]
      have c1 := cut_lo ha
      have c2 := cut_hi ha
      have q5 : (st (nmB w at_ f k)).length + ("b" : Str).length ≤ 16777216 := by rw [st_len, l1]; show _ + 1 ≤ _; omega
      have q6 : st (nmB w at_ f k) ++ ("b" : Str) = st (nmB w at_ f k ++ [98]) := by
        have : ("b" : Str) = st [98] := by decide
        rw [this, st_cat]
      let nm : Str := st (nmS tk w at_ f tl k)
      refine ⟨[ptD a b c, m, .own (.list (strsL tk)), .own (.list (strsL ((List.range k).map fun k => st (nmS tk w at_ f tl k)))), s4, .val (.str (st w)), .val (.int at_), .val (.int f), .val (.int tl), .val (.int k), s10], [ptD a b c, m, .own (.list (strsL tk)), .own (.list (strsL ((List.range (k + 1)).map fun k => st (nmS tk w at_ f tl k)))), s4, .val (.str (st w)), .val (.int at_), .val (.int f), .val (.int tl), .val (.int k), .val (.str nm)], by simp, ?_, ⟨_, _, rfl⟩⟩
      have hk' : k < 16777216 := by omega
      have hfin : (exprF (muF "list" 3 appM (consA (nameF 10) (nilA)))) [ptD a b c, m, .own (.list (strsL tk)), .own (.list (strsL ((List.range k).map fun k => st (nmS tk w at_ f tl k)))), s4, .val (.str (st w)), .val (.int at_), .val (.int f), .val (.int tl), .val (.int k), .val (.str nm)] = some (.nx [ptD a b c, m, .own (.list (strsL tk)), .own (.list (strsL ((List.range (k + 1)).map fun k => st (nmS tk w at_ f tl k)))), s4, .val (.str (st w)), .val (.int at_), .val (.int f), .val (.int tl), .val (.int k), .val (.str nm)]) := by
        simp [tyM, hk', List.range_succ, nm]
      refine seq_nx (ρ1 := [ptD a b c, m, .own (.list (strsL tk)), .own (.list (strsL ((List.range k).map fun k => st (nmS tk w at_ f tl k)))), s4, .val (.str (st w)), .val (.int at_), .val (.int f), .val (.int tl), .val (.int k), .val (.str (st (nmB w at_ f k)))]) ?_ (seq_nx ?_ hfin)
      · generalize (List.range k).map (fun k => st (nmS tk w at_ f tl k)) = us
        rw [← hq]
        simp [q3, c1, c2, q4, sp', q1, q2]
      · by_cases hc : (tl = 1 ∧ k % 2 = 1) ∨ st (nmB w at_ f k) ∈ tk
        · have hnm : nm = st (nmB w at_ f k) ++ ("b" : Str) := by simp only [nm, nmS, if_pos hc, q6]
          rw [hnm]
          generalize (List.range k).map (fun k => st (nmS tk w at_ f tl k)) = us
          generalize st (nmB w at_ f k) = x at *
          by_cases h1 : tl = 1 ∧ k % 2 = 1
          · have : (k : Int) % 2 = 1 := by omega
            simp [-inB, h1.1, this, q5]
          · have h2 : x ∈ tk := hc.resolve_left h1
            by_cases h3 : tl = 1
            · have : ¬ (k : Int) % 2 = 1 := fun e => h1 ⟨h3, by omega⟩
              simp [-inB, h3, this, hin, h2, q5]
            · simp [-inB, h3, hin, h2, q5]
        · have hnm : nm = st (nmB w at_ f k) := by simp only [nm, nmS, if_neg hc]
          rw [hnm]
          generalize (List.range k).map (fun k => st (nmS tk w at_ f tl k)) = us
          generalize st (nmB w at_ f k) = x at *
          have h2 : ¬ x ∈ tk := fun h => hc (.inr h)
          by_cases h3 : tl = 1
          · have : ¬ (k : Int) % 2 = 1 := fun e => hc (.inl ⟨h3, by omega⟩)
            simp [-inB, h3, this, hin, h2]
          · simp [-inB, h3, hin, h2])
  exact ⟨s9, s10, e⟩
theorem names_spec (a b c : Int) (N : Nat) (tk : List Str) (h : N + tk.length ≤ 26) : ∃ (ws : List Str) (a' b' c' : Int), m_law_names [ptD a b c, .val (.int N), .own (.list (strsL tk))] = some (.own (.list (strsL ws)), [ptD a' b' c', .val (.int N), .own (.list (strsL tk))]) ∧ ws.length = N ∧ ws.Nodup ∧ ∀ w ∈ ws, okW w := by
  obtain ⟨sz, a1, b1, c1, e1, z0, z1⟩ := next_spec (a := a) (b := b) (c := c) (base := 14) (by decide) (by decide)
  have r1 : -4611686018427387904 ≤ (N : Int) := by omega
  have r2 : (N : Int) ≤ 16777216 := by omega
  by_cases h6 : 6 < sz
  · obtain ⟨ws, a2, b2, c2, s9, e2, l1, l2, l3⟩ := names_a (m := .val (.int N)) (tk := tk) (s4 := .val (.int sz)) (s5 := .no) (s6 := .no) (s7 := .no) (s8 := .no) (s10 := .no) (rangeD N 0) [] a1 b1 c1 .no (by simp [rangeD]; omega) (by simp) (by simp)
    refine ⟨ws, a2, b2, c2, ?_, by simpa [rangeD] using l1, l3, l2⟩
    rw [u_law_names]
    refine run_rt (ρ' := [ptD a2 b2 c2, .val (.int N), .own (.list (strsL tk)), .no, .val (.int sz), .no, .no, .no, .no, s9, .no]) rfl ?_ rfl rfl
    refine seq_nx (ρ1 := [ptD a b c, .val (.int N), .own (.list (strsL tk)), .own (.list (strsL [])), .no, .no, .no, .no, .no, .no, .no]) (by simp) ?_
    refine seq_nx (ρ1 := [ptD a1 b1 c1, .val (.int N), .own (.list (strsL tk)), .own (.list (strsL [])), .val (.int sz), .no, .no, .no, .no, .no, .no]) (by simp [e1]) ?_
    refine seq_rt (if_tt (ρ1 := [ptD a1 b1 c1, .val (.int N), .own (.list (strsL tk)), .own (.list (strsL [])), .val (.int sz), .no, .no, .no, .no, .no, .no]) (by simp [h6]) ?_)
    refine seq_nx (for_eq (ρ1 := [ptD a1 b1 c1, .val (.int N), .own (.list (strsL tk)), .own (.list (strsL [])), .val (.int sz), .no, .no, .no, .no, .no, .no]) (ds := rangeD N 0) (by simp [r1, r2]) e2) ?_
    simp
  · obtain ⟨i, a2, b2, c2, e2, i0, i1⟩ := next_spec (a := a1) (b := b1) (c := c1) (base := 308915776) (by decide) (by decide)
    obtain ⟨n, hn⟩ : ∃ n : Nat, (n : Int) = sz := ⟨sz.toNat, by omega⟩
    subst hn
    have sp := spelt_spec i n (by omega)
    obtain ⟨p, a3, b3, c3, e3, p0, p1⟩ := next_spec (a := a2) (b := b2) (c := c2) (base := (n : Int) + 1) (by omega) (Int.le_trans (by omega : (n : Int) + 1 ≤ 100) (by decide))
    obtain ⟨q, hq⟩ : ∃ q : Nat, (q : Int) = p := ⟨p.toNat, by omega⟩
    subst hq
    obtain ⟨f, a4, b4, c4, e4, f0, f1⟩ := next_spec (a := a3) (b := b3) (c := c3) (base := 26) (by decide) (by decide)
    obtain ⟨tl, a5, b5, c5, e5, t0, t1⟩ := next_spec (a := a4) (b := b4) (c := c4) (base := 3) (by decide) (by decide)
    have hw : (spl n i).length = n := spl_len n i
    obtain ⟨s9, s10, e6⟩ := names_b (a := a5) (b := b5) (c := c5) (m := .val (.int N)) (tk := tk) (w := spl n i) (at_ := q) (f := f) (tl := tl) (s4 := .val (.int n)) (by omega) (by omega) N (by omega)
    refine ⟨(List.range N).map fun k => st (nmS tk (spl n i) q f tl k), a5, b5, c5, ?_, by simp, nodup_map_on (fun x hx y hy e => nmS_inj (by omega) (by have := List.mem_range.mp hx; omega) (by have := List.mem_range.mp hy; omega) (st_inj e)) List.nodup_range, fun w hw' => by
      obtain ⟨k, _, rfl⟩ := List.mem_map.mp hw'
      exact nmS_ok (by omega) (by omega) (spl_ok n i)⟩
    generalize (List.range N).map (fun k => st (nmS tk (spl n i) q f tl k)) = us at *
    generalize st (spl n i) = base at *
    rw [u_law_names]
    refine run_rt (ρ' := [ptD a5 b5 c5, .val (.int N), .own (.list (strsL tk)), .no, .val (.int n), .val (.str base), .val (.int q), .val (.int f), .val (.int tl), s9, s10]) rfl ?_ rfl rfl
    refine seq_nx (ρ1 := [ptD a b c, .val (.int N), .own (.list (strsL tk)), .own (.list (strsL [])), .no, .no, .no, .no, .no, .no, .no]) (by simp) ?_
    refine seq_nx (ρ1 := [ptD a1 b1 c1, .val (.int N), .own (.list (strsL tk)), .own (.list (strsL [])), .val (.int n), .no, .no, .no, .no, .no, .no]) (by simp [e1]) ?_
    refine seq_nx (if_ff (ρ1 := [ptD a1 b1 c1, .val (.int N), .own (.list (strsL tk)), .own (.list (strsL [])), .val (.int n), .no, .no, .no, .no, .no, .no]) (by simp; omega) rfl) ?_
    refine seq_nx (ρ1 := [ptD a2 b2 c2, .val (.int N), .own (.list (strsL tk)), .own (.list (strsL [])), .val (.int n), .val (.str base), .no, .no, .no, .no, .no]) (by simp [e2, sp]) ?_
    refine seq_nx (ρ1 := [ptD a3 b3 c3, .val (.int N), .own (.list (strsL tk)), .own (.list (strsL [])), .val (.int n), .val (.str base), .val (.int q), .no, .no, .no, .no]) (by simp [e3]) ?_
    refine seq_nx (ρ1 := [ptD a4 b4 c4, .val (.int N), .own (.list (strsL tk)), .own (.list (strsL [])), .val (.int n), .val (.str base), .val (.int q), .val (.int f), .no, .no, .no]) (by simp [e4]) ?_
    refine seq_nx (ρ1 := [ptD a5 b5 c5, .val (.int N), .own (.list (strsL tk)), .own (.list (strsL [])), .val (.int n), .val (.str base), .val (.int q), .val (.int f), .val (.int tl), .no, .no]) (by simp [e5]) ?_
    refine seq_nx (for_eq (ρ1 := [ptD a5 b5 c5, .val (.int N), .own (.list (strsL tk)), .own (.list (strsL [])), .val (.int n), .val (.str base), .val (.int q), .val (.int f), .val (.int tl), .no, .no]) (ds := rangeD N 0) (by simp [r1, r2]) e6) ?_
    simp
theorem pop0 (d : D) (ds : List D) : popAtM (.list (d :: ds)) [.int 0] = some (.list ds, .val d) := by
  simp [popAtM, seqIndex?]
theorem pick_sz {i : Int} (h0 : 0 ≤ i) (h1 : i < 8) : ∃ s : Nat, s ≤ 4 ∧ atI [PyData.int 0, .int 0, .int 1, .int 1, .int 2, .int 2, .int 3, .int 4] i = some (.int s) := by
  have : i = 0 ∨ i = 1 ∨ i = 2 ∨ i = 3 ∨ i = 4 ∨ i = 5 ∨ i = 6 ∨ i = 7 := by omega
  rcases this with rfl | rfl | rfl | rfl | rfl | rfl | rfl | rfl
  · exact ⟨0, by decide, rfl⟩
  · exact ⟨0, by decide, rfl⟩
  · exact ⟨1, by decide, rfl⟩
  · exact ⟨1, by decide, rfl⟩
  · exact ⟨2, by decide, rfl⟩
  · exact ⟨2, by decide, rfl⟩
  · exact ⟨3, by decide, rfl⟩
  · exact ⟨4, by decide, rfl⟩
theorem pick_ct {i : Int} (h0 : 0 ≤ i) (h1 : i < 8) : ∃ s : Nat, 1 ≤ s ∧ s ≤ 6 ∧ atI [PyData.int 1, .int 2, .int 2, .int 3, .int 3, .int 2, .int 4, .int 6] i = some (.int s) := by
  have : i = 0 ∨ i = 1 ∨ i = 2 ∨ i = 3 ∨ i = 4 ∨ i = 5 ∨ i = 6 ∨ i = 7 := by omega
  rcases this with rfl | rfl | rfl | rfl | rfl | rfl | rfl | rfl
  · exact ⟨1, by decide, by decide, rfl⟩
  · exact ⟨2, by decide, by decide, rfl⟩
  · exact ⟨2, by decide, by decide, rfl⟩
  · exact ⟨3, by decide, by decide, rfl⟩
  · exact ⟨3, by decide, by decide, rfl⟩
  · exact ⟨2, by decide, by decide, rfl⟩
  · exact ⟨4, by decide, by decide, rfl⟩
  · exact ⟨6, by decide, by decide, rfl⟩
theorem pick_mn {i : Int} (h0 : 0 ≤ i) (h1 : i < 8) : ∃ s : Nat, 1 ≤ s ∧ s ≤ 6 ∧ atI [PyData.int 1, .int 2, .int 2, .int 3, .int 3, .int 4, .int 4, .int 6] i = some (.int s) := by
  have : i = 0 ∨ i = 1 ∨ i = 2 ∨ i = 3 ∨ i = 4 ∨ i = 5 ∨ i = 6 ∨ i = 7 := by omega
  rcases this with rfl | rfl | rfl | rfl | rfl | rfl | rfl | rfl
  · exact ⟨1, by decide, by decide, rfl⟩
  · exact ⟨2, by decide, by decide, rfl⟩
  · exact ⟨2, by decide, by decide, rfl⟩
  · exact ⟨3, by decide, by decide, rfl⟩
  · exact ⟨3, by decide, by decide, rfl⟩
  · exact ⟨4, by decide, by decide, rfl⟩
  · exact ⟨4, by decide, by decide, rfl⟩
  · exact ⟨6, by decide, by decide, rfl⟩
def rowD (r : Str × List Str) : D := .tuple [.str r.1, .tuple (strsL r.2)]
def kindD (e : Str × List (Str × List Str)) : D := .tuple [.str e.1, .tuple (e.2.map rowD)]
def bookD (bk : List (Str × List (Str × List Str))) : D := .tuple (bk.map kindD)
abbrev bkS (a b c many : Int) (ch : Bool) (ks ms : List Str) (bk : List D) (at_ fi so am ct k sz fs pl : Sl) : Rh := [ptD a b c, .val (.int many), .val (.bool ch), .own (.list (strsL ks)), .own (.list (strsL ms)), .own (.list bk), at_, fi, so, am, ct, k, sz, fs, pl]
theorem strs_mem : ∀ {ds : List D} {am : List Str}, (∀ d ∈ ds, ∃ x : Str, d = .str x ∧ x ∈ am) → ∃ ys : List Str, ds = strsL ys ∧ ∀ y ∈ ys, y ∈ am
  | [], _, _ => ⟨[], rfl, by simp⟩
  | d :: ds, am, h => by
    obtain ⟨x, rfl, hx⟩ := h d List.mem_cons_self
    obtain ⟨ys, rfl, hy⟩ := strs_mem (ds := ds) (am := am) fun d hd => h d (List.mem_cons_of_mem _ hd)
    refine ⟨x :: ys, rfl, fun y hm => ?_⟩
    rcases List.mem_cons.mp hm with rfl | hm
    · exact hx
    · exact hy y hm
theorem fields_comp {many : Int} {ch : Bool} {ks ms am : List Str} {bk : List D} {at_ fi so ct k sz fs : Sl} (ha : 0 < am.length) (hb : am.length ≤ 1000) (n : Nat) (a b c : Int) : ∃ (ys : List Str) (a' b' c' : Int), lcGo (gnF 14) yesT e_law_book_1 [14] (rangeD n 0) (bkS a b c many ch ks ms bk at_ fi so (.val (.list (strsL am))) ct k sz fs .no) =
    some (strsL ys, bkS a' b' c' many ch ks ms bk at_ fi so (.val (.list (strsL am))) ct k sz fs .no) ∧ (∀ y ∈ ys, y ∈ am) ∧ ys.length = n := by
  obtain ⟨out, ρ', e2, ⟨a2, b2, c2, rfl⟩, hout, hlen⟩ := lcGo_all (fg := gnF 14) (fe := e_law_book_1) (vs := [14])
    (fun ρ => ∃ a b c : Int, ρ = bkS a b c many ch ks ms bk at_ fi so (.val (.list (strsL am))) ct k sz fs .no) (fun d => ∃ x : Str, d = .str x ∧ x ∈ am)
    (ds := rangeD n 0) (ρ := bkS a b c many ch ks ms bk at_ fi so (.val (.list (strsL am))) ct k sz fs .no) ⟨_, _, _, rfl⟩ (by
      rintro d hd ρ ⟨a, b, c, rfl⟩
      obtain ⟨p, a1, b1, c1, e1, n0, n1⟩ := next_spec (a := a) (b := b) (c := c) (base := am.length) (by omega) (Int.le_trans (by omega : (am.length : Int) ≤ 1000) (by decide))
      obtain ⟨x, e2, hx⟩ := atI_lt (xs := strsL am) (i := p) n0 (by simpa [strsL] using n1)
      obtain ⟨y, hy, rfl⟩ := List.mem_map.mp (List.mem_of_getElem? hx)
      refine ⟨_, .tmp (.val (.str y)), bkS a1 b1 c1 many ch ks ms bk at_ fi so (.val (.list (strsL am))) ct k sz fs (.val d), .str y, bkS a1 b1 c1 many ch ks ms bk at_ fi so (.val (.list (strsL am))) ct k sz fs (.val d), rfl, ?_, rfl, ⟨_, rfl, hy⟩, ⟨a1, b1, c1, by simp⟩⟩
      simp only [strsL] at e2
      simp [e_law_book_1, e1, e2])
  obtain ⟨ys, rfl, hy⟩ := strs_mem hout
  exact ⟨ys, a2, b2, c2, e2, hy, by simpa [rangeD, strsL] using hlen⟩
theorem cutL_lo {ws : List Str} (k : Nat) : cutD (strsL ws) none (some (k : Int)) = strsL (ws.take k) := by
  unfold cutD
  rw [HT.sIx_none, HT.sIx_nat]
  simp [strsL]
theorem cutL_hi {ws : List Str} (k : Nat) : cutD (strsL ws) (some (k : Int)) none = strsL (ws.drop k) := by
  unfold cutD
  rw [HT.sIx_none, HT.sIx_nat, List.take_of_length_le (by simp)]
  by_cases h : k ≤ (strsL ws).length
  · rw [Nat.min_eq_left h]; simp [strsL]
  · rw [Nat.min_eq_right (by omega)]
    simp [strsL] at h ⊢
    omega
theorem book_row {many : Int} {ch : Bool} {ks ms am : List Str} {w : Str} {bk : List D} {at_ fi ct k s12 s13 s14 : Sl} {rows : List (Str × List Str)} (ha : 0 < am.length) (hb : am.length ≤ 1000) (hr : rows.length ≤ 1000) (a b c : Int) :
    ∃ (fs : List Str) (a' b' c' : Int) (t12 t13 : Sl), b_law_book_1 (bkS a b c many ch ks (w :: ms) bk at_ fi (.own (.list (rows.map rowD))) (.val (.list (strsL am))) ct k s12 s13 s14) =
      some (.nx (bkS a' b' c' many ch ks ms bk at_ fi (.own (.list ((rows ++ [(w, fs)]).map rowD))) (.val (.list (strsL am))) ct k t12 t13 s14)) ∧ (∀ y ∈ fs, y ∈ am) ∧ fs.length ≤ 4 := by
  obtain ⟨p, a1, b1, c1, e1, p0, p1⟩ := next_spec (a := a) (b := b) (c := c) (base := 8) (by decide) (by decide)
  obtain ⟨n, hn, en⟩ := pick_sz p0 p1
  obtain ⟨ys, a2, b2, c2, e2, hy, hl⟩ := fields_comp (many := many) (ch := ch) (ks := ks) (ms := w :: ms) (am := am) (bk := bk) (at_ := at_) (fi := fi) (so := .own (.list (rows.map rowD))) (ct := ct) (k := k) (sz := .val (.int n)) (fs := s13) ha hb n a1 b1 c1
  have r1 : -4611686018427387904 ≤ (n : Int) := by omega
  have r2 : (n : Int) ≤ 16777216 := by omega
  refine ⟨if ch then ys.take 3 ++ am.take 1 else ys, a2, b2, c2, .val (.int n), .own (.list (strsL (if ch then ys.take 3 ++ am.take 1 else ys))), ?_, ?_, ?_⟩
  · refine seq_nx (ρ1 := bkS a1 b1 c1 many ch ks (w :: ms) bk at_ fi (.own (.list (rows.map rowD))) (.val (.list (strsL am))) ct k (.val (.int n)) s13 s14) (by simp [e1, en]) ?_
    refine seq_nx (ρ1 := bkS a2 b2 c2 many ch ks (w :: ms) bk at_ fi (.own (.list (rows.map rowD))) (.val (.list (strsL am))) ct k (.val (.int n)) (.own (.list (strsL ys))) s14) ?_ ?_
    · refine set_tmp (ρ1 := bkS a2 b2 c2 many ch ks (w :: ms) bk at_ fi (.own (.list (rows.map rowD))) (.val (.list (strsL am))) ct k (.val (.int n)) s13 s14) (s := .own (.list (strsL ys))) ?_ (by simp)
      exact lc_eq (ρ1 := bkS a1 b1 c1 many ch ks (w :: ms) bk at_ fi (.own (.list (rows.map rowD))) (.val (.list (strsL am))) ct k (.val (.int n)) s13 s14) (by simp [r1, r2]) e2
    · refine seq_nx (ρ1 := bkS a2 b2 c2 many ch ks (w :: ms) bk at_ fi (.own (.list (rows.map rowD))) (.val (.list (strsL am))) ct k (.val (.int n)) (.own (.list (strsL (if ch then ys.take 3 ++ am.take 1 else ys)))) s14) ?_ ?_
      · cases ch with
        | false => simp
        | true =>
          have c1 := cutL_lo (ws := ys) 3
          have c2 := cutL_lo (ws := am) 1
          have c3 : (strsL (ys.take 3)).length + (strsL (am.take 1)).length ≤ 16777216 := by simp [strsL]; omega
          simp only [strsL] at c1 c2 c3
          have c1' : cutD (ys.map PyData.str) none (some 3) = (ys.take 3).map PyData.str := c1
          have c2' : cutD (am.map PyData.str) none (some 1) = (am.take 1).map PyData.str := c2
          simp [-List.map_take, -List.length_map, -List.length_take, c1', c2', c3]
      · have hr' : rows.length < 16777216 := by omega
        generalize (if ch then ys.take 3 ++ am.take 1 else ys) = fs
        have q := pop0 (.str w) (ms.map PyData.str)
        simp [-popAtM, q, tyM, hr', rowD]
  · cases ch with
    | false => simpa using hy
    | true =>
      intro y hm
      simp only [if_true] at hm
      rcases List.mem_append.mp hm with h | h
      · exact hy y (List.mem_of_mem_take h)
      · exact List.mem_of_mem_take h
  · cases ch with
    | false => simp; omega
    | true => simp; omega
theorem book_rows {many : Int} {ch : Bool} {ks ms am : List Str} {bk : List D} {at_ fi ct s11 s12 s13 s14 : Sl} (ha : 0 < am.length) (hb : am.length ≤ 1000) (N : Nat) (hN : N ≤ ms.length) (hm : ms.length ≤ 26) (a b c : Int) :
    ∃ (rows : List (Str × List Str)) (ms' : List Str) (a' b' c' : Int) (t11 t12 t13 : Sl), forGo (gnF 11) b_law_book_1 (rangeD N 0) (bkS a b c many ch ks ms bk at_ fi (.own (.list [])) (.val (.list (strsL am))) ct s11 s12 s13 s14) =
      some (.nx (bkS a' b' c' many ch ks ms' bk at_ fi (.own (.list (rows.map rowD))) (.val (.list (strsL am))) ct t11 t12 t13 s14)) ∧ rows.length = N ∧ rows.map (·.1) ++ ms' = ms ∧ ∀ r ∈ rows, (∀ y ∈ r.2, y ∈ am) ∧ r.2.length ≤ 4 := by
  obtain ⟨ρ', e, rows, ms', a', b', c', t11, t12, t13, rfl, h1, h2, h3⟩ := forGo_rng0 (tg := gnF 11) (body := b_law_book_1) (fun n ρ => ∃ (rows : List (Str × List Str)) (ms' : List Str) (a' b' c' : Int) (t11 t12 t13 : Sl), ρ = bkS a' b' c' many ch ks ms' bk at_ fi (.own (.list (rows.map rowD))) (.val (.list (strsL am))) ct t11 t12 t13 s14 ∧ rows.length = n ∧ rows.map (·.1) ++ ms' = ms ∧ ∀ r ∈ rows, (∀ y ∈ r.2, y ∈ am) ∧ r.2.length ≤ 4) (N := N)
    (ρ := bkS a b c many ch ks ms bk at_ fi (.own (.list [])) (.val (.list (strsL am))) ct s11 s12 s13 s14) ⟨[], ms, a, b, c, s11, s12, s13, rfl, rfl, rfl, by simp⟩ (by
      rintro n hn ρ ⟨rows, ms', a', b', c', t11, t12, t13, rfl, h1, h2, h3⟩
      have hl := congrArg List.length h2
      rw [List.length_append, List.length_map] at hl
      cases ms' with
      | nil => simp at hl; omega
      | cons w ms' =>
        obtain ⟨fs, a1, b1, c1, u12, u13, e, hf1, hf2⟩ := book_row (many := many) (ch := ch) (ks := ks) (ms := ms') (am := am) (w := w) (bk := bk) (at_ := at_) (fi := fi) (ct := ct) (k := .val (.int n)) (s12 := t12) (s13 := t13) (s14 := s14) (rows := rows) ha hb (by omega) a' b' c'
        refine ⟨_, _, rfl, e, rows ++ [(w, fs)], ms', a1, b1, c1, _, u12, u13, rfl, by simp [h1], by rw [← h2]; simp, fun r hr => ?_⟩
        rcases List.mem_append.mp hr with h | h
        · exact h3 r h
        · rw [List.mem_singleton.mp h]; exact ⟨hf1, hf2⟩)
  exact ⟨rows, ms', a', b', c', t11, t12, t13, e, h1, h2, h3⟩
def amOf (ch : Bool) (ks : List Str) (k : Nat) : List Str := if ch then ks.drop (k + 1) ++ [("num" : Str)] else ks ++ [("num" : Str), ("num" : Str)]
theorem book_kind {many k : Nat} {ch : Bool} {ks ms : List Str} {bk : List (Str × List (Str × List Str))} {fi s8 s9 s10 s11 s12 s13 s14 : Sl} (hk : k < many) (hks : ks.length = many) (hmn : many ≤ 6) (hm : ms.length ≤ 26) (hbk : bk.length ≤ 1000) (a b c : Int) :
    ∃ (kd : Str) (rows : List (Str × List Str)) (ms' : List Str) (a' b' c' : Int) (t8 t9 t10 t11 t12 t13 : Sl), b_law_book_2 (bkS a b c many ch ks ms (bk.map kindD) (.val (.int k)) fi s8 s9 s10 s11 s12 s13 s14) =
      some (.nx (bkS a' b' c' many ch ks ms' ((bk ++ [(kd, rows)]).map kindD) (.val (.int k)) fi t8 t9 t10 t11 t12 t13 s14)) ∧ ks[k]? = some kd ∧ rows.length ≤ 6 ∧ rows.map (·.1) ++ ms' = ms ∧ ∀ r ∈ rows, (∀ y ∈ r.2, y ∈ amOf ch ks k) ∧ r.2.length ≤ 4 := by
  obtain ⟨p, a1, b1, c1, e1, p0, p1⟩ := next_spec (a := a) (b := b) (c := c) (base := 8) (by decide) (by decide)
  obtain ⟨n, hn1, hn, en⟩ := pick_ct p0 p1
  have hk' : k < ks.length := by omega
  obtain ⟨kd, hkd⟩ : ∃ kd, ks[k]? = some kd := ⟨ks[k], List.getElem?_eq_getElem hk'⟩
  have hat : atI (ks.map PyData.str) (k : Int) = some (.str kd) := atI_nat (by simp [hkd])
  generalize hct : (if (ms.length : Int) + k + 1 - many < n then (ms.length : Int) + k + 1 - many else (n : Int)) = ct
  have hct1 : ct ≤ ms.length ∧ ct ≤ 6 ∧ -1000 ≤ ct := by split at hct <;> omega
  have hal : 0 < (amOf ch ks k).length := by cases ch <;> simp [amOf]
  have hal' : (amOf ch ks k).length ≤ 1000 := by cases ch <;> simp [amOf] <;> omega
  obtain ⟨rows, ms', a2, b2, c2, t11, t12, t13, e2, h1, h2, h3⟩ := book_rows (many := many) (ch := ch) (ks := ks) (ms := ms) (am := amOf ch ks k) (bk := bk.map kindD) (at_ := .val (.int k)) (fi := fi) (ct := .val (.int ct)) (s11 := s11) (s12 := s12) (s13 := s13) (s14 := s14) hal hal' ct.toNat (by omega) hm a1 b1 c1
  refine ⟨kd, rows, ms', a2, b2, c2, .own (.list (rows.map rowD)), .val (.list (strsL (amOf ch ks k))), .val (.int ct), t11, t12, t13, ?_, hkd, by omega, h2, h3⟩
  refine seq_nx (ρ1 := bkS a b c many ch ks ms (bk.map kindD) (.val (.int k)) fi (.own (.list [])) s9 s10 s11 s12 s13 s14) (by simp) ?_
  refine seq_nx (ρ1 := bkS a b c many ch ks ms (bk.map kindD) (.val (.int k)) fi (.own (.list [])) (.val (.list (strsL (amOf ch ks k)))) s10 s11 s12 s13 s14) ?_ ?_
  · have q1 : ks.length + 2 ≤ 16777216 := by omega
    have q2 := cutL_hi (ws := ks) (k + 1)
    have q2' : cutD (ks.map PyData.str) (some ((k : Int) + 1)) none = (ks.drop (k + 1)).map PyData.str := by
      have : ((k + 1 : Nat) : Int) = (k : Int) + 1 := by omega
      rw [← this]
      exact q2
    have q3 : (ks.drop (k + 1)).length ≤ 16777215 := by simp; omega
    have i0 : ∀ x y : D, atI [x, y] 0 = some x := fun _ _ => rfl
    have i1 : ∀ x y : D, atI [x, y] 1 = some y := fun _ _ => rfl
    cases ch with
    | false => simp [-List.map_drop, -List.length_drop, amOf, q1, q2', q3, i0]
    | true => simp [-List.map_drop, -List.length_drop, amOf, q1, q2', q3, i1]
  refine seq_nx (ρ1 := bkS a1 b1 c1 many ch ks ms (bk.map kindD) (.val (.int k)) fi (.own (.list [])) (.val (.list (strsL (amOf ch ks k)))) (.val (.int ct)) s11 s12 s13 s14) ?_ ?_
  · simp [e1, en, hct]
  have r1 : -4611686018427387904 ≤ ct := by omega
  have r2 : ct ≤ 16777216 := by omega
  refine seq_nx (for_eq (ρ1 := bkS a1 b1 c1 many ch ks ms (bk.map kindD) (.val (.int k)) fi (.own (.list [])) (.val (.list (strsL (amOf ch ks k)))) (.val (.int ct)) s11 s12 s13 s14) (ds := rangeD ct.toNat 0) (by simp [r1, r2]) e2) ?_
  have hb' : bk.length < 16777216 := by omega
  simp [tyM, hb', hat, kindD]
abbrev Book := List (Str × List (Str × List Str))
def names (bk : Book) : List Str := bk.flatMap fun e => e.2.map (·.1)
structure BkOk (bk : Book) : Prop where
  nd : (names bk).Nodup
  len : bk.length ≤ 6
  rows : ∀ e ∈ bk, e.2.length ≤ 6 ∧ okW e.1 ∧ ∀ r ∈ e.2, r.2.length ≤ 4 ∧ okW r.1 ∧ ∀ y ∈ r.2, okW y
theorem book_go {many : Nat} {ch : Bool} {ks ms : List Str} {s6 s8 s9 s10 s11 s12 s13 s14 : Sl} (hks : ks.length = many) (hmn : many ≤ 6) (hm : ms.length ≤ 26) (hko : ∀ w ∈ ks, okW w) (hmo : ∀ w ∈ ms, okW w) (a b c : Int) :
    ∃ (bk : Book) (ms' : List Str) (a' b' c' : Int) (t6 t8 t9 t10 t11 t12 t13 : Sl), forGo (gnF 6) b_law_book_2 (rangeD many 0) (bkS a b c many ch ks ms [] s6 .no s8 s9 s10 s11 s12 s13 s14) = some (.nx (bkS a' b' c' many ch ks ms' (bk.map kindD) t6 .no t8 t9 t10 t11 t12 t13 s14)) ∧
      bk.length = many ∧ names bk ++ ms' = ms ∧ ∀ e ∈ bk, e.2.length ≤ 6 ∧ okW e.1 ∧ ∀ r ∈ e.2, r.2.length ≤ 4 ∧ okW r.1 ∧ ∀ y ∈ r.2, okW y := by
  obtain ⟨ρ', e, bk, ms', a', b', c', t6, t8, t9, t10, t11, t12, t13, rfl, h1, h2, h3⟩ := forGo_rng0 (tg := gnF 6) (body := b_law_book_2) (fun n ρ => ∃ (bk : Book) (ms' : List Str) (a' b' c' : Int) (t6 t8 t9 t10 t11 t12 t13 : Sl), ρ = bkS a' b' c' many ch ks ms' (bk.map kindD) t6 .no t8 t9 t10 t11 t12 t13 s14 ∧ bk.length = n ∧ names bk ++ ms' = ms ∧ ∀ e ∈ bk, e.2.length ≤ 6 ∧ okW e.1 ∧ ∀ r ∈ e.2, r.2.length ≤ 4 ∧ okW r.1 ∧ ∀ y ∈ r.2, okW y) (N := many)
    (ρ := bkS a b c many ch ks ms [] s6 .no s8 s9 s10 s11 s12 s13 s14) ⟨[], ms, a, b, c, s6, s8, s9, s10, s11, s12, s13, rfl, rfl, rfl, by simp⟩ (by
      rintro k hk ρ ⟨bk, ms', a', b', c', t6, t8, t9, t10, t11, t12, t13, rfl, h1, h2, h3⟩
      have hl := congrArg List.length h2
      rw [List.length_append] at hl
      obtain ⟨kd, rows, ms2, a2, b2, c2, u8, u9, u10, u11, u12, u13, e, q1, q2, q3, q4⟩ := book_kind (many := many) (k := k) (ch := ch) (ks := ks) (ms := ms') (bk := bk) (fi := .no) (s8 := t8) (s9 := t9) (s10 := t10) (s11 := t11) (s12 := t12) (s13 := t13) (s14 := s14) hk hks hmn (by omega) (by omega) a' b' c'
      refine ⟨_, _, rfl, e, bk ++ [(kd, rows)], ms2, a2, b2, c2, _, u8, u9, u10, u11, u12, u13, rfl, by simp [h1], ?_, fun e he => ?_⟩
      · rw [← h2, ← q3]
        simp [names]
      · rcases List.mem_append.mp he with h | h
        · exact h3 e h
        · rw [List.mem_singleton.mp h]
          refine ⟨q2, hko _ (List.mem_of_getElem? q1), fun r hr => ⟨(q4 r hr).2, hmo _ ?_, fun y hy => ?_⟩⟩
          · rw [← h2, ← q3]
            exact List.mem_append_right _ (List.mem_append_left _ (List.mem_map_of_mem hr))
          · have := (q4 r hr).1 y hy
            unfold amOf at this
            split at this
            · rcases List.mem_append.mp this with h | h
              · exact hko y (List.mem_of_mem_drop h)
              · rw [List.mem_singleton.mp h]; exact num_ok
            · rcases List.mem_append.mp this with h | h
              · exact hko y h
              · simp only [List.mem_cons, List.not_mem_nil, or_false, or_self] at h
                rw [h]; exact num_ok)
  exact ⟨bk, ms', a', b', c', t6, t8, t9, t10, t11, t12, t13, e, h1, h2, h3⟩
theorem cutA_lo {ds : List D} (k : Nat) : cutD ds none (some (k : Int)) = ds.take k := by
  unfold cutD
  rw [HT.sIx_none, HT.sIx_nat]
  simp
theorem cutA_hi {ds : List D} (k : Nat) : cutD ds (some (k : Int)) none = ds.drop k := by
  unfold cutD
  rw [HT.sIx_none, HT.sIx_nat, List.take_of_length_le (by simp)]
  by_cases h : k ≤ ds.length
  · rw [Nat.min_eq_left h]
  · rw [Nat.min_eq_right (by omega)]
    rw [List.drop_eq_nil_iff.mpr (by omega), List.drop_eq_nil_iff.mpr (by omega)]
theorem book_spec (a b c : Int) : ∃ (bk : Book) (a' b' c' : Int), m_law_book [ptD a b c] = some (.val (bookD bk), [ptD a' b' c']) ∧ BkOk bk := by
  obtain ⟨p, a1, b1, c1, e1, p0, p1⟩ := next_spec (a := a) (b := b) (c := c) (base := 8) (by decide) (by decide)
  obtain ⟨m0, hm0, hm0', en⟩ := pick_mn p0 p1
  obtain ⟨q, a2, b2, c2, e2, q0, q1⟩ := next_spec (a := a1) (b := b1) (c := c1) (base := 8) (by decide) (by decide)
  have hch : ∃ (many : Nat) (a3 b3 c3 : Int), 1 ≤ many ∧ many ≤ 6 ∧ (ifS (truF (nameF 2)) (setF 1 (opF addD (consF (.int 4)) (callF (m_law_next) (consA (nameF 0) (consA (consF (.int 3)) (nilA)))))) (nxF)) [ptD a2 b2 c2, .val (.int m0), .val (.bool (decide (q = 0))), .no, .no, .no, .no, .no, .no, .no, .no, .no, .no, .no, .no] = some (.nx [ptD a3 b3 c3, .val (.int many), .val (.bool (decide (q = 0))), .no, .no, .no, .no, .no, .no, .no, .no, .no, .no, .no, .no]) := by
    by_cases hq : q = 0
    · obtain ⟨r, a3, b3, c3, e3, r0, r1⟩ := next_spec (a := a2) (b := b2) (c := c2) (base := 3) (by decide) (by decide)
      obtain ⟨m, hm⟩ : ∃ m : Nat, (m : Int) = 4 + r := ⟨(4 + r).toNat, by omega⟩
      exact ⟨m, a3, b3, c3, by omega, by omega, by simp [hq, e3, hm]⟩
    · exact ⟨m0, a2, b2, c2, hm0, hm0', by simp [hq]⟩
  obtain ⟨many, a3, b3, c3, hm1, hm6, e3⟩ := hch
  generalize hchd : decide (q = 0) = ch at e3
  obtain ⟨ks, a4, b4, c4, e4, k1, k2, k3⟩ := names_spec a3 b3 c3 many [("num" : Str)] (by simp; omega)
  obtain ⟨ms, a5, b5, c5, e5, l1, l2, l3⟩ := names_spec a4 b4 c4 26 [] (by simp)
  obtain ⟨bk, ms', a6, b6, c6, t6, t8, t9, t10, t11, t12, t13, e6, g1, g2, g3⟩ := book_go (many := many) (ch := ch) (ks := ks) (ms := ms) (s6 := .no) (s8 := .no) (s9 := .no) (s10 := .no) (s11 := .no) (s12 := .no) (s13 := .no) (s14 := .no) k1 hm6 (by omega) k3 l3 a5 b5 c5
  obtain ⟨f, a7, b7, c7, e7, f0, f1⟩ := next_spec (a := a6) (b := b6) (c := c6) (base := many) (by omega) (Int.le_trans (by omega : (many : Int) ≤ 6) (by decide))
  obtain ⟨i, hi⟩ : ∃ i : Nat, (i : Int) = f := ⟨f.toNat, by omega⟩
  subst hi
  refine ⟨bk.drop i ++ bk.take i, a7, b7, c7, ?_, ?_⟩
  · rw [u_law_book]
    have e4' : m_law_names [ptD a3 b3 c3, .val (.int many), .own (.list [.str "num"])] = some (.own (.list (strsL ks)), [ptD a4 b4 c4, .val (.int many), .own (.list [.str "num"])]) := e4
    have e5' : m_law_names [ptD a4 b4 c4, .val (.int 26), .own (.list [])] = some (.own (.list (strsL ms)), [ptD a5 b5 c5, .val (.int 26), .own (.list [])]) := e5
    refine run_rt (ρ' := bkS a7 b7 c7 many ch ks ms' (bk.map kindD) t6 (.val (.int i)) t8 t9 t10 t11 t12 t13 .no) rfl ?_ rfl rfl
    refine seq_nx (ρ1 := [ptD a1 b1 c1, .val (.int m0), .no, .no, .no, .no, .no, .no, .no, .no, .no, .no, .no, .no, .no]) (by simp [e1, en]) ?_
    refine seq_nx (ρ1 := [ptD a2 b2 c2, .val (.int m0), .val (.bool ch), .no, .no, .no, .no, .no, .no, .no, .no, .no, .no, .no, .no]) (by simp [e2, ← hchd]) ?_
    refine seq_nx e3 ?_
    refine seq_nx (ρ1 := [ptD a4 b4 c4, .val (.int many), .val (.bool ch), .own (.list (strsL ks)), .no, .no, .no, .no, .no, .no, .no, .no, .no, .no, .no]) (by simp [e4']) ?_
    refine seq_nx (ρ1 := [ptD a5 b5 c5, .val (.int many), .val (.bool ch), .own (.list (strsL ks)), .own (.list (strsL ms)), .no, .no, .no, .no, .no, .no, .no, .no, .no, .no]) (by simp [e5']) ?_
    refine seq_nx (ρ1 := bkS a5 b5 c5 many ch ks ms [] .no .no .no .no .no .no .no .no .no) (by simp) ?_
    have r1 : -4611686018427387904 ≤ (many : Int) := by omega
    have r2 : (many : Int) ≤ 16777216 := by omega
    refine seq_nx (for_eq (ρ1 := bkS a5 b5 c5 many ch ks ms [] .no .no .no .no .no .no .no .no .no) (ds := rangeD many 0) (by simp [r1, r2]) e6) ?_
    refine seq_nx (ρ1 := bkS a7 b7 c7 many ch ks ms' (bk.map kindD) t6 (.val (.int i)) t8 t9 t10 t11 t12 t13 .no) (by simp [e7]) ?_
    have w1 := cutA_lo (ds := bk.map kindD) i
    have w2 := cutA_hi (ds := bk.map kindD) i
    have w3 : (bk.map kindD).length ≤ 6 := by simp; omega
    have w4 : (bk.drop i ++ bk.take i).map kindD = (bk.map kindD).drop i ++ (bk.map kindD).take i := by simp
    simp only [bookD, w4]
    generalize bk.map kindD = ds at *
    have w5 : (ds.drop i).length + (ds.take i).length ≤ 16777216 := by simp; omega
    simp [-List.length_drop, -List.length_take, w1, w2, w5]
  · have hnd : (names bk).Nodup := by
      rw [← g2] at l2
      exact (List.nodup_append.mp l2).1
    refine ⟨?_, by simp; omega, fun e he => ?_⟩
    · have hp : (names (bk.drop i ++ bk.take i)).Perm (names bk) := by
        have : names bk = names (bk.take i ++ bk.drop i) := by rw [List.take_append_drop]
        rw [this]
        simp only [names, List.flatMap_append]
        exact List.perm_append_comm
      exact hp.nodup_iff.mpr hnd
    · rcases List.mem_append.mp he with h | h
      · exact g3 e (List.mem_of_mem_drop h)
      · exact g3 e (List.mem_of_mem_take h)
abbrev rowA (e r : Str × List Str) : D := .tuple [.str e.1, .tuple (strsL r.2)]
theorem row_in {bk : D} {nm kd : Str} {rows : List (Str × List Str)} {s4 s5 : Sl} (_hl : rows.length ≤ 1000) : ∃ t4 t5, b_row_of_2 [.val bk, .val (.str nm), .val (.str kd), .val (.tuple (rows.map rowD)), s4, s5] =
    some (match rows.find? (fun r => decide (r.1 = nm)) with
      | some r => .rt (.val (.tuple [.str kd, .tuple (strsL r.2)])) [.val bk, .val (.str nm), .val (.str kd), .val (.tuple (rows.map rowD)), t4, t5]
      | none => .nx [.val bk, .val (.str nm), .val (.str kd), .val (.tuple (rows.map rowD)), t4, t5]) := by
  obtain ⟨ρ', ⟨t4, t5, rfl⟩, e⟩ := forGo_fm (tg := gtF (gsCons (gnF 4) (gsCons (gnF 5) (gsNil)))) (body := b_row_of_1) (fun ρ => ∃ t4 t5, ρ = [.val bk, .val (.str nm), .val (.str kd), .val (.tuple (rows.map rowD)), t4, t5]) rowD (fun r => decide (r.1 = nm)) (fun r => .val (.tuple [.str kd, .tuple (strsL r.2)])) (xs := rows)
    (ρ := [.val bk, .val (.str nm), .val (.str kd), .val (.tuple (rows.map rowD)), s4, s5]) ⟨_, _, rfl⟩ (by
      rintro r _ ρ ⟨t4, t5, rfl⟩
      refine ⟨[.val bk, .val (.str nm), .val (.str kd), .val (.tuple (rows.map rowD)), .val (.str r.1), .val (.tuple (strsL r.2))], [.val bk, .val (.str nm), .val (.str kd), .val (.tuple (rows.map rowD)), .val (.str r.1), .val (.tuple (strsL r.2))], by simp [rowD], ?_, ⟨_, _, rfl⟩⟩
      by_cases h : r.1 = nm
      · simp [b_row_of_1, h]
      · simp [b_row_of_1, h])
  refine ⟨t4, t5, ?_⟩
  refine (for_eq (ρ1 := [.val bk, .val (.str nm), .val (.str kd), .val (.tuple (rows.map rowD)), s4, s5]) ?_ e).trans ?_
  · simp
  · cases rows.find? (fun r => decide (r.1 = nm)) <;> rfl
theorem find_row {r0 : Str × List Str} : ∀ {rows : List (Str × List Str)}, (rows.map (·.1)).Nodup → r0 ∈ rows → rows.find? (fun r => decide (r.1 = r0.1)) = some r0
  | [], _, h => by cases h
  | r :: rows, hn, h => by
    rw [List.map_cons, List.nodup_cons] at hn
    rw [List.find?_cons]
    rcases List.mem_cons.mp h with rfl | h
    · simp
    · have : ¬ r.1 = r0.1 := fun e => hn.1 (e ▸ List.mem_map_of_mem h)
      simp only [this, decide_false]
      exact find_row hn.2 h
theorem find_kind {r0 : Str × List Str} {e0 : Str × List (Str × List Str)} (hr : r0 ∈ e0.2) : ∀ {bk : Book}, (names bk).Nodup → e0 ∈ bk → bk.find? (fun e => (e.2.find? (fun r => decide (r.1 = r0.1))).isSome) = some e0 ∧ e0.2.find? (fun r => decide (r.1 = r0.1)) = some r0
  | [], _, h => by cases h
  | e :: bk, hn, h => by
    have hn' : (e.2.map (·.1) ++ names bk).Nodup := hn
    rw [List.nodup_append] at hn'
    rw [List.find?_cons]
    rcases List.mem_cons.mp h with rfl | h
    · have := find_row hn'.1 hr
      rw [this]
      exact ⟨rfl, rfl⟩
    · have hno : e.2.find? (fun r => decide (r.1 = r0.1)) = none := by
        rw [List.find?_eq_none]
        intro r hr'
        simp only [decide_eq_true_eq]
        intro e'
        refine hn'.2.2 r.1 (List.mem_map_of_mem hr') r0.1 ?_ e'
        exact List.mem_flatMap.mpr ⟨e0, h, List.mem_map_of_mem hr⟩
      rw [hno]
      exact find_kind hr hn'.2.1 h
theorem row_of_spec {bk : Book} (hb : BkOk bk) {e0 : Str × List (Str × List Str)} {r0 : Str × List Str} (he : e0 ∈ bk) (hr : r0 ∈ e0.2) : m_row_of [.val (bookD bk), .val (.str r0.1)] = some (.val (.tuple [.str e0.1, .tuple (strsL r0.2)]), [.val (bookD bk), .val (.str r0.1)]) := by
  obtain ⟨f1, f2⟩ := find_kind hr hb.nd he
  obtain ⟨ρ', ⟨t2, t3, t4, t5, rfl⟩, e⟩ := forGo_fm (tg := gtF (gsCons (gnF 2) (gsCons (gnF 3) (gsNil)))) (body := b_row_of_2) (fun ρ => ∃ t2 t3 t4 t5, ρ = [.val (bookD bk), .val (.str r0.1), t2, t3, t4, t5]) kindD (fun e => (e.2.find? (fun r => decide (r.1 = r0.1))).isSome)
    (fun e => match e.2.find? (fun r => decide (r.1 = r0.1)) with | some r => .val (.tuple [.str e.1, .tuple (strsL r.2)]) | none => .no) (xs := bk) (ρ := [.val (bookD bk), .val (.str r0.1), .no, .no, .no, .no]) ⟨_, _, _, _, rfl⟩ (by
      rintro e he ρ ⟨t2, t3, t4, t5, rfl⟩
      obtain ⟨u4, u5, q⟩ := row_in (bk := bookD bk) (nm := r0.1) (kd := e.1) (rows := e.2) (s4 := t4) (s5 := t5) (by have := (hb.rows e he).1; omega)
      refine ⟨_, [.val (bookD bk), .val (.str r0.1), .val (.str e.1), .val (.tuple (e.2.map rowD)), u4, u5], by simp [kindD]; rfl, ?_, ⟨_, _, _, _, rfl⟩⟩
      rw [q]
      cases e.2.find? (fun r => decide (r.1 = r0.1)) <;> rfl)
  rw [f1] at e
  simp only [f2] at e
  rw [u_row_of]
  refine run_rt (ρ' := [.val (bookD bk), .val (.str r0.1), t2, t3, t4, t5]) rfl ?_ rfl rfl
  refine seq_rt (for_eq (ρ1 := [.val (bookD bk), .val (.str r0.1), .no, .no, .no, .no]) (ds := bk.map kindD) ?_ e)
  simp [bookD]
theorem fields_of_spec {bk : Book} (hb : BkOk bk) {e0 : Str × List (Str × List Str)} {r0 : Str × List Str} (he : e0 ∈ bk) (hr : r0 ∈ e0.2) : m_fields_of [.val (bookD bk), .val (.str r0.1)] = some (.val (.tuple (strsL r0.2)), [.val (bookD bk), .val (.str r0.1)]) := by
  have h := row_of_spec hb he hr
  have i1 : ∀ x y : D, atI [x, y] 1 = some y := fun _ _ => rfl
  simp [m_fields_of, h, i1]
theorem kind_of_spec {bk : Book} (hb : BkOk bk) {e0 : Str × List (Str × List Str)} {r0 : Str × List Str} (he : e0 ∈ bk) (hr : r0 ∈ e0.2) : m_kind_of [.val (bookD bk), .val (.str r0.1)] = some (.val (.str e0.1), [.val (bookD bk), .val (.str r0.1)]) := by
  have h := row_of_spec hb he hr
  have i0 : ∀ x y : D, atI [x, y] 0 = some x := fun _ _ => rfl
  simp [m_kind_of, h, i0]
theorem layAll_strs : ∀ {ws : List Str}, (∀ w ∈ ws, PyData.strOk w = true) → PyData.canLayAll0 (strsL ws) = true
  | [], _ => rfl
  | w :: ws, h => by
    have h1 := h w List.mem_cons_self
    have h2 := layAll_strs (ws := ws) fun w hw => h w (List.mem_cons_of_mem _ hw)
    simp only [strsL] at h2
    simp [strsL, PyData.canLayAll0, PyData.canLay0, h1, h2]
theorem depAll_strs : ∀ ws : List Str, PyData.depthAll (strsL ws) = 0
  | [] => rfl
  | w :: ws => by
    have := depAll_strs ws
    simp only [strsL] at this
    simp [strsL, PyData.depthAll, PyData.depth, this]
theorem shaped_strs {ws : List Str} (h : ∀ w ∈ ws, PyData.strOk w = true) : SeqAt.shaped (.tuple (strsL ws)) = true := by
  simp [SeqAt.shaped, PyData.canLay0, PyData.depth, layAll_strs h, depAll_strs]
theorem eqv_strs (ws : List Str) : PyData.eqv (.tuple (strsL ws)) (.tuple (strsL ws)) = true := by
  have : ∀ ws : List Str, PyData.eqvAll (strsL ws) (strsL ws) = true := by
    intro ws
    induction ws with
    | nil => rfl
    | cons w ws ih =>
      simp only [strsL] at ih
      simp [strsL, PyData.eqvAll, PyData.eqv, ih]
  simp only [PyData.eqv, this]
theorem cells_spec (ns : List Int) (m : Nat) (hm : 1 ≤ m) (hm' : m ≤ 6) (hl : ns.length ≤ 63) : ∃ cs : List Int, m_law_cells [.val (.list (ns.map PyData.int)), .val (.int m)] = some (.own (.list (cs.map PyData.int)), [.val (.list (ns.map PyData.int)), .val (.int m)]) := by
  obtain ⟨ρ', e, cs, s3, rfl, hc⟩ := forGo_rng0 (tg := gnF 3) (body := b_law_cells_1) (fun _ ρ => ∃ (cs : List Int) (s3 : Sl), ρ = [.val (.list (ns.map PyData.int)), .val (.int m), .own (.list (cs.map PyData.int)), s3] ∧ cs.length = m) (N := ns.length)
    (ρ := [.val (.list (ns.map PyData.int)), .val (.int m), .own (.list ((List.replicate m 0).map PyData.int)), .no]) ⟨_, _, rfl, by simp⟩ (by
      rintro k hk ρ ⟨cs, s3, rfl, hc⟩
      obtain ⟨x, hx⟩ : ∃ x, ns[k]? = some x := ⟨ns[k], List.getElem?_eq_getElem hk⟩
      have hat : atI (ns.map PyData.int) (k : Int) = some (.int x) := atI_nat (by simp [hx])
      by_cases hkm : k < m
      · refine ⟨[.val (.list (ns.map PyData.int)), .val (.int m), .own (.list (cs.map PyData.int)), .val (.int k)], [.val (.list (ns.map PyData.int)), .val (.int m), .own (.list ((cs.set k x).map PyData.int)), .val (.int k)], by simp, ?_, ⟨_, _, rfl, by simp [hc]⟩⟩
        have hx' : ixN cs.length (k : Int) = some k := by simpa using ixN_lt (n := cs.length) (i := (k : Int)) (by omega) (by omega)
        have hkm' : (k : Int) < m := by omega
        simp [b_law_cells_1, hat, hx', hkm]
      · have h0 : 0 ≤ (k : Int) % m := Int.emod_nonneg _ (by omega)
        have h1 : (k : Int) % m < m := Int.emod_lt_of_pos _ (by omega)
        obtain ⟨j, hj⟩ : ∃ j : Nat, (j : Int) = (k : Int) % m := ⟨((k : Int) % m).toNat, by omega⟩
        obtain ⟨y, hy⟩ : ∃ y, cs[j]? = some y := ⟨cs[j]'(by omega), List.getElem?_eq_getElem (by omega)⟩
        have hat2 : atI (cs.map PyData.int) (j : Int) = some (.int y) := atI_nat (by simp [hy])
        have hx' : ixN cs.length (j : Int) = some j := by simpa using ixN_lt (n := cs.length) (i := (j : Int)) (by omega) (by omega)
        have q4 : mulOk y 31 = true := by simp [mulOk]
        have hm0 : ¬ (m : Int) = 0 := by omega
        have hmp : (0 : Int) < m := by omega
        refine ⟨[.val (.list (ns.map PyData.int)), .val (.int m), .own (.list (cs.map PyData.int)), .val (.int k)], [.val (.list (ns.map PyData.int)), .val (.int m), .own (.list ((cs.set j (y * 31 + x)).map PyData.int)), .val (.int k)], by simp, ?_, ⟨_, _, rfl, by simp [hc]⟩⟩
        simp only [b_law_cells_1]
        refine if_ff (ρ1 := [.val (.list (ns.map PyData.int)), .val (.int m), .own (.list (cs.map PyData.int)), .val (.int k)]) (by simp; omega) ?_
        have hm1 : ¬ m = 0 := by omega
        have hm2 : 0 < m := by omega
        rw [hj] at hat2 hx'
        simp [hat, hat2, hx', q4, hm0, hm1, hmp, hm2])
  refine ⟨cs, ?_⟩
  rw [u_law_cells]
  refine run_rt (ρ' := [.val (.list (ns.map PyData.int)), .val (.int m), .no, s3]) rfl ?_ rfl rfl
  refine seq_nx (ρ1 := [.val (.list (ns.map PyData.int)), .val (.int m), .own (.list ((List.replicate m 0).map PyData.int)), .no]) ?_ ?_
  · have h1 : -9223372036854775808 ≤ (m : Int) := by omega
    have h2 : (m : Int) < 9223372036854775808 := by omega
    have h3 : m ≤ 16777216 := by omega
    simp [h1, h2, h3]
  · refine seq_nx (for_eq (ρ1 := [.val (.list (ns.map PyData.int)), .val (.int m), .own (.list ((List.replicate m 0).map PyData.int)), .no]) (ds := rangeD ns.length 0) ?_ e) (by simp)
    have h1 : -4611686018427387904 ≤ (ns.length : Int) := by omega
    have h2 : (ns.length : Int) ≤ 16777216 := by omega
    simp [h1, h2]
theorem law_row {sc : D} {c : Sl} {bk : Book} (hb : BkOk bk) {e0 : Str × List (Str × List Str)} {r0 : Str × List Str} (he : e0 ∈ bk) (hr : r0 ∈ e0.2) (s7 : Sl) : ∃ t7, b_law_1 [.val sc, c, .val (bookD bk), .val (.str e0.1), .val (.tuple (e0.2.map rowD)), .val (.str r0.1), .val (.tuple (strsL r0.2)), s7] = some (.nx [.val sc, c, .val (bookD bk), .val (.str e0.1), .val (.tuple (e0.2.map rowD)), .val (.str r0.1), .val (.tuple (strsL r0.2)), t7]) := by
  have h1 := fields_of_spec hb he hr
  have h2 := kind_of_spec hb he hr
  have h3 := shaped_strs (ws := r0.2) fun w hw => (((hb.rows e0 he).2.2 r0 hr).2.2 w hw).2
  have h4 := eqv_strs r0.2
  refine ⟨.val (.tuple (strsL r0.2)), ?_⟩
  generalize bookD bk = bd0 at *
  generalize e0.2.map rowD = rw0 at *
  generalize strsL r0.2 = fs at *
  simp [b_law_1, h1, h2, h3, h4]
theorem law_kind {sc : D} {c : Sl} {bk : Book} (hb : BkOk bk) {e0 : Str × List (Str × List Str)} (he : e0 ∈ bk) (s5 s6 s7 : Sl) : ∃ t5 t6 t7, b_law_2 [.val sc, c, .val (bookD bk), .val (.str e0.1), .val (.tuple (e0.2.map rowD)), s5, s6, s7] = some (.nx [.val sc, c, .val (bookD bk), .val (.str e0.1), .val (.tuple (e0.2.map rowD)), t5, t6, t7]) := by
  obtain ⟨ρ', e, t5, t6, t7, rfl⟩ := forGo_inv (tg := gtF (gsCons (gnF 5) (gsCons (gnF 6) (gsNil)))) (body := b_law_1) (fun ρ => ∃ t5 t6 t7, ρ = [.val sc, c, .val (bookD bk), .val (.str e0.1), .val (.tuple (e0.2.map rowD)), t5, t6, t7]) (ds := e0.2.map rowD) (ρ := [.val sc, c, .val (bookD bk), .val (.str e0.1), .val (.tuple (e0.2.map rowD)), s5, s6, s7]) ⟨_, _, _, rfl⟩ (by
    rintro d hd ρ ⟨t5, t6, t7, rfl⟩
    obtain ⟨r, hr, rfl⟩ := List.mem_map.mp hd
    obtain ⟨u7, e⟩ := law_row (sc := sc) (c := c) hb he hr t7
    exact ⟨[.val sc, c, .val (bookD bk), .val (.str e0.1), .val (.tuple (e0.2.map rowD)), .val (.str r.1), .val (.tuple (strsL r.2)), t7], _, by simp [rowD], e, ⟨_, _, _, rfl⟩⟩)
  refine ⟨t5, t6, t7, ?_⟩
  exact for_eq (ρ1 := [.val sc, c, .val (bookD bk), .val (.str e0.1), .val (.tuple (e0.2.map rowD)), s5, s6, s7]) (ds := e0.2.map rowD) (by simp) e
theorem law_cell {sc : D} (c : Int) (s2 s3 s4 s5 s6 s7 : Sl) : ∃ t2 t3 t4 t5 t6 t7, b_law_3 [.val sc, .val (.int c), s2, s3, s4, s5, s6, s7] = some (.nx [.val sc, .val (.int c), t2, t3, t4, t5, t6, t7]) := by
  obtain ⟨x, y, z, e1⟩ := pool_spec c
  obtain ⟨bk, x', y', z', e2, hb⟩ := book_spec x y z
  obtain ⟨ρ', e, t3, t4, t5, t6, t7, rfl⟩ := forGo_inv (tg := gtF (gsCons (gnF 3) (gsCons (gnF 4) (gsNil)))) (body := b_law_2) (fun ρ => ∃ t3 t4 t5 t6 t7, ρ = [.val sc, .val (.int c), .val (bookD bk), t3, t4, t5, t6, t7]) (ds := bk.map kindD) (ρ := [.val sc, .val (.int c), .val (bookD bk), s3, s4, s5, s6, s7]) ⟨_, _, _, _, _, rfl⟩ (by
    rintro d hd ρ ⟨t3, t4, t5, t6, t7, rfl⟩
    obtain ⟨k, hk, rfl⟩ := List.mem_map.mp hd
    obtain ⟨u5, u6, u7, e⟩ := law_kind (sc := sc) (c := .val (.int c)) hb hk t5 t6 t7
    exact ⟨[.val sc, .val (.int c), .val (bookD bk), .val (.str k.1), .val (.tuple (k.2.map rowD)), t5, t6, t7], _, by simp [kindD], e, ⟨_, _, _, _, _, rfl⟩⟩)
  refine ⟨.val (bookD bk), t3, t4, t5, t6, t7, ?_⟩
  refine seq_nx (ρ1 := [.val sc, .val (.int c), .val (bookD bk), s3, s4, s5, s6, s7]) ?_ (for_eq (ρ1 := [.val sc, .val (.int c), .val (bookD bk), s3, s4, s5, s6, s7]) (ds := bk.map kindD) (by simp [bookD]) e)
  generalize bookD bk = bb at *
  simp [e1, e2]
theorem plain (ns : List Int) (hl : ns.length ≤ 63) : ∃ ss', m_law [.val (.list (ns.map PyData.int))] = some (.val (.bool true), ss') ∧ ss'.length = 1 := by
  obtain ⟨m, hm, hm1, hm6⟩ : ∃ m : Nat, (if (6 : Int) < (if (1 : Int) < ns.length then (ns.length : Int) else 1) then (6 : Int) else (if (1 : Int) < ns.length then (ns.length : Int) else 1)) = m ∧ 1 ≤ m ∧ m ≤ 6 := by
    refine ⟨(if (6 : Int) < (if (1 : Int) < ns.length then (ns.length : Int) else 1) then (6 : Int) else (if (1 : Int) < ns.length then (ns.length : Int) else 1)).toNat, ?_, ?_, ?_⟩ <;> split <;> (try split) <;> omega
  obtain ⟨cs, e1⟩ := cells_spec ns m hm1 hm6 hl
  obtain ⟨ρ', e, t1, t2, t3, t4, t5, t6, t7, rfl⟩ := forGo_inv (tg := gnF 1) (body := b_law_3) (fun ρ => ∃ t1 t2 t3 t4 t5 t6 t7, ρ = [.val (.list (ns.map PyData.int)), t1, t2, t3, t4, t5, t6, t7]) (ds := cs.map PyData.int) (ρ := [.val (.list (ns.map PyData.int)), .no, .no, .no, .no, .no, .no, .no]) ⟨_, _, _, _, _, _, _, rfl⟩ (by
    rintro d hd ρ ⟨t1, t2, t3, t4, t5, t6, t7, rfl⟩
    obtain ⟨c, _, rfl⟩ := List.mem_map.mp hd
    obtain ⟨u2, u3, u4, u5, u6, u7, e⟩ := law_cell (sc := .list (ns.map PyData.int)) c t2 t3 t4 t5 t6 t7
    exact ⟨_, _, rfl, e, ⟨_, _, _, _, _, _, _, rfl⟩⟩)
  refine ⟨[.val (.list (ns.map PyData.int))], ?_, rfl⟩
  rw [u_law]
  refine run_rt (ρ' := [.val (.list (ns.map PyData.int)), t1, t2, t3, t4, t5, t6, t7]) rfl (seq_nx (for_eq ?_ e) ?_) rfl rfl
  · simp [hm, e1]
  · simp
end K04
open PySem PySem.W PyProof.Rows
set_option maxHeartbeats 0 in
theorem PySem.Challenge.cw_shapecourt_k04_makes_and_fields_holds : PySem.Challenge.rw_shapecourt_k04_makes_and_fields.Holds := by
  w_on; o_law; k_head; (case hw => w_witness2)
  k_fill
  refine DL.walk_law (l := PySem.Challenge.rw_shapecourt_k04_makes_and_fields) (k := 5) (st := K04.s_law) rfl rfl ⟨rfl, by decide, by decide⟩ (fun w h Y => PySem.W.kIn_of Y) ?F ?B
  case B => exact fun _ _ _ _ _ _ _ _ => .of_eq rfl
  case F =>
    intro w mg fa h KX G hmg
    refine' K04.law_ok K04.plain ⟨DL.mk_at KX G ?a0 ?l0 ?c0 ?k0 (fun _ _ _ _ _ _ us hl => match us, hl with | [_, _], _ => rfl),
      DL.mk_at KX G ?a1 ?l1 ?c1 ?k1 (fun _ _ _ _ _ _ us hl => match us, hl with | [_, _], _ => rfl),
      DL.mk_at KX G ?a2 ?l2 ?c2 ?k2 (fun _ _ _ _ _ _ us hl => match us, hl with | [_, _], _ => rfl),
      DL.mk_at KX G ?a3 ?l3 ?c3 ?k3 (fun _ _ _ _ _ _ us hl => match us, hl with | [_], _ => rfl),
      DL.mk_at KX G ?a4 ?l4 ?c4 ?k4 (fun _ _ _ _ _ _ us hl => match us, hl with | [_, _], _ => rfl),
      DL.mk_at KX G ?a5 ?l5 ?c5 ?k5 (fun _ _ _ _ _ _ us hl => match us, hl with | [_, _], _ => rfl),
      DL.mk_at KX G ?a6 ?l6 ?c6 ?k6 (fun _ _ _ _ _ _ us hl => match us, hl with | [_, _], _ => rfl),
      DL.mk_at KX G ?a7 ?l7 ?c7 ?k7 (fun _ _ _ _ _ _ us hl => match us, hl with | [_, _], _ => rfl),
      DL.mk_at KX G ?a8 ?l8 ?c8 ?k8 (fun _ _ _ _ _ _ us hl => match us, hl with | [_, _, _], _ => rfl),
      DL.mk_at KX G ?a9 ?l9 ?c9 ?k9 (fun _ _ _ _ _ _ us hl => match us, hl with | [_], _ => rfl),
      DL.mk_at KX G ?a10 ?l10 ?c10 ?k10 (fun _ _ _ _ _ _ us hl => match us, hl with | [_], _ => rfl),
      PySem.W.mg_none_of KX G ?a11,
      PySem.W.mg_none_of KX G ?a12,
      PySem.W.mg_none_of KX G ?a13,
      PySem.W.mg_none_of KX G ?a14,
      PySem.W.mg_none_of KX G ?a15,
      PySem.W.mg_none_of KX G ?a16,
      PySem.W.mg_none_of KX G ?a17,
      DL.mk_str KX G ?a18⟩ hmg
    (case a0 => k_is); (case l0 => k_is); (case c0 => k_is); (case k0 => k_is)
    (case a1 => k_is); (case l1 => k_is); (case c1 => k_is); (case k1 => k_is)
    (case a2 => k_is); (case l2 => k_is); (case c2 => k_is); (case k2 => k_is)
    (case a3 => k_is); (case l3 => k_is); (case c3 => k_is); (case k3 => k_is)
    (case a4 => k_is); (case l4 => k_is); (case c4 => k_is); (case k4 => k_is)
    (case a5 => k_is); (case l5 => k_is); (case c5 => k_is); (case k5 => k_is)
    (case a6 => k_is); (case l6 => k_is); (case c6 => k_is); (case k6 => k_is)
    (case a7 => k_is); (case l7 => k_is); (case c7 => k_is); (case k7 => k_is)
    (case a8 => k_is); (case l8 => k_is); (case c8 => k_is); (case k8 => k_is)
    (case a9 => k_is); (case l9 => k_is); (case c9 => k_is); (case k9 => k_is)
    (case a10 => k_is); (case l10 => k_is); (case c10 => k_is); (case k10 => k_is)
    (case a11 => k_is)
    (case a12 => k_is)
    (case a13 => k_is)
    (case a14 => k_is)
    (case a15 => k_is)
    (case a16 => k_is)
    (case a17 => k_is)
    (case a18 => k_is)
