import PyProof.Rows.All
import Wide.All
import OpenK.AllK
import Wide.FinOn
import HandS.ForMost
import HandS.Codes
import HandS.Wide
import HandS.Conv
import HandS.TupAny
import HandS.Star
import HandS.Zip
import HandS.RevRange
import HandS.IsInst
import HandS.Style
import HandS.NoneIn
import HandS.TryOnly
import HandS.Small
import HandS.Rev
import HandS.SortInts
import HandS.Strs
import HandS.StrMore
import HandS.TupLen
import KE.KDictKeyed
import KE.DataMinMax
import KE.SortData
import HandS.RevTup
import HandS.TupMul
import HandS.Deep
import KE.KDictCopyH
import HandS.TupSets
import PySem.Challenge.RW_windowkeys_k24_whole_places_counted_on_g
set_option Elab.async false
set_option linter.all false
set_option maxRecDepth 100000
/-! a data-level layer over HandS: what slots hold, as data -/
namespace Z
open PySem PySem.Spec PyProof.Rows L2

inductive SV where
  | no
  | d (x : PyData)
  | own (xs : List PyData)
  | dct (kvs : List (PyData × PyData))
  | tp
  | dcn (kvs : List (PyData × PyData))
  | tpo (a : Addr) (xs : List PyData)

/-- the written part, the text, the world -/
structure Kx where
  K : PySem.W.Frag
  P : Program
  w : World
abbrev kx (X : Cx) : Kx := ⟨X.K, X.prog, X.w⟩

structure Tape where
  t : Addr
  cells : List Int
def tapeD (cells : List Int) (a b : Int) : List PyData := [.list (cells.map .int), .int a, .int b]

abbrev Sl := SV × Option V

def adr : Sl → Option Addr
  | (.own _, some (.ref a)) => some a
  | (.dct _, some (.ref a)) => some a
  | (.dcn _, some (.ref a)) => some a
  | (.tpo _ _, some (.ref a)) => some a
  | _ => none

section
variable {K : PySem.W.Frag} {H H' G G' B : Hp} {T : Option Tape} {L L' M N : List Sl}

theorem same_tup {a : Addr} {xs : List V} (e : Same H H') (h : SqT K H a xs) : SqT K H' a xs := by
  rcases h with (h | ⟨o, h⟩) | h
  · exact .inl (.inl (e _ _ h))
  · exact .inl (.inr ⟨o, e _ _ h⟩)
  · exact .inr h

mutual
theorem dp_mono (e : Same H H') : ∀ (x : PyData) (v : V), Dp K H v x → Dp K H' v x
  | .none, _, h => by cases h; exact .non
  | .bool b, _, h => by cases h; exact .bl b
  | .int i, _, h => by cases h; exact .int i
  | .str z, _, h => by cases h; exact .str z
  | .list ds, _, h => by
    cases h with
    | lst hs ha => exact .lst (e.seq hs) (dpAll_mono e ds _ ha)
  | .tuple ds, _, h => by
    cases h with
    | tup hs ha => exact .tup (same_tup e hs) (dpAll_mono e ds _ ha)
  | .dict _, _, h => by cases h
theorem dpAll_mono (e : Same H H') : ∀ (ds : List PyData) (vs : List V), DpAll K H vs ds → DpAll K H' vs ds
  | [], _, h => by cases h; exact .nil
  | d :: ds, _, h => by
    cases h with
    | cons h1 h2 => exact .cons (dp_mono e d _ h1) (dpAll_mono e ds _ h2)
end

theorem dpAll_append {vs vs' : List V} {ds ds' : List PyData} (h : DpAll K H vs ds) (h' : DpAll K H vs' ds') : DpAll K H (vs ++ vs') (ds ++ ds') := by
  induction ds generalizing vs with
  | nil => cases h; exact h'
  | cons d ds ih => cases h with | cons h1 h2 => exact .cons h1 (ih h2)
theorem dpAll_len {vs : List V} {ds : List PyData} (h : DpAll K H vs ds) : vs.length = ds.length := by
  induction ds generalizing vs with
  | nil => cases h; rfl
  | cons d ds ih => cases h with | cons h1 h2 => simp [ih h2]
theorem dpAll_get {vs : List V} {ds : List PyData} (h : DpAll K H vs ds) : ∀ {i : Nat} {v : V}, vs[i]? = some v → ∃ x, ds[i]? = some x ∧ Dp K H v x := by
  induction ds generalizing vs with
  | nil => cases h; intro i v e; simp at e
  | cons d ds ih =>
    cases h with
    | cons h1 h2 =>
      intro i v e
      cases i with
      | zero => simp at e; subst e; exact ⟨d, rfl, h1⟩
      | succ i => simpa using ih h2 (by simpa using e)
theorem dpAll_get' {vs : List V} {ds : List PyData} (h : DpAll K H vs ds) : ∀ {i : Nat} {x : PyData}, ds[i]? = some x → ∃ v, vs[i]? = some v ∧ Dp K H v x := by
  induction ds generalizing vs with
  | nil => cases h; intro i v e; simp at e
  | cons d ds ih =>
    cases h with
    | cons h1 h2 =>
      intro i v e
      cases i with
      | zero => simp at e; subst e; exact ⟨_, rfl, h1⟩
      | succ i => simpa using ih h2 (by simpa using e)
theorem dpAll_take {vs : List V} {ds : List PyData} (h : DpAll K H vs ds) : ∀ (n : Nat), DpAll K H (vs.take n) (ds.take n) := by
  induction ds generalizing vs with
  | nil => cases h; intro n; simp; exact .nil
  | cons d ds ih =>
    cases h with
    | cons h1 h2 =>
      intro n
      cases n with
      | zero => exact .nil
      | succ n => exact .cons h1 (ih h2 n)
theorem dpAll_drop {vs : List V} {ds : List PyData} (h : DpAll K H vs ds) : ∀ (n : Nat), DpAll K H (vs.drop n) (ds.drop n) := by
  induction ds generalizing vs with
  | nil => cases h; intro n; simp; exact .nil
  | cons d ds ih =>
    cases h with
    | cons h1 h2 =>
      intro n
      cases n with
      | zero => exact .cons h1 h2
      | succ n => exact ih h2 n
theorem dpAll_set {vs : List V} {ds : List PyData} (h : DpAll K H vs ds) : ∀ {i : Nat} {v : V} {x : PyData}, Dp K H v x → DpAll K H (vs.set i v) (ds.set i x) := by
  induction ds generalizing vs with
  | nil => cases h; intro i v x _; exact .nil
  | cons d ds ih =>
    cases h with
    | cons h1 h2 =>
      intro i v x e
      cases i with
      | zero => exact .cons e h2
      | succ i => exact .cons h1 (ih h2 e)
theorem dpAll_rev {vs : List V} {ds : List PyData} (h : DpAll K H vs ds) : DpAll K H vs.reverse ds.reverse := by
  induction ds generalizing vs with
  | nil => cases h; exact .nil
  | cons d ds ih =>
    cases h with
    | cons h1 h2 =>
      rw [List.reverse_cons, List.reverse_cons]
      exact dpAll_append (ih h2) (.cons h1 .nil)
theorem dpAll_ints {vs : List V} : ∀ {ns : List Int}, DpAll K H vs (ns.map PyData.int) → vs = ns.map V.int := by
  intro ns
  induction ns generalizing vs with
  | nil => intro h; cases h; rfl
  | cons n ns ih => intro h; cases h with | cons h1 h2 => cases h1; rw [ih h2]; rfl
theorem dpAll_strs {vs : List V} : ∀ {ns : List Str}, DpAll K H vs (ns.map PyData.str) → vs = ns.map V.str := by
  intro ns
  induction ns generalizing vs with
  | nil => intro h; cases h; rfl
  | cons n ns ih => intro h; cases h with | cons h1 h2 => cases h1; rw [ih h2]; rfl
theorem dpAll_bls {vs : List V} : ∀ {ns : List Bool}, DpAll K H vs (ns.map PyData.bool) → vs = ns.map V.bl := by
  intro ns
  induction ns generalizing vs with
  | nil => intro h; cases h; rfl
  | cons n ns ih => intro h; cases h with | cons h1 h2 => cases h1; rw [ih h2]; rfl
theorem dpAll_ofInts : ∀ (ns : List Int), DpAll K H (ns.map V.int) (ns.map PyData.int)
  | [] => .nil
  | n :: ns => .cons (.int n) (dpAll_ofInts ns)
theorem dpAll_ofStrs : ∀ (ns : List Str), DpAll K H (ns.map V.str) (ns.map PyData.str)
  | [] => .nil
  | n :: ns => .cons (.str n) (dpAll_ofStrs ns)

end
section
variable {K : Kx} {H H' G G' B : Hp} {T : Option Tape} {L L' M N : List Sl}
/-- the pairs of a dict -/
def keyD : Key → PyData
  | .inl i => .int i
  | .inr z => .str z
def KvR (K : Kx) (G : Hp) : List (Key × V) → List (PyData × PyData) → Prop :=
  Paired fun p q => keyD p.1 = q.1 ∧ Dp K.K G p.2 q.2

/-- a dict whose keys are tuples, nested: the one object -/
def NObj (K : Kx) (a : Addr) (xs : List (NestedKey × Addr × Value)) (h : Heap) : Prop :=
  (a == sysModules) = false ∧ xs.length ≤ sizeLine ∧ ∃ o es ep, h.get? a = some o ∧ o.ExactDict ∧ o.data = .dict es ep ∧ es.toList = xs.map (entryOfKey (nestedKind K.P K.w)) ∧ (xs.map (·.1)).Nodup
mutual
def nkD : NestedKey → PyData
  | .none => .none
  | .num i => .int i
  | .text x => .str x
  | .tup ks => .tuple (nkDs ks)
def nkDs : List NestedKey → List PyData
  | [] => []
  | k :: ks => nkD k :: nkDs ks
end
def NR (K : Kx) (G : Hp) : List (NestedKey × Addr × Value) → List (PyData × PyData) → Prop :=
  Paired fun x q => nkD x.1 = q.1 ∧ x.1.depth ≤ 8 ∧ Dp K.K G (.ref x.2.1) q.1 ∧ ∃ v, RelV v x.2.2 ∧ Dp K.K G v q.2
theorem NR.mono {K : Kx} {G G' : Hp} (e : Same G G') {xs : List (NestedKey × Addr × Value)} {kvs : List (PyData × PyData)} (h : NR K G xs kvs) : NR K G' xs kvs :=
  Paired.mapP h fun x q z => ⟨z.1, z.2.1, dp_mono e _ _ z.2.2.1, let ⟨v, r, d⟩ := z.2.2.2; ⟨v, r, dp_mono e _ _ d⟩⟩

/-- what is the frame's own -/
structure Own (T : Option Tape) (B G : Hp) (a : Addr) : Prop where
  b : B a = none
  g : G a = none
  t : ∀ t, T = some t → t.t ≠ a

def SlotOk (K : Kx) (T : Option Tape) (B G H : Hp) (p : Sl) : Prop :=
  match p with
  | (.no, _) => True
  | (.d x, some v) => Dp K.K G v x
  | (.own xs, some (.ref a)) => Own T B G a ∧ ∃ vs, H a = some (.lst vs) ∧ DpAll K.K G vs xs
  | (.dct kvs, some (.ref a)) => Own T B G a ∧ ∃ ks, H a = some (.dK ks) ∧ KvR K G ks kvs
  | (.tp, some (.ref a)) => ∃ t, T = some t ∧ t.t = a
  | (.dcn kvs, some (.ref a)) => Own T B G a ∧ ∃ xs, H a = some (.ext (NObj K a xs)) ∧ NR K G xs kvs
  | (.tpo b xs, some (.ref a)) => a = b ∧ Own T B G a ∧ ∃ vs, H a = some (.lst vs) ∧ DpAll K.K G vs xs
  | _ => False

structure SR (K : Kx) (T : Option Tape) (B G : Hp) (L : List Sl) (H : Hp) : Prop where
  bH : Same B H
  gH : Same G H
  tp : ∀ t, T = some t → B t.t = none ∧ G t.t = none ∧ ∃ (vs : List V) (a b : Int), H t.t = some (.lst vs) ∧ DpAll K.K G vs (tapeD t.cells a b)
  ok : ∀ p ∈ L, SlotOk K T B G H p
  nd : (L.filterMap adr).Nodup

structure Gw (B G G' : Hp) : Prop where
  same : Same G G'
  new : ∀ a, G a = none → G' a ≠ none → B a = none
theorem Gw.refl (B G : Hp) : Gw B G G := ⟨Same.refl G, fun a h h' => absurd h h'⟩
theorem Gw.trans {G1 G2 G3 : Hp} (h : Gw B G1 G2) (h' : Gw B G2 G3) : Gw B G1 G3 :=
  ⟨h.same.trans h'.same, fun a h1 h3 => by
    by_cases h2 : G2 a = none
    · exact h'.new a h2 h3
    · exact h.new a h1 h2⟩

end
section
variable {K : Kx} {H H' G G' B : Hp} {T : Option Tape} {L L' M N : List Sl}
theorem SR.perm (h : SR K T B G L H) (p : L.Perm L') : SR K T B G L' H :=
  ⟨h.bH, h.gH, h.tp, fun q hq => h.ok q (p.mem_iff.mpr hq), (p.filterMap adr).nodup_iff.mp h.nd⟩
theorem SR.sub (h : SR K T B G L H) (p : L'.Sublist L) : SR K T B G L' H :=
  ⟨h.bH, h.gH, h.tp, fun q hq => h.ok q (p.subset hq), h.nd.sublist (p.filterMap adr)⟩

theorem adr_some {p : Sl} {a : Addr} (e : adr p = some a) (h : SlotOk K T B G H p) : Own T B G a ∧ ∃ o, H a = some o := by
  obtain ⟨sv, o⟩ := p
  cases sv with
  | own xs =>
    cases o with
    | none => cases e
    | some v =>
      cases v with
      | ref b => cases e; exact ⟨h.1, let ⟨vs, h2, _⟩ := h.2; ⟨_, h2⟩⟩
      | _ => cases e
  | dct xs =>
    cases o with
    | none => cases e
    | some v =>
      cases v with
      | ref b => cases e; exact ⟨h.1, let ⟨vs, h2, _⟩ := h.2; ⟨_, h2⟩⟩
      | _ => cases e
  | dcn xs =>
    cases o with
    | none => cases e
    | some v =>
      cases v with
      | ref b => cases e; exact ⟨h.1, let ⟨vs, h2, _⟩ := h.2; ⟨_, h2⟩⟩
      | _ => cases e
  | tpo b xs =>
    cases o with
    | none => cases e
    | some v =>
      cases v with
      | ref b => cases e; exact ⟨h.2.1, let ⟨vs, h2, _⟩ := h.2.2; ⟨_, h2⟩⟩
      | _ => cases e
  | _ => cases e
theorem SR.own_at (h : SR K T B G L H) {a : Addr} (ha : a ∈ L.filterMap adr) : Own T B G a ∧ ∃ o, H a = some o := by
  obtain ⟨p, hp, e⟩ := List.mem_filterMap.mp ha
  exact adr_some e (h.ok p hp)
theorem SR.notin (h : SR K T B G L H) {a : Addr} (hn : H a = none) : a ∉ L.filterMap adr := fun ha => by
  obtain ⟨_, o, e⟩ := h.own_at ha
  rw [hn] at e; cases e

/-- the heap grows, what is known grows; own things stay -/
theorem SlotOk.ext {p : Sl} (h : SlotOk K T B G H p) (hH : ∀ a o, adr p = some a → H a = some o → H' a = some o) (hg : Same G G') (hn : ∀ a, adr p = some a → G' a = none) : SlotOk K T B G' H' p := by
  obtain ⟨sv, o⟩ := p
  cases sv with
  | no => trivial
  | d x =>
    cases o with
    | none => exact h
    | some v => exact dp_mono hg x v h
  | own xs =>
    cases o with
    | none => exact h
    | some v =>
      cases v with
      | ref a =>
        obtain ⟨o, vs, e, hd⟩ := h
        exact ⟨⟨o.b, hn a rfl, o.t⟩, vs, hH a _ rfl e, dpAll_mono hg _ _ hd⟩
      | _ => exact h
  | dct xs =>
    cases o with
    | none => exact h
    | some v =>
      cases v with
      | ref a =>
        obtain ⟨o, vs, e, hd⟩ := h
        exact ⟨⟨o.b, hn a rfl, o.t⟩, vs, hH a _ rfl e, Paired.mapP hd fun p q z => ⟨z.1, dp_mono hg _ _ z.2⟩⟩
      | _ => exact h
  | dcn xs =>
    cases o with
    | none => exact h
    | some v =>
      cases v with
      | ref a =>
        obtain ⟨o, vs, e, hd⟩ := h
        exact ⟨⟨o.b, hn a rfl, o.t⟩, vs, hH a _ rfl e, hd.mono hg⟩
      | _ => exact h
  | tpo b xs =>
    cases o with
    | none => exact h
    | some v =>
      cases v with
      | ref a =>
        obtain ⟨eb, o, vs, e, hd⟩ := h
        exact ⟨eb, ⟨o.b, hn a rfl, o.t⟩, vs, hH a _ rfl e, dpAll_mono hg _ _ hd⟩
      | _ => exact h
  | tp =>
    cases o with
    | none => exact h
    | some v => cases v <;> exact h

theorem SR.ext (h : SR K T B G L H) (hH : ∀ a o, H a = some o → (∀ t, T = some t → t.t ≠ a) → H' a = some o) (hg : Same G G') (hn : ∀ a, G a = none → G' a ≠ none → a ∉ L.filterMap adr)
    (gH : Same G' H') (tp : ∀ t, T = some t → G' t.t = none ∧ ∃ (vs : List V) (a b : Int), H' t.t = some (.lst vs) ∧ DpAll K.K G' vs (tapeD t.cells a b)) : SR K T B G' L H' where
  bH := fun a o e => hH a o (h.bH a o e) fun t ht z => by
    have := (h.tp t ht).1
    rw [z, e] at this; cases this
  gH := gH
  tp := fun t ht => ⟨(h.tp t ht).1, tp t ht⟩
  ok := fun p hp => (h.ok p hp).ext (fun a o ea e => hH a o e (adr_some ea (h.ok p hp)).1.t) hg fun a ea => by
    have o := (adr_some ea (h.ok p hp)).1
    cases q : G' a with
    | none => rfl
    | some u => exact absurd (List.mem_filterMap.mpr ⟨p, hp, ea⟩) (hn a o.g (by rw [q]; simp))
  nd := h.nd

theorem SR.cons (h : SR K T B G L H) {p : Sl} (hp : SlotOk K T B G H p) (hf : ∀ a, adr p = some a → a ∉ L.filterMap adr) : SR K T B G (p :: L) H where
  bH := h.bH
  gH := h.gH
  tp := h.tp
  ok := fun q hq => by
    rcases List.mem_cons.mp hq with e | hq
    · rw [e]; exact hp
    · exact h.ok q hq
  nd := by
    cases e : adr p with
    | none => rw [List.filterMap_cons_none e]; exact h.nd
    | some a => rw [List.filterMap_cons_some e]; exact List.nodup_cons.mpr ⟨hf a e, h.nd⟩

theorem SR.tail {p : Sl} (h : SR K T B G (p :: L) H) : SR K T B G L H := h.sub (List.sublist_cons_self p L)
theorem SR.head {p : Sl} (h : SR K T B G (p :: L) H) : SlotOk K T B G H p := h.ok p List.mem_cons_self
theorem SR.head_nd {p : Sl} {a : Addr} (h : SR K T B G (p :: L) H) (e : adr p = some a) : a ∉ L.filterMap adr := by
  have := h.nd
  rw [List.filterMap_cons_some e] at this
  exact (List.nodup_cons.mp this).1
/-- a value of data -/
theorem SR.data (h : SR K T B G L H) {v : V} {x : PyData} (hd : Dp K.K G v x) : SR K T B G ((.d x, some v) :: L) H := h.cons hd fun a e => by cases e
theorem SR.none_g (h : SR K T B G L H) {a : Addr} (hn : H a = none) : G a = none := h.gH.free hn
theorem SR.none_b (h : SR K T B G L H) {a : Addr} (hn : H a = none) : B a = none := h.bH.free hn
theorem SR.tape_ne (h : SR K T B G L H) {a : Addr} (hn : H a = none) : ∀ t, T = some t → t.t ≠ a := fun t ht z => by
  obtain ⟨_, _, vs, x, y, e, _⟩ := h.tp t ht
  rw [z, hn] at e; cases e

/-- a new object that never changes -/
theorem SR.newG (h : SR K T B G L H) {p : Addr} {o : HO} (hn : H p = none) : SR K T B (upd G p o) L (upd H p o) ∧ Gw B G (upd G p o) := by
  have gp : G p = none := h.none_g hn
  have sg : Same G (upd G p o) := fun a u e => by rw [upd_ne (ne_of_none e gp)]; exact e
  have nw : ∀ a, G a = none → upd G p o a ≠ none → a = p := fun a e e' => by
    by_cases q : a = p
    · exact q
    · rw [upd_ne q] at e'; exact absurd e e'
  refine ⟨h.ext (fun a u e _ => by rw [upd_ne (ne_of_none e hn)]; exact e) sg (fun a e e' => ?_) (fun a u e => ?_) (fun t ht => ?_), sg, fun a e e' => ?_⟩
  · rw [nw a e e']; exact h.notin hn
  · by_cases q : a = p
    · subst q; rw [upd_same] at e ⊢; exact e
    · rw [upd_ne q] at e ⊢; exact h.gH a u e
  · obtain ⟨_, tg, vs, x, y, e, hd⟩ := h.tp t ht
    have ne := h.tape_ne hn t ht
    rw [upd_ne ne, upd_ne ne]
    exact ⟨tg, vs, x, y, e, dpAll_mono sg _ _ hd⟩
  · rw [nw a e e']; exact h.none_b hn
theorem SR.newTup (h : SR K T B G L H) {p : Addr} {vs : List V} {xs : List PyData} (hn : H p = none) (hd : DpAll K.K G vs xs) :
    SR K T B (upd G p (.tup vs)) ((.d (.tuple xs), some (.ref p)) :: L) (upd H p (.tup vs)) ∧ Gw B G (upd G p (.tup vs)) := by
  obtain ⟨h1, w⟩ := h.newG (o := .tup vs) hn
  exact ⟨h1.data (.tup (SqT.of upd_same) (dpAll_mono w.same _ _ hd)), w⟩
/-- a new own thing -/
theorem SR.newH (h : SR K T B G L H) {p : Addr} {o : HO} (hn : H p = none) : SR K T B G L (upd H p o) :=
  h.ext (fun a u e _ => by rw [upd_ne (ne_of_none e hn)]; exact e) (Same.refl G) (fun a e e' => absurd e e') (fun a u e => by rw [upd_ne (ne_of_none (h.gH a u e) hn)]; exact h.gH a u e) fun t ht => by
    obtain ⟨_, tg, r⟩ := h.tp t ht
    rw [upd_ne (h.tape_ne hn t ht)]
    exact ⟨tg, r⟩
theorem SR.newOwn (h : SR K T B G L H) {p : Addr} {vs : List V} {xs : List PyData} (hn : H p = none) (hd : DpAll K.K G vs xs) :
    SR K T B G ((.own xs, some (.ref p)) :: L) (upd H p (.lst vs)) := by
  refine (h.newH hn).cons ⟨⟨h.none_b hn, h.none_g hn, h.tape_ne hn⟩, vs, upd_same, hd⟩ fun a e => ?_
  cases e
  exact h.notin hn
theorem SR.newDct (h : SR K T B G L H) {p : Addr} {ks : List (Key × V)} {kvs : List (PyData × PyData)} (hn : H p = none) (hd : KvR K G ks kvs) :
    SR K T B G ((.dct kvs, some (.ref p)) :: L) (upd H p (.dK ks)) := by
  refine (h.newH hn).cons ⟨⟨h.none_b hn, h.none_g hn, h.tape_ne hn⟩, ks, upd_same, hd⟩ fun a e => ?_
  cases e
  exact h.notin hn
theorem SR.newDcn (h : SR K T B G L H) {p : Addr} {ks : List (NestedKey × Addr × Value)} {kvs : List (PyData × PyData)} (hn : H p = none) (hd : NR K G ks kvs) :
    SR K T B G ((.dcn kvs, some (.ref p)) :: L) (upd H p (.ext (NObj K p ks))) := by
  refine (h.newH hn).cons ⟨⟨h.none_b hn, h.none_g hn, h.tape_ne hn⟩, ks, upd_same, hd⟩ fun a e => ?_
  cases e
  exact h.notin hn
/-- an own list comes to rest -/
theorem SR.frz {xs : List PyData} {v : V} (h : SR K T B G ((.own xs, some v) :: L) H) : ∃ G', SR K T B G' ((.d (.list xs), some v) :: L) H ∧ Gw B G G' := by
  have hp := h.head
  cases v with
  | ref a =>
    obtain ⟨o, vs, e, hd⟩ := hp
    have sg : Same G (upd G a (.lst vs)) := fun b u q => by rw [upd_ne (ne_of_none q o.g)]; exact q
    have nw : ∀ b, G b = none → upd G a (.lst vs) b ≠ none → b = a := fun b q q' => by
      by_cases z : b = a
      · exact z
      · rw [upd_ne z] at q'; exact absurd q q'
    have h1 : SR K T B (upd G a (.lst vs)) L H := h.tail.ext (fun _ _ q _ => q) sg (fun b q q' => by rw [nw b q q']; exact h.head_nd rfl) (fun b u q => by
        by_cases z : b = a
        · subst z; rw [upd_same] at q; rw [← q]; exact e
        · rw [upd_ne z] at q; exact h.gH b u q) (fun t ht => by
        obtain ⟨_, tg, ws, x, y, q, qd⟩ := h.tp t ht
        rw [upd_ne (o.t t ht)]
        exact ⟨tg, ws, x, y, q, dpAll_mono sg _ _ qd⟩)
    exact ⟨_, h1.data (.lst (SqL.of upd_same) (dpAll_mono sg _ _ hd)), sg, fun b q q' => by rw [nw b q q']; exact o.b⟩
  | _ => exact hp.elim
/-- an own list is written -/
theorem SR.write {xs ys : List PyData} {vs : List V} {a : Addr} (h : SR K T B G ((.own xs, some (.ref a)) :: L) H) (hd : DpAll K.K G vs ys) : SR K T B G ((.own ys, some (.ref a)) :: L) (upd H a (.lst vs)) := by
  obtain ⟨o, _⟩ := h.head
  have hL := h.head_nd rfl
  have h1 : SR K T B G L (upd H a (.lst vs)) :=
    { bH := fun b u e => by rw [upd_ne (ne_of_none e o.b)]; exact h.bH b u e
      gH := fun b u e => by rw [upd_ne (ne_of_none e o.g)]; exact h.gH b u e
      tp := fun t ht => by
        rw [upd_ne (o.t t ht)]
        exact h.tp t ht
      ok := fun p hp => (h.ok p (List.mem_cons_of_mem _ hp)).ext (fun b u eb e => by
        rw [upd_ne (fun z => hL (by rw [← z]; exact List.mem_filterMap.mpr ⟨p, hp, eb⟩))]; exact e) (Same.refl G) fun b eb => (adr_some eb (h.ok p (List.mem_cons_of_mem _ hp))).1.g
      nd := h.tail.nd }
  exact h1.cons ⟨o, vs, upd_same, hd⟩ fun b e => by cases e; exact hL
theorem SR.writeD {xs ys : List (PyData × PyData)} {vs : List (Key × V)} {a : Addr} (h : SR K T B G ((.dct xs, some (.ref a)) :: L) H) (hd : KvR K G vs ys) : SR K T B G ((.dct ys, some (.ref a)) :: L) (upd H a (.dK vs)) := by
  obtain ⟨o, _⟩ := h.head
  have hL := h.head_nd rfl
  have h1 : SR K T B G L (upd H a (.dK vs)) :=
    { bH := fun b u e => by rw [upd_ne (ne_of_none e o.b)]; exact h.bH b u e
      gH := fun b u e => by rw [upd_ne (ne_of_none e o.g)]; exact h.gH b u e
      tp := fun t ht => by
        rw [upd_ne (o.t t ht)]
        exact h.tp t ht
      ok := fun p hp => (h.ok p (List.mem_cons_of_mem _ hp)).ext (fun b u eb e => by
        rw [upd_ne (fun z => hL (by rw [← z]; exact List.mem_filterMap.mpr ⟨p, hp, eb⟩))]; exact e) (Same.refl G) fun b eb => (adr_some eb (h.ok p (List.mem_cons_of_mem _ hp))).1.g
      nd := h.tail.nd }
  exact h1.cons ⟨o, vs, upd_same, hd⟩ fun b e => by cases e; exact hL
/-- an own list is written -/
theorem SR.writeT {xs ys : List PyData} {vs : List V} {a c : Addr} (h : SR K T B G ((.tpo c xs, some (.ref a)) :: L) H) (hd : DpAll K.K G vs ys) : SR K T B G ((.tpo c ys, some (.ref a)) :: L) (upd H a (.lst vs)) := by
  obtain ⟨eb, o, _⟩ := h.head
  have hL := h.head_nd rfl
  have h1 : SR K T B G L (upd H a (.lst vs)) :=
    { bH := fun b u e => by rw [upd_ne (ne_of_none e o.b)]; exact h.bH b u e
      gH := fun b u e => by rw [upd_ne (ne_of_none e o.g)]; exact h.gH b u e
      tp := fun t ht => by
        rw [upd_ne (o.t t ht)]
        exact h.tp t ht
      ok := fun p hp => (h.ok p (List.mem_cons_of_mem _ hp)).ext (fun b u eb e => by
        rw [upd_ne (fun z => hL (by rw [← z]; exact List.mem_filterMap.mpr ⟨p, hp, eb⟩))]; exact e) (Same.refl G) fun b eb => (adr_some eb (h.ok p (List.mem_cons_of_mem _ hp))).1.g
      nd := h.tail.nd }
  exact h1.cons ⟨eb, o, vs, upd_same, hd⟩ fun b e => by cases e; exact hL
theorem SR.writeN {xs ys : List (PyData × PyData)} {vs : List (NestedKey × Addr × Value)} {a : Addr} (h : SR K T B G ((.dcn xs, some (.ref a)) :: L) H) (hd : NR K G vs ys) : SR K T B G ((.dcn ys, some (.ref a)) :: L) (upd H a (.ext (NObj K a vs))) := by
  obtain ⟨o, _⟩ := h.head
  have hL := h.head_nd rfl
  have h1 : SR K T B G L (upd H a (.ext (NObj K a vs))) :=
    { bH := fun b u e => by rw [upd_ne (ne_of_none e o.b)]; exact h.bH b u e
      gH := fun b u e => by rw [upd_ne (ne_of_none e o.g)]; exact h.gH b u e
      tp := fun t ht => by
        rw [upd_ne (o.t t ht)]
        exact h.tp t ht
      ok := fun p hp => (h.ok p (List.mem_cons_of_mem _ hp)).ext (fun b u eb e => by
        rw [upd_ne (fun z => hL (by rw [← z]; exact List.mem_filterMap.mpr ⟨p, hp, eb⟩))]; exact e) (Same.refl G) fun b eb => (adr_some eb (h.ok p (List.mem_cons_of_mem _ hp))).1.g
      nd := h.tail.nd }
  exact h1.cons ⟨o, vs, upd_same, hd⟩ fun b e => by cases e; exact hL
/-- what is put to the front -/
theorem set_perm : ∀ (L : List Sl) (i : Nat) (p : Sl), i < L.length → (L.set i p).Perm (p :: L.eraseIdx i)
  | [], _, _, h => absurd h (Nat.not_lt_zero _)
  | q :: L, 0, p, _ => .refl _
  | q :: L, i + 1, p, h => by
    show (q :: L.set i p).Perm (p :: q :: L.eraseIdx i)
    exact ((set_perm L i p (Nat.lt_of_succ_lt_succ h)).cons q).trans (.swap p q _)
theorem get_perm : ∀ (L : List Sl) (i : Nat) (p : Sl), L[i]? = some p → L.Perm (p :: L.eraseIdx i)
  | [], _, _, h => by simp at h
  | q :: L, 0, p, h => by simp at h; rw [h]; exact .refl _
  | q :: L, i + 1, p, h => by
    show (q :: L).Perm (p :: q :: L.eraseIdx i)
    exact ((get_perm L i p (by simpa using h)).cons q).trans (.swap p q _)
/-- a temporary goes into a slot -/
theorem SR.put {p : Sl} {i : Nat} (h : SR K T B G (p :: (M ++ L)) H) (hi : i < L.length) : SR K T B G (M ++ L.set i p) H := by
  refine (h.sub (L' := p :: (M ++ L.eraseIdx i)) (.cons₂ p (.append (.refl M) (List.eraseIdx_sublist L i)))).perm ?_
  refine .trans (.symm List.perm_middle) ?_
  exact (List.Perm.refl M).append (set_perm L i p hi).symm
/-- the slot i to the front -/
theorem SR.front {p : Sl} {i : Nat} (h : SR K T B G (M ++ L) H) (hi : L[i]? = some p) : SR K T B G (p :: (M ++ L.eraseIdx i)) H := by
  refine h.perm (.trans ?_ List.perm_middle)
  exact (List.Perm.refl M).append (get_perm L i p hi)
theorem SR.back {p : Sl} {i : Nat} (h : SR K T B G (p :: (M ++ L.eraseIdx i)) H) (hi : i < L.length) : SR K T B G (M ++ L.set i p) H := by
  refine h.perm (.trans (.symm List.perm_middle) ?_)
  exact (List.Perm.refl M).append (set_perm L i p hi).symm
end
end Z

/-! judgements over data; the core rules -/
namespace Z
open PySem PySem.Spec PyProof.Rows L2

abbrev FE := List SV → (SV → Prop) → Prop
abbrev FA := List SV → (List SV → Prop) → Prop
abbrev FT := List SV → (Bool → Prop) → Prop
structure FEnds where
  nx : List SV → Prop
  rt : SV → List SV → Prop
  bk : List SV → Prop := fun _ => False
  ct : List SV → Prop := fun _ => False
abbrev FS := FEnds → List SV → Prop
abbrev FI := List SV → (List PyData → Prop) → Prop
abbrev FG := SV → List SV → (List SV → Prop) → Prop

def asD : SV → Option PyData
  | .d x => some x
  | .own xs => some (.list xs)
  | _ => none
def asDs : List SV → Option (List PyData)
  | [] => some []
  | s :: r => match asD s, asDs r with
    | some x, some xs => some (x :: xs)
    | _, _ => none

section
variable {K : Kx} {H H' G G' B : Hp} {T : Option Tape} {L L' M N : List Sl}
theorem SR.frzD {sv : SV} {v : V} {x : PyData} (h : SR K T B G ((sv, some v) :: N) H) (e : asD sv = some x) : ∃ G', SR K T B G' ((.d x, some v) :: N) H ∧ Gw B G G' := by
  cases sv with
  | d y => cases e; exact ⟨G, h, .refl _ _⟩
  | own ys => cases e; exact h.frz
  | _ => cases e
theorem SR.dp {v : V} {x : PyData} (h : SR K T B G ((.d x, some v) :: N) H) : Dp K.K G v x := h.head
theorem SR.frzAll : ∀ {A : List Sl} {vs : List V} {ds : List PyData} {G : Hp}, SR K T B G (A ++ N) H → A.map Prod.snd = vs.map some → asDs (A.map Prod.fst) = some ds → ∃ G', SR K T B G' N H ∧ DpAll K.K G' vs ds ∧ Gw B G G'
  | [], vs, ds, G, h, e, q => by
    cases vs with
    | nil => cases q; exact ⟨G, h, .nil, .refl _ _⟩
    | cons v vs => cases e
  | (sv, o) :: A, vs, ds, G, h, e, q => by
    cases vs with
    | nil => cases e
    | cons v vs =>
      have e1 : o = some v := by injection e
      have e2 : A.map Prod.snd = vs.map some := by injection e
      subst e1
      have q' : (match asD sv, asDs (A.map Prod.fst) with
        | some x, some xs => some (x :: xs)
        | _, _ => none) = some ds := q
      cases q1 : asD sv with
      | none => rw [q1] at q'; cases q'
      | some x =>
        cases q2 : asDs (A.map Prod.fst) with
        | none => rw [q1, q2] at q'; cases q'
        | some xs =>
          rw [q1, q2] at q'
          cases q'
          obtain ⟨G1, h1, w1⟩ := SR.frzD (N := A ++ N) h q1
          obtain ⟨G2, h2, d2, w2⟩ := SR.frzAll h1.tail e2 q2
          exact ⟨G2, h2, .cons (dp_mono w2.same _ _ h1.dp) d2, w1.trans w2⟩
end

/-! ### the readings over data -/
def tQ (K : Kx) (f : FE) : TE := fun σ H Q => ∃ (T : Option Tape) (B G : Hp) (L M : List Sl) (Q' : SV → Prop), σ = L.map Prod.snd ∧ SR K T B G (M ++ L) H ∧ f (L.map Prod.fst) Q' ∧
  ∀ (v : V) (G' H' : Hp) (sv : SV), SR K T B G' ((sv, some v) :: (M ++ L)) H' → Gw B G G' → Q' sv → Q v H'
/-- what is only read: it may be a slot's own -/
def tR (K : Kx) (f : FE) : TE := fun σ H Q => ∃ (T : Option Tape) (B G : Hp) (L M : List Sl) (Q' : SV → Prop), σ = L.map Prod.snd ∧ SR K T B G (M ++ L) H ∧ f (L.map Prod.fst) Q' ∧
  ∀ (v : V) (G' H' : Hp) (sv : SV) (M' : List Sl), SR K T B G' (M' ++ (M ++ L)) H' → (sv, some v) ∈ M' ++ (M ++ L) → Gw B G G' → Q' sv → Q v H'
def tQA (K : Kx) (f : FA) : TA := fun σ H Q => ∃ (T : Option Tape) (B G : Hp) (L M : List Sl) (Q' : List SV → Prop), σ = L.map Prod.snd ∧ SR K T B G (M ++ L) H ∧ f (L.map Prod.fst) Q' ∧
  ∀ (A : List Sl) (vs : List V) (G' H' : Hp), A.map Prod.snd = vs.map some → SR K T B G' (A ++ (M ++ L)) H' → Gw B G G' → Q' (A.map Prod.fst) → Q vs H'
def tQT (K : Kx) (f : FT) : TT := fun σ H Q => ∃ (T : Option Tape) (B G : Hp) (L M : List Sl) (Q' : Bool → Prop), σ = L.map Prod.snd ∧ SR K T B G (M ++ L) H ∧ f (L.map Prod.fst) Q' ∧
  ∀ (b : Bool) (G' H' : Hp), SR K T B G' (M ++ L) H' → Gw B G G' → Q' b → Q b H'
/-- the end of a statement, over data -/
structure EndR (K : Kx) (T : Option Tape) (B G : Hp) (n : Nat) (E : FEnds) (D : Ends) : Prop where
  nx : ∀ (L : List Sl) (G' H' : Hp), SR K T B G' L H' → Gw B G G' → L.length = n → E.nx (L.map Prod.fst) → D.nx (L.map Prod.snd) H'
  rt : ∀ (v : V) (sv : SV) (L : List Sl) (G' H' : Hp), SR K T B G' ((sv, some v) :: L) H' → Gw B G G' → L.length = n → E.rt sv (L.map Prod.fst) → D.rt v H'
  bk : ∀ (L : List Sl) (G' H' : Hp), SR K T B G' L H' → Gw B G G' → L.length = n → E.bk (L.map Prod.fst) → D.bk (L.map Prod.snd) H'
  ct : ∀ (L : List Sl) (G' H' : Hp), SR K T B G' L H' → Gw B G G' → L.length = n → E.ct (L.map Prod.fst) → D.ct (L.map Prod.snd) H'
def tQS (K : Kx) (f : FS) : TS := fun D σ H => ∃ (T : Option Tape) (B G : Hp) (L : List Sl) (E : FEnds), σ = L.map Prod.snd ∧ SR K T B G L H ∧ f E (L.map Prod.fst) ∧ EndR K T B G L.length E D
/-- an own list may be left as the value of a return: the slot goes with the frame -/
def QE (X : Cx) (e : Expr) (f : FE) : Prop := PE X e (tQ (kx X) f)
def QR (X : Cx) (e : Expr) (f : FE) : Prop := PE X e (tR (kx X) f)
def QA (X : Cx) (es : List Expr) (f : FA) : Prop := PA X es (tQA (kx X) f)
def QT (X : Cx) (e : Expr) (f : FT) : Prop := PT X e (tQT (kx X) f)
def QW (X : Cx) (e : Expr) (f : FT) : Prop := PW X e (tQT (kx X) f)
def QS (X : Cx) (st : Stmt) (f : FS) : Prop := PS X st (tQS (kx X) f)
def QSs (X : Cx) (sts : List Stmt) (f : FS) : Prop := PSs X sts (tQS (kx X) f)

section
variable {X : Cx}
theorem PE.imp {e : Expr} {t t' : TE} (h : PE X e t) (f : ∀ σ H Q, t' σ H Q → t σ H Q) : PE X e t' := ⟨fun pins s σ H Q I q => h.run pins s σ H Q I (f _ _ _ q)⟩
theorem PA.imp {es : List Expr} {t t' : TA} (h : PA X es t) (f : ∀ σ H Q, t' σ H Q → t σ H Q) : PA X es t' := ⟨fun pos pins s σ H Q I q => h.run pos pins s σ H Q I (f _ _ _ q)⟩
theorem PT.imp {e : Expr} {t t' : TT} (h : PT X e t) (f : ∀ σ H Q, t' σ H Q → t σ H Q) : PT X e t' := ⟨fun pins s σ H Q I q => h.run pins s σ H Q I (f _ _ _ q)⟩
theorem PW.imp {e : Expr} {t t' : TT} (h : PW X e t) (f : ∀ σ H Q, t' σ H Q → t σ H Q) : PW X e t' := ⟨fun wh pins s σ H Q I q => h.run wh pins s σ H Q I (f _ _ _ q)⟩
theorem PS.imp {e : Stmt} {t t' : TS} (h : PS X e t) (f : ∀ D σ H, t' D σ H → t D σ H) : PS X e t' := ⟨fun pins s σ H D I q => h.run pins s σ H D I (f _ _ _ q)⟩
theorem PSs.imp {e : List Stmt} {t t' : TS} (h : PSs X e t) (f : ∀ D σ H, t' D σ H → t D σ H) : PSs X e t' := ⟨fun pins s σ H D I q => h.run pins s σ H D I (f _ _ _ q)⟩

/-! ### atoms -/
def wC (x : PyData) : FE := fun _ Q => Q (.d x)
theorem t_c {v : V} {x : PyData} (hd : ∀ (K : PySem.W.Frag) (G : Hp), Dp K G v x) {K : Kx} {σ : L2.St} {H : Hp} {Q : VK} (h : tQ K (wC x) σ H Q) : tC v σ H Q := by
  obtain ⟨T, B, G, L, M, Q', rfl, h, hf, hk⟩ := h
  exact hk v G H (.d x) (h.data (hd _ _)) (.refl _ _) hf
theorem q_int {i j pos} : QE X (.Constant (.int i) j pos) (wC (.int i)) := PE.imp pe_int fun _ _ _ h => t_c (fun _ _ => .int i) h
theorem q_bl {b j pos} : QE X (.Constant (.bool b) j pos) (wC (.bool b)) := PE.imp pe_bl fun _ _ _ h => t_c (fun _ _ => .bl b) h
theorem q_non {j pos} : QE X (.Constant .none j pos) (wC .none) := PE.imp pe_non fun _ _ _ h => t_c (fun _ _ => .non) h
theorem q_str {x j pos} : QE X (.Constant (.str x) j pos) (wC (.str x)) := PE.imp pe_str fun _ _ _ h => t_c (fun _ _ => .str x) h
/-- a constant of the module that is data -/
theorem q_glob {x : Str} {v : V} {u : Value} {d : PyData} {pos : Pos} (hg : Gl X x) (hm : X.mg x = some u) (r : RelV v u) (hd : ∀ G, Dp X.K G v d) (hdb : (x == ("__debug__" : Str)) = false := by decide) : QE X (.Name x pos) (wC d) := by
  refine PE.imp (pe_glob hg hm r hdb) fun σ H Q h => ?_
  obtain ⟨T, B, G, L, M, Q', rfl, h, hf, hk⟩ := h
  exact hk v G H (.d d) (h.data (hd _)) (.refl _ _) hf
def wV (i : Nat) : FE := fun ρ Q => match ρ[i]? with
  | some (.d x) => Q (.d x)
  | some .tp => Q .tp
  | _ => False
theorem slot_at {L : List Sl} {i : Nat} {sv : SV} (h : (L.map Prod.fst)[i]? = some sv) : ∃ o, L[i]? = some (sv, o) ∧ (L.map Prod.snd)[i]? = some o := by
  rw [List.getElem?_map] at h ⊢
  cases e : L[i]? with
  | none => rw [e] at h; cases h
  | some p => rw [e] at h; cases h; exact ⟨p.2, rfl, rfl⟩
theorem q_var {e : Expr} (i : Nat) (h : PE X e (tVar i)) : QE X e (wV i) := by
  refine PE.imp h fun σ H Q h => ?_
  obtain ⟨T, B, G, L, M, Q', rfl, h, hf, hk⟩ := h
  cases e : (L.map Prod.fst)[i]? with
  | none => exact absurd hf (by unfold wV; rw [e]; exact id)
  | some sv =>
    obtain ⟨o, e1, e2⟩ := slot_at e
    have hp := h.ok (sv, o) (List.mem_append_right _ (List.mem_of_getElem? e1))
    cases sv with
    | d x =>
      cases o with
      | none => exact hp.elim
      | some v =>
        refine ⟨v, e2, hk v G H (.d x) (h.data hp) (.refl _ _) ?_⟩
        unfold wV at hf; rw [e] at hf; exact hf
    | tp =>
      cases o with
      | none => exact hp.elim
      | some v =>
        refine ⟨v, e2, hk v G H .tp (h.cons hp fun a e => by cases v <;> cases e) (.refl _ _) ?_⟩
        unfold wV at hf; rw [e] at hf; exact hf
    | no => unfold wV at hf; rw [e] at hf; exact hf.elim
    | own _ => unfold wV at hf; rw [e] at hf; exact hf.elim
    | dct _ => unfold wV at hf; rw [e] at hf; exact hf.elim
    | dcn _ => unfold wV at hf; rw [e] at hf; exact hf.elim
    | tpo _ _ => unfold wV at hf; rw [e] at hf; exact hf.elim
/-- a slot that is read where it stands -/
def wVR (i : Nat) : FE := fun ρ Q => match ρ[i]? with
  | some .no => False
  | some sv => Q sv
  | none => False
theorem r_var {e : Expr} (i : Nat) (h : PE X e (tVar i)) : QR X e (wVR i) := by
  refine PE.imp h fun σ H Q h => ?_
  obtain ⟨T, B, G, L, M, Q', rfl, h, hf, hk⟩ := h
  cases e : (L.map Prod.fst)[i]? with
  | none => exact absurd hf (by unfold wVR; rw [e]; exact id)
  | some sv =>
    obtain ⟨o, e1, e2⟩ := slot_at e
    have hm : (sv, o) ∈ M ++ L := List.mem_append_right _ (List.mem_of_getElem? e1)
    have hp := h.ok (sv, o) hm
    have hq : Q' sv := by
      unfold wVR at hf; rw [e] at hf
      cases sv <;> first | exact hf | exact hf.elim
    have ho : ∃ v, o = some v := by
      cases o with
      | none =>
        cases sv <;> first
          | exact hp.elim
          | (unfold wVR at hf; rw [e] at hf; exact hf.elim)
      | some v => exact ⟨v, rfl⟩
    obtain ⟨v, rfl⟩ := ho
    exact ⟨v, e2, hk v G H sv [] h hm (.refl _ _) hq⟩
theorem r_of {e : Expr} {f : FE} (h : QE X e f) : QR X e f := by
  refine PE.imp h fun σ H Q h => ?_
  obtain ⟨T, B, G, L, M, Q', rfl, h, hf, hk⟩ := h
  exact ⟨T, B, G, L, M, Q', rfl, h, hf, fun v G' H' sv h' w q => hk v G' H' sv [(sv, some v)] h' List.mem_cons_self w q⟩

/-! ### two places -/
abbrev G2 := SV → SV → (SV → Prop) → Prop
def Lift2 (K : Kx) (r : R2) (g : G2) : Prop := ∀ (T : Option Tape) (B G : Hp) (N : List Sl) (H : Hp) (x y : V) (sx sy : SV) (Q : VK) (Q' : SV → Prop),
  SR K T B G ((sy, some y) :: (sx, some x) :: N) H → g sx sy Q' → (∀ (v : V) (G' H' : Hp) (sv : SV), SR K T B G' ((sv, some v) :: N) H' → Gw B G G' → Q' sv → Q v H') → r x y H Q
def wOp (g : G2) (fa fb : FE) : FE := fun ρ Q => fa ρ fun x => fb ρ fun y => g x y Q
theorem t_op {K : Kx} {r : R2} {g : G2} {fa fb : FE} (hl : Lift2 K r g) {σ : L2.St} {H : Hp} {Q : VK} (h : tQ K (wOp g fa fb) σ H Q) : tOp r (tQ K fa) (tQ K fb) σ H Q := by
  obtain ⟨T, B, G, L, M, Q', rfl, h, hf, hk⟩ := h
  refine ⟨T, B, G, L, M, _, rfl, h, hf, fun x G1 H1 sx h1 w1 q1 => ?_⟩
  refine ⟨T, B, G1, L, (sx, some x) :: M, _, rfl, h1, q1, fun y G2 H2 sy h2 w2 q2 => ?_⟩
  exact hl T B G2 (M ++ L) H2 x y sx sy Q Q' h2 q2 fun v G' H' sv h3 w3 q3 => hk v G' H' sv h3 (w1.trans (w2.trans w3)) q3
variable {a b c : Expr} {fa fb fc : FE} {pos : Pos}
theorem q_op {op : Operator} {r : R2} {g : G2} (ho : OpR X (binaryOp op) r) (hl : Lift2 (kx X) r g) (ha : QE X a fa) (hb : QE X b fb) : QE X (.BinOp a op b pos) (wOp g fa fb) :=
  PE.imp (pe_op ho ha hb) fun _ _ _ h => t_op hl h
theorem q_cmp {op : CmpOp} {r : R2} {g : G2} (ho : OpR X (compareOp op) r) (hl : Lift2 (kx X) r g) (ha : QE X a fa) (hb : QE X b fb) (hm : behindInMarks op b = false := by first | exact nobehind _ (by decide) (by decide) | rfl) :
    QE X (.Compare a [op] [b] pos) (wOp g fa fb) :=
  PE.imp (pe_cmpR ho ha hb hm) fun _ _ _ h => t_op hl h
/-- what is read at its place: the operands may be a slot's own -/
def LiftR (K : Kx) (r : R2) (g : G2) : Prop := ∀ (T : Option Tape) (B G : Hp) (N : List Sl) (H : Hp) (x y : V) (sx sy : SV) (Q : VK) (Q' : SV → Prop),
  SR K T B G N H → (sx, some x) ∈ N → (sy, some y) ∈ N → g sx sy Q' → (∀ (v : V) (G' H' : Hp) (sv : SV), SR K T B G' ((sv, some v) :: N) H' → Gw B G G' → Q' sv → Q v H') → r x y H Q
theorem t_opR {K : Kx} {r : R2} {g : G2} {fa fb : FE} (hl : LiftR K r g) {σ : L2.St} {H : Hp} {Q : VK} (h : tQ K (wOp g fa fb) σ H Q) : tOp r (tR K fa) (tQ K fb) σ H Q := by
  obtain ⟨T, B, G, L, M, Q', rfl, h, hf, hk⟩ := h
  refine ⟨T, B, G, L, M, _, rfl, h, hf, fun x G1 H1 sx M' h1 m1 w1 q1 => ?_⟩
  refine ⟨T, B, G1, L, M' ++ M, _, rfl, by rw [List.append_assoc]; exact h1, q1, fun y G2 H2 sy h2 w2 q2 => ?_⟩
  rw [List.append_assoc] at h2
  refine hl T B G2 ((sy, some y) :: (M' ++ (M ++ L))) H2 x y sx sy Q Q' h2 (List.mem_cons_of_mem _ m1) List.mem_cons_self q2 fun v G' H' sv h3 w3 q3 => ?_
  refine hk v G' H' sv (h3.sub (.cons₂ _ (.cons _ (List.sublist_append_right M' _)))) (w1.trans (w2.trans w3)) q3
theorem q_ix {r : R2} {g : G2} (hr : IxR X r) (hl : LiftR (kx X) r g) (ha : QR X a fa) (hb : QE X b fb) (hs : PlainIx b := by intros; rfl) : QE X (.Subscript a b pos) (wOp g fa fb) :=
  PE.imp (pe_ix hr ha hb hs) fun _ _ _ h => t_opR hl h

/-! ### argument lists -/
def wNil : FA := fun _ Q => Q []
def wCons (fe : FE) (fr : FA) : FA := fun ρ Q => fe ρ fun x => fr ρ fun xs => Q (x :: xs)
theorem qa_nil : QA X [] wNil := by
  refine PA.imp pa_nil fun σ H Q h => ?_
  obtain ⟨T, B, G, L, M, Q', rfl, h, hf, hk⟩ := h
  exact hk [] [] G H rfl h (.refl _ _) hf
theorem qa_cons {e : Expr} {es : List Expr} {fe : FE} {fr : FA} (ha : QE X e fe) (hr : QA X es fr) (hs : starEach (e :: es) X.env = (false, eval e X.env) :: starEach es X.env := by rfl) : QA X (e :: es) (wCons fe fr) := by
  refine PA.imp (pa_cons ha hr hs) fun σ H Q h => ?_
  obtain ⟨T, B, G, L, M, Q', rfl, h, hf, hk⟩ := h
  refine ⟨T, B, G, L, M, _, rfl, h, hf, fun x G1 H1 sx h1 w1 q1 => ?_⟩
  refine ⟨T, B, G1, L, (sx, some x) :: M, _, rfl, h1, q1, fun A vs G2 H2 e2 h2 w2 q2 => ?_⟩
  refine hk ((sx, some x) :: A) (x :: vs) G2 H2 (by simp [e2]) (h2.perm ?_) (w1.trans w2) q2
  exact List.perm_middle
/-- *e among the arguments -/
def wStar (fe : FE) (fr : FA) : FA := fun ρ Q => fe ρ fun x => match asD x with
  | some (.tuple ds) => fr ρ fun xs => Q (ds.map SV.d ++ xs)
  | some (.list ds) => fr ρ fun xs => Q (ds.map SV.d ++ xs)
  | _ => False
theorem SR.datas : ∀ {vs : List V} {ds : List PyData} {K : Kx} {T : Option Tape} {B G H : Hp} {N : List Sl}, SR K T B G N H → DpAll K.K G vs ds → SR K T B G ((ds.map SV.d).zip (vs.map some) ++ N) H
  | [], ds, _, _, _, _, _, _, h, hd => by cases hd; exact h
  | v :: vs, ds, _, _, _, _, _, _, h, hd => by
    cases hd with
    | cons h1 h2 => exact (SR.datas h h2).data h1
theorem zip_fst {ds : List SV} : ∀ {vs : List (Option V)}, vs.length = ds.length → (ds.zip vs).map Prod.fst = ds := fun h => by rw [List.map_fst_zip]; omega
theorem zip_snd {ds : List SV} : ∀ {vs : List (Option V)}, vs.length = ds.length → (ds.zip vs).map Prod.snd = vs := fun h => by rw [List.map_snd_zip]; omega
theorem qa_star {e : Expr} {p : Pos} {es : List Expr} {fe : FE} {fr : FA} (ha : QE X e fe) (hr : QA X es fr) (hs : starEach (.Starred e p :: es) X.env = (true, eval e X.env) :: starEach es X.env := by rfl) : QA X (.Starred e p :: es) (wStar fe fr) := by
  refine PA.imp (StX.pa_star ha hr hs) fun σ H Q h => ?_
  obtain ⟨T, B, G, L, M, Q', rfl, h, hf, hk⟩ := h
  refine ⟨T, B, G, L, M, _, rfl, h, hf, fun x G1 H1 sx h1 w1 q1 => ?_⟩
  have fin : ∀ (ds : List PyData) (G1' : Hp) (zs : List V), SR (kx X) T B G1' (M ++ L) H1 → Gw B G G1' → DpAll X.K G1' zs ds → fr (L.map Prod.fst) (fun xs => Q' (ds.map SV.d ++ xs)) → tQA (kx X) fr (L.map Prod.snd) H1 (fun ys H2 => Q (zs ++ ys) H2) := by
    intro ds G1' zs h1 w1 hd q
    refine ⟨T, B, G1', L, M, _, rfl, h1, q, fun A vs G2 H2 e2 h2 w2 q2 => ?_⟩
    have hl : (zs.map some).length = (ds.map SV.d).length := by rw [List.length_map, List.length_map, dpAll_len hd]
    refine hk ((ds.map SV.d).zip (zs.map some) ++ A) (zs ++ vs) G2 H2 ?_ ?_ (w1.trans w2) ?_
    · rw [List.map_append, zip_snd hl, e2, List.map_append]
    · rw [List.append_assoc]; exact h2.datas (dpAll_mono w2.same _ _ hd)
    · rw [List.map_append, zip_fst hl]; exact q2
  cases q0 : asD sx with
  | none => simp only [q0] at q1
  | some d =>
    obtain ⟨G1', h1', w1'⟩ := SR.frzD h1 q0
    have hd := h1'.dp
    simp only [q0] at q1
    cases d with
    | tuple ds =>
      cases hd with
      | tup hs hd => exact ⟨_, _, rfl, .inl (same_tup h1'.gH hs), fin ds G1' _ h1'.tail (w1.trans w1') hd q1⟩
    | list ds =>
      cases hd with
      | lst hs hd => exact ⟨_, _, rfl, .inr (h1'.gH.seq hs), fin ds G1' _ h1'.tail (w1.trans w1') hd q1⟩
    | _ => exact q1.elim

/-! ### displays -/
def wTup (f : FA) : FE := fun ρ Q => f ρ fun svs => match asDs svs with
  | some ds => ds.length ≤ sizeLine ∧ Q (.d (.tuple ds))
  | none => False
theorem q_tup {es : List Expr} {f : FA} {x1} (h : QA X es f) : QE X (.Tuple es x1 pos) (wTup f) := by
  refine PE.imp (pe_tup h) fun σ H Q h => ?_
  obtain ⟨T, B, G, L, M, Q', rfl, h, hf, hk⟩ := h
  refine ⟨T, B, G, L, M, _, rfl, h, hf, fun A vs G1 H1 e1 h1 w1 q1 => ?_⟩
  cases q0 : asDs (A.map Prod.fst) with
  | none => simp only [q0] at q1
  | some ds =>
    simp only [q0] at q1
    obtain ⟨G2, h2, d2, w2⟩ := h1.frzAll e1 q0
    refine ⟨by rw [dpAll_len d2]; exact q1.1, fun p hp => ?_⟩
    obtain ⟨h3, w3⟩ := h2.newTup hp d2
    exact hk _ _ _ _ h3 (w1.trans (w2.trans w3)) q1.2
def wLst (f : FA) : FE := fun ρ Q => f ρ fun svs => match asDs svs with
  | some ds => ds.length ≤ sizeLine ∧ Q (.own ds)
  | none => False
theorem q_lst {es : List Expr} {f : FA} (h : QA X es f) : QE X (.List es pos) (wLst f) := by
  refine PE.imp (pe_lst h) fun σ H Q h => ?_
  obtain ⟨T, B, G, L, M, Q', rfl, h, hf, hk⟩ := h
  refine ⟨T, B, G, L, M, _, rfl, h, hf, fun A vs G1 H1 e1 h1 w1 q1 => ?_⟩
  cases q0 : asDs (A.map Prod.fst) with
  | none => simp only [q0] at q1
  | some ds =>
    simp only [q0] at q1
    obtain ⟨G2, h2, d2, w2⟩ := h1.frzAll e1 q0
    refine ⟨by rw [dpAll_len d2]; exact q1.1, fun p hp => ?_⟩
    exact hk _ _ _ _ (h2.newOwn hp d2) (w1.trans w2) q1.2

/-! ### tests -/
def wB (f : FE) : FT := fun ρ Q => f ρ fun sv => match sv with
  | .d (.bool b) => Q b
  | _ => False
theorem t_b {K : Kx} {f : FE} {σ : L2.St} {H : Hp} {Q : Bool → Hp → Prop} (h : tQT K (wB f) σ H Q) : tQ K f σ H (fun x H1 => ∃ c, x = .bl c ∧ Q c H1) := by
  obtain ⟨T, B, G, L, M, Q', rfl, h, hf, hk⟩ := h
  refine ⟨T, B, G, L, M, _, rfl, h, hf, fun v G1 H1 sv h1 w1 q1 => ?_⟩
  cases sv with
  | d x =>
    cases x with
    | bool b =>
      cases h1.dp
      exact ⟨b, rfl, hk b G1 H1 h1.tail w1 q1⟩
    | _ => exact q1.elim
  | _ => exact q1.elim
theorem qt_val {e : Expr} {f : FE} (h : QE X e f) (he : ∀ whole, isTrue e X.env whole = (do let v ← whole; standAt e.pos; holding [v] (truthy v)) := by intro _; rfl) : QT X e (wB f) :=
  PT.imp (pt_val h he) fun _ _ _ h => t_b h
theorem qt_cmp {op : CmpOp} {r : R2} {g : G2} (ho : OpR X (compareOp op) r) (hl : Lift2 (kx X) r g) (ha : QE X a fa) (hb : QE X b fb) (hm : behindInMarks op b = false := by first | exact nobehind _ (by decide) (by decide) | rfl) :
    QT X (.Compare a [op] [b] pos) (wB (wOp g fa fb)) := by
  refine PT.imp (pt_cmpR ho ha hb hm) fun σ H Q h => ?_
  exact t_op hl (t_b h)
def wAnd (fa fb : FT) : FT := fun ρ Q => fa ρ fun c => if c = true then fb ρ Q else Q false
def wOr (fa fb : FT) : FT := fun ρ Q => fa ρ fun c => if c = true then Q true else fb ρ Q
def wNot (fa : FT) : FT := fun ρ Q => fa ρ fun c => Q (!c)
variable {ga gb : FT} {rest : List Expr}
theorem qw_pt {e : Expr} {f : FT} (h : QW X e f) : QT X e f := PW.pt h
theorem qw_and1 (ha : QT X a ga) : QW X (.BoolOp .And [a] pos) ga := pw_and1 ha
theorem qw_or1 (ha : QT X a ga) : QW X (.BoolOp .Or [a] pos) ga := pw_or1 ha
theorem qw_and (ha : QT X a ga) (hb : QW X (.BoolOp .And (b :: rest) pos) gb) : QW X (.BoolOp .And (a :: b :: rest) pos) (wAnd ga gb) := by
  refine PW.imp (pw_and ha hb) fun σ H Q h => ?_
  obtain ⟨T, B, G, L, M, Q', rfl, h, hf, hk⟩ := h
  refine ⟨T, B, G, L, M, _, rfl, h, hf, fun c G1 H1 h1 w1 q1 => ?_⟩
  cases c with
  | true => exact ⟨T, B, G1, L, M, _, rfl, h1, q1, fun d G2 H2 h2 w2 q2 => hk d G2 H2 h2 (w1.trans w2) q2⟩
  | false => exact hk false G1 H1 h1 w1 q1
theorem qw_or (ha : QT X a ga) (hb : QW X (.BoolOp .Or (b :: rest) pos) gb) : QW X (.BoolOp .Or (a :: b :: rest) pos) (wOr ga gb) := by
  refine PW.imp (pw_or ha hb) fun σ H Q h => ?_
  obtain ⟨T, B, G, L, M, Q', rfl, h, hf, hk⟩ := h
  refine ⟨T, B, G, L, M, _, rfl, h, hf, fun c G1 H1 h1 w1 q1 => ?_⟩
  cases c with
  | false => exact ⟨T, B, G1, L, M, _, rfl, h1, q1, fun d G2 H2 h2 w2 q2 => hk d G2 H2 h2 (w1.trans w2) q2⟩
  | true => exact hk true G1 H1 h1 w1 q1
theorem qt_not (ha : QT X a ga) : QT X (.UnaryOp .Not a pos) (wNot ga) := by
  refine PT.imp (pt_not ha) fun σ H Q h => ?_
  obtain ⟨T, B, G, L, M, Q', rfl, h, hf, hk⟩ := h
  exact ⟨T, B, G, L, M, _, rfl, h, hf, fun c G1 H1 h1 w1 q1 => hk (!c) G1 H1 h1 w1 q1⟩
/-- .. as values: bools -/
def wAndV (fa fb : FE) : FE := fun ρ Q => fa ρ fun x => match x with
  | .d (.bool true) => fb ρ Q
  | .d (.bool false) => Q (.d (.bool false))
  | _ => False
def wOrV (fa fb : FE) : FE := fun ρ Q => fa ρ fun x => match x with
  | .d (.bool false) => fb ρ Q
  | .d (.bool true) => Q (.d (.bool true))
  | _ => False
def wNotV (fa : FE) : FE := fun ρ Q => fa ρ fun x => match x with
  | .d (.bool c) => Q (.d (.bool (!c)))
  | _ => False
theorem q_one {op} (h : QE X a fa) : QE X (.BoolOp op [a] pos) fa := pe_one h
theorem q_and (ha : QE X a fa) (hb : QE X (.BoolOp .And (b :: rest) pos) fb) : QE X (.BoolOp .And (a :: b :: rest) pos) (wAndV fa fb) := by
  refine PE.imp (pe_and ha hb) fun σ H Q h => ?_
  obtain ⟨T, B, G, L, M, Q', rfl, h, hf, hk⟩ := h
  refine ⟨T, B, G, L, M, _, rfl, h, hf, fun x G1 H1 sx h1 w1 q1 => ?_⟩
  cases sx with
  | d z =>
    cases z with
    | bool c =>
      cases h1.dp
      refine ⟨c, rfl, ?_⟩
      cases c with
      | true => exact ⟨T, B, G1, L, M, _, rfl, h1.tail, q1, fun d G2 H2 sv h2 w2 q2 => hk d G2 H2 sv h2 (w1.trans w2) q2⟩
      | false => exact hk _ G1 H1 _ h1 w1 q1
    | _ => exact q1.elim
  | _ => exact q1.elim
theorem q_or (ha : QE X a fa) (hb : QE X (.BoolOp .Or (b :: rest) pos) fb) : QE X (.BoolOp .Or (a :: b :: rest) pos) (wOrV fa fb) := by
  refine PE.imp (pe_or ha hb) fun σ H Q h => ?_
  obtain ⟨T, B, G, L, M, Q', rfl, h, hf, hk⟩ := h
  refine ⟨T, B, G, L, M, _, rfl, h, hf, fun x G1 H1 sx h1 w1 q1 => ?_⟩
  cases sx with
  | d z =>
    cases z with
    | bool c =>
      cases h1.dp
      refine ⟨c, rfl, ?_⟩
      cases c with
      | false => exact ⟨T, B, G1, L, M, _, rfl, h1.tail, q1, fun d G2 H2 sv h2 w2 q2 => hk d G2 H2 sv h2 (w1.trans w2) q2⟩
      | true => exact hk _ G1 H1 _ h1 w1 q1
    | _ => exact q1.elim
  | _ => exact q1.elim
theorem q_not (ha : QE X a fa) : QE X (.UnaryOp .Not a pos) (wNotV fa) := by
  refine PE.imp (pe_not ha) fun σ H Q h => ?_
  obtain ⟨T, B, G, L, M, Q', rfl, h, hf, hk⟩ := h
  refine ⟨T, B, G, L, M, _, rfl, h, hf, fun x G1 H1 sx h1 w1 q1 => ?_⟩
  cases sx with
  | d z =>
    cases z with
    | bool c =>
      cases h1.dp
      exact ⟨c, rfl, hk _ G1 H1 _ (h1.tail.data (.bl _)) w1 q1⟩
    | _ => exact q1.elim
  | _ => exact q1.elim
def wIf (t : FT) (fa fb : FE) : FE := fun ρ Q => t ρ fun c => if c = true then fa ρ Q else fb ρ Q
theorem q_if {c : Expr} (hc : QT X c ga) (ha : QE X a fa) (hb : QE X b fb) : QE X (.IfExp c a b pos) (wIf ga fa fb) := by
  refine PE.imp (pe_ifExp hc ha hb) fun σ H Q h => ?_
  obtain ⟨T, B, G, L, M, Q', rfl, h, hf, hk⟩ := h
  refine ⟨T, B, G, L, M, _, rfl, h, hf, fun c G1 H1 h1 w1 q1 => ?_⟩
  cases c with
  | true => exact ⟨T, B, G1, L, M, _, rfl, h1, q1, fun d G2 H2 sv h2 w2 q2 => hk d G2 H2 sv h2 (w1.trans w2) q2⟩
  | false => exact ⟨T, B, G1, L, M, _, rfl, h1, q1, fun d G2 H2 sv h2 w2 q2 => hk d G2 H2 sv h2 (w1.trans w2) q2⟩
end

theorem set_same {α : Type} : ∀ {l : List α} {i : Nat} {x : α}, l[i]? = some x → l.set i x = l
  | [], _, _, h => by simp at h
  | y :: l, 0, x, h => by simp at h; rw [h]; rfl
  | y :: l, i + 1, x, h => by
    show y :: l.set i x = y :: l
    rw [set_same (by simpa using h)]
/-! ### statements -/
section
variable {X : Cx} {st : Stmt} {rest : List Stmt} {f g : FS} {e : Expr} {fe : FE} {pos : Pos}
theorem EndR.mono {K : Kx} {T : Option Tape} {B G G1 : Hp} {n : Nat} {E : FEnds} {D : Ends} (h : EndR K T B G n E D) (w : Gw B G G1) : EndR K T B G1 n E D :=
  ⟨fun L G' H' s w' => h.nx L G' H' s (w.trans w'), fun v sv L G' H' s w' => h.rt v sv L G' H' s (w.trans w'), fun L G' H' s w' => h.bk L G' H' s (w.trans w'), fun L G' H' s w' => h.ct L G' H' s (w.trans w')⟩
def wNext : FS := fun E ρ => E.nx ρ
def wSeq (f g : FS) : FS := fun E ρ => f { E with nx := g E } ρ
theorem qs_nil : QSs X [] wNext := by
  refine PSs.imp pss_nil fun D σ H h => ?_
  obtain ⟨T, B, G, L, E, rfl, h, hf, hk⟩ := h
  exact hk.nx L G H h (.refl _ _) rfl hf
theorem qs_cons (h1 : QS X st f) (h2 : QSs X rest g) : QSs X (st :: rest) (wSeq f g) := by
  refine PSs.imp (pss_cons h1 h2) fun D σ H h => ?_
  obtain ⟨T, B, G, L, E, rfl, h, hf, hk⟩ := h
  refine ⟨T, B, G, L, { E with nx := g E }, rfl, h, hf, fun L1 G1 H1 s w1 l1 q1 => ?_, fun v sv L' G' H' s w' l' q => hk.rt v sv L' G' H' s w' l' q, fun L' G' H' s w' l' q => hk.bk L' G' H' s w' l' q, fun L' G' H' s w' l' q => hk.ct L' G' H' s w' l' q⟩
  exact ⟨T, B, G1, L1, E, rfl, s, q1, by rw [l1]; exact hk.mono w1⟩
theorem qs_one (h1 : QS X st f) : QSs X [st] f := pss_one h1
theorem q_pass : QS X (.Pass pos) wNext := by
  refine PS.imp ps_pass fun D σ H h => ?_
  obtain ⟨T, B, G, L, E, rfl, h, hf, hk⟩ := h
  exact hk.nx L G H h (.refl _ _) rfl hf
def wDrop (fe : FE) : FS := fun E ρ => fe ρ fun _ => E.nx ρ
theorem q_expr (he : QE X e fe) (hs : swapsWith e none pos.line X.env = pure false := by rfl) : QS X (.Expr e pos) (wDrop fe) := by
  refine PS.imp (ps_expr he hs) fun D σ H h => ?_
  obtain ⟨T, B, G, L, E, rfl, h, hf, hk⟩ := h
  exact ⟨T, B, G, L, [], _, rfl, h, hf, fun v G1 H1 sv h1 w1 q1 => hk.nx L G1 H1 h1.tail w1 rfl q1⟩
def wRet (fe : FE) : FS := fun E ρ => fe ρ fun sv => E.rt sv ρ
theorem q_ret (he : QE X e fe) : QS X (.Return (some e) pos) (wRet fe) := by
  refine PS.imp (ps_ret he) fun D σ H h => ?_
  obtain ⟨T, B, G, L, E, rfl, h, hf, hk⟩ := h
  exact ⟨T, B, G, L, [], _, rfl, h, hf, fun v G1 H1 sv h1 w1 q1 => hk.rt v sv L G1 H1 h1 w1 rfl q1⟩
/-- return x, x a slot's own: it goes out -/
def wRetO (i : Nat) : FS := fun E ρ => match ρ[i]? with
  | some .no => False
  | some sv => E.rt sv (ρ.set i .no)
  | none => False
theorem q_retO (i : Nat) (he : PE X e (tVar i)) : QS X (.Return (some e) pos) (wRetO i) := by
  refine PS.imp (ps_ret he) fun D σ H h => ?_
  obtain ⟨T, B, G, L, E, rfl, h, hf, hk⟩ := h
  cases e : (L.map Prod.fst)[i]? with
  | none => exact absurd hf (by unfold wRetO; rw [e]; exact id)
  | some sv =>
    obtain ⟨o, e1, e2⟩ := slot_at e
    have hi : i < L.length := (List.getElem?_eq_some_iff.mp e1).1
    have hp := h.ok (sv, o) (List.mem_of_getElem? e1)
    have hq : E.rt sv ((L.map Prod.fst).set i .no) := by
      unfold wRetO at hf; rw [e] at hf
      cases sv <;> first | exact hf | exact hf.elim
    have ho : ∃ v, o = some v := by
      cases o with
      | none =>
        cases sv <;> first
          | exact hp.elim
          | (unfold wRetO at hf; rw [e] at hf; exact hf.elim)
      | some v => exact ⟨v, rfl⟩
    obtain ⟨v, rfl⟩ := ho
    refine ⟨v, e2, ?_⟩
    have h1 : SR (kx X) T B G ((sv, some v) :: L.set i (.no, some v)) H := by
      have f := h.front (M := []) e1
      have f2 : SR (kx X) T B G ((.no, some v) :: (sv, some v) :: L.eraseIdx i) H := f.cons trivial fun a e => by cases e
      exact f2.perm (.trans (.swap _ _ _) ((set_perm L i _ hi).symm.cons _))
    refine hk.rt v sv (L.set i (.no, some v)) G H h1 (.refl _ _) (List.length_set ..) ?_
    rw [List.map_set]
    exact hq
def wIfS (c : FT) (f g : FS) : FS := fun E ρ => c ρ fun b => if b = true then f E ρ else g E ρ
theorem q_ifS {c : Expr} {fc : FT} {p q : List Stmt} (hc : QT X c fc) (ha : QSs X p f) (hb : QSs X q g) : QS X (.If c p q pos) (wIfS fc f g) := by
  refine PS.imp (ps_if hc ha hb) fun D σ H h => ?_
  obtain ⟨T, B, G, L, E, rfl, h, hf, hk⟩ := h
  refine ⟨T, B, G, L, [], _, rfl, h, hf, fun b G1 H1 h1 w1 q1 => ?_⟩
  cases b with
  | true => exact ⟨T, B, G1, L, E, rfl, h1, q1, hk.mono w1⟩
  | false => exact ⟨T, B, G1, L, E, rfl, h1, q1, hk.mono w1⟩
/-- a name's slot: what is made is kept as it is, or comes to rest -/
def wSet (i : Nat) (fe : FE) : FS := fun E ρ => fe ρ fun sv => E.nx (ρ.set i sv)
def wSetD (i : Nat) (fe : FE) : FS := fun E ρ => fe ρ fun sv => match asD sv with
  | some x => E.nx (ρ.set i (.d x))
  | none => False
theorem set_out {D : Ends} {E : FEnds} {K : Kx} {T : Option Tape} {B G G1 H1 : Hp} {L : List Sl} {i : Nat} {sv : SV} {v : V} (hk : EndR K T B G L.length E D) (hi : i < L.length) (h1 : SR K T B G1 ((sv, some v) :: L) H1) (w1 : Gw B G G1)
    (q : E.nx ((L.map Prod.fst).set i sv)) : D.nx ((L.map Prod.snd).set i (some v)) H1 := by
  have := hk.nx (L.set i (sv, some v)) G1 H1 (h1.put (M := []) hi) w1 (List.length_set ..) (by rw [List.map_set]; exact q)
  rw [List.map_set] at this
  exact this
variable {x : Str} {i : Nat} {pos' : Pos}
theorem q_set (hn : i < X.N.length) (h : PS X st (tAsg (tQ (kx X) fe) (gName i))) : QS X st (wSet i fe) := by
  refine ⟨fun pins s σ H D I hw => ?_⟩
  refine h.run pins s σ H D I ?_
  obtain ⟨T, B, G, L, E, rfl, h, hf, hk⟩ := hw
  have hl : i < L.length := by have := I.len; rw [List.length_map] at this; omega
  exact ⟨T, B, G, L, [], _, rfl, h, hf, fun v G1 H1 sv h1 w1 q1 => set_out hk hl h1 w1 q1⟩
theorem q_setD (hn : i < X.N.length) (h : PS X st (tAsg (tQ (kx X) fe) (gName i))) : QS X st (wSetD i fe) := by
  refine ⟨fun pins s σ H D I hw => ?_⟩
  refine h.run pins s σ H D I ?_
  obtain ⟨T, B, G, L, E, rfl, h, hf, hk⟩ := hw
  have hl : i < L.length := by have := I.len; rw [List.length_map] at this; omega
  refine ⟨T, B, G, L, [], _, rfl, h, hf, fun v G1 H1 sv h1 w1 q1 => ?_⟩
  cases q0 : asD sv with
  | none => simp only [q0] at q1
  | some x =>
    simp only [q0] at q1
    obtain ⟨G2, h2, w2⟩ := SR.frzD h1 q0
    exact set_out hk hl h2 (w1.trans w2) q1
/-- a slot's own list comes to rest, ahead of a statement -/
def wFrz (i : Nat) (f : FS) : FS := fun E ρ => match ρ[i]? with
  | some (.own xs) => f E (ρ.set i (.d (.list xs)))
  | _ => False
theorem q_frz (i : Nat) (h : QS X st f) : QS X st (wFrz i f) := by
  refine PS.imp h fun D σ H h => ?_
  obtain ⟨T, B, G, L, E, rfl, h, hf, hk⟩ := h
  cases e : (L.map Prod.fst)[i]? with
  | none => exact absurd hf (by unfold wFrz; rw [e]; exact id)
  | some sv =>
    obtain ⟨o, e1, e2⟩ := slot_at e
    have hi : i < L.length := (List.getElem?_eq_some_iff.mp e1).1
    unfold wFrz at hf; rw [e] at hf
    cases sv with
    | own xs =>
      have hp := h.ok (.own xs, o) (List.mem_of_getElem? e1)
      cases o with
      | none => exact hp.elim
      | some v =>
        obtain ⟨G1, h1, w1⟩ := (h.front (M := []) e1).frz
        have h2 : SR (kx X) T B G1 ([] ++ L.set i (.d (.list xs), some v)) H := h1.back hi
        refine ⟨T, B, G1, L.set i (.d (.list xs), some v), E, ?_, h2, by rw [List.map_set]; exact hf, by rw [List.length_set]; exact hk.mono w1⟩
        rw [List.map_set, set_same e2]
    | _ => exact hf.elim
end
end Z

/-! loops, comprehensions, calls, a def's promise over data -/
namespace Z
open PySem PySem.Spec PyProof.Rows L2

/-! ### targets -/
def tQG (K : Kx) (ws : List Nat) (f : FG) : TG := fun x σ H Qg => ∃ (T : Option Tape) (B G : Hp) (L M : List Sl) (sv : SV) (Q' : List SV → Prop), σ = L.map Prod.snd ∧ SR K T B G ((sv, some x) :: (M ++ L)) H ∧ f sv (L.map Prod.fst) Q' ∧
  ∀ (L' : List Sl) (G' H' : Hp), SR K T B G' (M ++ L') H' → Gw B G G' → L'.length = L.length → (∀ k, k ∉ ws → L'[k]? = L[k]?) → Q' (L'.map Prod.fst) → Qg (L'.map Prod.snd) H'
def QG (X : Cx) (tg : Expr) (ws : List Nat) (f : FG) : Prop := PG X tg (tQG (kx X) ws f)
abbrev FGs := List PyData → List SV → (List SV → Prop) → Prop
def tQGs (K : Kx) (ws : List Nat) (f : FGs) : TGs := fun xs σ H Qg => ∃ (T : Option Tape) (B G : Hp) (L M : List Sl) (ds : List PyData) (Q' : List SV → Prop), σ = L.map Prod.snd ∧ SR K T B G (M ++ L) H ∧ DpAll K.K G xs ds ∧ f ds (L.map Prod.fst) Q' ∧
  ∀ (L' : List Sl) (G' H' : Hp), SR K T B G' (M ++ L') H' → Gw B G G' → L'.length = L.length → (∀ k, k ∉ ws → L'[k]? = L[k]?) → Q' (L'.map Prod.fst) → Qg (L'.map Prod.snd) H'
def QGs (X : Cx) (tgs : List Expr) (ws : List Nat) (f : FGs) : Prop := PGs X tgs (tQGs (kx X) ws f)
section
variable {X : Cx}
theorem PG.imp {e : Expr} {t t' : TG} (h : PG X e t) (f : ∀ v σ H Q, t' v σ H Q → t v σ H Q) : PG X e t' := ⟨fun pins s σ H v u Q I r q => h.run pins s σ H v u Q I r (f _ _ _ _ q)⟩
theorem PGs.imp {e : List Expr} {t t' : TGs} (h : PGs X e t) (f : ∀ v σ H Q, t' v σ H Q → t v σ H Q) : PGs X e t' := ⟨fun pins s σ H v u Q I r q => h.run pins s σ H v u Q I r (f _ _ _ _ q)⟩
def wG (i : Nat) : FG := fun sv ρ Q => match asD sv with
  | some x => Q (ρ.set i (.d x))
  | none => False
theorem qg_name {e : Expr} {i : Nat} (hn : i < X.N.length) (h : PG X e (gName i)) : QG X e [i] (wG i) := by
  refine ⟨fun pins s σ H v u Q I r hw => h.run pins s σ H v u Q I r ?_⟩
  obtain ⟨T, B, G, L, M, sv, Q', rfl, h, hf, hk⟩ := hw
  have hl : i < L.length := by have := I.len; rw [List.length_map] at this; omega
  unfold wG at hf
  cases q0 : asD sv with
  | none => simp only [q0] at hf
  | some x =>
    simp only [q0] at hf
    obtain ⟨G2, h2, w2⟩ := SR.frzD h q0
    have := hk (L.set i (.d x, some v)) G2 H (h2.put hl) w2 (List.length_set ..) (fun k hk => List.getElem?_set_ne (fun z => hk (by simp [z]))) (by rw [List.map_set]; exact hf)
    rw [List.map_set] at this
    exact this
def wGnil : FGs := fun ds ρ Q => ds = [] ∧ Q ρ
def wGcons (f : FG) (g : FGs) : FGs := fun ds ρ Q => match ds with
  | x :: xs => f (.d x) ρ fun ρ' => g xs ρ' Q
  | [] => False
theorem qgs_nil {ws : List Nat} : QGs X [] ws wGnil := by
  refine PGs.imp pgs_nil fun xs σ H Q h => ?_
  obtain ⟨T, B, G, L, M, ds, Q', rfl, h, hd, ⟨rfl, hf⟩, hk⟩ := h
  cases hd
  exact ⟨rfl, hk L G H h (.refl _ _) rfl (fun _ _ => rfl) hf⟩
theorem qgs_cons {e : Expr} {es : List Expr} {ws ws' : List Nat} {f : FG} {g : FGs} (h1 : QG X e ws f) (h2 : QGs X es ws' g)
    (hs : (assignEach (e :: es) X.env).map (·.2) = assign e X.env :: (assignEach es X.env).map (·.2) := by rfl) : QGs X (e :: es) (ws ++ ws') (wGcons f g) := by
  refine PGs.imp (pgs_cons h1 h2 hs) fun xs σ H Q h => ?_
  obtain ⟨T, B, G, L, M, ds, Q', rfl, h, hd, hf, hk⟩ := h
  cases ds with
  | nil => exact hf.elim
  | cons d ds =>
    cases hd with
    | @cons v vs _ _ hd1 hd2 =>
      refine ⟨v, vs, rfl, T, B, G, L, M, _, _, rfl, h.data hd1, hf, fun L1 G1 H1 s1 w1 l1 k1 q1 => ?_⟩
      exact ⟨T, B, G1, L1, M, ds, Q', rfl, s1, dpAll_mono w1.same _ _ hd2, q1, fun L2 G2 H2 s2 w2 l2 k2 q2 => hk L2 G2 H2 s2 (w1.trans w2) (l2.trans l1) (fun k hk => (k2 k fun z => hk (List.mem_append_right _ z)).trans (k1 k fun z => hk (List.mem_append_left _ z))) q2⟩
def wGtup (n : Nat) (g : FGs) : FG := fun sv ρ Q => match sv with
  | .d (.tuple ds) => ds.length = n ∧ g ds ρ Q
  | _ => False
theorem qg_tup {es : List Expr} {k : Nat} {pos : Pos} {n : Nat} {ws : List Nat} {g : FGs} (hc : X.calm = true) (h : QGs X es ws g)
    (hn : (assignEach es X.env).length = n := by rfl) (hst : (assignEach es X.env).findIdx? (·.1) = none := by rfl) : QG X (.Tuple es k pos) ws (wGtup n g) := by
  refine PG.imp (pg_tup hc h hn hst) fun v σ H Q h => ?_
  obtain ⟨T, B, G, L, M, sv, Q', rfl, h, hf, hk⟩ := h
  cases sv with
  | d x =>
    cases x with
    | tuple ds =>
      cases h.dp with
      | tup hs hd => exact ⟨_, _, rfl, same_tup h.gH hs, by rw [dpAll_len hd]; exact hf.1, T, B, G, L, M, ds, Q', rfl, h.tail, hd, hf.2, hk⟩
    | _ => exact hf.elim
  | _ => exact hf.elim
/-- target = value -/
def wAsg (fe : FE) (g : FG) : FS := fun E ρ => fe ρ fun sv => g sv ρ E.nx
theorem q_asg {tg e : Expr} {fe : FE} {g : FG} {ws : List Nat} {pos : Pos} (he : QE X e fe) (hg : QG X tg ws g) (hs : swapsWithSole [tg] e pos.line X.env = pure false := by rfl) (hw : swappedStores [tg] e X.env = pure none := by rfl)
    (h1 : (assignEach [tg] X.env).map (·.2) = [assign tg X.env] := by rfl) : QS X (.Assign [tg] e pos) (wAsg fe g) := by
  refine PS.imp (ps_asg he hg hs hw h1) fun D σ H h => ?_
  obtain ⟨T, B, G, L, E, rfl, h, hf, hk⟩ := h
  refine ⟨T, B, G, L, [], _, rfl, h, hf, fun v G1 H1 sv h1 w1 q1 => ?_⟩
  exact ⟨T, B, G1, L, [], sv, E.nx, rfl, h1, q1, fun L' G' H' s w l _ q => hk.nx L' G' H' s (w1.trans w) l q⟩
/-- a, b = x, y by stores -/
def wPar (i j : Nat) (f : FA) : FS := fun E ρ => f ρ fun svs => match svs with
  | [x, y] => E.nx ((ρ.set i x).set j y)
  | _ => False
theorem q_par {st : Stmt} {i j : Nat} {f : FA} (hi : i < X.N.length) (hj : j < X.N.length) (h : PS X st (tPar i j (tQA (kx X) f))) : QS X st (wPar i j f) := by
  refine ⟨fun pins s σ H D I hw => h.run pins s σ H D I ?_⟩
  obtain ⟨T, B, G, L, E, rfl, h, hf, hk⟩ := hw
  have ll : L.length = X.N.length := by have := I.len; rw [List.length_map] at this; exact this
  refine ⟨T, B, G, L, [], _, rfl, h, hf, fun A vs G1 H1 e1 h1 w1 q1 => ?_⟩
  match A, vs, e1, q1 with
  | [(x, _), (y, _)], [v, w], e1, q1 =>
    injection e1 with e1 e2
    injection e2 with e2 _
    have e1' : _ = some v := e1
    have e2' : _ = some w := e2
    subst e1'
    subst e2'
    refine ⟨v, w, rfl, ?_⟩
    have s1 : SR (kx X) T B G1 ((y, some w) :: L.set i (x, some v)) H1 := SR.put (M := [(y, some w)]) h1 (by omega)
    have s2 := SR.put (M := []) (i := j) s1 (by rw [List.length_set]; omega)
    have := hk.nx ((L.set i (x, some v)).set j (y, some w)) G1 H1 s2 w1 (by rw [List.length_set, List.length_set]) (by rw [List.map_set, List.map_set]; exact q1)
    rw [List.map_set, List.map_set] at this
    exact this
  | [], _, _, q1 => exact q1.elim
  | [_], _, _, q1 => exact q1.elim
  | _ :: _ :: _ :: _, _, _, q1 => exact q1.elim
  | [_, _], [], e1, _ => exact absurd (congrArg List.length e1) (by simp)
  | [_, _], [_], e1, _ => exact absurd (congrArg List.length e1) (by simp)
  | [_, _], _ :: _ :: _ :: _, e1, _ => exact absurd (congrArg List.length e1) (by simp)
def wPar3 (i j l : Nat) (f : FA) : FS := fun E ρ => f ρ fun svs => match svs with
  | [x, y, z] => E.nx (((ρ.set i x).set j y).set l z)
  | _ => False
theorem q_par3 {st : Stmt} {i j l : Nat} {f : FA} (hi : i < X.N.length) (hj : j < X.N.length) (hl : l < X.N.length) (h : PS X st (tPar3 i j l (tQA (kx X) f))) : QS X st (wPar3 i j l f) := by
  refine ⟨fun pins s σ H D I hw => h.run pins s σ H D I ?_⟩
  obtain ⟨T, B, G, L, E, rfl, h, hf, hk⟩ := hw
  have ll : L.length = X.N.length := by have := I.len; rw [List.length_map] at this; exact this
  refine ⟨T, B, G, L, [], _, rfl, h, hf, fun A vs G1 H1 e1 h1 w1 q1 => ?_⟩
  match A, vs, e1, q1 with
  | [(x, _), (y, _), (z, _)], [v, w, u], e1, q1 =>
    injection e1 with e1 e2
    injection e2 with e2 e3
    injection e3 with e3 _
    have e1' : _ = some v := e1
    have e2' : _ = some w := e2
    have e3' : _ = some u := e3
    subst e1'
    subst e2'
    subst e3'
    refine ⟨v, w, u, rfl, ?_⟩
    have s1 : SR (kx X) T B G1 ([(y, some w), (z, some u)] ++ L.set i (x, some v)) H1 := SR.put (M := [(y, some w), (z, some u)]) h1 (by omega)
    have s2 : SR (kx X) T B G1 ([(z, some u)] ++ (L.set i (x, some v)).set j (y, some w)) H1 := SR.put (M := [(z, some u)]) s1 (by rw [List.length_set]; omega)
    have s3 := SR.put (M := []) (i := l) s2 (by rw [List.length_set, List.length_set]; omega)
    have := hk.nx (((L.set i (x, some v)).set j (y, some w)).set l (z, some u)) G1 H1 s3 w1 (by rw [List.length_set, List.length_set, List.length_set]) (by rw [List.map_set, List.map_set, List.map_set]; exact q1)
    rw [List.map_set, List.map_set, List.map_set] at this
    exact this
  | [], _, _, q1 => exact q1.elim
  | [_], _, _, q1 => exact q1.elim
  | [_, _], _, _, q1 => exact q1.elim
  | _ :: _ :: _ :: _ :: _, _, _, q1 => exact q1.elim
  | [_, _, _], [], e1, _ => exact absurd (congrArg List.length e1) (by simp)
  | [_, _, _], [_], e1, _ => exact absurd (congrArg List.length e1) (by simp)
  | [_, _, _], [_, _], e1, _ => exact absurd (congrArg List.length e1) (by simp)
  | [_, _, _], _ :: _ :: _ :: _ :: _, e1, _ => exact absurd (congrArg List.length e1) (by simp)
end

/-! ### what is walked -/
structure ItOk (K : Kx) (J : It) (G0 : Hp) (items : List PyData) : Prop where
  go : ∀ i H, Same G0 H → i < items.length → J.go i H
  stop : ∀ i H, Same G0 H → items.length ≤ i → J.stop i H
  yld : ∀ (i : Nat) (H : Hp) (x : V) (H' : Hp) (y : PyData), Same G0 H → items[i]? = some y → J.yld i H x H' → ∀ (T : Option Tape) (B G : Hp) (L : List Sl), SR K T B G L H → Same G0 G → ∃ G', SR K T B G' ((.d y, some x) :: L) H' ∧ Gw B G G'
def tQI (K : Kx) (f : FI) : TI := fun σ H R => ∃ (T : Option Tape) (B G : Hp) (L M : List Sl) (Q' : List PyData → Prop), σ = L.map Prod.snd ∧ SR K T B G (M ++ L) H ∧ f (L.map Prod.fst) Q' ∧
  ∀ (items : List PyData) (G' H' : Hp) (J : It), SR K T B G' (M ++ L) H' → Gw B G G' → ItOk K J G' items → Q' items → R J H'
def QI (X : Cx) (tg iter : Expr) (f : FI) : Prop := PI X tg iter (tQI (kx X) f)
section
variable {X : Cx}
theorem PI.imp {tg e : Expr} {t t' : TI} (h : PI X tg e t) (f : ∀ σ H R, t' σ H R → t σ H R) : PI X tg e t' := ⟨fun pins s σ H R I q => h.run pins s σ H R I (f _ _ _ q)⟩
theorem it_list {K : Kx} {G : Hp} {a : Addr} {vs : List V} {ds : List PyData} (hs : SqL K.K G a vs) (hd : DpAll K.K G vs ds) : ItOk K (Itl K.K a) G ds where
  go := fun i H s hi => by
    rw [← dpAll_len hd] at hi
    exact ⟨vs, vs[i], s.seq hs, by simp [hi]⟩
  stop := fun i H s hi => ⟨vs, s.seq hs, by rw [dpAll_len hd]; exact hi⟩
  yld := fun i H x H' y s hy hj T B G1 L h sg => by
    obtain ⟨rfl, hx⟩ := hj
    obtain ⟨v, e, hv⟩ := dpAll_get' hd hy
    have := hx vs (s.seq hs)
    rw [e] at this
    cases this
    exact ⟨G1, h.data (dp_mono sg _ _ hv), .refl _ _⟩
theorem it_tup {K : Kx} {G : Hp} {a : Addr} {vs : List V} {ds : List PyData} (hs : SqT K.K G a vs) (hd : DpAll K.K G vs ds) : ItOk K (Itt K.K a) G ds where
  go := fun i H s hi => by
    rw [← dpAll_len hd] at hi
    exact ⟨vs, vs[i], same_tup s hs, by simp [hi]⟩
  stop := fun i H s hi => ⟨vs, same_tup s hs, by rw [dpAll_len hd]; exact hi⟩
  yld := fun i H x H' y s hy hj T B G1 L h sg => by
    obtain ⟨rfl, hx⟩ := hj
    obtain ⟨v, e, hv⟩ := dpAll_get' hd hy
    have := hx vs (same_tup s hs)
    rw [e] at this
    cases this
    exact ⟨G1, h.data (dp_mono sg _ _ hv), .refl _ _⟩
/-- a list; a tuple -/
def wIL (fe : FE) : FI := fun ρ Q => fe ρ fun sv => match asD sv with
  | some (.list ds) => Q ds
  | _ => False
def wIT (fe : FE) : FI := fun ρ Q => fe ρ fun sv => match asD sv with
  | some (.tuple ds) => Q ds
  | _ => False
theorem qi_list {tg l : Expr} {fe : FE} (hl : QE X l fe) : QI X tg l (wIL fe) := by
  refine PI.imp (pi_list hl) fun σ H R h => ?_
  obtain ⟨T, B, G, L, M, Q', rfl, h, hf, hk⟩ := h
  refine ⟨T, B, G, L, M, _, rfl, h, hf, fun v G1 H1 sv h1 w1 q1 => ?_⟩
  cases q0 : asD sv with
  | none => simp only [q0] at q1
  | some x =>
    simp only [q0] at q1
    obtain ⟨G2, h2, w2⟩ := SR.frzD h1 q0
    cases x with
    | list ds =>
      cases h2.dp with
      | lst hs hd => exact ⟨_, rfl, ⟨_, h2.gH.seq hs⟩, hk ds G2 H1 _ h2.tail (w1.trans w2) (it_list hs hd) q1⟩
    | _ => exact q1.elim
theorem qi_tup {tg l : Expr} {fe : FE} (hl : QE X l fe) : QI X tg l (wIT fe) := by
  refine PI.imp (pi_tup hl) fun σ H R h => ?_
  obtain ⟨T, B, G, L, M, Q', rfl, h, hf, hk⟩ := h
  refine ⟨T, B, G, L, M, _, rfl, h, hf, fun v G1 H1 sv h1 w1 q1 => ?_⟩
  cases q0 : asD sv with
  | none => simp only [q0] at q1
  | some x =>
    simp only [q0] at q1
    obtain ⟨G2, h2, w2⟩ := SR.frzD h1 q0
    cases x with
    | tuple ds =>
      cases h2.dp with
      | tup hs hd => exact ⟨_, rfl, ⟨_, same_tup h2.gH hs⟩, hk ds G2 H1 _ h2.tail (w1.trans w2) (it_tup hs hd) q1⟩
    | _ => exact q1.elim
/-- range -/
def rngD (lo : Int) (n : Nat) : List PyData := (List.range n).map fun i => .int (lo + (i : Nat))
theorem rngD_len (lo : Int) (n : Nat) : (rngD lo n).length = n := by simp [rngD]
theorem rngD_get {lo : Int} {n i : Nat} {y : PyData} (h : (rngD lo n)[i]? = some y) : y = .int (lo + (i : Nat)) := by
  simp only [rngD, List.getElem?_map] at h
  cases e : (List.range n)[i]? with
  | none => rw [e] at h; cases h
  | some j =>
    rw [e] at h
    have := List.getElem?_eq_some_iff.mp e
    obtain ⟨h1, h2⟩ := this
    simp at h2
    subst h2
    cases h
    rfl
theorem it_rng (K : Kx) (G : Hp) (lo : Int) (n : Nat) : ItOk K (Itr lo n) G (rngD lo n) where
  go := fun i H s hi => by rw [rngD_len] at hi; exact hi
  stop := fun i H s hi => by rw [rngD_len] at hi; exact hi
  yld := fun i H x H' y s hy hj T B G1 L h sg => by
    obtain ⟨rfl, rfl⟩ := hj
    rw [rngD_get hy]
    exact ⟨G1, h.data (.int _), .refl _ _⟩
def wIR1 (fa : FA) : FI := fun ρ Q => fa ρ fun svs => match svs with
  | [.d (.int j)] => (-(2 ^ 62) ≤ j ∧ j < 2 ^ 62) ∧ Q (rngD 0 j.toNat)
  | _ => False
def wIR2 (fa : FA) : FI := fun ρ Q => fa ρ fun svs => match svs with
  | [.d (.int i), .d (.int j)] => (-(2 ^ 62) ≤ i ∧ i < 2 ^ 62 ∧ -(2 ^ 62) ≤ j ∧ j < 2 ^ 62) ∧ Q (rngD i (j - i).toNat)
  | _ => False
theorem args1 {A : List Sl} {vs : List V} {s : SV} (h : A.map Prod.fst = [s]) (e : A.map Prod.snd = vs.map some) : ∃ v, vs = [v] ∧ A = [(s, some v)] := by
  match A, h with
  | [(s', o)], h =>
    match vs, e with
    | [v], e => exact ⟨v, rfl, by simp at h e; rw [h, e]⟩
    | [], e => exact absurd (congrArg List.length e) (by simp)
    | _ :: _ :: _, e => exact absurd (congrArg List.length e) (by simp)
  | [], h => exact absurd (congrArg List.length h) (by simp)
  | _ :: _ :: _, h => exact absurd (congrArg List.length h) (by simp)
theorem argsS {A : List Sl} {vs : List V} {s : SV} {ss : List SV} (h : A.map Prod.fst = s :: ss) (e : A.map Prod.snd = vs.map some) : ∃ v vs' A', vs = v :: vs' ∧ A = (s, some v) :: A' ∧ A'.map Prod.fst = ss ∧ A'.map Prod.snd = vs'.map some := by
  match A, h with
  | (s', o) :: A', h =>
    match vs, e with
    | v :: vs', e =>
      simp at h e
      exact ⟨v, vs', A', rfl, by rw [h.1, e.1], h.2, e.2⟩
    | [], e => exact absurd (congrArg List.length e) (by simp)
  | [], h => exact absurd (congrArg List.length h) (by simp)
theorem args2 {A : List Sl} {vs : List V} {s t : SV} (h : A.map Prod.fst = [s, t]) (e : A.map Prod.snd = vs.map some) : ∃ v u, vs = [v, u] ∧ A = [(s, some v), (t, some u)] := by
  obtain ⟨v, vs', A', rfl, rfl, h', e'⟩ := argsS h e
  obtain ⟨u, rfl, rfl⟩ := args1 h' e'
  exact ⟨v, u, rfl, rfl⟩
theorem qi_range1 {tg a : Expr} {fa : FA} {p pos : Pos} (hg : Gl X "range") (hm : X.mg "range" = none) (ha : QA X [a] fa) (hs : starEach [a] X.env = [(false, eval a X.env)] := by rfl) : QI X tg (.Call (.Name "range" p) [a] [] pos) (wIR1 fa) := by
  refine PI.imp (pi_range1 hg hm ha hs) fun σ H R h => ?_
  obtain ⟨T, B, G, L, M, Q', rfl, h, hf, hk⟩ := h
  refine ⟨T, B, G, L, M, _, rfl, h, hf, fun A vs G1 H1 e1 h1 w1 q1 => ?_⟩
  generalize hA : A.map Prod.fst = S at q1
  match S, q1 with
  | [.d (.int j)], q1 =>
    obtain ⟨v, rfl, rfl⟩ := args1 hA e1
    have hd := h1.dp
    cases hd
    exact ⟨j, rfl, q1.1.1, q1.1.2, hk _ G1 H1 _ h1.tail w1 (it_rng _ _ _ _) q1.2⟩
theorem qi_range2 {tg a b : Expr} {fa : FA} {p pos : Pos} (hg : Gl X "range") (hm : X.mg "range" = none) (ha : QA X [a, b] fa) (hs : starEach [a, b] X.env = [(false, eval a X.env), (false, eval b X.env)] := by rfl)
    (hs2 : starEach [b] X.env = [(false, eval b X.env)] := by rfl) : QI X tg (.Call (.Name "range" p) [a, b] [] pos) (wIR2 fa) := by
  refine PI.imp (pi_range2 hg hm ha hs hs2) fun σ H R h => ?_
  obtain ⟨T, B, G, L, M, Q', rfl, h, hf, hk⟩ := h
  refine ⟨T, B, G, L, M, _, rfl, h, hf, fun A vs G1 H1 e1 h1 w1 q1 => ?_⟩
  generalize hA : A.map Prod.fst = S at q1
  match S, q1 with
  | [.d (.int i), .d (.int j)], q1 =>
    obtain ⟨v, u, rfl, rfl⟩ := args2 hA e1
    have hd := h1.dp
    have hd2 := h1.tail.dp
    cases hd
    cases hd2
    exact ⟨i, j, rfl, q1.1, hk _ G1 H1 _ h1.tail.tail w1 (it_rng _ _ _ _) q1.2⟩
end

/-! ### for, while -/
def wForL (g : FG) (fb : FS) : List PyData → FS
  | [] => fun E ρ => E.nx ρ
  | x :: xs => fun E ρ => g (.d x) ρ fun ρ1 => fb { nx := wForL g fb xs E, rt := E.rt, bk := E.nx, ct := wForL g fb xs E } ρ1
def wFor (fi : FI) (g : FG) (fb : FS) : FS := fun E ρ => fi ρ fun items => wForL g fb items E ρ
def wWhN (fc : FT) (fb : FS) : Nat → FS
  | 0 => fun _ _ => False
  | n + 1 => fun E ρ => fc ρ fun b => if b = true then fb { nx := wWhN fc fb n E, rt := E.rt, bk := E.nx, ct := wWhN fc fb n E } ρ else E.nx ρ
def wWhile (fc : FT) (fb : FS) : FS := fun E ρ => ∃ n, wWhN fc fb n E ρ
section
variable {X : Cx} {tg iter : Expr} {body : List Stmt} {pos : Pos} {fi : FI} {g : FG} {fb : FS} {ws : List Nat}
theorem q_for (hp : PassesOwn (model X.prog X.w) X.A X.env X.xe) (hc : X.calm = true) (hi : QI X tg iter fi) (hg : QG X tg ws g) (hb : QSs X body fb) (hs : ∀ x, foldedSetIterable iter X.env x = pure x := by intro _; rfl) : QS X (.For tg iter body [] pos) (wFor fi g fb) := by
  refine PS.imp (ps_for hp hc hi hg hb hs) fun D σ H h => ?_
  obtain ⟨T, B, G, L, E, rfl, h, hf, hk⟩ := h
  refine ⟨T, B, G, L, [], _, rfl, h, hf, fun items G0 H0 J s0 w0 it q0 => ?_⟩
  refine ⟨fun i m σ H => m = items.length - i ∧ i ≤ items.length ∧ ∃ L1 G1, σ = L1.map Prod.snd ∧ SR (kx X) T B G1 L1 H ∧ Gw B G0 G1 ∧ L1.length = L.length ∧ wForL g fb (items.drop i) E (L1.map Prod.fst),
    ⟨_, rfl, Nat.zero_le _, L, G0, rfl, s0, .refl _ _, rfl, q0⟩, ?_⟩
  rintro i m σ1 H1 ⟨rfl, hi, L1, G1, rfl, s1, w1, l1, q1⟩
  by_cases hlt : i < items.length
  · right
    rw [List.drop_eq_getElem_cons hlt] at q1
    have sm : Same G0 H1 := w1.same.trans s1.gH
    refine ⟨it.go i H1 sm hlt, fun σ' H' => ∃ L2 G2, σ' = L2.map Prod.snd ∧ SR (kx X) T B G2 L2 H' ∧ Gw B G0 G2 ∧ L2.length = L.length ∧ wForL g fb (items.drop (i + 1)) E (L2.map Prod.fst),
      fun σ' H' q => ⟨items.length - (i + 1), by omega, rfl, hlt, q⟩, fun x H' y => ?_⟩
    obtain ⟨G2, s2, w2⟩ := it.yld i H1 x H' items[i] sm (by simp [hlt]) y T B G1 L1 s1 w1.same
    refine ⟨T, B, G2, L1, [], _, _, rfl, s2, q1, fun L3 G3 H3 s3 w3 l3 _ q3 => ?_⟩
    refine ⟨T, B, G3, L3, _, rfl, s3, q3, ?_⟩
    have w4 : Gw B G0 G3 := w1.trans (w2.trans w3)
    exact ⟨fun L4 G4 H4 s4 w5 l4 q4 => ⟨L4, G4, rfl, s4, w4.trans w5, l4.trans (l3.trans l1), q4⟩,
      fun v sv L4 G4 H4 s4 w5 l4 q4 => hk.rt v sv L4 G4 H4 s4 (w0.trans (w4.trans w5)) (l4.trans (l3.trans l1)) q4,
      fun L4 G4 H4 s4 w5 l4 q4 => hk.nx L4 G4 H4 s4 (w0.trans (w4.trans w5)) (l4.trans (l3.trans l1)) q4,
      fun L4 G4 H4 s4 w5 l4 q4 => ⟨L4, G4, rfl, s4, w4.trans w5, l4.trans (l3.trans l1), q4⟩⟩
  · left
    have e : items.drop i = [] := List.drop_eq_nil_of_le (by omega)
    rw [e] at q1
    exact ⟨it.stop i H1 (w1.same.trans s1.gH) (by omega), hk.nx L1 G1 H1 s1 (w0.trans w1) l1 q1⟩
theorem q_while {c : Expr} {fc : FT} (hp : PassesOwn (model X.prog X.w) X.A X.env X.xe) (hc : QT X c fc) (hb : QSs X body fb) : QS X (.While c body [] pos) (wWhile fc fb) := by
  refine PS.imp (ps_while hp hc hb) fun D σ H h => ?_
  obtain ⟨T, B, G, L, E, rfl, h, ⟨n, hf⟩, hk⟩ := h
  refine ⟨fun m σ H => ∃ L1 G1, σ = L1.map Prod.snd ∧ SR (kx X) T B G1 L1 H ∧ Gw B G G1 ∧ L1.length = L.length ∧ wWhN fc fb m E (L1.map Prod.fst), ⟨n, L, G, rfl, h, .refl _ _, rfl, hf⟩, ?_⟩
  rintro m σ1 H1 ⟨L1, G1, rfl, s1, w1, l1, q1⟩
  cases m with
  | zero => exact q1.elim
  | succ m =>
    refine ⟨T, B, G1, L1, [], _, rfl, s1, q1, fun b G2 H2 s2 w2 q2 => ?_⟩
    cases b with
    | true =>
      rw [if_pos rfl] at q2
      refine iteT ?_
      refine ⟨fun σ' H' => ∃ L2 G2, σ' = L2.map Prod.snd ∧ SR (kx X) T B G2 L2 H' ∧ Gw B G G2 ∧ L2.length = L.length ∧ wWhN fc fb m E (L2.map Prod.fst), fun σ' H' q => ⟨m, Nat.lt_succ_self m, q⟩, ?_⟩
      refine ⟨T, B, G2, L1, _, rfl, s2, q2, ?_⟩
      have w4 : Gw B G G2 := w1.trans w2
      exact ⟨fun L4 G4 H4 s4 w5 l4 q4 => ⟨L4, G4, rfl, s4, w4.trans w5, l4.trans l1, q4⟩,
        fun v sv L4 G4 H4 s4 w5 l4 q4 => hk.rt v sv L4 G4 H4 s4 (w4.trans w5) (l4.trans l1) q4,
        fun L4 G4 H4 s4 w5 l4 q4 => hk.nx L4 G4 H4 s4 (w4.trans w5) (l4.trans l1) q4,
        fun L4 G4 H4 s4 w5 l4 q4 => ⟨L4, G4, rfl, s4, w4.trans w5, l4.trans l1, q4⟩⟩
    | false =>
      rw [if_neg Bool.false_ne_true] at q2
      refine iteF ?_
      exact hk.nx L1 G2 H2 s2 (w1.trans w2) l1 q2
end

/-! ### comprehensions -/
def hideS : SV → SV
  | .d x => .d x
  | .tp => .tp
  | _ => .no
def hideL (L : List Sl) : List Sl := L.map fun p => (hideS p.1, p.2)
def wipeL (L : List Sl) : List Nat → List Sl
  | [] => L
  | v :: vs => (wipeL L vs).set v (.no, none)
def wipeS (ρ : List SV) : List Nat → List SV
  | [] => ρ
  | v :: vs => (wipeS ρ vs).set v .no
theorem hideL_fst (L : List Sl) : (hideL L).map Prod.fst = (L.map Prod.fst).map hideS := by simp [hideL]
theorem hideL_snd (L : List Sl) : (hideL L).map Prod.snd = L.map Prod.snd := by simp [hideL]
theorem wipeL_fst (L : List Sl) : ∀ vs, (wipeL L vs).map Prod.fst = wipeS (L.map Prod.fst) vs
  | [] => rfl
  | v :: vs => by unfold wipeL wipeS; rw [List.map_set, wipeL_fst L vs]
theorem wipeL_snd (L : List Sl) : ∀ vs, (wipeL L vs).map Prod.snd = wipe (L.map Prod.snd) vs
  | [] => rfl
  | v :: vs => by unfold wipeL wipe; rw [List.map_set, wipeL_snd L vs]
theorem wipeL_mem {L : List Sl} : ∀ {vs : List Nat} {p : Sl}, p ∈ wipeL L vs → p = (.no, none) ∨ p ∈ L
  | [], p, h => .inr h
  | v :: vs, p, h => by
    unfold wipeL at h
    rcases List.mem_or_eq_of_mem_set h with h | h
    · exact wipeL_mem h
    · exact .inl h
theorem wipe_get (σ : L2.St) (k : Nat) : ∀ vs : List Nat, (wipe σ vs)[k]? = if k ∈ vs then σ[k]?.map (fun _ => none) else σ[k]?
  | [] => by simp [wipe]
  | v :: vs => by
    unfold wipe
    by_cases e : v = k
    · subst e
      simp only [List.mem_cons, true_or, if_true]
      by_cases hl : v < σ.length
      · rw [List.getElem?_set_self (by rw [wipe_length]; exact hl)]
        simp [hl]
      · rw [List.getElem?_eq_none (by rw [List.length_set, wipe_length]; omega), List.getElem?_eq_none (by omega)]
        rfl
    · rw [List.getElem?_set_ne e, wipe_get σ k vs]
      simp only [List.mem_cons]
      have e' : ¬ k = v := fun z => e z.symm
      simp [e']
theorem wipe_idem {σ τ : L2.St} {vs : List Nat} (h : ∀ k, k ∉ vs → τ[k]? = (wipe σ vs)[k]?) (hl : τ.length = σ.length) : wipe τ vs = wipe σ vs := by
  refine List.ext_getElem? fun k => ?_
  rw [wipe_get, wipe_get]
  by_cases hk : k ∈ vs
  · rw [if_pos hk, if_pos hk]
    by_cases hlt : k < σ.length
    · rw [List.getElem?_eq_getElem (by omega), List.getElem?_eq_getElem hlt]; rfl
    · rw [List.getElem?_eq_none (by omega), List.getElem?_eq_none (by omega)]
  · rw [if_neg hk, if_neg hk, h k hk, wipe_get, if_neg hk]
theorem wipeL_length (L : List Sl) : ∀ vs : List Nat, (wipeL L vs).length = L.length
  | [] => rfl
  | v :: vs => by unfold wipeL; rw [List.length_set, wipeL_length L vs]
section
variable {K : Kx} {T : Option Tape} {B G H : Hp} {L M N : List Sl}
theorem SR.addL {R : List Sl} (h : SR K T B G N H) (hR : ∀ p ∈ R, SlotOk K T B G H p ∧ adr p = none) : SR K T B G (N ++ R) H where
  bH := h.bH
  gH := h.gH
  tp := h.tp
  ok := fun p hp => by
    rcases List.mem_append.mp hp with hp | hp
    · exact h.ok p hp
    · exact (hR p hp).1
  nd := by
    rw [List.filterMap_append]
    have : R.filterMap adr = [] := List.filterMap_eq_nil_iff.mpr fun p hp => (hR p hp).2
    rw [this, List.append_nil]
    exact h.nd
theorem hide_ok {p : Sl} (h : SlotOk K T B G H p) : SlotOk K T B G H (hideS p.1, p.2) ∧ adr (hideS p.1, p.2) = none := by
  obtain ⟨sv, o⟩ := p
  cases sv with
  | d x => exact ⟨h, by cases o with | none => rfl | some v => cases v <;> rfl⟩
  | tp => exact ⟨h, by cases o with | none => rfl | some v => cases v <;> rfl⟩
  | no => exact ⟨trivial, by cases o with | none => rfl | some v => cases v <;> rfl⟩
  | own _ => exact ⟨trivial, by cases o with | none => rfl | some v => cases v <;> rfl⟩
  | dct _ => exact ⟨trivial, by cases o with | none => rfl | some v => cases v <;> rfl⟩
  | dcn _ => exact ⟨trivial, by cases o with | none => rfl | some v => cases v <;> rfl⟩
  | tpo _ _ => exact ⟨trivial, by cases o with | none => rfl | some v => cases v <;> rfl⟩
theorem SR.block (h : SR K T B G N H) (hL : ∀ p ∈ L, p ∈ N) (vs : List Nat) : SR K T B G (N ++ wipeL (hideL L) vs) H := by
  refine h.addL fun p hp => ?_
  rcases wipeL_mem hp with e | hp
  · subst e; exact ⟨trivial, rfl⟩
  · obtain ⟨q, hq, rfl⟩ := List.mem_map.mp hp
    exact hide_ok (h.ok q (hL q hq))
end
def wCompL (g : FG) (ft : FT) (fe : FE) (ρ : List SV) : List PyData → (List PyData → Prop) → Prop
  | [], Q => Q []
  | x :: xs, Q => g (.d x) ρ fun ρ1 => ft ρ1 fun b => if b = true then fe ρ1 fun sv => match asD sv with
      | some y => wCompL g ft fe ρ xs fun ys => Q (y :: ys)
      | none => False
    else wCompL g ft fe ρ xs Q
def wComp (fi : FI) (g : FG) (ft : FT) (fe : FE) (vs : List Nat) : FE := fun ρ Q => fi ρ fun items => items.length < sizeLine ∧ wCompL g ft fe (wipeS (ρ.map hideS) vs) items fun ys => Q (.own ys)
def wYes : FT := fun _ Q => Q true
def QTs (X : Cx) (ifs : List Expr) (f : FT) : Prop := PTs X ifs (tQT (kx X) f)
section
variable {X : Cx}
theorem qts_nil : QTs X [] wYes := by
  refine ⟨fun pins s σ H Q I h => pts_nil.run pins s σ H Q I ?_⟩
  obtain ⟨T, B, G, L, M, Q', rfl, h, hf, hk⟩ := h
  exact hk true G H h (.refl _ _) hf
theorem qts_one {c : Expr} {f : FT} (h : QT X c f) : QTs X [c] f := pts_one h
theorem t_comp {fi : FI} {g : FG} {ft : FT} {fe : FE} {ws vs : List Nat} (hws : ∀ k ∈ ws, k ∈ vs) {σ : L2.St} {H : Hp} {Q : VK} (h : tQ (kx X) (wComp fi g ft fe vs) σ H Q) :
    tLc (tQI (kx X) fi) (tQG (kx X) ws g) (tQT (kx X) ft) (tQ (kx X) fe) vs σ H Q := by
  obtain ⟨T, B, G, L, M, Q', rfl, h, hf, hk⟩ := h
  refine ⟨T, B, G, L, M, _, rfl, h, hf, fun items G0 H0 J s0 w0 it q0 => ?_⟩
  obtain ⟨hz, q0⟩ := q0
  intro D hD
  refine ⟨fun i m H => m = items.length - i ∧ i ≤ items.length ∧ ∃ G1 acc, SR (kx X) T B G1 ((.own acc, some (.ref D)) :: (M ++ L)) H ∧ Gw B G0 G1 ∧ acc.length ≤ i ∧
    wCompL g ft fe (wipeS ((L.map Prod.fst).map hideS) vs) (items.drop i) (fun ys => Q' (.own (acc ++ ys))), ⟨_, rfl, Nat.zero_le _, G0, [], s0.newOwn hD .nil, .refl _ _, Nat.le_refl _, q0⟩, ?_⟩
  rintro i m H1 ⟨rfl, hi, G1, acc, s1, w1, la, q1⟩
  by_cases hlt : i < items.length
  · right
    rw [List.drop_eq_getElem_cons hlt] at q1
    have sm : Same G0 H1 := w1.same.trans s1.gH
    refine ⟨it.go i H1 sm hlt, fun H' => ∃ G1 acc, SR (kx X) T B G1 ((.own acc, some (.ref D)) :: (M ++ L)) H' ∧ Gw B G0 G1 ∧ acc.length ≤ i + 1 ∧
      wCompL g ft fe (wipeS ((L.map Prod.fst).map hideS) vs) (items.drop (i + 1)) (fun ys => Q' (.own (acc ++ ys))), fun H' q => ⟨items.length - (i + 1), by omega, rfl, hlt, q⟩, fun x H' y => ?_⟩
    obtain ⟨G2, s2, w2⟩ := it.yld i H1 x H' items[i] sm (by simp [hlt]) y T B G1 _ s1 w1.same
    have s3 : SR (kx X) T B G2 ((.d items[i], some x) :: (((.own acc, some (.ref D)) :: (M ++ L)) ++ wipeL (hideL L) vs)) H' :=
      s2.block (L := L) (fun p hp => by simp [hp]) vs
    have e1 : wipe (L.map Prod.snd) vs = (wipeL (hideL L) vs).map Prod.snd := by rw [wipeL_snd, hideL_snd]
    have e2 : wipeS ((L.map Prod.fst).map hideS) vs = (wipeL (hideL L) vs).map Prod.fst := by rw [wipeL_fst, hideL_fst]
    rw [e2] at q1
    refine ⟨T, B, G2, wipeL (hideL L) vs, (.own acc, some (.ref D)) :: (M ++ L), _, _, e1, s3, q1, fun L3 G3 H3 s4 w3 l3 k3 q3 => ?_⟩
    refine ⟨wipe_idem (fun k hk => ?_) (by rw [List.length_map, l3, wipeL_length, List.length_map]; simp [hideL]), ?_⟩
    · rw [e1, List.getElem?_map, List.getElem?_map, k3 k fun z => hk (hws k z)]
    refine ⟨T, B, G3, L3, (.own acc, some (.ref D)) :: (M ++ L), _, rfl, s4, q3, fun b G4 H4 s5 w4 q4 => ?_⟩
    have w5 : Gw B G0 G4 := w1.trans (w2.trans (w3.trans w4))
    cases b with
    | true =>
      rw [if_pos rfl] at q4
      refine iteT ?_
      refine ⟨T, B, G4, L3, (.own acc, some (.ref D)) :: (M ++ L), _, rfl, s5, q4, fun z G5 H5 sv s6 w6 q6 => ?_⟩
      cases q7 : asD sv with
      | none => simp only [q7] at q6
      | some d =>
        simp only [q7] at q6
        obtain ⟨G6, s7, w7⟩ := SR.frzD s6 q7
        have hd := s7.dp
        have s8 : SR (kx X) T B G6 ((.own acc, some (.ref D)) :: (M ++ L)) H5 := s7.tail.sub (List.sublist_append_left _ _)
        obtain ⟨o, vs', hv, hda⟩ := s8.head
        have hlen := dpAll_len hda
        refine ⟨vs', hv, by omega, G6, acc ++ [d], s8.write (dpAll_append hda (.cons hd .nil)), w5.trans (w6.trans w7), by simp; omega, ?_⟩
        rw [e2]
        simpa using q6
    | false =>
      rw [if_neg Bool.false_ne_true] at q4
      refine iteF ?_
      refine ⟨G4, acc, s5.sub (List.sublist_append_left _ _), w5, by omega, ?_⟩
      rw [e2]; exact q4
  · left
    have e : items.drop i = [] := List.drop_eq_nil_of_le (by omega)
    rw [e] at q1
    have q1' : Q' (.own (acc ++ [])) := q1
    rw [List.append_nil] at q1'
    exact ⟨it.stop i H1 (w1.same.trans s1.gH) (by omega), hk _ G1 H1 _ s1 (w0.trans w1) q1'⟩
theorem q_lc {elt tg iter : Expr} {ifs : List Expr} {scope : Scope} {own : List (Str × Nat)} {pos : Pos} {fi : FI} {g : FG} {ft : FT} {fe : FE} {ws : List Nat} (hc : X.calm = true) (hN : X.N.Nodup) (hi : QI X tg iter fi) (ok : BlkOk X.N X.env.scope scope own)
    (hws : ∀ k ∈ ws, k ∈ own.map (·.2))
    (hg : ∀ (s : Shared) (H : Hp) (C : Addr) (cl : List (Str × Addr)) (fp : List Addr), QG (X.blk s H scope (compEnvC scope cl C X.env) fp) tg ws g) (ht : ∀ (s : Shared) (H : Hp) (C : Addr) (cl : List (Str × Addr)) (fp : List Addr), QTs (X.blk s H scope (compEnvC scope cl C X.env) fp) ifs ft)
    (he : ∀ (s : Shared) (H : Hp) (C : Addr) (cl : List (Str × Addr)) (fp : List Addr), QE (X.blk s H scope (compEnvC scope cl C X.env) fp) elt fe) (hs : ∀ x, foldedSetIterable iter X.env x = pure x := by intro _; rfl) :
    QE X (.ListComp elt [⟨tg, iter, ifs, 0⟩] scope pos) (wComp fi g ft fe (own.map (·.2))) :=
  PE.imp (pe_lc (g := tQG (kx X) ws g) (tt := tQT (kx X) ft) (te := tQ (kx X) fe) hc hN hi ok hg ht he hs) fun σ H Q h => t_comp hws h
/-- name = [..] where the name is stored by the comprehension itself -/
theorem q_setLc {i : Nat} {y : Str} {py : Pos} {elt tg iter : Expr} {ifs : List Expr} {scope : Scope} {own : List (Str × Nat)} {pos spos : Pos} {fi : FI} {g : FG} {ft : FT} {fe : FE} {ws : List Nat} (hc : X.calm = true) (hN : X.N.Nodup) (hy : X.N[i]? = some y) (hyl : X.env.scope.names.lookup y = some .local)
    (hsw : swapsWith (.ListComp elt [⟨tg, iter, ifs, 0⟩] scope pos) (some (.Name y py)) spos.line X.env = pure true) (hi : QI X tg iter fi) (ok : BlkOk X.N X.env.scope scope own) (hws : ∀ k ∈ ws, k ∈ own.map (·.2))
    (hg : ∀ (s : Shared) (H : Hp) (C : Addr) (cl : List (Str × Addr)) (fp : List Addr), QG (X.blk s H scope (compEnvC scope cl C X.env) fp) tg ws g) (ht : ∀ (s : Shared) (H : Hp) (C : Addr) (cl : List (Str × Addr)) (fp : List Addr), QTs (X.blk s H scope (compEnvC scope cl C X.env) fp) ifs ft)
    (he : ∀ (s : Shared) (H : Hp) (C : Addr) (cl : List (Str × Addr)) (fp : List Addr), QE (X.blk s H scope (compEnvC scope cl C X.env) fp) elt fe) (hs : ∀ x, foldedSetIterable iter X.env x = pure x := by intro _; rfl) :
    PS X (.Assign [.Name y py] (.ListComp elt [⟨tg, iter, ifs, 0⟩] scope pos) spos) (tAsg (tQ (kx X) (wComp fi g ft fe (own.map (·.2)))) (gName i)) :=
  PS.imp (ps_setLc (g := tQG (kx X) ws g) (tt := tQT (kx X) ft) (te := tQ (kx X) fe) hc hN hy hyl hsw hi ok hg ht he hs) fun D σ H h => t_comp hws h
end

/-! ### a def's promise over data; its call -/
abbrev Phi := List SV → (SV → Prop) → Prop
def spQ (K : Kx) (φ : Phi) : Sp := fun vs H Q _ => ∃ (T : Option Tape) (B G : Hp) (A N : List Sl) (Q' : SV → Prop), A.map Prod.snd = vs.map some ∧ SR K T B G (A ++ N) H ∧ (∀ p ∈ A, adr p = none) ∧ φ (A.map Prod.fst) Q' ∧
  ∀ (v : V) (G' H' : Hp) (sv : SV), SR K T B G' ((sv, some v) :: N) H' → Gw B G G' → Q' sv → Q v H'
/-- arguments: what is own comes to rest -/
def argF : List SV → Option (List SV)
  | [] => some []
  | .tp :: r => match argF r with
    | some xs => some (.tp :: xs)
    | none => none
  | s :: r => match asD s, argF r with
    | some x, some xs => some (.d x :: xs)
    | _, _ => none
theorem adr_d {x : PyData} {o : Option V} : adr (.d x, o) = none := by cases o with | none => rfl | some v => cases v <;> rfl
theorem adr_tp {o : Option V} : adr (.tp, o) = none := by cases o with | none => rfl | some v => cases v <;> rfl
theorem adr_no {o : Option V} : adr (.no, o) = none := by cases o with | none => rfl | some v => cases v <;> rfl
theorem SR.args {K : Kx} {T : Option Tape} {B H : Hp} {N : List Sl} : ∀ {A : List Sl} {vs : List V} {as : List SV} {G : Hp}, SR K T B G (A ++ N) H → A.map Prod.snd = vs.map some → argF (A.map Prod.fst) = some as →
    ∃ G' A', SR K T B G' (A' ++ N) H ∧ A'.map Prod.snd = vs.map some ∧ A'.map Prod.fst = as ∧ (∀ p ∈ A', adr p = none) ∧ Gw B G G'
  | [], vs, as, G, h, e, q => by
    cases vs with
    | nil => cases q; exact ⟨G, [], h, rfl, rfl, fun p hp => (by cases hp), .refl _ _⟩
    | cons v vs => cases e
  | (sv, o) :: A, vs, as, G, h, e, q => by
    cases vs with
    | nil => cases e
    | cons v vs =>
      have e1 : o = some v := by injection e
      have e2 : A.map Prod.snd = vs.map some := by injection e
      subst e1
      have q' : argF (sv :: A.map Prod.fst) = some as := q
      have core : ∀ (sv' : SV) (G1 : Hp) (xs : List SV), SR K T B G1 ((sv', some v) :: (A ++ N)) H → adr (sv', some v) = none → Gw B G G1 → argF (A.map Prod.fst) = some xs →
          ∃ G' A', SR K T B G' (A' ++ N) H ∧ A'.map Prod.snd = (v :: vs).map some ∧ A'.map Prod.fst = sv' :: xs ∧ (∀ p ∈ A', adr p = none) ∧ Gw B G G' := by
        intro sv' G1 xs h1 ha w1 q2
        obtain ⟨G2, A', h2, e3, e4, n4, w2⟩ := SR.args h1.tail e2 q2
        have hs : SlotOk K T B G2 H (sv', some v) := h1.head.ext (fun a o _ e => e) w2.same fun a ea => by rw [ha] at ea; cases ea
        refine ⟨G2, (sv', some v) :: A', h2.cons hs (fun a ea => by rw [ha] at ea; cases ea), by simp [e3], by simp [e4], fun p hp => ?_, w1.trans w2⟩
        rcases List.mem_cons.mp hp with z | hp
        · rw [z]; exact ha
        · exact n4 p hp
      cases q2 : argF (A.map Prod.fst) with
      | none =>
        cases sv <;> simp [argF, q2] at q'
      | some xs =>
        cases sv with
        | tp =>
          simp [argF, q2] at q'
          subst q'
          exact core .tp G xs h adr_tp (.refl _ _) q2
        | d x =>
          simp [argF, q2, asD] at q'
          subst q'
          exact core (.d x) G xs h adr_d (.refl _ _) q2
        | own ys =>
          simp [argF, q2, asD] at q'
          subst q'
          obtain ⟨G1, h1, w1⟩ := SR.frz h
          exact core (.d (.list ys)) G1 xs h1 adr_d w1 q2
        | no => simp [argF, q2, asD] at q'
        | dct _ => simp [argF, q2, asD] at q'
        | dcn _ => simp [argF, q2, asD] at q'
        | tpo _ _ => simp [argF, q2, asD] at q'
def wCall (φ : Phi) (fa : FA) : FE := fun ρ Q => fa ρ fun svs => match argF svs with
  | some as => φ as Q
  | none => False
section
variable {X : Cx} {k j : Nat} {x : Str} {φ : Phi} {p pos : Pos} {e : Expr} {es : List Expr} {fa : FA}
abbrev CalQ (P : Program) (w : World) (K : PySem.W.Frag) (mg : Str → Option Value) (base : Heap) (k : Nat) (x : Str) (φ : Phi) : Prop := C8.Cal P w K mg base k x (spQ ⟨K, P, w⟩ φ) []
theorem q_call (c : CalQ X.prog X.w X.K X.mg X.base k x φ) (hr : Room j X.A) (hk : k ≤ j) (hg : Gl X x) (ha : QA X (e :: es) fa)
    (hdb : (x == ("__debug__" : Str)) = false := by decide) (he : starEach (e :: es) X.env = (false, eval e X.env) :: starEach es X.env := by rfl) (hpl : (backTo pos (starEach es X.env)).any (·.1) = false := by rfl) :
    QE X (.Call (.Name x p) (e :: es) [] pos) (wCall φ fa) := by
  refine PE.imp (C8.pe_c c hr hk hg ha hdb he hpl) fun σ H Q h => ?_
  obtain ⟨T, B, G, L, M, Q', rfl, h, hf, hk⟩ := h
  refine ⟨T, B, G, L, M, _, rfl, h, hf, fun A vs G1 H1 e1 h1 w1 q1 => ?_⟩
  cases q0 : argF (A.map Prod.fst) with
  | none => simp only [q0] at q1
  | some as =>
    simp only [q0] at q1
    obtain ⟨G2, A', h2, e3, e4, n4, w2⟩ := h1.args e1 q0
    refine ⟨T, B, G2, A', M ++ L, Q', by rw [e3, List.append_nil], h2, n4, by rw [e4]; exact q1, fun v G' H' sv h3 w3 q3 => hk v G' H' sv h3 (w1.trans (w2.trans w3)) q3⟩
theorem q_call0 (c : CalQ X.prog X.w X.K X.mg X.base k x φ) (hr : Room j X.A) (hk : k ≤ j) (hg : Gl X x) (hdb : (x == ("__debug__" : Str)) = false := by decide) :
    QE X (.Call (.Name x p) [] [] pos) (wCall φ wNil) := by
  obtain ⟨f, fd, ps, ds, F, hm, kp, b, d⟩ := c.ex
  refine PE.imp (pe_call0 F (hr.mono hk) hg hm kp b d pass0 hdb) fun σ H Q h => ?_
  obtain ⟨T, B, G, L, M, Q', rfl, h, hf, hk⟩ := h
  exact ⟨T, B, G, [], M ++ L, Q', rfl, h, fun p hp => (by cases hp), hf, fun v G' H' sv h3 w3 q3 => hk v G' H' sv h3 w3 q3⟩
end

/-- the caller's heap without the tape -/
def offT (T : Option Tape) (H : Hp) : Hp := fun a => match T with
  | some t => if t.t = a then none else H a
  | none => H a
theorem offT_some {T : Option Tape} {H : Hp} {a : Addr} {o : HO} (h : offT T H a = some o) : H a = some o ∧ ∀ t, T = some t → t.t ≠ a := by
  unfold offT at h
  cases T with
  | none => exact ⟨h, fun t ht => by cases ht⟩
  | some u =>
    by_cases e : u.t = a
    · simp only [if_pos e] at h; cases h
    · simp only [if_neg e] at h
      exact ⟨h, fun t ht => by cases ht; exact e⟩
theorem offT_of {T : Option Tape} {H : Hp} {a : Addr} {o : HO} (h : H a = some o) (n : ∀ t, T = some t → t.t ≠ a) : offT T H a = some o := by
  unfold offT
  cases T with
  | none => exact h
  | some u => simp only [if_neg (n u rfl)]; exact h
section
variable {K : Kx} {T : Option Tape} {B G G' H H' : Hp} {A L N : List Sl}
theorem SR.enter (h : SR K T B G (A ++ N) H) (ha : ∀ p ∈ A, adr p = none) (n : Nat) : SR K T (offT T H) G (A ++ List.replicate n (.no, none)) H where
  bH := fun a o e => (offT_some e).1
  gH := h.gH
  tp := fun t ht => ⟨by
    cases q : offT T H t.t with
    | none => rfl
    | some o => exact absurd rfl ((offT_some q).2 t ht), (h.tp t ht).2⟩
  ok := fun p hp => by
    rcases List.mem_append.mp hp with hp | hp
    · have z := h.ok p (List.mem_append_left _ hp)
      have y := ha p hp
      obtain ⟨sv, o⟩ := p
      cases sv with
      | d x => cases o <;> exact z
      | tp =>
        cases o with
        | none => exact z
        | some v => cases v <;> exact z
      | no => trivial
      | own _ =>
        cases o with
        | none => exact z
        | some v => cases v <;> first | exact z | cases y
      | dct _ =>
        cases o with
        | none => exact z
        | some v => cases v <;> first | exact z | cases y
      | dcn _ =>
        cases o with
        | none => exact z
        | some v => cases v <;> first | exact z | cases y
      | tpo _ _ =>
        cases o with
        | none => exact z
        | some v => cases v <;> first | exact z | cases y
    · rw [List.eq_of_mem_replicate hp]; trivial
  nd := by
    have : (A ++ List.replicate n ((.no, none) : Sl)).filterMap adr = [] := List.filterMap_eq_nil_iff.mpr fun p hp => by
      rcases List.mem_append.mp hp with hp | hp
      · exact ha p hp
      · rw [List.eq_of_mem_replicate hp]; rfl
    rw [this]
    exact List.nodup_nil
theorem SR.leave (h : SR K T B G N H) {sv : SV} {v : V} (h' : SR K T (offT T H) G' ((sv, some v) :: L) H') (w : Gw (offT T H) G G') : SR K T B G' ((sv, some v) :: N) H' ∧ Gw B G G' := by
  have gone : ∀ a, offT T H a = none → (∀ t, T = some t → t.t ≠ a) → H a = none := fun a e n => by
    cases q : H a with
    | none => rfl
    | some o => rw [offT_of q n] at e; cases e
  have tne : ∀ a, G' a ≠ none → ∀ t, T = some t → t.t ≠ a := fun a e t ht z => e (by rw [← z]; exact (h'.tp t ht).2.1)
  have s1 : SR K T B G' N H' := h.ext (fun a o e n => h'.bH a o (offT_of e n)) w.same (fun a e e' => h.notin (gone a (w.new a e e') (tne a e'))) h'.gH fun t ht => (h'.tp t ht).2
  have ho : ∀ a, adr (sv, some v) = some a → H a = none := fun a ea => by
    have o := (adr_some ea h'.head).1
    exact gone a o.b o.t
  refine ⟨s1.cons ?_ fun a ea hm => ?_, w.same, fun a e e' => h.none_b (gone a (w.new a e e') (tne a e'))⟩
  · have z := h'.head
    cases sv with
    | no => trivial
    | d x => exact z
    | own xs =>
      cases v with
      | ref a => exact ⟨⟨h.none_b (ho a rfl), z.1.g, z.1.t⟩, z.2⟩
      | _ => exact z
    | dct xs =>
      cases v with
      | ref a => exact ⟨⟨h.none_b (ho a rfl), z.1.g, z.1.t⟩, z.2⟩
      | _ => exact z
    | dcn xs =>
      cases v with
      | ref a => exact ⟨⟨h.none_b (ho a rfl), z.1.g, z.1.t⟩, z.2⟩
      | _ => exact z
    | tpo b xs =>
      cases v with
      | ref a => exact ⟨z.1, ⟨h.none_b (ho a rfl), z.2.1.g, z.2.1.t⟩, z.2.2⟩
      | _ => exact z
    | tp => cases v <;> exact z
  · obtain ⟨_, o, e⟩ := h.own_at hm
    rw [ho a ea] at e; cases e
end
section
variable {P : Program} {w : World} {K : PySem.W.Frag} {mg : Str → Option Value} {base : Heap}
/-- THE RULE for a def -/
theorem cal_of {x : Str} {st : Stmt} {f : Addr} {fd : FuncData} {N ps : List Str} {k : Nat} {φ : Phi} {b : FS} (F : C8.Def K mg x st f fd) (bn : Binds K fd ps []) (S : FnScope N ps (C8.fnScope st))
    (hl : ∀ as Q, φ as Q → as.length = ps.length)
    (hb : ∀ as Q, φ as Q → b { nx := fun _ => Q (.d .none), rt := fun sv _ => Q sv } (as ++ List.replicate (N.length - as.length) .no))
    (der : ∀ (cdv : Value) (A : Around) (outer : List Env) (s : Shared) (H : Hp) (E : XK), Room k (A.deeper (envOfC x (C8.fnScope st) s.heap.objs.size f cdv)) →
      QSs (cxOf CX0 P w K mg base N x (C8.fnScope st) f cdv A outer s H E).nox (C8.fnBody st) b) : CalQ P w K mg base (k + 1) x φ := by
  refine C8.cal0 F bn .nil S (fun vs H Q E h => ?_) fun cdv A outer s H vs Q E hr h => ?_
  · obtain ⟨T, B, G, A, N', Q', e1, h, ha, hf, hk⟩ := h
    have := hl _ _ hf
    rw [← this, List.length_map, ← List.length_map (f := Prod.snd), e1, List.length_map]
  · obtain ⟨T, B, G, A', N', Q', e1, h, ha, hf, hk⟩ := h
    have hlen : A'.length = vs.length := by rw [← List.length_map (f := Prod.snd), e1, List.length_map]
    refine ⟨_, der cdv A outer s H E hr, T, offT T H, G, A' ++ List.replicate (N.length - vs.length) ((SV.no, none) : Sl), { nx := fun _ => Q' (.d .none), rt := fun sv _ => Q' sv }, ?_, h.enter ha (N.length - vs.length), ?_, ?_⟩
    · rw [List.map_append, e1, List.map_replicate]; rfl
    · have := hb _ _ hf
      rw [List.map_append, List.map_replicate]
      rw [List.length_map, hlen] at this
      exact this
    · have hN : SR ⟨K, P, w⟩ T B G N' H := h.sub (List.sublist_append_right _ _)
      refine ⟨fun L' G' H' s' w' _ q => ?_, fun v sv L' G' H' s' w' _ q => ?_, fun _ _ _ _ _ _ q => q.elim, fun _ _ _ _ _ _ q => q.elim⟩
      · obtain ⟨h1, w1⟩ := hN.leave (s'.data (v := .non) .non) w'
        exact hk _ G' H' _ h1 w1 q
      · obtain ⟨h1, w1⟩ := hN.leave s' w'
        exact hk _ G' H' _ h1 w1 q
end
end Z

/-! operators and built-ins over data -/
namespace Z
open PySem PySem.Spec PyProof.Rows L2

section
variable {K : Kx} {H H' G G' B : Hp} {T : Option Tape} {L L' M N : List Sl}
theorem SR.frz2 {sx sy : SV} {x y : V} {dx dy : PyData} (h : SR K T B G ((sy, some y) :: (sx, some x) :: N) H) (ex : asD sx = some dx) (ey : asD sy = some dy) :
    ∃ G', SR K T B G' N H ∧ Dp K.K G' x dx ∧ Dp K.K G' y dy ∧ Gw B G G' := by
  obtain ⟨G1, h1, w1⟩ := h.frzD ey
  obtain ⟨G2, h2, w2⟩ := h1.tail.frzD ex
  exact ⟨G2, h2.tail, h2.dp, dp_mono w2.same _ _ h1.dp, w1.trans w2⟩
/-- what is read at its place -/
theorem SR.atL {ds : List PyData} {v : V} (h : SR K T B G N H) (hm : (.own ds, some v) ∈ N ∨ (.d (.list ds), some v) ∈ N) : ∃ a vs, v = .ref a ∧ SqL K.K H a vs ∧ DpAll K.K G vs ds := by
  rcases hm with hm | hm
  · have := h.ok _ hm
    cases v with
    | ref a => obtain ⟨_, vs, e, hd⟩ := this; exact ⟨a, vs, rfl, SqL.of e, hd⟩
    | _ => exact this.elim
  · have := h.ok _ hm
    cases (show Dp K.K G v (.list ds) from this) with
    | lst hs hd => exact ⟨_, _, rfl, h.gH.seq hs, hd⟩
theorem SR.atT {ds : List PyData} {v : V} (h : SR K T B G N H) (hm : (.d (.tuple ds), some v) ∈ N) : ∃ a vs, v = .ref a ∧ SqT K.K H a vs ∧ DpAll K.K G vs ds := by
  have := h.ok _ hm
  cases (show Dp K.K G v (.tuple ds) from this) with
  | tup hs hd => exact ⟨_, _, rfl, same_tup h.gH hs, hd⟩
end

section
variable {X : Cx}

/-! ### + - * // % ** -/
/-- two lists, wherever they stand -/
def rCatS (K : PySem.W.Frag) : R2 := fun x y H Q => ∃ l b xs zs, x = .ref l ∧ y = .ref b ∧ SqL K H l xs ∧ SqL K H b zs ∧ xs.length + zs.length ≤ sizeLine ∧ ∀ p, H p = none → Q (.ref p) (upd H p (.lst (xs ++ zs)))
theorem op_catS : OpR X (binaryOp .Add) (rCatS X.K) := by
  intro pins s σ H x y v u Q I rx ry h
  obtain ⟨l, b, xs, zs, rfl, rfl, hH, hB, hz, q⟩ := h
  cases rx
  cases ry
  obtain ⟨its, r, ⟨⟨cls, dd, data, sl⟩, n, ho, hc, hdd, hd⟩, _⟩ := I.list hH
  obtain ⟨its2, r2, ⟨⟨cls2, dd2, data2, sl2⟩, n2, ho2, hc2, hdd2, hd2⟩, _⟩ := I.list hB
  simp only at hc hdd hd hc2 hdd2 hd2
  subst hc hdd hd hc2 hdd2 hd2
  have e1 := r.length
  have e2 := r2.length
  have e : its.toArray ++ its2.toArray = (its ++ its2).toArray := by simp
  refine concat_meets ⟨_, ho, rfl⟩ ⟨_, ho2, rfl⟩ noFill_list_add seq_list_add PySem.F.slot_list_add PySem.F.entry_list_add (PySem.F.args_list_add_2 _ _) (list_addW l b its.toArray its2.toArray n n2 none none sl sl2 (by simp; omega)) ⟨ho, ho2, ?_⟩
  rw [e]
  exact ⟨.ref _, _, I.lnew (t' := s.toks) (r.append r2) (by rw [List.length_append]; exact hz), rfl, q _ I.fresh⟩
def rAddA (K : PySem.W.Frag) : R2 := fun x y H Q => rI0 (fun i j => .int (i + j)) x y H Q ∨ (∃ i j, x = .str i ∧ y = .str j ∧ i.length + j.length ≤ sizeLine ∧ Q (.str (i ++ j)) H) ∨ rCatA K x y H Q ∨ rCatS K x y H Q
theorem op_addA : OpR X (binaryOp .Add) (rAddA X.K) := by
  intro pins s σ H x y v u Q I rx ry h
  rcases h with h | h | h | h
  · exact op_add pins s σ H x y v u Q I rx ry h
  · exact op_add_str pins s σ H x y v u Q I rx ry h
  · exact op_catA pins s σ H x y v u Q I rx ry h
  · exact op_catS pins s σ H x y v u Q I rx ry h
def gAdd : G2 := fun x y Q => match asD x, asD y with
  | some (.int i), some (.int j) => Q (.d (.int (i + j)))
  | some (.str a), some (.str b) => a.length + b.length ≤ sizeLine ∧ Q (.d (.str (a ++ b)))
  | some (.tuple xs), some (.tuple ys) => xs.length + ys.length ≤ sizeLine ∧ Q (.d (.tuple (xs ++ ys)))
  | some (.list xs), some (.list ys) => xs.length + ys.length ≤ sizeLine ∧ Q (.own (xs ++ ys))
  | _, _ => False
theorem lift_add {K : Kx} : Lift2 K (rAddA K.K) gAdd := by
  intro T B G N H x y sx sy Q Q' h hg hk
  unfold gAdd at hg
  cases ex : asD sx with
  | none => simp only [ex] at hg
  | some dx =>
    cases ey : asD sy with
    | none => simp only [ex, ey] at hg
    | some dy =>
      obtain ⟨G1, h1, d1, d2, w1⟩ := h.frz2 ex ey
      simp only [ex, ey] at hg
      match dx, dy, hg, d1, d2 with
      | .int i, .int j, hg, d1, d2 =>
        cases d1; cases d2
        exact .inl ⟨i, j, rfl, rfl, hk _ G1 H _ (h1.data (.int _)) w1 hg⟩
      | .str a, .str b, hg, d1, d2 =>
        cases d1; cases d2
        exact .inr (.inl ⟨a, b, rfl, rfl, hg.1, hk _ G1 H _ (h1.data (.str _)) w1 hg.2⟩)
      | .tuple xs, .tuple ys, hg, d1, d2 =>
        cases d1 with
        | @tup a vs _ hs hd =>
          cases d2 with
          | @tup b us _ hs2 hd2 =>
            have l1 := dpAll_len hd
            have l2 := dpAll_len hd2
            refine .inr (.inr (.inl ⟨a, b, vs, us, rfl, rfl, same_tup h1.gH hs, same_tup h1.gH hs2, by omega, fun e => ?_, fun _ e => ?_, fun _ _ p hp => ?_⟩))
            · subst e
              cases xs with
              | nil => exact hk _ G1 H _ (h1.data (.tup hs2 hd2)) w1 hg.2
              | cons _ _ => simp at l1
            · subst e
              cases ys with
              | nil => exact hk _ G1 H _ (h1.data (.tup hs (by rw [List.append_nil]; exact hd))) w1 hg.2
              | cons _ _ => simp at l2
            · obtain ⟨h3, w3⟩ := h1.newTup hp (dpAll_append hd hd2)
              exact hk _ _ _ _ h3 (w1.trans w3) hg.2
      | .list xs, .list ys, hg, d1, d2 =>
        cases d1 with
        | @lst a vs _ hs hd =>
          cases d2 with
          | @lst b us _ hs2 hd2 =>
            have l1 := dpAll_len hd
            have l2 := dpAll_len hd2
            refine .inr (.inr (.inr ⟨a, b, vs, us, rfl, rfl, h1.gH.seq hs, h1.gH.seq hs2, by omega, fun p hp => ?_⟩))
            exact hk _ _ _ _ (h1.newOwn hp (dpAll_append hd hd2)) w1 hg.2
variable {a b c e : Expr} {fa fb fc fe : FE} {pos : Pos}
theorem q_add (ha : QE X a fa) (hb : QE X b fb) : QE X (.BinOp a .Add b pos) (wOp gAdd fa fb) := q_op op_addA lift_add ha hb

def gInt (c : Int → Int → Prop) (f : Int → Int → Int) : G2 := fun x y Q => match x, y with
  | .d (.int i), .d (.int j) => c i j ∧ Q (.d (.int (f i j)))
  | _, _ => False
def gInt0 (f : Int → Int → Int) : G2 := fun x y Q => match x, y with
  | .d (.int i), .d (.int j) => Q (.d (.int (f i j)))
  | _, _ => False
theorem int2 {P : Int → Int → Prop} {g : G2} {sx sy : SV} {Q' : SV → Prop} (h : g sx sy Q') (hg : ∀ sx sy Q', g sx sy Q' → ∃ i j, sx = .d (.int i) ∧ sy = .d (.int j)) : ∃ i j, sx = .d (.int i) ∧ sy = .d (.int j) := hg _ _ _ h
theorem gInt_sh {c : Int → Int → Prop} {f : Int → Int → Int} : ∀ {sx sy : SV} {Q : SV → Prop}, gInt c f sx sy Q → ∃ i j, sx = .d (.int i) ∧ sy = .d (.int j) ∧ c i j ∧ Q (.d (.int (f i j)))
  | .d (.int i), .d (.int j), _, h => ⟨i, j, rfl, rfl, h.1, h.2⟩
theorem gInt0_sh {f : Int → Int → Int} : ∀ {sx sy : SV} {Q : SV → Prop}, gInt0 f sx sy Q → ∃ i j, sx = .d (.int i) ∧ sy = .d (.int j) ∧ Q (.d (.int (f i j)))
  | .d (.int i), .d (.int j), _, h => ⟨i, j, rfl, rfl, h⟩
theorem lift_int {K : Kx} {C c : Int → Int → Prop} {f : Int → Int → Int} (hc : ∀ i j, c i j → C i j) : Lift2 K (rI C fun i j => .int (f i j)) (gInt c f) := by
  intro T B G N H x y sx sy Q Q' h hg hk
  obtain ⟨i, j, rfl, rfl, h1, h2⟩ := gInt_sh hg
  cases h.dp
  cases h.tail.dp
  exact ⟨i, j, rfl, rfl, hc i j h1, hk _ G H _ (h.tail.tail.data (.int _)) (.refl _ _) h2⟩
theorem lift_int0 {K : Kx} {f : Int → Int → Int} : Lift2 K (rI0 fun i j => .int (f i j)) (gInt0 f) := by
  intro T B G N H x y sx sy Q Q' h hg hk
  obtain ⟨i, j, rfl, rfl, h2⟩ := gInt0_sh hg
  cases h.dp
  cases h.tail.dp
  exact ⟨i, j, rfl, rfl, hk _ G H _ (h.tail.tail.data (.int _)) (.refl _ _) h2⟩
def gSub : G2 := gInt0 fun i j => i - j
def cMul (i j : Int) : Prop := (-(2 ^ 64) < i ∧ i < 2 ^ 64) ∨ (-(2 ^ 64) < j ∧ j < 2 ^ 64)
def cDiv (_ j : Int) : Prop := 0 < j ∧ j < 10 ^ 40
def cMod (_ j : Int) : Prop := 0 < j
def cPow (i j : Int) : Prop := 0 ≤ j ∧ j ≤ 1000000 ∧ -(2 ^ 63) < i ∧ i < 2 ^ 63
def gFdiv : G2 := gInt cDiv fun i j => i / j
def gMod : G2 := gInt cMod fun i j => i % j
def gPow : G2 := gInt cPow fun i j => i ^ j.toNat
theorem q_sub (ha : QE X a fa) (hb : QE X b fb) : QE X (.BinOp a .Sub b pos) (wOp gSub fa fb) := q_op op_sub lift_int0 ha hb
theorem q_fdiv (ha : QE X a fa) (hb : QE X b fb) : QE X (.BinOp a .FloorDiv b pos) (wOp gFdiv fa fb) := q_op op_fdivW (lift_int fun i j h => by
  obtain ⟨h1, h2⟩ := h
  refine wide_div (b := 140) h1 ?_ (by decide) (by decide)
  have : (10 : Int) ^ 40 < 2 ^ 140 := by decide
  omega) ha hb
theorem q_mod (ha : QE X a fa) (hb : QE X b fb) : QE X (.BinOp a .Mod b pos) (wOp gMod fa fb) := q_op op_mod (lift_int fun i j h => h) ha hb
theorem q_pow (ha : QE X a fa) (hb : QE X b fb) : QE X (.BinOp a .Pow b pos) (wOp gPow fa fb) := q_op op_pow (lift_int fun i j h => ⟨h.1, h.2.1, by
  obtain ⟨_, _, h1, h2⟩ := h
  have : (2 : Int) ^ 63 < 2 ^ 64 := by decide
  omega⟩) ha hb
/-- *: ints; a tuple some times -/
def rMulA (K : PySem.W.Frag) : R2 := fun x y H Q => rI CMul (fun i j => .int (i * j)) x y H Q ∨ rRepT K x y H Q
theorem op_mulA : OpR X (binaryOp .Mult) (rMulA X.K) := by
  intro pins s σ H x y v u Q I rx ry h
  rcases h with h | h
  · exact op_mul pins s σ H x y v u Q I rx ry h
  · exact op_repT pins s σ H x y v u Q I rx ry h
def gMul : G2 := fun x y Q => match x, y with
  | .d (.int i), .d (.int j) => cMul i j ∧ Q (.d (.int (i * j)))
  | .d (.tuple xs), .d (.int j) => (xs ≠ [] ∧ 2 ≤ j ∧ j ≤ 1000 ∧ xs.length ≤ 1000) ∧ Q (.d (.tuple (List.replicate j.toNat xs).flatten))
  | _, _ => False
theorem dpAll_rep {K : PySem.W.Frag} {H : Hp} {vs : List V} {xs : List PyData} (h : DpAll K H vs xs) : ∀ n : Nat, DpAll K H (List.replicate n vs).flatten (List.replicate n xs).flatten
  | 0 => .nil
  | n + 1 => by
    rw [List.replicate_succ, List.replicate_succ, List.flatten_cons, List.flatten_cons]
    exact dpAll_append h (dpAll_rep h n)
theorem lift_mul {K : Kx} : Lift2 K (rMulA K.K) gMul := by
  intro T B G N H x y sx sy Q Q' h hg hk
  match sx, sy, hg, h with
  | .d (.int i), .d (.int j), hg, h =>
    have d1 := h.dp
    have d2 := h.tail.dp
    cases d1
    cases d2
    exact .inl ⟨i, j, rfl, rfl, hg.1, hk _ G H _ (h.tail.tail.data (.int _)) (.refl _ _) hg.2⟩
  | .d (.tuple xs), .d (.int j), hg, h =>
    have d1 := h.dp
    have d2 := h.tail.dp
    cases d1
    cases d2 with
    | @tup a vs _ hs hd =>
      obtain ⟨⟨n1, n2, n3, n4⟩, hq⟩ := hg
      have l1 := dpAll_len hd
      refine .inr ⟨a, j, vs, rfl, rfl, same_tup h.gH hs, fun z => ?_, n2, n3, by omega, fun p hp => ?_⟩
      · subst z
        cases xs with
        | nil => exact n1 rfl
        | cons _ _ => simp at l1
      · obtain ⟨h3, w3⟩ := h.tail.tail.newTup hp (dpAll_rep hd j.toNat)
        exact hk _ _ _ _ h3 w3 hq
theorem q_mul (ha : QE X a fa) (hb : QE X b fb) : QE X (.BinOp a .Mult b pos) (wOp gMul fa fb) := q_op op_mulA lift_mul ha hb
/-- -x -/
def wNeg (fa : FE) : FE := fun ρ Q => fa ρ fun x => match x with
  | .d (.int i) => Q (.d (.int (-i)))
  | _ => False
theorem q_neg (ha : QE X a fa) : QE X (.UnaryOp .USub a pos) (wNeg fa) := by
  refine PE.imp (pe_un un_neg ha) fun σ H Q h => ?_
  obtain ⟨T, B, G, L, M, Q', rfl, h, hf, hk⟩ := h
  refine ⟨T, B, G, L, M, _, rfl, h, hf, fun x G1 H1 sx h1 w1 q1 => ?_⟩
  match sx, q1, h1 with
  | .d (.int i), q1, h1 =>
    have d1 := h1.dp
    cases d1
    exact ⟨i, rfl, hk _ G1 H1 _ (h1.tail.data (.int _)) w1 q1⟩

/-! ### comparisons -/
def gCmp (p : Int → Int → Bool) : G2 := fun x y Q => match x, y with
  | .d (.int i), .d (.int j) => Q (.d (.bool (p i j)))
  | _, _ => False
theorem lift_cmp {K : Kx} {p : Int → Int → Bool} : Lift2 K (rI0 fun i j => .bl (p i j)) (gCmp p) := by
  intro T B G N H x y sx sy Q Q' h hg hk
  match sx, sy, hg, h with
  | .d (.int i), .d (.int j), hg, h =>
    have d1 := h.dp
    have d2 := h.tail.dp
    cases d1
    cases d2
    exact ⟨i, j, rfl, rfl, hk _ G H _ (h.tail.tail.data (.bl _)) (.refl _ _) hg⟩
def gLt : G2 := gCmp fun i j => decide (i < j)
def gLe : G2 := gCmp fun i j => decide (i ≤ j)
def gGt : G2 := gCmp fun i j => decide (j < i)
def gGe : G2 := gCmp fun i j => decide (j ≤ i)
theorem q_lt (ha : QE X a fa) (hb : QE X b fb) : QE X (.Compare a [.Lt] [b] pos) (wOp gLt fa fb) := q_cmp op_lt lift_cmp ha hb
theorem q_le (ha : QE X a fa) (hb : QE X b fb) : QE X (.Compare a [.LtE] [b] pos) (wOp gLe fa fb) := q_cmp op_le lift_cmp ha hb
theorem q_gt (ha : QE X a fa) (hb : QE X b fb) : QE X (.Compare a [.Gt] [b] pos) (wOp gGt fa fb) := q_cmp op_gt lift_cmp ha hb
theorem q_ge (ha : QE X a fa) (hb : QE X b fb) : QE X (.Compare a [.GtE] [b] pos) (wOp gGe fa fb) := q_cmp op_ge lift_cmp ha hb
theorem qt_lt (ha : QE X a fa) (hb : QE X b fb) : QT X (.Compare a [.Lt] [b] pos) (wB (wOp gLt fa fb)) := qt_cmp op_lt lift_cmp ha hb
theorem qt_le (ha : QE X a fa) (hb : QE X b fb) : QT X (.Compare a [.LtE] [b] pos) (wB (wOp gLe fa fb)) := qt_cmp op_le lift_cmp ha hb
theorem qt_gt (ha : QE X a fa) (hb : QE X b fb) : QT X (.Compare a [.Gt] [b] pos) (wB (wOp gGt fa fb)) := qt_cmp op_gt lift_cmp ha hb
theorem qt_ge (ha : QE X a fa) (hb : QE X b fb) : QT X (.Compare a [.GtE] [b] pos) (wB (wOp gGe fa fb)) := qt_cmp op_ge lift_cmp ha hb
/-- a chain a < b <= c -/
def wChain (p q : Int → Int → Bool) (fa fb fc : FE) : FE := fun ρ Q => fa ρ fun x => fb ρ fun y => match x, y with
  | .d (.int i), .d (.int j) => if p i j = true then fc ρ fun z => match z with
      | .d (.int k) => Q (.d (.bool (q j k)))
      | _ => False
    else Q (.d (.bool false))
  | _, _ => False
theorem t_chain {K : Kx} {p q : Int → Int → Bool} {σ : L2.St} {H : Hp} {Q : VK} (h : tQ K (wChain p q fa fb fc) σ H Q) : tChain (rI0 fun i j => .bl (p i j)) (rI0 fun i j => .bl (q i j)) (tQ K fa) (tQ K fb) (tQ K fc) σ H Q := by
  obtain ⟨T, B, G, L, M, Q', rfl, h, hf, hk⟩ := h
  refine ⟨T, B, G, L, M, _, rfl, h, hf, fun x G1 H1 sx h1 w1 q1 => ?_⟩
  refine ⟨T, B, G1, L, (sx, some x) :: M, _, rfl, h1, q1, fun y G2 H2 sy h2 w2 q2 => ?_⟩
  match sx, sy, q2, h2 with
  | .d (.int i), .d (.int j), q2, h2 =>
    have d1 := h2.dp
    have d2 := h2.tail.dp
    cases d1
    cases d2
    refine ⟨i, j, rfl, rfl, p i j, rfl, ?_⟩
    cases e : p i j with
    | true =>
      rw [if_pos rfl]
      simp only [e, if_true] at q2
      refine ⟨T, B, G2, L, (.d (.int j), some (.int j)) :: M, _, rfl, h2.sub (.cons₂ _ (.cons _ (.refl _))), q2, fun z G3 H3 sz h3 w3 q3 => ?_⟩
      match sz, q3, h3 with
      | .d (.int k), q3, h3 =>
        have d3 := h3.dp
        cases d3
        exact ⟨j, k, rfl, rfl, hk _ G3 H3 _ (h3.tail.tail.data (.bl _)) (w1.trans (w2.trans w3)) q3⟩
    | false =>
      rw [if_neg Bool.false_ne_true]
      simp only [e, Bool.false_eq_true, if_false] at q2
      exact hk _ G2 H2 _ (h2.tail.tail.data (.bl _)) (w1.trans w2) q2
theorem q_chain {op op' : CmpOp} {p q : Int → Int → Bool} (ho : OpR X (compareOp op) (rI0 fun i j => .bl (p i j))) (ho' : OpR X (compareOp op') (rI0 fun i j => .bl (q i j))) (ha : QE X a fa) (hb : QE X b fb) (hc : QE X c fc)
    (hm : lastMarks [op, op'] [b, c] = false := by rfl) :
    QE X (.Compare a [op, op'] [b, c] pos) (wChain p q fa fb fc) := PE.imp (pe_chain ho ho' ha hb hc hm) fun σ H Q h => t_chain h
theorem qt_chain {op op' : CmpOp} {p q : Int → Int → Bool} (ho : OpR X (compareOp op) (rI0 fun i j => .bl (p i j))) (ho' : OpR X (compareOp op') (rI0 fun i j => .bl (q i j))) (ha : QE X a fa) (hb : QE X b fb) (hc : QE X c fc)
    (hm : lastMarks [op, op'] [b, c] = false := by rfl) : QT X (.Compare a [op, op'] [b, c] pos) (wB (wChain p q fa fb fc)) := PT.imp (pt_chain ho ho' ha hb hc hm) fun σ H Q h => t_chain (t_b h)

/-! == -/
def okEq : PyData → PyData → Bool
  | .str _, .str _ => true
  | x, y => SeqAt.shaped x && SeqAt.shaped y
def rEqA (K : PySem.W.Frag) : R2 := fun x y H Q => rEq x y H Q ∨ rEqD K x y H Q
def rNeA (K : PySem.W.Frag) : R2 := fun x y H Q => rNe x y H Q ∨ rNeD K x y H Q
theorem op_eqA (hu : X.A.units + 64 < cLine) : OpR X (compareOp .Eq) (rEqA X.K) := by
  intro pins s σ H x y v u Q I rx ry h
  rcases h with h | h
  · exact op_eq pins s σ H x y v u Q I rx ry h
  · exact op_eqD hu pins s σ H x y v u Q I rx ry h
theorem op_neA (hu : X.A.units + 64 < cLine) : OpR X (compareOp .NotEq) (rNeA X.K) := by
  intro pins s σ H x y v u Q I rx ry h
  rcases h with h | h
  · exact op_ne pins s σ H x y v u Q I rx ry h
  · exact op_neD hu pins s σ H x y v u Q I rx ry h
def gEq : G2 := fun x y Q => match asD x, asD y with
  | some a, some b => okEq a b = true ∧ Q (.d (.bool (PyData.eqv a b)))
  | _, _ => False
def gNe : G2 := fun x y Q => match asD x, asD y with
  | some a, some b => okEq a b = true ∧ Q (.d (.bool (!PyData.eqv a b)))
  | _, _ => False
theorem eqv_str (a b : Str) : PyData.eqv (.str a) (.str b) = (a == b) := by simp [PyData.eqv]
theorem okEq_sh {x y : PyData} (h : okEq x y = true) : (∃ a b, x = .str a ∧ y = .str b) ∨ (SeqAt.shaped x = true ∧ SeqAt.shaped y = true) := by
  cases x with
  | str a =>
    cases y with
    | str b => exact .inl ⟨a, b, rfl, rfl⟩
    | _ => exact .inr (by simpa [okEq] using h)
  | _ => exact .inr (by simpa [okEq] using h)
theorem lift_eq {K : Kx} : Lift2 K (rEqA K.K) gEq := by
  intro T B G N H x y sx sy Q Q' h hg hk
  unfold gEq at hg
  cases ex : asD sx with
  | none => simp only [ex] at hg
  | some dx =>
    cases ey : asD sy with
    | none => simp only [ex, ey] at hg
    | some dy =>
      obtain ⟨G1, h1, d1, d2, w1⟩ := h.frz2 ex ey
      simp only [ex, ey] at hg
      rcases okEq_sh hg.1 with ⟨a, b, rfl, rfl⟩ | ⟨e1, e2⟩
      · cases d1; cases d2
        refine .inl ⟨rfl, ?_⟩
        rw [dec_str, ← eqv_str]
        exact hk _ G1 H _ (h1.data (.bl _)) w1 hg.2
      · exact .inr ⟨dx, dy, dp_mono h1.gH _ _ d1, dp_mono h1.gH _ _ d2, e1, e2, hk _ G1 H _ (h1.data (.bl _)) w1 hg.2⟩
theorem lift_ne {K : Kx} : Lift2 K (rNeA K.K) gNe := by
  intro T B G N H x y sx sy Q Q' h hg hk
  unfold gNe at hg
  cases ex : asD sx with
  | none => simp only [ex] at hg
  | some dx =>
    cases ey : asD sy with
    | none => simp only [ex, ey] at hg
    | some dy =>
      obtain ⟨G1, h1, d1, d2, w1⟩ := h.frz2 ex ey
      simp only [ex, ey] at hg
      rcases okEq_sh hg.1 with ⟨a, b, rfl, rfl⟩ | ⟨e1, e2⟩
      · cases d1; cases d2
        refine .inl ⟨rfl, ?_⟩
        rw [dec_str, ← eqv_str]
        exact hk _ G1 H _ (h1.data (.bl _)) w1 hg.2
      · exact .inr ⟨dx, dy, dp_mono h1.gH _ _ d1, dp_mono h1.gH _ _ d2, e1, e2, hk _ G1 H _ (h1.data (.bl _)) w1 hg.2⟩
theorem q_eq {k : Nat} (hr : Room k X.A) (ha : QE X a fa) (hb : QE X b fb) : QE X (.Compare a [.Eq] [b] pos) (wOp gEq fa fb) := q_cmp (op_eqA hr.units) lift_eq ha hb
theorem q_ne {k : Nat} (hr : Room k X.A) (ha : QE X a fa) (hb : QE X b fb) : QE X (.Compare a [.NotEq] [b] pos) (wOp gNe fa fb) := q_cmp (op_neA hr.units) lift_ne ha hb
theorem qt_eq {k : Nat} (hr : Room k X.A) (ha : QE X a fa) (hb : QE X b fb) : QT X (.Compare a [.Eq] [b] pos) (wB (wOp gEq fa fb)) := qt_cmp (op_eqA hr.units) lift_eq ha hb
theorem qt_ne {k : Nat} (hr : Room k X.A) (ha : QE X a fa) (hb : QE X b fb) : QT X (.Compare a [.NotEq] [b] pos) (wB (wOp gNe fa fb)) := qt_cmp (op_neA hr.units) lift_ne ha hb

/-! is None -/
def isNoneD : PyData → Bool
  | .none => true
  | _ => false
theorem dp_none {K : PySem.W.Frag} {H : Hp} {v : V} {x : PyData} (h : Dp K H v x) : decide (v = .non) = isNoneD x := by
  cases h <;> rfl
def gIs : G2 := fun x y Q => match asD x, y with
  | some a, .d .none => Q (.d (.bool (isNoneD a)))
  | _, _ => False
def gIsNot : G2 := fun x y Q => match asD x, y with
  | some a, .d .none => Q (.d (.bool (!isNoneD a)))
  | _, _ => False
theorem lift_is {K : Kx} : Lift2 K (fun x y H Q => y = .non ∧ Q (.bl (decide (x = .non))) H) gIs := by
  intro T B G N H x y sx sy Q Q' h hg hk
  unfold gIs at hg
  cases ex : asD sx with
  | none => simp only [ex] at hg
  | some dx =>
    simp only [ex] at hg
    match sy, hg, h with
    | .d .none, hg, h =>
      obtain ⟨G1, h1, d1, d2, w1⟩ := h.frz2 ex rfl
      cases d2
      rw [dp_none d1]
      exact ⟨rfl, hk _ G1 H _ (h1.data (.bl _)) w1 hg⟩
theorem lift_isNot {K : Kx} : Lift2 K (fun x y H Q => y = .non ∧ Q (.bl (!decide (x = .non))) H) gIsNot := by
  intro T B G N H x y sx sy Q Q' h hg hk
  unfold gIsNot at hg
  cases ex : asD sx with
  | none => simp only [ex] at hg
  | some dx =>
    simp only [ex] at hg
    match sy, hg, h with
    | .d .none, hg, h =>
      obtain ⟨G1, h1, d1, d2, w1⟩ := h.frz2 ex rfl
      cases d2
      rw [dp_none d1]
      exact ⟨rfl, hk _ G1 H _ (h1.data (.bl _)) w1 hg⟩
theorem q_is (ha : QE X a fa) (hb : QE X b fb) : QE X (.Compare a [.Is] [b] pos) (wOp gIs fa fb) := q_cmp op_isN lift_is ha hb
theorem q_isNot (ha : QE X a fa) (hb : QE X b fb) : QE X (.Compare a [.IsNot] [b] pos) (wOp gIsNot fa fb) := q_cmp op_notN lift_isNot ha hb
theorem qt_is (ha : QE X a fa) (hb : QE X b fb) : QT X (.Compare a [.Is] [b] pos) (wB (wOp gIs fa fb)) := qt_cmp op_isN lift_is ha hb
theorem qt_isNot (ha : QE X a fa) (hb : QE X b fb) : QT X (.Compare a [.IsNot] [b] pos) (wB (wOp gIsNot fa fb)) := qt_cmp op_notN lift_isNot ha hb

/-! in, not in: flat items -/
def flatD : PyData → Bool
  | .none | .bool _ | .int _ | .str _ => true
  | _ => false
theorem flat_dp {K : PySem.W.Frag} {H : Hp} {v : V} {x : PyData} (h : Dp K H v x) (f : flatD x = true) : flatV v = true := by
  cases h <;> first | rfl | cases f
theorem eqV_dp {K : PySem.W.Frag} {H : Hp} {v u : V} {x y : PyData} (h : Dp K H v x) (h' : Dp K H u y) (f : flatD x = true) (f' : flatD y = true) : eqV v u = PyData.eqv x y := by
  cases h <;> cases h' <;> first | (cases f; done) | (cases f'; done) | simp [eqV, PyData.eqv]
theorem inV_dp {K : PySem.W.Frag} {H : Hp} {u : V} {y : PyData} (h' : Dp K H u y) (f' : flatD y = true) : ∀ {xs : List PyData} {vs : List V}, DpAll K H vs xs → xs.all flatD = true → vs.all flatV = true ∧ inV u vs = xs.any fun x => PyData.eqv x y
  | [], vs, h, _ => by cases h; exact ⟨rfl, rfl⟩
  | x :: xs, vs, h, f => by
    cases h with
    | cons h1 h2 =>
      simp only [List.all_cons, Bool.and_eq_true] at f
      obtain ⟨i1, i2⟩ := inV_dp h' f' h2 f.2
      refine ⟨by simp only [List.all_cons, flat_dp h1 f.1, i1, Bool.and_self], ?_⟩
      unfold inV at i2 ⊢
      rw [List.any_cons, List.any_cons, i2, eqV_dp h1 h' f.1 f']
def gIn (neg : Bool) : G2 := fun x y Q => match x, asD y with
  | .d a, some (.list xs) => (flatD a = true ∧ xs.all flatD = true) ∧ Q (.d (.bool (if neg then !(xs.any fun x => PyData.eqv x a) else xs.any fun x => PyData.eqv x a)))
  | .d a, some (.tuple xs) => (flatD a = true ∧ xs.all flatD = true) ∧ Q (.d (.bool (if neg then !(xs.any fun x => PyData.eqv x a) else xs.any fun x => PyData.eqv x a)))
  | _, _ => False
theorem lift_in {K : Kx} (neg : Bool) : Lift2 K (rIn K.K neg) (gIn neg) := by
  intro T B G N H x y sx sy Q Q' h hg hk
  unfold gIn at hg
  match sx, hg, h with
  | .d a, hg, h =>
    cases ey : asD sy with
    | none => simp only [ey] at hg
    | some dy =>
      obtain ⟨G1, h1, d1, d2, w1⟩ := h.frz2 rfl ey
      simp only [ey] at hg
      match dy, hg, d2 with
      | .list xs, hg, d2 =>
        cases d2 with
        | @lst p vs _ hs hd =>
          obtain ⟨i1, i2⟩ := inV_dp d1 hg.1.1 hd hg.1.2
          exact ⟨p, vs, rfl, .inl (h1.gH.seq hs), flat_dp d1 hg.1.1, i1, by rw [i2]; exact hk _ G1 H _ (h1.data (.bl _)) w1 hg.2⟩
      | .tuple xs, hg, d2 =>
        cases d2 with
        | @tup p vs _ hs hd =>
          obtain ⟨i1, i2⟩ := inV_dp d1 hg.1.1 hd hg.1.2
          exact ⟨p, vs, rfl, .inr (same_tup h1.gH hs), flat_dp d1 hg.1.1, i1, by rw [i2]; exact hk _ G1 H _ (h1.data (.bl _)) w1 hg.2⟩
theorem q_in (ha : QE X a fa) (hb : QE X b fb) (hm : behindInMarks .In b = false := by rfl) : QE X (.Compare a [.In] [b] pos) (wOp (gIn false) fa fb) := q_cmp op_in_seq (lift_in false) ha hb hm
theorem q_notIn (ha : QE X a fa) (hb : QE X b fb) (hm : behindInMarks .NotIn b = false := by rfl) : QE X (.Compare a [.NotIn] [b] pos) (wOp (gIn true) fa fb) := q_cmp op_notIn_seq (lift_in true) ha hb hm
theorem qt_in (ha : QE X a fa) (hb : QE X b fb) (hm : behindInMarks .In b = false := by rfl) : QT X (.Compare a [.In] [b] pos) (wB (wOp (gIn false) fa fb)) := qt_cmp op_in_seq (lift_in false) ha hb hm
theorem qt_notIn (ha : QE X a fa) (hb : QE X b fb) (hm : behindInMarks .NotIn b = false := by rfl) : QT X (.Compare a [.NotIn] [b] pos) (wB (wOp (gIn true) fa fb)) := qt_cmp op_notIn_seq (lift_in true) ha hb hm

/-! ### subscripts -/
def gIx : G2 := fun x y Q => match x, y with
  | .d (.list xs), .d (.int i) => match atI xs i with
    | some z => Q (.d z)
    | none => False
  | .own xs, .d (.int i) => match atI xs i with
    | some z => Q (.d z)
    | none => False
  | .d (.tuple xs), .d (.int i) => match atI xs i with
    | some z => Q (.d z)
    | none => False
  | .tpo _ xs, .d (.int i) => match atI xs i with
    | some z => Q (.d z)
    | none => False
  | _, _ => False
theorem atI_dp {K : PySem.W.Frag} {H : Hp} {vs : List V} {xs : List PyData} {i : Int} {z : PyData} (h : DpAll K H vs xs) (e : atI xs i = some z) : ∃ v, atI vs i = some v ∧ Dp K H v z := by
  unfold atI at e ⊢
  rw [← dpAll_len h] at e
  cases q : ixN vs.length i with
  | none => rw [q] at e; cases e
  | some j => rw [q] at e; exact dpAll_get' h e
def rIxA (K : PySem.W.Frag) : R2 := fun x y H Q => rIxL K x y H Q ∨ rIxT K x y H Q
theorem ix_all : IxR X (rIxA X.K) := IxR.or ix_list ix_tup
theorem lift_ix {K : Kx} : LiftR K (rIxA K.K) gIx := by
  intro T B G N H x y sx sy Q Q' h mx my hg hk
  unfold gIx at hg
  match sx, sy, hg, mx, my with
  | .d (.list xs), .d (.int i), hg, mx, my =>
    obtain ⟨p, vs, rfl, hs, hd⟩ := h.atL (.inr mx)
    cases (show Dp K.K G y (.int i) from h.ok _ my)
    cases e : atI xs i with
    | none => simp only [e] at hg
    | some z =>
      simp only [e] at hg
      obtain ⟨v, e1, d1⟩ := atI_dp hd e
      exact .inl ⟨p, vs, i, v, rfl, rfl, hs, e1, hk v G H _ (h.data d1) (.refl _ _) hg⟩
  | .own xs, .d (.int i), hg, mx, my =>
    obtain ⟨p, vs, rfl, hs, hd⟩ := h.atL (.inl mx)
    cases (show Dp K.K G y (.int i) from h.ok _ my)
    cases e : atI xs i with
    | none => simp only [e] at hg
    | some z =>
      simp only [e] at hg
      obtain ⟨v, e1, d1⟩ := atI_dp hd e
      exact .inl ⟨p, vs, i, v, rfl, rfl, hs, e1, hk v G H _ (h.data d1) (.refl _ _) hg⟩
  | .d (.tuple xs), .d (.int i), hg, mx, my =>
    obtain ⟨p, vs, rfl, hs, hd⟩ := h.atT mx
    cases (show Dp K.K G y (.int i) from h.ok _ my)
    cases e : atI xs i with
    | none => simp only [e] at hg
    | some z =>
      simp only [e] at hg
      obtain ⟨v, e1, d1⟩ := atI_dp hd e
      exact .inr ⟨p, vs, i, v, rfl, rfl, hs, e1, hk v G H _ (h.data d1) (.refl _ _) hg⟩
  | .tpo b xs, .d (.int i), hg, mx, my =>
    have hx := h.ok _ mx
    match x, hx with
    | .ref p, hx =>
      obtain ⟨_, _, vs, hs, hd⟩ := hx
      cases (show Dp K.K G y (.int i) from h.ok _ my)
      cases e : atI xs i with
      | none => simp only [e] at hg
      | some z =>
        simp only [e] at hg
        obtain ⟨v, e1, d1⟩ := atI_dp hd e
        exact .inl ⟨p, vs, i, v, rfl, rfl, SqL.of hs, e1, hk v G H _ (h.data d1) (.refl _ _) hg⟩
theorem q_at0 : True := trivial
theorem q_at (ha : QR X a fa) (hb : QE X b fb) (hs : PlainIx b := by intros; rfl) : QE X (.Subscript a b pos) (wOp gIx fa fb) := q_ix ix_all lift_ix ha hb hs

/-! slices -/
abbrev FO := List SV → (Option Int → Prop) → Prop
def wNoP : FO := fun _ Q => Q none
def wPart (fe : FE) : FO := fun ρ Q => fe ρ fun x => match x with
  | .d (.int i) => Q (some i)
  | _ => False
def tQO (K : Kx) (f : FO) : TO := fun σ H Q => ∃ (T : Option Tape) (B G : Hp) (L M : List Sl) (Q' : Option Int → Prop), σ = L.map Prod.snd ∧ SR K T B G (M ++ L) H ∧ f (L.map Prod.fst) Q' ∧
  ∀ (o : Option Int) (G' H' : Hp), SR K T B G' (M ++ L) H' → Gw B G G' → Q' o → Q o H'
def QO (X : Cx) (e : Option Expr) (f : FO) : Prop := PO X e (tQO (kx X) f)
theorem PO.imp {e : Option Expr} {t t' : TO} (h : PO X e t) (f : ∀ σ H Q, t' σ H Q → t σ H Q) : PO X e t' := ⟨fun pins s σ H Q I q => h.run pins s σ H Q I (f _ _ _ q)⟩
theorem qo_none : QO X none wNoP := by
  refine PO.imp po_none fun σ H Q h => ?_
  obtain ⟨T, B, G, L, M, Q', rfl, h, hf, hk⟩ := h
  exact hk none G H h (.refl _ _) hf
theorem qo_some (he : QE X e fe) : QO X (some e) (wPart fe) := by
  refine PO.imp (po_some he) fun σ H Q h => ?_
  obtain ⟨T, B, G, L, M, Q', rfl, h, hf, hk⟩ := h
  refine ⟨T, B, G, L, M, _, rfl, h, hf, fun x G1 H1 sx h1 w1 q1 => ?_⟩
  match sx, q1, h1 with
  | .d (.int i), q1, h1 =>
    have d1 := h1.dp
    cases d1
    exact ⟨i, rfl, hk _ G1 H1 h1.tail w1 q1⟩
def cutD (xs : List PyData) (lo hi : Option Int) : List PyData := (xs.drop (HT.sIx xs.length 0 lo)).take (HT.sIx xs.length xs.length hi - HT.sIx xs.length 0 lo)
theorem cut_dp {K : PySem.W.Frag} {H : Hp} {vs : List V} {xs : List PyData} (h : DpAll K H vs xs) (lo hi : Option Int) : DpAll K H (cutV vs lo hi) (cutD xs lo hi) := by
  unfold cutV cutD
  rw [dpAll_len h]
  exact dpAll_take (dpAll_drop h _) _
theorem cut_whole {xs : List PyData} {lo hi : Option Int} (h : HT.sIx xs.length 0 lo = 0 ∧ HT.sIx xs.length xs.length hi = xs.length) : cutD xs lo hi = xs := by
  unfold cutD
  rw [h.1, h.2]
  simp
def wCut (fe : FE) (fl fh : FO) : FE := fun ρ Q => fe ρ fun x => fl ρ fun lo => fh ρ fun hi => match x with
  | .d (.list xs) => Q (.own (cutD xs lo hi))
  | .own xs => Q (.own (cutD xs lo hi))
  | .d (.tuple xs) => Q (.d (.tuple (cutD xs lo hi)))
  | .d (.str z) => z.length ≤ sizeLine ∧ Q (.d (.str (cutS z lo hi)))
  | _ => False
theorem sl_all : SlR X (fun x lo hi H Q => rSlL X.K x lo hi H Q ∨ (fun x lo hi H Q => rSlA X.K x lo hi H Q ∨ rSlS x lo hi H Q) x lo hi H Q) := SlR.or sl_list (SlR.or sl_tupA sl_str)
theorem q_slice {lo hi : Option Expr} {fl fh : FO} {p2 : Pos} (he : QR X e fe) (hl : QO X lo fl) (hu : QO X hi fh) : QE X (.Subscript e (.Slice lo hi none p2) pos) (wCut fe fl fh) := by
  refine PE.imp (pe_slice sl_all he hl hu) fun σ H Q h => ?_
  obtain ⟨T, B, G, L, M, Q', rfl, h, hf, hk⟩ := h
  refine ⟨T, B, G, L, M, _, rfl, h, hf, fun x G1 H1 sx M' h1 m1 w1 q1 => ?_⟩
  refine ⟨T, B, G1, L, M' ++ M, _, rfl, by rw [List.append_assoc]; exact h1, q1, fun lo' G2 H2 h2 w2 q2 => ?_⟩
  refine ⟨T, B, G2, L, M' ++ M, _, rfl, h2, q2, fun hi' G3 H3 h3 w3 q3 => ?_⟩
  rw [List.append_assoc] at h3
  have w4 := w1.trans (w2.trans w3)
  have sb : ∀ p : Sl, (p :: (M ++ L)).Sublist (p :: (M' ++ (M ++ L))) := fun p => .cons₂ _ (List.sublist_append_right M' _)
  match sx, q3, m1 with
  | .d (.list xs), q3, m1 =>
    obtain ⟨p, vs, rfl, hs, hd⟩ := h3.atL (.inr m1)
    exact .inl ⟨p, vs, rfl, hs, fun q hq => hk _ _ _ _ ((h3.newOwn hq (cut_dp hd lo' hi')).sub (sb _)) w4 q3⟩
  | .own xs, q3, m1 =>
    obtain ⟨p, vs, rfl, hs, hd⟩ := h3.atL (.inl m1)
    exact .inl ⟨p, vs, rfl, hs, fun q hq => hk _ _ _ _ ((h3.newOwn hq (cut_dp hd lo' hi')).sub (sb _)) w4 q3⟩
  | .d (.tuple xs), q3, m1 =>
    obtain ⟨p, vs, rfl, hs, hd⟩ := h3.atT m1
    refine .inr (.inl ⟨p, vs, rfl, hs, fun hw => ?_, fun _ q hq => ?_⟩)
    · rw [dpAll_len hd] at hw
      have e := cut_whole hw
      have q3' : Q' (.d (.tuple (cutD xs lo' hi'))) := q3
      rw [e] at q3'
      exact hk _ G3 H3 _ ((h3.data (h3.ok _ m1)).sub (sb _)) w4 q3'
    · obtain ⟨h5, w5⟩ := h3.newTup hq (cut_dp hd lo' hi')
      exact hk _ _ _ _ (h5.sub (sb _)) (w4.trans w5) q3
  | .d (.str z), q3, m1 =>
    cases (show Dp X.K G3 x (.str z) from h3.ok _ m1)
    exact .inr (.inr ⟨z, rfl, q3.1, hk _ G3 H3 _ ((h3.data (.str _)).sub (sb _)) w4 q3.2⟩)
end
end Z

/-! own lists and dicts; built-ins; more iterations -/
namespace Z
open PySem PySem.Spec PyProof.Rows L2

/-! ### dicts as data -/
def getD (kvs : List (PyData × PyData)) (k : PyData) : Option PyData := (kvs.find? fun kv => PyData.eqv kv.1 k).map (·.2)
def putD (kvs : List (PyData × PyData)) (k v : PyData) : List (PyData × PyData) :=
  if (kvs.any fun kv => PyData.eqv kv.1 k) = true then kvs.map (fun kv => if PyData.eqv kv.1 k = true then (kv.1, v) else kv) else kvs ++ [(k, v)]
def keyOf : PyData → Option Key
  | .int i => some (.inl i)
  | .str z => some (.inr z)
  | _ => none
theorem keyOf_D {x : PyData} {k : Key} (h : keyOf x = some k) : x = keyD k := by
  cases x <;> first | (cases h; rfl) | cases h
theorem eqv_key (a b : Key) : PyData.eqv (keyD a) (keyD b) = decide (a = b) := by
  cases a <;> cases b
  · simp only [keyD, PyData.eqv]; rw [key_ll]
  · simp only [keyD, PyData.eqv]; rw [key_lr]
  · simp only [keyD, PyData.eqv]; rw [key_rl]
  · simp only [keyD, PyData.eqv]; rw [key_rr]; exact Bool.beq_eq_decide_eq _ _
section
variable {K : Kx} {G : Hp}
theorem kvr_get {k : Key} : ∀ {ks : List (Key × V)} {kvs : List (PyData × PyData)}, KvR K G ks kvs → (∀ x, getD kvs (keyD k) = some x → ∃ v, valV ks k = some v ∧ Dp K.K G v x) ∧ (getD kvs (keyD k) = none → valV ks k = none)
  | _, _, .nil => ⟨(fun x h => by cases h), (fun _ => rfl)⟩
  | p :: ks, q :: kvs, .cons h t => by
    obtain ⟨i1, i2⟩ := kvr_get (k := k) t
    have e : PyData.eqv q.1 (keyD k) = decide (p.1 = k) := by rw [← h.1, eqv_key]
    unfold getD at i1 i2 ⊢
    rw [List.find?_cons, e]
    by_cases hp : p.1 = k
    · rw [decide_eq_true hp, valV_pos hp]
      exact ⟨(fun x hx => by cases hx; exact ⟨_, rfl, h.2⟩), (fun hx => by cases hx)⟩
    · rw [decide_eq_false hp, valV_neg hp]
      exact ⟨i1, i2⟩
theorem kvr_any {k : Key} : ∀ {ks : List (Key × V)} {kvs : List (PyData × PyData)}, KvR K G ks kvs → (ks.any fun kv => decide (kv.1 = k)) = kvs.any fun kv => PyData.eqv kv.1 (keyD k)
  | _, _, .nil => rfl
  | p :: ks, q :: kvs, .cons h t => by
    rw [List.any_cons, List.any_cons, kvr_any t, ← h.1, eqv_key]
theorem kvr_map {k : Key} {v : V} {x : PyData} (hd : Dp K.K G v x) : ∀ {ks : List (Key × V)} {kvs : List (PyData × PyData)}, KvR K G ks kvs →
    KvR K G (ks.map fun kv => if kv.1 = k then (kv.1, v) else kv) (kvs.map fun kv => if PyData.eqv kv.1 (keyD k) = true then (kv.1, x) else kv)
  | _, _, .nil => .nil
  | p :: ks, q :: kvs, .cons h t => by
    rw [List.map_cons, List.map_cons]
    refine .cons ?_ (kvr_map hd t)
    have e : PyData.eqv q.1 (keyD k) = decide (p.1 = k) := by rw [← h.1, eqv_key]
    rw [e]
    by_cases hp : p.1 = k
    · rw [if_pos hp, if_pos (decide_eq_true hp)]; exact ⟨h.1, hd⟩
    · rw [if_neg hp, if_neg (by rw [decide_eq_false hp]; exact Bool.false_ne_true)]; exact h
theorem kvr_append : ∀ {ks ks' : List (Key × V)} {kvs kvs' : List (PyData × PyData)}, KvR K G ks kvs → KvR K G ks' kvs' → KvR K G (ks ++ ks') (kvs ++ kvs')
  | _, _, _, _, .nil, h => h
  | _, _, _, _, .cons a b, h => .cons a (kvr_append b h)
theorem kvr_put {k : Key} {v : V} {x : PyData} {ks : List (Key × V)} {kvs : List (PyData × PyData)} (h : KvR K G ks kvs) (hd : Dp K.K G v x) : KvR K G (putK ks k v) (putD kvs (keyD k) x) := by
  unfold putK putD
  rw [kvr_any h]
  split
  · exact kvr_map hd h
  · exact kvr_append h (.cons ⟨rfl, hd⟩ .nil)
theorem kvr_len : ∀ {ks : List (Key × V)} {kvs : List (PyData × PyData)}, KvR K G ks kvs → ks.length = kvs.length
  | _, _, .nil => rfl
  | _, _, .cons _ t => by rw [List.length_cons, List.length_cons, kvr_len t]
theorem kV_dp {k : Key} {v : V} (h : Dp K.K G v (keyD k)) : v = kV k := by
  cases k <;> (cases h; rfl)
end

section
variable {X : Cx} {a b c e o i : Expr} {fa fb fc fe fo fi : FE} {pos : Pos}

/-! a written dict of the module with text keys -/
structure KMap (K : Kx) (d : Addr) (kvs : List (PyData × PyData)) : Prop where
  get : ∀ (z : Str) (x : PyData), getD kvs (.str z) = some x → ∃ v, KDct K.K K.w d z v ∧ ∀ G, Dp K.K G v x

/-- d[k], d an own dict -/
def rIxDK (K : PySem.W.Frag) : R2 := fun x y H Q => ∃ a v, x = .ref a ∧ (∃ kvs, H a = some (.dK kvs)) ∧ DGet H a y (some v) ∧ Q v H
theorem ix_dK (hu : X.A.units + 1 < cLine) : IxR X (rIxDK X.K) := by
  intro value slice pins s σ H x y v u Q I rx ry h hs
  obtain ⟨a, z, rfl, ⟨kvs, ha⟩, hg, q⟩ := h
  obtain rfl : v = Value.ref a := rx
  obtain ⟨_, _, vs, _, dd⟩ := dk_of I.hok ha
  exact tail_any dd.typeIs slot_dict_getitem.lookup (d_getItem hu I hg ry fun w' s' I' r' => ⟨z, H, I', r', q⟩) hs
def gIxD : G2 := fun x y Q => match x, y with
  | .dct kvs, .d k => (keyOf k).isSome = true ∧ match getD kvs k with
    | some z => Q (.d z)
    | none => False
  | _, _ => False
theorem lift_ixD {K : Kx} : LiftR K (rIxDK K.K) gIxD := by
  intro T B G N H x y sx sy Q Q' h mx my hg hk
  unfold gIxD at hg
  match sx, sy, hg, mx, my with
  | .dct kvs, .d k, hg, mx, my =>
    obtain ⟨hk1, hg⟩ := hg
    cases ek : keyOf k with
    | none => rw [ek] at hk1; cases hk1
    | some kk =>
      have e := keyOf_D ek
      subst e
      have hy := kV_dp (show Dp K.K G y (keyD kk) from h.ok _ my)
      subst hy
      have hx := h.ok _ mx
      match x, hx with
      | .ref a, hx =>
        obtain ⟨_, ks, ea, hr⟩ := hx
        cases eg : getD kvs (keyD kk) with
        | none => simp only [eg] at hg
        | some z =>
          simp only [eg] at hg
          obtain ⟨v, e1, d1⟩ := (kvr_get hr).1 z eg
          exact ⟨a, v, rfl, ⟨ks, ea⟩, by rw [← e1]; exact DGet.k ea, hk v G H _ (h.data d1) (.refl _ _) hg⟩
theorem q_atD {k : Nat} (hr : Room k X.A) (ha : QR X a fa) (hb : QE X b fb) (hs : PlainIx b := by intros; rfl) : QE X (.Subscript a b pos) (wOp gIxD fa fb) := q_ix (ix_dK (hu_of hr)) lift_ixD ha hb hs
/-- NAME[k], NAME a written dict -/
def wKD (kvs : List (PyData × PyData)) (fb : FE) : FE := fun ρ Q => fb ρ fun y => match y with
  | .d (.str z) => match getD kvs (.str z) with
    | some x => Q (.d x)
    | none => False
  | _ => False
theorem q_atK {x : Str} {d : Addr} {kvs : List (PyData × PyData)} {p : Pos} (hg : Gl X x) (hm : X.mg x = some (.ref d)) (D : KMap (kx X) d kvs) (hb : QE X b fb) (hdb : (x == ("__debug__" : Str)) = false := by decide) (hs : PlainIx b := by intros; rfl) :
    QE X (.Subscript (.Name x p) b pos) (wKD kvs fb) := by
  refine PE.imp (pe_ix ix_kdict (pe_glob (v := .ref d) hg hm rfl hdb) hb hs) fun σ H Q h => ?_
  obtain ⟨T, B, G, L, M, Q', rfl, h, hf, hk⟩ := h
  show tQ (kx X) fb _ H _
  refine ⟨T, B, G, L, M, _, rfl, h, hf, fun v G1 H1 sv h1 w1 q1 => ?_⟩
  match sv, q1, h1 with
  | .d (.str z), q1, h1 =>
    have d1 := h1.dp
    cases d1
    cases eg : getD kvs (.str z) with
    | none => simp only [eg] at q1
    | some y =>
      simp only [eg] at q1
      obtain ⟨v, kd, hd⟩ := D.get z y eg
      exact ⟨d, z, v, rfl, rfl, kd, hk v G1 H1 _ (h1.tail.data (hd G1)) w1 q1⟩

/-! in, not in a dict -/
def gInD (neg : Bool) : G2 := fun x y Q => match x, y with
  | .d k, .dct kvs => (keyOf k).isSome = true ∧ Q (.d (.bool (if neg then !(getD kvs k).isSome else (getD kvs k).isSome)))
  | _, _ => False
theorem q_inD {k : Nat} (hr : Room k X.A) (ha : QE X a fa) (hb : QR X b fb) (h1 : behindInMarks .In b = false := by rfl) : QE X (.Compare a [.In] [b] pos) (wOp (gInD false) fa fb) := by
  refine PE.imp (pe_cmp (pc_din (hu_of hr) ha hb) h1) fun σ H Q h => ?_
  obtain ⟨T, B, G, L, M, Q', rfl, h, hf, hk⟩ := h
  refine ⟨T, B, G, L, M, _, rfl, h, hf, fun x G1 H1 sx h1 w1 q1 => ?_⟩
  refine ⟨T, B, G1, L, (sx, some x) :: M, _, rfl, h1, q1, fun y G2 H2 sy M' h2 m2 w2 q2 => ?_⟩
  match sx, sy, q2, h2, m2 with
  | .d kd, .dct kvs, q2, h2, m2 =>
    obtain ⟨hk1, q2⟩ := q2
    cases ek : keyOf kd with
    | none => rw [ek] at hk1; cases hk1
    | some kk =>
      have e := keyOf_D ek
      subst e
      have hx : Dp X.K G2 x (keyD kk) := h2.ok (.d (keyD kk), some x) (List.mem_append_right _ List.mem_cons_self)
      have hy := kV_dp (K := kx X) hx
      subst hy
      have hz := h2.ok _ m2
      match y, hz with
      | .ref p, hz =>
        obtain ⟨_, ks, ea, hr⟩ := hz
        refine ⟨p, valV ks kk, rfl, DGet.k ea, ?_⟩
        have e1 : (valV ks kk).isSome = (getD kvs (keyD kk)).isSome := by
          obtain ⟨i1, i2⟩ := kvr_get (k := kk) hr
          cases eg : getD kvs (keyD kk) with
          | none => rw [i2 eg]; rfl
          | some z => obtain ⟨v, ev, _⟩ := i1 z eg; rw [ev]; rfl
        rw [e1]
        exact hk _ G2 H2 _ ((h2.data (.bl _)).sub (.cons₂ _ (.trans (.cons _ (.refl _)) (List.sublist_append_right M' _)))) (w1.trans w2) q2
theorem q_notInD {k : Nat} (hr : Room k X.A) (ha : QE X a fa) (hb : QR X b fb) (h1 : behindInMarks .NotIn b = false := by rfl) : QE X (.Compare a [.NotIn] [b] pos) (wOp (gInD true) fa fb) := by
  refine PE.imp (pe_cmp (pc_dnotin (hu_of hr) ha hb) h1) fun σ H Q h => ?_
  obtain ⟨T, B, G, L, M, Q', rfl, h, hf, hk⟩ := h
  refine ⟨T, B, G, L, M, _, rfl, h, hf, fun x G1 H1 sx h1 w1 q1 => ?_⟩
  refine ⟨T, B, G1, L, (sx, some x) :: M, _, rfl, h1, q1, fun y G2 H2 sy M' h2 m2 w2 q2 => ?_⟩
  match sx, sy, q2, h2, m2 with
  | .d kd, .dct kvs, q2, h2, m2 =>
    obtain ⟨hk1, q2⟩ := q2
    cases ek : keyOf kd with
    | none => rw [ek] at hk1; cases hk1
    | some kk =>
      have e := keyOf_D ek
      subst e
      have hx : Dp X.K G2 x (keyD kk) := h2.ok (.d (keyD kk), some x) (List.mem_append_right _ List.mem_cons_self)
      have hy := kV_dp (K := kx X) hx
      subst hy
      have hz := h2.ok _ m2
      match y, hz with
      | .ref p, hz =>
        obtain ⟨_, ks, ea, hr⟩ := hz
        refine ⟨p, valV ks kk, rfl, DGet.k ea, ?_⟩
        have e1 : (valV ks kk).isSome = (getD kvs (keyD kk)).isSome := by
          obtain ⟨i1, i2⟩ := kvr_get (k := kk) hr
          cases eg : getD kvs (keyD kk) with
          | none => rw [i2 eg]; rfl
          | some z => obtain ⟨v, ev, _⟩ := i1 z eg; rw [ev]; rfl
        rw [e1]
        exact hk _ G2 H2 _ ((h2.data (.bl _)).sub (.cons₂ _ (.trans (.cons _ (.refl _)) (List.sublist_append_right M' _)))) (w1.trans w2) q2

/-! {..} -/
def wDNew : FE := fun _ Q => Q (.dct [])
theorem q_dnew : QE X (.Dict [] [] pos) wDNew := by
  refine PE.imp pe_dnewK fun σ H Q h => ?_
  obtain ⟨T, B, G, L, M, Q', rfl, h, hf, hk⟩ := h
  exact fun p hp => hk _ G _ _ (h.newDct hp .nil) (.refl _ _) hf
/-- {k: v, ..}, the keys written texts (or ints), the values data -/
def wPairs : List (FE × FE) → List SV → (List (PyData × PyData) → Prop) → Prop
  | [], _, Q => Q []
  | (fk, fv) :: r, ρ, Q => fk ρ fun x => fv ρ fun y => match x, asD y with
    | .d k, some d => (keyOf k).isSome = true ∧ wPairs r ρ fun ps => Q ((k, d) :: ps)
    | _, _ => False
def mergeD (kvs more : List (PyData × PyData)) : List (PyData × PyData) := more.foldl (fun acc kv => putD acc kv.1 kv.2) kvs
def wDisp (trs : List (FE × FE)) : FE := fun ρ Q => wPairs trs ρ fun ps => ps.length ≤ 15 ∧ Q (.dct (mergeD [] ps))
def QPs (X : Cx) (pos : Pos) (keys : List (Option Expr)) (values : List Expr) (trs : List (FE × FE)) : Prop := PPs X pos keys values (trs.map fun p => (tQ (kx X) p.1, tQ (kx X) p.2))
theorem qps_nil : QPs X pos [] [] [] := pps_nil
theorem qps_cons {k v : Expr} {ks : List (Option Expr)} {vs : List Expr} {fk fv : FE} {trs : List (FE × FE)} (hk : QE X k fk) (hv : QE X v fv) (hr : QPs X pos ks vs trs) : QPs X pos (some k :: ks) (v :: vs) ((fk, fv) :: trs) := pps_cons hk hv hr
theorem merge_kvr {K : Kx} {G : Hp} : ∀ {more : List (Key × V)} {ps : List (PyData × PyData)} {ks : List (Key × V)} {kvs : List (PyData × PyData)}, KvR K G more ps → KvR K G ks kvs → KvR K G (mergeK ks more) (mergeD kvs ps)
  | _, _, _, _, .nil, h => h
  | p :: more, q :: ps, ks, kvs, .cons a t, h => by
    have z := kvr_put (k := p.1) h a.2
    rw [a.1] at z
    exact merge_kvr (more := more) (ps := ps) t z
theorem t_pairs {K : Kx} {T : Option Tape} {B : Hp} {L : List Sl} : ∀ (trs : List (FE × FE)) {G H : Hp} {M : List Sl} {Q : List (V × V) → Hp → Prop} {Q' : List (PyData × PyData) → Prop}, SR K T B G (M ++ L) H → wPairs trs (L.map Prod.fst) Q' →
    (∀ (ks : List (Key × V)) (ps : List (PyData × PyData)) (G' H' : Hp), SR K T B G' (M ++ L) H' → Gw B G G' → KvR K G' ks ps → ks.length = ps.length → Q' ps → Q (ks.map fun kv => (kV kv.1, kv.2)) H') → tPairs (trs.map fun p => (tQ K p.1, tQ K p.2)) (L.map Prod.snd) H Q
  | [], G, H, M, Q, Q', h, hf, hk => hk [] [] G H h (.refl _ _) .nil rfl hf
  | (fk, fv) :: r, G, H, M, Q, Q', h, hf, hk => by
    refine ⟨T, B, G, L, M, _, rfl, h, hf, fun x G1 H1 sx h1 w1 q1 => ?_⟩
    refine ⟨T, B, G1, L, (sx, some x) :: M, _, rfl, h1, q1, fun y G2 H2 sy h2 w2 q2 => ?_⟩
    match sx, q2, h2 with
    | .d k, q2, h2 =>
      cases ey : asD sy with
      | none => simp only [ey] at q2
      | some d =>
        simp only [ey] at q2
        obtain ⟨G3, h3, w3⟩ := h2.frzD ey
        cases ek : keyOf k with
        | none => rw [ek] at q2; cases q2.1
        | some kk =>
          have e := keyOf_D ek
          subst e
          have hx : Dp K.K G3 x (keyD kk) := h3.tail.dp
          have hy : Dp K.K G3 y d := h3.dp
          have ex := kV_dp (K := K) hx
          subst ex
          refine t_pairs r (M := M) h3.tail.tail q2.2 fun ks ps G' H' h4 w4 kr lr q4 => ?_
          exact hk ((kk, y) :: ks) ((keyD kk, d) :: ps) G' H' h4 (w1.trans (w2.trans (w3.trans w4))) (.cons ⟨rfl, dp_mono w4.same _ _ hy⟩ kr) (by simp [lr]) q4
theorem q_disp {keys : List (Option Expr)} {values : List Expr} {trs : List (FE × FE)} (h : QPs X pos keys values trs) (hall : keys.all (·.isSome) = true := by rfl) (hl : keys.length = values.length := by rfl) (h0 : keys ≠ [] := by intro h; cases h) (h15 : keys.length ≤ 15 := by decide) :
    QE X (.Dict keys values pos) (wDisp trs) := by
  refine PE.imp (pe_disp h hall hl h0 h15) fun σ H Q h => ?_
  obtain ⟨T, B, G, L, M, Q', rfl, h, hf, hk⟩ := h
  intro p hp
  have h1 := h.newDct (ks := []) (kvs := []) hp .nil
  refine t_pairs trs (M := (.dct [], some (.ref p)) :: M) h1 hf fun ks ps G' H' h2 w2 kr lr q2 => ?_
  obtain ⟨o, ks0, ea, hr0⟩ := h2.head
  cases hr0
  refine ⟨ea, ks, rfl, by rw [lr]; exact q2.1, ?_⟩
  exact hk _ G' _ _ (h2.writeD (merge_kvr kr .nil)) w2 q2.2

/-! x[k] = v, x a slot's own list or dict -/
def rSetA : TSet := fun o i v H Q => rSetL o i v H Q ∨ rSetD o i v H Q
theorem set_all (hu : X.A.units + 1 < cLine) : PSet X rSetA := by
  intro pins s σ H o i v ov iv u Q I ro ri rv h
  rcases h with h | h
  · exact set_list pins s σ H o i v ov iv u Q I ro ri rv h
  · exact set_dict hu pins s σ H o i v ov iv u Q I ro ri rv h
def wGS (j : Nat) (fi : FE) : FG := fun sv ρ Q => match ρ[j]?, asD sv with
  | some (.own xs), some y => fi ρ fun si => match si with
    | .d (.int k) => match ixN xs.length k with
      | some n => Q (ρ.set j (.own (xs.set n y)))
      | none => False
    | _ => False
  | some (.tpo a xs), some y => fi ρ fun si => match si with
    | .d (.int k) => match ixN xs.length k with
      | some n => Q (ρ.set j (.tpo a (xs.set n y)))
      | none => False
    | _ => False
  | some (.dct kvs), some y => fi ρ fun si => match si with
    | .d k => ((keyOf k).isSome = true ∧ kvs.length < sizeLine) ∧ Q (ρ.set j (.dct (putD kvs k y)))
    | _ => False
  | _, _ => False
theorem keyD_int {k : PyData} (h : (keyOf k).isSome = true) : ∃ kk, k = keyD kk := by
  cases e : keyOf k with
  | none => rw [e] at h; cases h
  | some kk => exact ⟨kk, keyOf_D e⟩
theorem SR.ref_own {K : Kx} {T : Option Tape} {B G H : Hp} {N : List Sl} {xs : List PyData} {o : Option V} (h : SR K T B G N H) (m : (.own xs, o) ∈ N) : ∃ a, o = some (.ref a) := by
  have := h.ok _ m
  match o, this with
  | some (.ref a), _ => exact ⟨a, rfl⟩
theorem SR.ref_dct {K : Kx} {T : Option Tape} {B G H : Hp} {N : List Sl} {xs : List (PyData × PyData)} {o : Option V} (h : SR K T B G N H) (m : (.dct xs, o) ∈ N) : ∃ a, o = some (.ref a) := by
  have := h.ok _ m
  match o, this with
  | some (.ref a), _ => exact ⟨a, rfl⟩
theorem qg_sub (j : Nat) {k : Nat} (hr : Room k X.A) (ho : PE X o (tVar j)) (hi : QE X i fi)
    (ha : ∀ v, assign (.Subscript o i pos) X.env v = (do
      let ov ← holding [v] (eval o X.env)
      let iv ← holding [v, ov] (eval i X.env)
      standAt pos
      holding [v, ov, iv] (setItem ov iv v)
      release [v, ov, iv] []) := by intro _; rfl) : QG X (.Subscript o i pos) [j] (wGS j fi) := by
  refine PG.imp (pg_sub ho hi (set_all (hu_of hr)) ha) fun v σ H Q h => ?_
  obtain ⟨T, B, G, L, M, sv, Q', rfl, h, hf, hk⟩ := h
  unfold wGS at hf
  cases e : (L.map Prod.fst)[j]? with
  | none => simp only [e] at hf
  | some sj =>
    obtain ⟨oj, e1, e2⟩ := slot_at e
    have hlen : j < L.length := (List.getElem?_eq_some_iff.mp e1).1
    have hmem : (sj, oj) ∈ (sv, some v) :: (M ++ L) := List.mem_cons_of_mem _ (List.mem_append_right _ (List.mem_of_getElem? e1))
    cases ey : asD sv with
    | none => cases sj <;> simp only [e, ey] at hf
    | some d =>
      match sj, hf, e1, hmem with
      | .own xs, hf, e1, hmem =>
        simp only [e, ey] at hf
        obtain ⟨p, rfl⟩ := h.ref_own hmem
        refine ⟨.ref p, e2, T, B, G, L, (sv, some v) :: M, _, rfl, h, hf, fun y G1 H1 si h1 w1 q1 => ?_⟩
        match si, q1, h1 with
        | .d (.int k), q1, h1 =>
          have dk := h1.dp
          cases dk
          cases en : ixN xs.length k with
          | none => simp only [en] at q1
          | some n =>
            simp only [en] at q1
            obtain ⟨G2, h2, w2⟩ := SR.frzD h1.tail ey
            have hd := h2.dp
            have h3 := SR.front (M := M) h2.tail e1
            obtain ⟨ow, vs, ep, hda⟩ := h3.head
            refine .inl ⟨p, vs, k, n, rfl, rfl, ep, by rw [dpAll_len hda]; exact en, ?_⟩
            have h4 := (h3.write (dpAll_set (i := n) hda hd)).back hlen
            have := hk (L.set j (.own (xs.set n d), some (.ref p))) G2 _ h4 (w1.trans w2) (List.length_set ..) (fun k hk => List.getElem?_set_ne fun z => hk (by simp [z])) (by rw [List.map_set]; exact q1)
            rw [List.map_set, set_same e2] at this
            exact this
      | .tpo c xs, hf, e1, hmem =>
        simp only [e, ey] at hf
        have hx := h.ok _ hmem
        match oj, hx, e1, e2 with
        | some (.ref p), hx, e1, e2 =>
        refine ⟨.ref p, e2, T, B, G, L, (sv, some v) :: M, _, rfl, h, hf, fun y G1 H1 si h1 w1 q1 => ?_⟩
        match si, q1, h1 with
        | .d (.int k), q1, h1 =>
          have dk := h1.dp
          cases dk
          cases en : ixN xs.length k with
          | none => simp only [en] at q1
          | some n =>
            simp only [en] at q1
            obtain ⟨G2, h2, w2⟩ := SR.frzD h1.tail ey
            have hd := h2.dp
            have h3 := SR.front (M := M) h2.tail e1
            obtain ⟨_, ow, vs, ep, hda⟩ := h3.head
            refine .inl ⟨p, vs, k, n, rfl, rfl, ep, by rw [dpAll_len hda]; exact en, ?_⟩
            have h4 := (h3.writeT (dpAll_set (i := n) hda hd)).back hlen
            have := hk (L.set j (.tpo c (xs.set n d), some (.ref p))) G2 _ h4 (w1.trans w2) (List.length_set ..) (fun k hk => List.getElem?_set_ne fun z => hk (by simp [z])) (by rw [List.map_set]; exact q1)
            rw [List.map_set, set_same e2] at this
            exact this
      | .dct kvs, hf, e1, hmem =>
        simp only [e, ey] at hf
        obtain ⟨p, rfl⟩ := h.ref_dct hmem
        refine ⟨.ref p, e2, T, B, G, L, (sv, some v) :: M, _, rfl, h, hf, fun y G1 H1 si h1 w1 q1 => ?_⟩
        match si, q1, h1 with
        | .d kd, q1, h1 =>
          obtain ⟨⟨hks, hz⟩, q1⟩ := q1
          obtain ⟨kk, rfl⟩ := keyD_int hks
          have dk := kV_dp (K := kx X) h1.dp
          subst dk
          obtain ⟨G2, h2, w2⟩ := SR.frzD h1.tail ey
          have hd := h2.dp
          have h3 := SR.front (M := M) h2.tail e1
          obtain ⟨ow, ks, ep, hr⟩ := h3.head
          refine .inr ⟨p, _, rfl, DPut.k ep (by rw [kvr_len hr]; exact hz), ?_⟩
          have h4 := (h3.writeD (kvr_put (k := kk) hr hd)).back hlen
          have := hk (L.set j (.dct (putD kvs (keyD kk) d), some (.ref p))) G2 _ h4 (w1.trans w2) (List.length_set ..) (fun k hk => List.getElem?_set_ne fun z => hk (by simp [z])) (by rw [List.map_set]; exact q1)
          rw [List.map_set, set_same e2] at this
          exact this
      | .no, hf, _, _ => simp only [e, ey] at hf
      | .d _, hf, _, _ => simp only [e, ey] at hf
      | .tp, hf, _, _ => simp only [e, ey] at hf
      | .dcn _, hf, _, _ => simp only [e, ey] at hf
/-- x.append(e), x a slot's own list -/
def wApp (j : Nat) (fe : FE) : FS := fun E ρ => match ρ[j]? with
  | some (.own xs) => fe ρ fun sv => match asD sv with
    | some y => xs.length < sizeLine ∧ E.nx (ρ.set j (.own (xs ++ [y])))
    | none => False
  | _ => False
theorem q_append (j : Nat) {st : Stmt} (h : PS X st (tDrop (tBM X.K "list" rAppend (tVar j) (tCons (tQ (kx X) fe) tNil)))) : QS X st (wApp j fe) := by
  refine PS.imp h fun D σ H h => ?_
  obtain ⟨T, B, G, L, E, rfl, h, hf, hk⟩ := h
  unfold wApp at hf
  cases e : (L.map Prod.fst)[j]? with
  | none => simp only [e] at hf
  | some sj =>
    obtain ⟨oj, e1, e2⟩ := slot_at e
    have hlen : j < L.length := (List.getElem?_eq_some_iff.mp e1).1
    match sj, hf, e1 with
    | .own xs, hf, e1 =>
      simp only [e] at hf
      obtain ⟨p, rfl⟩ := h.ref_own (List.mem_of_getElem? e1)
      obtain ⟨_, vs0, ep0, _⟩ := h.ok _ (List.mem_of_getElem? e1)
      refine ⟨.ref p, e2, .inl ⟨rfl, _, SqL.of ep0⟩, T, B, G, L, [], _, rfl, h, hf, fun v G1 H1 sv h1 w1 q1 => ?_⟩
      cases ey : asD sv with
      | none => simp only [ey] at q1
      | some d =>
        simp only [ey] at q1
        obtain ⟨G2, h2, w2⟩ := SR.frzD h1 ey
        have hd := h2.dp
        have h3 := SR.front (M := []) h2.tail e1
        obtain ⟨ow, vs, ep, hda⟩ := h3.head
        refine ⟨p, vs, v, rfl, rfl, ep, by rw [dpAll_len hda]; exact q1.1, ?_⟩
        have h4 := (h3.write (dpAll_append hda (.cons hd .nil))).back hlen
        have := hk.nx (L.set j (.own (xs ++ [d]), some (.ref p))) G2 _ h4 (w1.trans w2) (List.length_set ..) (by rw [List.map_set]; exact q1.2)
        rw [List.map_set, set_same e2] at this
        exact this
    | .no, hf, _ => simp only [e] at hf
    | .d _, hf, _ => simp only [e] at hf
    | .tp, hf, _ => simp only [e] at hf
    | .dct _, hf, _ => simp only [e] at hf
    | .dcn _, hf, _ => simp only [e] at hf
    | .tpo _ _, hf, _ => simp only [e] at hf
/-- x.extend(e), both own -/
def wExt (j : Nat) (fe : FE) : FS := fun E ρ => match ρ[j]? with
  | some (.own xs) => fe ρ fun sv => match sv with
    | .own ys => xs.length + ys.length ≤ sizeLine ∧ E.nx (ρ.set j (.own (xs ++ ys)))
    | _ => False
  | _ => False
theorem q_extend (j : Nat) {st : Stmt} (h : PS X st (tDrop (tBM X.K "list" rExtend (tVar j) (tCons (tQ (kx X) fe) tNil)))) : QS X st (wExt j fe) := by
  refine PS.imp h fun D σ H h => ?_
  obtain ⟨T, B, G, L, E, rfl, h, hf, hk⟩ := h
  unfold wExt at hf
  cases e : (L.map Prod.fst)[j]? with
  | none => simp only [e] at hf
  | some sj =>
    obtain ⟨oj, e1, e2⟩ := slot_at e
    have hlen : j < L.length := (List.getElem?_eq_some_iff.mp e1).1
    match sj, hf, e1 with
    | .own xs, hf, e1 =>
      simp only [e] at hf
      obtain ⟨p, rfl⟩ := h.ref_own (List.mem_of_getElem? e1)
      obtain ⟨_, vs0, ep0, _⟩ := h.ok _ (List.mem_of_getElem? e1)
      refine ⟨.ref p, e2, .inl ⟨rfl, _, SqL.of ep0⟩, T, B, G, L, [], _, rfl, h, hf, fun v G1 H1 sv h1 w1 q1 => ?_⟩
      match sv, q1, h1 with
      | .own ys, q1, h1 =>
        obtain ⟨b, e3⟩ := h1.ref_own List.mem_cons_self
        cases e3
        obtain ⟨ob, us, eb, hdb⟩ := h1.head
        have h3 : SR (kx X) T B G1 ((.own xs, some (.ref p)) :: ([(.own ys, some (.ref b))] ++ L.eraseIdx j)) H1 := SR.front (M := [(.own ys, some (.ref b))]) h1 e1
        obtain ⟨ow, vs, ep, hda⟩ := h3.head
        refine ⟨p, b, vs, us, rfl, rfl, ep, eb, by rw [dpAll_len hda, dpAll_len hdb]; exact q1.1, ?_⟩
        have h4 := (h3.write (dpAll_append hda hdb)).back hlen
        have := hk.nx (L.set j (.own (xs ++ ys), some (.ref p))) G1 _ h4.tail w1 (List.length_set ..) (by rw [List.map_set]; exact q1.2)
        rw [List.map_set, set_same e2] at this
        exact this
    | .no, hf, _ => simp only [e] at hf
    | .d _, hf, _ => simp only [e] at hf
    | .tp, hf, _ => simp only [e] at hf
    | .dct _, hf, _ => simp only [e] at hf
    | .dcn _, hf, _ => simp only [e] at hf
    | .tpo _ _, hf, _ => simp only [e] at hf
/-- x *= e of ints -/
def wAugMul (j : Nat) (fe : FE) : FS := fun E ρ => match ρ[j]? with
  | some (.d (.int i)) => fe ρ fun sv => match sv with
    | .d (.int k) => cMul i k ∧ E.nx (ρ.set j (.d (.int (i * k))))
    | _ => False
  | _ => False
theorem q_augMul (j : Nat) (hn : j < X.N.length) {st : Stmt} (h : PS X st (tAug j (tQ (kx X) fe) (rI CMul fun i j => .int (i * j)))) : QS X st (wAugMul j fe) := by
  refine ⟨fun pins s σ H D I hw => h.run pins s σ H D I ?_⟩
  obtain ⟨T, B, G, L, E, rfl, h, hf, hk⟩ := hw
  have hlen : j < L.length := by have := I.len; rw [List.length_map] at this; omega
  unfold wAugMul at hf
  cases e : (L.map Prod.fst)[j]? with
  | none => simp only [e] at hf
  | some sj =>
    obtain ⟨oj, e1, e2⟩ := slot_at e
    match sj, hf, e1 with
    | .d (.int i), hf, e1 =>
      simp only [e] at hf
      have hp := h.ok _ (List.mem_of_getElem? e1)
      match oj, hp with
      | some w, hp =>
        cases (show Dp X.K G w (.int i) from hp)
        refine ⟨.int i, e2, T, B, G, L, [], _, rfl, h, hf, fun v G1 H1 sv h1 w1 q1 => ?_⟩
        match sv, q1, h1 with
        | .d (.int k), q1, h1 =>
          have d1 := h1.dp
          cases d1
          exact ⟨i, k, rfl, rfl, q1.1, set_out hk hlen (h1.tail.data (.int _)) w1 q1.2⟩
    | .no, hf, _ => simp only [e] at hf
    | .d .none, hf, _ => simp only [e] at hf
    | .d (.bool _), hf, _ => simp only [e] at hf
    | .d (.str _), hf, _ => simp only [e] at hf
    | .d (.list _), hf, _ => simp only [e] at hf
    | .d (.tuple _), hf, _ => simp only [e] at hf
    | .d (.dict _), hf, _ => simp only [e] at hf
    | .own _, hf, _ => simp only [e] at hf
    | .tp, hf, _ => simp only [e] at hf
    | .dct _, hf, _ => simp only [e] at hf
    | .dcn _, hf, _ => simp only [e] at hf
    | .tpo _ _, hf, _ => simp only [e] at hf
end
end Z

/-! built-ins over data -/
namespace Z
open PySem PySem.Spec PyProof.Rows L2

abbrev G1 := SV → (SV → Prop) → Prop
def w1 (g : G1) (fe : FE) : FE := fun ρ Q => fe ρ fun x => g x Q
def Lift1R (K : Kx) (r : List V → Hp → VK → Prop) (g : G1) : Prop := ∀ (T : Option Tape) (B G : Hp) (N : List Sl) (H : Hp) (x : V) (sx : SV) (Q : VK) (Q' : SV → Prop),
  SR K T B G N H → (sx, some x) ∈ N → g sx Q' → (∀ (v : V) (G' H' : Hp) (sv : SV), SR K T B G' ((sv, some v) :: N) H' → Gw B G G' → Q' sv → Q v H') → r [x] H Q
def Lift1 (K : Kx) (r : List V → Hp → VK → Prop) (g : G1) : Prop := ∀ (T : Option Tape) (B G : Hp) (N : List Sl) (H : Hp) (x : V) (sx : SV) (Q : VK) (Q' : SV → Prop),
  SR K T B G ((sx, some x) :: N) H → g sx Q' → (∀ (v : V) (G' H' : Hp) (sv : SV), SR K T B G' ((sv, some v) :: N) H' → Gw B G G' → Q' sv → Q v H') → r [x] H Q
section
variable {X : Cx} {x : Str} {p pos : Pos} {e : Expr} {fe : FE} {id T : String} {r : List V → Hp → VK → Prop} {g : G1}
theorem t_1R {K : Kx} (hl : Lift1R K r g) {σ : L2.St} {H : Hp} {Q : VK} (h : tQ K (w1 g fe) σ H Q) : tCB r (tCons (tR K fe) tNil) σ H Q := by
  obtain ⟨T, B, G, L, M, Q', rfl, h, hf, hk⟩ := h
  refine ⟨T, B, G, L, M, _, rfl, h, hf, fun v G1 H1 sv M' h1 m1 w1 q1 => ?_⟩
  exact hl T B G1 _ H1 v sv Q Q' h1 m1 q1 fun u G' H' su h2 w2 q2 => hk u G' H' su (h2.sub (.cons₂ _ (List.sublist_append_right M' _))) (w1.trans w2) q2
theorem t_1 {K : Kx} (hl : Lift1 K r g) {σ : L2.St} {H : Hp} {Q : VK} (h : tQ K (w1 g fe) σ H Q) : tCB r (tCons (tQ K fe) tNil) σ H Q := by
  obtain ⟨T, B, G, L, M, Q', rfl, h, hf, hk⟩ := h
  refine ⟨T, B, G, L, M, _, rfl, h, hf, fun v G1 H1 sv h1 w1 q1 => ?_⟩
  exact hl T B G1 _ H1 v sv Q Q' h1 q1 fun u G' H' su h2 w2 q2 => hk u G' H' su h2 (w1.trans w2) q2
theorem q_b1R (hc : CallR X (.builtin id) r) (hl : Lift1R (kx X) r g) (hg : Gl X x) (hm : X.mg x = none) (hv : bootBuiltins x = some (.builtin id)) (he : QR X e fe) (hn : x ≠ "__name__" := by decide) (hdb : (x == ("__debug__" : Str)) = false := by decide)
    (hs : starEach [e] X.env = (false, eval e X.env) :: starEach [] X.env := by rfl) (hpl : (backTo pos (starEach [] X.env)).any (·.1) = false := by rfl) : QE X (.Call (.Name x p) [e] [] pos) (w1 g fe) :=
  PE.imp (pe_callB hc hg hm hv (pa_cons he pa_nil hs) hn hdb hs hpl) fun _ _ _ h => t_1R hl h
theorem q_b1 (hc : CallR X (.builtin id) r) (hl : Lift1 (kx X) r g) (hg : Gl X x) (hm : X.mg x = none) (hv : bootBuiltins x = some (.builtin id)) (he : QE X e fe) (hn : x ≠ "__name__" := by decide) (hdb : (x == ("__debug__" : Str)) = false := by decide)
    (hs : starEach [e] X.env = (false, eval e X.env) :: starEach [] X.env := by rfl) (hpl : (backTo pos (starEach [] X.env)).any (·.1) = false := by rfl) : QE X (.Call (.Name x p) [e] [] pos) (w1 g fe) :=
  PE.imp (pe_callB hc hg hm hv (pa_cons he pa_nil hs) hn hdb hs hpl) fun _ _ _ h => t_1 hl h
theorem q_t1R (hc : CallR X (.type T) r) (hl : Lift1R (kx X) r g) (hg : Gl X x) (hm : X.mg x = none) (hv : bootBuiltins x = some (.type T)) (he : QR X e fe) (hn : x ≠ "__name__" := by decide) (hdb : (x == ("__debug__" : Str)) = false := by decide)
    (hs : starEach [e] X.env = (false, eval e X.env) :: starEach [] X.env := by rfl) (hpl : (backTo pos (starEach [] X.env)).any (·.1) = false := by rfl) : QE X (.Call (.Name x p) [e] [] pos) (w1 g fe) :=
  PE.imp (pe_callTy hc hg hm hv (pa_cons he pa_nil hs) hn hdb hs hpl) fun _ _ _ h => t_1R hl h
/-- two arguments -/
def w2 (g : G2) (fa : FA) : FE := fun ρ Q => fa ρ fun svs => match svs with
  | [x, y] => g x y Q
  | _ => False
theorem q_b2 {e2 : Expr} {fa : FA} {r2 : R2} {g2 : G2} (hc : CallR X (.builtin id) (fun vs H Q => ∃ x y, vs = [x, y] ∧ r2 x y H Q)) (hl : Lift2 (kx X) r2 g2) (hg : Gl X x) (hm : X.mg x = none) (hv : bootBuiltins x = some (.builtin id)) (ha : QA X [e, e2] fa) (hn : x ≠ "__name__" := by decide) (hdb : (x == ("__debug__" : Str)) = false := by decide)
    (hs : starEach [e, e2] X.env = (false, eval e X.env) :: starEach [e2] X.env := by rfl) (hpl : (backTo pos (starEach [e2] X.env)).any (·.1) = false := by rfl) : QE X (.Call (.Name x p) [e, e2] [] pos) (w2 g2 fa) := by
  refine PE.imp (pe_callB hc hg hm hv ha hn hdb hs hpl) fun σ H Q h => ?_
  obtain ⟨T, B, G, L, M, Q', rfl, h, hf, hk⟩ := h
  refine ⟨T, B, G, L, M, _, rfl, h, hf, fun A vs G1 H1 e1 h1 w1 q1 => ?_⟩
  generalize hA : A.map Prod.fst = S at q1
  match S, q1 with
  | [sx, sy], q1 =>
    obtain ⟨v, u, rfl, rfl⟩ := args2 hA e1
    exact ⟨v, u, rfl, hl T B G1 (M ++ L) H1 v u sx sy Q Q' (h1.perm (.swap _ _ _)) q1 fun z G' H' sz h2 w2 q2 => hk z G' H' sz h2 (w1.trans w2) q2⟩
end

section
variable {X : Cx} {x : Str} {p pos : Pos} {e e2 : Expr} {fe : FE} {fa : FA}
/-! len -/
def rLenA (K : PySem.W.Frag) : List V → Hp → VK → Prop := fun xs H Q => (∃ p ys, xs = [.ref p] ∧ (SqL K H p ys ∨ SqT K H p ys) ∧ Q (.int ys.length) H) ∨ (∃ a kvs, xs = [V.ref a] ∧ H a = some (.dK kvs) ∧ Q (.int kvs.length) H) ∨ (∃ z, xs = [.str z] ∧ z.length ≤ sizeLine ∧ Q (.int z.length) H)
theorem call_lenA : CallR X (.builtin "len") (rLenA X.K) := by
  intro pins s σ H xs us Q I r h
  rcases h with h | h | h
  · exact call_len_seq pins s σ H xs us Q I r h
  · exact call_lenD pins s σ H xs us Q I r h
  · exact call_len_str pins s σ H xs us Q I r h
def gLen : G1 := fun x Q => match x with
  | .d (.list xs) => Q (.d (.int xs.length))
  | .own xs => Q (.d (.int xs.length))
  | .d (.tuple xs) => Q (.d (.int xs.length))
  | .dct kvs => Q (.d (.int kvs.length))
  | .d (.str z) => z.length ≤ sizeLine ∧ Q (.d (.int z.length))
  | _ => False
theorem lift_len {K : Kx} : Lift1R K (rLenA K.K) gLen := by
  intro T B G N H x sx Q Q' h m hg hk
  unfold gLen at hg
  match sx, hg, m with
  | .d (.list xs), hg, m =>
    obtain ⟨a, vs, rfl, hs, hd⟩ := h.atL (.inr m)
    exact .inl ⟨a, vs, rfl, .inl hs, by rw [dpAll_len hd]; exact hk _ G H _ (h.data (.int _)) (.refl _ _) hg⟩
  | .own xs, hg, m =>
    obtain ⟨a, vs, rfl, hs, hd⟩ := h.atL (.inl m)
    exact .inl ⟨a, vs, rfl, .inl hs, by rw [dpAll_len hd]; exact hk _ G H _ (h.data (.int _)) (.refl _ _) hg⟩
  | .d (.tuple xs), hg, m =>
    obtain ⟨a, vs, rfl, hs, hd⟩ := h.atT m
    exact .inl ⟨a, vs, rfl, .inr hs, by rw [dpAll_len hd]; exact hk _ G H _ (h.data (.int _)) (.refl _ _) hg⟩
  | .dct kvs, hg, m =>
    obtain ⟨a, e⟩ := h.ref_dct m
    cases e
    obtain ⟨_, ks, ea, hr⟩ := h.ok _ m
    exact .inr (.inl ⟨a, ks, rfl, ea, by rw [kvr_len hr]; exact hk _ G H _ (h.data (.int _)) (.refl _ _) hg⟩)
  | .d (.str z), hg, m =>
    cases (show Dp K.K G x (.str z) from h.ok _ m)
    exact .inr (.inr ⟨z, rfl, hg.1, hk _ G H _ (h.data (.int _)) (.refl _ _) hg.2⟩)
theorem q_len (hg : Gl X "len") (hm : X.mg "len" = none) (he : QR X e fe)
    (hs : starEach [e] X.env = (false, eval e X.env) :: starEach [] X.env := by rfl) (hpl : (backTo pos (starEach [] X.env)).any (·.1) = false := by rfl) : QE X (.Call (.Name "len" p) [e] [] pos) (w1 gLen fe) :=
  q_b1R call_lenA lift_len hg hm PySem.boot_len he (by decide) (by decide) hs hpl

/-! sum, max, min of ints -/
def intsOf : List PyData → Option (List Int)
  | [] => some []
  | .int i :: r => match intsOf r with
    | some xs => some (i :: xs)
    | none => none
  | _ => none
theorem intsOf_eq : ∀ {xs : List PyData} {ns : List Int}, intsOf xs = some ns → xs = ns.map .int
  | [], ns, h => by cases h; rfl
  | .int i :: r, ns, h => by
    unfold intsOf at h
    cases e : intsOf r with
    | none => simp only [e] at h; cases h
    | some ms =>
      simp only [e] at h
      cases h
      rw [intsOf_eq e]; rfl
theorem intsOf_map : ∀ ns : List Int, intsOf (ns.map .int) = some ns
  | [] => rfl
  | n :: ns => by rw [List.map_cons]; unfold intsOf; rw [intsOf_map ns]

end
section
variable {prog : Program} {w : World} {A : Around} {E : Value → Shared → Prop} {s : Shared} {l : Addr} {its : List Value} {ns : List Int} {Q : Value → Shared → Prop}
theorem sum_rawT (hh : A.handled = none) (hl : IsTup s.heap l its.toArray) (hi : IntsAre its ns)
    (h : ∀ h' tk t', (∀ b o, s.heap.get? b = some o → h'.get? b = some o) → Q (.int ns.sum t') { s with heap := h', toks := tk }) : wpAny (model prog w) A (call (.builtin "sum") [.ref l]) Q E s := by
  obtain ⟨xs, e⟩ := hi.allInts.items
  have hn : numsOf (intItems xs).toList = ns := by rw [← e]; exact hi.numsOf
  rw [nums_intItems] at hn
  rw [e] at hl
  have hlt : l < s.heap.objs.size := hl.lt
  refine call_sum_walkG (iter_tuple hl ?_)
  refine ⟨_, _, _, _, _, _, numAt xs, rfl, Walks.tuple (A := A.in1) hh s.heap.objs.size l (Nat.ne_of_lt hlt) (intItems xs), ⟨⟨_, Heap.get?_push_size _ rfl, rfl, rfl⟩, ?_⟩, fun b hb => ?_, (fun _ _ => intItems_at), fun h' tk t' hk => ?_⟩
  · obtain ⟨o, ho, hc, n, hd⟩ := hl
    exact ⟨o, Heap.get?_push_of_some _ ho, hc, n, hd⟩
  · show b < (s.heap.push _).objs.size
    rw [Heap.size_push]
    rcases List.mem_cons.mp hb with rfl | hb
    · exact Nat.lt_succ_self _
    · rcases List.mem_cons.mp hb with rfl | hb
      · exact Nat.lt_succ_of_lt hlt
      · cases hb
  · have := h h' tk t' (fun b o eo => hk b o (fun hm => by
      rcases List.mem_cons.mp hm with z | hm
      · exact absurd (z ▸ Heap.lt_size eo) (Nat.lt_irrefl _)
      · cases hm) (Heap.get?_push_of_some _ eo))
    have e2 : preSum (numAt xs) (intItems xs).size = ns.sum := by
      have : (intItems xs).size = xs.size := by simp [intItems]
      rw [this, preSum_eq, List.take_of_length_le (by simp), hn]
    rw [e2]
    exact this
end
section
variable {X : Cx} {x : Str} {p pos : Pos} {e e2 : Expr} {fe : FE} {fa : FA}
def rSumA (K : PySem.W.Frag) : List V → Hp → VK → Prop := fun vs H Q => ∃ (a : Addr) (ns : List Int), vs = [V.ref a] ∧ (SqL K H a (ns.map V.int) ∨ SqT K H a (ns.map V.int)) ∧ Q (.int ns.sum) H
theorem call_sumA (hc : X.calm = true) : CallR X (.builtin "sum") (rSumA X.K) := by
  intro pins s σ H vs us Q I r h
  obtain ⟨a, ns, rfl, hs, q⟩ := h
  rcases hs with hs | hs
  · exact cr_sum hc pins s σ H _ us Q I r ⟨a, ns, rfl, hs, q⟩
  · obtain ⟨its, rv, hl, _⟩ := I.tuple hs
    rw [Vals.ref1 r]
    exact sum_rawT (I.ok.hd hc) hl rv.ints fun h' tk t' hk => ⟨.int _, H, I.kept hk, ⟨_, rfl⟩, q⟩
/-- the items of a list or tuple -/
def itemsS : SV → Option (List PyData)
  | .d (.list xs) => some xs
  | .own xs => some xs
  | .d (.tuple xs) => some xs
  | _ => none
theorem SR.items {K : Kx} {T : Option Tape} {B G H : Hp} {N : List Sl} {sx : SV} {x : V} {xs : List PyData} (h : SR K T B G N H) (m : (sx, some x) ∈ N) (e : itemsS sx = some xs) :
    ∃ a vs, x = .ref a ∧ (SqL K.K H a vs ∨ SqT K.K H a vs) ∧ DpAll K.K G vs xs := by
  match sx, e, m with
  | .d (.list ys), e, m =>
    cases e
    obtain ⟨a, vs, rfl, hs, hd⟩ := h.atL (.inr m)
    exact ⟨a, vs, rfl, .inl hs, hd⟩
  | .own ys, e, m =>
    cases e
    obtain ⟨a, vs, rfl, hs, hd⟩ := h.atL (.inl m)
    exact ⟨a, vs, rfl, .inl hs, hd⟩
  | .d (.tuple ys), e, m =>
    cases e
    obtain ⟨a, vs, rfl, hs, hd⟩ := h.atT m
    exact ⟨a, vs, rfl, .inr hs, hd⟩
def gSum : G1 := fun x Q => match itemsS x with
  | some xs => match intsOf xs with
    | some ns => Q (.d (.int ns.sum))
    | none => False
  | none => False
theorem lift_sum {K : Kx} : Lift1R K (rSumA K.K) gSum := by
  intro T B G N H x sx Q Q' h m hg hk
  unfold gSum at hg
  cases e1 : itemsS sx with
  | none => simp only [e1] at hg
  | some xs =>
    simp only [e1] at hg
    cases e2 : intsOf xs with
    | none => simp only [e2] at hg
    | some ns =>
      simp only [e2] at hg
      obtain ⟨a, vs, rfl, hs, hd⟩ := h.items m e1
      rw [intsOf_eq e2] at hd
      have := dpAll_ints hd
      subst this
      exact ⟨a, ns, rfl, hs, hk _ G H _ (h.data (.int _)) (.refl _ _) hg⟩
theorem q_sum (hc : X.calm = true) (hg : Gl X "sum") (hm : X.mg "sum" = none) (he : QR X e fe)
    (hs : starEach [e] X.env = (false, eval e X.env) :: starEach [] X.env := by rfl) (hpl : (backTo pos (starEach [] X.env)).any (·.1) = false := by rfl) : QE X (.Call (.Name "sum" p) [e] [] pos) (w1 gSum fe) :=
  q_b1R (call_sumA hc) lift_sum hg hm (by decide +kernel) he (by decide) (by decide) hs hpl
def maxI : List Int → Int
  | [] => 0
  | n :: ns => ns.foldl max n
def minI : List Int → Int
  | [] => 0
  | n :: ns => ns.foldl min n
theorem foldl_max_le : ∀ (ns : List Int) (n : Int), n ≤ ns.foldl max n ∧ (∀ y ∈ ns, y ≤ ns.foldl max n) ∧ (ns.foldl max n = n ∨ ns.foldl max n ∈ ns)
  | [], n => ⟨Int.le_refl _, fun _ h => (by cases h), .inl rfl⟩
  | m :: ns, n => by
    obtain ⟨h1, h2, h3⟩ := foldl_max_le ns (max n m)
    rw [List.foldl_cons]
    refine ⟨by omega, fun y hy => ?_, ?_⟩
    · rcases List.mem_cons.mp hy with e | hy
      · rw [e]; omega
      · exact h2 y hy
    · rcases h3 with h3 | h3
      · by_cases hnm : n ≤ m
        · right; rw [h3, show max n m = m by omega]; exact List.mem_cons_self
        · left; rw [h3]; omega
      · exact .inr (List.mem_cons_of_mem _ h3)
theorem foldl_min_le : ∀ (ns : List Int) (n : Int), ns.foldl min n ≤ n ∧ (∀ y ∈ ns, ns.foldl min n ≤ y) ∧ (ns.foldl min n = n ∨ ns.foldl min n ∈ ns)
  | [], n => ⟨Int.le_refl _, fun _ h => (by cases h), .inl rfl⟩
  | m :: ns, n => by
    obtain ⟨h1, h2, h3⟩ := foldl_min_le ns (min n m)
    rw [List.foldl_cons]
    refine ⟨by omega, fun y hy => ?_, ?_⟩
    · rcases List.mem_cons.mp hy with e | hy
      · rw [e]; omega
      · exact h2 y hy
    · rcases h3 with h3 | h3
      · by_cases hnm : m ≤ n
        · right; rw [h3, show min n m = m by omega]; exact List.mem_cons_self
        · left; rw [h3]; omega
      · exact .inr (List.mem_cons_of_mem _ h3)
theorem maxI_is {ns : List Int} {m : Int} (h : m ∈ ns) (h' : ∀ y ∈ ns, y ≤ m) : m = maxI ns := by
  cases ns with
  | nil => cases h
  | cons n ns =>
    obtain ⟨h1, h2, h3⟩ := foldl_max_le ns n
    have a : m ≤ maxI (n :: ns) := by
      rcases List.mem_cons.mp h with e | h
      · rw [e]; exact h1
      · exact h2 m h
    have b : maxI (n :: ns) ≤ m := by
      rcases h3 with e | e
      · show ns.foldl max n ≤ m; rw [e]; exact h' n List.mem_cons_self
      · exact h' _ (List.mem_cons_of_mem _ e)
    omega
theorem minI_is {ns : List Int} {m : Int} (h : m ∈ ns) (h' : ∀ y ∈ ns, m ≤ y) : m = minI ns := by
  cases ns with
  | nil => cases h
  | cons n ns =>
    obtain ⟨h1, h2, h3⟩ := foldl_min_le ns n
    have a : minI (n :: ns) ≤ m := by
      rcases List.mem_cons.mp h with e | h
      · rw [e]; exact h1
      · exact h2 m h
    have b : m ≤ minI (n :: ns) := by
      rcases h3 with e | e
      · show m ≤ ns.foldl min n; rw [e]; exact h' n List.mem_cons_self
      · exact h' _ (List.mem_cons_of_mem _ e)
    omega
theorem depthAll_ints : ∀ ns : List Int, PyData.depthAll (ns.map PyData.int) ≤ 1
  | [] => by simp only [List.map_nil, PyData.depthAll]; omega
  | n :: ns => by
    have := depthAll_ints ns
    simp only [List.map_cons, PyData.depthAll, PyData.depth]
    omega
theorem alikeAll_ints (ns : List Int) : PySem.W.AlikeAll (ns.map PyData.int) := by
  refine ⟨fun x hx y hy => ?_, fun x hx => ?_⟩
  · obtain ⟨a, _, rfl⟩ := List.mem_map.mp hx
    obtain ⟨b, _, rfl⟩ := List.mem_map.mp hy
    simp [PySem.W.alike]
  · obtain ⟨a, _, rfl⟩ := List.mem_map.mp hx
    intro z; cases z
def rMaxA (K : PySem.W.Frag) : List V → Hp → VK → Prop := fun vs H Q => ∃ (a : Addr) (ns : List Int), vs = [V.ref a] ∧ (SqL K H a (ns.map V.int) ∨ SqT K H a (ns.map V.int)) ∧ ns ≠ [] ∧ Q (.int (maxI ns)) H
def rMinA (K : PySem.W.Frag) : List V → Hp → VK → Prop := fun vs H Q => ∃ (a : Addr) (ns : List Int), vs = [V.ref a] ∧ (SqL K H a (ns.map V.int) ∨ SqT K H a (ns.map V.int)) ∧ ns ≠ [] ∧ Q (.int (minI ns)) H
theorem reads_intv {h : Heap} {v : Value} {i : Int} {as : List Addr} (r : Reads h v (.int i) as) : ∃ t, v = .int i t := by
  cases r
  exact ⟨_, rfl⟩
theorem call_maxA (hc : X.calm = true) (hu : X.A.units + 64 < cLine) : CallR X (.builtin "max") (rMaxA X.K) := by
  intro pins s σ H vs us Q I r h
  obtain ⟨a, ns, rfl, hs, hne, q⟩ := h
  rcases hs with hs | hs
  · refine cr_max hc pins s σ H _ us Q I r ⟨a, ns, rfl, hs, ?_, fun m h1 h2 => ?_⟩
    · cases ns with
      | nil => exact absurd rfl hne
      | cons _ _ => simp
    · rw [maxI_is h1 h2]; exact q
  · obtain ⟨its, rv, hl, _⟩ := I.tuple hs
    rw [Vals.ref1 r]
    cases ns with
    | nil => exact absurd rfl hne
    | cons n ns =>
      obtain ⟨as, hr⟩ := Dp.readsAll I ((n :: ns).map PyData.int) _ its (dpAll_ofInts (n :: ns)) rv
      refine PySem.W.max_tuple_data (x := .int n) (xs := ns.map .int) (I.ok.hd hc) hl (by simpa using hr) (alikeAll_ints (n :: ns)) ?_ fun i v h' tk bs hv hrd hk => ?_
      · have := depthAll_ints (n :: ns)
        simp only [List.map_cons] at this
        omega
      · rw [PySem.W.maxD_ints] at hrd
        obtain ⟨t, rfl⟩ := reads_intv hrd
        exact ⟨.int _, H, I.kept hk, ⟨_, rfl⟩, q⟩
theorem call_minA (hc : X.calm = true) (hu : X.A.units + 64 < cLine) : CallR X (.builtin "min") (rMinA X.K) := by
  intro pins s σ H vs us Q I r h
  obtain ⟨a, ns, rfl, hs, hne, q⟩ := h
  rcases hs with hs | hs
  · refine cr_min hc pins s σ H _ us Q I r ⟨a, ns, rfl, hs, ?_, fun m h1 h2 => ?_⟩
    · cases ns with
      | nil => exact absurd rfl hne
      | cons _ _ => simp
    · rw [minI_is h1 h2]; exact q
  · obtain ⟨its, rv, hl, _⟩ := I.tuple hs
    rw [Vals.ref1 r]
    cases ns with
    | nil => exact absurd rfl hne
    | cons n ns =>
      obtain ⟨as, hr⟩ := Dp.readsAll I ((n :: ns).map PyData.int) _ its (dpAll_ofInts (n :: ns)) rv
      refine PySem.W.min_tuple_data (x := .int n) (xs := ns.map .int) (I.ok.hd hc) hl (by simpa using hr) (alikeAll_ints (n :: ns)) ?_ fun i v h' tk bs hv hrd hk => ?_
      · have := depthAll_ints (n :: ns)
        simp only [List.map_cons] at this
        omega
      · rw [PySem.W.minD_ints] at hrd
        obtain ⟨t, rfl⟩ := reads_intv hrd
        exact ⟨.int _, H, I.kept hk, ⟨_, rfl⟩, q⟩
def gExt (f : List Int → Int) : G1 := fun x Q => match itemsS x with
  | some xs => match intsOf xs with
    | some ns => ns ≠ [] ∧ Q (.d (.int (f ns)))
    | none => False
  | none => False
theorem lift_ext {K : Kx} {f : List Int → Int} : Lift1R K (fun vs H Q => ∃ (a : Addr) (ns : List Int), vs = [V.ref a] ∧ (SqL K.K H a (ns.map V.int) ∨ SqT K.K H a (ns.map V.int)) ∧ ns ≠ [] ∧ Q (.int (f ns)) H) (gExt f) := by
  intro T B G N H x sx Q Q' h m hg hk
  unfold gExt at hg
  cases e1 : itemsS sx with
  | none => simp only [e1] at hg
  | some xs =>
    simp only [e1] at hg
    cases e2 : intsOf xs with
    | none => simp only [e2] at hg
    | some ns =>
      simp only [e2] at hg
      obtain ⟨a, vs, rfl, hs, hd⟩ := h.items m e1
      rw [intsOf_eq e2] at hd
      have := dpAll_ints hd
      subst this
      exact ⟨a, ns, rfl, hs, hg.1, hk _ G H _ (h.data (.int _)) (.refl _ _) hg.2⟩
theorem q_max {k : Nat} (hr : Room k X.A) (hc : X.calm = true) (hg : Gl X "max") (hm : X.mg "max" = none) (he : QR X e fe)
    (hs : starEach [e] X.env = (false, eval e X.env) :: starEach [] X.env := by rfl) (hpl : (backTo pos (starEach [] X.env)).any (·.1) = false := by rfl) : QE X (.Call (.Name "max" p) [e] [] pos) (w1 (gExt maxI) fe) :=
  q_b1R (call_maxA hc hr.units) lift_ext hg hm (by decide +kernel) he (by decide) (by decide) hs hpl
theorem q_min {k : Nat} (hr : Room k X.A) (hc : X.calm = true) (hg : Gl X "min") (hm : X.mg "min" = none) (he : QR X e fe)
    (hs : starEach [e] X.env = (false, eval e X.env) :: starEach [] X.env := by rfl) (hpl : (backTo pos (starEach [] X.env)).any (·.1) = false := by rfl) : QE X (.Call (.Name "min" p) [e] [] pos) (w1 (gExt minI) fe) :=
  q_b1R (call_minA hc hr.units) lift_ext hg hm (by decide +kernel) he (by decide) (by decide) hs hpl
def gMax2 : G2 := fun x y Q => match x, y with
  | .d (.int i), .d (.int j) => Q (.d (.int (if j > i then j else i)))
  | _, _ => False
def gMin2 : G2 := fun x y Q => match x, y with
  | .d (.int i), .d (.int j) => Q (.d (.int (if j < i then j else i)))
  | _, _ => False
theorem lift_max2 {K : Kx} : Lift2 K (fun x y H Q => ∃ i j, x = .int i ∧ y = .int j ∧ Q (.int (if j > i then j else i)) H) gMax2 := by
  intro T B G N H x y sx sy Q Q' h hg hk
  match sx, sy, hg, h with
  | .d (.int i), .d (.int j), hg, h =>
    have d1 := h.dp
    have d2 := h.tail.dp
    cases d1
    cases d2
    exact ⟨i, j, rfl, rfl, hk _ G H _ (h.tail.tail.data (.int _)) (.refl _ _) hg⟩
theorem lift_min2 {K : Kx} : Lift2 K (fun x y H Q => ∃ i j, x = .int i ∧ y = .int j ∧ Q (.int (if j < i then j else i)) H) gMin2 := by
  intro T B G N H x y sx sy Q Q' h hg hk
  match sx, sy, hg, h with
  | .d (.int i), .d (.int j), hg, h =>
    have d1 := h.dp
    have d2 := h.tail.dp
    cases d1
    cases d2
    exact ⟨i, j, rfl, rfl, hk _ G H _ (h.tail.tail.data (.int _)) (.refl _ _) hg⟩
theorem q_max2 (hc : X.calm = true) (hg : Gl X "max") (hm : X.mg "max" = none) (ha : QA X [e, e2] fa)
    (hs : starEach [e, e2] X.env = (false, eval e X.env) :: starEach [e2] X.env := by rfl) (hpl : (backTo pos (starEach [e2] X.env)).any (·.1) = false := by rfl) : QE X (.Call (.Name "max" p) [e, e2] [] pos) (w2 gMax2 fa) :=
  q_b2 (r2 := fun x y H Q => ∃ i j, x = .int i ∧ y = .int j ∧ Q (.int (if j > i then j else i)) H) (fun pins s σ H xs us Q I r h => call_max2 hc pins s σ H xs us Q I r (by obtain ⟨x, y, rfl, i, j, rfl, rfl, q⟩ := h; exact ⟨i, j, rfl, q⟩)) lift_max2 hg hm (by decide +kernel) ha (by decide) (by decide) hs hpl
theorem q_min2 (hc : X.calm = true) (hg : Gl X "min") (hm : X.mg "min" = none) (ha : QA X [e, e2] fa)
    (hs : starEach [e, e2] X.env = (false, eval e X.env) :: starEach [e2] X.env := by rfl) (hpl : (backTo pos (starEach [e2] X.env)).any (·.1) = false := by rfl) : QE X (.Call (.Name "min" p) [e, e2] [] pos) (w2 gMin2 fa) :=
  q_b2 (r2 := fun x y H Q => ∃ i j, x = .int i ∧ y = .int j ∧ Q (.int (if j < i then j else i)) H) (fun pins s σ H xs us Q I r h => call_min2 hc pins s σ H xs us Q I r (by obtain ⟨x, y, rfl, i, j, rfl, rfl, q⟩ := h; exact ⟨i, j, rfl, q⟩)) lift_min2 hg hm (by decide +kernel) ha (by decide) (by decide) hs hpl
/-! abs, int -/
def gAbs : G1 := fun x Q => match x with
  | .d (.int i) => Q (.d (.int (if i < 0 then -i else i)))
  | _ => False
theorem lift_abs {K : Kx} : Lift1 K (fun xs H Q => ∃ i, xs = [.int i] ∧ Q (.int (if i < 0 then -i else i)) H) gAbs := by
  intro T B G N H x sx Q Q' h hg hk
  match sx, hg, h with
  | .d (.int i), hg, h =>
    have d1 := h.dp
    cases d1
    exact ⟨i, rfl, hk _ G H _ (h.tail.data (.int _)) (.refl _ _) hg⟩
theorem q_abs (hg : Gl X "abs") (hm : X.mg "abs" = none) (he : QE X e fe)
    (hs : starEach [e] X.env = (false, eval e X.env) :: starEach [] X.env := by rfl) (hpl : (backTo pos (starEach [] X.env)).any (·.1) = false := by rfl) : QE X (.Call (.Name "abs" p) [e] [] pos) (w1 gAbs fe) :=
  q_b1 call_abs lift_abs hg hm (by decide +kernel) he (by decide) (by decide) hs hpl
def gIntC : G1 := fun x Q => match x with
  | .d (.int i) => Q (.d (.int i))
  | .d (.bool k) => Q (.d (.int (if k then 1 else 0)))
  | _ => False
theorem lift_intC {K : Kx} : Lift1R K (fun xs H Q => (∃ i, xs = [.int i] ∧ Q (.int i) H) ∨ ∃ k, xs = [.bl k] ∧ Q (.int (if k then 1 else 0)) H) gIntC := by
  intro T B G N H x sx Q Q' h m hg hk
  match sx, hg, m with
  | .d (.int i), hg, m =>
    cases (show Dp K.K G x (.int i) from h.ok _ m)
    exact .inl ⟨i, rfl, hk _ G H _ (h.data (.int _)) (.refl _ _) hg⟩
  | .d (.bool k), hg, m =>
    cases (show Dp K.K G x (.bool k) from h.ok _ m)
    exact .inr ⟨k, rfl, hk _ G H _ (h.data (.int _)) (.refl _ _) hg⟩
theorem q_intC (hg : Gl X "int") (hm : X.mg "int" = none) (he : QR X e fe)
    (hs : starEach [e] X.env = (false, eval e X.env) :: starEach [] X.env := by rfl) (hpl : (backTo pos (starEach [] X.env)).any (·.1) = false := by rfl) : QE X (.Call (.Name "int" p) [e] [] pos) (w1 gIntC fe) :=
  q_t1R call_int1 lift_intC hg hm (by decide +kernel) he (by decide) (by decide) hs hpl
/-! list(x), tuple(x) -/
def gListC : G1 := fun x Q => match itemsS x with
  | some xs => Q (.own xs)
  | none => False
theorem lift_listC {K : Kx} : Lift1R K (fun xs H Q => ∃ p ys, xs = [.ref p] ∧ (SqL K.K H p ys ∨ SqT K.K H p ys) ∧ ∀ l, H l = none → Q (.ref l) (upd H l (.lst ys))) gListC := by
  intro T B G N H x sx Q Q' h m hg hk
  unfold gListC at hg
  cases e1 : itemsS sx with
  | none => simp only [e1] at hg
  | some xs =>
    simp only [e1] at hg
    obtain ⟨a, vs, rfl, hs, hd⟩ := h.items m e1
    exact ⟨a, vs, rfl, hs, fun l hl => hk _ _ _ _ (h.newOwn hl hd) (.refl _ _) hg⟩
theorem q_listC (hg : Gl X "list") (hm : X.mg "list" = none) (he : QR X e fe)
    (hs : starEach [e] X.env = (false, eval e X.env) :: starEach [] X.env := by rfl) (hpl : (backTo pos (starEach [] X.env)).any (·.1) = false := by rfl) : QE X (.Call (.Name "list" p) [e] [] pos) (w1 gListC fe) :=
  q_t1R call_list_of lift_listC hg hm (by decide +kernel) he (by decide) (by decide) hs hpl
def gTupC : G1 := fun x Q => match itemsS x with
  | some xs => Q (.d (.tuple xs))
  | none => False
theorem lift_tupC {K : Kx} : Lift1R K (fun xs H Q => ∃ p ys, xs = [.ref p] ∧ ((SqL K.K H p ys ∧ ∀ l, H l = none → Q (.ref l) (upd H l (.tup ys))) ∨ (SqT K.K H p ys ∧ Q (.ref p) H))) gTupC := by
  intro T B G N H x sx Q Q' h m hg hk
  unfold gTupC at hg
  match sx, hg, m with
  | .d (.list ys), hg, m =>
    obtain ⟨a, vs, rfl, hs, hd⟩ := h.atL (.inr m)
    exact ⟨a, vs, rfl, .inl ⟨hs, fun l hl => by obtain ⟨h1, w1⟩ := h.newTup hl hd; exact hk _ _ _ _ h1 w1 hg⟩⟩
  | .own ys, hg, m =>
    obtain ⟨a, vs, rfl, hs, hd⟩ := h.atL (.inl m)
    exact ⟨a, vs, rfl, .inl ⟨hs, fun l hl => by obtain ⟨h1, w1⟩ := h.newTup hl hd; exact hk _ _ _ _ h1 w1 hg⟩⟩
  | .d (.tuple ys), hg, m =>
    obtain ⟨a, vs, rfl, hs, hd⟩ := h.atT m
    exact ⟨a, vs, rfl, .inr ⟨hs, hk _ G H _ (h.data (h.ok _ m)) (.refl _ _) hg⟩⟩
theorem q_tupC (hg : Gl X "tuple") (hm : X.mg "tuple" = none) (he : QR X e fe)
    (hs : starEach [e] X.env = (false, eval e X.env) :: starEach [] X.env := by rfl) (hpl : (backTo pos (starEach [] X.env)).any (·.1) = false := by rfl) : QE X (.Call (.Name "tuple" p) [e] [] pos) (w1 gTupC fe) :=
  q_t1R call_tuple_of lift_tupC hg hm (by decide +kernel) he (by decide) (by decide) hs hpl
/-! any, all of bools -/
def boolsOf : List PyData → Option (List Bool)
  | [] => some []
  | .bool i :: r => match boolsOf r with
    | some xs => some (i :: xs)
    | none => none
  | _ => none
theorem boolsOf_eq : ∀ {xs : List PyData} {ns : List Bool}, boolsOf xs = some ns → xs = ns.map .bool
  | [], ns, h => by cases h; rfl
  | .bool i :: r, ns, h => by
    unfold boolsOf at h
    cases e : boolsOf r with
    | none => simp only [e] at h; cases h
    | some ms =>
      simp only [e] at h
      cases h
      rw [boolsOf_eq e]; rfl
theorem boolsOf_map : ∀ ns : List Bool, boolsOf (ns.map .bool) = some ns
  | [] => rfl
  | n :: ns => by rw [List.map_cons]; unfold boolsOf; rw [boolsOf_map ns]
def gBools (f : List Bool → Bool) : G1 := fun x Q => match x with
  | .d (.list xs) => match boolsOf xs with
    | some bs => Q (.d (.bool (f bs)))
    | none => False
  | .own xs => match boolsOf xs with
    | some bs => Q (.d (.bool (f bs)))
    | none => False
  | _ => False
theorem lift_bools {K : Kx} {f : List Bool → Bool} : Lift1R K (fun vs H Q => ∃ (a : Addr) (bs : List Bool), vs = [V.ref a] ∧ SqL K.K H a (bs.map V.bl) ∧ Q (.bl (f bs)) H) (gBools f) := by
  intro T B G N H x sx Q Q' h m hg hk
  have fin : ∀ xs, ((.own xs, some x) ∈ N ∨ (.d (.list xs), some x) ∈ N) → (match boolsOf xs with | some bs => Q' (.d (.bool (f bs))) | none => False) → ∃ (a : Addr) (bs : List Bool), [x] = [V.ref a] ∧ SqL K.K H a (bs.map V.bl) ∧ Q (.bl (f bs)) H := by
    intro xs hm hg
    obtain ⟨a, vs, rfl, hs, hd⟩ := h.atL hm
    cases e : boolsOf xs with
    | none => simp only [e] at hg
    | some bs =>
      simp only [e] at hg
      rw [boolsOf_eq e] at hd
      have := dpAll_bls hd
      subst this
      exact ⟨a, bs, rfl, hs, hk _ G H _ (h.data (.bl _)) (.refl _ _) hg⟩
  match sx, hg, m with
  | .d (.list xs), hg, m => exact fin xs (.inr m) hg
  | .own xs, hg, m => exact fin xs (.inl m) hg
theorem q_any (hc : X.calm = true) (hg : Gl X "any") (hm : X.mg "any" = none) (he : QR X e fe)
    (hs : starEach [e] X.env = (false, eval e X.env) :: starEach [] X.env := by rfl) (hpl : (backTo pos (starEach [] X.env)).any (·.1) = false := by rfl) : QE X (.Call (.Name "any" p) [e] [] pos) (w1 (gBools fun bs => bs.any id) fe) :=
  q_b1R (cr_any hc) lift_bools hg hm (by decide +kernel) he (by decide) (by decide) hs hpl
theorem q_all (hc : X.calm = true) (hg : Gl X "all") (hm : X.mg "all" = none) (he : QR X e fe)
    (hs : starEach [e] X.env = (false, eval e X.env) :: starEach [] X.env := by rfl) (hpl : (backTo pos (starEach [] X.env)).any (·.1) = false := by rfl) : QE X (.Call (.Name "all" p) [e] [] pos) (w1 (gBools fun bs => bs.all id) fe) :=
  q_b1R (cr_all hc) lift_bools hg hm (by decide +kernel) he (by decide) (by decide) hs hpl
/-! sorted -/
def strsOf : List PyData → Option (List Str)
  | [] => some []
  | .str i :: r => match strsOf r with
    | some xs => some (i :: xs)
    | none => none
  | _ => none
theorem strsOf_eq : ∀ {xs : List PyData} {ns : List Str}, strsOf xs = some ns → xs = ns.map .str
  | [], ns, h => by cases h; rfl
  | .str i :: r, ns, h => by
    unfold strsOf at h
    cases e : strsOf r with
    | none => simp only [e] at h; cases h
    | some ms =>
      simp only [e] at h
      cases h
      rw [strsOf_eq e]; rfl
def rSortA (K : PySem.W.Frag) : List V → Hp → VK → Prop := fun vs H Q => rSortedI K vs H Q ∨ rSortedS K vs H Q ∨ (∃ (a : Addr) (kvs : List (Key × V)) (ks : List Str), vs = [.ref a] ∧ Rd H a (.dK kvs) ∧ kvs.map (·.1) = ks.map Sum.inr ∧ ks.length < 64 ∧ ∀ ys p, ys.Perm ks → sortedS ys = true → H p = none → Q (.ref p) (upd H p (.lst (ys.map V.str)))) ∨
  (∃ (a : Addr) (kvs : List (Key × V)) (ks : List Int), vs = [.ref a] ∧ Rd H a (.dK kvs) ∧ kvs.map (·.1) = ks.map Sum.inl ∧ ks.length < 64 ∧ ∀ (ys : List Int) (p : Addr), ys.Perm ks → ys.Pairwise (· ≤ ·) → H p = none → Q (.ref p) (upd H p (.lst (ys.map V.int))))
theorem call_sortA (hc : X.calm = true) : CallR X (.builtin "sorted") (rSortA X.K) := by
  intro pins s σ H xs us Q I r h
  rcases h with h | h | h | h
  · exact cr_sortedI pins s σ H xs us Q I r h
  · exact cr_sortedS pins s σ H xs us Q I r h
  · exact call_sortedD hc pins s σ H xs us Q I r h
  · exact call_sortedDI hc pins s σ H xs us Q I r h
def gSort : G1 := fun x Q => match x with
  | .d (.list xs) => (∃ ns, intsOf xs = some ns ∧ ∀ ns' : List Int, ns'.Perm ns → ns'.Pairwise (· ≤ ·) → Q (.own (ns'.map .int))) ∨ (∃ ks, strsOf xs = some ks ∧ ks.length < 64 ∧ ∀ ys : List Str, ys.Perm ks → sortedS ys = true → Q (.own (ys.map .str)))
  | .own xs => (∃ ns, intsOf xs = some ns ∧ ∀ ns' : List Int, ns'.Perm ns → ns'.Pairwise (· ≤ ·) → Q (.own (ns'.map .int))) ∨ (∃ ks, strsOf xs = some ks ∧ ks.length < 64 ∧ ∀ ys : List Str, ys.Perm ks → sortedS ys = true → Q (.own (ys.map .str)))
  | .dct kvs => (∃ ns, intsOf (kvs.map (·.1)) = some ns ∧ ns.length < 64 ∧ ∀ ns' : List Int, ns'.Perm ns → ns'.Pairwise (· ≤ ·) → Q (.own (ns'.map .int))) ∨ (∃ ks, strsOf (kvs.map (·.1)) = some ks ∧ ks.length < 64 ∧ ∀ ys : List Str, ys.Perm ks → sortedS ys = true → Q (.own (ys.map .str)))
  | _ => False
theorem kvr_strs {K : Kx} {G : Hp} : ∀ {ks : List (Key × V)} {kvs : List (PyData × PyData)} {zs : List Str}, KvR K G ks kvs → kvs.map (·.1) = zs.map .str → ks.map (·.1) = zs.map Sum.inr
  | _, _, [], .nil, _ => rfl
  | _, _, _ :: _, .nil, h => by simp at h
  | _, _, [], .cons _ _, h => by simp at h
  | (k, v) :: ks, (q, w) :: kvs, z :: zs, .cons a t, h => by
    have h1 : q = .str z ∧ kvs.map (·.1) = zs.map .str := by simpa using h
    obtain ⟨rfl, h2⟩ := h1
    have a1 : keyD k = .str z := a.1
    have : k = .inr z := by cases k <;> simp [keyD] at a1; rw [a1]
    subst this
    rw [List.map_cons, List.map_cons, kvr_strs t h2]
theorem kvr_ints {K : Kx} {G : Hp} : ∀ {ks : List (Key × V)} {kvs : List (PyData × PyData)} {zs : List Int}, KvR K G ks kvs → kvs.map (·.1) = zs.map .int → ks.map (·.1) = zs.map Sum.inl
  | _, _, [], .nil, _ => rfl
  | _, _, _ :: _, .nil, h => by simp at h
  | _, _, [], .cons _ _, h => by simp at h
  | (k, v) :: ks, (q, w) :: kvs, z :: zs, .cons a t, h => by
    have h1 : q = .int z ∧ kvs.map (·.1) = zs.map .int := by simpa using h
    obtain ⟨rfl, h2⟩ := h1
    have a1 : keyD k = .int z := a.1
    have : k = .inl z := by cases k <;> simp [keyD] at a1; rw [a1]
    subst this
    rw [List.map_cons, List.map_cons, kvr_ints t h2]
theorem lift_sort {K : Kx} : Lift1R K (rSortA K.K) gSort := by
  intro T B G N H x sx Q Q' h m hg hk
  have fin : ∀ xs, ((.own xs, some x) ∈ N ∨ (.d (.list xs), some x) ∈ N) → ((∃ ns, intsOf xs = some ns ∧ ∀ ns' : List Int, ns'.Perm ns → ns'.Pairwise (· ≤ ·) → Q' (.own (ns'.map .int))) ∨ (∃ ks, strsOf xs = some ks ∧ ks.length < 64 ∧ ∀ ys : List Str, ys.Perm ks → sortedS ys = true → Q' (.own (ys.map .str)))) →
      rSortA K.K [x] H Q := by
    intro xs hm hg
    obtain ⟨a, vs, rfl, hs, hd⟩ := h.atL hm
    rcases hg with ⟨ns, e, hg⟩ | ⟨ks, e, hl, hg⟩
    · rw [intsOf_eq e] at hd
      have := dpAll_ints hd
      subst this
      exact .inl ⟨a, ns, rfl, hs, fun ns' p h1 h2 hp => hk _ _ _ _ (h.newOwn hp (dpAll_ofInts ns')) (.refl _ _) (hg ns' h1 h2)⟩
    · rw [strsOf_eq e] at hd
      have := dpAll_strs hd
      subst this
      exact .inr (.inl ⟨a, ks, rfl, hs, hl, fun ys p h1 h2 hp => hk _ _ _ _ (h.newOwn hp (dpAll_ofStrs ys)) (.refl _ _) (hg ys h1 h2)⟩)
  match sx, hg, m with
  | .d (.list xs), hg, m => exact fin xs (.inr m) hg
  | .own xs, hg, m => exact fin xs (.inl m) hg
  | .dct kvs, hg, m =>
    obtain ⟨a, e⟩ := h.ref_dct m
    cases e
    obtain ⟨_, ks, ea, hr⟩ := h.ok _ m
    have hlen := kvr_len hr
    rcases hg with ⟨ns, e, hl, hg⟩ | ⟨zs, e, hl, hg⟩
    · exact .inr (.inr (.inr ⟨a, ks, ns, rfl, .inl ea, kvr_ints hr (intsOf_eq e), hl, fun ys p h1 h2 hp => hk _ _ _ _ (h.newOwn hp (dpAll_ofInts ys)) (.refl _ _) (hg ys h1 h2)⟩))
    · exact .inr (.inr (.inl ⟨a, ks, zs, rfl, .inl ea, kvr_strs hr (strsOf_eq e), hl, fun ys p h1 h2 hp => hk _ _ _ _ (h.newOwn hp (dpAll_ofStrs ys)) (.refl _ _) (hg ys h1 h2)⟩))
theorem q_sorted (hc : X.calm = true) (hg : Gl X "sorted") (hm : X.mg "sorted" = none) (he : QR X e fe)
    (hs : starEach [e] X.env = (false, eval e X.env) :: starEach [] X.env := by rfl) (hpl : (backTo pos (starEach [] X.env)).any (·.1) = false := by rfl) : QE X (.Call (.Name "sorted" p) [e] [] pos) (w1 gSort fe) :=
  q_b1R (call_sortA hc) lift_sort hg hm (by decide +kernel) he (by decide) (by decide) hs hpl

/-! isinstance -/
def tyD : PyData → String
  | .none => "NoneType"
  | .bool _ => "bool"
  | .int _ => "int"
  | .str _ => "str"
  | .list _ => "list"
  | .tuple _ => "tuple"
  | .dict _ => "dict"
theorem tyx_dp {K : PySem.W.Frag} {H : Hp} {v : V} {x : PyData} (h : Dp K H v x) : TyX K H v (.type (tyD x)) := by
  cases h with
  | non => exact .base .non
  | bl b => exact .base (.bl b)
  | int i => exact .base (.int i)
  | str z => exact .base (.str z)
  | lst hs _ =>
    rcases hs with (h | ⟨o, h⟩) | ⟨o, its, n, hk, hc, _⟩
    · exact .base (.lst h)
    · exact .base (.frz h)
    · exact .kList hk hc
  | tup hs _ =>
    rcases hs with (h | ⟨o, h⟩) | ⟨o, its, n, hk, hc, _⟩
    · exact .base (.tup h)
    · exact .fTuple h
    · exact .kTuple hk hc
def wIsi (T : String) (fe : FE) : FE := fun ρ Q => fe ρ fun sv => match asD sv with
  | some x => match kitB (tyD x) T with
    | some b => Q (.d (.bool b))
    | none => False
  | none => False
theorem q_isi {T : Str} {U : String} {p2 : Pos} (hg : Gl X "isinstance") (hm : X.mg "isinstance" = none) (hgT : Gl X T) (hmT : X.mg T = none) (hvT : bootBuiltins T = some (.type U)) (he : QE X e fe) (hnT : T ≠ "__name__" := by decide) (hdT : (T == ("__debug__" : Str)) = false := by decide)
    (hs : starEach [e, .Name T p2] X.env = (false, eval e X.env) :: starEach [.Name T p2] X.env := by rfl) (hs2 : starEach [.Name T p2] X.env = (false, eval (.Name T p2) X.env) :: starEach [] X.env := by rfl) (hpl : (backTo pos (starEach [.Name T p2] X.env)).any (·.1) = false := by rfl) :
    QE X (.Call (.Name "isinstance" p) [e, .Name T p2] [] pos) (wIsi U fe) := by
  refine PE.imp (pe_callB call_isi hg hm (by decide +kernel) (pa_cons he (pa_cons (pe_bltn (v := .ty U) hgT hmT hvT rfl hnT hdT) pa_nil hs2) hs) (by decide) (by decide) hs hpl) fun σ H Q h => ?_
  obtain ⟨T', B, G, L, M, Q', rfl, h, hf, hk⟩ := h
  refine ⟨T', B, G, L, M, _, rfl, h, hf, fun v G1 H1 sv h1 w1 q1 => ?_⟩
  cases ed : asD sv with
  | none => simp only [ed] at q1
  | some d =>
    simp only [ed] at q1
    obtain ⟨G2, h2, w2⟩ := h1.frzD ed
    cases ek : kitB (tyD d) U with
    | none => simp only [ek] at q1
    | some b =>
      simp only [ek] at q1
      exact ⟨v, .ty U, .type (tyD d), .type U, b, rfl, .ty U, tyx_dp (dp_mono h2.gH _ _ h2.dp), kit_ty ek, hk _ G2 H1 _ (h2.tail.data (.bl _)) (w1.trans w2) q1⟩
def wIsi2 (T U : String) (fe : FE) : FE := fun ρ Q => fe ρ fun sv => match asD sv with
  | some x => match kitB (tyD x) T, kitB (tyD x) U with
    | some b, some c => Q (.d (.bool (b || c)))
    | _, _ => False
  | none => False
theorem q_isi2 {T T2 : Str} {U U2 : String} {p2 p3 p4 : Pos} {kt : Nat} (hg : Gl X "isinstance") (hm : X.mg "isinstance" = none) (hgT : Gl X T) (hmT : X.mg T = none) (hvT : bootBuiltins T = some (.type U)) (hgT2 : Gl X T2) (hmT2 : X.mg T2 = none) (hvT2 : bootBuiltins T2 = some (.type U2)) (he : QE X e fe)
    (hnT : T ≠ "__name__" := by decide) (hdT : (T == ("__debug__" : Str)) = false := by decide) (hnT2 : T2 ≠ "__name__" := by decide) (hdT2 : (T2 == ("__debug__" : Str)) = false := by decide)
    (hs : starEach [e, .Tuple [.Name T p2, .Name T2 p3] kt p4] X.env = (false, eval e X.env) :: starEach [.Tuple [.Name T p2, .Name T2 p3] kt p4] X.env := by rfl) (hs2 : starEach [.Tuple [.Name T p2, .Name T2 p3] kt p4] X.env = (false, eval (.Tuple [.Name T p2, .Name T2 p3] kt p4) X.env) :: starEach [] X.env := by rfl)
    (hs3 : starEach [.Name T p2, .Name T2 p3] X.env = (false, eval (.Name T p2) X.env) :: starEach [.Name T2 p3] X.env := by rfl) (hs4 : starEach [.Name T2 p3] X.env = (false, eval (.Name T2 p3) X.env) :: starEach [] X.env := by rfl)
    (hpl : (backTo pos (starEach [.Tuple [.Name T p2, .Name T2 p3] kt p4] X.env)).any (·.1) = false := by rfl) :
    QE X (.Call (.Name "isinstance" p) [e, .Tuple [.Name T p2, .Name T2 p3] kt p4] [] pos) (wIsi2 U U2 fe) := by
  refine PE.imp (pe_callB call_isiT hg hm (by decide +kernel) (pa_cons he (pa_cons (pe_tup (pa_cons (pe_bltn (v := .ty U) hgT hmT hvT rfl hnT hdT) (pa_cons (pe_bltn (v := .ty U2) hgT2 hmT2 hvT2 rfl hnT2 hdT2) pa_nil hs4) hs3)) pa_nil hs2) hs) (by decide) (by decide) hs hpl) fun σ H Q h => ?_
  obtain ⟨T', B, G, L, M, Q', rfl, h, hf, hk⟩ := h
  refine ⟨T', B, G, L, M, _, rfl, h, hf, fun v G1 H1 sv h1 w1 q1 => ?_⟩
  cases ed : asD sv with
  | none => simp only [ed] at q1
  | some d =>
    simp only [ed] at q1
    obtain ⟨G2, h2, w2⟩ := h1.frzD ed
    cases ek : kitB (tyD d) U with
    | none => simp only [ek] at q1
    | some b =>
      cases ek2 : kitB (tyD d) U2 with
      | none => simp only [ek, ek2] at q1
      | some c =>
        simp only [ek, ek2] at q1
        refine ⟨(by show 2 ≤ sizeLine; decide), fun t ht => ?_⟩
        obtain ⟨h3, w3⟩ := h2.newG (o := .tup [.ty U, .ty U2]) ht
        refine ⟨v, t, [.ty U, .ty U2], .type (tyD d), [.type U, .type U2], b || c, rfl, upd_same, .cons (.ty U) (.cons (.ty U2) .nil), tyx_dp (dp_mono h3.gH _ _ h3.dp), ?_, hk _ _ _ _ (h3.tail.data (.bl _)) (w1.trans (w2.trans w3)) q1⟩
        refine kitAny_cons (kit_ty ek) (fun hb => ?_) (fun hb => by rw [hb]; rfl)
        rw [hb, Bool.false_or]
        refine kitAny_cons (kit_ty ek2) (fun hb => by rw [hb]; rfl) (fun hb => hb)
theorem kitB_NoneType_int : kitB "NoneType" "int" = some false := by decide +kernel
theorem kitB_NoneType_bool : kitB "NoneType" "bool" = some false := by decide +kernel
theorem kitB_NoneType_str : kitB "NoneType" "str" = some false := by decide +kernel
theorem kitB_NoneType_list : kitB "NoneType" "list" = some false := by decide +kernel
theorem kitB_NoneType_tuple : kitB "NoneType" "tuple" = some false := by decide +kernel
theorem kitB_bool_int : kitB "bool" "int" = some true := by decide +kernel
theorem kitB_bool_bool : kitB "bool" "bool" = some true := by decide +kernel
theorem kitB_bool_str : kitB "bool" "str" = some false := by decide +kernel
theorem kitB_bool_list : kitB "bool" "list" = some false := by decide +kernel
theorem kitB_bool_tuple : kitB "bool" "tuple" = some false := by decide +kernel
theorem kitB_int_int : kitB "int" "int" = some true := by decide +kernel
theorem kitB_int_bool : kitB "int" "bool" = some false := by decide +kernel
theorem kitB_int_str : kitB "int" "str" = some false := by decide +kernel
theorem kitB_int_list : kitB "int" "list" = some false := by decide +kernel
theorem kitB_int_tuple : kitB "int" "tuple" = some false := by decide +kernel
theorem kitB_str_int : kitB "str" "int" = some false := by decide +kernel
theorem kitB_str_bool : kitB "str" "bool" = some false := by decide +kernel
theorem kitB_str_str : kitB "str" "str" = some true := by decide +kernel
theorem kitB_str_list : kitB "str" "list" = some false := by decide +kernel
theorem kitB_str_tuple : kitB "str" "tuple" = some false := by decide +kernel
theorem kitB_list_int : kitB "list" "int" = some false := by decide +kernel
theorem kitB_list_bool : kitB "list" "bool" = some false := by decide +kernel
theorem kitB_list_str : kitB "list" "str" = some false := by decide +kernel
theorem kitB_list_list : kitB "list" "list" = some true := by decide +kernel
theorem kitB_list_tuple : kitB "list" "tuple" = some false := by decide +kernel
theorem kitB_tuple_int : kitB "tuple" "int" = some false := by decide +kernel
theorem kitB_tuple_bool : kitB "tuple" "bool" = some false := by decide +kernel
theorem kitB_tuple_str : kitB "tuple" "str" = some false := by decide +kernel
theorem kitB_tuple_list : kitB "tuple" "list" = some false := by decide +kernel
theorem kitB_tuple_tuple : kitB "tuple" "tuple" = some true := by decide +kernel

/-! zip, enumerate, reversed(range(n)) -/
def zipD (xs ys : List PyData) : List PyData := (xs.zip ys).map fun p => .tuple [p.1, p.2]
theorem zipD_get {xs ys : List PyData} {i : Nat} {y : PyData} (h : (zipD xs ys)[i]? = some y) : ∃ a b, xs[i]? = some a ∧ ys[i]? = some b ∧ y = .tuple [a, b] := by
  unfold zipD at h
  rw [List.getElem?_map] at h
  cases e : (xs.zip ys)[i]? with
  | none => rw [e] at h; cases h
  | some p =>
    rw [e] at h
    cases h
    obtain ⟨a, b⟩ := p
    have := List.getElem?_zip_eq_some.mp e
    exact ⟨a, b, this.1, this.2, rfl⟩
theorem zipD_len (xs ys : List PyData) : (zipD xs ys).length = min xs.length ys.length := by simp [zipD]
theorem it_zip {K : Kx} {G : Hp} {a b : Addr} {vs us : List V} {xs ys : List PyData} (hs : SqL K.K G a vs) (hd : DpAll K.K G vs xs) (hs2 : SqL K.K G b us) (hd2 : DpAll K.K G us ys) : ItOk K (Itz K.K a b) G (zipD xs ys) where
  go := fun i H s hi => by
    rw [zipD_len, ← dpAll_len hd, ← dpAll_len hd2] at hi
    exact ⟨vs, us, vs[i]'(by omega), us[i]'(by omega), s.seq hs, s.seq hs2, by simp, by simp⟩
  stop := fun i H s hi => by
    rw [zipD_len, ← dpAll_len hd, ← dpAll_len hd2] at hi
    exact ⟨vs, us, s.seq hs, s.seq hs2, by omega⟩
  yld := fun i H x H' y s hy hj T B G1 L h sg => by
    obtain ⟨t, p, q, rfl, ht, rfl, h1, h2⟩ := hj
    obtain ⟨dp, dq, e1, e2, rfl⟩ := zipD_get hy
    obtain ⟨v, ev, hv⟩ := dpAll_get' hd e1
    obtain ⟨u, eu, hu⟩ := dpAll_get' hd2 e2
    have f1 := h1 vs (s.seq hs)
    have f2 := h2 us (s.seq hs2)
    rw [ev] at f1
    rw [eu] at f2
    cases f1
    cases f2
    obtain ⟨h3, w3⟩ := h.newTup ht (vs := [p, q]) (xs := [dp, dq]) (.cons (dp_mono sg _ _ hv) (.cons (dp_mono sg _ _ hu) .nil))
    exact ⟨_, h3, w3⟩
theorem it_zipT {K : Kx} {G : Hp} {a b : Addr} {vs us : List V} {xs ys : List PyData} (hs : SqT K.K G a vs) (hd : DpAll K.K G vs xs) (hs2 : SqT K.K G b us) (hd2 : DpAll K.K G us ys) : ItOk K (RZ.ItzT K.K a b) G (zipD xs ys) where
  go := fun i H s hi => by
    rw [zipD_len, ← dpAll_len hd, ← dpAll_len hd2] at hi
    exact ⟨vs, us, vs[i]'(by omega), us[i]'(by omega), same_tup s hs, same_tup s hs2, by simp, by simp⟩
  stop := fun i H s hi => by
    rw [zipD_len, ← dpAll_len hd, ← dpAll_len hd2] at hi
    exact ⟨vs, us, same_tup s hs, same_tup s hs2, by omega⟩
  yld := fun i H x H' y s hy hj T B G1 L h sg => by
    obtain ⟨t, p, q, rfl, ht, rfl, h1, h2⟩ := hj
    obtain ⟨dp, dq, e1, e2, rfl⟩ := zipD_get hy
    obtain ⟨v, ev, hv⟩ := dpAll_get' hd e1
    obtain ⟨u, eu, hu⟩ := dpAll_get' hd2 e2
    have f1 := h1 vs (same_tup s hs)
    have f2 := h2 us (same_tup s hs2)
    rw [ev] at f1
    rw [eu] at f2
    cases f1
    cases f2
    obtain ⟨h3, w3⟩ := h.newTup ht (vs := [p, q]) (xs := [dp, dq]) (.cons (dp_mono sg _ _ hv) (.cons (dp_mono sg _ _ hu) .nil))
    exact ⟨_, h3, w3⟩
def wIZ (fa : FA) : FI := fun ρ Q => fa ρ fun svs => match asDs svs with
  | some [.list xs, .list ys] => Q (zipD xs ys)
  | some [.tuple xs, .tuple ys] => Q (zipD xs ys)
  | _ => False
theorem qi_zip {elts : List Expr} {kk : Nat} {tpos : Pos} (hg : Gl X "zip") (hm : X.mg "zip" = none) (ha : QA X [e, e2] fa)
    (hs : starEach [e, e2] X.env = (false, eval e X.env) :: starEach [e2] X.env := by rfl) (hpl : (backTo pos (starEach [e2] X.env)).any (·.1) = false := by rfl) : QI X (.Tuple elts kk tpos) (.Call (.Name "zip" p) [e, e2] [] pos) (wIZ fa) := by
  refine PI.imp (RZ.pi_zipA hg hm ha hs hpl) fun σ H R h => ?_
  obtain ⟨T, B, G, L, M, Q', rfl, h, hf, hk⟩ := h
  refine ⟨T, B, G, L, M, _, rfl, h, hf, fun A vs G1 H1 e1 h1 w1 q1 => ?_⟩
  cases e0 : asDs (A.map Prod.fst) with
  | none => simp only [e0] at q1
  | some ds =>
    simp only [e0] at q1
    obtain ⟨G2, h2, d2, w2⟩ := h1.frzAll e1 e0
    match ds, q1, d2 with
    | [.list xs, .list ys], q1, d2 =>
      cases d2 with
      | cons a1 a2 =>
        cases a2 with
        | cons a2 a3 =>
          cases a3
          cases a1 with
          | lst hs hd =>
            cases a2 with
            | lst hs2 hd2 => exact ⟨_, _, _, _, rfl, .inl ⟨h2.gH.seq hs, h2.gH.seq hs2, hk _ G2 H1 _ h2 (w1.trans w2) (it_zip hs hd hs2 hd2) q1⟩⟩
    | [.tuple xs, .tuple ys], q1, d2 =>
      cases d2 with
      | cons a1 a2 =>
        cases a2 with
        | cons a2 a3 =>
          cases a3
          cases a1 with
          | tup hs hd =>
            cases a2 with
            | tup hs2 hd2 => exact ⟨_, _, _, _, rfl, .inr ⟨same_tup h2.gH hs, same_tup h2.gH hs2, hk _ G2 H1 _ h2 (w1.trans w2) (it_zipT hs hd hs2 hd2) q1⟩⟩
def enumD : Nat → List PyData → List PyData
  | _, [] => []
  | n, x :: xs => .tuple [.int (n : Int), x] :: enumD (n + 1) xs
theorem enumD_get : ∀ {xs : List PyData} {n i : Nat} {y : PyData}, (enumD n xs)[i]? = some y → ∃ a, xs[i]? = some a ∧ y = .tuple [.int ((n + i : Nat) : Int), a]
  | [], _, _, _, h => by simp [enumD] at h
  | x :: xs, n, 0, y, h => by simp [enumD] at h; exact ⟨x, rfl, by rw [← h]; simp⟩
  | x :: xs, n, i + 1, y, h => by
    have h' : (enumD (n + 1) xs)[i]? = some y := by simpa [enumD] using h
    obtain ⟨a, e, rfl⟩ := enumD_get h'
    exact ⟨a, by simpa using e, by rw [show n + 1 + i = n + (i + 1) by omega]⟩
theorem enumD_len : ∀ (xs : List PyData) (n : Nat), (enumD n xs).length = xs.length
  | [], _ => rfl
  | x :: xs, n => by simp [enumD, enumD_len xs]
theorem it_enum {K : Kx} {G : Hp} {a : Addr} {vs : List V} {xs : List PyData} (hs : SqL K.K G a vs) (hd : DpAll K.K G vs xs) : ItOk K (Ite K.K a) G (enumD 0 xs) where
  go := fun i H s hi => by
    rw [enumD_len, ← dpAll_len hd] at hi
    exact ⟨vs, vs[i], s.seq hs, by simp [hi]⟩
  stop := fun i H s hi => ⟨vs, s.seq hs, by rw [dpAll_len hd]; rw [enumD_len] at hi; exact hi⟩
  yld := fun i H x H' y s hy hj T B G1 L h sg => by
    obtain ⟨t, p, rfl, ht, rfl, h1⟩ := hj
    obtain ⟨d, e1, rfl⟩ := enumD_get hy
    obtain ⟨v, ev, hv⟩ := dpAll_get' hd e1
    have f1 := h1 vs (s.seq hs)
    rw [ev] at f1
    cases f1
    rw [Nat.zero_add]
    obtain ⟨h3, w3⟩ := h.newTup ht (vs := [.int (i : Nat), p]) (xs := [.int (i : Nat), d]) (.cons (.int _) (.cons (dp_mono sg _ _ hv) .nil))
    exact ⟨_, h3, w3⟩
def wIE (fa : FA) : FI := fun ρ Q => fa ρ fun svs => match asDs svs with
  | some [.list xs] => Q (enumD 0 xs)
  | _ => False
theorem qi_enum {elts : List Expr} {kk : Nat} {tpos : Pos} (hg : Gl X "enumerate") (hm : X.mg "enumerate" = none) (ha : QA X [e] fa) (hs : starEach [e] X.env = [(false, eval e X.env)] := by rfl) : QI X (.Tuple elts kk tpos) (.Call (.Name "enumerate" p) [e] [] pos) (wIE fa) := by
  refine PI.imp (pi_enum hg hm ha hs) fun σ H R h => ?_
  obtain ⟨T, B, G, L, M, Q', rfl, h, hf, hk⟩ := h
  refine ⟨T, B, G, L, M, _, rfl, h, hf, fun A vs G1 H1 e1 h1 w1 q1 => ?_⟩
  cases e0 : asDs (A.map Prod.fst) with
  | none => simp only [e0] at q1
  | some ds =>
    simp only [e0] at q1
    obtain ⟨G2, h2, d2, w2⟩ := h1.frzAll e1 e0
    match ds, q1, d2 with
    | [.list xs], q1, d2 =>
      cases d2 with
      | cons a1 a2 =>
        cases a2
        cases a1 with
        | lst hs hd => exact ⟨_, _, rfl, h2.gH.seq hs, hk _ G2 H1 _ h2 (w1.trans w2) (it_enum hs hd) q1⟩
def revD (n : Nat) : List PyData := (List.range n).map fun i => .int ((n : Int) - 1 - (i : Nat))
theorem it_rev (K : Kx) (G : Hp) (n : Nat) : ItOk K (Itc (0 + (((n : Int) - 0).toNat : Int) - 1) (-1) ((n : Int) - 0).toNat) G (revD n) where
  go := fun i H s hi => by
    show i < ((n : Int) - 0).toNat
    simp [revD] at hi; omega
  stop := fun i H s hi => by
    show ((n : Int) - 0).toNat ≤ i
    simp [revD] at hi; omega
  yld := fun i H x H' y s hy hj T B G1 L h sg => by
    obtain ⟨rfl, rfl⟩ := hj
    have e : y = .int ((n : Int) - 1 - (i : Nat)) := by
      simp only [revD, List.getElem?_map] at hy
      cases e : (List.range n)[i]? with
      | none => rw [e] at hy; cases hy
      | some j =>
        rw [e] at hy
        obtain ⟨h1, h2⟩ := List.getElem?_eq_some_iff.mp e
        simp at h2
        subst h2
        cases hy
        rfl
    rw [e]
    have e2 : (0 : Int) + (((n : Int) - 0).toNat : Int) - 1 + (i : Nat) * (-1) = (n : Int) - 1 - (i : Nat) := by omega
    rw [e2]
    exact ⟨G1, h.data (.int _), .refl _ _⟩
def wIRv (fe : FE) : FI := fun ρ Q => fe ρ fun x => match x with
  | .d (.int j) => (0 ≤ j ∧ j < 2 ^ 62) ∧ Q (revD j.toNat)
  | _ => False
theorem qi_rev1 {tg : Expr} {p2 pos2 : Pos} (hg : Gl X "reversed") (hm : X.mg "reversed" = none) (hg2 : Gl X "range") (hm2 : X.mg "range" = none) (he : QE X e fe)
    (h : ∀ te : TE, PE X e te → PI X tg (.Call (.Name "reversed" p) [.Call (.Name "range" p2) [e] [] pos2] [] pos) (iRevR (tRg1 te))) : QI X tg (.Call (.Name "reversed" p) [.Call (.Name "range" p2) [e] [] pos2] [] pos) (wIRv fe) := by
  refine PI.imp (h _ he) fun σ H R h => ?_
  obtain ⟨T, B, G, L, M, Q', rfl, h, hf, hk⟩ := h
  refine ⟨T, B, G, L, M, _, rfl, h, hf, fun v G1 H1 sv h1 w1 q1 => ?_⟩
  match sv, q1, h1 with
  | .d (.int j), q1, h1 =>
    have d1 := h1.dp
    cases d1
    obtain ⟨⟨a1, a2⟩, q1⟩ := q1
    refine ⟨j, rfl, by omega, by omega, by omega, a2, ?_⟩
    have e : ((j.toNat : Nat) : Int) = j := Int.toNat_of_nonneg a1
    have z := it_rev (kx X) G1 j.toNat
    rw [e] at z
    exact hk _ G1 H1 _ h1.tail w1 z q1
end
end Z

/-! the def that draws from the tape; the law's def -/
namespace Z
open PySem PySem.Spec PyProof.Rows L2

section
variable {K : Kx} {B G G' H H' : Hp} {T : Option Tape} {L M N : List Sl}
theorem slot_anyT {t : Tape} {p : Sl} (h : SlotOk K none B G H p) (hn : adr p ≠ some t.t) : SlotOk K (some t) B G H p := by
  have own : ∀ a, Own none B G a → a ≠ t.t → Own (some t) B G a := fun a o ne => ⟨o.b, o.g, fun u hu => by cases hu; exact fun z => ne z.symm⟩
  obtain ⟨sv, o⟩ := p
  cases sv with
  | no => trivial
  | d x => cases o <;> exact h
  | own xs =>
    cases o with
    | none => exact h
    | some v =>
      cases v with
      | ref a => exact ⟨own a h.1 (fun z => hn (by rw [← z]; rfl)), h.2⟩
      | _ => exact h
  | dct xs =>
    cases o with
    | none => exact h
    | some v =>
      cases v with
      | ref a => exact ⟨own a h.1 (fun z => hn (by rw [← z]; rfl)), h.2⟩
      | _ => exact h
  | dcn xs =>
    cases o with
    | none => exact h
    | some v =>
      cases v with
      | ref a => exact ⟨own a h.1 (fun z => hn (by rw [← z]; rfl)), h.2⟩
      | _ => exact h
  | tpo b xs =>
    cases o with
    | none => exact h
    | some v =>
      cases v with
      | ref a => exact ⟨h.1, own a h.2.1 (fun z => hn (by rw [← z]; rfl)), h.2.2⟩
      | _ => exact h
  | tp =>
    cases o with
    | none => exact h
    | some v =>
      cases v with
      | ref a => obtain ⟨u, hu, _⟩ := h; cases hu
      | _ => exact h
/-- an own list becomes the tape -/
theorem SR.toTape {cells : List Int} {a b : Int} {i : Nat} {o : Option V} (h : SR K none B G L H) (e : L[i]? = some (.own (tapeD cells a b), o)) :
    ∃ t : Tape, SR K (some t) B G (L.set i (.tp, o)) H := by
  obtain ⟨τ, rfl⟩ := h.ref_own (List.mem_of_getElem? e)
  have hi : i < L.length := (List.getElem?_eq_some_iff.mp e).1
  have h1 := h.front (M := []) e
  obtain ⟨ow, vs, ev, hd⟩ := h1.head
  have hL := h1.head_nd rfl
  refine ⟨⟨τ, cells⟩, SR.back (M := []) (p := (.tp, some (.ref τ))) ?_ hi⟩
  have h2 : SR K (some ⟨τ, cells⟩) B G ([] ++ L.eraseIdx i) H :=
    { bH := h.bH
      gH := h.gH
      tp := fun t ht => by cases ht; exact ⟨ow.b, ow.g, vs, a, b, ev, hd⟩
      ok := fun p hp => slot_anyT (h1.ok p (List.mem_cons_of_mem _ hp)) fun z => hL (List.mem_filterMap.mpr ⟨p, hp, z⟩)
      nd := h1.tail.nd }
  exact h2.cons ⟨_, rfl, rfl⟩ fun a ea => by rw [adr_tp] at ea; cases ea
end

section
variable {P : Program} {w : World} {K : PySem.W.Frag} {mg : Str → Option Value} {base : Heap}
theorem cal_tape {x : Str} {st : Stmt} {f : Addr} {fd : FuncData} {N ps : List Str} {k : Nat} {φ : Phi} {b : FS} (F : C8.Def K mg x st f fd) (bn : Binds K fd ps []) (S : FnScope N ps (C8.fnScope st))
    (hl : ∀ as Q, φ as Q → as.length = ps.length)
    (hb : ∀ as Q, φ as Q → ∃ ds : List PyData, as = .tp :: ds.map .d ∧ ∀ (τ : Addr) (cells : List Int) (u v : Int),
      b { nx := fun _ => False, rt := fun sv ρ' => (∃ z, sv = .d z ∧ Q sv) ∧ ∃ u' v', ρ'[0]? = some (.tpo τ (tapeD cells u' v')) } ((.tpo τ (tapeD cells u v) :: ds.map .d) ++ List.replicate (N.length - as.length) .no))
    (der : ∀ (cdv : Value) (A : Around) (outer : List Env) (s : Shared) (H : Hp) (E : XK), Room k (A.deeper (envOfC x (C8.fnScope st) s.heap.objs.size f cdv)) →
      QSs (cxOf CX0 P w K mg base N x (C8.fnScope st) f cdv A outer s H E).nox (C8.fnBody st) b) : CalQ P w K mg base (k + 1) x φ := by
  refine C8.cal0 F bn .nil S (fun vs H Q E h => ?_) fun cdv A outer s H vs Q E hr h => ?_
  · obtain ⟨T, B, G, A, N', Q', e1, h, ha, hf, hk⟩ := h
    have := hl _ _ hf
    rw [← this, List.length_map, ← List.length_map (f := Prod.snd), e1, List.length_map]
  · obtain ⟨T, B, G, A', N', Q', e1, h, ha, hf, hk⟩ := h
    have hlen : A'.length = vs.length := by rw [← List.length_map (f := Prod.snd), e1, List.length_map]
    obtain ⟨ds, eas, hbd⟩ := hb _ _ hf
    have hN : SR ⟨K, P, w⟩ T B G N' H := h.sub (List.sublist_append_right _ _)
    match A', eas, e1, h, ha, hlen, hf, hbd with
    | (.tp, o) :: A'', eas, e1, h, ha, hlen, hf, hbd =>
      have eas' : A''.map Prod.fst = ds.map SV.d := by simpa using eas
      have s0 := h.enter ha (N.length - vs.length)
      have hh := s0.head
      match o, hh with
      | some (.ref τ), hh =>
        obtain ⟨t, hT, ht⟩ := hh
        subst ht
        obtain ⟨tb, tg, us, u, v, tl, td⟩ := s0.tp t hT
        have s1 : SR ⟨K, P, w⟩ none (offT T H) G ((.tpo t.t (tapeD t.cells u v), some (.ref t.t)) :: (A'' ++ List.replicate (N.length - vs.length) ((SV.no, none) : Sl))) H :=
          { bH := s0.bH
            gH := s0.gH
            tp := fun t ht => by cases ht
            ok := fun p hp => by
              rcases List.mem_cons.mp hp with e | hp
              · subst e; exact ⟨rfl, ⟨tb, tg, fun t ht => by cases ht⟩, us, tl, td⟩
              · have z := s0.ok p (List.mem_cons_of_mem _ hp)
                rcases List.mem_append.mp hp with hp | hp
                · have : p.1 ∈ ds.map SV.d := by rw [← eas']; exact List.mem_map.mpr ⟨p, hp, rfl⟩
                  obtain ⟨y, _, ey⟩ := List.mem_map.mp this
                  obtain ⟨p1, p2⟩ := p
                  have ey' : p1 = .d y := ey.symm
                  subst ey'
                  cases p2 <;> exact z
                · rw [List.eq_of_mem_replicate hp]; trivial
            nd := by
              have : (A'' ++ List.replicate (N.length - vs.length) ((SV.no, none) : Sl)).filterMap adr = [] := List.filterMap_eq_nil_iff.mpr fun p hp => by
                rcases List.mem_append.mp hp with hp | hp
                · exact ha p (List.mem_cons_of_mem _ hp)
                · rw [List.eq_of_mem_replicate hp]; rfl
              rw [List.filterMap_cons_some (show adr (.tpo t.t (tapeD t.cells u v), some (.ref t.t)) = some t.t from rfl), this]
              exact List.nodup_cons.mpr ⟨by simp, List.nodup_nil⟩ }
        refine ⟨_, der cdv A outer s H E hr, none, offT T H, G, _, { nx := fun _ => False, rt := fun sv ρ' => (∃ z, sv = .d z ∧ Q' sv) ∧ ∃ u' v', ρ'[0]? = some (.tpo t.t (tapeD t.cells u' v')) }, ?_, s1, ?_, ?_⟩
        · have e2 : (some (V.ref t.t)) :: A''.map Prod.snd = vs.map some := e1
          rw [List.map_cons, List.map_append, List.map_replicate]
          show start N vs = (some (V.ref t.t) :: A''.map Prod.snd) ++ _
          rw [e2]; rfl
        · have := hbd t.t t.cells u v
          rw [List.length_map, hlen] at this
          rw [List.map_cons, List.map_append, List.map_replicate, eas']
          exact this
        · refine ⟨fun _ _ _ _ _ _ q => q.elim, fun z sv L' G' H' s' w' _ q => ?_, fun _ _ _ _ _ _ q => q.elim, fun _ _ _ _ _ _ q => q.elim⟩
          obtain ⟨⟨y, rfl, q⟩, u', v', e0⟩ := q
          obtain ⟨o0, e3, _⟩ := slot_at e0
          have hs := s'.ok _ (List.mem_cons_of_mem _ (List.mem_of_getElem? e3))
          match o0, hs with
          | some (.ref a0), hs =>
            obtain ⟨ea, ow, ws, ew, hd⟩ := hs
            subst ea
            have s2 : SR ⟨K, P, w⟩ T (offT T H) G' ((.d y, some z) :: []) H' :=
              { bH := s'.bH
                gH := s'.gH
                tp := fun t2 ht2 => by
                  rw [hT] at ht2; cases ht2
                  exact ⟨tb, ow.g, ws, u', v', ew, hd⟩
                ok := fun p hp => by
                  have : p = (.d y, some z) := by simpa using hp
                  subst this
                  exact s'.head
                nd := by rw [List.filterMap_cons_none adr_d]; exact List.nodup_nil }
            obtain ⟨h1, w1⟩ := hN.leave s2 w'
            exact hk _ G' H' _ h1 w1 q
/-- the law's promise, in the hand layer's words -/
def spLaw (K : PySem.W.Frag) : Sp := fun vs H Q _ => ∃ (a : Addr) (ns : List Int), vs = [.ref a] ∧ SqL K H a (ns.map V.int) ∧ ns.length ≤ 63 ∧ ∀ H', Q (.bl true) H'
theorem law_of {x : Str} {st : Stmt} {f : Addr} {fd : FuncData} {N : List Str} {k : Nat} {f0 g : FS} {st0 : Stmt} {rest : List Stmt} (F : C8.Def K mg x st f fd) (S : FnScope N ["script"] (C8.fnScope st)) (hbody : C8.fnBody st = st0 :: rest)
    (hb : ∀ ns : List Int, ns.length ≤ 63 → f0 { nx := fun ρ' => ∃ cells u v, ρ'[1]? = some (.own (tapeD cells u v)) ∧ g { nx := fun _ => False, rt := fun sv _ => sv = .d (.bool true) } (ρ'.set 1 .tp), rt := fun _ _ => False }
      (.d (.list (ns.map .int)) :: List.replicate (N.length - 1) .no))
    (der0 : ∀ (cdv : Value) (A : Around) (outer : List Env) (s : Shared) (H : Hp) (E : XK), Room k (A.deeper (envOfC x (C8.fnScope st) s.heap.objs.size f cdv)) →
      QS (cxOf CX0 P w K mg base N x (C8.fnScope st) f cdv A outer s H E).nox st0 f0)
    (der : ∀ (cdv : Value) (A : Around) (outer : List Env) (s : Shared) (H : Hp) (E : XK), Room k (A.deeper (envOfC x (C8.fnScope st) s.heap.objs.size f cdv)) →
      QSs (cxOf CX0 P w K mg base N x (C8.fnScope st) f cdv A outer s H E).nox rest g) : FnOk P w K mg base CX0 (k + 1) f fd ["script"] (spLaw K) := by
  refine C8.fn0 F.fn S (fun vs H Q E h => ?_) fun cdv A outer s H vs Q E hr h => ?_
  · obtain ⟨a, ns, rfl, _⟩ := h; rfl
  · obtain ⟨a, ns, rfl, hs, hl, hk⟩ := h
    have s1 : SR ⟨K, P, w⟩ none H H ((.d (.list (ns.map .int)), some (.ref a)) :: List.replicate (N.length - 1) ((SV.no, none) : Sl)) H :=
      { bH := Same.refl H
        gH := Same.refl H
        tp := fun t ht => by cases ht
        ok := fun p hp => by
          rcases List.mem_cons.mp hp with e | hp
          · subst e; exact .lst hs (dpAll_ofInts ns)
          · rw [List.eq_of_mem_replicate hp]; trivial
        nd := by
          have : ((.d (.list (ns.map .int)), some (.ref a)) :: List.replicate (N.length - 1) ((SV.no, none) : Sl)).filterMap adr = [] := List.filterMap_eq_nil_iff.mpr fun p hp => by
            rcases List.mem_cons.mp hp with e | hp
            · subst e; rfl
            · rw [List.eq_of_mem_replicate hp]; rfl
          rw [this]; exact List.nodup_nil }
    have d0 := der0 cdv A outer s H E hr
    have d1 := der cdv A outer s H E hr
    rw [hbody]
    refine ⟨_, pss_cons d0 d1, ?_⟩
    refine ⟨none, H, H, _, { nx := fun ρ' => ∃ cells u v, ρ'[1]? = some (.own (tapeD cells u v)) ∧ g { nx := fun _ => False, rt := fun sv _ => sv = .d (.bool true) } (ρ'.set 1 .tp), rt := fun _ _ => False }, ?_, s1, ?_, ?_⟩
    · rw [List.map_cons, List.map_replicate]; rfl
    · rw [List.map_cons, List.map_replicate]; exact hb ns hl
    · refine ⟨fun L' G' H' s' w' _ q => ?_, fun _ _ _ _ _ _ _ _ q => q.elim, fun _ _ _ _ _ _ q => q.elim, fun _ _ _ _ _ _ q => q.elim⟩
      obtain ⟨cells, u, v, e, q⟩ := q
      obtain ⟨o, e1, e2⟩ := slot_at e
      obtain ⟨t, s2⟩ := s'.toTape e1
      refine ⟨some t, H, G', L'.set 1 (.tp, o), { nx := fun _ => False, rt := fun sv _ => sv = .d (.bool true) }, ?_, s2, by rw [List.map_set]; exact q, fun _ _ _ _ _ _ q => q.elim, fun z sv L2 G2 H2 s3 _ _ q => ?_, fun _ _ _ _ _ _ q => q.elim, fun _ _ _ _ _ _ q => q.elim⟩
      · rw [List.map_set, set_same e2]
      · subst q
        have d2 := s3.dp
        cases d2
        exact hk _
end
end Z

/-! comprehensions of two clauses; more -/
namespace Z
open PySem PySem.Spec PyProof.Rows L2
def wComp2L (g : FG) (ft : FT) (fi1 : FI) (g1 : FG) (ft1 : FT) (fe : FE) (vs1 : List Nat) (ρ : List SV) : List PyData → List PyData → (List PyData → Prop) → Prop
  | acc, [], Q => Q acc
  | acc, x :: xs, Q => g (.d x) ρ fun ρ1 => ft ρ1 fun b => if b = true then fi1 ρ1 fun items1 => acc.length + items1.length < sizeLine ∧
      wCompL g1 ft1 fe (wipeS (ρ1.map hideS) vs1) items1 (fun ys => wComp2L g ft fi1 g1 ft1 fe vs1 ρ (acc ++ ys) xs Q)
    else wComp2L g ft fi1 g1 ft1 fe vs1 ρ acc xs Q
def wComp2 (fi : FI) (g : FG) (ft : FT) (fi1 : FI) (g1 : FG) (ft1 : FT) (fe : FE) (vs vs1 : List Nat) : FE := fun ρ Q => fi ρ fun items => wComp2L g ft fi1 g1 ft1 fe vs1 (wipeS (ρ.map hideS) vs) [] items fun ys => Q (.own ys)
section
variable {X : Cx}
theorem t_comp2 {fi fi1 : FI} {g g1 : FG} {ft ft1 : FT} {fe : FE} {ws ws1 vs vs1 : List Nat} (hws : ∀ k ∈ ws, k ∈ vs) (hws1 : ∀ k ∈ ws1, k ∈ vs1) {σ : L2.St} {H : Hp} {Q : VK} (h : tQ (kx X) (wComp2 fi g ft fi1 g1 ft1 fe vs vs1) σ H Q) :
    tLc2 (tQI (kx X) fi) (tQG (kx X) ws g) (tQT (kx X) ft) (tQI (kx X) fi1) (tQG (kx X) ws1 g1) (tQT (kx X) ft1) (tQ (kx X) fe) vs vs1 σ H Q := by
  obtain ⟨T, B, G, L, M, Q', rfl, h, hf, hk⟩ := h
  refine ⟨T, B, G, L, M, _, rfl, h, hf, fun items G0 H0 J s0 w0 it q0 => ?_⟩
  intro D hD
  refine ⟨fun i m H => m = items.length - i ∧ i ≤ items.length ∧ ∃ G1 acc, SR (kx X) T B G1 ((.own acc, some (.ref D)) :: (M ++ L)) H ∧ Gw B G0 G1 ∧
    wComp2L g ft fi1 g1 ft1 fe vs1 (wipeS ((L.map Prod.fst).map hideS) vs) acc (items.drop i) (fun ys => Q' (.own ys)), ⟨_, rfl, Nat.zero_le _, G0, [], s0.newOwn hD .nil, .refl _ _, q0⟩, ?_⟩
  rintro i m H1 ⟨rfl, hi, G1, acc, s1, w1, q1⟩
  by_cases hlt : i < items.length
  · right
    rw [List.drop_eq_getElem_cons hlt] at q1
    have sm : Same G0 H1 := w1.same.trans s1.gH
    refine ⟨it.go i H1 sm hlt, fun H' => ∃ G1 acc, SR (kx X) T B G1 ((.own acc, some (.ref D)) :: (M ++ L)) H' ∧ Gw B G0 G1 ∧
      wComp2L g ft fi1 g1 ft1 fe vs1 (wipeS ((L.map Prod.fst).map hideS) vs) acc (items.drop (i + 1)) (fun ys => Q' (.own ys)), fun H' q => ⟨items.length - (i + 1), by omega, rfl, hlt, q⟩, fun x H' y => ?_⟩
    obtain ⟨G2, s2, w2⟩ := it.yld i H1 x H' items[i] sm (by simp [hlt]) y T B G1 _ s1 w1.same
    have s3 : SR (kx X) T B G2 ((.d items[i], some x) :: (((.own acc, some (.ref D)) :: (M ++ L)) ++ wipeL (hideL L) vs)) H' :=
      s2.block (L := L) (fun p hp => by simp [hp]) vs
    have e1 : wipe (L.map Prod.snd) vs = (wipeL (hideL L) vs).map Prod.snd := by rw [wipeL_snd, hideL_snd]
    have e2 : wipeS ((L.map Prod.fst).map hideS) vs = (wipeL (hideL L) vs).map Prod.fst := by rw [wipeL_fst, hideL_fst]
    unfold wComp2L at q1
    rw [e2] at q1
    refine ⟨T, B, G2, wipeL (hideL L) vs, (.own acc, some (.ref D)) :: (M ++ L), _, _, e1, s3, q1, fun L3 G3 H3 s4 w3 l3 k3 q3 => ?_⟩
    refine ⟨wipe_idem (fun k hk => ?_) (by rw [List.length_map, l3, wipeL_length, List.length_map]; simp [hideL]), ?_⟩
    · rw [e1, List.getElem?_map, List.getElem?_map, k3 k fun z => hk (hws k z)]
    refine ⟨T, B, G3, L3, (.own acc, some (.ref D)) :: (M ++ L), _, rfl, s4, q3, fun b G4 H4 s5 w4 q4 => ?_⟩
    have w5 : Gw B G0 G4 := w1.trans (w2.trans (w3.trans w4))
    cases b with
    | true =>
      rw [if_pos rfl] at q4
      refine iteT ?_
      refine ⟨T, B, G4, L3, (.own acc, some (.ref D)) :: (M ++ L), _, rfl, s5, q4, fun items1 G5 H5 J1 s6 w6 it1 q6 => ?_⟩
      obtain ⟨hz, q6⟩ := q6
      refine ⟨fun j k H => k = items1.length - j ∧ j ≤ items1.length ∧ ∃ G6 acc1, SR (kx X) T B G6 ((.own acc1, some (.ref D)) :: ((M ++ L) ++ L3)) H ∧ Gw B G5 G6 ∧ acc1.length ≤ acc.length + j ∧
        wCompL g1 ft1 fe (wipeS ((L3.map Prod.fst).map hideS) vs1) (items1.drop j) (fun ys => wComp2L g ft fi1 g1 ft1 fe vs1 (wipeL (hideL L) vs |>.map Prod.fst) (acc1 ++ ys) (items.drop (i + 1)) (fun ys => Q' (.own ys))),
        ⟨_, rfl, Nat.zero_le _, G5, acc, s6, .refl _ _, Nat.le_refl _, q6⟩, ?_⟩
      rintro j k H6 ⟨rfl, hj, G6, acc1, s7, w7, la, q7⟩
      by_cases hlt1 : j < items1.length
      · right
        rw [List.drop_eq_getElem_cons hlt1] at q7
        have sm1 : Same G5 H6 := w7.same.trans s7.gH
        refine ⟨it1.go j H6 sm1 hlt1, fun H' => ∃ G6 acc1, SR (kx X) T B G6 ((.own acc1, some (.ref D)) :: ((M ++ L) ++ L3)) H' ∧ Gw B G5 G6 ∧ acc1.length ≤ acc.length + (j + 1) ∧
          wCompL g1 ft1 fe (wipeS ((L3.map Prod.fst).map hideS) vs1) (items1.drop (j + 1)) (fun ys => wComp2L g ft fi1 g1 ft1 fe vs1 (wipeL (hideL L) vs |>.map Prod.fst) (acc1 ++ ys) (items.drop (i + 1)) (fun ys => Q' (.own ys))),
          fun H' q => ⟨items1.length - (j + 1), by omega, rfl, hlt1, q⟩, fun x1 H7 y1 => ?_⟩
        obtain ⟨G7, s8, w8⟩ := it1.yld j H6 x1 H7 items1[j] sm1 (by simp [hlt1]) y1 T B G6 _ s7 w7.same
        have s9 : SR (kx X) T B G7 ((.d items1[j], some x1) :: (((.own acc1, some (.ref D)) :: ((M ++ L) ++ L3)) ++ wipeL (hideL L3) vs1)) H7 :=
          s8.block (L := L3) (fun p hp => by simp [hp]) vs1
        have e3 : wipe (L3.map Prod.snd) vs1 = (wipeL (hideL L3) vs1).map Prod.snd := by rw [wipeL_snd, hideL_snd]
        have e4 : wipeS ((L3.map Prod.fst).map hideS) vs1 = (wipeL (hideL L3) vs1).map Prod.fst := by rw [wipeL_fst, hideL_fst]
        unfold wCompL at q7
        rw [e4] at q7
        refine ⟨T, B, G7, wipeL (hideL L3) vs1, (.own acc1, some (.ref D)) :: ((M ++ L) ++ L3), _, _, e3, s9, q7, fun L8 G8 H8 s10 w9 l8 k8 q8 => ?_⟩
        refine ⟨wipe_idem (fun k hk => ?_) (by rw [List.length_map, l8, wipeL_length, List.length_map]; simp [hideL]), ?_⟩
        · rw [e3, List.getElem?_map, List.getElem?_map, k8 k fun z => hk (hws1 k z)]
        refine ⟨T, B, G8, L8, (.own acc1, some (.ref D)) :: ((M ++ L) ++ L3), _, rfl, s10, q8, fun b1 G9 H9 s11 w10 q9 => ?_⟩
        have w11 : Gw B G5 G9 := w7.trans (w8.trans (w9.trans w10))
        cases b1 with
        | true =>
          rw [if_pos rfl] at q9
          refine iteT ?_
          refine ⟨T, B, G9, L8, (.own acc1, some (.ref D)) :: ((M ++ L) ++ L3), _, rfl, s11, q9, fun z G10 H10 sv s12 w12 q10 => ?_⟩
          cases q11 : asD sv with
          | none => simp only [q11] at q10
          | some d =>
            simp only [q11] at q10
            obtain ⟨G11, s13, w13⟩ := SR.frzD s12 q11
            have hd := s13.dp
            have s14 : SR (kx X) T B G11 ((.own acc1, some (.ref D)) :: ((M ++ L) ++ L3)) H10 := s13.tail.sub (List.sublist_append_left _ _)
            obtain ⟨o, vs', hv, hda⟩ := s14.head
            have hlen := dpAll_len hda
            refine ⟨vs', hv, by omega, G11, acc1 ++ [d], s14.write (dpAll_append hda (.cons hd .nil)), w11.trans (w12.trans w13), by simp; omega, ?_⟩
            rw [e4]
            simpa using q10
        | false =>
          rw [if_neg Bool.false_ne_true] at q9
          refine iteF ?_
          refine ⟨G9, acc1, s11.sub (List.sublist_append_left _ _), w11, by omega, ?_⟩
          rw [e4]; exact q9
      · left
        have e : items1.drop j = [] := List.drop_eq_nil_of_le (by omega)
        rw [e] at q7
        have q7' : wComp2L g ft fi1 g1 ft1 fe vs1 (wipeL (hideL L) vs |>.map Prod.fst) (acc1 ++ []) (items.drop (i + 1)) (fun ys => Q' (.own ys)) := q7
        rw [List.append_nil] at q7'
        refine ⟨it1.stop j H6 (w7.same.trans s7.gH) (by omega), G6, acc1, s7.sub (.cons₂ _ (List.sublist_append_left _ _)), w5.trans (w6.trans w7), ?_⟩
        rw [e2]; exact q7'
    | false =>
      rw [if_neg Bool.false_ne_true] at q4
      refine iteF ?_
      refine ⟨G4, acc, s5.sub (List.sublist_append_left _ _), w5, ?_⟩
      rw [e2]; exact q4
  · left
    have e : items.drop i = [] := List.drop_eq_nil_of_le (by omega)
    rw [e] at q1
    exact ⟨it.stop i H1 (w1.same.trans s1.gH) (by omega), hk _ G1 H1 _ s1 (w0.trans w1) q1⟩
theorem q_lc2 {elt tg iter tg1 iter1 : Expr} {ifs ifs1 : List Expr} {scope : Scope} {own : List (Str × Nat)} {vs1 : List Nat} {pos : Pos} {fi fi1 : FI} {g g1 : FG} {ft ft1 : FT} {fe : FE} {ws ws1 : List Nat} (hc : X.calm = true) (hN : X.N.Nodup) (hi : QI X tg iter fi) (ok : BlkOk X.N X.env.scope scope own) (hv : ∀ i ∈ vs1, i ∈ own.map (·.2))
    (hws : ∀ k ∈ ws, k ∈ own.map (·.2)) (hws1 : ∀ k ∈ ws1, k ∈ vs1)
    (hg : ∀ (s : Shared) (H : Hp) (C : Addr) (cl : List (Str × Addr)) (fp : List Addr), QG (X.blk s H scope (compEnvC scope cl C X.env) fp) tg ws g) (ht : ∀ (s : Shared) (H : Hp) (C : Addr) (cl : List (Str × Addr)) (fp : List Addr), QTs (X.blk s H scope (compEnvC scope cl C X.env) fp) ifs ft)
    (hi1 : ∀ (s : Shared) (H : Hp) (C : Addr) (cl : List (Str × Addr)) (fp : List Addr), QI (X.blk s H scope (compEnvC scope cl C X.env) fp) tg1 iter1 fi1)
    (hg1 : ∀ (s : Shared) (H : Hp) (C : Addr) (cl : List (Str × Addr)) (fp : List Addr), QG (X.blk s H scope (compEnvC scope cl C X.env) fp) tg1 ws1 g1) (ht1 : ∀ (s : Shared) (H : Hp) (C : Addr) (cl : List (Str × Addr)) (fp : List Addr), QTs (X.blk s H scope (compEnvC scope cl C X.env) fp) ifs1 ft1)
    (he : ∀ (s : Shared) (H : Hp) (C : Addr) (cl : List (Str × Addr)) (fp : List Addr), QE (X.blk s H scope (compEnvC scope cl C X.env) fp) elt fe) (hs : ∀ x, foldedSetIterable iter X.env x = pure x := by intro _; rfl) (hs1 : ∀ env x, foldedSetIterable iter1 env x = pure x := by intro _ _; rfl) :
    QE X (.ListComp elt [⟨tg, iter, ifs, 0⟩, ⟨tg1, iter1, ifs1, 0⟩] scope pos) (wComp2 fi g ft fi1 g1 ft1 fe (own.map (·.2)) vs1) :=
  PE.imp (pe_lc2 (g := tQG (kx X) ws g) (tt := tQT (kx X) ft) (wi1 := tQI (kx X) fi1) (g1 := tQG (kx X) ws1 g1) (tt1 := tQT (kx X) ft1) (te := tQ (kx X) fe) hc hN hi ok hv hg ht hi1 hg1 ht1 he hs hs1) fun σ H Q h => t_comp2 hws hws1 h
/-- a slot's own list comes to rest, behind a statement -/
def wThenFrz (i : Nat) (f : FS) : FS := fun E ρ => f { E with nx := fun ρ' => match ρ'[i]? with
  | some (.own xs) => E.nx (ρ'.set i (.d (.list xs)))
  | some (.d _) => E.nx ρ'
  | _ => False } ρ
theorem q_thenFrz {st : Stmt} {f : FS} (i : Nat) (h : QS X st f) : QS X st (wThenFrz i f) := by
  refine PS.imp h fun D σ H h => ?_
  obtain ⟨T, B, G, L, E, rfl, h, hf, hk⟩ := h
  refine ⟨T, B, G, L, _, rfl, h, hf, fun L1 G1 H1 s1 w1 l1 q1 => ?_, fun v sv L' G' H' s w' l' q => hk.rt v sv L' G' H' s w' l' q, fun L' G' H' s w' l' q => hk.bk L' G' H' s w' l' q, fun L' G' H' s w' l' q => hk.ct L' G' H' s w' l' q⟩
  cases e : (L1.map Prod.fst)[i]? with
  | none => simp only [e] at q1
  | some sv =>
    simp only [e] at q1
    obtain ⟨o, e1, e2⟩ := slot_at e
    have hi : i < L1.length := (List.getElem?_eq_some_iff.mp e1).1
    cases sv with
    | own xs =>
      have hp := s1.ok (.own xs, o) (List.mem_of_getElem? e1)
      cases o with
      | none => exact hp.elim
      | some v =>
        obtain ⟨G2, h1, w2⟩ := (s1.front (M := []) e1).frz
        have h2 : SR (kx X) T B G2 ([] ++ L1.set i (.d (.list xs), some v)) H1 := h1.back hi
        have := hk.nx (L1.set i (.d (.list xs), some v)) G2 H1 h2 (w1.trans w2) (by rw [List.length_set]; exact l1) (by rw [List.map_set]; exact q1)
        rw [List.map_set, set_same e2] at this
        exact this
    | d x => exact hk.nx L1 G1 H1 s1 w1 l1 q1
    | _ => exact q1.elim
/-- xs[::-1], a list -/
def wRevS (fe : FE) : FE := fun ρ Q => fe ρ fun sv => match sv with
  | .d (.list xs) => Q (.own xs.reverse)
  | .own xs => Q (.own xs.reverse)
  | _ => False
theorem q_revS {e : Expr} {fe : FE} {k : Nat} {p1 p2 p3 pos : Pos} (he : QR X e fe) : QE X (.Subscript e (.Slice none none (some (.UnaryOp .USub (.Constant (.int 1) k p1) p2)) p3) pos) (wRevS fe) := by
  refine PE.imp (pe_revL he) fun σ H Q h => ?_
  obtain ⟨T, B, G, L, M, Q', rfl, h, hf, hk⟩ := h
  refine ⟨T, B, G, L, M, _, rfl, h, hf, fun x G1 H1 sx M' h1 m1 w1 q1 => ?_⟩
  have sb : ∀ p : Sl, (p :: (M ++ L)).Sublist (p :: (M' ++ (M ++ L))) := fun p => .cons₂ _ (List.sublist_append_right M' _)
  match sx, q1, m1 with
  | .d (.list xs), q1, m1 =>
    obtain ⟨p, vs, rfl, hs, hd⟩ := h1.atL (.inr m1)
    exact ⟨p, vs, rfl, hs, fun q hq => hk _ _ _ _ ((h1.newOwn hq (dpAll_rev hd)).sub (sb _)) w1 q1⟩
  | .own xs, q1, m1 =>
    obtain ⟨p, vs, rfl, hs, hd⟩ := h1.atL (.inl m1)
    exact ⟨p, vs, rfl, hs, fun q hq => hk _ _ _ _ ((h1.newOwn hq (dpAll_rev hd)).sub (sb _)) w1 q1⟩
end
end Z

/-! the plain forms: moves, keys, spans -/
namespace Z
open PySem PySem.Spec PyProof.Rows L2
inductive Mv where
  | whole | first | second | center | more | less | on | off | mark | recall | keep
  deriving DecidableEq
inductive Ky where
  | k_down | k_east | k_full | k_center | k_left | k_mark | k_narrow | k_ne | k_north | k_nw | k_recall | k_right | k_se | k_short | k_south | k_sw | k_tall | k_up | k_west | k_wide
  deriving DecidableEq
def mvP : Mv → Str
  | .whole => "whole"
  | .first => "first"
  | .second => "second"
  | .center => "center"
  | .more => "more"
  | .less => "less"
  | .on => "on"
  | .off => "off"
  | .mark => "mark"
  | .recall => "recall"
  | .keep => "keep"
def mvL : Mv → Str
  | .whole => "whole"
  | .first => "first"
  | .second => "second"
  | .center => "center"
  | .more => "more"
  | .less => "less"
  | .on => "on"
  | .off => "off"
  | .mark => "mark"
  | .recall => "recall"
  | .keep => ""
def kyS : Ky → Str
  | .k_down => "down"
  | .k_east => "east"
  | .k_full => "full"
  | .k_center => "center"
  | .k_left => "left"
  | .k_mark => "mark"
  | .k_narrow => "narrow"
  | .k_ne => "ne"
  | .k_north => "north"
  | .k_nw => "nw"
  | .k_recall => "recall"
  | .k_right => "right"
  | .k_se => "se"
  | .k_short => "short"
  | .k_south => "south"
  | .k_sw => "sw"
  | .k_tall => "tall"
  | .k_up => "up"
  | .k_west => "west"
  | .k_wide => "wide"
def mvA : Ky → Bool → Mv
  | .k_down, false => .whole
  | .k_down, true => .second
  | .k_east, false => .on
  | .k_east, true => .keep
  | .k_full, false => .whole
  | .k_full, true => .whole
  | .k_center, false => .center
  | .k_center, true => .center
  | .k_left, false => .first
  | .k_left, true => .whole
  | .k_mark, false => .mark
  | .k_mark, true => .mark
  | .k_narrow, false => .less
  | .k_narrow, true => .keep
  | .k_ne, false => .second
  | .k_ne, true => .first
  | .k_north, false => .keep
  | .k_north, true => .off
  | .k_nw, false => .first
  | .k_nw, true => .first
  | .k_recall, false => .recall
  | .k_recall, true => .recall
  | .k_right, false => .second
  | .k_right, true => .whole
  | .k_se, false => .second
  | .k_se, true => .second
  | .k_short, false => .keep
  | .k_short, true => .less
  | .k_south, false => .keep
  | .k_south, true => .on
  | .k_sw, false => .first
  | .k_sw, true => .second
  | .k_tall, false => .keep
  | .k_tall, true => .more
  | .k_up, false => .whole
  | .k_up, true => .first
  | .k_west, false => .off
  | .k_west, true => .keep
  | .k_wide, false => .more
  | .k_wide, true => .keep
def kMOVES : List (PyData × PyData) := [(.str "down", .tuple [.str "whole", .str "second"]), (.str "east", .tuple [.str "on", .str "keep"]), (.str "full", .tuple [.str "whole", .str "whole"]), (.str "center", .tuple [.str "center", .str "center"]), (.str "left", .tuple [.str "first", .str "whole"]), (.str "mark", .tuple [.str "mark", .str "mark"]), (.str "narrow", .tuple [.str "less", .str "keep"]), (.str "ne", .tuple [.str "second", .str "first"]), (.str "north", .tuple [.str "keep", .str "off"]), (.str "nw", .tuple [.str "first", .str "first"]), (.str "recall", .tuple [.str "recall", .str "recall"]), (.str "right", .tuple [.str "second", .str "whole"]), (.str "se", .tuple [.str "second", .str "second"]), (.str "short", .tuple [.str "keep", .str "less"]), (.str "south", .tuple [.str "keep", .str "on"]), (.str "sw", .tuple [.str "first", .str "second"]), (.str "tall", .tuple [.str "keep", .str "more"]), (.str "up", .tuple [.str "whole", .str "first"]), (.str "west", .tuple [.str "off", .str "keep"]), (.str "wide", .tuple [.str "more", .str "keep"])]
theorem get_MOVES (k : Ky) : getD kMOVES (.str (kyS k)) = some (.tuple [.str (mvP (mvA k false)), .str (mvP (mvA k true))]) := by cases k <;> rfl
theorem keep_MOVES : (kMOVES.all fun kv => match kv.1, kv.2 with | .str _, .tuple [.str _, .str _] => true | _, _ => false) = true := rfl
theorem eP_whole (m : Mv) : PyData.eqv (.str (mvP m)) (.str "whole") = decide (m = .whole) := by rw [eqv_str]; cases m <;> decide +kernel
theorem eP'_whole (m : Mv) : PyData.eqv (.str "whole") (.str (mvP m)) = decide (m = .whole) := by rw [eqv_str]; cases m <;> decide +kernel
theorem eL_whole (m : Mv) : PyData.eqv (.str (mvL m)) (.str "whole") = decide (m = .whole) := by rw [eqv_str]; cases m <;> decide +kernel
theorem eP_first (m : Mv) : PyData.eqv (.str (mvP m)) (.str "first") = decide (m = .first) := by rw [eqv_str]; cases m <;> decide +kernel
theorem eP'_first (m : Mv) : PyData.eqv (.str "first") (.str (mvP m)) = decide (m = .first) := by rw [eqv_str]; cases m <;> decide +kernel
theorem eL_first (m : Mv) : PyData.eqv (.str (mvL m)) (.str "first") = decide (m = .first) := by rw [eqv_str]; cases m <;> decide +kernel
theorem eP_second (m : Mv) : PyData.eqv (.str (mvP m)) (.str "second") = decide (m = .second) := by rw [eqv_str]; cases m <;> decide +kernel
theorem eP'_second (m : Mv) : PyData.eqv (.str "second") (.str (mvP m)) = decide (m = .second) := by rw [eqv_str]; cases m <;> decide +kernel
theorem eL_second (m : Mv) : PyData.eqv (.str (mvL m)) (.str "second") = decide (m = .second) := by rw [eqv_str]; cases m <;> decide +kernel
theorem eP_center (m : Mv) : PyData.eqv (.str (mvP m)) (.str "center") = decide (m = .center) := by rw [eqv_str]; cases m <;> decide +kernel
theorem eP'_center (m : Mv) : PyData.eqv (.str "center") (.str (mvP m)) = decide (m = .center) := by rw [eqv_str]; cases m <;> decide +kernel
theorem eL_center (m : Mv) : PyData.eqv (.str (mvL m)) (.str "center") = decide (m = .center) := by rw [eqv_str]; cases m <;> decide +kernel
theorem eP_more (m : Mv) : PyData.eqv (.str (mvP m)) (.str "more") = decide (m = .more) := by rw [eqv_str]; cases m <;> decide +kernel
theorem eP'_more (m : Mv) : PyData.eqv (.str "more") (.str (mvP m)) = decide (m = .more) := by rw [eqv_str]; cases m <;> decide +kernel
theorem eL_more (m : Mv) : PyData.eqv (.str (mvL m)) (.str "more") = decide (m = .more) := by rw [eqv_str]; cases m <;> decide +kernel
theorem eP_less (m : Mv) : PyData.eqv (.str (mvP m)) (.str "less") = decide (m = .less) := by rw [eqv_str]; cases m <;> decide +kernel
theorem eP'_less (m : Mv) : PyData.eqv (.str "less") (.str (mvP m)) = decide (m = .less) := by rw [eqv_str]; cases m <;> decide +kernel
theorem eL_less (m : Mv) : PyData.eqv (.str (mvL m)) (.str "less") = decide (m = .less) := by rw [eqv_str]; cases m <;> decide +kernel
theorem eP_on (m : Mv) : PyData.eqv (.str (mvP m)) (.str "on") = decide (m = .on) := by rw [eqv_str]; cases m <;> decide +kernel
theorem eP'_on (m : Mv) : PyData.eqv (.str "on") (.str (mvP m)) = decide (m = .on) := by rw [eqv_str]; cases m <;> decide +kernel
theorem eL_on (m : Mv) : PyData.eqv (.str (mvL m)) (.str "on") = decide (m = .on) := by rw [eqv_str]; cases m <;> decide +kernel
theorem eP_off (m : Mv) : PyData.eqv (.str (mvP m)) (.str "off") = decide (m = .off) := by rw [eqv_str]; cases m <;> decide +kernel
theorem eP'_off (m : Mv) : PyData.eqv (.str "off") (.str (mvP m)) = decide (m = .off) := by rw [eqv_str]; cases m <;> decide +kernel
theorem eL_off (m : Mv) : PyData.eqv (.str (mvL m)) (.str "off") = decide (m = .off) := by rw [eqv_str]; cases m <;> decide +kernel
theorem eP_mark (m : Mv) : PyData.eqv (.str (mvP m)) (.str "mark") = decide (m = .mark) := by rw [eqv_str]; cases m <;> decide +kernel
theorem eP'_mark (m : Mv) : PyData.eqv (.str "mark") (.str (mvP m)) = decide (m = .mark) := by rw [eqv_str]; cases m <;> decide +kernel
theorem eL_mark (m : Mv) : PyData.eqv (.str (mvL m)) (.str "mark") = decide (m = .mark) := by rw [eqv_str]; cases m <;> decide +kernel
theorem eP_recall (m : Mv) : PyData.eqv (.str (mvP m)) (.str "recall") = decide (m = .recall) := by rw [eqv_str]; cases m <;> decide +kernel
theorem eP'_recall (m : Mv) : PyData.eqv (.str "recall") (.str (mvP m)) = decide (m = .recall) := by rw [eqv_str]; cases m <;> decide +kernel
theorem eL_recall (m : Mv) : PyData.eqv (.str (mvL m)) (.str "recall") = decide (m = .recall) := by rw [eqv_str]; cases m <;> decide +kernel
theorem eP_keep (m : Mv) : PyData.eqv (.str (mvP m)) (.str "keep") = decide (m = .keep) := by rw [eqv_str]; cases m <;> decide +kernel
theorem eP'_keep (m : Mv) : PyData.eqv (.str "keep") (.str (mvP m)) = decide (m = .keep) := by rw [eqv_str]; cases m <;> decide +kernel
theorem eL_keep (m : Mv) : PyData.eqv (.str (mvL m)) (.str "") = decide (m = .keep) := by rw [eqv_str]; cases m <;> decide +kernel

structure Spn where
  a : Int
  s : Int
  b : Int
  deriving DecidableEq
def spD (x : Spn) : PyData := .tuple [.int x.a, .int x.s, .int x.b]
structure Spn.Ok (x : Spn) : Prop where
  a : 0 ≤ x.a
  s : 1 ≤ x.s
  b : 0 ≤ x.b
def Spn.w (x : Spn) : Int := x.a + x.s + x.b
def halvedM (x : Spn) (second : Bool) : Spn := if second then ⟨x.w / 2, x.w - x.w / 2, 0⟩ else ⟨0, x.w - x.w / 2, x.w / 2⟩
def changedM (x : Spn) : Mv → Spn
  | .more => if x.b > 0 then ⟨x.a, x.s + 1, x.b - 1⟩ else if x.a > 0 then ⟨x.a - 1, x.s + 1, 0⟩ else x
  | .less => if x.s > 1 then ⟨x.a, x.s - 1, x.b + 1⟩ else x
  | .on => if x.b > 0 then ⟨x.a + 1, x.s, x.b - 1⟩ else x
  | _ => if x.a > 0 then ⟨x.a - 1, x.s, x.b + 1⟩ else x
def movedM (x : Spn) (m : Mv) : Spn := match m with
  | .whole => ⟨0, x.w, 0⟩
  | .first => halvedM x false
  | .second => halvedM x true
  | .center => ⟨(x.a + x.b) / 2, x.s, x.a + x.b - (x.a + x.b) / 2⟩
  | m => changedM x m
/-- one turn: (held, here) -/
def stepM (st : Spn × Spn) (m : Mv) : Spn × Spn := match m with
  | .mark => (st.2, st.2)
  | .recall => (st.1, st.1)
  | .keep => st
  | m => (st.1, movedM st.2 m)
def trailM (st : Spn × Spn) : List Mv → List Spn
  | [] => []
  | m :: ms => (stepM st m).2 :: trailM (stepM st m) ms
def runM (st : Spn × Spn) : List Mv → Spn × Spn
  | [] => st
  | m :: ms => runM (stepM st m) ms
def endM (x : Spn) (ms : List Mv) : Spn := (runM (x, x) ms).2
theorem ediv2 (w : Int) (h : 1 ≤ w) : 0 ≤ w / 2 ∧ w / 2 < w := by omega
theorem halved_ok {x : Spn} (h : x.Ok) (c : Bool) : (halvedM x c).Ok ∧ (halvedM x c).w = x.w := by
  obtain ⟨h1, h2, h3⟩ := h
  have : 1 ≤ x.w := by unfold Spn.w; omega
  have := ediv2 x.w this
  unfold halvedM
  cases c <;> (refine ⟨⟨?_, ?_, ?_⟩, ?_⟩ <;> simp [Spn.w] at * <;> omega)
theorem moved_ok {x : Spn} (h : x.Ok) (m : Mv) : (movedM x m).Ok ∧ (movedM x m).w = x.w := by
  have hh := halved_ok h
  obtain ⟨h1, h2, h3⟩ := h
  cases m
  case first => exact hh false
  case second => exact hh true
  all_goals (simp only [movedM, changedM]; (try split)) <;> (try split) <;> (refine ⟨⟨?_, ?_, ?_⟩, ?_⟩ <;> simp [Spn.w] at * <;> omega)
theorem step_ok {st : Spn × Spn} (h : st.1.Ok ∧ st.2.Ok ∧ st.1.w = st.2.w) (m : Mv) : (stepM st m).1.Ok ∧ (stepM st m).2.Ok ∧ (stepM st m).1.w = (stepM st m).2.w ∧ (stepM st m).2.w = st.2.w := by
  have := moved_ok h.2.1
  obtain ⟨h1, h2, h3⟩ := h
  cases m <;> simp only [stepM] <;> simp_all
theorem run_ok : ∀ (ms : List Mv) {st : Spn × Spn}, (st.1.Ok ∧ st.2.Ok ∧ st.1.w = st.2.w) → (runM st ms).2.Ok ∧ (runM st ms).2.w = st.2.w
  | [], st, h => ⟨h.2.1, rfl⟩
  | m :: ms, st, h => by
    obtain ⟨h1, h2, h3, h4⟩ := step_ok h m
    obtain ⟨i1, i2⟩ := run_ok ms ⟨h1, h2, h3⟩
    exact ⟨i1, i2.trans h4⟩
theorem end_ok {x : Spn} (h : x.Ok) (ms : List Mv) : (endM x ms).Ok ∧ (endM x ms).w = x.w := run_ok ms ⟨h, h, rfl⟩
theorem trail_len : ∀ (ms : List Mv) (st : Spn × Spn), (trailM st ms).length = ms.length
  | [], _ => rfl
  | m :: ms, st => by simp [trailM, trail_len ms]
theorem trail_last : ∀ (ms : List Mv) (st : Spn × Spn) (y : Spn), y = st.2 → (y :: trailM st ms).getLast? = some (runM st ms).2
  | [], st, y, h => by simp [trailM, runM, h]
  | m :: ms, st, y, h => by
    have := trail_last ms (stepM st m) (stepM st m).2 rfl
    simp only [trailM, runM]
    rw [List.getLast?_cons_cons]
    exact this
theorem eqv_int (i j : Int) : PyData.eqv (.int i) (.int j) = decide (i = j) := by simp only [PyData.eqv]; rw [Bool.eq_iff_iff]; simp
theorem eqv_spD (x y : Spn) : PyData.eqv (spD x) (spD y) = decide (x = y) := by
  obtain ⟨a, s, b⟩ := x
  obtain ⟨a', s', b'⟩ := y
  simp only [spD, PyData.eqv, PyData.eqvAll, Bool.and_true]
  rw [Bool.eq_iff_iff]
  simp [Spn.mk.injEq]
theorem ok_spD (x y : Spn) : okEq (spD x) (spD y) = true := by
  simp [spD, okEq, SeqAt.shaped, PyData.canLay0, PyData.canLayAll0, PyData.depth, PyData.depthAll]
theorem ok_int (i j : Int) : okEq (.int i) (.int j) = true := by
  simp [okEq, SeqAt.shaped, PyData.canLay0, PyData.depth]
theorem ok_str (i j : Str) : okEq (.str i) (.str j) = true := rfl
theorem asD_d (x : PyData) : asD (.d x) = some x := rfl
theorem asD_own (xs : List PyData) : asD (.own xs) = some (.list xs) := rfl
def tI (t : Bool) : Int := if t then 1 else 0
def plD (p : Spn × Spn) : PyData := .tuple [spD p.1, spD p.2]
theorem eqv_plD (x y : Spn × Spn) : PyData.eqv (plD x) (plD y) = decide (x = y) := by
  have h1 := eqv_spD x.1 y.1
  have h2 := eqv_spD x.2 y.2
  obtain ⟨x1, x2⟩ := x
  obtain ⟨y1, y2⟩ := y
  simp only [plD, PyData.eqv, PyData.eqvAll, Bool.and_true]
  simp only at h1 h2
  rw [h1, h2, Bool.eq_iff_iff]
  simp
theorem ok_plD (x y : Spn × Spn) : okEq (plD x) (plD y) = true := by
  simp [plD, spD, okEq, SeqAt.shaped, PyData.canLay0, PyData.canLayAll0, PyData.depth, PyData.depthAll]
end Z

/-! loops over data, by what one turn does -/
namespace Z
open PySem PySem.Spec PyProof.Rows L2
theorem compL_pure {α : Type} {g : FG} {ft : FT} {fe : FE} {ρ : List SV} {enc out : α → PyData} {p : α → Bool} : ∀ {xs : List α} {Q : List PyData → Prop},
    (∀ x ∈ xs, ∀ R : Option PyData → Prop, R (if p x then some (out x) else none) → g (.d (enc x)) ρ fun ρ1 => ft ρ1 fun b => if b = true then fe ρ1 fun sv => match asD sv with
      | some y => R (some y)
      | none => False
    else R none) → Q ((xs.filter p).map out) → wCompL g ft fe ρ (xs.map enc) Q
  | [], Q, _, q => q
  | x :: xs, Q, h, q => by
    show g (.d (enc x)) ρ _
    have ih : ∀ {Q : List PyData → Prop}, Q ((xs.filter p).map out) → wCompL g ft fe ρ (xs.map enc) Q := fun q => compL_pure (fun y hy => h y (List.mem_cons_of_mem _ hy)) q
    refine h x List.mem_cons_self (fun o => match o with
      | some y => wCompL g ft fe ρ (xs.map enc) fun ys => Q (y :: ys)
      | none => wCompL g ft fe ρ (xs.map enc) Q) ?_
    cases e : p x with
    | true =>
      simp only [if_true]
      refine ih ?_
      rw [List.filter_cons_of_pos e, List.map_cons] at q
      exact q
    | false =>
      simp only [Bool.false_eq_true, if_false]
      refine ih ?_
      rw [List.filter_cons_of_neg (by rw [e]; exact Bool.false_ne_true)] at q
      exact q
theorem compL_map {α : Type} {g : FG} {fe : FE} {ρ : List SV} {enc out : α → PyData} {xs : List α} {Q : List PyData → Prop}
    (h : ∀ x ∈ xs, ∀ R : PyData → Prop, R (out x) → g (.d (enc x)) ρ fun ρ1 => fe ρ1 fun sv => match asD sv with
      | some y => R y
      | none => False) (q : Q (xs.map out)) : wCompL g wYes fe ρ (xs.map enc) Q := by
  refine compL_pure (p := fun _ => true) (out := out) (fun x hx R r => ?_) (by rw [List.filter_eq_self.mpr (fun _ _ => rfl)]; exact q)
  simp only [if_true] at r
  simp only [wYes, if_true]
  exact h x hx (fun y => R (some y)) r
theorem forL_inv {α : Type} {g : FG} {fb : FS} {E : FEnds} {enc : α → PyData} {I : List α → List SV → Prop} : ∀ {xs : List α} {ρ : List SV}, I xs ρ →
    (∀ x r ρ, x ∈ xs → I (x :: r) ρ → ∀ N : List SV → Prop, (∀ ρ', I r ρ' → N ρ') → g (.d (enc x)) ρ fun ρ1 => fb { nx := N, rt := E.rt, bk := E.nx, ct := N } ρ1) → (∀ ρ, I [] ρ → E.nx ρ) → wForL g fb (xs.map enc) E ρ
  | [], ρ, h0, _, he => he ρ h0
  | x :: xs, ρ, h0, hs, he => by
    show g (.d (enc x)) ρ _
    exact hs x xs ρ List.mem_cons_self h0 _ fun ρ' h' => forL_inv h' (fun y r ρ hy => hs y r ρ (List.mem_cons_of_mem _ hy)) he
theorem comp2L_pure {α : Type} {g : FG} {ft : FT} {fi1 : FI} {g1 : FG} {ft1 : FT} {fe : FE} {vs1 : List Nat} {ρ : List SV} {enc : α → PyData} {outs : α → List PyData} {B : Nat} : ∀ {xs : List α} {acc : List PyData} {Q : List PyData → Prop},
    (∀ x ∈ xs, ∀ (acc : List PyData) (Q' : List PyData → Prop), acc.length + (outs x).length ≤ B → Q' (acc ++ outs x) → g (.d (enc x)) ρ fun ρ1 => ft ρ1 fun b => if b = true then fi1 ρ1 fun items1 => acc.length + items1.length < sizeLine ∧
      wCompL g1 ft1 fe (wipeS (ρ1.map hideS) vs1) items1 (fun ys => Q' (acc ++ ys)) else Q' acc) → acc.length + (xs.flatMap outs).length ≤ B → Q (acc ++ xs.flatMap outs) → wComp2L g ft fi1 g1 ft1 fe vs1 ρ acc (xs.map enc) Q
  | [], acc, Q, _, _, q => by
    rw [List.flatMap_nil, List.append_nil] at q
    exact q
  | x :: xs, acc, Q, h, hB, q => by
    rw [List.flatMap_cons, List.length_append] at hB
    show g (.d (enc x)) ρ _
    refine h x List.mem_cons_self acc (fun ys => wComp2L g ft fi1 g1 ft1 fe vs1 ρ ys (xs.map enc) Q) (by omega) ?_
    refine comp2L_pure (fun y hy => h y (List.mem_cons_of_mem _ hy)) (by rw [List.length_append]; omega) ?_
    rw [List.append_assoc]; simpa using q
theorem atI_last {α : Type} {l : List α} {y : α} (h : l.getLast? = some y) : atI l (-1) = some y := by
  cases l with
  | nil => cases h
  | cons a r =>
    unfold atI ixN
    rw [if_neg (by decide), if_pos (by simp; omega)]
    simp only [Option.bind]
    rw [List.getLast?_eq_getElem?] at h
    have : ((-1 : Int) + ((a :: r).length : Nat)).toNat = (a :: r).length - 1 := by omega
    rw [this]; exact h
theorem atI_nat {α : Type} {l : List α} {i : Nat} {y : α} (h : l[i]? = some y) : atI l (i : Int) = some y := by
  obtain ⟨h1, h2⟩ := List.getElem?_eq_some_iff.mp h
  unfold atI ixN
  rw [if_pos (by omega), if_pos (by omega)]
  exact h
theorem atI_of {α : Type} {l : List α} {i : Int} (h0 : 0 ≤ i) (h1 : i < l.length) : ∃ y, atI l i = some y ∧ l[i.toNat]? = some y := by
  obtain ⟨n, rfl⟩ := Int.eq_ofNat_of_zero_le h0
  have : n < l.length := by omega
  exact ⟨l[n], atI_nat (by simp [this]), by simp [this]⟩
theorem ix0 {α : Type} (a : α) (r : List α) : atI (a :: r) 0 = some a := atI_nat (i := 0) rfl
theorem ix1 {α : Type} (a b : α) (r : List α) : atI (a :: b :: r) 1 = some b := atI_nat (i := 1) rfl
theorem ix2 {α : Type} (a b c : α) (r : List α) : atI (a :: b :: c :: r) 2 = some c := atI_nat (i := 2) rfl
theorem ixn0 (n : Nat) : ixN (n + 1) 0 = some 0 := by unfold ixN; rw [if_pos (by decide), if_pos (by omega)]; rfl
theorem ixn1 (n : Nat) : ixN (n + 1 + 1) 1 = some 1 := by unfold ixN; rw [if_pos (by decide), if_pos (by omega)]; rfl
theorem ixn2 (n : Nat) : ixN (n + 1 + 1 + 1) 2 = some 2 := by unfold ixN; rw [if_pos (by decide), if_pos (by omega)]; rfl
def mvD (m : Mv) : PyData := .str (mvP m)
def mvD' (m : Mv) : PyData := .str (mvL m)
def mvsD (ms : List Mv) : PyData := .list (ms.map mvD)
def mvsL (ms : List Mv) : PyData := .list (ms.map mvD')
def kyD (k : Ky) : PyData := .str (kyS k)
def rowD (r : List Ky) : PyData := .tuple (r.map kyD)
def rawM (r : List Ky) (t : Bool) : List Mv := r.map (mvA · t)
def nokeep (m : Mv) : Bool := !decide (m = .keep)
def nomark (m : Mv) : Bool := !decide (m = .mark)
def movesM (r : List Ky) (t : Bool) : List Mv := if ((rawM r t).filter nokeep).any (fun m => decide (m = .recall)) then (rawM r t).filter nokeep else ((rawM r t).filter nokeep).filter nomark
theorem run_nokeep : ∀ (ms : List Mv) (st : Spn × Spn), runM st (ms.filter nokeep) = runM st ms
  | [], _ => rfl
  | m :: ms, st => by
    cases m <;> simp [nokeep, runM, stepM] <;> exact run_nokeep ms _
theorem run_nomark : ∀ (ms : List Mv) (a b h : Spn), (ms.any fun m => decide (m = .recall)) = false → (runM (a, h) (ms.filter nomark)).2 = (runM (b, h) ms).2
  | [], _, _, _, _ => rfl
  | m :: ms, a, b, h, hn => by
    rw [List.any_cons, Bool.or_eq_false_iff] at hn
    have ih := fun a b h => run_nomark ms a b h hn.2
    cases m <;> first
      | (exfalso; revert hn; simp; done)
      | (simp [nomark, runM, stepM]; exact ih _ _ _)
theorem end_moves (x : Spn) (r : List Ky) (t : Bool) : endM x (movesM r t) = endM x (rawM r t) := by
  unfold movesM endM
  split
  · rw [run_nokeep]
  · rename_i h
    rw [run_nomark _ x x x (Bool.eq_false_iff.mpr h), run_nokeep]
theorem moves_len (r : List Ky) (t : Bool) : (movesM r t).length ≤ r.length := by
  have h1 := List.length_filter_le nokeep (rawM r t)
  have h2 := List.length_filter_le nomark ((rawM r t).filter nokeep)
  have h3 : (rawM r t).length = r.length := by simp [rawM]
  unfold movesM
  split <;> omega
def spansM (n : Nat) : List Spn := (List.range n).flatMap fun (a : Nat) => (List.range (n - a)).map fun (i : Nat) => (⟨a, 1 + i, n - a - (1 + i)⟩ : Spn)
theorem spans_len (n : Nat) : (spansM n).length ≤ n * n := by
  unfold spansM
  rw [List.length_flatMap]
  have : ∀ (l : List Nat), (l.map fun a => ((List.range (n - a)).map fun (i : Nat) => (⟨a, 1 + i, n - a - (1 + i)⟩ : Spn)).length).sum ≤ l.length * n := by
    intro l
    induction l with
    | nil => simp
    | cons a l ih =>
      simp only [List.map_cons, List.sum_cons, List.length_cons, List.length_map, List.length_range] at *
      rw [Nat.succ_mul]; omega
  simpa using this (List.range n)
theorem spans_mem {n : Nat} {x : Spn} (h : x ∈ spansM n) : x.Ok ∧ x.w = n := by
  unfold spansM at h
  simp only [List.mem_flatMap, List.mem_map, List.mem_range] at h
  obtain ⟨a, ha, i, hi, rfl⟩ := h
  refine ⟨⟨?_, ?_, ?_⟩, ?_⟩ <;> simp [Spn.w] <;> omega
theorem mem_spans {x : Spn} (h : x.Ok) : x ∈ spansM x.w.toNat := by
  obtain ⟨h1, h2, h3⟩ := h
  unfold spansM
  simp only [List.mem_flatMap, List.mem_map, List.mem_range]
  refine ⟨x.a.toNat, by simp [Spn.w]; omega, (x.s - 1).toNat, by simp [Spn.w]; omega, ?_⟩
  obtain ⟨a, s, b⟩ := x
  simp [Spn.w] at *
  refine ⟨?_, ?_, ?_⟩ <;> omega
end Z


namespace Z
open PySem PySem.Spec PyProof.Rows L2
def bhalved : FS :=
  (wSeq (wSetD 2 (w1 gSum (wV 0))) (wSeq (wSetD 3 (wOp gFdiv (wV 2) (wC (.int 2)))) (wRet (wIf (wB (wV 1)) (wTup (wCons (wV 3) (wCons (wOp gSub (wV 2) (wV 3)) (wCons (wC (.int 0)) wNil)))) (wTup (wCons (wC (.int 0)) (wCons (wOp gSub (wV 2) (wV 3)) (wCons (wV 3) wNil))))))))

def φhalved : Phi := fun as Q => ∃ x c, as = [.d (spD x), .d (.bool c)] ∧ Q (.d (spD (halvedM x c)))
theorem lhalved : ∀ as Q, φhalved as Q → as.length = 2 := by rintro _ Q ⟨x, c, rfl, h⟩; rfl
theorem whalved : ∀ as Q, φhalved as Q → bhalved { nx := fun _ => Q (.d .none), rt := fun sv _ => Q sv } (as ++ List.replicate (4 - as.length) .no) := by
  rintro _ Q ⟨x, c, rfl, h⟩
  simp only [bhalved, wSeq, wNext, wDrop, wRet, wRetO, wIfS, wSet, wSetD, wFrz, wThenFrz, wAsg, wPar, wPar3, wG, wGnil, wGcons, wGtup, wGS, wApp, wExt, wAugMul, wC, wV, wVR, wOp, wNil, wCons, wStar, wTup, wLst, wB, wAnd, wOr, wNot, wAndV, wOrV, wNotV, wIf, wFor, wIL, wIT, wIR1, wIR2, wIZ, wIE, wIRv, wComp, wComp2, wYes, wCall, argF, wNeg, wChain, gAdd, gSub, gInt, gInt0, gFdiv, gMod, gPow, gMul, gCmp, gLt, gLe, gGt, gGe, gEq, gNe, gIs, gIsNot, isNoneD, gIn, gIx, wNoP, wPart, wCut, gIxD, wKD, gInD, wDNew, wDisp, wPairs, w1, w2, gLen, gSum, gExt, gMax2, gMin2, gAbs, gIntC, gListC, gTupC, gBools, wIsi, wIsi2, wRevS, itemsS, intsOf, asD_d, asD_own, asDs, hideS, wipeS, spD, cDiv, cMod, List.cons_append, List.nil_append, List.length_cons, List.length_nil, List.getElem?_cons_zero, List.getElem?_cons_succ, List.set_cons_zero, List.set_cons_succ, List.replicate, List.sum_cons, List.sum_nil, List.map_cons, List.map_nil, true_and, Bool.false_eq_true, if_false, if_true]
  have e : x.a + (x.s + (x.b + 0)) = x.w := by unfold Spn.w; omega
  rw [e]
  refine ⟨by decide, ?_⟩
  cases c <;> exact ⟨by decide, h⟩
def bchanged : FS :=
  (wSeq (wAsg (wV 0) (wGtup 3 (wGcons (wG 2) (wGcons (wG 3) (wGcons (wG 4) wGnil))))) (wSeq (wIfS (wB (wOp gEq (wV 1) (wC (.str "more")))) (wSeq (wIfS (wB (wOp gGt (wV 4) (wC (.int 0)))) (wRet (wTup (wCons (wV 2) (wCons (wOp gAdd (wV 3) (wC (.int 1))) (wCons (wOp gSub (wV 4) (wC (.int 1))) wNil))))) wNext) (wRet (wIf (wB (wOp gGt (wV 2) (wC (.int 0)))) (wTup (wCons (wOp gSub (wV 2) (wC (.int 1))) (wCons (wOp gAdd (wV 3) (wC (.int 1))) (wCons (wC (.int 0)) wNil)))) (wV 0)))) wNext) (wSeq (wIfS (wB (wOp gEq (wV 1) (wC (.str "less")))) (wRet (wIf (wB (wOp gGt (wV 3) (wC (.int 1)))) (wTup (wCons (wV 2) (wCons (wOp gSub (wV 3) (wC (.int 1))) (wCons (wOp gAdd (wV 4) (wC (.int 1))) wNil)))) (wV 0))) wNext) (wSeq (wIfS (wB (wOp gEq (wV 1) (wC (.str "on")))) (wRet (wIf (wB (wOp gGt (wV 4) (wC (.int 0)))) (wTup (wCons (wOp gAdd (wV 2) (wC (.int 1))) (wCons (wV 3) (wCons (wOp gSub (wV 4) (wC (.int 1))) wNil)))) (wV 0))) wNext) (wRet (wIf (wB (wOp gGt (wV 2) (wC (.int 0)))) (wTup (wCons (wOp gSub (wV 2) (wC (.int 1))) (wCons (wV 3) (wCons (wOp gAdd (wV 4) (wC (.int 1))) wNil)))) (wV 0)))))))

def isCh : Mv → Bool
  | .more | .less | .on | .off => true
  | _ => false
def φchanged : Phi := fun as Q => ∃ x m, as = [.d (spD x), .d (mvD m)] ∧ isCh m = true ∧ Q (.d (spD (changedM x m)))
theorem lchanged : ∀ as Q, φchanged as Q → as.length = 2 := by rintro _ Q ⟨x, c, rfl, _, h⟩; rfl
theorem wchanged : ∀ as Q, φchanged as Q → bchanged { nx := fun _ => Q (.d .none), rt := fun sv _ => Q sv } (as ++ List.replicate (5 - as.length) .no) := by
  rintro _ Q ⟨x, m, rfl, hm, h⟩
  simp only [bchanged, mvD, eP_more, eP_less, eP_on, ok_str, wSeq, wNext, wDrop, wRet, wRetO, wIfS, wSet, wSetD, wFrz, wThenFrz, wAsg, wPar, wPar3, wG, wGnil, wGcons, wGtup, wGS, wApp, wExt, wAugMul, wC, wV, wVR, wOp, wNil, wCons, wStar, wTup, wLst, wB, wAnd, wOr, wNot, wAndV, wOrV, wNotV, wIf, wFor, wIL, wIT, wIR1, wIR2, wIZ, wIE, wIRv, wComp, wComp2, wYes, wCall, argF, wNeg, wChain, gAdd, gSub, gInt, gInt0, gFdiv, gMod, gPow, gMul, gCmp, gLt, gLe, gGt, gGe, gEq, gNe, gIs, gIsNot, isNoneD, gIn, gIx, wNoP, wPart, wCut, gIxD, wKD, gInD, wDNew, wDisp, wPairs, w1, w2, gLen, gSum, gExt, gMax2, gMin2, gAbs, gIntC, gListC, gTupC, gBools, wIsi, wIsi2, wRevS, itemsS, intsOf, asD_d, asD_own, asDs, hideS, wipeS, spD, cDiv, cMod, List.cons_append, List.nil_append, List.length_cons, List.length_nil, List.getElem?_cons_zero, List.getElem?_cons_succ, List.set_cons_zero, List.set_cons_succ, List.replicate, List.sum_cons, List.sum_nil, List.map_cons, List.map_nil, true_and, Bool.false_eq_true, if_false, if_true]
  cases m <;> first
    | cases hm; done
    | (simp only [changedM] at h
       simp [sizeLine]
       (repeat' split) <;> simp_all [spD])
def bmoved : FS :=
  (wSeq (wIfS (wB (wOp gEq (wV 1) (wC (.str "whole")))) (wRet (wTup (wCons (wC (.int 0)) (wCons (w1 gSum (wV 0)) (wCons (wC (.int 0)) wNil))))) wNext) (wSeq (wIfS (wB (wOp (gIn false) (wV 1) (wTup (wCons (wC (.str "first")) (wCons (wC (.str "second")) wNil))))) (wRet (wCall φhalved (wCons (wV 0) (wCons (wOp gEq (wV 1) (wC (.str "second"))) wNil)))) wNext) (wSeq (wIfS (wB (wOp gEq (wV 1) (wC (.str "center")))) (wSeq (wSetD 2 (wOp gAdd (wOp gIx (wV 0) (wC (.int 0))) (wOp gIx (wV 0) (wC (.int 2))))) (wRet (wTup (wCons (wOp gFdiv (wV 2) (wC (.int 2))) (wCons (wOp gIx (wV 0) (wC (.int 1))) (wCons (wOp gSub (wV 2) (wOp gFdiv (wV 2) (wC (.int 2)))) wNil)))))) wNext) (wRet (wCall φchanged (wCons (wV 0) (wCons (wV 1) wNil)))))))

def isMv : Mv → Bool
  | .mark | .recall | .keep => false
  | _ => true
def φmoved : Phi := fun as Q => ∃ x m, as = [.d (spD x), .d (mvD m)] ∧ isMv m = true ∧ Q (.d (spD (movedM x m)))
theorem lmoved : ∀ as Q, φmoved as Q → as.length = 2 := by rintro _ Q ⟨x, c, rfl, _, h⟩; rfl
theorem wmoved : ∀ as Q, φmoved as Q → bmoved { nx := fun _ => Q (.d .none), rt := fun sv _ => Q sv } (as ++ List.replicate (3 - as.length) .no) := by
  rintro _ Q ⟨x, m, rfl, hm, h⟩
  have fl : flatD (.str (mvP m)) = true := rfl
  simp only [bmoved, mvD, eP_whole, eP_second, eP_center, ok_str, ix0, ix1, ix2, wSeq, wNext, wDrop, wRet, wRetO, wIfS, wSet, wSetD, wFrz, wThenFrz, wAsg, wPar, wPar3, wG, wGnil, wGcons, wGtup, wGS, wApp, wExt, wAugMul, wC, wV, wVR, wOp, wNil, wCons, wStar, wTup, wLst, wB, wAnd, wOr, wNot, wAndV, wOrV, wNotV, wIf, wFor, wIL, wIT, wIR1, wIR2, wIZ, wIE, wIRv, wComp, wComp2, wYes, wCall, argF, wNeg, wChain, gAdd, gSub, gInt, gInt0, gFdiv, gMod, gPow, gMul, gCmp, gLt, gLe, gGt, gGe, gEq, gNe, gIs, gIsNot, isNoneD, gIn, gIx, wNoP, wPart, wCut, gIxD, wKD, gInD, wDNew, wDisp, wPairs, w1, w2, gLen, gSum, gExt, gMax2, gMin2, gAbs, gIntC, gListC, gTupC, gBools, wIsi, wIsi2, wRevS, itemsS, intsOf, asD_d, asD_own, asDs, hideS, wipeS, spD, cDiv, cMod, List.cons_append, List.nil_append, List.length_cons, List.length_nil, List.getElem?_cons_zero, List.getElem?_cons_succ, List.set_cons_zero, List.set_cons_succ, List.replicate, List.sum_cons, List.sum_nil, List.map_cons, List.map_nil, true_and, Bool.false_eq_true, if_false, if_true]
  have e0 : x.a + (x.s + (x.b + 0)) = x.w := by unfold Spn.w; omega
  have e1 : ([PyData.str "first", PyData.str "second"].any fun y => PyData.eqv y (.str (mvP m))) = decide (m = .first ∨ m = .second) := by
    simp only [List.any_cons, List.any_nil, eP'_first, eP'_second]; cases m <;> rfl
  simp only [e0, e1, fl, true_and]
  cases m <;> first
    | cases hm; done
    | (simp only [decide_true, decide_false, if_true, if_false, Bool.false_eq_true, reduceCtorEq, true_or, or_true, or_self]
       exact ⟨by decide, h⟩)
    | (simp only [decide_true, decide_false, if_true, if_false, Bool.false_eq_true, reduceCtorEq, true_or, or_true, or_self]
       exact ⟨by decide, by decide, x, _, rfl, h⟩)
    | (simp only [decide_true, decide_false, if_true, if_false, Bool.false_eq_true, reduceCtorEq, true_or, or_true, or_self]
       exact ⟨by decide, by decide, by decide, by decide, by decide, h⟩)
    | (simp only [decide_true, decide_false, if_true, if_false, Bool.false_eq_true, reduceCtorEq, true_or, or_true, or_self]
       exact ⟨by decide, by decide, x, _, rfl, rfl, h⟩)
end Z


namespace Z
open PySem PySem.Spec PyProof.Rows L2
def bspans : FS :=
  (wSeq (wPar 2 3 (wCons (wLst (wCons (wV 0) wNil)) (wCons (wV 0) wNil))) (wSeq (wFor (wIL (wV 1)) (wG 4) (wIfS (wB (wOp gEq (wV 4) (wC (.str "mark")))) (wSeq (wSetD 3 (wOp gIx (wVR 2) (wNeg (wC (.int 1))))) (wApp 2 (wV 3))) (wIfS (wB (wOp gEq (wV 4) (wC (.str "keep")))) (wApp 2 (wOp gIx (wVR 2) (wNeg (wC (.int 1))))) (wApp 2 (wIf (wB (wOp gEq (wV 4) (wC (.str "recall")))) (wV 3) (wCall φmoved (wCons (wOp gIx (wVR 2) (wNeg (wC (.int 1)))) (wCons (wV 4) wNil)))))))) (wRetO 2)))

def bmoves_of : FS :=
  (wSeq (wSetD 2 (wComp (wIT (wV 0)) (wG 3) wYes (wOp gIx (wKD kMOVES (wV 3)) (wV 1)) [3])) (wSeq (wSetD 2 (wComp (wIL (wV 2)) (wG 4) (wB (wOp gNe (wV 4) (wC (.str "keep")))) (wV 4) [4])) (wRet (wIf (wB (wOp (gIn false) (wC (.str "recall")) (wV 2))) (wV 2) (wComp (wIL (wV 2)) (wG 4) (wB (wOp gNe (wV 4) (wC (.str "mark")))) (wV 4) [4])))))

def bspans_of : FS :=
  (wRet (wComp2 (wIR1 (wCons (wV 0) wNil)) (wG 1) wYes (wIR2 (wCons (wC (.int 1)) (wCons (wOp gAdd (wOp gSub (wV 0) (wV 1)) (wC (.int 1))) wNil))) (wG 2) wYes (wTup (wCons (wV 1) (wCons (wV 2) (wCons (wOp gSub (wOp gSub (wV 0) (wV 1)) (wV 2)) wNil)))) [1, 2] [2]))

def φspans : Phi := fun as Q => ∃ x ms, as = [.d (spD x), .d (mvsD ms)] ∧ ms.length ≤ 1000 ∧ Q (.own ((x :: trailM (x, x) ms).map spD))
theorem lspans : ∀ as Q, φspans as Q → as.length = 2 := by rintro _ Q ⟨x, c, rfl, _, h⟩; rfl
theorem isMv_of {m : Mv} (h1 : m ≠ .mark) (h2 : m ≠ .keep) (h3 : m ≠ .recall) : isMv m = true := by cases m <;> first | rfl | contradiction
theorem wspans : ∀ as Q, φspans as Q → bspans { nx := fun _ => Q (.d .none), rt := fun sv _ => Q sv } (as ++ List.replicate (5 - as.length) .no) := by
  rintro _ Q ⟨x, ms, rfl, hl, h⟩
  simp only [bspans, mvsD, wSeq, wNext, wDrop, wRet, wRetO, wIfS, wSet, wSetD, wFrz, wThenFrz, wAsg, wPar, wPar3, wG, wGnil, wGcons, wGtup, wGS, wApp, wExt, wAugMul, wC, wV, wVR, wOp, wNil, wCons, wStar, wTup, wLst, wB, wAnd, wOr, wNot, wAndV, wOrV, wNotV, wIf, wFor, wIL, wIT, wIR1, wIR2, wIZ, wIE, wIRv, wComp, wComp2, wYes, wCall, argF, wNeg, wChain, gAdd, gSub, gInt, gInt0, gFdiv, gMod, gPow, gMul, gCmp, gLt, gLe, gGt, gGe, gEq, gNe, gIs, gIsNot, isNoneD, gIn, gIx, wNoP, wPart, wCut, gIxD, wKD, gInD, wDNew, wDisp, wPairs, w1, w2, gLen, gSum, gExt, gMax2, gMin2, gAbs, gIntC, gListC, gTupC, gBools, wIsi, wIsi2, wRevS, itemsS, intsOf, asD_d, asD_own, asDs, hideS, wipeS, spD, cDiv, cMod, List.cons_append, List.nil_append, List.length_cons, List.length_nil, List.getElem?_cons_zero, List.getElem?_cons_succ, List.set_cons_zero, List.set_cons_succ, List.replicate, List.sum_cons, List.sum_nil, List.map_cons, List.map_nil, true_and, Bool.false_eq_true, if_false, if_true]
  refine ⟨by decide, ?_⟩
  refine forL_inv (I := fun r ρ => ∃ (st : Spn × Spn) (acc : List Spn) (o : SV), ρ = [.d (spD x), .d (mvsD ms), .own (acc.map spD), .d (spD st.1), o] ∧ acc.getLast? = some st.2 ∧ acc ++ trailM st r = x :: trailM (x, x) ms)
    ⟨(x, x), [x], .no, rfl, rfl, rfl⟩ ?_ ?_
  · rintro m r ρ hm ⟨st, acc, o, rfl, hla, hacc⟩ N hN
    have hlen : acc.length < sizeLine := by
      have := congrArg List.length hacc
      simp [trailM, trail_len] at this
      have : (2 : Nat) ^ 24 = 16777216 := by decide
      unfold sizeLine; omega
    have hat : atI (acc.map spD) (-1) = some (.tuple [.int st.2.a, .int st.2.s, .int st.2.b]) := atI_last (by rw [List.getLast?_map, hla]; rfl)
    simp only [mvD, mvsD, eP_mark, eP_keep, eP_recall, ok_str, hat, List.length_map, wSeq, wNext, wDrop, wRet, wRetO, wIfS, wSet, wSetD, wFrz, wThenFrz, wAsg, wPar, wPar3, wG, wGnil, wGcons, wGtup, wGS, wApp, wExt, wAugMul, wC, wV, wVR, wOp, wNil, wCons, wStar, wTup, wLst, wB, wAnd, wOr, wNot, wAndV, wOrV, wNotV, wIf, wFor, wIL, wIT, wIR1, wIR2, wIZ, wIE, wIRv, wComp, wComp2, wYes, wCall, argF, wNeg, wChain, gAdd, gSub, gInt, gInt0, gFdiv, gMod, gPow, gMul, gCmp, gLt, gLe, gGt, gGe, gEq, gNe, gIs, gIsNot, isNoneD, gIn, gIx, wNoP, wPart, wCut, gIxD, wKD, gInD, wDNew, wDisp, wPairs, w1, w2, gLen, gSum, gExt, gMax2, gMin2, gAbs, gIntC, gListC, gTupC, gBools, wIsi, wIsi2, wRevS, itemsS, intsOf, asD_d, asD_own, asDs, hideS, wipeS, spD, cDiv, cMod, List.cons_append, List.nil_append, List.length_cons, List.length_nil, List.getElem?_cons_zero, List.getElem?_cons_succ, List.set_cons_zero, List.set_cons_succ, List.replicate, List.sum_cons, List.sum_nil, List.map_cons, List.map_nil, true_and, Bool.false_eq_true, if_false, if_true]
    have fin : ∀ (st' : Spn × Spn) (y : Spn), stepM st m = st' → st'.2 = y → N [.d (spD x), .d (mvsD ms), .own ((acc ++ [y]).map spD), .d (spD st'.1), .d (mvD m)] := fun st' y e e2 => by
      refine hN _ ⟨st', acc ++ [y], _, rfl, by rw [List.getLast?_append]; simp [e2], ?_⟩
      rw [← hacc, trailM, e, e2]; simp
    have e1 : ∀ y : Spn, acc.map spD ++ [PyData.tuple [.int y.a, .int y.s, .int y.b]] = (acc ++ [y]).map spD := fun y => by simp [spD]
    by_cases c1 : m = .mark
    · subst c1
      simp only [decide_true, if_true, e1]
      exact ⟨hlen, fin (st.2, st.2) st.2 rfl rfl⟩
    · simp only [c1, decide_false, Bool.false_eq_true, if_false]
      by_cases c2 : m = .keep
      · subst c2
        simp only [decide_true, if_true, e1]
        exact ⟨hlen, fin st st.2 rfl rfl⟩
      · simp only [c2, decide_false, Bool.false_eq_true, if_false]
        by_cases c3 : m = .recall
        · subst c3
          simp only [decide_true, if_true, e1]
          exact ⟨hlen, fin (st.1, st.1) st.1 rfl rfl⟩
        · simp only [c3, decide_false, Bool.false_eq_true, if_false]
          refine ⟨st.2, m, rfl, isMv_of c1 c2 c3, ?_⟩
          simp only [asD_d, spD, e1]
          exact ⟨hlen, fin (st.1, movedM st.2 m) _ (by cases m <;> first | rfl | contradiction) rfl⟩
  · rintro ρ ⟨st, acc, o, rfl, hla, hacc⟩
    simp only [trailM, List.append_nil] at hacc
    subst hacc
    simp only [wSeq, wNext, wDrop, wRet, wRetO, wIfS, wSet, wSetD, wFrz, wThenFrz, wAsg, wPar, wPar3, wG, wGnil, wGcons, wGtup, wGS, wApp, wExt, wAugMul, wC, wV, wVR, wOp, wNil, wCons, wStar, wTup, wLst, wB, wAnd, wOr, wNot, wAndV, wOrV, wNotV, wIf, wFor, wIL, wIT, wIR1, wIR2, wIZ, wIE, wIRv, wComp, wComp2, wYes, wCall, argF, wNeg, wChain, gAdd, gSub, gInt, gInt0, gFdiv, gMod, gPow, gMul, gCmp, gLt, gLe, gGt, gGe, gEq, gNe, gIs, gIsNot, isNoneD, gIn, gIx, wNoP, wPart, wCut, gIxD, wKD, gInD, wDNew, wDisp, wPairs, w1, w2, gLen, gSum, gExt, gMax2, gMin2, gAbs, gIntC, gListC, gTupC, gBools, wIsi, wIsi2, wRevS, itemsS, intsOf, asD_d, asD_own, asDs, hideS, wipeS, spD, cDiv, cMod, List.cons_append, List.nil_append, List.length_cons, List.length_nil, List.getElem?_cons_zero, List.getElem?_cons_succ, List.set_cons_zero, List.set_cons_succ, List.replicate, List.sum_cons, List.sum_nil, List.map_cons, List.map_nil, true_and, Bool.false_eq_true, if_false, if_true]
    simpa only [List.map_cons, spD] using h
def blast_span : FS :=
  (wRet (wOp gIx (wCall φspans (wCons (wV 0) (wCons (wV 1) wNil))) (wNeg (wC (.int 1)))))

def φlast_span : Phi := fun as Q => ∃ x ms, as = [.d (spD x), .d (mvsD ms)] ∧ ms.length ≤ 1000 ∧ Q (.d (spD (endM x ms)))
theorem llast_span : ∀ as Q, φlast_span as Q → as.length = 2 := by rintro _ Q ⟨x, c, rfl, _, h⟩; rfl
theorem wlast_span : ∀ as Q, φlast_span as Q → blast_span { nx := fun _ => Q (.d .none), rt := fun sv _ => Q sv } (as ++ List.replicate (2 - as.length) .no) := by
  rintro _ Q ⟨x, ms, rfl, hl, h⟩
  simp only [blast_span, mvsD, wSeq, wNext, wDrop, wRet, wRetO, wIfS, wSet, wSetD, wFrz, wThenFrz, wAsg, wPar, wPar3, wG, wGnil, wGcons, wGtup, wGS, wApp, wExt, wAugMul, wC, wV, wVR, wOp, wNil, wCons, wStar, wTup, wLst, wB, wAnd, wOr, wNot, wAndV, wOrV, wNotV, wIf, wFor, wIL, wIT, wIR1, wIR2, wIZ, wIE, wIRv, wComp, wComp2, wYes, wCall, argF, wNeg, wChain, gAdd, gSub, gInt, gInt0, gFdiv, gMod, gPow, gMul, gCmp, gLt, gLe, gGt, gGe, gEq, gNe, gIs, gIsNot, isNoneD, gIn, gIx, wNoP, wPart, wCut, gIxD, wKD, gInD, wDNew, wDisp, wPairs, w1, w2, gLen, gSum, gExt, gMax2, gMin2, gAbs, gIntC, gListC, gTupC, gBools, wIsi, wIsi2, wRevS, itemsS, intsOf, asD_d, asD_own, asDs, hideS, wipeS, spD, cDiv, cMod, List.cons_append, List.nil_append, List.length_cons, List.length_nil, List.getElem?_cons_zero, List.getElem?_cons_succ, List.set_cons_zero, List.set_cons_succ, List.replicate, List.sum_cons, List.sum_nil, List.map_cons, List.map_nil, true_and, Bool.false_eq_true, if_false, if_true]
  refine ⟨x, ms, rfl, hl, ?_⟩
  have hat : atI ((x :: trailM (x, x) ms).map spD) (-1) = some (spD (endM x ms)) := atI_last (by rw [List.getLast?_map, trail_last ms (x, x) x rfl]; rfl)
  simp only [hat]
  exact h
def φmoves_of : Phi := fun as Q => ∃ r t, as = [.d (rowD r), .d (.int (tI t))] ∧ r.length ≤ 1000 ∧ ∀ sv, asD sv = some (mvsD (movesM r t)) → Q sv
theorem lmoves_of : ∀ as Q, φmoves_of as Q → as.length = 2 := by rintro _ Q ⟨x, c, rfl, _, h⟩; rfl
theorem at_pair (t : Bool) (a b : PyData) : atI [a, b] (tI t) = some (if t then b else a) := by cases t <;> rfl
theorem wmoves_of : ∀ as Q, φmoves_of as Q → bmoves_of { nx := fun _ => Q (.d .none), rt := fun sv _ => Q sv } (as ++ List.replicate (5 - as.length) .no) := by
  rintro _ Q ⟨r, t, rfl, hl, h⟩
  have hsz : (2 : Nat) ^ 24 = 16777216 := by decide
  simp only [bmoves_of, rowD, List.length_map, wSeq, wNext, wDrop, wRet, wRetO, wIfS, wSet, wSetD, wFrz, wThenFrz, wAsg, wPar, wPar3, wG, wGnil, wGcons, wGtup, wGS, wApp, wExt, wAugMul, wC, wV, wVR, wOp, wNil, wCons, wStar, wTup, wLst, wB, wAnd, wOr, wNot, wAndV, wOrV, wNotV, wIf, wFor, wIL, wIT, wIR1, wIR2, wIZ, wIE, wIRv, wComp, wComp2, wYes, wCall, argF, wNeg, wChain, gAdd, gSub, gInt, gInt0, gFdiv, gMod, gPow, gMul, gCmp, gLt, gLe, gGt, gGe, gEq, gNe, gIs, gIsNot, isNoneD, gIn, gIx, wNoP, wPart, wCut, gIxD, wKD, gInD, wDNew, wDisp, wPairs, w1, w2, gLen, gSum, gExt, gMax2, gMin2, gAbs, gIntC, gListC, gTupC, gBools, wIsi, wIsi2, wRevS, itemsS, intsOf, asD_d, asD_own, asDs, hideS, wipeS, spD, cDiv, cMod, List.cons_append, List.nil_append, List.length_cons, List.length_nil, List.getElem?_cons_zero, List.getElem?_cons_succ, List.set_cons_zero, List.set_cons_succ, List.replicate, List.sum_cons, List.sum_nil, List.map_cons, List.map_nil, true_and, Bool.false_eq_true, if_false, if_true]
  refine ⟨by unfold sizeLine; omega, compL_map (out := fun k => mvD (mvA k t)) (fun k hk R hR => ?_) ?_⟩
  · simp only [kyD, get_MOVES, at_pair, wSeq, wNext, wDrop, wRet, wRetO, wIfS, wSet, wSetD, wFrz, wThenFrz, wAsg, wPar, wPar3, wG, wGnil, wGcons, wGtup, wGS, wApp, wExt, wAugMul, wC, wV, wVR, wOp, wNil, wCons, wStar, wTup, wLst, wB, wAnd, wOr, wNot, wAndV, wOrV, wNotV, wIf, wFor, wIL, wIT, wIR1, wIR2, wIZ, wIE, wIRv, wComp, wComp2, wYes, wCall, argF, wNeg, wChain, gAdd, gSub, gInt, gInt0, gFdiv, gMod, gPow, gMul, gCmp, gLt, gLe, gGt, gGe, gEq, gNe, gIs, gIsNot, isNoneD, gIn, gIx, wNoP, wPart, wCut, gIxD, wKD, gInD, wDNew, wDisp, wPairs, w1, w2, gLen, gSum, gExt, gMax2, gMin2, gAbs, gIntC, gListC, gTupC, gBools, wIsi, wIsi2, wRevS, itemsS, intsOf, asD_d, asD_own, asDs, hideS, wipeS, spD, cDiv, cMod, List.cons_append, List.nil_append, List.length_cons, List.length_nil, List.getElem?_cons_zero, List.getElem?_cons_succ, List.set_cons_zero, List.set_cons_succ, List.replicate, List.sum_cons, List.sum_nil, List.map_cons, List.map_nil, true_and, Bool.false_eq_true, if_false, if_true]
    cases t <;> exact hR
  have e1 : (r.map fun k => mvD (mvA k t)) = (rawM r t).map mvD := by simp [rawM]
  rw [e1]
  simp only [List.length_map, wSeq, wNext, wDrop, wRet, wRetO, wIfS, wSet, wSetD, wFrz, wThenFrz, wAsg, wPar, wPar3, wG, wGnil, wGcons, wGtup, wGS, wApp, wExt, wAugMul, wC, wV, wVR, wOp, wNil, wCons, wStar, wTup, wLst, wB, wAnd, wOr, wNot, wAndV, wOrV, wNotV, wIf, wFor, wIL, wIT, wIR1, wIR2, wIZ, wIE, wIRv, wComp, wComp2, wYes, wCall, argF, wNeg, wChain, gAdd, gSub, gInt, gInt0, gFdiv, gMod, gPow, gMul, gCmp, gLt, gLe, gGt, gGe, gEq, gNe, gIs, gIsNot, isNoneD, gIn, gIx, wNoP, wPart, wCut, gIxD, wKD, gInD, wDNew, wDisp, wPairs, w1, w2, gLen, gSum, gExt, gMax2, gMin2, gAbs, gIntC, gListC, gTupC, gBools, wIsi, wIsi2, wRevS, itemsS, intsOf, asD_d, asD_own, asDs, hideS, wipeS, spD, cDiv, cMod, List.cons_append, List.nil_append, List.length_cons, List.length_nil, List.getElem?_cons_zero, List.getElem?_cons_succ, List.set_cons_zero, List.set_cons_succ, List.replicate, List.sum_cons, List.sum_nil, List.map_cons, List.map_nil, true_and, Bool.false_eq_true, if_false, if_true]
  refine ⟨by simp [rawM, sizeLine]; omega, compL_pure (p := nokeep) (out := mvD) (fun m hm R hR => ?_) ?_⟩
  · simp only [mvD, eP_keep, ok_str, wSeq, wNext, wDrop, wRet, wRetO, wIfS, wSet, wSetD, wFrz, wThenFrz, wAsg, wPar, wPar3, wG, wGnil, wGcons, wGtup, wGS, wApp, wExt, wAugMul, wC, wV, wVR, wOp, wNil, wCons, wStar, wTup, wLst, wB, wAnd, wOr, wNot, wAndV, wOrV, wNotV, wIf, wFor, wIL, wIT, wIR1, wIR2, wIZ, wIE, wIRv, wComp, wComp2, wYes, wCall, argF, wNeg, wChain, gAdd, gSub, gInt, gInt0, gFdiv, gMod, gPow, gMul, gCmp, gLt, gLe, gGt, gGe, gEq, gNe, gIs, gIsNot, isNoneD, gIn, gIx, wNoP, wPart, wCut, gIxD, wKD, gInD, wDNew, wDisp, wPairs, w1, w2, gLen, gSum, gExt, gMax2, gMin2, gAbs, gIntC, gListC, gTupC, gBools, wIsi, wIsi2, wRevS, itemsS, intsOf, asD_d, asD_own, asDs, hideS, wipeS, spD, cDiv, cMod, List.cons_append, List.nil_append, List.length_cons, List.length_nil, List.getElem?_cons_zero, List.getElem?_cons_succ, List.set_cons_zero, List.set_cons_succ, List.replicate, List.sum_cons, List.sum_nil, List.map_cons, List.map_nil, true_and, Bool.false_eq_true, if_false, if_true]
    revert hR
    unfold nokeep
    cases decide (m = .keep) <;> exact id
  have hl2 := List.length_filter_le nokeep (rawM r t)
  have hl3 : (rawM r t).length = r.length := by simp [rawM]
  have any : (((rawM r t).filter nokeep).map mvD).any (fun x => PyData.eqv x (.str "recall")) = ((rawM r t).filter nokeep).any (fun m => decide (m = .recall)) := by
    rw [List.any_map]
    congr 1
    funext m
    simp only [Function.comp, mvD, eP_recall]
  have fl : (((rawM r t).filter nokeep).map mvD).all flatD = true := by
    rw [List.all_map]; exact List.all_eq_true.mpr fun _ _ => rfl
  simp only [any, fl, List.length_map, wSeq, wNext, wDrop, wRet, wRetO, wIfS, wSet, wSetD, wFrz, wThenFrz, wAsg, wPar, wPar3, wG, wGnil, wGcons, wGtup, wGS, wApp, wExt, wAugMul, wC, wV, wVR, wOp, wNil, wCons, wStar, wTup, wLst, wB, wAnd, wOr, wNot, wAndV, wOrV, wNotV, wIf, wFor, wIL, wIT, wIR1, wIR2, wIZ, wIE, wIRv, wComp, wComp2, wYes, wCall, argF, wNeg, wChain, gAdd, gSub, gInt, gInt0, gFdiv, gMod, gPow, gMul, gCmp, gLt, gLe, gGt, gGe, gEq, gNe, gIs, gIsNot, isNoneD, gIn, gIx, wNoP, wPart, wCut, gIxD, wKD, gInD, wDNew, wDisp, wPairs, w1, w2, gLen, gSum, gExt, gMax2, gMin2, gAbs, gIntC, gListC, gTupC, gBools, wIsi, wIsi2, wRevS, itemsS, intsOf, asD_d, asD_own, asDs, hideS, wipeS, spD, cDiv, cMod, List.cons_append, List.nil_append, List.length_cons, List.length_nil, List.getElem?_cons_zero, List.getElem?_cons_succ, List.set_cons_zero, List.set_cons_succ, List.replicate, List.sum_cons, List.sum_nil, List.map_cons, List.map_nil, true_and, Bool.false_eq_true, if_false, if_true]
  refine ⟨⟨rfl, trivial⟩, ?_⟩
  unfold movesM at h
  cases hany : ((rawM r t).filter nokeep).any (fun m => decide (m = .recall)) with
  | true =>
    simp only [if_true, hany] at h ⊢
    exact h _ rfl
  | false =>
    simp only [Bool.false_eq_true, if_false, hany] at h ⊢
    refine ⟨by unfold sizeLine; omega, compL_pure (p := nomark) (out := mvD) (fun m hm R hR => ?_) (h _ rfl)⟩
    simp only [mvD, eP_mark, ok_str, wSeq, wNext, wDrop, wRet, wRetO, wIfS, wSet, wSetD, wFrz, wThenFrz, wAsg, wPar, wPar3, wG, wGnil, wGcons, wGtup, wGS, wApp, wExt, wAugMul, wC, wV, wVR, wOp, wNil, wCons, wStar, wTup, wLst, wB, wAnd, wOr, wNot, wAndV, wOrV, wNotV, wIf, wFor, wIL, wIT, wIR1, wIR2, wIZ, wIE, wIRv, wComp, wComp2, wYes, wCall, argF, wNeg, wChain, gAdd, gSub, gInt, gInt0, gFdiv, gMod, gPow, gMul, gCmp, gLt, gLe, gGt, gGe, gEq, gNe, gIs, gIsNot, isNoneD, gIn, gIx, wNoP, wPart, wCut, gIxD, wKD, gInD, wDNew, wDisp, wPairs, w1, w2, gLen, gSum, gExt, gMax2, gMin2, gAbs, gIntC, gListC, gTupC, gBools, wIsi, wIsi2, wRevS, itemsS, intsOf, asD_d, asD_own, asDs, hideS, wipeS, spD, cDiv, cMod, List.cons_append, List.nil_append, List.length_cons, List.length_nil, List.getElem?_cons_zero, List.getElem?_cons_succ, List.set_cons_zero, List.set_cons_succ, List.replicate, List.sum_cons, List.sum_nil, List.map_cons, List.map_nil, true_and, Bool.false_eq_true, if_false, if_true]
    revert hR
    unfold nomark
    cases decide (m = .mark) <;> exact id
def φspans_of : Phi := fun as Q => ∃ n : Nat, as = [.d (.int n)] ∧ n ≤ 1000 ∧ Q (.own ((spansM n).map spD))
theorem lspans_of : ∀ as Q, φspans_of as Q → as.length = 1 := by rintro _ Q ⟨x, rfl, _, h⟩; rfl
theorem wspans_of : ∀ as Q, φspans_of as Q → bspans_of { nx := fun _ => Q (.d .none), rt := fun sv _ => Q sv } (as ++ List.replicate (3 - as.length) .no) := by
  rintro _ Q ⟨n, rfl, hn, h⟩
  have hsz : (2 : Nat) ^ 24 = 16777216 := by decide
  have h62 : (2 : Int) ^ 62 = 4611686018427387904 := by decide
  simp only [bspans_of, wSeq, wNext, wDrop, wRet, wRetO, wIfS, wSet, wSetD, wFrz, wThenFrz, wAsg, wPar, wPar3, wG, wGnil, wGcons, wGtup, wGS, wApp, wExt, wAugMul, wC, wV, wVR, wOp, wNil, wCons, wStar, wTup, wLst, wB, wAnd, wOr, wNot, wAndV, wOrV, wNotV, wIf, wFor, wIL, wIT, wIR1, wIR2, wIZ, wIE, wIRv, wComp, wComp2, wYes, wCall, argF, wNeg, wChain, gAdd, gSub, gInt, gInt0, gFdiv, gMod, gPow, gMul, gCmp, gLt, gLe, gGt, gGe, gEq, gNe, gIs, gIsNot, isNoneD, gIn, gIx, wNoP, wPart, wCut, gIxD, wKD, gInD, wDNew, wDisp, wPairs, w1, w2, gLen, gSum, gExt, gMax2, gMin2, gAbs, gIntC, gListC, gTupC, gBools, wIsi, wIsi2, wRevS, itemsS, intsOf, asD_d, asD_own, asDs, hideS, wipeS, spD, cDiv, cMod, List.cons_append, List.nil_append, List.length_cons, List.length_nil, List.getElem?_cons_zero, List.getElem?_cons_succ, List.set_cons_zero, List.set_cons_succ, List.replicate, List.sum_cons, List.sum_nil, List.map_cons, List.map_nil, true_and, Bool.false_eq_true, if_false, if_true]
  refine ⟨by omega, ?_⟩
  have e0 : ((n : Int)).toNat = n := Int.toNat_natCast n
  rw [e0]
  refine comp2L_pure (B := 1000000) (outs := fun a => (List.range (n - a)).map fun (i : Nat) => spD ⟨a, 1 + i, n - a - (1 + i)⟩) (fun a ha acc Q' hB hQ => ?_) ?_ ?_
  · have hlt := List.mem_range.mp ha
    simp only [wSeq, wNext, wDrop, wRet, wRetO, wIfS, wSet, wSetD, wFrz, wThenFrz, wAsg, wPar, wPar3, wG, wGnil, wGcons, wGtup, wGS, wApp, wExt, wAugMul, wC, wV, wVR, wOp, wNil, wCons, wStar, wTup, wLst, wB, wAnd, wOr, wNot, wAndV, wOrV, wNotV, wIf, wFor, wIL, wIT, wIR1, wIR2, wIZ, wIE, wIRv, wComp, wComp2, wYes, wCall, argF, wNeg, wChain, gAdd, gSub, gInt, gInt0, gFdiv, gMod, gPow, gMul, gCmp, gLt, gLe, gGt, gGe, gEq, gNe, gIs, gIsNot, isNoneD, gIn, gIx, wNoP, wPart, wCut, gIxD, wKD, gInD, wDNew, wDisp, wPairs, w1, w2, gLen, gSum, gExt, gMax2, gMin2, gAbs, gIntC, gListC, gTupC, gBools, wIsi, wIsi2, wRevS, itemsS, intsOf, asD_d, asD_own, asDs, hideS, wipeS, spD, cDiv, cMod, List.cons_append, List.nil_append, List.length_cons, List.length_nil, List.getElem?_cons_zero, List.getElem?_cons_succ, List.set_cons_zero, List.set_cons_succ, List.replicate, List.sum_cons, List.sum_nil, List.map_cons, List.map_nil, true_and, Bool.false_eq_true, if_false, if_true]
    refine ⟨by omega, ?_⟩
    have e1 : ((n : Int) - (0 + (a : Nat)) + 1 - 1).toNat = n - a := by omega
    rw [e1]
    simp only [List.length_map, List.length_range] at hB
    refine ⟨by simp [rngD_len]; unfold sizeLine; omega, ?_⟩
    refine compL_map (out := fun (i : Nat) => spD ⟨a, 1 + i, n - a - (1 + i)⟩) (fun i hi R hR => ?_) hQ
    simp only [wSeq, wNext, wDrop, wRet, wRetO, wIfS, wSet, wSetD, wFrz, wThenFrz, wAsg, wPar, wPar3, wG, wGnil, wGcons, wGtup, wGS, wApp, wExt, wAugMul, wC, wV, wVR, wOp, wNil, wCons, wStar, wTup, wLst, wB, wAnd, wOr, wNot, wAndV, wOrV, wNotV, wIf, wFor, wIL, wIT, wIR1, wIR2, wIZ, wIE, wIRv, wComp, wComp2, wYes, wCall, argF, wNeg, wChain, gAdd, gSub, gInt, gInt0, gFdiv, gMod, gPow, gMul, gCmp, gLt, gLe, gGt, gGe, gEq, gNe, gIs, gIsNot, isNoneD, gIn, gIx, wNoP, wPart, wCut, gIxD, wKD, gInD, wDNew, wDisp, wPairs, w1, w2, gLen, gSum, gExt, gMax2, gMin2, gAbs, gIntC, gListC, gTupC, gBools, wIsi, wIsi2, wRevS, itemsS, intsOf, asD_d, asD_own, asDs, hideS, wipeS, spD, cDiv, cMod, List.cons_append, List.nil_append, List.length_cons, List.length_nil, List.getElem?_cons_zero, List.getElem?_cons_succ, List.set_cons_zero, List.set_cons_succ, List.replicate, List.sum_cons, List.sum_nil, List.map_cons, List.map_nil, true_and, Bool.false_eq_true, if_false, if_true]
    refine ⟨by decide, ?_⟩
    rw [Int.zero_add]
    exact hR
  · have := spans_len n
    have h2 : n * n ≤ 1000 * 1000 := Nat.mul_le_mul hn hn
    have e2 : ((List.range n).flatMap fun a => (List.range (n - a)).map fun (i : Nat) => spD ⟨a, 1 + i, n - a - (1 + i)⟩).length = (spansM n).length := by
      simp [spansM, List.length_flatMap]
    simp only [List.length_nil, Nat.zero_add]
    rw [e2]; omega
  · have e2 : ([] ++ (List.range n).flatMap fun a => (List.range (n - a)).map fun (i : Nat) => spD ⟨a, 1 + i, n - a - (1 + i)⟩) = (spansM n).map spD := by
      simp [spansM, List.map_flatMap, Function.comp_def]
    rw [e2]; exact h
end Z


namespace Z
open PySem PySem.Spec PyProof.Rows L2
def b_law_draw : FS :=
  (wSeq (wSetD 2 (wC (.int 2305843009213693951))) (wSeq (wIfS (wB (wOp gLt (wOp gIx (wVR 0) (wC (.int 2))) (wV 1))) (wSeq (wSetD 4 (wC (.int 0))) (wSeq (wIfS (wB (wOp gGt (w1 gLen (wOp gIx (wVR 0) (wC (.int 0)))) (wC (.int 0)))) (wSetD 4 (wOp gIx (wOp gIx (wVR 0) (wC (.int 0))) (wOp gMod (w1 gIntC (wOp gIx (wVR 0) (wC (.int 1)))) (w1 gLen (wOp gIx (wVR 0) (wC (.int 0))))))) wNext) (wSeq (wIfS (wOr (wB (wOp gGe (wOp gIx (wVR 0) (wC (.int 1))) (w1 gLen (wOp gIx (wVR 0) (wC (.int 0)))))) (wB (wOp gLt (wV 4) (wOp gPow (wC (.int 10)) (wC (.int 18)))))) (wSeq (wSetD 4 (wOp gMod (w1 gIntC (wOp gAdd (wV 4) (wOp gMul (wC (.int 1000003)) (wOp gIx (wVR 0) (wC (.int 1)))))) (wV 2))) (wSeq (wSetD 4 (wOp gMod (w1 gIntC (wOp gAdd (wOp gAdd (wOp gMul (wV 4) (wV 4)) (wOp gMul (wC (.int 1181783497276652981)) (wV 4))) (wC (.int 2049848353892358983)))) (wV 2))) (wSetD 4 (wOp gMod (w1 gIntC (wOp gAdd (wOp gMul (wV 4) (wV 4)) (wC (.int 1442695040888963407)))) (wV 2))))) wNext) (wSeq (wAsg (wOp gAdd (wOp gIx (wVR 0) (wC (.int 1))) (wC (.int 1))) (wGS 0 (wC (.int 1)))) (wAsg (wV 4) (wGS 0 (wC (.int 2)))))))) wNext) (wSeq (wSetD 3 (wOp gMod (w1 gIntC (wOp gIx (wVR 0) (wC (.int 2)))) (wV 1))) (wSeq (wAsg (wOp gFdiv (wOp gIx (wVR 0) (wC (.int 2))) (wV 1)) (wGS 0 (wC (.int 2)))) (wRet (wV 3))))))

def φ_law_draw : Phi := fun as Q => ∃ m : Int, as = [.tp, .d (.int m)] ∧ (0 < m ∧ m < 10 ^ 40) ∧ ∀ r : Int, 0 ≤ r → r < m → Q (.d (.int r))
theorem l_law_draw : ∀ as Q, φ_law_draw as Q → as.length = 2 := by rintro _ Q ⟨x, rfl, _, h⟩; rfl
theorem atI_ints {cells : List Int} {i : Int} (h0 : 0 ≤ i) (h1 : i < cells.length) : ∃ c, atI (cells.map PyData.int) i = some (.int c) := by
  obtain ⟨y, e, e2⟩ := atI_of (l := cells.map PyData.int) h0 (by simpa using h1)
  rw [List.getElem?_map] at e2
  cases e3 : cells[i.toNat]? with
  | none => rw [e3] at e2; cases e2
  | some c => rw [e3] at e2; cases e2; exact ⟨c, e⟩
theorem mod_rng (x : Int) {m : Int} (h : 0 < m) : 0 ≤ x % m ∧ x % m < m := ⟨Int.emod_nonneg _ (by omega), Int.emod_lt_of_pos _ h⟩
theorem w_law_draw : ∀ as Q, φ_law_draw as Q → ∃ ds : List PyData, as = .tp :: ds.map .d ∧ ∀ (τ : Addr) (cells : List Int) (u v : Int),
      b_law_draw { nx := fun _ => False, rt := fun sv ρ' => (∃ z, sv = .d z ∧ Q sv) ∧ ∃ u' v', ρ'[0]? = some (.tpo τ (tapeD cells u' v')) } ((.tpo τ (tapeD cells u v) :: ds.map .d) ++ List.replicate (5 - as.length) .no) := by
  rintro _ Q ⟨m, rfl, ⟨hm, hm2⟩, h⟩
  refine ⟨[.int m], rfl, fun τ cells u v => ?_⟩
  have h63 : (2 : Int) ^ 64 = 18446744073709551616 := by decide
  simp only [b_law_draw, tapeD, ix0, ix1, ix2, ixn0, ixn1, ixn2, List.length_map, wSeq, wNext, wDrop, wRet, wRetO, wIfS, wSet, wSetD, wFrz, wThenFrz, wAsg, wPar, wPar3, wG, wGnil, wGcons, wGtup, wGS, wApp, wExt, wAugMul, wC, wV, wVR, wOp, wNil, wCons, wStar, wTup, wLst, wB, wAnd, wOr, wNot, wAndV, wOrV, wNotV, wIf, wFor, wIL, wIT, wIR1, wIR2, wIZ, wIE, wIRv, wComp, wComp2, wYes, wCall, argF, wNeg, wChain, gAdd, gSub, gInt, gInt0, gFdiv, gMod, gPow, gMul, gCmp, gLt, gLe, gGt, gGe, gEq, gNe, gIs, gIsNot, isNoneD, gIn, gIx, wNoP, wPart, wCut, gIxD, wKD, gInD, wDNew, wDisp, wPairs, w1, w2, gLen, gSum, gExt, gMax2, gMin2, gAbs, gIntC, gListC, gTupC, gBools, wIsi, wIsi2, wRevS, itemsS, intsOf, asD_d, asD_own, asDs, hideS, wipeS, spD, cDiv, cMod, List.cons_append, List.nil_append, List.length_cons, List.length_nil, List.getElem?_cons_zero, List.getElem?_cons_succ, List.set_cons_zero, List.set_cons_succ, List.replicate, List.sum_cons, List.sum_nil, List.map_cons, List.map_nil, true_and, Bool.false_eq_true, if_false, if_true]
  have fin : ∀ u v : Int, (0 < m ∧ m < 10 ^ 40) ∧ (∃ z, (SV.d (.int (v % m)) : SV) = .d z ∧ Q (.d (.int (v % m)))) ∧ ∃ u' v', some (SV.tpo τ [.list (cells.map .int), .int u, .int (v / m)]) = some (.tpo τ [.list (cells.map .int), .int u', .int v']) := fun u v =>
    ⟨⟨hm, hm2⟩, ⟨_, rfl, h _ (mod_rng v hm).1 (mod_rng v hm).2⟩, _, _, rfl⟩
  have mulm : ∀ z j : Int, cMul (z % 2305843009213693951) j := fun z j => .inl (by have := mod_rng z (m := 2305843009213693951) (by decide); omega)
  have k1 : ∀ j : Int, cMul 1000003 j := fun j => .inl (by omega)
  have k2 : ∀ j : Int, cMul 1181783497276652981 j := fun j => .inl (by omega)
  have p0 : (0 : Int) < 2305843009213693951 := by decide
  have pw : cPow 10 18 := by unfold cPow; omega
  have tail : ∀ {P : Prop} (c u : Int), P → cMul 1000003 u ∧ (0 : Int) < 2305843009213693951 ∧ cMul ((c + 1000003 * u) % 2305843009213693951) ((c + 1000003 * u) % 2305843009213693951) ∧ cMul 1181783497276652981 ((c + 1000003 * u) % 2305843009213693951) ∧ P := fun c u p => ⟨k1 _, p0, mulm _ _, k2 _, p⟩
  split
  · split
    · rename_i h1 h2
      have hpos : (0 : Int) < cells.length := of_decide_eq_true h2
      obtain ⟨h3, h4⟩ := mod_rng u hpos
      obtain ⟨c, ec⟩ := atI_ints h3 h4
      refine ⟨hpos, ?_⟩
      simp only [ec, wSeq, wNext, wDrop, wRet, wRetO, wIfS, wSet, wSetD, wFrz, wThenFrz, wAsg, wPar, wPar3, wG, wGnil, wGcons, wGtup, wGS, wApp, wExt, wAugMul, wC, wV, wVR, wOp, wNil, wCons, wStar, wTup, wLst, wB, wAnd, wOr, wNot, wAndV, wOrV, wNotV, wIf, wFor, wIL, wIT, wIR1, wIR2, wIZ, wIE, wIRv, wComp, wComp2, wYes, wCall, argF, wNeg, wChain, gAdd, gSub, gInt, gInt0, gFdiv, gMod, gPow, gMul, gCmp, gLt, gLe, gGt, gGe, gEq, gNe, gIs, gIsNot, isNoneD, gIn, gIx, wNoP, wPart, wCut, gIxD, wKD, gInD, wDNew, wDisp, wPairs, w1, w2, gLen, gSum, gExt, gMax2, gMin2, gAbs, gIntC, gListC, gTupC, gBools, wIsi, wIsi2, wRevS, itemsS, intsOf, asD_d, asD_own, asDs, hideS, wipeS, spD, cDiv, cMod, List.cons_append, List.nil_append, List.length_cons, List.length_nil, List.getElem?_cons_zero, List.getElem?_cons_succ, List.set_cons_zero, List.set_cons_succ, List.replicate, List.sum_cons, List.sum_nil, List.map_cons, List.map_nil, true_and, Bool.false_eq_true, if_false, if_true]
      split
      · exact tail _ _ ⟨p0, mulm _ _, p0, hm, fin _ _⟩
      · refine ⟨pw, ?_⟩
        split
        · exact tail _ _ ⟨p0, mulm _ _, p0, hm, fin _ _⟩
        · exact ⟨hm, fin _ _⟩
    · split
      · exact tail _ _ ⟨p0, mulm _ _, p0, hm, fin _ _⟩
      · refine ⟨pw, ?_⟩
        split
        · exact tail _ _ ⟨p0, mulm _ _, p0, hm, fin _ _⟩
        · exact ⟨hm, fin _ _⟩
  · exact ⟨hm, fin _ _⟩
def b_law_both : FS :=
  (wSeq (wSet 0 (wDisp [((wC (.str "left")), (wTup (wCons (wC (.str "first")) (wCons (wC (.str "whole")) wNil)))), ((wC (.str "right")), (wTup (wCons (wC (.str "second")) (wCons (wC (.str "whole")) wNil))))])) (wSeq (wAsg (wTup (wCons (wTup (wCons (wC (.str "whole")) (wCons (wC (.str "first")) wNil))) (wCons (wTup (wCons (wC (.str "whole")) (wCons (wC (.str "second")) wNil))) wNil))) (wGtup 2 (wGcons (wGS 0 (wC (.str "up"))) (wGcons (wGS 0 (wC (.str "down"))) wGnil)))) (wSeq (wAsg (wTup (wCons (wTup (wCons (wC (.str "first")) (wCons (wC (.str "first")) wNil))) (wCons (wTup (wCons (wC (.str "second")) (wCons (wC (.str "first")) wNil))) (wCons (wTup (wCons (wC (.str "first")) (wCons (wC (.str "second")) wNil))) wNil)))) (wGtup 3 (wGcons (wGS 0 (wC (.str "nw"))) (wGcons (wGS 0 (wC (.str "ne"))) (wGcons (wGS 0 (wC (.str "sw"))) wGnil))))) (wSeq (wAsg (wTup (wCons (wTup (wCons (wC (.str "second")) (wCons (wC (.str "second")) wNil))) (wCons (wTup (wCons (wC (.str "whole")) (wCons (wC (.str "whole")) wNil))) (wCons (wTup (wCons (wC (.str "center")) (wCons (wC (.str "center")) wNil))) wNil)))) (wGtup 3 (wGcons (wGS 0 (wC (.str "se"))) (wGcons (wGS 0 (wC (.str "full"))) (wGcons (wGS 0 (wC (.str "center"))) wGnil))))) (wSeq (wAsg (wTup (wCons (wTup (wCons (wC (.str "more")) (wCons (wC (.str "")) wNil))) (wCons (wTup (wCons (wC (.str "less")) (wCons (wC (.str "")) wNil))) (wCons (wTup (wCons (wC (.str "on")) (wCons (wC (.str "")) wNil))) (wCons (wTup (wCons (wC (.str "off")) (wCons (wC (.str "")) wNil))) wNil))))) (wGtup 4 (wGcons (wGS 0 (wC (.str "wide"))) (wGcons (wGS 0 (wC (.str "narrow"))) (wGcons (wGS 0 (wC (.str "east"))) (wGcons (wGS 0 (wC (.str "west"))) wGnil)))))) (wSeq (wAsg (wTup (wCons (wTup (wCons (wC (.str "")) (wCons (wC (.str "more")) wNil))) (wCons (wTup (wCons (wC (.str "")) (wCons (wC (.str "less")) wNil))) (wCons (wTup (wCons (wC (.str "")) (wCons (wC (.str "on")) wNil))) (wCons (wTup (wCons (wC (.str "")) (wCons (wC (.str "off")) wNil))) wNil))))) (wGtup 4 (wGcons (wGS 0 (wC (.str "tall"))) (wGcons (wGS 0 (wC (.str "short"))) (wGcons (wGS 0 (wC (.str "south"))) (wGcons (wGS 0 (wC (.str "north"))) wGnil)))))) (wSeq (wAsg (wTup (wCons (wTup (wCons (wC (.str "mark")) (wCons (wC (.str "mark")) wNil))) (wCons (wTup (wCons (wC (.str "recall")) (wCons (wC (.str "recall")) wNil))) wNil))) (wGtup 2 (wGcons (wGS 0 (wC (.str "mark"))) (wGcons (wGS 0 (wC (.str "recall"))) wGnil)))) (wRetO 0))))))))

def LKeys : List Ky := [.k_left, .k_right, .k_up, .k_down, .k_nw, .k_ne, .k_sw, .k_se, .k_full, .k_center, .k_wide, .k_narrow, .k_east, .k_west, .k_tall, .k_short, .k_south, .k_north, .k_mark, .k_recall]
def bothD : List (PyData × PyData) := LKeys.map fun k => (kyD k, .tuple [mvD' (mvA k false), mvD' (mvA k true)])
theorem get_both (k : Ky) : getD bothD (kyD k) = some (.tuple [mvD' (mvA k false), mvD' (mvA k true)]) := by cases k <;> rfl
def φ_law_both : Phi := fun as Q => as = [] ∧ Q (.dct bothD)
theorem l_law_both : ∀ as Q, φ_law_both as Q → as.length = 0 := by rintro _ Q ⟨rfl, h⟩; rfl
theorem w_law_both : ∀ as Q, φ_law_both as Q → b_law_both { nx := fun _ => Q (.d .none), rt := fun sv _ => Q sv } (as ++ List.replicate (1 - as.length) .no) := by
  rintro _ Q ⟨rfl, h⟩
  simp only [b_law_both, keyOf, Option.isSome, mergeD, List.foldl, wSeq, wNext, wDrop, wRet, wRetO, wIfS, wSet, wSetD, wFrz, wThenFrz, wAsg, wPar, wPar3, wG, wGnil, wGcons, wGtup, wGS, wApp, wExt, wAugMul, wC, wV, wVR, wOp, wNil, wCons, wStar, wTup, wLst, wB, wAnd, wOr, wNot, wAndV, wOrV, wNotV, wIf, wFor, wIL, wIT, wIR1, wIR2, wIZ, wIE, wIRv, wComp, wComp2, wYes, wCall, argF, wNeg, wChain, gAdd, gSub, gInt, gInt0, gFdiv, gMod, gPow, gMul, gCmp, gLt, gLe, gGt, gGe, gEq, gNe, gIs, gIsNot, isNoneD, gIn, gIx, wNoP, wPart, wCut, gIxD, wKD, gInD, wDNew, wDisp, wPairs, w1, w2, gLen, gSum, gExt, gMax2, gMin2, gAbs, gIntC, gListC, gTupC, gBools, wIsi, wIsi2, wRevS, itemsS, intsOf, asD_d, asD_own, asDs, hideS, wipeS, spD, cDiv, cMod, List.cons_append, List.nil_append, List.length_cons, List.length_nil, List.getElem?_cons_zero, List.getElem?_cons_succ, List.set_cons_zero, List.set_cons_succ, List.replicate, List.sum_cons, List.sum_nil, List.map_cons, List.map_nil, true_and, Bool.false_eq_true, if_false, if_true]
  have e : bothD = _ := rfl
  repeat' (first | exact h | refine ⟨by decide +kernel, ?_⟩)
def b_law_key : FS :=
  (wSeq (wSetD 1 (w1 gSort (wCall φ_law_both wNil))) (wRet (wOp gIx (wV 1) (wCall φ_law_draw (wCons (wV 0) (wCons (wC (.int 20)) wNil))))))

def φ_law_key : Phi := fun as Q => as = [.tp] ∧ ∀ k : Ky, Q (.d (kyD k))
theorem l_law_key : ∀ as Q, φ_law_key as Q → as.length = 1 := by rintro _ Q ⟨rfl, h⟩; rfl
theorem w_law_key : ∀ as Q, φ_law_key as Q → b_law_key { nx := fun _ => Q (.d .none), rt := fun sv _ => Q sv } (as ++ List.replicate (2 - as.length) .no) := by
  rintro _ Q ⟨rfl, h⟩
  simp only [b_law_key, wSeq, wNext, wDrop, wRet, wRetO, wIfS, wSet, wSetD, wFrz, wThenFrz, wAsg, wPar, wPar3, wG, wGnil, wGcons, wGtup, wGS, wApp, wExt, wAugMul, wC, wV, wVR, wOp, wNil, wCons, wStar, wTup, wLst, wB, wAnd, wOr, wNot, wAndV, wOrV, wNotV, wIf, wFor, wIL, wIT, wIR1, wIR2, wIZ, wIE, wIRv, wComp, wComp2, wYes, wCall, argF, wNeg, wChain, gAdd, gSub, gInt, gInt0, gFdiv, gMod, gPow, gMul, gCmp, gLt, gLe, gGt, gGe, gEq, gNe, gIs, gIsNot, isNoneD, gIn, gIx, wNoP, wPart, wCut, gIxD, wKD, gInD, wDNew, wDisp, wPairs, w1, w2, gLen, gSum, gExt, gMax2, gMin2, gAbs, gIntC, gListC, gTupC, gBools, wIsi, wIsi2, wRevS, itemsS, intsOf, asD_d, asD_own, asDs, hideS, wipeS, spD, cDiv, cMod, List.cons_append, List.nil_append, List.length_cons, List.length_nil, List.getElem?_cons_zero, List.getElem?_cons_succ, List.set_cons_zero, List.set_cons_succ, List.replicate, List.sum_cons, List.sum_nil, List.map_cons, List.map_nil, true_and, Bool.false_eq_true, if_false, if_true]
  refine ⟨rfl, ?_⟩
  have e1 : strsOf (bothD.map (·.1)) = some (LKeys.map kyS) := rfl
  simp only [e1, wSeq, wNext, wDrop, wRet, wRetO, wIfS, wSet, wSetD, wFrz, wThenFrz, wAsg, wPar, wPar3, wG, wGnil, wGcons, wGtup, wGS, wApp, wExt, wAugMul, wC, wV, wVR, wOp, wNil, wCons, wStar, wTup, wLst, wB, wAnd, wOr, wNot, wAndV, wOrV, wNotV, wIf, wFor, wIL, wIT, wIR1, wIR2, wIZ, wIE, wIRv, wComp, wComp2, wYes, wCall, argF, wNeg, wChain, gAdd, gSub, gInt, gInt0, gFdiv, gMod, gPow, gMul, gCmp, gLt, gLe, gGt, gGe, gEq, gNe, gIs, gIsNot, isNoneD, gIn, gIx, wNoP, wPart, wCut, gIxD, wKD, gInD, wDNew, wDisp, wPairs, w1, w2, gLen, gSum, gExt, gMax2, gMin2, gAbs, gIntC, gListC, gTupC, gBools, wIsi, wIsi2, wRevS, itemsS, intsOf, asD_d, asD_own, asDs, hideS, wipeS, spD, cDiv, cMod, List.cons_append, List.nil_append, List.length_cons, List.length_nil, List.getElem?_cons_zero, List.getElem?_cons_succ, List.set_cons_zero, List.set_cons_succ, List.replicate, List.sum_cons, List.sum_nil, List.map_cons, List.map_nil, true_and, Bool.false_eq_true, if_false, if_true]
  refine .inr ⟨_, rfl, by decide, fun ys hp _ => ?_⟩
  refine ⟨20, rfl, by decide, fun r h0 h1 => ?_⟩
  have hl : ys.length = 20 := hp.length_eq
  obtain ⟨y, e, e2⟩ := atI_of (l := ys.map PyData.str) (i := r) h0 (by rw [List.length_map, hl]; exact h1)
  simp only [e]
  rw [List.getElem?_map] at e2
  cases e3 : ys[r.toNat]? with
  | none => rw [e3] at e2; cases e2
  | some c =>
    rw [e3] at e2
    cases e2
    have : c ∈ LKeys.map kyS := hp.subset (List.mem_of_getElem? e3)
    obtain ⟨k, _, rfl⟩ := List.mem_map.mp this
    exact h k
def b_law_row : FS :=
  (wSeq (wSetD 2 (wTup wNil)) (wSeq (wFor (wIR1 (wCons (wCall φ_law_draw (wCons (wV 0) (wCons (wOp gAdd (wV 1) (wC (.int 1))) wNil))) wNil)) (wG 3) (wSetD 2 (wOp gAdd (wV 2) (wTup (wCons (wCall φ_law_key (wCons (wV 0) wNil)) wNil))))) (wRet (wV 2))))

def φ_law_row : Phi := fun as Q => ∃ m : Nat, as = [.tp, .d (.int m)] ∧ m ≤ 1000 ∧ ∀ r : List Ky, r.length ≤ m → Q (.d (rowD r))
theorem l_law_row : ∀ as Q, φ_law_row as Q → as.length = 2 := by rintro _ Q ⟨x, rfl, _, h⟩; rfl
theorem w_law_row : ∀ as Q, φ_law_row as Q → b_law_row { nx := fun _ => Q (.d .none), rt := fun sv _ => Q sv } (as ++ List.replicate (4 - as.length) .no) := by
  rintro _ Q ⟨m, rfl, hm, h⟩
  have h62 : (2 : Int) ^ 62 = 4611686018427387904 := by decide
  have h40 : (2 : Int) ^ 62 < 10 ^ 40 := by decide
  simp only [b_law_row, wSeq, wNext, wDrop, wRet, wRetO, wIfS, wSet, wSetD, wFrz, wThenFrz, wAsg, wPar, wPar3, wG, wGnil, wGcons, wGtup, wGS, wApp, wExt, wAugMul, wC, wV, wVR, wOp, wNil, wCons, wStar, wTup, wLst, wB, wAnd, wOr, wNot, wAndV, wOrV, wNotV, wIf, wFor, wIL, wIT, wIR1, wIR2, wIZ, wIE, wIRv, wComp, wComp2, wYes, wCall, argF, wNeg, wChain, gAdd, gSub, gInt, gInt0, gFdiv, gMod, gPow, gMul, gCmp, gLt, gLe, gGt, gGe, gEq, gNe, gIs, gIsNot, isNoneD, gIn, gIx, wNoP, wPart, wCut, gIxD, wKD, gInD, wDNew, wDisp, wPairs, w1, w2, gLen, gSum, gExt, gMax2, gMin2, gAbs, gIntC, gListC, gTupC, gBools, wIsi, wIsi2, wRevS, itemsS, intsOf, asD_d, asD_own, asDs, hideS, wipeS, spD, cDiv, cMod, List.cons_append, List.nil_append, List.length_cons, List.length_nil, List.getElem?_cons_zero, List.getElem?_cons_succ, List.set_cons_zero, List.set_cons_succ, List.replicate, List.sum_cons, List.sum_nil, List.map_cons, List.map_nil, true_and, Bool.false_eq_true, if_false, if_true]
  refine ⟨by decide, (m : Int) + 1, rfl, ⟨by omega, by omega⟩, fun n h0 h1 => ?_⟩
  simp only [wSeq, wNext, wDrop, wRet, wRetO, wIfS, wSet, wSetD, wFrz, wThenFrz, wAsg, wPar, wPar3, wG, wGnil, wGcons, wGtup, wGS, wApp, wExt, wAugMul, wC, wV, wVR, wOp, wNil, wCons, wStar, wTup, wLst, wB, wAnd, wOr, wNot, wAndV, wOrV, wNotV, wIf, wFor, wIL, wIT, wIR1, wIR2, wIZ, wIE, wIRv, wComp, wComp2, wYes, wCall, argF, wNeg, wChain, gAdd, gSub, gInt, gInt0, gFdiv, gMod, gPow, gMul, gCmp, gLt, gLe, gGt, gGe, gEq, gNe, gIs, gIsNot, isNoneD, gIn, gIx, wNoP, wPart, wCut, gIxD, wKD, gInD, wDNew, wDisp, wPairs, w1, w2, gLen, gSum, gExt, gMax2, gMin2, gAbs, gIntC, gListC, gTupC, gBools, wIsi, wIsi2, wRevS, itemsS, intsOf, asD_d, asD_own, asDs, hideS, wipeS, spD, cDiv, cMod, List.cons_append, List.nil_append, List.length_cons, List.length_nil, List.getElem?_cons_zero, List.getElem?_cons_succ, List.set_cons_zero, List.set_cons_succ, List.replicate, List.sum_cons, List.sum_nil, List.map_cons, List.map_nil, true_and, Bool.false_eq_true, if_false, if_true]
  refine ⟨by omega, ?_⟩
  refine forL_inv (I := fun r ρ => ∃ (rr : List Ky) (o : SV), ρ = [.tp, .d (.int m), .d (rowD rr), o] ∧ rr.length + r.length ≤ m) ⟨[], .no, rfl, by simp; omega⟩ ?_ ?_
  · rintro i r ρ _ ⟨rr, o, rfl, hl⟩ N hN
    simp only [rowD, wSeq, wNext, wDrop, wRet, wRetO, wIfS, wSet, wSetD, wFrz, wThenFrz, wAsg, wPar, wPar3, wG, wGnil, wGcons, wGtup, wGS, wApp, wExt, wAugMul, wC, wV, wVR, wOp, wNil, wCons, wStar, wTup, wLst, wB, wAnd, wOr, wNot, wAndV, wOrV, wNotV, wIf, wFor, wIL, wIT, wIR1, wIR2, wIZ, wIE, wIRv, wComp, wComp2, wYes, wCall, argF, wNeg, wChain, gAdd, gSub, gInt, gInt0, gFdiv, gMod, gPow, gMul, gCmp, gLt, gLe, gGt, gGe, gEq, gNe, gIs, gIsNot, isNoneD, gIn, gIx, wNoP, wPart, wCut, gIxD, wKD, gInD, wDNew, wDisp, wPairs, w1, w2, gLen, gSum, gExt, gMax2, gMin2, gAbs, gIntC, gListC, gTupC, gBools, wIsi, wIsi2, wRevS, itemsS, intsOf, asD_d, asD_own, asDs, hideS, wipeS, spD, cDiv, cMod, List.cons_append, List.nil_append, List.length_cons, List.length_nil, List.getElem?_cons_zero, List.getElem?_cons_succ, List.set_cons_zero, List.set_cons_succ, List.replicate, List.sum_cons, List.sum_nil, List.map_cons, List.map_nil, true_and, Bool.false_eq_true, if_false, if_true]
    refine ⟨rfl, fun k => ?_⟩
    simp only [List.length_map, wSeq, wNext, wDrop, wRet, wRetO, wIfS, wSet, wSetD, wFrz, wThenFrz, wAsg, wPar, wPar3, wG, wGnil, wGcons, wGtup, wGS, wApp, wExt, wAugMul, wC, wV, wVR, wOp, wNil, wCons, wStar, wTup, wLst, wB, wAnd, wOr, wNot, wAndV, wOrV, wNotV, wIf, wFor, wIL, wIT, wIR1, wIR2, wIZ, wIE, wIRv, wComp, wComp2, wYes, wCall, argF, wNeg, wChain, gAdd, gSub, gInt, gInt0, gFdiv, gMod, gPow, gMul, gCmp, gLt, gLe, gGt, gGe, gEq, gNe, gIs, gIsNot, isNoneD, gIn, gIx, wNoP, wPart, wCut, gIxD, wKD, gInD, wDNew, wDisp, wPairs, w1, w2, gLen, gSum, gExt, gMax2, gMin2, gAbs, gIntC, gListC, gTupC, gBools, wIsi, wIsi2, wRevS, itemsS, intsOf, asD_d, asD_own, asDs, hideS, wipeS, spD, cDiv, cMod, List.cons_append, List.nil_append, List.length_cons, List.length_nil, List.getElem?_cons_zero, List.getElem?_cons_succ, List.set_cons_zero, List.set_cons_succ, List.replicate, List.sum_cons, List.sum_nil, List.map_cons, List.map_nil, true_and, Bool.false_eq_true, if_false, if_true]
    rw [List.length_cons] at hl
    refine ⟨by decide, by unfold sizeLine; omega, hN _ ⟨rr ++ [k], .d (.int (0 + (i : Nat))), ?_, by simp; omega⟩⟩
    simp [rowD]
  · rintro ρ ⟨rr, o, rfl, hl⟩
    simp only [wSeq, wNext, wDrop, wRet, wRetO, wIfS, wSet, wSetD, wFrz, wThenFrz, wAsg, wPar, wPar3, wG, wGnil, wGcons, wGtup, wGS, wApp, wExt, wAugMul, wC, wV, wVR, wOp, wNil, wCons, wStar, wTup, wLst, wB, wAnd, wOr, wNot, wAndV, wOrV, wNotV, wIf, wFor, wIL, wIT, wIR1, wIR2, wIZ, wIE, wIRv, wComp, wComp2, wYes, wCall, argF, wNeg, wChain, gAdd, gSub, gInt, gInt0, gFdiv, gMod, gPow, gMul, gCmp, gLt, gLe, gGt, gGe, gEq, gNe, gIs, gIsNot, isNoneD, gIn, gIx, wNoP, wPart, wCut, gIxD, wKD, gInD, wDNew, wDisp, wPairs, w1, w2, gLen, gSum, gExt, gMax2, gMin2, gAbs, gIntC, gListC, gTupC, gBools, wIsi, wIsi2, wRevS, itemsS, intsOf, asD_d, asD_own, asDs, hideS, wipeS, spD, cDiv, cMod, List.cons_append, List.nil_append, List.length_cons, List.length_nil, List.getElem?_cons_zero, List.getElem?_cons_succ, List.set_cons_zero, List.set_cons_succ, List.replicate, List.sum_cons, List.sum_nil, List.map_cons, List.map_nil, true_and, Bool.false_eq_true, if_false, if_true]
    exact h rr (by simpa using hl)
def b_law_span : FS :=
  (wRet (wTup (wCons (wCall φ_law_draw (wCons (wV 0) (wCons (wOp gAdd (wV 1) (wC (.int 1))) wNil))) (wCons (wOp gAdd (wC (.int 1)) (wCall φ_law_draw (wCons (wV 0) (wCons (wV 1) wNil)))) (wCons (wCall φ_law_draw (wCons (wV 0) (wCons (wOp gAdd (wV 1) (wC (.int 1))) wNil))) wNil)))))

def φ_law_span : Phi := fun as Q => ∃ m : Int, as = [.tp, .d (.int m)] ∧ (1 ≤ m ∧ m ≤ 10 ^ 20) ∧ ∀ x : Spn, x.Ok → x.a ≤ m → x.s ≤ m → x.b ≤ m → Q (.d (spD x))
theorem l_law_span : ∀ as Q, φ_law_span as Q → as.length = 2 := by rintro _ Q ⟨x, rfl, _, h⟩; rfl
theorem w_law_span : ∀ as Q, φ_law_span as Q → b_law_span { nx := fun _ => Q (.d .none), rt := fun sv _ => Q sv } (as ++ List.replicate (2 - as.length) .no) := by
  rintro _ Q ⟨m, rfl, ⟨hm, hm2⟩, h⟩
  have h40 : (10 : Int) ^ 20 < 10 ^ 40 - 1 := by decide
  simp only [b_law_span, wSeq, wNext, wDrop, wRet, wRetO, wIfS, wSet, wSetD, wFrz, wThenFrz, wAsg, wPar, wPar3, wG, wGnil, wGcons, wGtup, wGS, wApp, wExt, wAugMul, wC, wV, wVR, wOp, wNil, wCons, wStar, wTup, wLst, wB, wAnd, wOr, wNot, wAndV, wOrV, wNotV, wIf, wFor, wIL, wIT, wIR1, wIR2, wIZ, wIE, wIRv, wComp, wComp2, wYes, wCall, argF, wNeg, wChain, gAdd, gSub, gInt, gInt0, gFdiv, gMod, gPow, gMul, gCmp, gLt, gLe, gGt, gGe, gEq, gNe, gIs, gIsNot, isNoneD, gIn, gIx, wNoP, wPart, wCut, gIxD, wKD, gInD, wDNew, wDisp, wPairs, w1, w2, gLen, gSum, gExt, gMax2, gMin2, gAbs, gIntC, gListC, gTupC, gBools, wIsi, wIsi2, wRevS, itemsS, intsOf, asD_d, asD_own, asDs, hideS, wipeS, spD, cDiv, cMod, List.cons_append, List.nil_append, List.length_cons, List.length_nil, List.getElem?_cons_zero, List.getElem?_cons_succ, List.set_cons_zero, List.set_cons_succ, List.replicate, List.sum_cons, List.sum_nil, List.map_cons, List.map_nil, true_and, Bool.false_eq_true, if_false, if_true]
  refine ⟨m + 1, rfl, ⟨by omega, by omega⟩, fun a a0 a1 => ⟨m, rfl, ⟨by omega, by omega⟩, fun s s0 s1 => ?_⟩⟩
  simp only [wSeq, wNext, wDrop, wRet, wRetO, wIfS, wSet, wSetD, wFrz, wThenFrz, wAsg, wPar, wPar3, wG, wGnil, wGcons, wGtup, wGS, wApp, wExt, wAugMul, wC, wV, wVR, wOp, wNil, wCons, wStar, wTup, wLst, wB, wAnd, wOr, wNot, wAndV, wOrV, wNotV, wIf, wFor, wIL, wIT, wIR1, wIR2, wIZ, wIE, wIRv, wComp, wComp2, wYes, wCall, argF, wNeg, wChain, gAdd, gSub, gInt, gInt0, gFdiv, gMod, gPow, gMul, gCmp, gLt, gLe, gGt, gGe, gEq, gNe, gIs, gIsNot, isNoneD, gIn, gIx, wNoP, wPart, wCut, gIxD, wKD, gInD, wDNew, wDisp, wPairs, w1, w2, gLen, gSum, gExt, gMax2, gMin2, gAbs, gIntC, gListC, gTupC, gBools, wIsi, wIsi2, wRevS, itemsS, intsOf, asD_d, asD_own, asDs, hideS, wipeS, spD, cDiv, cMod, List.cons_append, List.nil_append, List.length_cons, List.length_nil, List.getElem?_cons_zero, List.getElem?_cons_succ, List.set_cons_zero, List.set_cons_succ, List.replicate, List.sum_cons, List.sum_nil, List.map_cons, List.map_nil, true_and, Bool.false_eq_true, if_false, if_true]
  refine ⟨m + 1, rfl, ⟨by omega, by omega⟩, fun b b0 b1 => ?_⟩
  simp only [wSeq, wNext, wDrop, wRet, wRetO, wIfS, wSet, wSetD, wFrz, wThenFrz, wAsg, wPar, wPar3, wG, wGnil, wGcons, wGtup, wGS, wApp, wExt, wAugMul, wC, wV, wVR, wOp, wNil, wCons, wStar, wTup, wLst, wB, wAnd, wOr, wNot, wAndV, wOrV, wNotV, wIf, wFor, wIL, wIT, wIR1, wIR2, wIZ, wIE, wIRv, wComp, wComp2, wYes, wCall, argF, wNeg, wChain, gAdd, gSub, gInt, gInt0, gFdiv, gMod, gPow, gMul, gCmp, gLt, gLe, gGt, gGe, gEq, gNe, gIs, gIsNot, isNoneD, gIn, gIx, wNoP, wPart, wCut, gIxD, wKD, gInD, wDNew, wDisp, wPairs, w1, w2, gLen, gSum, gExt, gMax2, gMin2, gAbs, gIntC, gListC, gTupC, gBools, wIsi, wIsi2, wRevS, itemsS, intsOf, asD_d, asD_own, asDs, hideS, wipeS, spD, cDiv, cMod, List.cons_append, List.nil_append, List.length_cons, List.length_nil, List.getElem?_cons_zero, List.getElem?_cons_succ, List.set_cons_zero, List.set_cons_succ, List.replicate, List.sum_cons, List.sum_nil, List.map_cons, List.map_nil, true_and, Bool.false_eq_true, if_false, if_true]
  exact ⟨by decide, h ⟨a, 1 + s, b⟩ ⟨a0, by simp; omega, b0⟩ (by simp; omega) (by simp; omega) (by simp; omega)⟩
def b_law_place : FS :=
  (wRet (wTup (wCons (wCall φ_law_span (wCons (wV 0) (wCons (wV 1) wNil))) (wCons (wCall φ_law_span (wCons (wV 0) (wCons (wV 1) wNil))) wNil))))

def φ_law_place : Phi := fun as Q => ∃ m : Int, as = [.tp, .d (.int m)] ∧ (1 ≤ m ∧ m ≤ 10 ^ 20) ∧ ∀ x : Spn × Spn, x.1.Ok → x.2.Ok → x.1.w ≤ 3 * m → x.2.w ≤ 3 * m → Q (.d (plD x))
theorem l_law_place : ∀ as Q, φ_law_place as Q → as.length = 2 := by rintro _ Q ⟨x, rfl, _, h⟩; rfl
theorem w_law_place : ∀ as Q, φ_law_place as Q → b_law_place { nx := fun _ => Q (.d .none), rt := fun sv _ => Q sv } (as ++ List.replicate (2 - as.length) .no) := by
  rintro _ Q ⟨m, rfl, hm, h⟩
  simp only [b_law_place, wSeq, wNext, wDrop, wRet, wRetO, wIfS, wSet, wSetD, wFrz, wThenFrz, wAsg, wPar, wPar3, wG, wGnil, wGcons, wGtup, wGS, wApp, wExt, wAugMul, wC, wV, wVR, wOp, wNil, wCons, wStar, wTup, wLst, wB, wAnd, wOr, wNot, wAndV, wOrV, wNotV, wIf, wFor, wIL, wIT, wIR1, wIR2, wIZ, wIE, wIRv, wComp, wComp2, wYes, wCall, argF, wNeg, wChain, gAdd, gSub, gInt, gInt0, gFdiv, gMod, gPow, gMul, gCmp, gLt, gLe, gGt, gGe, gEq, gNe, gIs, gIsNot, isNoneD, gIn, gIx, wNoP, wPart, wCut, gIxD, wKD, gInD, wDNew, wDisp, wPairs, w1, w2, gLen, gSum, gExt, gMax2, gMin2, gAbs, gIntC, gListC, gTupC, gBools, wIsi, wIsi2, wRevS, itemsS, intsOf, asD_d, asD_own, asDs, hideS, wipeS, spD, cDiv, cMod, List.cons_append, List.nil_append, List.length_cons, List.length_nil, List.getElem?_cons_zero, List.getElem?_cons_succ, List.set_cons_zero, List.set_cons_succ, List.replicate, List.sum_cons, List.sum_nil, List.map_cons, List.map_nil, true_and, Bool.false_eq_true, if_false, if_true]
  refine ⟨m, rfl, hm, fun x hx x1 x2 x3 => ⟨m, rfl, hm, fun y hy y1 y2 y3 => ?_⟩⟩
  simp only [wSeq, wNext, wDrop, wRet, wRetO, wIfS, wSet, wSetD, wFrz, wThenFrz, wAsg, wPar, wPar3, wG, wGnil, wGcons, wGtup, wGS, wApp, wExt, wAugMul, wC, wV, wVR, wOp, wNil, wCons, wStar, wTup, wLst, wB, wAnd, wOr, wNot, wAndV, wOrV, wNotV, wIf, wFor, wIL, wIT, wIR1, wIR2, wIZ, wIE, wIRv, wComp, wComp2, wYes, wCall, argF, wNeg, wChain, gAdd, gSub, gInt, gInt0, gFdiv, gMod, gPow, gMul, gCmp, gLt, gLe, gGt, gGe, gEq, gNe, gIs, gIsNot, isNoneD, gIn, gIx, wNoP, wPart, wCut, gIxD, wKD, gInD, wDNew, wDisp, wPairs, w1, w2, gLen, gSum, gExt, gMax2, gMin2, gAbs, gIntC, gListC, gTupC, gBools, wIsi, wIsi2, wRevS, itemsS, intsOf, asD_d, asD_own, asDs, hideS, wipeS, spD, cDiv, cMod, List.cons_append, List.nil_append, List.length_cons, List.length_nil, List.getElem?_cons_zero, List.getElem?_cons_succ, List.set_cons_zero, List.set_cons_succ, List.replicate, List.sum_cons, List.sum_nil, List.map_cons, List.map_nil, true_and, Bool.false_eq_true, if_false, if_true]
  exact ⟨by decide, h (x, y) hx hy (by simp [Spn.w]; omega) (by simp [Spn.w]; omega)⟩
end Z


namespace Z
open PySem PySem.Spec PyProof.Rows L2
def b_law_gone : FS :=
  (wSeq (wIfS (wB (wOp gEq (wV 0) (wC (.str "whole")))) (wRet (wTup (wCons (wC (.int 0)) (wCons (wV 3) wNil)))) wNext) (wSeq (wIfS (wB (wOp gEq (wV 0) (wC (.str "first")))) (wRet (wTup (wCons (wC (.int 0)) (wCons (wOp gSub (wV 3) (wOp gFdiv (wV 3) (wC (.int 2)))) wNil)))) wNext) (wSeq (wIfS (wB (wOp gEq (wV 0) (wC (.str "second")))) (wRet (wTup (wCons (wOp gFdiv (wV 3) (wC (.int 2))) (wCons (wV 3) wNil)))) wNext) (wSeq (wIfS (wB (wOp gEq (wV 0) (wC (.str "center")))) (wSeq (wSetD 4 (wOp gFdiv (wOp gSub (wV 3) (wOp gSub (wV 2) (wV 1))) (wC (.int 2)))) (wRet (wTup (wCons (wV 4) (wCons (wOp gSub (wOp gAdd (wV 4) (wV 2)) (wV 1)) wNil))))) wNext) (wSeq (wIfS (wB (wOp gEq (wV 0) (wC (.str "more")))) (wRet (wIf (wB (wOp gLt (wV 2) (wV 3))) (wTup (wCons (wV 1) (wCons (wOp gAdd (wV 2) (wC (.int 1))) wNil))) (wTup (wCons (w2 gMax2 (wCons (wC (.int 0)) (wCons (wOp gSub (wV 1) (wC (.int 1))) wNil))) (wCons (wV 2) wNil))))) wNext) (wSeq (wIfS (wB (wOp gEq (wV 0) (wC (.str "less")))) (wRet (wTup (wCons (wV 1) (wCons (w2 gMax2 (wCons (wOp gAdd (wV 1) (wC (.int 1))) (wCons (wOp gSub (wV 2) (wC (.int 1))) wNil))) wNil)))) wNext) (wSeq (wIfS (wAnd (wB (wOp gEq (wV 0) (wC (.str "on")))) (wB (wOp gLt (wV 2) (wV 3)))) (wRet (wTup (wCons (wOp gAdd (wV 1) (wC (.int 1))) (wCons (wOp gAdd (wV 2) (wC (.int 1))) wNil)))) wNext) (wRet (wIf (wAnd (wB (wOp gEq (wV 0) (wC (.str "off")))) (wB (wOp gGt (wV 1) (wC (.int 0))))) (wTup (wCons (wOp gSub (wV 1) (wC (.int 1))) (wCons (wOp gSub (wV 2) (wC (.int 1))) wNil))) (wTup (wCons (wV 1) (wCons (wV 2) wNil))))))))))))

def isGo : Mv → Bool
  | .mark | .recall => false
  | _ => true
def goM (x : Spn) (m : Mv) : Spn := if m = .keep then x else movedM x m
def prD (x : Spn) : PyData := .tuple [.int x.a, .int (x.a + x.s)]
def φ_law_gone : Phi := fun as Q => ∃ x m, as = [.d (mvD' m), .d (.int x.a), .d (.int (x.a + x.s)), .d (.int x.w)] ∧ x.Ok ∧ isGo m = true ∧ Q (.d (prD (goM x m)))
theorem l_law_gone : ∀ as Q, φ_law_gone as Q → as.length = 4 := by rintro _ Q ⟨x, m, rfl, _, h⟩; rfl
theorem w_law_gone : ∀ as Q, φ_law_gone as Q → b_law_gone { nx := fun _ => Q (.d .none), rt := fun sv _ => Q sv } (as ++ List.replicate (5 - as.length) .no) := by
  rintro _ Q ⟨x, m, rfl, hx, hm, h⟩
  obtain ⟨hx1, hx2, hx3⟩ := hx
  have ew : x.w = x.a + x.s + x.b := rfl
  have pe : ∀ {a b a' b' : Int}, Q (.d (.tuple [.int a', .int b'])) → a = a' → b = b' → Q (.d (.tuple [.int a, .int b])) := fun q e1 e2 => by rw [e1, e2]; exact q
  simp only [b_law_gone, mvD', eL_whole, eL_first, eL_second, eL_center, eL_more, eL_less, eL_on, eL_off, ok_str, wSeq, wNext, wDrop, wRet, wRetO, wIfS, wSet, wSetD, wFrz, wThenFrz, wAsg, wPar, wPar3, wG, wGnil, wGcons, wGtup, wGS, wApp, wExt, wAugMul, wC, wV, wVR, wOp, wNil, wCons, wStar, wTup, wLst, wB, wAnd, wOr, wNot, wAndV, wOrV, wNotV, wIf, wFor, wIL, wIT, wIR1, wIR2, wIZ, wIE, wIRv, wComp, wComp2, wYes, wCall, argF, wNeg, wChain, gAdd, gSub, gInt, gInt0, gFdiv, gMod, gPow, gMul, gCmp, gLt, gLe, gGt, gGe, gEq, gNe, gIs, gIsNot, isNoneD, gIn, gIx, wNoP, wPart, wCut, gIxD, wKD, gInD, wDNew, wDisp, wPairs, w1, w2, gLen, gSum, gExt, gMax2, gMin2, gAbs, gIntC, gListC, gTupC, gBools, wIsi, wIsi2, wRevS, itemsS, intsOf, asD_d, asD_own, asDs, hideS, wipeS, spD, cDiv, cMod, List.cons_append, List.nil_append, List.length_cons, List.length_nil, List.getElem?_cons_zero, List.getElem?_cons_succ, List.set_cons_zero, List.set_cons_succ, List.replicate, List.sum_cons, List.sum_nil, List.map_cons, List.map_nil, true_and, Bool.false_eq_true, if_false, if_true]
  unfold goM prD at h
  cases m <;> simp only [movedM, halvedM, changedM, decide_true, decide_false, if_true, if_false, Bool.false_eq_true, reduceCtorEq] at h ⊢
  case mark => cases hm
  case recall => cases hm
  all_goals first
    | exact ⟨by decide, pe h (by omega) (by omega)⟩
    | exact ⟨⟨by decide, by decide⟩, by decide, pe h (by omega) (by omega)⟩
    | (refine ⟨by decide, by decide, ?_⟩; exact pe h (by simp; omega) (by simp; omega))
    | skip
  all_goals (try simp only [decide_eq_true_eq])
  all_goals (try simp only [gt_iff_lt] at h)
  all_goals (try simp only [gt_iff_lt])
  all_goals
    by_cases c1 : 0 < x.b <;> by_cases c2 : 0 < x.a <;> by_cases c3 : 1 < x.s <;> simp only [c1, c2, c3, if_true, if_false] at h ⊢ <;> (try split) <;>
      exact ⟨by decide, pe h (by first | omega | (split <;> omega)) (by first | omega | (split <;> omega))⟩
def b_law_trail : FS :=
  (wSeq (wSetD 2 (wOp gAdd (wOp gAdd (wOp gIx (wV 0) (wC (.int 0))) (wOp gIx (wV 0) (wC (.int 1)))) (wOp gIx (wV 0) (wC (.int 2))))) (wSeq (wSetD 3 (wTup (wCons (wOp gIx (wV 0) (wC (.int 0))) (wCons (wOp gAdd (wOp gIx (wV 0) (wC (.int 0))) (wOp gIx (wV 0) (wC (.int 1)))) wNil)))) (wSeq (wPar 4 5 (wCons (wV 3) (wCons (wLst wNil) wNil))) (wSeq (wFor (wIL (wV 1)) (wG 6) (wSeq (wIfS (wB (wOp gEq (wV 6) (wC (.str "mark")))) (wSetD 4 (wV 3)) (wIfS (wB (wOp gEq (wV 6) (wC (.str "recall")))) (wSetD 3 (wV 4)) (wSetD 3 (wCall φ_law_gone (wCons (wV 6) (wCons (wOp gIx (wV 3) (wC (.int 0))) (wCons (wOp gIx (wV 3) (wC (.int 1))) (wCons (wV 2) wNil)))))))) (wApp 5 (wTup (wCons (wOp gIx (wV 3) (wC (.int 0))) (wCons (wOp gSub (wOp gIx (wV 3) (wC (.int 1))) (wOp gIx (wV 3) (wC (.int 0)))) (wCons (wOp gSub (wV 2) (wOp gIx (wV 3) (wC (.int 1)))) wNil))))))) (wRetO 5)))))

def φ_law_trail : Phi := fun as Q => ∃ x ms, as = [.d (spD x), .d (mvsL ms)] ∧ x.Ok ∧ ms.length ≤ 1000 ∧ Q (.own ((trailM (x, x) ms).map spD))
theorem l_law_trail : ∀ as Q, φ_law_trail as Q → as.length = 2 := by rintro _ Q ⟨x, m, rfl, _, h⟩; rfl
theorem w_law_trail : ∀ as Q, φ_law_trail as Q → b_law_trail { nx := fun _ => Q (.d .none), rt := fun sv _ => Q sv } (as ++ List.replicate (7 - as.length) .no) := by
  rintro _ Q ⟨x, ms, rfl, hx, hl, h⟩
  simp only [b_law_trail, mvsL, ix0, ix1, ix2, wSeq, wNext, wDrop, wRet, wRetO, wIfS, wSet, wSetD, wFrz, wThenFrz, wAsg, wPar, wPar3, wG, wGnil, wGcons, wGtup, wGS, wApp, wExt, wAugMul, wC, wV, wVR, wOp, wNil, wCons, wStar, wTup, wLst, wB, wAnd, wOr, wNot, wAndV, wOrV, wNotV, wIf, wFor, wIL, wIT, wIR1, wIR2, wIZ, wIE, wIRv, wComp, wComp2, wYes, wCall, argF, wNeg, wChain, gAdd, gSub, gInt, gInt0, gFdiv, gMod, gPow, gMul, gCmp, gLt, gLe, gGt, gGe, gEq, gNe, gIs, gIsNot, isNoneD, gIn, gIx, wNoP, wPart, wCut, gIxD, wKD, gInD, wDNew, wDisp, wPairs, w1, w2, gLen, gSum, gExt, gMax2, gMin2, gAbs, gIntC, gListC, gTupC, gBools, wIsi, wIsi2, wRevS, itemsS, intsOf, asD_d, asD_own, asDs, hideS, wipeS, spD, cDiv, cMod, List.cons_append, List.nil_append, List.length_cons, List.length_nil, List.getElem?_cons_zero, List.getElem?_cons_succ, List.set_cons_zero, List.set_cons_succ, List.replicate, List.sum_cons, List.sum_nil, List.map_cons, List.map_nil, true_and, Bool.false_eq_true, if_false, if_true]
  refine ⟨by decide, by decide, ?_⟩
  refine forL_inv (I := fun r ρ => ∃ (st : Spn × Spn) (acc : List Spn) (o : SV), ρ = [.d (spD x), .d (mvsL ms), .d (.int x.w), .d (prD st.2), .d (prD st.1), .own (acc.map spD), o] ∧
      (st.1.Ok ∧ st.2.Ok ∧ st.1.w = st.2.w) ∧ st.2.w = x.w ∧ acc ++ trailM st r = trailM (x, x) ms) ⟨(x, x), [], .no, rfl, ⟨hx, hx, rfl⟩, rfl, rfl⟩ ?_ ?_
  · rintro m r ρ hm ⟨st, acc, o, rfl, hst, hw, hacc⟩ N hN
    have hlen : acc.length < sizeLine := by
      have := congrArg List.length hacc
      simp [trailM, trail_len] at this
      have : (2 : Nat) ^ 24 = 16777216 := by decide
      unfold sizeLine; omega
    obtain ⟨k1, k2, k3, k4⟩ := step_ok hst m
    have fin : ∀ (st' : Spn × Spn), stepM st m = st' → N [.d (spD x), .d (mvsL ms), .d (.int x.w), .d (prD st'.2), .d (prD st'.1), .own (acc.map spD ++ [.tuple [.int st'.2.a, .int (st'.2.a + st'.2.s - st'.2.a), .int (x.w - (st'.2.a + st'.2.s))]]), .d (mvD' m)] := fun st' e => by
      subst e
      refine hN _ ⟨stepM st m, acc ++ [(stepM st m).2], .d (mvD' m), ?_, ⟨k1, k2, k3⟩, k4.trans hw, ?_⟩
      · have e1 : (stepM st m).2.a + (stepM st m).2.s - (stepM st m).2.a = (stepM st m).2.s := by omega
        have e2 : x.w - ((stepM st m).2.a + (stepM st m).2.s) = (stepM st m).2.b := by
          have := k4.trans hw
          unfold Spn.w at this ⊢; omega
        rw [e1, e2]
        simp [spD]
      · rw [← hacc, trailM]; simp
    simp only [mvD', mvsL, eL_mark, eL_recall, ok_str, prD, ix0, ix1, List.length_map, wSeq, wNext, wDrop, wRet, wRetO, wIfS, wSet, wSetD, wFrz, wThenFrz, wAsg, wPar, wPar3, wG, wGnil, wGcons, wGtup, wGS, wApp, wExt, wAugMul, wC, wV, wVR, wOp, wNil, wCons, wStar, wTup, wLst, wB, wAnd, wOr, wNot, wAndV, wOrV, wNotV, wIf, wFor, wIL, wIT, wIR1, wIR2, wIZ, wIE, wIRv, wComp, wComp2, wYes, wCall, argF, wNeg, wChain, gAdd, gSub, gInt, gInt0, gFdiv, gMod, gPow, gMul, gCmp, gLt, gLe, gGt, gGe, gEq, gNe, gIs, gIsNot, isNoneD, gIn, gIx, wNoP, wPart, wCut, gIxD, wKD, gInD, wDNew, wDisp, wPairs, w1, w2, gLen, gSum, gExt, gMax2, gMin2, gAbs, gIntC, gListC, gTupC, gBools, wIsi, wIsi2, wRevS, itemsS, intsOf, asD_d, asD_own, asDs, hideS, wipeS, spD, cDiv, cMod, List.cons_append, List.nil_append, List.length_cons, List.length_nil, List.getElem?_cons_zero, List.getElem?_cons_succ, List.set_cons_zero, List.set_cons_succ, List.replicate, List.sum_cons, List.sum_nil, List.map_cons, List.map_nil, true_and, Bool.false_eq_true, if_false, if_true]
    simp only [mvsL, prD, spD, mvD'] at fin
    by_cases c1 : m = .mark
    · subst c1
      simp only [decide_true, if_true, ix0, ix1]
      exact ⟨by decide, hlen, fin (st.2, st.2) rfl⟩
    · simp only [c1, decide_false, Bool.false_eq_true, if_false]
      by_cases c3 : m = .recall
      · subst c3
        simp only [decide_true, if_true, ix0, ix1]
        exact ⟨by decide, hlen, fin (st.1, st.1) rfl⟩
      · simp only [c3, decide_false, Bool.false_eq_true, if_false]
        refine ⟨st.2, m, by rw [hw]; rfl, hst.2.1, by cases m <;> first | rfl | contradiction, ?_⟩
        simp only [prD, ix0, ix1]
        refine ⟨by decide, hlen, fin (st.1, goM st.2 m) ?_⟩
        unfold goM
        cases m <;> first | rfl | contradiction
  · rintro ρ ⟨st, acc, o, rfl, hst, hw, hacc⟩
    simp only [trailM, List.append_nil] at hacc
    subst hacc
    simp only [wSeq, wNext, wDrop, wRet, wRetO, wIfS, wSet, wSetD, wFrz, wThenFrz, wAsg, wPar, wPar3, wG, wGnil, wGcons, wGtup, wGS, wApp, wExt, wAugMul, wC, wV, wVR, wOp, wNil, wCons, wStar, wTup, wLst, wB, wAnd, wOr, wNot, wAndV, wOrV, wNotV, wIf, wFor, wIL, wIT, wIR1, wIR2, wIZ, wIE, wIRv, wComp, wComp2, wYes, wCall, argF, wNeg, wChain, gAdd, gSub, gInt, gInt0, gFdiv, gMod, gPow, gMul, gCmp, gLt, gLe, gGt, gGe, gEq, gNe, gIs, gIsNot, isNoneD, gIn, gIx, wNoP, wPart, wCut, gIxD, wKD, gInD, wDNew, wDisp, wPairs, w1, w2, gLen, gSum, gExt, gMax2, gMin2, gAbs, gIntC, gListC, gTupC, gBools, wIsi, wIsi2, wRevS, itemsS, intsOf, asD_d, asD_own, asDs, hideS, wipeS, spD, cDiv, cMod, List.cons_append, List.nil_append, List.length_cons, List.length_nil, List.getElem?_cons_zero, List.getElem?_cons_succ, List.set_cons_zero, List.set_cons_succ, List.replicate, List.sum_cons, List.sum_nil, List.map_cons, List.map_nil, true_and, Bool.false_eq_true, if_false, if_true]
    exact h
def b_law_end : FS :=
  (wRet (wOp gIx (wOp gAdd (wLst (wCons (wV 0) wNil)) (wCall φ_law_trail (wCons (wV 0) (wCons (wV 1) wNil)))) (wNeg (wC (.int 1)))))

def φ_law_end : Phi := fun as Q => ∃ x ms, as = [.d (spD x), .d (mvsL ms)] ∧ x.Ok ∧ ms.length ≤ 1000 ∧ Q (.d (spD (endM x ms)))
theorem l_law_end : ∀ as Q, φ_law_end as Q → as.length = 2 := by rintro _ Q ⟨x, m, rfl, _, h⟩; rfl
theorem w_law_end : ∀ as Q, φ_law_end as Q → b_law_end { nx := fun _ => Q (.d .none), rt := fun sv _ => Q sv } (as ++ List.replicate (2 - as.length) .no) := by
  rintro _ Q ⟨x, ms, rfl, hx, hl, h⟩
  have hsz : (2 : Nat) ^ 24 = 16777216 := by decide
  simp only [b_law_end, mvsL, wSeq, wNext, wDrop, wRet, wRetO, wIfS, wSet, wSetD, wFrz, wThenFrz, wAsg, wPar, wPar3, wG, wGnil, wGcons, wGtup, wGS, wApp, wExt, wAugMul, wC, wV, wVR, wOp, wNil, wCons, wStar, wTup, wLst, wB, wAnd, wOr, wNot, wAndV, wOrV, wNotV, wIf, wFor, wIL, wIT, wIR1, wIR2, wIZ, wIE, wIRv, wComp, wComp2, wYes, wCall, argF, wNeg, wChain, gAdd, gSub, gInt, gInt0, gFdiv, gMod, gPow, gMul, gCmp, gLt, gLe, gGt, gGe, gEq, gNe, gIs, gIsNot, isNoneD, gIn, gIx, wNoP, wPart, wCut, gIxD, wKD, gInD, wDNew, wDisp, wPairs, w1, w2, gLen, gSum, gExt, gMax2, gMin2, gAbs, gIntC, gListC, gTupC, gBools, wIsi, wIsi2, wRevS, itemsS, intsOf, asD_d, asD_own, asDs, hideS, wipeS, spD, cDiv, cMod, List.cons_append, List.nil_append, List.length_cons, List.length_nil, List.getElem?_cons_zero, List.getElem?_cons_succ, List.set_cons_zero, List.set_cons_succ, List.replicate, List.sum_cons, List.sum_nil, List.map_cons, List.map_nil, true_and, Bool.false_eq_true, if_false, if_true]
  refine ⟨by decide, x, ms, rfl, hx, hl, ?_⟩
  have hat : atI ((x :: trailM (x, x) ms).map spD) (-1) = some (spD (endM x ms)) := atI_last (by rw [List.getLast?_map, trail_last ms (x, x) x rfl]; rfl)
  simp only [List.map_cons, spD] at hat
  simp only [hat, List.length_map, trail_len, spD, wSeq, wNext, wDrop, wRet, wRetO, wIfS, wSet, wSetD, wFrz, wThenFrz, wAsg, wPar, wPar3, wG, wGnil, wGcons, wGtup, wGS, wApp, wExt, wAugMul, wC, wV, wVR, wOp, wNil, wCons, wStar, wTup, wLst, wB, wAnd, wOr, wNot, wAndV, wOrV, wNotV, wIf, wFor, wIL, wIT, wIR1, wIR2, wIZ, wIE, wIRv, wComp, wComp2, wYes, wCall, argF, wNeg, wChain, gAdd, gSub, gInt, gInt0, gFdiv, gMod, gPow, gMul, gCmp, gLt, gLe, gGt, gGe, gEq, gNe, gIs, gIsNot, isNoneD, gIn, gIx, wNoP, wPart, wCut, gIxD, wKD, gInD, wDNew, wDisp, wPairs, w1, w2, gLen, gSum, gExt, gMax2, gMin2, gAbs, gIntC, gListC, gTupC, gBools, wIsi, wIsi2, wRevS, itemsS, intsOf, asD_d, asD_own, asDs, hideS, wipeS, spD, cDiv, cMod, List.cons_append, List.nil_append, List.length_cons, List.length_nil, List.getElem?_cons_zero, List.getElem?_cons_succ, List.set_cons_zero, List.set_cons_succ, List.replicate, List.sum_cons, List.sum_nil, List.map_cons, List.map_nil, true_and, Bool.false_eq_true, if_false, if_true]
  refine ⟨by unfold sizeLine; omega, ?_⟩
  simpa only [spD] using h
def b_law_moves : FS :=
  (wRet (wComp (wIT (wV 0)) (wG 2) wYes (wOp gIx (wOp gIxD (wCall φ_law_both wNil) (wV 2)) (wV 1)) [2]))

def φ_law_moves : Phi := fun as Q => ∃ r t, as = [.d (rowD r), .d (.int (tI t))] ∧ r.length ≤ 1000 ∧ Q (.own ((rawM r t).map mvD'))
theorem l_law_moves : ∀ as Q, φ_law_moves as Q → as.length = 2 := by rintro _ Q ⟨x, m, rfl, _, h⟩; rfl
theorem w_law_moves : ∀ as Q, φ_law_moves as Q → b_law_moves { nx := fun _ => Q (.d .none), rt := fun sv _ => Q sv } (as ++ List.replicate (3 - as.length) .no) := by
  rintro _ Q ⟨r, t, rfl, hl, h⟩
  have hsz : (2 : Nat) ^ 24 = 16777216 := by decide
  simp only [b_law_moves, rowD, List.length_map, wSeq, wNext, wDrop, wRet, wRetO, wIfS, wSet, wSetD, wFrz, wThenFrz, wAsg, wPar, wPar3, wG, wGnil, wGcons, wGtup, wGS, wApp, wExt, wAugMul, wC, wV, wVR, wOp, wNil, wCons, wStar, wTup, wLst, wB, wAnd, wOr, wNot, wAndV, wOrV, wNotV, wIf, wFor, wIL, wIT, wIR1, wIR2, wIZ, wIE, wIRv, wComp, wComp2, wYes, wCall, argF, wNeg, wChain, gAdd, gSub, gInt, gInt0, gFdiv, gMod, gPow, gMul, gCmp, gLt, gLe, gGt, gGe, gEq, gNe, gIs, gIsNot, isNoneD, gIn, gIx, wNoP, wPart, wCut, gIxD, wKD, gInD, wDNew, wDisp, wPairs, w1, w2, gLen, gSum, gExt, gMax2, gMin2, gAbs, gIntC, gListC, gTupC, gBools, wIsi, wIsi2, wRevS, itemsS, intsOf, asD_d, asD_own, asDs, hideS, wipeS, spD, cDiv, cMod, List.cons_append, List.nil_append, List.length_cons, List.length_nil, List.getElem?_cons_zero, List.getElem?_cons_succ, List.set_cons_zero, List.set_cons_succ, List.replicate, List.sum_cons, List.sum_nil, List.map_cons, List.map_nil, true_and, Bool.false_eq_true, if_false, if_true]
  refine ⟨by unfold sizeLine; omega, compL_map (out := fun k => mvD' (mvA k t)) (fun k hk R hR => ?_) ?_⟩
  · simp only [wSeq, wNext, wDrop, wRet, wRetO, wIfS, wSet, wSetD, wFrz, wThenFrz, wAsg, wPar, wPar3, wG, wGnil, wGcons, wGtup, wGS, wApp, wExt, wAugMul, wC, wV, wVR, wOp, wNil, wCons, wStar, wTup, wLst, wB, wAnd, wOr, wNot, wAndV, wOrV, wNotV, wIf, wFor, wIL, wIT, wIR1, wIR2, wIZ, wIE, wIRv, wComp, wComp2, wYes, wCall, argF, wNeg, wChain, gAdd, gSub, gInt, gInt0, gFdiv, gMod, gPow, gMul, gCmp, gLt, gLe, gGt, gGe, gEq, gNe, gIs, gIsNot, isNoneD, gIn, gIx, wNoP, wPart, wCut, gIxD, wKD, gInD, wDNew, wDisp, wPairs, w1, w2, gLen, gSum, gExt, gMax2, gMin2, gAbs, gIntC, gListC, gTupC, gBools, wIsi, wIsi2, wRevS, itemsS, intsOf, asD_d, asD_own, asDs, hideS, wipeS, spD, cDiv, cMod, List.cons_append, List.nil_append, List.length_cons, List.length_nil, List.getElem?_cons_zero, List.getElem?_cons_succ, List.set_cons_zero, List.set_cons_succ, List.replicate, List.sum_cons, List.sum_nil, List.map_cons, List.map_nil, true_and, Bool.false_eq_true, if_false, if_true]
    refine ⟨rfl, ?_⟩
    simp only [get_both, at_pair, wSeq, wNext, wDrop, wRet, wRetO, wIfS, wSet, wSetD, wFrz, wThenFrz, wAsg, wPar, wPar3, wG, wGnil, wGcons, wGtup, wGS, wApp, wExt, wAugMul, wC, wV, wVR, wOp, wNil, wCons, wStar, wTup, wLst, wB, wAnd, wOr, wNot, wAndV, wOrV, wNotV, wIf, wFor, wIL, wIT, wIR1, wIR2, wIZ, wIE, wIRv, wComp, wComp2, wYes, wCall, argF, wNeg, wChain, gAdd, gSub, gInt, gInt0, gFdiv, gMod, gPow, gMul, gCmp, gLt, gLe, gGt, gGe, gEq, gNe, gIs, gIsNot, isNoneD, gIn, gIx, wNoP, wPart, wCut, gIxD, wKD, gInD, wDNew, wDisp, wPairs, w1, w2, gLen, gSum, gExt, gMax2, gMin2, gAbs, gIntC, gListC, gTupC, gBools, wIsi, wIsi2, wRevS, itemsS, intsOf, asD_d, asD_own, asDs, hideS, wipeS, spD, cDiv, cMod, List.cons_append, List.nil_append, List.length_cons, List.length_nil, List.getElem?_cons_zero, List.getElem?_cons_succ, List.set_cons_zero, List.set_cons_succ, List.replicate, List.sum_cons, List.sum_nil, List.map_cons, List.map_nil, true_and, Bool.false_eq_true, if_false, if_true]
    refine ⟨rfl, ?_⟩
    cases t <;> exact hR
  simpa [rawM, Function.comp_def] using h
def b_law_led : FS :=
  (wRet (wTup (wCons (wCall φ_law_end (wCons (wOp gIx (wV 0) (wC (.int 0))) (wCons (wCall φ_law_moves (wCons (wV 1) (wCons (wC (.int 0)) wNil))) wNil))) (wCons (wCall φ_law_end (wCons (wOp gIx (wV 0) (wC (.int 1))) (wCons (wCall φ_law_moves (wCons (wV 1) (wCons (wC (.int 1)) wNil))) wNil))) wNil))))

def ledM (p : Spn × Spn) (r : List Ky) : Spn × Spn := (endM p.1 (rawM r false), endM p.2 (rawM r true))
def φ_law_led : Phi := fun as Q => ∃ p r, as = [.d (plD p), .d (rowD r)] ∧ (p.1.Ok ∧ p.2.Ok) ∧ r.length ≤ 1000 ∧ Q (.d (plD (ledM p r)))
theorem l_law_led : ∀ as Q, φ_law_led as Q → as.length = 2 := by rintro _ Q ⟨x, m, rfl, _, h⟩; rfl
theorem raw_len (r : List Ky) (t : Bool) : (rawM r t).length = r.length := by simp [rawM]
theorem w_law_led : ∀ as Q, φ_law_led as Q → b_law_led { nx := fun _ => Q (.d .none), rt := fun sv _ => Q sv } (as ++ List.replicate (2 - as.length) .no) := by
  rintro _ Q ⟨p, r, rfl, hp, hl, h⟩
  simp only [b_law_led, plD, ix0, ix1, wSeq, wNext, wDrop, wRet, wRetO, wIfS, wSet, wSetD, wFrz, wThenFrz, wAsg, wPar, wPar3, wG, wGnil, wGcons, wGtup, wGS, wApp, wExt, wAugMul, wC, wV, wVR, wOp, wNil, wCons, wStar, wTup, wLst, wB, wAnd, wOr, wNot, wAndV, wOrV, wNotV, wIf, wFor, wIL, wIT, wIR1, wIR2, wIZ, wIE, wIRv, wComp, wComp2, wYes, wCall, argF, wNeg, wChain, gAdd, gSub, gInt, gInt0, gFdiv, gMod, gPow, gMul, gCmp, gLt, gLe, gGt, gGe, gEq, gNe, gIs, gIsNot, isNoneD, gIn, gIx, wNoP, wPart, wCut, gIxD, wKD, gInD, wDNew, wDisp, wPairs, w1, w2, gLen, gSum, gExt, gMax2, gMin2, gAbs, gIntC, gListC, gTupC, gBools, wIsi, wIsi2, wRevS, itemsS, intsOf, asD_d, asD_own, asDs, hideS, wipeS, spD, cDiv, cMod, List.cons_append, List.nil_append, List.length_cons, List.length_nil, List.getElem?_cons_zero, List.getElem?_cons_succ, List.set_cons_zero, List.set_cons_succ, List.replicate, List.sum_cons, List.sum_nil, List.map_cons, List.map_nil, true_and, Bool.false_eq_true, if_false, if_true]
  refine ⟨r, false, rfl, hl, ?_⟩
  simp only [wSeq, wNext, wDrop, wRet, wRetO, wIfS, wSet, wSetD, wFrz, wThenFrz, wAsg, wPar, wPar3, wG, wGnil, wGcons, wGtup, wGS, wApp, wExt, wAugMul, wC, wV, wVR, wOp, wNil, wCons, wStar, wTup, wLst, wB, wAnd, wOr, wNot, wAndV, wOrV, wNotV, wIf, wFor, wIL, wIT, wIR1, wIR2, wIZ, wIE, wIRv, wComp, wComp2, wYes, wCall, argF, wNeg, wChain, gAdd, gSub, gInt, gInt0, gFdiv, gMod, gPow, gMul, gCmp, gLt, gLe, gGt, gGe, gEq, gNe, gIs, gIsNot, isNoneD, gIn, gIx, wNoP, wPart, wCut, gIxD, wKD, gInD, wDNew, wDisp, wPairs, w1, w2, gLen, gSum, gExt, gMax2, gMin2, gAbs, gIntC, gListC, gTupC, gBools, wIsi, wIsi2, wRevS, itemsS, intsOf, asD_d, asD_own, asDs, hideS, wipeS, spD, cDiv, cMod, List.cons_append, List.nil_append, List.length_cons, List.length_nil, List.getElem?_cons_zero, List.getElem?_cons_succ, List.set_cons_zero, List.set_cons_succ, List.replicate, List.sum_cons, List.sum_nil, List.map_cons, List.map_nil, true_and, Bool.false_eq_true, if_false, if_true]
  refine ⟨p.1, rawM r false, rfl, hp.1, by rw [raw_len]; exact hl, ?_⟩
  refine ⟨r, true, rfl, hl, ?_⟩
  simp only [wSeq, wNext, wDrop, wRet, wRetO, wIfS, wSet, wSetD, wFrz, wThenFrz, wAsg, wPar, wPar3, wG, wGnil, wGcons, wGtup, wGS, wApp, wExt, wAugMul, wC, wV, wVR, wOp, wNil, wCons, wStar, wTup, wLst, wB, wAnd, wOr, wNot, wAndV, wOrV, wNotV, wIf, wFor, wIL, wIT, wIR1, wIR2, wIZ, wIE, wIRv, wComp, wComp2, wYes, wCall, argF, wNeg, wChain, gAdd, gSub, gInt, gInt0, gFdiv, gMod, gPow, gMul, gCmp, gLt, gLe, gGt, gGe, gEq, gNe, gIs, gIsNot, isNoneD, gIn, gIx, wNoP, wPart, wCut, gIxD, wKD, gInD, wDNew, wDisp, wPairs, w1, w2, gLen, gSum, gExt, gMax2, gMin2, gAbs, gIntC, gListC, gTupC, gBools, wIsi, wIsi2, wRevS, itemsS, intsOf, asD_d, asD_own, asDs, hideS, wipeS, spD, cDiv, cMod, List.cons_append, List.nil_append, List.length_cons, List.length_nil, List.getElem?_cons_zero, List.getElem?_cons_succ, List.set_cons_zero, List.set_cons_succ, List.replicate, List.sum_cons, List.sum_nil, List.map_cons, List.map_nil, true_and, Bool.false_eq_true, if_false, if_true]
  refine ⟨p.2, rawM r true, rfl, hp.2, by rw [raw_len]; exact hl, ?_⟩
  simp only [wSeq, wNext, wDrop, wRet, wRetO, wIfS, wSet, wSetD, wFrz, wThenFrz, wAsg, wPar, wPar3, wG, wGnil, wGcons, wGtup, wGS, wApp, wExt, wAugMul, wC, wV, wVR, wOp, wNil, wCons, wStar, wTup, wLst, wB, wAnd, wOr, wNot, wAndV, wOrV, wNotV, wIf, wFor, wIL, wIT, wIR1, wIR2, wIZ, wIE, wIRv, wComp, wComp2, wYes, wCall, argF, wNeg, wChain, gAdd, gSub, gInt, gInt0, gFdiv, gMod, gPow, gMul, gCmp, gLt, gLe, gGt, gGe, gEq, gNe, gIs, gIsNot, isNoneD, gIn, gIx, wNoP, wPart, wCut, gIxD, wKD, gInD, wDNew, wDisp, wPairs, w1, w2, gLen, gSum, gExt, gMax2, gMin2, gAbs, gIntC, gListC, gTupC, gBools, wIsi, wIsi2, wRevS, itemsS, intsOf, asD_d, asD_own, asDs, hideS, wipeS, spD, cDiv, cMod, List.cons_append, List.nil_append, List.length_cons, List.length_nil, List.getElem?_cons_zero, List.getElem?_cons_succ, List.set_cons_zero, List.set_cons_succ, List.replicate, List.sum_cons, List.sum_nil, List.map_cons, List.map_nil, true_and, Bool.false_eq_true, if_false, if_true]
  exact ⟨by decide, h⟩
def b_law_spans : FS :=
  (wSeq (wSetD 1 (wLst wNil)) (wSeq (wFor (wIR1 (wCons (wV 0) wNil)) (wG 2) (wSetD 1 (wOp gAdd (wV 1) (wComp (wIR2 (wCons (wC (.int 1)) (wCons (wOp gAdd (wOp gSub (wV 0) (wV 2)) (wC (.int 1))) wNil))) (wG 3) wYes (wTup (wCons (wV 2) (wCons (wV 3) (wCons (wOp gSub (wOp gSub (wV 0) (wV 2)) (wV 3)) wNil)))) [3])))) (wRet (wV 1))))

def φ_law_spans : Phi := fun as Q => ∃ n : Nat, as = [.d (.int n)] ∧ n ≤ 1000 ∧ Q (.d (.list ((spansM n).map spD)))
theorem l_law_spans : ∀ as Q, φ_law_spans as Q → as.length = 1 := by rintro _ Q ⟨x, rfl, _, h⟩; rfl
def rowM (n a : Nat) : List Spn := (List.range (n - a)).map fun (i : Nat) => (⟨a, 1 + i, n - a - (1 + i)⟩ : Spn)
theorem w_law_spans : ∀ as Q, φ_law_spans as Q → b_law_spans { nx := fun _ => Q (.d .none), rt := fun sv _ => Q sv } (as ++ List.replicate (4 - as.length) .no) := by
  rintro _ Q ⟨n, rfl, hn, h⟩
  have hsz : (2 : Nat) ^ 24 = 16777216 := by decide
  have h62 : (2 : Int) ^ 62 = 4611686018427387904 := by decide
  simp only [b_law_spans, wSeq, wNext, wDrop, wRet, wRetO, wIfS, wSet, wSetD, wFrz, wThenFrz, wAsg, wPar, wPar3, wG, wGnil, wGcons, wGtup, wGS, wApp, wExt, wAugMul, wC, wV, wVR, wOp, wNil, wCons, wStar, wTup, wLst, wB, wAnd, wOr, wNot, wAndV, wOrV, wNotV, wIf, wFor, wIL, wIT, wIR1, wIR2, wIZ, wIE, wIRv, wComp, wComp2, wYes, wCall, argF, wNeg, wChain, gAdd, gSub, gInt, gInt0, gFdiv, gMod, gPow, gMul, gCmp, gLt, gLe, gGt, gGe, gEq, gNe, gIs, gIsNot, isNoneD, gIn, gIx, wNoP, wPart, wCut, gIxD, wKD, gInD, wDNew, wDisp, wPairs, w1, w2, gLen, gSum, gExt, gMax2, gMin2, gAbs, gIntC, gListC, gTupC, gBools, wIsi, wIsi2, wRevS, itemsS, intsOf, asD_d, asD_own, asDs, hideS, wipeS, spD, cDiv, cMod, List.cons_append, List.nil_append, List.length_cons, List.length_nil, List.getElem?_cons_zero, List.getElem?_cons_succ, List.set_cons_zero, List.set_cons_succ, List.replicate, List.sum_cons, List.sum_nil, List.map_cons, List.map_nil, true_and, Bool.false_eq_true, if_false, if_true]
  refine ⟨by decide, by omega, ?_⟩
  have e0 : ((n : Int)).toNat = n := Int.toNat_natCast n
  rw [e0]
  have tot := spans_len n
  have h2 : n * n ≤ 1000 * 1000 := Nat.mul_le_mul hn hn
  refine forL_inv (I := fun r ρ => ∃ (acc : List Spn) (o : SV), ρ = [.d (.int n), .d (.list (acc.map spD)), o, .no] ∧ acc ++ r.flatMap (rowM n) = spansM n) ⟨[], .no, rfl, rfl⟩ ?_ ?_
  · rintro a r ρ ha ⟨acc, o, rfl, hacc⟩ N hN
    have hlt := List.mem_range.mp ha
    simp only [wSeq, wNext, wDrop, wRet, wRetO, wIfS, wSet, wSetD, wFrz, wThenFrz, wAsg, wPar, wPar3, wG, wGnil, wGcons, wGtup, wGS, wApp, wExt, wAugMul, wC, wV, wVR, wOp, wNil, wCons, wStar, wTup, wLst, wB, wAnd, wOr, wNot, wAndV, wOrV, wNotV, wIf, wFor, wIL, wIT, wIR1, wIR2, wIZ, wIE, wIRv, wComp, wComp2, wYes, wCall, argF, wNeg, wChain, gAdd, gSub, gInt, gInt0, gFdiv, gMod, gPow, gMul, gCmp, gLt, gLe, gGt, gGe, gEq, gNe, gIs, gIsNot, isNoneD, gIn, gIx, wNoP, wPart, wCut, gIxD, wKD, gInD, wDNew, wDisp, wPairs, w1, w2, gLen, gSum, gExt, gMax2, gMin2, gAbs, gIntC, gListC, gTupC, gBools, wIsi, wIsi2, wRevS, itemsS, intsOf, asD_d, asD_own, asDs, hideS, wipeS, spD, cDiv, cMod, List.cons_append, List.nil_append, List.length_cons, List.length_nil, List.getElem?_cons_zero, List.getElem?_cons_succ, List.set_cons_zero, List.set_cons_succ, List.replicate, List.sum_cons, List.sum_nil, List.map_cons, List.map_nil, true_and, Bool.false_eq_true, if_false, if_true]
    refine ⟨by omega, ?_⟩
    have e1 : ((n : Int) - (0 + (a : Nat)) + 1 - 1).toNat = n - a := by omega
    rw [e1]
    have hlen := congrArg List.length hacc
    rw [List.flatMap_cons, List.length_append, List.length_append] at hlen
    refine ⟨by simp [rngD_len]; unfold sizeLine; omega, ?_⟩
    refine compL_map (out := fun (i : Nat) => spD ⟨a, 1 + i, n - a - (1 + i)⟩) (fun i hi R hR => ?_) ?_
    · simp only [wSeq, wNext, wDrop, wRet, wRetO, wIfS, wSet, wSetD, wFrz, wThenFrz, wAsg, wPar, wPar3, wG, wGnil, wGcons, wGtup, wGS, wApp, wExt, wAugMul, wC, wV, wVR, wOp, wNil, wCons, wStar, wTup, wLst, wB, wAnd, wOr, wNot, wAndV, wOrV, wNotV, wIf, wFor, wIL, wIT, wIR1, wIR2, wIZ, wIE, wIRv, wComp, wComp2, wYes, wCall, argF, wNeg, wChain, gAdd, gSub, gInt, gInt0, gFdiv, gMod, gPow, gMul, gCmp, gLt, gLe, gGt, gGe, gEq, gNe, gIs, gIsNot, isNoneD, gIn, gIx, wNoP, wPart, wCut, gIxD, wKD, gInD, wDNew, wDisp, wPairs, w1, w2, gLen, gSum, gExt, gMax2, gMin2, gAbs, gIntC, gListC, gTupC, gBools, wIsi, wIsi2, wRevS, itemsS, intsOf, asD_d, asD_own, asDs, hideS, wipeS, spD, cDiv, cMod, List.cons_append, List.nil_append, List.length_cons, List.length_nil, List.getElem?_cons_zero, List.getElem?_cons_succ, List.set_cons_zero, List.set_cons_succ, List.replicate, List.sum_cons, List.sum_nil, List.map_cons, List.map_nil, true_and, Bool.false_eq_true, if_false, if_true]
      refine ⟨by decide, ?_⟩
      rw [Int.zero_add]
      exact hR
    · have e2 : ((List.range (n - a)).map fun (i : Nat) => spD ⟨a, 1 + i, n - a - (1 + i)⟩) = (rowM n a).map spD := by simp [rowM, Function.comp_def]
      rw [e2]
      simp only [List.length_map, wSeq, wNext, wDrop, wRet, wRetO, wIfS, wSet, wSetD, wFrz, wThenFrz, wAsg, wPar, wPar3, wG, wGnil, wGcons, wGtup, wGS, wApp, wExt, wAugMul, wC, wV, wVR, wOp, wNil, wCons, wStar, wTup, wLst, wB, wAnd, wOr, wNot, wAndV, wOrV, wNotV, wIf, wFor, wIL, wIT, wIR1, wIR2, wIZ, wIE, wIRv, wComp, wComp2, wYes, wCall, argF, wNeg, wChain, gAdd, gSub, gInt, gInt0, gFdiv, gMod, gPow, gMul, gCmp, gLt, gLe, gGt, gGe, gEq, gNe, gIs, gIsNot, isNoneD, gIn, gIx, wNoP, wPart, wCut, gIxD, wKD, gInD, wDNew, wDisp, wPairs, w1, w2, gLen, gSum, gExt, gMax2, gMin2, gAbs, gIntC, gListC, gTupC, gBools, wIsi, wIsi2, wRevS, itemsS, intsOf, asD_d, asD_own, asDs, hideS, wipeS, spD, cDiv, cMod, List.cons_append, List.nil_append, List.length_cons, List.length_nil, List.getElem?_cons_zero, List.getElem?_cons_succ, List.set_cons_zero, List.set_cons_succ, List.replicate, List.sum_cons, List.sum_nil, List.map_cons, List.map_nil, true_and, Bool.false_eq_true, if_false, if_true]
      refine ⟨by unfold sizeLine; omega, hN _ ⟨acc ++ rowM n a, .d (.int (0 + (a : Nat))), by simp, ?_⟩⟩
      rw [← hacc]; simp
  · rintro ρ ⟨acc, o, rfl, hacc⟩
    simp only [List.flatMap_nil, List.append_nil] at hacc
    subst hacc
    simp only [wSeq, wNext, wDrop, wRet, wRetO, wIfS, wSet, wSetD, wFrz, wThenFrz, wAsg, wPar, wPar3, wG, wGnil, wGcons, wGtup, wGS, wApp, wExt, wAugMul, wC, wV, wVR, wOp, wNil, wCons, wStar, wTup, wLst, wB, wAnd, wOr, wNot, wAndV, wOrV, wNotV, wIf, wFor, wIL, wIT, wIR1, wIR2, wIZ, wIE, wIRv, wComp, wComp2, wYes, wCall, argF, wNeg, wChain, gAdd, gSub, gInt, gInt0, gFdiv, gMod, gPow, gMul, gCmp, gLt, gLe, gGt, gGe, gEq, gNe, gIs, gIsNot, isNoneD, gIn, gIx, wNoP, wPart, wCut, gIxD, wKD, gInD, wDNew, wDisp, wPairs, w1, w2, gLen, gSum, gExt, gMax2, gMin2, gAbs, gIntC, gListC, gTupC, gBools, wIsi, wIsi2, wRevS, itemsS, intsOf, asD_d, asD_own, asDs, hideS, wipeS, spD, cDiv, cMod, List.cons_append, List.nil_append, List.length_cons, List.length_nil, List.getElem?_cons_zero, List.getElem?_cons_succ, List.set_cons_zero, List.set_cons_succ, List.replicate, List.sum_cons, List.sum_nil, List.map_cons, List.map_nil, true_and, Bool.false_eq_true, if_false, if_true]
    exact h
end Z


/-! the facts of the top; alike -/
namespace Z
open PySem PySem.Spec PyProof.Rows L2
def strs2 (its : Array Value) : Option (Str × Str) := match its.toList with
  | [.str a _, .str b _] => some (a, b)
  | _ => none
def Km (K : PySem.W.Frag) (d : Addr) (kvs : List (PyData × PyData)) : Prop := ∀ kv ∈ kvs, ∃ (k : Str) (u : Value) (v : V), kv.1 = .str k ∧ PySem.W.nsIn K d k = some (some u) ∧ RelV v u ∧ ∀ G, Dp K G v kv.2
section
variable {K : PySem.W.Frag} {w : World} {P : Program} {d : Addr} {h : Heap} {mg : Str → Option Value} {base : Heap}
theorem kmap_nil : Km K d [] := fun kv h => by cases h
theorem strs2_eq {its : Array Value} {a b : Str} (h : strs2 its = some (a, b)) : ∃ t1 t2, its.toList = [.str a t1, .str b t2] := by
  unfold strs2 at h
  split at h
  · rename_i x t1 y t2 e
    cases h
    exact ⟨t1, t2, e⟩
  · cases h
theorem kmap_cons {t : Addr} {od : Option Addr} {sl : Array (Option Value)} {its : Array Value} {n : Nat} {k a b : Str} {kvs : List (PyData × PyData)} (r : PySem.W.nsIn K d k = some (some (.ref t))) (u : K.lookup t = some ⟨.type "tuple", od, .seq its n, sl⟩) (v : strs2 its = some (a, b)) (tl : Km K d kvs) :
    Km K d ((.str k, .tuple [.str a, .str b]) :: kvs) := by
  intro kv hkv
  rcases List.mem_cons.mp hkv with e | hkv
  · subst e
    obtain ⟨t1, t2, e⟩ := strs2_eq v
    refine ⟨k, _, .ref t, rfl, r, rfl, fun G => .tup (xs := [.str a, .str b]) (.inr ⟨_, its, n, u, rfl, rfl, ?_, ?_⟩) (.cons (.str a) (.cons (.str b) .nil))⟩
    · rw [← Array.length_toList, e]; exact (by decide : 2 ≤ sizeLine)
    · rw [e]; exact .cons ⟨t1, rfl⟩ (.cons ⟨t2, rfl⟩ .nil)
  · exact tl kv hkv
theorem kmap_of {kvs : List (PyData × PyData)} {es : Array DictEntry} {n : Nat} (h1 : K.lookup d = some ⟨.type "dict", none, .dict es n, #[]⟩) (h2 : PySem.W.KeysLit w.params es.toList) (km : Km K d kvs) : KMap ⟨K, P, w⟩ d kvs := by
  refine ⟨fun z x hx => ?_⟩
  unfold getD at hx
  cases e : kvs.find? fun kv => PyData.eqv kv.1 (.str z) with
  | none => rw [e] at hx; cases hx
  | some kv =>
    rw [e] at hx
    cases hx
    obtain ⟨k, u, v, ek, hn, hr, hdp⟩ := km kv (List.mem_of_find?_eq_some e)
    have := List.find?_some e
    rw [ek, eqv_str] at this
    have ekz : k = z := eq_of_beq this
    subst ekz
    exact ⟨v, ⟨es, n, u, h1, h2, hn, hr⟩, hdp⟩
theorem def_mk {x : Str} {st : Stmt} {f : Addr} {oc : Value} {od an : Option Addr} {osl : Array (Option Value)} {kV doc pm cdv ct : Value} (X : K.In h) (G : h.Ns mainGlobals mg) (a : PySem.W.nsIn K mainGlobals x = some (some (.ref f)))
    (l : K.lookup f = some ⟨oc, od, .func (PySem.W.fnOf x x (C8.fnArgs st) (C8.fnBody st) (C8.fnScope st) .none kV doc pm an cdv ct), osl⟩) (c : PySem.W.codeIn K cdv x = true) (k : PySem.W.keepIn K (.ref f) = true) :
    C8.Def K mg x st f (PySem.W.fnOf x x (C8.fnArgs st) (C8.fnBody st) (C8.fnScope st) .none kV doc pm an cdv ct) :=
  ⟨⟨oc, od, .none, kV, doc, pm, an, cdv, ct, osl, rfl, l, c⟩, PySem.W.mg_of X G a, k⟩
def φno : Phi := fun _ _ => False
theorem cal_false {x : Str} {st : Stmt} {f : Addr} {fd : FuncData} {N ps : List Str} (F : C8.Def K mg x st f fd) (bn : Binds K fd ps []) (S : FnScope N ps (C8.fnScope st)) : CalQ P w K mg base 1 x φno :=
  C8.cal0 F bn .nil S (fun vs H Q E h => by obtain ⟨_, _, _, _, _, _, _, _, _, h, _⟩ := h; exact h.elim) fun cdv A outer s H vs Q E hr h => by obtain ⟨_, _, _, _, _, _, _, _, _, h, _⟩ := h; exact h.elim
end
/-! alike -/
def scalD : PyData → Bool
  | .none | .bool _ | .int _ | .str _ => true
  | _ => false
def lk : Nat → PyData → Prop
  | 0, x => scalD x = true
  | n + 1, x => scalD x = true ∨ ∃ xs, (x = .list xs ∨ x = .tuple xs) ∧ xs.length ≤ 1000000 ∧ ∀ y ∈ xs, lk n y
def φlk (n : Nat) : Phi := fun as Q => ∃ x, as = [.d x, .d x] ∧ lk n x ∧ (strsShort x = true) ∧ Q (.d (.bool true))
where strsShort : PyData → Bool := fun _ => true
def b_law_like (φ_law_like : Phi) : FS :=
  (wSeq (wIfS (wB (wIsi2 "list" "tuple" (wV 0))) (wSeq (wIfS (wOr (wB (wOp gNe (wIsi "list" (wV 0)) (wIsi "list" (wV 1)))) (wB (wOp gNe (wIsi "tuple" (wV 0)) (wIsi "tuple" (wV 1))))) (wRet (wC (.bool false))) wNext) (wSeq (wIfS (wB (wOp gNe (w1 gLen (wV 0)) (w1 gLen (wV 1)))) (wRet (wC (.bool false))) wNext) (wRet (wOp gEq (wComp (wIR1 (wCons (w1 gLen (wV 0)) wNil)) (wG 2) (wNot (wB (wCall φ_law_like (wCons (wOp gIx (wV 0) (wV 2)) (wCons (wOp gIx (wV 1) (wV 2)) wNil))))) (wV 2) [2]) (wLst wNil))))) wNext) (wSeq (wIfS (wB (wIsi2 "list" "tuple" (wV 1))) (wRet (wC (.bool false))) wNext) (wRet (wAndV (wOp gEq (wIsi "bool" (wV 0)) (wIsi "bool" (wV 1))) (wOp gEq (wV 0) (wV 1))))))

def φlkP : Nat → Phi
  | 0 => φno
  | n + 1 => φlk n
theorem l_law_like (n : Nat) : ∀ as Q, φlk n as Q → as.length = 2 := by rintro _ Q ⟨x, rfl, _, h⟩; rfl
theorem w_law_like (n : Nat) : ∀ as Q, φlk n as Q → b_law_like (φlkP n) { nx := fun _ => Q (.d .none), rt := fun sv _ => Q sv } (as ++ List.replicate (3 - as.length) .no) := by
  rintro _ Q ⟨x, rfl, hx, _, h⟩
  have sc : scalD x = true → b_law_like (φlkP n) { nx := fun _ => Q (.d .none), rt := fun sv _ => Q sv } ([.d x, .d x] ++ List.replicate (3 - 2) .no) := fun hs => by
    simp only [b_law_like, wSeq, wNext, wDrop, wRet, wRetO, wIfS, wSet, wSetD, wFrz, wThenFrz, wAsg, wPar, wPar3, wG, wGnil, wGcons, wGtup, wGS, wApp, wExt, wAugMul, wC, wV, wVR, wOp, wNil, wCons, wStar, wTup, wLst, wB, wAnd, wOr, wNot, wAndV, wOrV, wNotV, wIf, wFor, wIL, wIT, wIR1, wIR2, wIZ, wIE, wIRv, wComp, wComp2, wYes, wCall, argF, wNeg, wChain, gAdd, gSub, gInt, gInt0, gFdiv, gMod, gPow, gMul, gCmp, gLt, gLe, gGt, gGe, gEq, gNe, gIs, gIsNot, isNoneD, gIn, gIx, wNoP, wPart, wCut, gIxD, wKD, gInD, wDNew, wDisp, wPairs, w1, w2, gLen, gSum, gExt, gMax2, gMin2, gAbs, gIntC, gListC, gTupC, gBools, wIsi, wIsi2, wRevS, itemsS, intsOf, asD_d, asD_own, asDs, hideS, wipeS, spD, cDiv, cMod, List.cons_append, List.nil_append, List.length_cons, List.length_nil, List.getElem?_cons_zero, List.getElem?_cons_succ, List.set_cons_zero, List.set_cons_succ, List.replicate, List.sum_cons, List.sum_nil, List.map_cons, List.map_nil, true_and, Bool.false_eq_true, if_false, if_true]
    cases x <;> first
      | cases hs; done
      | (simp only [tyD, kitB_NoneType_int, kitB_NoneType_bool, kitB_NoneType_str, kitB_NoneType_list, kitB_NoneType_tuple, kitB_bool_int, kitB_bool_bool, kitB_bool_str, kitB_bool_list, kitB_bool_tuple, kitB_int_int, kitB_int_bool, kitB_int_str, kitB_int_list, kitB_int_tuple, kitB_str_int, kitB_str_bool, kitB_str_str, kitB_str_list, kitB_str_tuple, wSeq, wNext, wDrop, wRet, wRetO, wIfS, wSet, wSetD, wFrz, wThenFrz, wAsg, wPar, wPar3, wG, wGnil, wGcons, wGtup, wGS, wApp, wExt, wAugMul, wC, wV, wVR, wOp, wNil, wCons, wStar, wTup, wLst, wB, wAnd, wOr, wNot, wAndV, wOrV, wNotV, wIf, wFor, wIL, wIT, wIR1, wIR2, wIZ, wIE, wIRv, wComp, wComp2, wYes, wCall, argF, wNeg, wChain, gAdd, gSub, gInt, gInt0, gFdiv, gMod, gPow, gMul, gCmp, gLt, gLe, gGt, gGe, gEq, gNe, gIs, gIsNot, isNoneD, gIn, gIx, wNoP, wPart, wCut, gIxD, wKD, gInD, wDNew, wDisp, wPairs, w1, w2, gLen, gSum, gExt, gMax2, gMin2, gAbs, gIntC, gListC, gTupC, gBools, wIsi, wIsi2, wRevS, itemsS, intsOf, asD_d, asD_own, asDs, hideS, wipeS, spD, cDiv, cMod, List.cons_append, List.nil_append, List.length_cons, List.length_nil, List.getElem?_cons_zero, List.getElem?_cons_succ, List.set_cons_zero, List.set_cons_succ, List.replicate, List.sum_cons, List.sum_nil, List.map_cons, List.map_nil, true_and, Bool.false_eq_true, if_false, if_true]
         simp [okEq, SeqAt.shaped, PyData.canLay0, PyData.depth, PyData.eqv]
         exact h)
  cases n with
  | zero => exact sc hx
  | succ n =>
    rcases hx with hx | ⟨xs, hxs, hl, hx⟩
    · exact sc hx
    have hsz : (2 : Nat) ^ 24 = 16777216 := by decide
    have h62 : (2 : Int) ^ 62 = 4611686018427387904 := by decide
    have comp : wCompL (wG 2) (wNot (wB (wCall (φlkP (n + 1)) (wCons (wOp gIx (wV 0) (wV 2)) (wCons (wOp gIx (wV 1) (wV 2)) wNil))))) (wV 2) [.d x, .d x, .no] ((List.range xs.length).map fun i => .int (0 + (i : Nat))) (fun ys => ys = []) := by
      refine compL_pure (p := fun _ => false) (out := fun _ => .none) (fun i hi R hR => ?_) (by simp)
      have hlt := List.mem_range.mp hi
      have e : atI xs (0 + (i : Nat)) = some xs[i] := by rw [Int.zero_add]; exact atI_nat (by simp [hlt])
      rcases hxs with rfl | rfl <;>
      · simp only [e, wSeq, wNext, wDrop, wRet, wRetO, wIfS, wSet, wSetD, wFrz, wThenFrz, wAsg, wPar, wPar3, wG, wGnil, wGcons, wGtup, wGS, wApp, wExt, wAugMul, wC, wV, wVR, wOp, wNil, wCons, wStar, wTup, wLst, wB, wAnd, wOr, wNot, wAndV, wOrV, wNotV, wIf, wFor, wIL, wIT, wIR1, wIR2, wIZ, wIE, wIRv, wComp, wComp2, wYes, wCall, argF, wNeg, wChain, gAdd, gSub, gInt, gInt0, gFdiv, gMod, gPow, gMul, gCmp, gLt, gLe, gGt, gGe, gEq, gNe, gIs, gIsNot, isNoneD, gIn, gIx, wNoP, wPart, wCut, gIxD, wKD, gInD, wDNew, wDisp, wPairs, w1, w2, gLen, gSum, gExt, gMax2, gMin2, gAbs, gIntC, gListC, gTupC, gBools, wIsi, wIsi2, wRevS, itemsS, intsOf, asD_d, asD_own, asDs, hideS, wipeS, spD, cDiv, cMod, List.cons_append, List.nil_append, List.length_cons, List.length_nil, List.getElem?_cons_zero, List.getElem?_cons_succ, List.set_cons_zero, List.set_cons_succ, List.replicate, List.sum_cons, List.sum_nil, List.map_cons, List.map_nil, true_and, Bool.false_eq_true, if_false, if_true]
        refine ⟨xs[i], rfl, hx _ (List.getElem_mem hlt), rfl, ?_⟩
        simpa using hR
    have cm : ∀ {R : List PyData → Prop}, (∀ ys, ys = [] → R ys) → wCompL (wG 2) (wNot (wB (wCall (φlkP (n + 1)) (wCons (wOp gIx (wV 0) (wV 2)) (wCons (wOp gIx (wV 1) (wV 2)) wNil))))) (wV 2) [.d x, .d x, .no] ((List.range xs.length).map fun i => .int (0 + (i : Nat))) R := fun {R} hR => by
      refine compL_pure (p := fun _ => false) (out := fun _ => .none) (fun i hi R hR => ?_) (hR _ (by simp))
      have hlt := List.mem_range.mp hi
      have e : atI xs (0 + (i : Nat)) = some xs[i] := by rw [Int.zero_add]; exact atI_nat (by simp [hlt])
      rcases hxs with rfl | rfl <;>
      · simp only [e, wSeq, wNext, wDrop, wRet, wRetO, wIfS, wSet, wSetD, wFrz, wThenFrz, wAsg, wPar, wPar3, wG, wGnil, wGcons, wGtup, wGS, wApp, wExt, wAugMul, wC, wV, wVR, wOp, wNil, wCons, wStar, wTup, wLst, wB, wAnd, wOr, wNot, wAndV, wOrV, wNotV, wIf, wFor, wIL, wIT, wIR1, wIR2, wIZ, wIE, wIRv, wComp, wComp2, wYes, wCall, argF, wNeg, wChain, gAdd, gSub, gInt, gInt0, gFdiv, gMod, gPow, gMul, gCmp, gLt, gLe, gGt, gGe, gEq, gNe, gIs, gIsNot, isNoneD, gIn, gIx, wNoP, wPart, wCut, gIxD, wKD, gInD, wDNew, wDisp, wPairs, w1, w2, gLen, gSum, gExt, gMax2, gMin2, gAbs, gIntC, gListC, gTupC, gBools, wIsi, wIsi2, wRevS, itemsS, intsOf, asD_d, asD_own, asDs, hideS, wipeS, spD, cDiv, cMod, List.cons_append, List.nil_append, List.length_cons, List.length_nil, List.getElem?_cons_zero, List.getElem?_cons_succ, List.set_cons_zero, List.set_cons_succ, List.replicate, List.sum_cons, List.sum_nil, List.map_cons, List.map_nil, true_and, Bool.false_eq_true, if_false, if_true]
        refine ⟨xs[i], rfl, hx _ (List.getElem_mem hlt), rfl, ?_⟩
        simpa using hR
    simp only [b_law_like, wSeq, wNext, wDrop, wRet, wRetO, wIfS, wSet, wSetD, wFrz, wThenFrz, wAsg, wPar, wPar3, wG, wGnil, wGcons, wGtup, wGS, wApp, wExt, wAugMul, wC, wV, wVR, wOp, wNil, wCons, wStar, wTup, wLst, wB, wAnd, wOr, wNot, wAndV, wOrV, wNotV, wIf, wFor, wIL, wIT, wIR1, wIR2, wIZ, wIE, wIRv, wComp, wComp2, wYes, wCall, argF, wNeg, wChain, gAdd, gSub, gInt, gInt0, gFdiv, gMod, gPow, gMul, gCmp, gLt, gLe, gGt, gGe, gEq, gNe, gIs, gIsNot, isNoneD, gIn, gIx, wNoP, wPart, wCut, gIxD, wKD, gInD, wDNew, wDisp, wPairs, w1, w2, gLen, gSum, gExt, gMax2, gMin2, gAbs, gIntC, gListC, gTupC, gBools, wIsi, wIsi2, wRevS, itemsS, intsOf, asD_d, asD_own, asDs, hideS, wipeS, spD, cDiv, cMod, List.cons_append, List.nil_append, List.length_cons, List.length_nil, List.getElem?_cons_zero, List.getElem?_cons_succ, List.set_cons_zero, List.set_cons_succ, List.replicate, List.sum_cons, List.sum_nil, List.map_cons, List.map_nil, true_and, Bool.false_eq_true, if_false, if_true]
    have e0 : ((xs.length : Nat) : Int).toNat = xs.length := Int.toNat_natCast _
    rcases hxs with rfl | rfl <;>
    · simp only [tyD, kitB_list_int, kitB_list_bool, kitB_list_str, kitB_list_list, kitB_list_tuple, kitB_tuple_int, kitB_tuple_bool, kitB_tuple_str, kitB_tuple_list, kitB_tuple_tuple, wSeq, wNext, wDrop, wRet, wRetO, wIfS, wSet, wSetD, wFrz, wThenFrz, wAsg, wPar, wPar3, wG, wGnil, wGcons, wGtup, wGS, wApp, wExt, wAugMul, wC, wV, wVR, wOp, wNil, wCons, wStar, wTup, wLst, wB, wAnd, wOr, wNot, wAndV, wOrV, wNotV, wIf, wFor, wIL, wIT, wIR1, wIR2, wIZ, wIE, wIRv, wComp, wComp2, wYes, wCall, argF, wNeg, wChain, gAdd, gSub, gInt, gInt0, gFdiv, gMod, gPow, gMul, gCmp, gLt, gLe, gGt, gGe, gEq, gNe, gIs, gIsNot, isNoneD, gIn, gIx, wNoP, wPart, wCut, gIxD, wKD, gInD, wDNew, wDisp, wPairs, w1, w2, gLen, gSum, gExt, gMax2, gMin2, gAbs, gIntC, gListC, gTupC, gBools, wIsi, wIsi2, wRevS, itemsS, intsOf, asD_d, asD_own, asDs, hideS, wipeS, spD, cDiv, cMod, List.cons_append, List.nil_append, List.length_cons, List.length_nil, List.getElem?_cons_zero, List.getElem?_cons_succ, List.set_cons_zero, List.set_cons_succ, List.replicate, List.sum_cons, List.sum_nil, List.map_cons, List.map_nil, true_and, Bool.false_eq_true, if_false, if_true]
      simp only [okEq, SeqAt.shaped, PyData.canLay0, PyData.depth, PyData.eqv, rngD, e0, List.length_map, List.length_range, Bool.or_true, Bool.true_or, Bool.or_false, beq_self_eq_true, Bool.not_true, Bool.true_and, Nat.zero_le, decide_true, true_and, if_true, Bool.false_eq_true, if_false, wSeq, wNext, wDrop, wRet, wRetO, wIfS, wSet, wSetD, wFrz, wThenFrz, wAsg, wPar, wPar3, wG, wGnil, wGcons, wGtup, wGS, wApp, wExt, wAugMul, wC, wV, wVR, wOp, wNil, wCons, wStar, wTup, wLst, wB, wAnd, wOr, wNot, wAndV, wOrV, wNotV, wIf, wFor, wIL, wIT, wIR1, wIR2, wIZ, wIE, wIRv, wComp, wComp2, wYes, wCall, argF, wNeg, wChain, gAdd, gSub, gInt, gInt0, gFdiv, gMod, gPow, gMul, gCmp, gLt, gLe, gGt, gGe, gEq, gNe, gIs, gIsNot, isNoneD, gIn, gIx, wNoP, wPart, wCut, gIxD, wKD, gInD, wDNew, wDisp, wPairs, w1, w2, gLen, gSum, gExt, gMax2, gMin2, gAbs, gIntC, gListC, gTupC, gBools, wIsi, wIsi2, wRevS, itemsS, intsOf, asD_d, asD_own, asDs, hideS, wipeS, spD, cDiv, cMod, List.cons_append, List.nil_append, List.length_cons, List.length_nil, List.getElem?_cons_zero, List.getElem?_cons_succ, List.set_cons_zero, List.set_cons_succ, List.replicate, List.sum_cons, List.sum_nil, List.map_cons, List.map_nil, true_and, Bool.false_eq_true, if_false, if_true]
      refine ⟨by omega, by unfold sizeLine; omega, ?_⟩
      refine cm fun ys hys => ?_
      subst hys
      refine ⟨by decide, ?_⟩
      first
        | exact ⟨rfl, h⟩
        | exact ⟨by decide, h⟩
        | (simp [okEq, SeqAt.shaped, PyData.canLay0, PyData.canLayAll0, PyData.depth, PyData.depthAll, PyData.eqv, PyData.eqvAll]; exact h)
end Z


/-! sorted(NAME) of a written dict; enumerate of a tuple; a tuple the other way round -/
namespace Z
open PySem PySem.Spec PyProof.Rows L2
def keyS (e : DictEntry) : Option Str := match e.key with
  | .str x _ => some x
  | _ => none
def keysOf : List DictEntry → Option (List Str)
  | [] => some []
  | e :: r => match keyS e, keysOf r with
    | some x, some xs => some (x :: xs)
    | _, _ => none
structure KSrt (K : Kx) (d : Addr) (ks : List Str) : Prop where
  ex : ∃ es n, K.K.lookup d = some ⟨.type "dict", none, .dict es n, #[]⟩ ∧ (d == sysModules) = false ∧ keysOf es.toList = some ks ∧ ks.length < 64
theorem keysOf_at : ∀ {l : List DictEntry} {ks : List Str}, keysOf l = some ks → l.length = ks.length ∧ ∀ (j : Nat) (e : DictEntry), l[j]? = some e → ∃ y t, ks[j]? = some y ∧ e.key = .str y t
  | [], ks, h => by cases h; exact ⟨rfl, fun j e z => by simp at z⟩
  | e :: r, ks, h => by
    unfold keysOf at h
    cases e1 : keyS e with
    | none => simp only [e1] at h; cases h
    | some x =>
      cases e2 : keysOf r with
      | none => simp only [e1, e2] at h; cases h
      | some xs =>
        simp only [e1, e2] at h
        cases h
        obtain ⟨h1, h2⟩ := keysOf_at e2
        refine ⟨by simp [h1], fun j e' z => ?_⟩
        cases j with
        | zero =>
          have : e = e' := by simpa using z
          subst this
          unfold keyS at e1
          split at e1
          · rename_i y t q
            cases e1
            exact ⟨x, t, by simp, q⟩
          · cases e1
        | succ j => 
          obtain ⟨y, t, g1, g2⟩ := h2 j e' (by simpa using z)
          exact ⟨y, t, by simpa using g1, g2⟩
section
variable {X : Cx}
theorem call_sortedK (hcalm : X.calm = true) : CallR X (.builtin "sorted") (fun xs H Q => ∃ (a : Addr) (ks : List Str), xs = [.ref a] ∧ KSrt (kx X) a ks ∧
    ∀ ys p, ys.Perm ks → sortedS ys = true → H p = none → Q (.ref p) (upd H p (.lst (ys.map V.str)))) := by
  intro pins s σ H xs us Q I r q
  obtain ⟨a, ks, ex, ⟨es, n, hl, lo, hks, h64⟩, q⟩ := q
  subst ex
  obtain ⟨u, eu, rx⟩ := vals1 r
  subst eu
  cases rx
  obtain ⟨hlen0, hkey⟩ := keysOf_at hks
  have hat : s.heap.DictRaw a es n := ⟨_, I.kIn _ _ hl, ⟨rfl, rfl, rfl⟩, rfl⟩
  have hes : es.size = ks.length := by rw [← Array.length_toList]; exact hlen0
  have h16 : es.size ≤ sizeLine := by rw [hes, sizeLine_eq]; omega
  refine Calls.call_function_entry PyProof.Rows.kind_sorted PyProof.Rows.plain_sorted PyProof.Rows.entry_sorted (PyProof.Rows.args_sorted1 _) ?_
  unfold Builtin.«sorted»
  refine wpAny_bind (m := checkCount "sorted" 1 1 _) (wpAny_pure ?_)
  refine wpAny_bind (PySem.W.kdu_collect (A := X.A.in1) (PySem.KdlSrc.rawDict (es := es) (ep := n) lo) (I.ok.hd hcalm) hat h16 fun h' tk acc hk hacc => ?_)
  have hal : acc.toList.length = ks.length := by rw [Array.length_toList, hacc.1, hes]
  have hS : StrsAre acc.toList ks := strs_at hal fun j v e => by
    obtain ⟨hj, ev⟩ := hacc.2 j v (by rw [← Array.getElem?_toList]; exact e)
    obtain ⟨y, t, e1, e2⟩ := hkey j es[j] (by rw [Array.getElem?_toList]; simp [hj])
    exact ⟨y, t, e1, by rw [ev, e2]⟩
  have I1 : Inv X pins σ H { s with heap := h', toks := tk } := I.kept hk
  refine wpAny_bind (wpAny_newList ?_ (by rw [hal, sizeLine_eq]; omega))
  have hoL : (h'.push (seqObj "list" acc.toList.toArray 0)).get? h'.objs.size = some (seqObj "list" acc.toList.toArray 0) := Heap.get?_push_size _ rfl
  show wpAny _ _ _ _ _ { s with heap := h'.push (seqObj "list" acc.toList.toArray 0), toks := tk }
  refine wpAny_bind (wpAny_holding (wpAny_call_entry PyProof.Rows.slot_list_sort ⟨_, hoL, rfl⟩ PyProof.Rows.entry_list_sort
    (list_sort_treeK strKind_oneLt (s := { s with heap := h'.push (seqObj "list" acc.toList.toArray 0), toks := tk }) hoL hS.keysOf (fun v₁ v₂ rest e => keyKind_strs (by rw [← e]; exact hS)) (by rw [hal]; exact h64) fun st' hp hs => ⟨_, rfl, ?_⟩)
    (PyProof.Rows.args_list_sort _)))
  obtain ⟨ys, g1, g2, g3⟩ := sorted_out_str hS hp hs
  obtain ⟨e', he'⟩ := PyProof.Rows.sortedHeap_at (vs := acc.toList) (out := (arrOf st').map (·.2)) hoL
  have hlen : (ys.map V.str).length ≤ sizeLine := by
    rw [List.length_map, g2.length_eq]
    exact Nat.le_trans (Nat.le_of_lt h64) (by decide)
  refine wpAny_pure ⟨_, rfl, .ref h'.objs.size, upd H h'.objs.size (.lst (ys.map V.str)), I1.laid (t' := tk) (fun b u e => ?_) (Nat.le_refl _)
    (show ObjOk X.prog X.w _ _ _ (.lst (ys.map V.str)) from ⟨hlen, ((arrOf st').map (·.2)).toList, e', vals_of_strs g1, by rw [Array.toArray_toList]; exact he'⟩), rfl, q ys _ g2 g3 (I1.hok.fresh (Nat.le_refl _))⟩
  have hb : b < h'.objs.size := Heap.lt_size e
  rw [PyProof.Rows.sortedHeap_old (Nat.ne_of_lt hb) (by rw [size_push']; exact Nat.lt_succ_of_lt hb)]
  exact Heap.get?_push_of_some _ e
def wSortK (ks : List Str) : FE := fun _ Q => ∀ ys : List Str, ys.Perm ks → sortedS ys = true → Q (.own (ys.map .str))
theorem q_sortK {x : Str} {d : Addr} {ks : List Str} {p pos p2 : Pos} (hc : X.calm = true) (hgS : Gl X "sorted") (hmS : X.mg "sorted" = none) (hg : Gl X x) (hm : X.mg x = some (.ref d)) (D : KSrt (kx X) d ks) (hdb : (x == ("__debug__" : Str)) = false := by decide)
    (hs : starEach [.Name x p2] X.env = (false, eval (.Name x p2) X.env) :: starEach [] X.env := by rfl) (hpl : (backTo pos (starEach [] X.env)).any (·.1) = false := by rfl) :
    QE X (.Call (.Name "sorted" p) [.Name x p2] [] pos) (wSortK ks) := by
  refine PE.imp (pe_callB (call_sortedK hc) hgS hmS (by decide +kernel) (pa_cons (pe_glob (v := .ref d) hg hm rfl hdb) pa_nil hs) (by decide) (by decide) hs hpl) fun σ H Q h => ?_
  obtain ⟨T, B, G, L, M, Q', rfl, h, hf, hk⟩ := h
  exact ⟨d, ks, rfl, D, fun ys p h1 h2 hp => hk _ _ _ _ (h.newOwn hp (dpAll_ofStrs ys)) (.refl _ _) (hf ys h1 h2)⟩
end
end Z


/-! list.index; a list taken apart -/
namespace Z
open PySem PySem.Spec PyProof.Rows L2
def wIndex (fo fa : FE) : FE := fun ρ Q => fo ρ fun x => match asD x with
  | some (.list xs) => fa ρ fun y => match y with
    | .d a => (flatD a = true ∧ xs.all flatD = true) ∧ ∃ (j : Nat) (z : PyData), xs[j]? = some z ∧ PyData.eqv z a = true ∧ (∀ (m : Nat) (z' : PyData), m < j → xs[m]? = some z' → PyData.eqv z' a = false) ∧ Q (.d (.int j))
    | _ => False
  | _ => False
section
variable {X : Cx}
theorem q_index {o a : Expr} {fo fa : FE} {apos pos : Pos} (ho : QE X o fo) (h : ∀ to : TE, PE X o to → ∀ ta : TE, PE X a ta → PE X (.Call (.Attribute o "index" apos) [a] [] pos) (tBM X.K "list" (rIndex X.K) to (tCons ta tNil))) (ha : QE X a fa) : QE X (.Call (.Attribute o "index" apos) [a] [] pos) (wIndex fo fa) := by
  refine PE.imp (h _ ho _ ha) fun σ H Q h => ?_
  obtain ⟨T, B, G, L, M, Q', rfl, h, hf, hk⟩ := h
  refine ⟨T, B, G, L, M, _, rfl, h, hf, fun x G1 H1 sx h1 w1 q1 => ?_⟩
  cases e : asD sx with
  | none => simp only [e] at q1
  | some d =>
    simp only [e] at q1
    obtain ⟨G2, h2, w2⟩ := h1.frzD e
    match d, q1, h2 with
    | .list xs, q1, h2 =>
      cases h2.dp with
      | @lst p vs _ hs hd =>
        refine ⟨.inl ⟨rfl, _, h2.gH.seq hs⟩, T, B, G2, L, (.d (.list xs), some (.ref p)) :: M, _, rfl, h2, q1, fun y G3 H3 sy h3 w3 q3 => ?_⟩
        match sy, q3, h3 with
        | .d a, q3, h3 =>
          obtain ⟨⟨f1, f2⟩, j, z, hz, he, hno, q⟩ := q3
          have hd3 := dpAll_mono w3.same _ _ hd
          have hs3 : SqL X.K G3 p vs := w3.same.seq hs
          have da := h3.dp
          obtain ⟨i1, _⟩ := inV_dp da f1 hd3 f2
          obtain ⟨v, ev, hv⟩ := dpAll_get' hd3 hz
          have fz : ∀ z ∈ xs, flatD z = true := fun z hz => List.all_eq_true.mp f2 z hz
          refine ⟨p, vs, y, j, v, rfl, rfl, h3.gH.seq hs3, flat_dp da f1, i1, ev, ?_, fun m v' hm ev' => ?_, hk _ G3 H3 _ (h3.tail.tail.data (.int _)) (w1.trans (w2.trans w3)) q⟩
          · rw [eqV_dp hv da (fz z (List.mem_of_getElem? hz)) f1]; exact he
          · obtain ⟨z', ez', hz'⟩ := dpAll_get hd3 ev'
            rw [eqV_dp hz' da (fz z' (List.mem_of_getElem? ez')) f1]; exact hno m z' hm ez'
def wGlst (n : Nat) (g : FGs) : FG := fun sv ρ Q => match asD sv with
  | some (.list ds) => ds.length = n ∧ g ds ρ Q
  | _ => False
theorem qg_lst {es : List Expr} {k : Nat} {pos : Pos} {n : Nat} {ws : List Nat} {g : FGs} (hc : X.calm = true) (h : QGs X es ws g)
    (hn : (assignEach es X.env).length = n := by rfl) (hst : (assignEach es X.env).findIdx? (·.1) = none := by rfl) : QG X (.Tuple es k pos) ws (wGlst n g) := by
  refine PG.imp (pg_lst hc h hn hst) fun v σ H Q h => ?_
  obtain ⟨T, B, G, L, M, sv, Q', rfl, h, hf, hk⟩ := h
  unfold wGlst at hf
  cases e : asD sv with
  | none => simp only [e] at hf
  | some d =>
    simp only [e] at hf
    obtain ⟨G2, h2, w2⟩ := h.frzD e
    match d, hf, h2 with
    | .list ds, hf, h2 =>
      cases h2.dp with
      | lst hs hd => exact ⟨_, _, rfl, h2.gH.seq hs, by rw [dpAll_len hd]; exact hf.1, T, B, G2, L, M, ds, Q', rfl, h2.tail, hd, hf.2, fun L' G' H' s w => hk L' G' H' s (w2.trans w)⟩
end
end Z


/-! dicts whose keys are nested tuples -/
namespace Z
open PySem PySem.Spec PyProof.Rows L2
mutual
theorem eqv_nk : ∀ a b : NestedKey, PyData.eqv (nkD a) (nkD b) = decide (a = b)
  | .none, .none => by simp [nkD, PyData.eqv]
  | .none, .num _ => by simp [nkD, PyData.eqv]
  | .none, .text _ => by simp [nkD, PyData.eqv]
  | .none, .tup _ => by simp [nkD, PyData.eqv]
  | .num _, .none => by simp [nkD, PyData.eqv]
  | .num i, .num j => by simp only [nkD, eqv_int]; rw [Bool.eq_iff_iff]; simp
  | .num _, .text _ => by simp [nkD, PyData.eqv]
  | .num _, .tup _ => by simp [nkD, PyData.eqv]
  | .text _, .none => by simp [nkD, PyData.eqv]
  | .text _, .num _ => by simp [nkD, PyData.eqv]
  | .text x, .text y => by simp only [nkD, eqv_str]; rw [Bool.eq_iff_iff]; simp
  | .text _, .tup _ => by simp [nkD, PyData.eqv]
  | .tup _, .none => by simp [nkD, PyData.eqv]
  | .tup _, .num _ => by simp [nkD, PyData.eqv]
  | .tup _, .text _ => by simp [nkD, PyData.eqv]
  | .tup as, .tup bs => by
    have := eqv_nks as bs
    simp only [nkD, PyData.eqv, this]
    rw [Bool.eq_iff_iff]; simp
theorem eqv_nks : ∀ as bs : List NestedKey, PyData.eqvAll (nkDs as) (nkDs bs) = decide (as = bs)
  | [], [] => by simp [nkDs, PyData.eqvAll]
  | [], _ :: _ => by simp [nkDs, PyData.eqvAll]
  | _ :: _, [] => by simp [nkDs, PyData.eqvAll]
  | a :: as, b :: bs => by
    have h1 := eqv_nk a b
    have h2 := eqv_nks as bs
    simp only [nkDs, PyData.eqvAll, h1, h2]
    rw [Bool.eq_iff_iff]; simp
end
section
variable {K : Kx} {G H : Hp}
theorem nr_get {k : NestedKey} : ∀ {xs : List (NestedKey × Addr × Value)} {kvs : List (PyData × PyData)}, NR K G xs kvs → (∀ x, getD kvs (nkD k) = some x → ∃ p v, atKey xs k = some p ∧ RelV v p.2 ∧ Dp K.K G v x) ∧ (getD kvs (nkD k) = none → atKey xs k = none)
  | _, _, .nil => ⟨fun x h => by simp [getD] at h, fun _ => rfl⟩
  | (q, a, u) :: xs, (d, y) :: kvs, .cons ⟨h1, h2, h3, v, r, dv⟩ t => by
    have ih := nr_get (k := k) t
    have h1' : nkD q = d := h1
    subst h1'
    have e : getD ((nkD q, y) :: kvs) (nkD k) = if q = k then some y else getD kvs (nkD k) := by
      unfold getD
      rw [List.find?_cons, eqv_nk]
      by_cases c : q = k
      · simp [c]
      · simp [c]
    have e2 : atKey ((q, a, u) :: xs) k = if q = k then some (a, u) else atKey xs k := by
      unfold atKey
      rw [List.find?_cons]
      by_cases c : q = k
      · simp [c]
      · simp [c]
    rw [e, e2]
    by_cases c : q = k
    · rw [if_pos c, if_pos c]
      exact ⟨fun x hx => by cases hx; exact ⟨_, v, rfl, r, dv⟩, fun hx => by cases hx⟩
    · rw [if_neg c, if_neg c]; exact ih
theorem nr_some {k : NestedKey} {xs : List (NestedKey × Addr × Value)} {kvs : List (PyData × PyData)} (h : NR K G xs kvs) : (atKey xs k).isSome = (getD kvs (nkD k)).isSome := by
  cases e : getD kvs (nkD k) with
  | none => rw [(nr_get h).2 e]; rfl
  | some x => obtain ⟨p, v, e1, _⟩ := (nr_get h).1 x e; rw [e1]; rfl
theorem nr_any {k : NestedKey} {xs : List (NestedKey × Addr × Value)} {kvs : List (PyData × PyData)} (h : NR K G xs kvs) : (kvs.any fun kv => PyData.eqv kv.1 (nkD k)) = (atKey xs k).isSome := by
  rw [nr_some h]; unfold getD; rw [Option.isSome_map, Bool.eq_iff_iff, List.find?_isSome, List.any_eq_true]
theorem nr_map {k : NestedKey} {u : Value} {v : V} {x : PyData} (r : RelV v u) (hd : Dp K.K G v x) : ∀ {xs : List (NestedKey × Addr × Value)} {kvs : List (PyData × PyData)}, NR K G xs kvs →
    NR K G (xs.map (putAt k u)) (kvs.map fun kv => if PyData.eqv kv.1 (nkD k) = true then (kv.1, x) else kv)
  | _, _, .nil => .nil
  | (q, a, u') :: xs, (d, y) :: kvs, .cons ⟨h1, h2, h3, v', r', dv⟩ t => by
    have h1' : nkD q = d := h1
    subst h1'
    rw [List.map_cons, List.map_cons]
    refine .cons ?_ (nr_map r hd t)
    unfold putAt
    by_cases c : q = k
    · rw [if_pos c, if_pos (by rw [eqv_nk]; exact decide_eq_true c)]
      exact ⟨rfl, h2, h3, v, r, hd⟩
    · rw [if_neg c, if_neg (by rw [eqv_nk]; simp [c])]
      exact ⟨rfl, h2, h3, v', r', dv⟩
theorem nr_app : ∀ {xs ys : List (NestedKey × Addr × Value)} {kvs kvs' : List (PyData × PyData)}, NR K G xs kvs → NR K G ys kvs' → NR K G (xs ++ ys) (kvs ++ kvs')
  | _, _, _, _, .nil, h => h
  | _, _, _, _, .cons a t, h => .cons a (nr_app t h)
theorem nr_put {k : NestedKey} {b : Addr} {u : Value} {v : V} {x : PyData} {xs : List (NestedKey × Addr × Value)} {kvs : List (PyData × PyData)} (h : NR K G xs kvs) (hk : Dp K.K G (.ref b) (nkD k)) (hd8 : k.depth ≤ 8) (r : RelV v u) (hd : Dp K.K G v x) :
    NR K G (storedH xs k b u) (putD kvs (nkD k) x) := by
  unfold storedH putD
  rw [nr_any h]
  split
  · exact nr_map r hd h
  · exact nr_app h (.cons ⟨rfl, hd8, hk, v, r, hd⟩ .nil)
theorem nr_len : ∀ {xs : List (NestedKey × Addr × Value)} {kvs : List (PyData × PyData)}, NR K G xs kvs → xs.length = kvs.length
  | _, _, .nil => rfl
  | _, _, .cons _ t => by rw [List.length_cons, List.length_cons, nr_len t]
end
section
variable {X : Cx}
mutual
theorem nested_of {pins : List (Addr × Obj)} {σ : L2.St} {H : Hp} {s : Shared} (I : Inv X pins σ H s) : ∀ (k : NestedKey) (v : V) (u : Value), RelV v u → Dp X.K H v (nkD k) → NestedIs s.heap k u
  | .none, v, u, r, h => by simp only [nkD] at h; cases h; cases r; exact .none
  | .num i, v, u, r, h => by simp only [nkD] at h; cases h; obtain ⟨t, rfl⟩ := r; exact .int i t
  | .text x, v, u, r, h => by simp only [nkD] at h; cases h; obtain ⟨t, rfl⟩ := r; exact .text x t
  | .tup ks, v, u, r, h => by
    simp only [nkD] at h
    cases h with
    | tup hs hd =>
      cases r
      obtain ⟨its, rv, ht, hz⟩ := I.tuple hs
      obtain ⟨o, ho, hc, n, hdat⟩ := ht
      exact .tup ho hc hdat (by simpa using nested_all I ks _ _ rv hd)
theorem nested_all {pins : List (Addr × Obj)} {σ : L2.St} {H : Hp} {s : Shared} (I : Inv X pins σ H s) : ∀ (ks : List NestedKey) (vs : List V) (us : List Value), Vals vs us → DpAll X.K H vs (nkDs ks) → NestedAll s.heap ks us
  | [], vs, us, r, h => by simp only [nkDs] at h; cases h; cases r; exact .nil
  | k :: ks, vs, us, r, h => by
    simp only [nkDs] at h
    cases h with
    | cons h1 h2 =>
      cases r with
      | cons r1 r2 => exact .cons (nested_of I k _ _ r1 h1) (nested_all I ks _ _ r2 h2)
end
theorem nobj_dict {pins : List (Addr × Obj)} {σ : L2.St} {H : Hp} {s : Shared} {a : Addr} {xs : List (NestedKey × Addr × Value)} {kvs : List (PyData × PyData)} (I : Inv X pins σ H s) (ha : H a = some (.ext (NObj (kx X) a xs))) (hr : NR (kx X) H xs kvs) :
    (a == sysModules) = false ∧ xs.length ≤ sizeLine ∧ s.heap.DictOfH (nestedKind X.prog X.w) a xs := by
  obtain ⟨z1, z2, o, es, ep, ho, hx, hd, he, hn⟩ := (I.hok a _ ha).1
  refine ⟨z1, z2, o, es, ep, ho, hx, hd, he, fun x hx => ?_, hn⟩
  have : ∀ {xs : List (NestedKey × Addr × Value)} {kvs : List (PyData × PyData)}, NR (kx X) H xs kvs → ∀ x ∈ xs, Dp X.K H (.ref x.2.1) (nkD x.1) ∧ x.1.depth ≤ 8 := by
    intro xs kvs h
    induction h with
    | nil => intro x hx; cases hx
    | cons a t ih =>
      intro x hx
      rcases List.mem_cons.mp hx with e | hx
      · subst e
        obtain ⟨h1, h2, h3, _⟩ := a
        rw [h1]; exact ⟨h3, h2⟩
      · exact ih x hx
  obtain ⟨h1, h2⟩ := this hr x hx
  exact ⟨nested_of I x.1 (.ref x.2.1) _ rfl h1, h2⟩
theorem nobj_ok {H : Hp} {h : Heap} {a : Addr} {xs : List (NestedKey × Addr × Value)} (z1 : (a == sysModules) = false) (z2 : xs.length ≤ sizeLine) (hm : h.DictOfH (nestedKind X.prog X.w) a xs) : ObjOk X.prog X.w H h a (.ext (NObj (kx X) a xs)) := by
  obtain ⟨o, es, ep, ho, hx, hd, he, hk, hn⟩ := hm
  exact ⟨⟨z1, z2, o, es, ep, ho, hx, hd, he, hn⟩, ⟨o, ho⟩, fun h1 h2 p st => by
    obtain ⟨y1, y2, o, es, ep, ho, r⟩ := p
    exact ⟨y1, y2, o, es, ep, st o ho, r⟩⟩
/-! {} -/
def tDNewN (K : Kx) : TE := fun _ H Q => ∀ p, H p = none → Q (.ref p) (upd H p (.ext (NObj K p [])))
theorem pe_dnewN {pos : Pos} : PE X (.Dict [] [] pos) (tDNewN (kx X)) := ⟨fun pins s σ H Q I h =>
  wpAny_Dict_empty ⟨.ref s.heap.objs.size, _, I.laid (a := s.heap.objs.size) (o := .ext (NObj (kx X) s.heap.objs.size [])) (t' := s.toks) (fun _ _ q => Heap.get?_push_of_some _ q) (Nat.le_refl _)
    (nobj_ok (beq_eq_false_iff_ne.mpr (Nat.ne_of_gt I.big)) (Nat.zero_le _) (Heap.DictOfH.new s.heap)), rfl, h _ (I.hok.fresh (Nat.le_refl _))⟩⟩
def wDNewN : FE := fun _ Q => Q (.dcn [])
theorem q_dnewN {pos : Pos} : QE X (.Dict [] [] pos) wDNewN := by
  refine PE.imp pe_dnewN fun σ H Q h => ?_
  obtain ⟨T, B, G, L, M, Q', rfl, h, hf, hk⟩ := h
  exact fun p hp => hk _ _ _ _ (h.newDcn hp .nil) (.refl _ _) hf
/-! d[k] -/
def rIxN (K : Kx) : R2 := fun x y H Q => ∃ (a b : Addr) (xs : List (NestedKey × Addr × Value)) (kvs : List (PyData × PyData)) (k : NestedKey) (p : Addr × Value) (v : V), x = .ref a ∧ y = .ref b ∧ H a = some (.ext (NObj K a xs)) ∧ NR K H xs kvs ∧ Dp K.K H (.ref b) (nkD k) ∧ k.depth ≤ 8 ∧ atKey xs k = some p ∧ RelV v p.2 ∧ Q v H
theorem ix_N (hu : X.A.units + 64 < cLine) : IxR X (rIxN (kx X)) := by
  intro value slice pins s σ H x y v u Q I rx ry h hs
  obtain ⟨a, b, xs, kvs, k, p, r, rfl, rfl, ha, hr, hk, h8, hp, rv, q⟩ := h
  obtain rfl : v = Value.ref a := rx
  obtain rfl : u = Value.ref b := ry
  obtain ⟨z1, z2, dd⟩ := nobj_dict I ha hr
  refine tail_any dd.typeIs slot_dict_getitem.lookup (wpAny_getItem_heap (knd := nestedKind X.prog X.w) (k := k) (show X.A.units + 1 + 8 < cLine by omega) ⟨nested_of I k (.ref b) _ rfl hk, h8⟩ dd hp ⟨r, H, I.tok _, rv, q⟩) hs
def gIxN : G2 := fun x y Q => match x, y with
  | .dcn kvs, .d k => (∃ nk, k = nkD nk ∧ nk.depth ≤ 8 ∧ ∃ ks, nk = .tup ks) ∧ match getD kvs k with
    | some z => Q (.d z)
    | none => False
  | _, _ => False
theorem lift_ixN {K : Kx} : LiftR K (rIxN K) gIxN := by
  intro T B G N H x y sx sy Q Q' h mx my hg hk
  unfold gIxN at hg
  match sx, sy, hg, mx, my with
  | .dcn kvs, .d d, hg, mx, my =>
    obtain ⟨⟨nk, rfl, h8, ks, rfl⟩, hg⟩ := hg
    have hx := h.ok _ mx
    have hy : Dp K.K G y (nkD (.tup ks)) := h.ok _ my
    match x, hx with
    | .ref a, hx =>
      obtain ⟨_, xs, ea, hr⟩ := hx
      cases eg : getD kvs (nkD (.tup ks)) with
      | none => simp only [eg] at hg
      | some z =>
        simp only [eg] at hg
        obtain ⟨p, v, e1, r1, d1⟩ := (nr_get hr).1 z eg
        have hyr : ∃ b, y = .ref b := by
          simp only [nkD] at hy
          cases hy with
          | tup hs hd => exact ⟨_, rfl⟩
        obtain ⟨b, rfl⟩ := hyr
        exact ⟨a, b, xs, kvs, _, p, v, rfl, rfl, ea, hr.mono h.gH, dp_mono h.gH _ _ hy, h8, e1, r1, hk v G H _ (h.data d1) (.refl _ _) hg⟩
variable {a b o i : Expr} {fa fb fi : FE} {pos : Pos}
theorem q_atN {k : Nat} (hr : Room k X.A) (ha : QR X a fa) (hb : QE X b fb) (hs : PlainIx b := by intros; rfl) : QE X (.Subscript a b pos) (wOp gIxN fa fb) := q_ix (ix_N hr.units) lift_ixN ha hb hs
/-! in -/
def rInN (K : Kx) (neg : Bool) : R2 := fun x y H Q => ∃ (a b : Addr) (xs : List (NestedKey × Addr × Value)) (kvs : List (PyData × PyData)) (k : NestedKey), y = .ref a ∧ x = .ref b ∧ H a = some (.ext (NObj K a xs)) ∧ NR K H xs kvs ∧ Dp K.K H (.ref b) (nkD k) ∧ k.depth ≤ 8 ∧ Q (.bl (if neg then !(atKey xs k).isSome else (atKey xs k).isSome)) H
theorem op_inN (hu : X.A.units + 64 < cLine) : OpR X (compareOp .In) (rInN (kx X) false) := by
  intro pins s σ H x y v u Q I rx ry h
  obtain ⟨a, b, xs, kvs, k, rfl, rfl, ha, hr, hk, h8, q⟩ := h
  obtain rfl : v = Value.ref b := rx
  obtain rfl : u = Value.ref a := ry
  obtain ⟨z1, z2, dd⟩ := nobj_dict I ha hr
  exact wpAny_in_heap (knd := nestedKind X.prog X.w) (k := k) (show X.A.units + 1 + 8 < cLine by omega) ⟨nested_of I k (.ref b) _ rfl hk, h8⟩ z1 dd ⟨.bl _, H, I.tok _, rfl, q⟩
theorem op_notInN (hu : X.A.units + 64 < cLine) : OpR X (compareOp .NotIn) (rInN (kx X) true) := by
  intro pins s σ H x y v u Q I rx ry h
  obtain ⟨a, b, xs, kvs, k, rfl, rfl, ha, hr, hk, h8, q⟩ := h
  obtain rfl : v = Value.ref b := rx
  obtain rfl : u = Value.ref a := ry
  obtain ⟨z1, z2, dd⟩ := nobj_dict I ha hr
  refine notIn_keyed (knd := nestedKind X.prog X.w) (k := k) (show X.A.units + 1 + 8 < cLine by omega) ⟨nested_of I k (.ref b) _ rfl hk, h8⟩ z1 ⟨xs, dd, rfl⟩ ?_
  rw [valueAt_pairsH, Option.isSome_map]
  exact ⟨.bl _, H, I.tok _, rfl, q⟩
def gInN (neg : Bool) : G2 := fun x y Q => match x, y with
  | .d k, .dcn kvs => (∃ nk, k = nkD nk ∧ nk.depth ≤ 8 ∧ ∃ ks, nk = .tup ks) ∧ Q (.d (.bool (if neg then !(getD kvs k).isSome else (getD kvs k).isSome)))
  | _, _ => False
theorem t_inN {neg : Bool} {σ : L2.St} {H : Hp} {Q : VK} (h : tQ (kx X) (wOp (gInN neg) fa fb) σ H Q) : tOp (rInN (kx X) neg) (tQ (kx X) fa) (tR (kx X) fb) σ H Q := by
  obtain ⟨T, B, G, L, M, Q', rfl, h, hf, hk⟩ := h
  refine ⟨T, B, G, L, M, _, rfl, h, hf, fun x G1 H1 sx h1 w1 q1 => ?_⟩
  refine ⟨T, B, G1, L, (sx, some x) :: M, _, rfl, h1, q1, fun y G2 H2 sy M' h2 m2 w2 q2 => ?_⟩
  match sx, sy, q2, h2, m2 with
  | .d kd, .dcn kvs, q2, h2, m2 =>
    obtain ⟨⟨nk, rfl, h8, ks, rfl⟩, q2⟩ := q2
    have hx : Dp X.K G2 x (nkD (.tup ks)) := h2.ok (.d (nkD (.tup ks)), some x) (List.mem_append_right _ List.mem_cons_self)
    have hz := h2.ok _ m2
    match y, hz with
    | .ref p, hz =>
      obtain ⟨_, xs, ea, hr⟩ := hz
      have hyr : ∃ b, x = .ref b := by
        have hx' := hx
        simp only [nkD] at hx'
        cases hx' with
        | tup hs hd => exact ⟨_, rfl⟩
      obtain ⟨b, rfl⟩ := hyr
      refine ⟨p, b, xs, kvs, .tup ks, rfl, rfl, ea, hr.mono h2.gH, dp_mono h2.gH _ _ hx, h8, ?_⟩
      rw [nr_some hr]
      exact hk _ G2 H2 _ ((h2.data (.bl _)).sub (.cons₂ _ (.trans (.cons _ (.refl _)) (List.sublist_append_right M' _)))) (w1.trans w2) q2
theorem q_inN {k : Nat} (hr : Room k X.A) (ha : QE X a fa) (hb : QR X b fb) (hm : behindInMarks .In b = false := by rfl) : QE X (.Compare a [.In] [b] pos) (wOp (gInN false) fa fb) := PE.imp (pe_cmpR (op_inN hr.units) ha hb hm) fun _ _ _ h => t_inN h
theorem q_notInN {k : Nat} (hr : Room k X.A) (ha : QE X a fa) (hb : QR X b fb) (hm : behindInMarks .NotIn b = false := by rfl) : QE X (.Compare a [.NotIn] [b] pos) (wOp (gInN true) fa fb) := PE.imp (pe_cmpR (op_notInN hr.units) ha hb hm) fun _ _ _ h => t_inN h
/-! d[k] = v -/
def rSetN (K : Kx) : TSet := fun o i v H Q => ∃ (a b : Addr) (xs : List (NestedKey × Addr × Value)) (kvs : List (PyData × PyData)) (k : NestedKey), o = .ref a ∧ i = .ref b ∧ H a = some (.ext (NObj K a xs)) ∧ NR K H xs kvs ∧ Dp K.K H (.ref b) (nkD k) ∧ k.depth ≤ 8 ∧ xs.length < sizeLine ∧
  ∀ u : Value, RelV v u → Q (upd H a (.ext (NObj K a (storedH xs k b u))))
theorem stored_len {xs : List (NestedKey × Addr × Value)} {k : NestedKey} {b : Addr} {u : Value} : (storedH xs k b u).length ≤ xs.length + 1 := by
  unfold storedH; split <;> simp
theorem set_N (hu : X.A.units + 64 < cLine) : PSet X (rSetN (kx X)) := by
  intro pins s σ H o i v ov iv u Q I ro ri rv h
  obtain ⟨a, b, xs, kvs, k, rfl, rfl, ha, hr, hk, h8, hl, q⟩ := h
  obtain rfl : ov = Value.ref a := ro
  obtain rfl : iv = Value.ref b := ri
  obtain ⟨z1, z2, dd⟩ := nobj_dict I ha hr
  refine wpAny_setItem_heap (knd := nestedKind X.prog X.w) (k := k) (hsz := z2) (show X.A.units + 1 + 8 < cLine by omega) ⟨nested_of I k (.ref b) _ rfl hk, h8⟩ dd fun h' hm' sb => ?_
  have he : ∃ u, h'.get? a = some u := let ⟨o, _, _, ho, _⟩ := hm'; ⟨o, ho⟩
  exact ⟨_, I.write (e := a) (t' := s.toks + (nestedKind X.prog X.w).draws k) (o := .ext (NObj (kx X) a (storedH xs k b u))) (by rw [ha]; trivial) (.inl rfl) (fun b u hb hu => (sb.2 b hb).trans hu) he (nobj_ok z1 (Nat.le_trans stored_len hl) hm'), q u rv⟩
def wGSN (j : Nat) (fi : FE) : FG := fun sv ρ Q => match ρ[j]?, asD sv with
  | some (.dcn kvs), some y => fi ρ fun si => match si with
    | .d k => ((∃ nk, k = nkD nk ∧ nk.depth ≤ 8 ∧ ∃ ks, nk = .tup ks) ∧ kvs.length < sizeLine) ∧ Q (ρ.set j (.dcn (putD kvs k y)))
    | _ => False
  | _, _ => False
theorem SR.ref_dcn {K : Kx} {T : Option Tape} {B G H : Hp} {N : List Sl} {xs : List (PyData × PyData)} {o : Option V} (h : SR K T B G N H) (m : (.dcn xs, o) ∈ N) : ∃ a, o = some (.ref a) := by
  have := h.ok _ m
  match o, this with
  | some (.ref a), _ => exact ⟨a, rfl⟩
theorem qg_subN (j : Nat) {k : Nat} (hr : Room k X.A) (ho : PE X o (tVar j)) (hi : QE X i fi)
    (ha : ∀ v, assign (.Subscript o i pos) X.env v = (do
      let ov ← holding [v] (eval o X.env)
      let iv ← holding [v, ov] (eval i X.env)
      standAt pos
      holding [v, ov, iv] (setItem ov iv v)
      release [v, ov, iv] []) := by intro _; rfl) : QG X (.Subscript o i pos) [j] (wGSN j fi) := by
  refine PG.imp (pg_sub ho hi (set_N hr.units) ha) fun v σ H Q h => ?_
  obtain ⟨T, B, G, L, M, sv, Q', rfl, h, hf, hk⟩ := h
  unfold wGSN at hf
  cases e : (L.map Prod.fst)[j]? with
  | none => simp only [e] at hf
  | some sj =>
    obtain ⟨oj, e1, e2⟩ := slot_at e
    have hlen : j < L.length := (List.getElem?_eq_some_iff.mp e1).1
    have hmem : (sj, oj) ∈ (sv, some v) :: (M ++ L) := List.mem_cons_of_mem _ (List.mem_append_right _ (List.mem_of_getElem? e1))
    cases ey : asD sv with
    | none => cases sj <;> simp only [e, ey] at hf
    | some d =>
      match sj, hf, e1, hmem with
      | .dcn kvs, hf, e1, hmem =>
        simp only [e, ey] at hf
        obtain ⟨p, rfl⟩ := h.ref_dcn hmem
        refine ⟨.ref p, e2, T, B, G, L, (sv, some v) :: M, _, rfl, h, hf, fun y G1 H1 si h1 w1 q1 => ?_⟩
        match si, q1, h1 with
        | .d kd, q1, h1 =>
          obtain ⟨⟨⟨nk, rfl, h8, ks, rfl⟩, hz⟩, q1⟩ := q1
          have hy : Dp X.K G1 y (nkD (.tup ks)) := h1.dp
          obtain ⟨G2, h2, w2⟩ := SR.frzD h1.tail ey
          have hd := h2.dp
          have hy2 := dp_mono w2.same _ _ hy
          have hyr : ∃ b, y = .ref b := by
            have hy' := hy
            simp only [nkD] at hy'
            cases hy' with
            | tup hs hd => exact ⟨_, rfl⟩
          obtain ⟨b, rfl⟩ := hyr
          have h3 := SR.front (M := M) h2.tail e1
          obtain ⟨ow, xs, ep, hr⟩ := h3.head
          refine ⟨p, b, xs, kvs, .tup ks, rfl, rfl, ep, hr.mono h3.gH, dp_mono h3.gH _ _ hy2, h8, by rw [nr_len hr]; exact hz, fun u ru => ?_⟩
          have h4 := (h3.writeN (nr_put hr hy2 h8 ru hd)).back hlen
          have := hk (L.set j (.dcn (putD kvs (nkD (.tup ks)) d), some (.ref p))) G2 _ h4 (w1.trans w2) (List.length_set ..) (fun k hk => List.getElem?_set_ne fun z => hk (by simp [z])) (by rw [List.map_set]; exact q1)
          rw [List.map_set, set_same e2] at this
          exact this
      | .no, hf, _, _ => simp only [e, ey] at hf
      | .d _, hf, _, _ => simp only [e, ey] at hf
      | .tp, hf, _, _ => simp only [e, ey] at hf
      | .own _, hf, _, _ => simp only [e, ey] at hf
      | .dct _, hf, _, _ => simp only [e, ey] at hf
      | .tpo _ _, hf, _, _ => simp only [e, ey] at hf
/-! len(d) -/
def rLenN (K : Kx) : List V → Hp → VK → Prop := fun vs H Q => ∃ (a : Addr) (xs : List (NestedKey × Addr × Value)) (kvs : List (PyData × PyData)), vs = [V.ref a] ∧ H a = some (.ext (NObj K a xs)) ∧ NR K H xs kvs ∧ Q (.int ((xs.length : Nat) : Int)) H
theorem call_lenN : CallR X (.builtin "len") (rLenN (kx X)) := by
  intro pins s σ H vs us Q I r h
  obtain ⟨p, xs, kvs, rfl, hp, hr, q⟩ := h
  obtain ⟨u, rfl, rx⟩ := vals1 r
  obtain rfl : u = .ref p := rx
  obtain ⟨z1, z2, dd⟩ := nobj_dict I hp hr
  refine call_len_dictH z1 dd (by rw [sizeLine_eq] at z2; omega) ?_
  exact ⟨.int ((xs.length : Nat) : Int), H, I.tok _, ⟨_, rfl⟩, q⟩
def gLenN : G1 := fun x Q => match x with
  | .dcn kvs => Q (.d (.int ((kvs.length : Nat) : Int)))
  | _ => False
theorem lift_lenN {K : Kx} : Lift1R K (rLenN K) gLenN := by
  intro T B G N H x sx Q Q' h m hg hk
  match sx, hg, m with
  | .dcn kvs, hg, m =>
    have hx := h.ok _ m
    match x, hx with
    | .ref a, hx =>
      obtain ⟨_, xs, ea, hr⟩ := hx
      refine ⟨a, xs, kvs, rfl, ea, hr.mono h.gH, ?_⟩
      rw [nr_len hr]
      exact hk _ G H _ (h.data (.int _)) (.refl _ _) hg
theorem q_lenN {e : Expr} {fe : FE} {p : Pos} (hg : Gl X "len") (hm : X.mg "len" = none) (he : QR X e fe)
    (hs : starEach [e] X.env = (false, eval e X.env) :: starEach [] X.env := by rfl) (hpl : (backTo pos (starEach [] X.env)).any (·.1) = false := by rfl) : QE X (.Call (.Name "len" p) [e] [] pos) (w1 gLenN fe) :=
  q_b1R call_lenN lift_lenN hg hm PySem.boot_len he (by decide) (by decide) hs hpl
end
end Z


/-! {k: v}, k a nested tuple -/
namespace Z
open PySem PySem.Spec PyProof.Rows L2
section
variable {prog : Program} {w : World} {A : Around} {E : Value → Shared → Prop} {s : Shared} {K : Type} [DecidableEq K] {knd : HeapKind prog w K}
theorem subDict_one {pairs : List (Sem Value × Sem Value)} {Q : Addr → Shared → Prop} (hlen : pairs.length ≤ 15)
    (h : wpAny (model prog w) A (evalPairs pairs) (fun vs s₁ => ∃ (a : Addr) (k : K) (v : Value), vs = [(.ref a, v)] ∧ knd.room A ∧ knd.is s₁.heap k a ∧ s₁.heap.DictOfH knd s.heap.objs.size [] ∧
      ∀ h', h'.DictOfH knd s.heap.objs.size (storedH [] k a v) → Heap.SameBut s.heap.objs.size s₁.heap h' → Q s.heap.objs.size { s₁ with heap := h', toks := s₁.toks + knd.draws k }) E
      { s with heap := s.heap.push { cls := .type "dict", data := .dict #[] } }) :
    wpAny (model prog w) A (subDict pairs) Q E s := by
  unfold subDict
  refine wpAny_bind (wpAny_alloc ?_)
  refine wpAny_bind (wpAny_holding ?_)
  rw [if_pos hlen]
  refine wpAny_bind (wpAny_mono h (fun vs s₁ h₁ => ?_) fun _ _ e => e)
  obtain ⟨a, k, v, rfl, hu, hk, hm, hQ⟩ := h₁
  refine wpAny_holding ?_
  refine wpAny_bind ?_
  rw [List.forIn_cons]
  refine wpAny_bind (wpAny_bind (wpAny_dictSet_heap (hsz := Nat.zero_le _) hu hk hm fun h₁ hm₁ hs₁ => wpAny_pure ?_))
  simp only [List.forIn_nil]
  exact wpAny_pure (wpAny_pure (wpAny_pure (hQ h₁ hm₁ hs₁)))
end
section
variable {X : Cx} {ek ev : Expr} {fk fv : FE} {pos : Pos}
def tDisp1N (K : Kx) (tk tv : TE) : TE := fun σ H Q => ∀ p, H p = none → tk σ (upd H p (.ext (NObj K p []))) fun x H1 => tv σ H1 fun y H2 => H2 p = some (.ext (NObj K p [])) ∧
  ∃ (b : Addr) (k : NestedKey), x = .ref b ∧ Dp K.K H2 (.ref b) (nkD k) ∧ k.depth ≤ 8 ∧ ∀ u : Value, RelV y u → Q (.ref p) (upd H2 p (.ext (NObj K p [(k, b, u)])))
theorem pe_disp1N {tk tv : TE} (hu : X.A.units + 64 < cLine) (hk : PE X ek tk) (hv : PE X ev tv) : PE X (.Dict [some ek] [ev] pos) (tDisp1N (kx X) tk tv) := by
  refine ⟨fun pins s σ H Q I q => ?_⟩
  have hn := I.hok.fresh (Nat.le_refl s.heap.objs.size)
  have I1 := I.laid (a := s.heap.objs.size) (o := .ext (NObj (kx X) s.heap.objs.size [])) (h' := s.heap.push { cls := .type "dict", data := .dict #[] }) (t' := s.toks) (fun _ _ q => Heap.get?_push_of_some _ q) (Nat.le_refl _)
    (nobj_ok (beq_eq_false_iff_ne.mpr (Nat.ne_of_gt I.big)) (Nat.zero_le _) (Heap.DictOfH.new s.heap))
  rw [arm_eval_Dict, zip_pairTrees [some ek] [ev] X.env pos rfl rfl, dictDisplay_pairs _ (by intro h; cases h) (by show 1 < 17; decide)]
  refine wpAny_bind (wpAny_standAt (wpAny_bind (subDict_one (knd := nestedKind X.prog X.w) (Q := fun d s' => wpAny (model X.prog X.w) X.A (pure (Value.ref d)) _ X.xe s') (by show 1 ≤ 15; decide) ?_)))
  refine pairTrees_cons_walk (thn (hk.run pins _ σ _ _ I1 (q _ hn)) fun kv s1 ⟨x, H1, I2, rx, q1⟩ => thn (hv.run pins s1 σ H1 _ I2 q1) fun vv s2 ⟨y, H2, I3, ry, e, b, k, ex, hk2, h8, q2⟩ => pairTrees_nil_walk ?_)
  subst ex
  obtain rfl : kv = Value.ref b := rx
  obtain ⟨z1, z2, dd⟩ := nobj_dict (kvs := []) I3 e .nil
  refine ⟨b, k, vv, rfl, (show X.A.units + 8 < cLine by omega), ⟨nested_of I3 k (.ref b) _ rfl hk2, h8⟩, dd, fun h' hm' sb => wpAny_pure ?_⟩
  have he : ∃ u, h'.get? s.heap.objs.size = some u := let ⟨o, _, _, ho, _⟩ := hm'; ⟨o, ho⟩
  have e1 : storedH ([] : List (NestedKey × Addr × Value)) k b vv = [(k, b, vv)] := rfl
  rw [e1] at hm'
  exact ⟨.ref s.heap.objs.size, _, I3.write (e := s.heap.objs.size) (t' := s2.toks + (nestedKind X.prog X.w).draws k) (o := .ext (NObj (kx X) s.heap.objs.size [(k, b, vv)])) (by rw [e]; trivial) (.inl rfl) (fun b u hb hu => (sb.2 b hb).trans hu) he (nobj_ok z1 (by show 1 ≤ sizeLine; decide) hm'), rfl, q2 vv ry⟩
def wDisp1N (fk fv : FE) : FE := fun ρ Q => fk ρ fun x => fv ρ fun y => match x, asD y with
  | .d k, some z => (∃ nk, k = nkD nk ∧ nk.depth ≤ 8 ∧ ∃ ks, nk = .tup ks) ∧ Q (.dcn [(k, z)])
  | _, _ => False
theorem q_disp1N {k : Nat} (hr : Room k X.A) (hk : QE X ek fk) (hv : QE X ev fv) : QE X (.Dict [some ek] [ev] pos) (wDisp1N fk fv) := by
  refine PE.imp (pe_disp1N hr.units hk hv) fun σ H Q h => ?_
  obtain ⟨T, B, G, L, M, Q', rfl, h, hf, hkk⟩ := h
  intro p hp
  have h0 := h.newDcn hp (ks := []) (kvs := []) .nil
  refine ⟨T, B, G, L, (.dcn [], some (.ref p)) :: M, _, rfl, h0, hf, fun x G1 H1 sx h1 w1 q1 => ?_⟩
  refine ⟨T, B, G1, L, (sx, some x) :: (.dcn [], some (.ref p)) :: M, _, rfl, h1, q1, fun y G2 H2 sy h2 w2 q2 => ?_⟩
  cases ey : asD sy with
  | none => cases sx <;> simp only [ey] at q2
  | some z =>
    match sx, q2, h2 with
    | .d kd, q2, h2 =>
      simp only [ey] at q2
      obtain ⟨⟨nk, rfl, h8, ks, rfl⟩, q2⟩ := q2
      obtain ⟨G3, h3, w3⟩ := SR.frzD h2 ey
      have hd := h3.dp
      have hx : Dp X.K G3 x (nkD (.tup ks)) := h3.tail.dp
      have hyr : ∃ b, x = .ref b := by
        have hx' := hx
        simp only [nkD] at hx'
        cases hx' with
        | tup hs hd => exact ⟨_, rfl⟩
      obtain ⟨b, rfl⟩ := hyr
      have h4 := h3.tail.tail
      obtain ⟨ow, xs, ep, hnr⟩ := h4.head
      cases hnr
      refine ⟨ep, b, .tup ks, rfl, dp_mono h4.gH _ _ hx, h8, fun u ru => ?_⟩
      exact hkk _ G3 _ _ (h4.writeN (.cons ⟨rfl, h8, hx, _, ru, hd⟩ .nil)) (w1.trans (w2.trans w3)) q2
theorem qt_inN {a b : Expr} {fa fb : FE} {k : Nat} (hr : Room k X.A) (ha : QE X a fa) (hb : QR X b fb) (hm : behindInMarks .In b = false := by rfl) : QT X (.Compare a [.In] [b] pos) (wB (wOp (gInN false) fa fb)) :=
  PT.imp (pt_cmpR (op_inN hr.units) ha hb hm) fun _ _ _ h => t_inN (t_b h)
theorem qt_notInN {a b : Expr} {fa fb : FE} {k : Nat} (hr : Room k X.A) (ha : QE X a fa) (hb : QR X b fb) (hm : behindInMarks .NotIn b = false := by rfl) : QT X (.Compare a [.NotIn] [b] pos) (wB (wOp (gInN true) fa fb)) :=
  PT.imp (pt_cmpR (op_notInN hr.units) ha hb hm) fun _ _ _ h => t_inN (t_b h)
end
end Z


/-! the keys in order -/
namespace Z
open PySem PySem.Spec PyProof.Rows L2
def SK : List Ky := [.k_center, .k_down, .k_east, .k_full, .k_left, .k_mark, .k_narrow, .k_ne, .k_north, .k_nw, .k_recall, .k_right, .k_se, .k_short, .k_south, .k_sw, .k_tall, .k_up, .k_west, .k_wide]
def leS (a b : Str) : Prop := ltCps b.cps.toList a.cps.toList = false
theorem leS_total : ((SK.map kyS).all fun a => (SK.map kyS).all fun b => ltCps a.cps.toList b.cps.toList || ltCps b.cps.toList a.cps.toList || decide (a = b)) = true := by decide +kernel
theorem leS_trans : ((SK.map kyS).all fun a => (SK.map kyS).all fun b => (SK.map kyS).all fun c => ltCps b.cps.toList a.cps.toList || ltCps c.cps.toList b.cps.toList || !ltCps c.cps.toList a.cps.toList) = true := by decide +kernel
theorem rising_pw : ∀ (p : Str) (l : List Str), (∀ x ∈ p :: l, x ∈ SK.map kyS) → risingS p l = true → (p :: l).Pairwise leS
  | p, [], _, _ => List.pairwise_singleton _ _
  | p, x :: r, hm, h => by
    unfold risingS at h
    rw [Bool.and_eq_true, Bool.not_eq_true'] at h
    have ih := rising_pw x r (fun y hy => hm y (List.mem_cons_of_mem _ hy)) h.2
    refine List.pairwise_cons.mpr ⟨fun y hy => ?_, ih⟩
    rcases List.mem_cons.mp hy with e | hy
    · rw [e]; exact h.1
    · have h1 : leS x y := (List.pairwise_cons.mp ih).1 y hy
      have t := List.all_eq_true.mp (List.all_eq_true.mp (List.all_eq_true.mp leS_trans p (hm p List.mem_cons_self)) x (hm x (by simp))) y (hm y (by simp [hy]))
      have h0 : ltCps x.cps.toList p.cps.toList = false := h.1
      unfold leS at h1 ⊢
      rw [h0, h1] at t
      simpa using t
theorem sorted_pw {l : List Str} (hm : ∀ x ∈ l, x ∈ SK.map kyS) (h : sortedS l = true) : l.Pairwise leS := by
  cases l with
  | nil => exact List.Pairwise.nil
  | cons p r => exact rising_pw p r hm h
theorem keys_uniq {ys ks : List Str} (hk : ks.Perm (SK.map kyS)) (hp : ys.Perm ks) (h : sortedS ys = true) : ys = SK.map kyS := by
  have p := hp.trans hk
  refine List.Perm.eq_of_pairwise (le := leS) (fun a b ha hb h1 h2 => ?_) (sorted_pw (fun x hx => p.subset hx) h) (sorted_pw (fun x hx => hx) (by decide +kernel)) p
  have t := List.all_eq_true.mp (List.all_eq_true.mp leS_total a (p.subset ha)) b hb
  unfold leS at h1 h2
  rw [h1, h2] at t
  simpa using t
def sMOVES : List Str := kMOVES.filterMap fun kv => match kv.1 with
  | .str x => some x
  | _ => none
theorem perm_MOVES : sMOVES.Perm (SK.map kyS) := by
  have : (sMOVES.isPerm (SK.map kyS)) = true := by decide +kernel
  exact List.isPerm_iff.mp this
theorem perm_law : (LKeys.map kyS).Perm (SK.map kyS) := by
  have : ((LKeys.map kyS).isPerm (SK.map kyS)) = true := by decide +kernel
  exact List.isPerm_iff.mp this
def ball_keys : FS :=
  (wRet (wSortK sMOVES))

def φall_keys : Phi := fun as Q => as = [] ∧ Q (.own (SK.map kyD))
theorem lall_keys : ∀ as Q, φall_keys as Q → as.length = 0 := by rintro _ Q ⟨rfl, h⟩; rfl
theorem wall_keys : ∀ as Q, φall_keys as Q → ball_keys { nx := fun _ => Q (.d .none), rt := fun sv _ => Q sv } (as ++ List.replicate (0 - as.length) .no) := by
  rintro _ Q ⟨rfl, h⟩
  simp only [ball_keys, wSortK, wSeq, wNext, wDrop, wRet, wRetO, wIfS, wSet, wSetD, wFrz, wThenFrz, wAsg, wPar, wPar3, wG, wGnil, wGcons, wGtup, wGS, wApp, wExt, wAugMul, wC, wV, wVR, wOp, wNil, wCons, wStar, wTup, wLst, wB, wAnd, wOr, wNot, wAndV, wOrV, wNotV, wIf, wFor, wIL, wIT, wIR1, wIR2, wIZ, wIE, wIRv, wComp, wComp2, wYes, wCall, argF, wNeg, wChain, gAdd, gSub, gInt, gInt0, gFdiv, gMod, gPow, gMul, gCmp, gLt, gLe, gGt, gGe, gEq, gNe, gIs, gIsNot, isNoneD, gIn, gIx, wNoP, wPart, wCut, gIxD, wKD, gInD, wDNew, wDisp, wPairs, w1, w2, gLen, gSum, gExt, gMax2, gMin2, gAbs, gIntC, gListC, gTupC, gBools, wIsi, wIsi2, wRevS, itemsS, intsOf, asD_d, asD_own, asDs, hideS, wipeS, spD, cDiv, cMod, List.cons_append, List.nil_append, List.length_cons, List.length_nil, List.getElem?_cons_zero, List.getElem?_cons_succ, List.set_cons_zero, List.set_cons_succ, List.replicate, List.sum_cons, List.sum_nil, List.map_cons, List.map_nil, true_and, Bool.false_eq_true, if_false, if_true]
  intro ys h1 h2
  rw [keys_uniq perm_MOVES h1 h2, List.map_map]
  exact h
/-- comes to rest, if it does not rest -/
def wFrz2 (i : Nat) (f : FS) : FS := fun E ρ => match ρ[i]? with
  | some (.own xs) => f E (ρ.set i (.d (.list xs)))
  | some (.d _) => f E ρ
  | _ => False
theorem q_frz2 {X : Cx} {st : Stmt} {f : FS} (i : Nat) (h : QS X st f) : QS X st (wFrz2 i f) := by
  refine PS.imp h fun D σ H h => ?_
  obtain ⟨T, B, G, L, E, rfl, h, hf, hk⟩ := h
  cases e : (L.map Prod.fst)[i]? with
  | none => exact absurd hf (by unfold wFrz2; rw [e]; exact id)
  | some sv =>
    obtain ⟨o, e1, e2⟩ := slot_at e
    have hi : i < L.length := (List.getElem?_eq_some_iff.mp e1).1
    unfold wFrz2 at hf; rw [e] at hf
    cases sv with
    | own xs =>
      have hp := h.ok (.own xs, o) (List.mem_of_getElem? e1)
      cases o with
      | none => exact hp.elim
      | some v =>
        obtain ⟨G1, h1, w1⟩ := (h.front (M := []) e1).frz
        have h2 : SR (kx X) T B G1 ([] ++ L.set i (.d (.list xs), some v)) H := h1.back hi
        refine ⟨T, B, G1, L.set i (.d (.list xs), some v), E, ?_, h2, by rw [List.map_set]; exact hf, by rw [List.length_set]; exact hk.mono w1⟩
        rw [List.map_set, set_same e2]
    | d x => exact ⟨T, B, G, L, E, rfl, h, hf, hk⟩
    | _ => exact hf.elim
end Z


/-! rows that do the same: the program's defs -/
namespace Z
open PySem PySem.Spec PyProof.Rows L2
def okF : List Mv → Bool
  | [] => true
  | .mark :: _ => true
  | .recall :: _ => false
  | _ :: r => okF r
def hdF : Mv → Bool
  | .whole | .first | .second => true
  | _ => false
def forgetsM : List Mv → Bool
  | [] => false
  | m :: r => hdF m && okF (m :: r)
def isRec (m : Mv) : Bool := decide (m = .recall)
def isMark (m : Mv) : Bool := decide (m = .mark)
theorem okF_no : ∀ {ms : List Mv}, ms.any isRec = false → okF ms = true
  | [], _ => rfl
  | m :: r, h => by
    rw [List.any_cons, Bool.or_eq_false_iff] at h
    have ih := okF_no h.2
    cases m <;> first
      | rfl
      | exact ih
      | (exact absurd h.1 (by decide))
theorem okF_at : ∀ {ms : List Mv}, ms.any isRec = true → ∃ j : Nat, ms[j]? = some .recall ∧ (∀ (k : Nat) (m : Mv), k < j → ms[k]? = some m → isRec m = false) ∧ okF ms = (ms.take j).any isMark
  | [], h => by simp at h
  | m :: r, h => by
    by_cases c : m = .recall
    · subst c
      exact ⟨0, rfl, fun k m hk => absurd hk (Nat.not_lt_zero _), rfl⟩
    · have h' : r.any isRec = true := by
        rw [List.any_cons] at h
        have : isRec m = false := by unfold isRec; simp [c]
        rw [this, Bool.false_or] at h; exact h
      obtain ⟨j, h1, h2, h3⟩ := okF_at h'
      refine ⟨j + 1, by simpa using h1, fun k m' hk e => ?_, ?_⟩
      · cases k with
        | zero => 
          have : m = m' := by simpa using e
          subst this
          unfold isRec; simp [c]
        | succ k => exact h2 k m' (by omega) (by simpa using e)
      · rw [List.take_succ_cons, List.any_cons]
        cases m <;> first
          | contradiction
          | rfl
          | (show okF r = _; rw [h3]; rfl)
theorem cut_to {xs : List PyData} {j : Nat} : cutD xs none (some (j : Int)) = xs.take j := by
  unfold cutD
  rw [HT.sIx_none, HT.sIx_nat]
  simp [List.take_eq_take_iff]
theorem cut_from {xs : List PyData} {j : Nat} : cutD xs (some (j : Int)) none = xs.drop j := by
  unfold cutD
  rw [HT.sIx_none, HT.sIx_nat]
  by_cases h : j ≤ xs.length
  · rw [Nat.min_eq_left h]; exact List.take_of_length_le (by simp)
  · rw [Nat.min_eq_right (by omega), List.drop_eq_nil_of_le (Nat.le_refl _), List.drop_eq_nil_of_le (by omega)]; simp
theorem strOk_mv (m : Mv) : PyData.canLay0 (mvD m) = true ∧ PyData.canLay0 (mvD' m) = true := by cases m <;> exact ⟨by decide +kernel, by decide +kernel⟩
theorem lay_mvs : ∀ ms : List Mv, PyData.canLayAll0 (ms.map mvD) = true
  | [] => rfl
  | m :: r => by rw [List.map_cons, PyData.canLayAll0, (strOk_mv m).1, lay_mvs r]; rfl
theorem lay_mvsL : ∀ ms : List Mv, PyData.canLayAll0 (ms.map mvD') = true
  | [] => rfl
  | m :: r => by rw [List.map_cons, PyData.canLayAll0, (strOk_mv m).2, lay_mvsL r]; rfl
theorem dep_mvs : ∀ ms : List Mv, PyData.depthAll (ms.map mvD) = 0
  | [] => rfl
  | m :: r => by rw [List.map_cons, PyData.depthAll, dep_mvs r]; rfl
theorem dep_mvsL : ∀ ms : List Mv, PyData.depthAll (ms.map mvD') = 0
  | [] => rfl
  | m :: r => by rw [List.map_cons, PyData.depthAll, dep_mvsL r]; rfl
theorem ok_mvs (a b : List Mv) : okEq (.list (a.map mvD)) (.list (b.map mvD)) = true := by
  simp [okEq, SeqAt.shaped, PyData.canLay0, PyData.depth, lay_mvs, dep_mvs]
theorem ok_mvsL (a b : List Mv) : okEq (.list (a.map mvD')) (.list (b.map mvD')) = true := by
  simp [okEq, SeqAt.shaped, PyData.canLay0, PyData.depth, lay_mvsL, dep_mvsL]
theorem eqv_mv (a b : Mv) : PyData.eqv (mvD a) (mvD b) = decide (a = b) := by
  unfold mvD; rw [eqv_str]; cases a <;> cases b <;> decide +kernel
theorem eqv_mvL (a b : Mv) : PyData.eqv (mvD' a) (mvD' b) = decide (a = b) := by
  unfold mvD'; rw [eqv_str]; cases a <;> cases b <;> decide +kernel
theorem eqv_mvs : ∀ (a b : List Mv), PyData.eqv (.list (a.map mvD)) (.list (b.map mvD)) = decide (a = b)
  | [], [] => rfl
  | [], _ :: _ => rfl
  | _ :: _, [] => rfl
  | x :: a, y :: b => by
    have ih := eqv_mvs a b
    simp only [PyData.eqv] at ih
    simp only [List.map_cons, PyData.eqv, PyData.eqvAll, ih, eqv_mv]
    rw [Bool.eq_iff_iff]; simp
theorem eqv_mvsL : ∀ (a b : List Mv), PyData.eqv (.list (a.map mvD')) (.list (b.map mvD')) = decide (a = b)
  | [], [] => rfl
  | [], _ :: _ => rfl
  | _ :: _, [] => rfl
  | x :: a, y :: b => by
    have ih := eqv_mvsL a b
    simp only [PyData.eqv] at ih
    simp only [List.map_cons, PyData.eqv, PyData.eqvAll, ih, eqv_mvL]
    rw [Bool.eq_iff_iff]; simp
theorem any_recP (ms : List Mv) : ((ms.map mvD).any fun x => PyData.eqv x (.str "recall")) = ms.any isRec := by
  rw [List.any_map]; congr 1; funext m; simp only [Function.comp, mvD, eP_recall, isRec]
theorem any_markP (ms : List Mv) : ((ms.map mvD).any fun x => PyData.eqv x (.str "mark")) = ms.any isMark := by
  rw [List.any_map]; congr 1; funext m; simp only [Function.comp, mvD, eP_mark, isMark]
theorem any_recL (ms : List Mv) : ((ms.map mvD').any fun x => PyData.eqv x (.str "recall")) = ms.any isRec := by
  rw [List.any_map]; congr 1; funext m; simp only [Function.comp, mvD', eL_recall, isRec]
theorem any_markL (ms : List Mv) : ((ms.map mvD').any fun x => PyData.eqv x (.str "mark")) = ms.any isMark := by
  rw [List.any_map]; congr 1; funext m; simp only [Function.comp, mvD', eL_mark, isMark]
theorem flat_mvs (ms : List Mv) : (ms.map mvD).all flatD = true := by rw [List.all_map]; exact List.all_eq_true.mpr fun _ _ => rfl
theorem flat_mvsL (ms : List Mv) : (ms.map mvD').all flatD = true := by rw [List.all_map]; exact List.all_eq_true.mpr fun _ _ => rfl
theorem any_hd (m : Mv) : ([PyData.str "whole", PyData.str "first", PyData.str "second"].any fun y => PyData.eqv y (mvD m)) = hdF m := by
  simp only [List.any_cons, List.any_nil, mvD, eP'_whole, eP'_first, eP'_second]; cases m <;> rfl
theorem any_hdL (m : Mv) : ([PyData.str "whole", PyData.str "first", PyData.str "second"].any fun y => PyData.eqv y (mvD' m)) = hdF m := by
  unfold mvD'; simp only [List.any_cons, List.any_nil, eqv_str]; cases m <;> decide +kernel
def bforgets : FS :=
  (wSeq (wIfS (wOr (wB (wOp gEq (wV 0) (wLst wNil))) (wB (wOp (gIn true) (wOp gIx (wV 0) (wC (.int 0))) (wTup (wCons (wC (.str "whole")) (wCons (wC (.str "first")) (wCons (wC (.str "second")) wNil))))))) (wRet (wC (.bool false))) wNext) (wRet (wOrV (wOp (gIn true) (wC (.str "recall")) (wV 0)) (wOp (gIn false) (wC (.str "mark")) (wCut (wV 0) wNoP (wPart (wIndex (wV 0) (wC (.str "recall")))))))))

def φforgets : Phi := fun as Q => ∃ ms, as = [.d (mvsD ms)] ∧ Q (.d (.bool (forgetsM ms)))
theorem lforgets : ∀ as Q, φforgets as Q → as.length = 1 := by rintro _ Q ⟨ms, rfl, h⟩; rfl
theorem f3 : [PyData.str "whole", PyData.str "first", PyData.str "second"].all flatD = true := rfl
theorem wforgets : ∀ as Q, φforgets as Q → bforgets { nx := fun _ => Q (.d .none), rt := fun sv _ => Q sv } (as ++ List.replicate (1 - as.length) .no) := by
  rintro _ Q ⟨ms, rfl, h⟩
  have ok0 : okEq (.list (ms.map mvD)) (.list []) = true := ok_mvs ms []
  have eq0 : PyData.eqv (.list (ms.map mvD)) (.list []) = decide (ms = []) := eqv_mvs ms []
  simp only [bforgets, mvsD, ok0, eq0, wIndex, wGlst, wSeq, wNext, wDrop, wRet, wRetO, wIfS, wSet, wSetD, wFrz, wThenFrz, wAsg, wPar, wPar3, wG, wGnil, wGcons, wGtup, wGS, wApp, wExt, wAugMul, wC, wV, wVR, wOp, wNil, wCons, wStar, wTup, wLst, wB, wAnd, wOr, wNot, wAndV, wOrV, wNotV, wIf, wFor, wIL, wIT, wIR1, wIR2, wIZ, wIE, wIRv, wComp, wComp2, wYes, wCall, argF, wNeg, wChain, gAdd, gSub, gInt, gInt0, gFdiv, gMod, gPow, gMul, gCmp, gLt, gLe, gGt, gGe, gEq, gNe, gIs, gIsNot, isNoneD, gIn, gIx, wNoP, wPart, wCut, gIxD, wKD, gInD, wDNew, wDisp, wPairs, w1, w2, gLen, gSum, gExt, gMax2, gMin2, gAbs, gIntC, gListC, gTupC, gBools, wIsi, wIsi2, wRevS, itemsS, intsOf, asD_d, asD_own, asDs, hideS, wipeS, spD, cDiv, cMod, List.cons_append, List.nil_append, List.length_cons, List.length_nil, List.getElem?_cons_zero, List.getElem?_cons_succ, List.set_cons_zero, List.set_cons_succ, List.replicate, List.sum_cons, List.sum_nil, List.map_cons, List.map_nil, true_and, Bool.false_eq_true, if_false, if_true]
  refine ⟨by decide, ?_⟩
  cases hms : ms with
  | nil => rw [hms] at h; exact h
  | cons m r =>
    rw [← hms]
    have e0 : atI (ms.map mvD) 0 = some (mvD m) := by rw [hms]; exact ix0 _ _
    have fm : flatD (mvD m) = true := rfl
    rw [if_neg (by rw [hms]; simp)]
    simp only [e0, any_hd, f3, fm, any_recP, flat_mvs, wIndex, wGlst, wSeq, wNext, wDrop, wRet, wRetO, wIfS, wSet, wSetD, wFrz, wThenFrz, wAsg, wPar, wPar3, wG, wGnil, wGcons, wGtup, wGS, wApp, wExt, wAugMul, wC, wV, wVR, wOp, wNil, wCons, wStar, wTup, wLst, wB, wAnd, wOr, wNot, wAndV, wOrV, wNotV, wIf, wFor, wIL, wIT, wIR1, wIR2, wIZ, wIE, wIRv, wComp, wComp2, wYes, wCall, argF, wNeg, wChain, gAdd, gSub, gInt, gInt0, gFdiv, gMod, gPow, gMul, gCmp, gLt, gLe, gGt, gGe, gEq, gNe, gIs, gIsNot, isNoneD, gIn, gIx, wNoP, wPart, wCut, gIxD, wKD, gInD, wDNew, wDisp, wPairs, w1, w2, gLen, gSum, gExt, gMax2, gMin2, gAbs, gIntC, gListC, gTupC, gBools, wIsi, wIsi2, wRevS, itemsS, intsOf, asD_d, asD_own, asDs, hideS, wipeS, spD, cDiv, cMod, List.cons_append, List.nil_append, List.length_cons, List.length_nil, List.getElem?_cons_zero, List.getElem?_cons_succ, List.set_cons_zero, List.set_cons_succ, List.replicate, List.sum_cons, List.sum_nil, List.map_cons, List.map_nil, true_and, Bool.false_eq_true, if_false, if_true]
    refine ⟨by decide, ?_⟩
    have hfg : forgetsM ms = (hdF m && okF ms) := by rw [hms]; rfl
    rw [hfg] at h
    cases hm : hdF m with
    | false => 
      rw [hm] at h
      simp only [Bool.not_false, if_true]
      exact h
    | true =>
      rw [hm, Bool.true_and] at h
      simp only [Bool.not_true, Bool.false_eq_true, if_false]
      cases ha : ms.any isRec with
      | false =>
        rw [okF_no ha] at h
        exact ⟨⟨rfl, trivial⟩, h⟩
      | true =>
        obtain ⟨j, h1, h2, h3⟩ := okF_at ha
        rw [h3] at h
        refine ⟨⟨rfl, trivial⟩, ⟨rfl, trivial⟩, j, mvD .recall, by rw [List.getElem?_map, h1]; rfl, by decide +kernel, fun k z' hk e => ?_, ?_⟩
        · rw [List.getElem?_map] at e
          cases e5 : ms[k]? with
          | none => rw [e5] at e; cases e
          | some m' =>
            rw [e5] at e
            cases e
            have := h2 k m' hk e5
            simp only [mvD, eP_recall]; exact this
        · simp only [cut_to, ← List.map_take, any_markP, flat_mvs, wIndex, wGlst, wSeq, wNext, wDrop, wRet, wRetO, wIfS, wSet, wSetD, wFrz, wThenFrz, wAsg, wPar, wPar3, wG, wGnil, wGcons, wGtup, wGS, wApp, wExt, wAugMul, wC, wV, wVR, wOp, wNil, wCons, wStar, wTup, wLst, wB, wAnd, wOr, wNot, wAndV, wOrV, wNotV, wIf, wFor, wIL, wIT, wIR1, wIR2, wIZ, wIE, wIRv, wComp, wComp2, wYes, wCall, argF, wNeg, wChain, gAdd, gSub, gInt, gInt0, gFdiv, gMod, gPow, gMul, gCmp, gLt, gLe, gGt, gGe, gEq, gNe, gIs, gIsNot, isNoneD, gIn, gIx, wNoP, wPart, wCut, gIxD, wKD, gInD, wDNew, wDisp, wPairs, w1, w2, gLen, gSum, gExt, gMax2, gMin2, gAbs, gIntC, gListC, gTupC, gBools, wIsi, wIsi2, wRevS, itemsS, intsOf, asD_d, asD_own, asDs, hideS, wipeS, spD, cDiv, cMod, List.cons_append, List.nil_append, List.length_cons, List.length_nil, List.getElem?_cons_zero, List.getElem?_cons_succ, List.set_cons_zero, List.set_cons_succ, List.replicate, List.sum_cons, List.sum_nil, List.map_cons, List.map_nil, true_and, Bool.false_eq_true, if_false, if_true]
          exact ⟨⟨rfl, trivial⟩, h⟩
/-- the last place from which the rest forgets -/
def keptFrom (ms : List Mv) : List Nat → List Mv
  | [] => ms
  | k :: r => if forgetsM (ms.drop k) then ms.drop k else keptFrom ms r
def keptM (ms : List Mv) : List Mv := keptFrom ms ((List.range ms.length).map fun i => ms.length - 1 - i)
def bkept_moves : FS :=
  (wSeq (wFor (wIRv (w1 gLen (wV 0))) (wG 1) (wIfS (wB (wCall φforgets (wCons (wCut (wV 0) (wPart (wV 1)) wNoP) wNil))) (wRet (wCut (wV 0) (wPart (wV 1)) wNoP)) wNext)) (wRet (wV 0)))

def φkept_moves : Phi := fun as Q => ∃ ms, as = [.d (mvsD ms)] ∧ ms.length ≤ 1000 ∧ ∀ sv, asD sv = some (mvsD (keptM ms)) → Q sv
theorem lkept_moves : ∀ as Q, φkept_moves as Q → as.length = 1 := by rintro _ Q ⟨ms, rfl, _, h⟩; rfl
theorem wkept_moves : ∀ as Q, φkept_moves as Q → bkept_moves { nx := fun _ => Q (.d .none), rt := fun sv _ => Q sv } (as ++ List.replicate (2 - as.length) .no) := by
  rintro _ Q ⟨ms, rfl, hl, h⟩
  have h62 : (2 : Int) ^ 62 = 4611686018427387904 := by decide
  simp only [bkept_moves, mvsD, List.length_map, wIndex, wGlst, wSeq, wNext, wDrop, wRet, wRetO, wIfS, wSet, wSetD, wFrz, wThenFrz, wAsg, wPar, wPar3, wG, wGnil, wGcons, wGtup, wGS, wApp, wExt, wAugMul, wC, wV, wVR, wOp, wNil, wCons, wStar, wTup, wLst, wB, wAnd, wOr, wNot, wAndV, wOrV, wNotV, wIf, wFor, wIL, wIT, wIR1, wIR2, wIZ, wIE, wIRv, wComp, wComp2, wYes, wCall, argF, wNeg, wChain, gAdd, gSub, gInt, gInt0, gFdiv, gMod, gPow, gMul, gCmp, gLt, gLe, gGt, gGe, gEq, gNe, gIs, gIsNot, isNoneD, gIn, gIx, wNoP, wPart, wCut, gIxD, wKD, gInD, wDNew, wDisp, wPairs, w1, w2, gLen, gSum, gExt, gMax2, gMin2, gAbs, gIntC, gListC, gTupC, gBools, wIsi, wIsi2, wRevS, itemsS, intsOf, asD_d, asD_own, asDs, hideS, wipeS, spD, cDiv, cMod, List.cons_append, List.nil_append, List.length_cons, List.length_nil, List.getElem?_cons_zero, List.getElem?_cons_succ, List.set_cons_zero, List.set_cons_succ, List.replicate, List.sum_cons, List.sum_nil, List.map_cons, List.map_nil, true_and, Bool.false_eq_true, if_false, if_true]
  refine ⟨by omega, ?_⟩
  have e0 : ((ms.length : Nat) : Int).toNat = ms.length := Int.toNat_natCast _
  rw [e0]
  refine forL_inv (I := fun r ρ => ∃ o, ρ = [.d (mvsD ms), o] ∧ (∀ i ∈ r, i < ms.length) ∧ keptM ms = keptFrom ms (r.map fun i => ms.length - 1 - i)) ⟨.no, rfl, fun i hi => List.mem_range.mp hi, rfl⟩ ?_ ?_
  · rintro i r ρ _ ⟨o, rfl, hlt, hk⟩ N hN
    have hi := hlt i List.mem_cons_self
    have e1 : ((ms.length : Nat) : Int) - 1 - (i : Nat) = ((ms.length - 1 - i : Nat) : Int) := by omega
    simp only [mvsD, e1, cut_from, ← List.map_drop, wIndex, wGlst, wSeq, wNext, wDrop, wRet, wRetO, wIfS, wSet, wSetD, wFrz, wThenFrz, wAsg, wPar, wPar3, wG, wGnil, wGcons, wGtup, wGS, wApp, wExt, wAugMul, wC, wV, wVR, wOp, wNil, wCons, wStar, wTup, wLst, wB, wAnd, wOr, wNot, wAndV, wOrV, wNotV, wIf, wFor, wIL, wIT, wIR1, wIR2, wIZ, wIE, wIRv, wComp, wComp2, wYes, wCall, argF, wNeg, wChain, gAdd, gSub, gInt, gInt0, gFdiv, gMod, gPow, gMul, gCmp, gLt, gLe, gGt, gGe, gEq, gNe, gIs, gIsNot, isNoneD, gIn, gIx, wNoP, wPart, wCut, gIxD, wKD, gInD, wDNew, wDisp, wPairs, w1, w2, gLen, gSum, gExt, gMax2, gMin2, gAbs, gIntC, gListC, gTupC, gBools, wIsi, wIsi2, wRevS, itemsS, intsOf, asD_d, asD_own, asDs, hideS, wipeS, spD, cDiv, cMod, List.cons_append, List.nil_append, List.length_cons, List.length_nil, List.getElem?_cons_zero, List.getElem?_cons_succ, List.set_cons_zero, List.set_cons_succ, List.replicate, List.sum_cons, List.sum_nil, List.map_cons, List.map_nil, true_and, Bool.false_eq_true, if_false, if_true]
    refine ⟨ms.drop (ms.length - 1 - i), rfl, ?_⟩
    rw [List.map_cons, keptFrom] at hk
    cases hf : forgetsM (ms.drop (ms.length - 1 - i)) with
    | true =>
      rw [hf, if_pos rfl] at hk
      simp only [if_true]
      exact h _ (by rw [hk]; rfl)
    | false =>
      rw [hf, if_neg Bool.false_ne_true] at hk
      simp only [Bool.false_eq_true, if_false]
      exact hN _ ⟨_, rfl, fun j hj => hlt j (List.mem_cons_of_mem _ hj), hk⟩
  · rintro ρ ⟨o, rfl, _, hk⟩
    simp only [wIndex, wGlst, wSeq, wNext, wDrop, wRet, wRetO, wIfS, wSet, wSetD, wFrz, wThenFrz, wAsg, wPar, wPar3, wG, wGnil, wGcons, wGtup, wGS, wApp, wExt, wAugMul, wC, wV, wVR, wOp, wNil, wCons, wStar, wTup, wLst, wB, wAnd, wOr, wNot, wAndV, wOrV, wNotV, wIf, wFor, wIL, wIT, wIR1, wIR2, wIZ, wIE, wIRv, wComp, wComp2, wYes, wCall, argF, wNeg, wChain, gAdd, gSub, gInt, gInt0, gFdiv, gMod, gPow, gMul, gCmp, gLt, gLe, gGt, gGe, gEq, gNe, gIs, gIsNot, isNoneD, gIn, gIx, wNoP, wPart, wCut, gIxD, wKD, gInD, wDNew, wDisp, wPairs, w1, w2, gLen, gSum, gExt, gMax2, gMin2, gAbs, gIntC, gListC, gTupC, gBools, wIsi, wIsi2, wRevS, itemsS, intsOf, asD_d, asD_own, asDs, hideS, wipeS, spD, cDiv, cMod, List.cons_append, List.nil_append, List.length_cons, List.length_nil, List.getElem?_cons_zero, List.getElem?_cons_succ, List.set_cons_zero, List.set_cons_succ, List.replicate, List.sum_cons, List.sum_nil, List.map_cons, List.map_nil, true_and, Bool.false_eq_true, if_false, if_true]
    exact h _ (by rw [hk]; rfl)
def kENOUGH : PyData := .int 28
def btried_spans : FS :=
  (wSeq (wIfS (wB (w1 (gBools fun bs => bs.all id) (wComp (wIT (wV 1)) (wG 3) wYes (wCall φforgets (wCons (wV 3) wNil)) [3]))) (wRet (wLst (wCons (wTup (wCons (wC (.int 0)) (wCons (wC (.int 1)) (wCons (wOp gSub (wV 0) (wC (.int 1))) wNil)))) wNil))) wNext) (wRet (wComp (wIL (wCall φspans_of (wCons (wV 0) wNil))) (wG 2) (wB (wOp gLe (w1 (gExt maxI) (wV 2)) (wC kENOUGH))) (wV 2) [2])))

def bigM (x : Spn) : Bool := decide (maxI [x.a, x.s, x.b] ≤ 28)
def triedL (w : Nat) (fs : List (List Mv)) : List Spn := if fs.all forgetsM = true then [⟨0, 1, w - 1⟩] else (spansM w).filter bigM
def triedM (w : Nat) (f s : List Mv) : List Spn := if (forgetsM f && forgetsM s) = true then [⟨0, 1, w - 1⟩] else (spansM w).filter bigM
theorem tried_two (w : Nat) (f s : List Mv) : triedL w [f, s] = triedM w f s := by
  unfold triedL triedM
  simp only [List.all_cons, List.all_nil, Bool.and_true]
def φtried_spans : Phi := fun as Q => ∃ (w : Nat) (fs : List (List Mv)), as = [.d (.int w), .d (.tuple (fs.map mvsD))] ∧ w ≤ 1000 ∧ fs.length ≤ 1000 ∧ Q (.own ((triedL w fs).map spD))
theorem ltried_spans : ∀ as Q, φtried_spans as Q → as.length = 2 := by rintro _ Q ⟨w, fs, rfl, _, h⟩; rfl
theorem wtried_spans : ∀ as Q, φtried_spans as Q → btried_spans { nx := fun _ => Q (.d .none), rt := fun sv _ => Q sv } (as ++ List.replicate (4 - as.length) .no) := by
  rintro _ Q ⟨w, fs, rfl, hw, hfs, h⟩
  have hsz : (2 : Nat) ^ 24 = 16777216 := by decide
  simp only [btried_spans, List.length_map, wIndex, wGlst, wSeq, wNext, wDrop, wRet, wRetO, wIfS, wSet, wSetD, wFrz, wThenFrz, wAsg, wPar, wPar3, wG, wGnil, wGcons, wGtup, wGS, wApp, wExt, wAugMul, wC, wV, wVR, wOp, wNil, wCons, wStar, wTup, wLst, wB, wAnd, wOr, wNot, wAndV, wOrV, wNotV, wIf, wFor, wIL, wIT, wIR1, wIR2, wIZ, wIE, wIRv, wComp, wComp2, wYes, wCall, argF, wNeg, wChain, gAdd, gSub, gInt, gInt0, gFdiv, gMod, gPow, gMul, gCmp, gLt, gLe, gGt, gGe, gEq, gNe, gIs, gIsNot, isNoneD, gIn, gIx, wNoP, wPart, wCut, gIxD, wKD, gInD, wDNew, wDisp, wPairs, w1, w2, gLen, gSum, gExt, gMax2, gMin2, gAbs, gIntC, gListC, gTupC, gBools, wIsi, wIsi2, wRevS, itemsS, intsOf, asD_d, asD_own, asDs, hideS, wipeS, spD, cDiv, cMod, List.cons_append, List.nil_append, List.length_cons, List.length_nil, List.getElem?_cons_zero, List.getElem?_cons_succ, List.set_cons_zero, List.set_cons_succ, List.replicate, List.sum_cons, List.sum_nil, List.map_cons, List.map_nil, true_and, Bool.false_eq_true, if_false, if_true]
  refine ⟨by unfold sizeLine; omega, ?_⟩
  refine compL_map (out := fun ms => .bool (forgetsM ms)) (fun ms _ R hR => ?_) ?_
  · simp only [wIndex, wGlst, wSeq, wNext, wDrop, wRet, wRetO, wIfS, wSet, wSetD, wFrz, wThenFrz, wAsg, wPar, wPar3, wG, wGnil, wGcons, wGtup, wGS, wApp, wExt, wAugMul, wC, wV, wVR, wOp, wNil, wCons, wStar, wTup, wLst, wB, wAnd, wOr, wNot, wAndV, wOrV, wNotV, wIf, wFor, wIL, wIT, wIR1, wIR2, wIZ, wIE, wIRv, wComp, wComp2, wYes, wCall, argF, wNeg, wChain, gAdd, gSub, gInt, gInt0, gFdiv, gMod, gPow, gMul, gCmp, gLt, gLe, gGt, gGe, gEq, gNe, gIs, gIsNot, isNoneD, gIn, gIx, wNoP, wPart, wCut, gIxD, wKD, gInD, wDNew, wDisp, wPairs, w1, w2, gLen, gSum, gExt, gMax2, gMin2, gAbs, gIntC, gListC, gTupC, gBools, wIsi, wIsi2, wRevS, itemsS, intsOf, asD_d, asD_own, asDs, hideS, wipeS, spD, cDiv, cMod, List.cons_append, List.nil_append, List.length_cons, List.length_nil, List.getElem?_cons_zero, List.getElem?_cons_succ, List.set_cons_zero, List.set_cons_succ, List.replicate, List.sum_cons, List.sum_nil, List.map_cons, List.map_nil, true_and, Bool.false_eq_true, if_false, if_true]
    exact ⟨ms, rfl, hR⟩
  have eb : boolsOf (fs.map fun ms => PyData.bool (forgetsM ms)) = some (fs.map forgetsM) := by
    have := boolsOf_map (fs.map forgetsM)
    rw [List.map_map] at this
    exact this
  have ea : (fs.map forgetsM).all id = fs.all forgetsM := by rw [List.all_map]; rfl
  simp only [eb, ea, kENOUGH, wIndex, wGlst, wSeq, wNext, wDrop, wRet, wRetO, wIfS, wSet, wSetD, wFrz, wThenFrz, wAsg, wPar, wPar3, wG, wGnil, wGcons, wGtup, wGS, wApp, wExt, wAugMul, wC, wV, wVR, wOp, wNil, wCons, wStar, wTup, wLst, wB, wAnd, wOr, wNot, wAndV, wOrV, wNotV, wIf, wFor, wIL, wIT, wIR1, wIR2, wIZ, wIE, wIRv, wComp, wComp2, wYes, wCall, argF, wNeg, wChain, gAdd, gSub, gInt, gInt0, gFdiv, gMod, gPow, gMul, gCmp, gLt, gLe, gGt, gGe, gEq, gNe, gIs, gIsNot, isNoneD, gIn, gIx, wNoP, wPart, wCut, gIxD, wKD, gInD, wDNew, wDisp, wPairs, w1, w2, gLen, gSum, gExt, gMax2, gMin2, gAbs, gIntC, gListC, gTupC, gBools, wIsi, wIsi2, wRevS, itemsS, intsOf, asD_d, asD_own, asDs, hideS, wipeS, spD, cDiv, cMod, List.cons_append, List.nil_append, List.length_cons, List.length_nil, List.getElem?_cons_zero, List.getElem?_cons_succ, List.set_cons_zero, List.set_cons_succ, List.replicate, List.sum_cons, List.sum_nil, List.map_cons, List.map_nil, true_and, Bool.false_eq_true, if_false, if_true]
  unfold triedL at h
  cases c : fs.all forgetsM with
  | true =>
    rw [c, if_pos rfl] at h
    simp only [if_true]
    exact ⟨by decide, by decide, h⟩
  | false =>
    rw [c, if_neg Bool.false_ne_true] at h
    simp only [Bool.false_eq_true, if_false]
    refine ⟨w, rfl, hw, ?_⟩
    have hs := spans_len w
    have d : w * w ≤ 1000 * 1000 := Nat.mul_le_mul hw hw
    simp only [List.length_map, wIndex, wGlst, wSeq, wNext, wDrop, wRet, wRetO, wIfS, wSet, wSetD, wFrz, wThenFrz, wAsg, wPar, wPar3, wG, wGnil, wGcons, wGtup, wGS, wApp, wExt, wAugMul, wC, wV, wVR, wOp, wNil, wCons, wStar, wTup, wLst, wB, wAnd, wOr, wNot, wAndV, wOrV, wNotV, wIf, wFor, wIL, wIT, wIR1, wIR2, wIZ, wIE, wIRv, wComp, wComp2, wYes, wCall, argF, wNeg, wChain, gAdd, gSub, gInt, gInt0, gFdiv, gMod, gPow, gMul, gCmp, gLt, gLe, gGt, gGe, gEq, gNe, gIs, gIsNot, isNoneD, gIn, gIx, wNoP, wPart, wCut, gIxD, wKD, gInD, wDNew, wDisp, wPairs, w1, w2, gLen, gSum, gExt, gMax2, gMin2, gAbs, gIntC, gListC, gTupC, gBools, wIsi, wIsi2, wRevS, itemsS, intsOf, asD_d, asD_own, asDs, hideS, wipeS, spD, cDiv, cMod, List.cons_append, List.nil_append, List.length_cons, List.length_nil, List.getElem?_cons_zero, List.getElem?_cons_succ, List.set_cons_zero, List.set_cons_succ, List.replicate, List.sum_cons, List.sum_nil, List.map_cons, List.map_nil, true_and, Bool.false_eq_true, if_false, if_true]
    refine ⟨by unfold sizeLine; omega, compL_pure (p := bigM) (out := spD) (fun x hx R hR => ?_) h⟩
    simp only [wIndex, wGlst, wSeq, wNext, wDrop, wRet, wRetO, wIfS, wSet, wSetD, wFrz, wThenFrz, wAsg, wPar, wPar3, wG, wGnil, wGcons, wGtup, wGS, wApp, wExt, wAugMul, wC, wV, wVR, wOp, wNil, wCons, wStar, wTup, wLst, wB, wAnd, wOr, wNot, wAndV, wOrV, wNotV, wIf, wFor, wIL, wIT, wIR1, wIR2, wIZ, wIE, wIRv, wComp, wComp2, wYes, wCall, argF, wNeg, wChain, gAdd, gSub, gInt, gInt0, gFdiv, gMod, gPow, gMul, gCmp, gLt, gLe, gGt, gGe, gEq, gNe, gIs, gIsNot, isNoneD, gIn, gIx, wNoP, wPart, wCut, gIxD, wKD, gInD, wDNew, wDisp, wPairs, w1, w2, gLen, gSum, gExt, gMax2, gMin2, gAbs, gIntC, gListC, gTupC, gBools, wIsi, wIsi2, wRevS, itemsS, intsOf, asD_d, asD_own, asDs, hideS, wipeS, spD, cDiv, cMod, List.cons_append, List.nil_append, List.length_cons, List.length_nil, List.getElem?_cons_zero, List.getElem?_cons_succ, List.set_cons_zero, List.set_cons_succ, List.replicate, List.sum_cons, List.sum_nil, List.map_cons, List.map_nil, true_and, Bool.false_eq_true, if_false, if_true]
    refine ⟨by simp, ?_⟩
    by_cases c : maxI [x.a, x.s, x.b] ≤ 28 <;> simp only [bigM, c, decide_true, decide_false, if_true, if_false, Bool.false_eq_true] at hR ⊢ <;> exact hR
theorem tried_len (w : Nat) (f s : List Mv) (h : w ≤ 1000) : (triedM w f s).length ≤ 1000000 := by
  unfold triedM
  split
  · simp
  · have hs := spans_len w
    have d : w * w ≤ 1000 * 1000 := Nat.mul_le_mul h h
    have := List.length_filter_le bigM (spansM w)
    omega
theorem kept_len (ms : List Mv) : (keptM ms).length ≤ ms.length := by
  have : ∀ l, (keptFrom ms l).length ≤ ms.length := by
    intro l
    induction l with
    | nil => exact Nat.le_refl _
    | cons k r ih => 
      unfold keptFrom
      split
      · simp
      · exact ih
  exact this _
def difM (f s : List Mv) (x : Spn) : Bool := !decide (endM x f = endM x s)
def partM (f0 s0 : List Mv) : Option Spn := if keptM f0 = keptM s0 then none else ((List.range 84).flatMap fun i => triedM (1 + i) (keptM f0) (keptM s0)).find? (difM (keptM f0) (keptM s0))
def optD : Option Spn → PyData
  | none => .none
  | some x => spD x
def bpsT : FS :=
  (wSeq (wIfS (wB (wOp gEq (wV 0) (wV 1))) (wRet (wC .none)) wNext) (wSeq (wFor (wIR2 (wCons (wC (.int 1)) (wCons (wOp gAdd (wOp gMul (wC (.int 3)) (wC kENOUGH)) (wC (.int 1))) wNil))) (wG 2) (wFor (wIL (wCall φtried_spans (wCons (wV 2) (wCons (wTup (wCons (wV 0) (wCons (wV 1) wNil))) wNil)))) (wG 3) (wIfS (wB (wOp gNe (wCall φlast_span (wCons (wV 3) (wCons (wV 0) wNil))) (wCall φlast_span (wCons (wV 3) (wCons (wV 1) wNil))))) (wRet (wV 3)) wNext))) (wRet (wC .none))))

theorem rngD_map (lo : Int) (n : Nat) : rngD lo n = (List.range n).map fun i => .int (lo + (i : Nat)) := rfl
theorem find_flat {α β : Type} (g : α → List β) (p : β → Bool) (x : α) (r : List α) : ((x :: r).flatMap g).find? p = (g x ++ r.flatMap g).find? p := by rw [List.flatMap_cons]
theorem wpsT {f s : List Mv} {Q : SV → Prop} (hf : f.length ≤ 1000) (hs : s.length ≤ 1000) (h : Q (.d (optD (if f = s then none else ((List.range 84).flatMap fun i => triedM (1 + i) f s).find? (difM f s))))) :
    bpsT { nx := fun _ => Q (.d .none), rt := fun sv _ => Q sv } [.d (mvsD f), .d (mvsD s), .no, .no] := by
  simp only [bpsT, mvsD, kENOUGH, ok_mvs, eqv_mvs, wIndex, wGlst, wSeq, wNext, wDrop, wRet, wRetO, wIfS, wSet, wSetD, wFrz, wThenFrz, wAsg, wPar, wPar3, wG, wGnil, wGcons, wGtup, wGS, wApp, wExt, wAugMul, wC, wV, wVR, wOp, wNil, wCons, wStar, wTup, wLst, wB, wAnd, wOr, wNot, wAndV, wOrV, wNotV, wIf, wFor, wIL, wIT, wIR1, wIR2, wIZ, wIE, wIRv, wComp, wComp2, wYes, wCall, argF, wNeg, wChain, gAdd, gSub, gInt, gInt0, gFdiv, gMod, gPow, gMul, gCmp, gLt, gLe, gGt, gGe, gEq, gNe, gIs, gIsNot, isNoneD, gIn, gIx, wNoP, wPart, wCut, gIxD, wKD, gInD, wDNew, wDisp, wPairs, w1, w2, gLen, gSum, gExt, gMax2, gMin2, gAbs, gIntC, gListC, gTupC, gBools, wIsi, wIsi2, wRevS, itemsS, intsOf, asD_d, asD_own, asDs, hideS, wipeS, spD, cDiv, cMod, List.cons_append, List.nil_append, List.length_cons, List.length_nil, List.getElem?_cons_zero, List.getElem?_cons_succ, List.set_cons_zero, List.set_cons_succ, List.replicate, List.sum_cons, List.sum_nil, List.map_cons, List.map_nil, true_and, Bool.false_eq_true, if_false, if_true]
  by_cases c : f = s
  · rw [if_pos c] at h
    rw [if_pos (decide_eq_true c)]
    exact h
  rw [if_neg c] at h
  rw [if_neg (by simp [c])]
  refine ⟨.inl (by decide), by decide, ?_⟩
  show wForL _ _ ((List.range 84).map fun i => PyData.int (1 + (i : Nat))) _ _
  refine forL_inv (I := fun r ρ => ∃ o o2, ρ = [.d (mvsD f), .d (mvsD s), o, o2] ∧ (∀ i ∈ r, i < 84) ∧ Q (.d (optD ((r.flatMap fun i => triedM (1 + i) f s).find? (difM f s))))) ⟨.no, .no, rfl, fun i hi => List.mem_range.mp hi, h⟩ ?_ ?_
  · rintro i r ρ _ ⟨o, o2, rfl, hlt, hq⟩ N hN
    have hi := hlt i List.mem_cons_self
    simp only [mvsD, wIndex, wGlst, wSeq, wNext, wDrop, wRet, wRetO, wIfS, wSet, wSetD, wFrz, wThenFrz, wAsg, wPar, wPar3, wG, wGnil, wGcons, wGtup, wGS, wApp, wExt, wAugMul, wC, wV, wVR, wOp, wNil, wCons, wStar, wTup, wLst, wB, wAnd, wOr, wNot, wAndV, wOrV, wNotV, wIf, wFor, wIL, wIT, wIR1, wIR2, wIZ, wIE, wIRv, wComp, wComp2, wYes, wCall, argF, wNeg, wChain, gAdd, gSub, gInt, gInt0, gFdiv, gMod, gPow, gMul, gCmp, gLt, gLe, gGt, gGe, gEq, gNe, gIs, gIsNot, isNoneD, gIn, gIx, wNoP, wPart, wCut, gIxD, wKD, gInD, wDNew, wDisp, wPairs, w1, w2, gLen, gSum, gExt, gMax2, gMin2, gAbs, gIntC, gListC, gTupC, gBools, wIsi, wIsi2, wRevS, itemsS, intsOf, asD_d, asD_own, asDs, hideS, wipeS, spD, cDiv, cMod, List.cons_append, List.nil_append, List.length_cons, List.length_nil, List.getElem?_cons_zero, List.getElem?_cons_succ, List.set_cons_zero, List.set_cons_succ, List.replicate, List.sum_cons, List.sum_nil, List.map_cons, List.map_nil, true_and, Bool.false_eq_true, if_false, if_true]
    refine ⟨by decide, 1 + i, [f, s], by simp [mvsD], by omega, by simp, ?_⟩
    rw [find_flat] at hq
    rw [tried_two]
    simp only [wIndex, wGlst, wSeq, wNext, wDrop, wRet, wRetO, wIfS, wSet, wSetD, wFrz, wThenFrz, wAsg, wPar, wPar3, wG, wGnil, wGcons, wGtup, wGS, wApp, wExt, wAugMul, wC, wV, wVR, wOp, wNil, wCons, wStar, wTup, wLst, wB, wAnd, wOr, wNot, wAndV, wOrV, wNotV, wIf, wFor, wIL, wIT, wIR1, wIR2, wIZ, wIE, wIRv, wComp, wComp2, wYes, wCall, argF, wNeg, wChain, gAdd, gSub, gInt, gInt0, gFdiv, gMod, gPow, gMul, gCmp, gLt, gLe, gGt, gGe, gEq, gNe, gIs, gIsNot, isNoneD, gIn, gIx, wNoP, wPart, wCut, gIxD, wKD, gInD, wDNew, wDisp, wPairs, w1, w2, gLen, gSum, gExt, gMax2, gMin2, gAbs, gIntC, gListC, gTupC, gBools, wIsi, wIsi2, wRevS, itemsS, intsOf, asD_d, asD_own, asDs, hideS, wipeS, spD, cDiv, cMod, List.cons_append, List.nil_append, List.length_cons, List.length_nil, List.getElem?_cons_zero, List.getElem?_cons_succ, List.set_cons_zero, List.set_cons_succ, List.replicate, List.sum_cons, List.sum_nil, List.map_cons, List.map_nil, true_and, Bool.false_eq_true, if_false, if_true]
    refine forL_inv (I := fun xs ρ => ∃ o o2, ρ = [.d (mvsD f), .d (mvsD s), o, o2] ∧ Q (.d (optD ((xs ++ r.flatMap fun i => triedM (1 + i) f s).find? (difM f s))))) ⟨_, _, rfl, hq⟩ ?_ ?_
    · rintro x xs ρ _ ⟨o, o2, rfl, hq⟩ N2 hN2
      simp only [mvsD, wIndex, wGlst, wSeq, wNext, wDrop, wRet, wRetO, wIfS, wSet, wSetD, wFrz, wThenFrz, wAsg, wPar, wPar3, wG, wGnil, wGcons, wGtup, wGS, wApp, wExt, wAugMul, wC, wV, wVR, wOp, wNil, wCons, wStar, wTup, wLst, wB, wAnd, wOr, wNot, wAndV, wOrV, wNotV, wIf, wFor, wIL, wIT, wIR1, wIR2, wIZ, wIE, wIRv, wComp, wComp2, wYes, wCall, argF, wNeg, wChain, gAdd, gSub, gInt, gInt0, gFdiv, gMod, gPow, gMul, gCmp, gLt, gLe, gGt, gGe, gEq, gNe, gIs, gIsNot, isNoneD, gIn, gIx, wNoP, wPart, wCut, gIxD, wKD, gInD, wDNew, wDisp, wPairs, w1, w2, gLen, gSum, gExt, gMax2, gMin2, gAbs, gIntC, gListC, gTupC, gBools, wIsi, wIsi2, wRevS, itemsS, intsOf, asD_d, asD_own, asDs, hideS, wipeS, spD, cDiv, cMod, List.cons_append, List.nil_append, List.length_cons, List.length_nil, List.getElem?_cons_zero, List.getElem?_cons_succ, List.set_cons_zero, List.set_cons_succ, List.replicate, List.sum_cons, List.sum_nil, List.map_cons, List.map_nil, true_and, Bool.false_eq_true, if_false, if_true]
      refine ⟨x, f, rfl, hf, x, s, rfl, hs, ?_⟩
      have e1 := ok_spD (endM x f) (endM x s)
      have e2 := eqv_spD (endM x f) (endM x s)
      simp only [spD] at e1 e2
      simp only [spD, e1, e2, asD_d, true_and]
      rw [List.cons_append, List.find?_cons] at hq
      have hd : difM f s x = !decide (endM x f = endM x s) := rfl
      rw [hd] at hq
      cases c2 : decide (endM x f = endM x s) with
      | true =>
        rw [c2] at hq
        simp only [Bool.not_true, Bool.false_eq_true, if_false]
        exact hN2 _ ⟨_, _, rfl, hq⟩
      | false =>
        rw [c2] at hq
        simp only [Bool.not_false, if_true]
        exact hq
    · rintro ρ ⟨o, o2, rfl, hq⟩
      exact hN _ ⟨_, _, rfl, fun j hj => hlt j (List.mem_cons_of_mem _ hj), hq⟩
  · rintro ρ ⟨o, o2, rfl, _, hq⟩
    simp only [wIndex, wGlst, wSeq, wNext, wDrop, wRet, wRetO, wIfS, wSet, wSetD, wFrz, wThenFrz, wAsg, wPar, wPar3, wG, wGnil, wGcons, wGtup, wGS, wApp, wExt, wAugMul, wC, wV, wVR, wOp, wNil, wCons, wStar, wTup, wLst, wB, wAnd, wOr, wNot, wAndV, wOrV, wNotV, wIf, wFor, wIL, wIT, wIR1, wIR2, wIZ, wIE, wIRv, wComp, wComp2, wYes, wCall, argF, wNeg, wChain, gAdd, gSub, gInt, gInt0, gFdiv, gMod, gPow, gMul, gCmp, gLt, gLe, gGt, gGe, gEq, gNe, gIs, gIsNot, isNoneD, gIn, gIx, wNoP, wPart, wCut, gIxD, wKD, gInD, wDNew, wDisp, wPairs, w1, w2, gLen, gSum, gExt, gMax2, gMin2, gAbs, gIntC, gListC, gTupC, gBools, wIsi, wIsi2, wRevS, itemsS, intsOf, asD_d, asD_own, asDs, hideS, wipeS, spD, cDiv, cMod, List.cons_append, List.nil_append, List.length_cons, List.length_nil, List.getElem?_cons_zero, List.getElem?_cons_succ, List.set_cons_zero, List.set_cons_succ, List.replicate, List.sum_cons, List.sum_nil, List.map_cons, List.map_nil, true_and, Bool.false_eq_true, if_false, if_true]
    exact hq
def bparting_span : FS :=
  (wSeq (wThenFrz 1 (wThenFrz 0 (wPar 0 1 (wCons (wCall φkept_moves (wCons (wV 0) wNil)) (wCons (wCall φkept_moves (wCons (wV 1) wNil)) wNil))))) (wSeq (wIfS (wB (wOp gEq (wV 0) (wV 1))) (wRet (wC .none)) wNext) (wSeq (wFor (wIR2 (wCons (wC (.int 1)) (wCons (wOp gAdd (wOp gMul (wC (.int 3)) (wC kENOUGH)) (wC (.int 1))) wNil))) (wG 2) (wFor (wIL (wCall φtried_spans (wCons (wV 2) (wCons (wTup (wCons (wV 0) (wCons (wV 1) wNil))) wNil)))) (wG 3) (wIfS (wB (wOp gNe (wCall φlast_span (wCons (wV 3) (wCons (wV 0) wNil))) (wCall φlast_span (wCons (wV 3) (wCons (wV 1) wNil))))) (wRet (wV 3)) wNext))) (wRet (wC .none)))))

def φparting_span : Phi := fun as Q => ∃ (f s : List Mv), as = [.d (mvsD f), .d (mvsD s)] ∧ (f.length ≤ 1000 ∧ s.length ≤ 1000) ∧ Q (.d (optD (partM f s)))
theorem lparting_span : ∀ as Q, φparting_span as Q → as.length = 2 := by rintro _ Q ⟨f, s, rfl, _, h⟩; rfl
theorem asD_two {sv : SV} {x : PyData} (e : asD sv = some x) : (∃ xs, sv = SV.own xs ∧ x = .list xs) ∨ sv = .d x := by
  cases sv <;> first
    | (cases e; done)
    | (cases e; exact .inr rfl)
    | (cases e; exact .inl ⟨_, rfl, rfl⟩)
theorem wparting_span : ∀ as Q, φparting_span as Q → bparting_span { nx := fun _ => Q (.d .none), rt := fun sv _ => Q sv } (as ++ List.replicate (4 - as.length) .no) := by
  rintro _ Q ⟨f, s, rfl, ⟨hf, hs⟩, h⟩
  have main := wpsT (f := keptM f) (s := keptM s) (Q := Q) (Nat.le_trans (kept_len f) hf) (Nat.le_trans (kept_len s) hs) h
  show wSeq _ bpsT _ _
  simp only [mvsD, wIndex, wGlst, wSeq, wNext, wDrop, wRet, wRetO, wIfS, wSet, wSetD, wFrz, wThenFrz, wAsg, wPar, wPar3, wG, wGnil, wGcons, wGtup, wGS, wApp, wExt, wAugMul, wC, wV, wVR, wOp, wNil, wCons, wStar, wTup, wLst, wB, wAnd, wOr, wNot, wAndV, wOrV, wNotV, wIf, wFor, wIL, wIT, wIR1, wIR2, wIZ, wIE, wIRv, wComp, wComp2, wYes, wCall, argF, wNeg, wChain, gAdd, gSub, gInt, gInt0, gFdiv, gMod, gPow, gMul, gCmp, gLt, gLe, gGt, gGe, gEq, gNe, gIs, gIsNot, isNoneD, gIn, gIx, wNoP, wPart, wCut, gIxD, wKD, gInD, wDNew, wDisp, wPairs, w1, w2, gLen, gSum, gExt, gMax2, gMin2, gAbs, gIntC, gListC, gTupC, gBools, wIsi, wIsi2, wRevS, itemsS, intsOf, asD_d, asD_own, asDs, hideS, wipeS, spD, cDiv, cMod, List.cons_append, List.nil_append, List.length_cons, List.length_nil, List.getElem?_cons_zero, List.getElem?_cons_succ, List.set_cons_zero, List.set_cons_succ, List.replicate, List.sum_cons, List.sum_nil, List.map_cons, List.map_nil, true_and, Bool.false_eq_true, if_false, if_true]
  refine ⟨f, rfl, hf, fun sv hsv => ⟨s, rfl, hs, fun tv htv => ?_⟩⟩
  rcases asD_two hsv with ⟨xs, rfl, ex⟩ | rfl <;> rcases asD_two htv with ⟨ys, rfl, ey⟩ | rfl
  · rw [ex, ey] at main; exact main
  · rw [ex] at main; exact main
  · rw [ey] at main; exact main
  · exact main
def bparting_place : FS :=
  (wSeq (wSetD 2 (wCall φparting_span (wCons (wCall φmoves_of (wCons (wV 0) (wCons (wC (.int 0)) wNil))) (wCons (wCall φmoves_of (wCons (wV 1) (wCons (wC (.int 0)) wNil))) wNil)))) (wSeq (wSetD 3 (wCall φparting_span (wCons (wCall φmoves_of (wCons (wV 0) (wCons (wC (.int 1)) wNil))) (wCons (wCall φmoves_of (wCons (wV 1) (wCons (wC (.int 1)) wNil))) wNil)))) (wSeq (wIfS (wAnd (wB (wOp gIsNot (wV 3) (wC .none))) (wOr (wB (wOp gIs (wV 2) (wC .none))) (wB (wOp gLe (w1 gSum (wV 3)) (w1 gSum (wV 2)))))) (wRet (wTup (wCons (wTup (wCons (wC (.int 0)) (wCons (wC (.int 1)) (wCons (wC (.int 0)) wNil)))) (wCons (wV 3) wNil)))) wNext) (wRet (wIf (wB (wOp gIs (wV 2) (wC .none))) (wC .none) (wTup (wCons (wV 2) (wCons (wTup (wCons (wC (.int 0)) (wCons (wC (.int 1)) (wCons (wC (.int 0)) wNil)))) wNil))))))))

def partPl (a b : List Ky) (t : Bool) : Option Spn := partM (movesM a t) (movesM b t)
def φparting_place : Phi := fun as Q => ∃ (a b : List Ky), as = [.d (rowD a), .d (rowD b)] ∧ (a.length ≤ 1000 ∧ b.length ≤ 1000) ∧ ∀ y : PyData, isNoneD y = ((partPl a b false).isNone && (partPl a b true).isNone) → Q (.d y)
theorem lparting_place : ∀ as Q, φparting_place as Q → as.length = 2 := by rintro _ Q ⟨f, s, rfl, _, h⟩; rfl
theorem two_ds {sv tv : SV} {f s : List Mv} {K : List SV → Prop} (hsv : asD sv = some (mvsD f)) (htv : asD tv = some (mvsD s)) (h : K [.d (mvsD f), .d (mvsD s)]) : match argF [sv, tv] with
    | some as => K as
    | none => False := by
  rcases asD_two hsv with ⟨xs, rfl, ex⟩ | rfl <;> rcases asD_two htv with ⟨ys, rfl, ey⟩ | rfl
  · rw [ex, ey] at h; exact h
  · rw [ex] at h; exact h
  · rw [ey] at h; exact h
  · exact h
theorem wparting_place : ∀ as Q, φparting_place as Q → bparting_place { nx := fun _ => Q (.d .none), rt := fun sv _ => Q sv } (as ++ List.replicate (4 - as.length) .no) := by
  rintro _ Q ⟨a, b, rfl, ⟨ha, hb⟩, h⟩
  simp only [bparting_place, rowD, wIndex, wGlst, wSeq, wNext, wDrop, wRet, wRetO, wIfS, wSet, wSetD, wFrz, wThenFrz, wAsg, wPar, wPar3, wG, wGnil, wGcons, wGtup, wGS, wApp, wExt, wAugMul, wC, wV, wVR, wOp, wNil, wCons, wStar, wTup, wLst, wB, wAnd, wOr, wNot, wAndV, wOrV, wNotV, wIf, wFor, wIL, wIT, wIR1, wIR2, wIZ, wIE, wIRv, wComp, wComp2, wYes, wCall, argF, wNeg, wChain, gAdd, gSub, gInt, gInt0, gFdiv, gMod, gPow, gMul, gCmp, gLt, gLe, gGt, gGe, gEq, gNe, gIs, gIsNot, isNoneD, gIn, gIx, wNoP, wPart, wCut, gIxD, wKD, gInD, wDNew, wDisp, wPairs, w1, w2, gLen, gSum, gExt, gMax2, gMin2, gAbs, gIntC, gListC, gTupC, gBools, wIsi, wIsi2, wRevS, itemsS, intsOf, asD_d, asD_own, asDs, hideS, wipeS, spD, cDiv, cMod, List.cons_append, List.nil_append, List.length_cons, List.length_nil, List.getElem?_cons_zero, List.getElem?_cons_succ, List.set_cons_zero, List.set_cons_succ, List.replicate, List.sum_cons, List.sum_nil, List.map_cons, List.map_nil, true_and, Bool.false_eq_true, if_false, if_true]
  have la := fun t => Nat.le_trans (moves_len a t) ha
  have lb := fun t => Nat.le_trans (moves_len b t) hb
  refine ⟨a, false, rfl, ha, fun sv hsv => ⟨b, false, rfl, hb, fun tv htv => ?_⟩⟩
  dsimp only
  refine two_ds hsv htv ⟨movesM a false, movesM b false, rfl, ⟨la _, lb _⟩, ?_⟩
  simp only [asD_d]
  refine ⟨a, true, rfl, ha, fun sv' hsv' => ⟨b, true, rfl, hb, fun tv' htv' => ?_⟩⟩
  dsimp only
  refine two_ds hsv' htv' ⟨movesM a true, movesM b true, rfl, ⟨la _, lb _⟩, ?_⟩
  simp only [asD_d]
  have h' : ∀ y : PyData, isNoneD y = ((partM (movesM a false) (movesM b false)).isNone && (partM (movesM a true) (movesM b true)).isNone) → Q (.d y) := h
  generalize partM (movesM a false) (movesM b false) = o1 at h' ⊢
  generalize partM (movesM a true) (movesM b true) = o2 at h' ⊢
  cases o1 with
  | none =>
    cases o2 with
    | none => exact h' _ rfl
    | some y => exact ⟨by decide, by decide, h' _ rfl⟩
  | some x =>
    cases o2 with
    | none => exact ⟨by decide, by decide, h' _ rfl⟩
    | some y =>
      simp only [optD, spD, intsOf, Bool.not_false, if_true, if_false, Bool.false_eq_true]
      split
      · exact ⟨by decide, by decide, h' _ rfl⟩
      · exact ⟨by decide, by decide, h' _ rfl⟩
def balike : FS :=
  (wRet (wOp gIs (wCall φparting_place (wCons (wV 0) (wCons (wV 1) wNil))) (wC .none)))

def alikeM (a b : List Ky) : Bool := (partPl a b false).isNone && (partPl a b true).isNone
def φalike : Phi := fun as Q => ∃ (a b : List Ky), as = [.d (rowD a), .d (rowD b)] ∧ (a.length ≤ 1000 ∧ b.length ≤ 1000) ∧ Q (.d (.bool (alikeM a b)))
theorem lalike : ∀ as Q, φalike as Q → as.length = 2 := by rintro _ Q ⟨f, s, rfl, _, h⟩; rfl
theorem walike : ∀ as Q, φalike as Q → balike { nx := fun _ => Q (.d .none), rt := fun sv _ => Q sv } (as ++ List.replicate (2 - as.length) .no) := by
  rintro _ Q ⟨a, b, rfl, hl, h⟩
  simp only [balike, rowD, wSeq, wRet, wOp, wCall, wCons, wNil, wV, wC, argF, List.cons_append, List.nil_append, List.getElem?_cons_zero, List.getElem?_cons_succ, asD_d, gIs]
  refine ⟨a, b, rfl, hl, fun y hy => ?_⟩
  simp only [asD_d]
  rw [hy]; exact h
end Z


/-! what alike says: the same from all spans with numbers up to 28 -/
namespace Z
open PySem PySem.Spec PyProof.Rows L2
def p28 (f s : List Mv) : Prop := ∀ x : Spn, x.Ok → x.a ≤ 28 → x.s ≤ 28 → x.b ≤ 28 → endM x f = endM x s
theorem run_append : ∀ (a b : List Mv) (st : Spn × Spn), runM st (a ++ b) = runM (runM st a) b
  | [], _, _ => rfl
  | m :: a, b, st => by simp only [List.cons_append, runM]; exact run_append a b _
theorem okF_run : ∀ (ms : List Mv) (h1 h2 x : Spn), okF ms = true → (runM (h1, x) ms).2 = (runM (h2, x) ms).2
  | [], _, _, _, _ => rfl
  | m :: r, h1, h2, x, ho => by
    have ih := fun y => okF_run r h1 h2 y
    cases m <;> first
      | rfl
      | exact ih _ ho
      | (cases ho)
theorem run_okst : ∀ (ms : List Mv) {st : Spn × Spn}, (st.1.Ok ∧ st.2.Ok ∧ st.1.w = st.2.w) → ((runM st ms).1.Ok ∧ (runM st ms).2.Ok ∧ (runM st ms).1.w = (runM st ms).2.w) ∧ (runM st ms).2.w = st.2.w
  | [], st, h => ⟨h, rfl⟩
  | m :: ms, st, h => by
    obtain ⟨h1, h2, h3, h4⟩ := step_ok h m
    obtain ⟨i1, i2⟩ := run_okst ms ⟨h1, h2, h3⟩
    exact ⟨i1, i2.trans h4⟩
theorem forget_width {ms : List Mv} (hf : forgetsM ms = true) {st st' : Spn × Spn} (hw : st.2.w = st'.2.w) : (runM st ms).2 = (runM st' ms).2 := by
  cases ms with
  | nil => cases hf
  | cons m r =>
    unfold forgetsM at hf
    rw [Bool.and_eq_true] at hf
    obtain ⟨h1, h2⟩ := hf
    have key : ∀ (m : Mv), hdF m = true → okF (m :: r) = true → (runM st (m :: r)).2 = (runM st' (m :: r)).2 := fun m h1 h2 => by
      cases m <;> first
        | (exact absurd h1 (by decide))
        | (simp only [runM, stepM, movedM, halvedM, hw]; exact okF_run r _ _ _ h2)
    exact key m h1 h2
theorem forget_drop {ms : List Mv} {k : Nat} (hf : forgetsM (ms.drop k) = true) {x : Spn} (hx : x.Ok) : endM x (ms.drop k) = endM x ms := by
  have e : ms = ms.take k ++ ms.drop k := (List.take_append_drop k ms).symm
  have h1 := run_okst (ms.take k) (st := (x, x)) ⟨hx, hx, rfl⟩
  unfold endM
  rw [show runM (x, x) ms = runM (x, x) (ms.take k ++ ms.drop k) from by rw [← e], run_append]
  exact forget_width hf h1.2.symm
theorem kept_end {x : Spn} (hx : x.Ok) (ms : List Mv) : endM x (keptM ms) = endM x ms := by
  have : ∀ l, endM x (keptFrom ms l) = endM x ms := by
    intro l
    induction l with
    | nil => rfl
    | cons k r ih =>
      unfold keptFrom
      split
      · rename_i h; exact forget_drop h hx
      · exact ih
  exact this _
theorem forget_span {ms : List Mv} (hf : forgetsM ms = true) {x y : Spn} (hw : x.w = y.w) : endM x ms = endM y ms := forget_width hf hw
theorem max3 (x : Spn) : maxI [x.a, x.s, x.b] ≤ 28 ↔ (x.a ≤ 28 ∧ x.s ≤ 28 ∧ x.b ≤ 28) := by
  have h := foldl_max_le [x.s, x.b] x.a
  have e : maxI [x.a, x.s, x.b] = [x.s, x.b].foldl max x.a := rfl
  rw [e]
  obtain ⟨h1, h2, h3⟩ := h
  have h4 := h2 x.s (by simp)
  have h5 := h2 x.b (by simp)
  constructor
  · intro h; omega
  · intro ⟨a, b, c⟩
    rcases h3 with h3 | h3
    · rw [h3]; exact a
    · simp only [List.mem_cons, List.not_mem_nil, or_false] at h3
      rcases h3 with h3 | h3 <;> rw [h3] <;> assumption
/-- a span of this width with small numbers -/
def smallS (i : Nat) : Spn := ⟨(min 28 i : Nat), 1 + ((i - min 28 i - min 28 (i - min 28 i) : Nat) : Int), (min 28 (i - min 28 i) : Nat)⟩
theorem small_ok {i : Nat} (h : i < 84) : (smallS i).Ok ∧ (smallS i).a ≤ 28 ∧ (smallS i).s ≤ 28 ∧ (smallS i).b ≤ 28 ∧ (smallS i).w = 1 + (i : Int) := by
  refine ⟨⟨?_, ?_, ?_⟩, ?_, ?_, ?_, ?_⟩ <;> simp only [smallS, Spn.w] <;> omega
theorem wide {x : Spn} (hx : x.Ok) (h1 : x.a ≤ 28) (h2 : x.s ≤ 28) (h3 : x.b ≤ 28) : ∃ i : Nat, i < 84 ∧ x.w = 1 + (i : Int) := by
  obtain ⟨a, b, c⟩ := hx
  exact ⟨(x.w - 1).toNat, by unfold Spn.w; omega, by unfold Spn.w; omega⟩
theorem p28_width {f s : List Mv} (hf : forgetsM f = true) (hs : forgetsM s = true) {g : Nat → Spn} (hg : ∀ i, i < 84 → (g i).w = 1 + (i : Int)) : p28 f s ↔ ∀ i, i < 84 → endM (g i) f = endM (g i) s := by
  constructor
  · intro h i hi
    obtain ⟨h1, h2, h3, h4, h5⟩ := small_ok hi
    have e := h (smallS i) h1 h2 h3 h4
    have w : (g i).w = (smallS i).w := by rw [hg i hi, h5]
    rw [forget_span hf w, forget_span hs w, e]
  · intro h x hx h1 h2 h3
    obtain ⟨i, hi, hw⟩ := wide hx h1 h2 h3
    have w : x.w = (g i).w := by rw [hg i hi, hw]
    rw [forget_span hf w, forget_span hs w, h i hi]
theorem p28_kept (f s : List Mv) : p28 (keptM f) (keptM s) ↔ p28 f s := by
  constructor
  · intro h x hx h1 h2 h3
    have := h x hx h1 h2 h3
    rwa [kept_end hx, kept_end hx] at this
  · intro h x hx h1 h2 h3
    rw [kept_end hx, kept_end hx]; exact h x hx h1 h2 h3
theorem part_none (f s : List Mv) : (partM f s).isNone = true ↔ p28 f s := by
  rw [← p28_kept]
  unfold partM
  by_cases c : keptM f = keptM s
  · rw [if_pos c, c]; simp [p28]
  rw [if_neg c]
  generalize keptM f = f
  generalize keptM s = s
  rw [Option.isNone_iff_eq_none, List.find?_eq_none]
  simp only [List.mem_flatMap, List.mem_range, difM, Bool.not_eq_true', decide_eq_false_iff_not, Decidable.not_not]
  by_cases cf : (forgetsM f && forgetsM s) = true
  · rw [Bool.and_eq_true] at cf
    rw [p28_width cf.1 cf.2 (g := fun i => ⟨0, 1, ((1 + i : Nat) : Int) - 1⟩) (fun i hi => by simp [Spn.w]; omega)]
    constructor
    · intro h i hi
      exact h _ ⟨i, hi, by unfold triedM; rw [cf.1, cf.2]; simp⟩
    · rintro h x ⟨i, hi, hx⟩
      unfold triedM at hx
      rw [cf.1, cf.2] at hx
      simp only [Bool.and_self, if_true, List.mem_singleton] at hx
      rw [hx]; exact h i hi
  · constructor
    · intro h x hx h1 h2 h3
      obtain ⟨i, hi, hw⟩ := wide hx h1 h2 h3
      refine h x ⟨i, hi, ?_⟩
      unfold triedM
      rw [if_neg cf, List.mem_filter]
      refine ⟨?_, decide_eq_true ((max3 x).mpr ⟨h1, h2, h3⟩)⟩
      have := mem_spans hx
      have e : x.w.toNat = 1 + i := by omega
      rw [e] at this; exact this
    · rintro h x ⟨i, hi, hx⟩
      unfold triedM at hx
      rw [if_neg cf, List.mem_filter] at hx
      obtain ⟨h1, h2⟩ := hx
      obtain ⟨h3, h4, h5⟩ := (max3 x).mp (of_decide_eq_true h2)
      exact h x (spans_mem h1).1 h3 h4 h5
def likeP (a b : List Ky) : Prop := ∀ t, p28 (rawM a t) (rawM b t)
theorem p28_moves (a b : List Ky) (t : Bool) : p28 (movesM a t) (movesM b t) ↔ p28 (rawM a t) (rawM b t) := by
  unfold p28; simp only [end_moves]
theorem alike_iff (a b : List Ky) : alikeM a b = true ↔ likeP a b := by
  unfold alikeM partPl likeP
  rw [Bool.and_eq_true, part_none, part_none, p28_moves, p28_moves]
  constructor
  · rintro ⟨h1, h2⟩ t; cases t; exact h1; exact h2
  · intro h; exact ⟨h _, h _⟩
theorem alike_refl (a : List Ky) : alikeM a a = true := (alike_iff a a).mpr fun _ _ _ _ _ _ => rfl
theorem alike_symm (a b : List Ky) : alikeM a b = alikeM b a := by
  rw [Bool.eq_iff_iff, alike_iff, alike_iff]
  constructor <;> intro h t x h0 h1 h2 h3 <;> exact (h t x h0 h1 h2 h3).symm
theorem alike_of {a b : List Ky} (h : ∀ t x, endM x (rawM a t) = endM x (rawM b t)) : alikeM a b = true := (alike_iff a b).mpr fun t x _ _ _ _ => h t x
theorem alike_not {a b : List Ky} (t : Bool) (x : Spn) (hx : (decide (0 ≤ x.a) && decide (1 ≤ x.s) && decide (0 ≤ x.b) && decide (x.a ≤ 28) && decide (x.s ≤ 28) && decide (x.b ≤ 28) && !decide (endM x (rawM a t) = endM x (rawM b t))) = true) : alikeM a b = false := by
  simp only [Bool.and_eq_true, decide_eq_true_eq, Bool.not_eq_true', decide_eq_false_iff_not] at hx
  obtain ⟨⟨⟨⟨⟨⟨h1, h2⟩, h3⟩, h4⟩, h5⟩, h6⟩, h7⟩ := hx
  refine Bool.eq_false_iff.mpr fun h => h7 ((alike_iff a b).mp h t x ⟨h1, h2, h3⟩ h4 h5 h6)
end Z


/-! rows that lead to one place -/
namespace Z
open PySem PySem.Spec PyProof.Rows L2
def fixG (ms : List Mv) (i : Nat) (x : Spn) : Bool := decide (endM x ms = endM ⟨0, 1 + (i : Nat), 0⟩ ms)
def fixF (ms : List Mv) (i : Nat) : Bool := (triedL (1 + i) [ms]).all (fixG ms i)
def fixM (ms : List Mv) : Bool := forgetsM (keptM ms) || (List.range 84).all (fixF ms)
def bis_fixed_along : FS :=
  (wSeq (wIfS (wB (wCall φforgets (wCons (wCall φkept_moves (wCons (wV 0) wNil)) wNil))) (wRet (wC (.bool true))) wNext) (wSeq (wFor (wIR2 (wCons (wC (.int 1)) (wCons (wOp gAdd (wOp gMul (wC (.int 3)) (wC kENOUGH)) (wC (.int 1))) wNil))) (wG 1) (wSeq (wSetD 2 (wCall φlast_span (wCons (wTup (wCons (wC (.int 0)) (wCons (wV 1) (wCons (wC (.int 0)) wNil)))) (wCons (wV 0) wNil)))) (wFor (wIL (wCall φtried_spans (wCons (wV 1) (wCons (wTup (wCons (wV 0) wNil)) wNil)))) (wG 3) (wIfS (wB (wOp gNe (wCall φlast_span (wCons (wV 3) (wCons (wV 0) wNil))) (wV 2))) (wRet (wC (.bool false))) wNext)))) (wRet (wC (.bool true)))))

def bfaT : FS :=
  (wSeq (wFor (wIR2 (wCons (wC (.int 1)) (wCons (wOp gAdd (wOp gMul (wC (.int 3)) (wC kENOUGH)) (wC (.int 1))) wNil))) (wG 1) (wSeq (wSetD 2 (wCall φlast_span (wCons (wTup (wCons (wC (.int 0)) (wCons (wV 1) (wCons (wC (.int 0)) wNil)))) (wCons (wV 0) wNil)))) (wFor (wIL (wCall φtried_spans (wCons (wV 1) (wCons (wTup (wCons (wV 0) wNil)) wNil)))) (wG 3) (wIfS (wB (wOp gNe (wCall φlast_span (wCons (wV 3) (wCons (wV 0) wNil))) (wV 2))) (wRet (wC (.bool false))) wNext)))) (wRet (wC (.bool true))))

def φis_fixed_along : Phi := fun as Q => ∃ ms, as = [.d (mvsD ms)] ∧ ms.length ≤ 1000 ∧ Q (.d (.bool (fixM ms)))
theorem lis_fixed_along : ∀ as Q, φis_fixed_along as Q → as.length = 1 := by rintro _ Q ⟨ms, rfl, _, h⟩; rfl
theorem wfaT {ms : List Mv} {Q : SV → Prop} (hl : ms.length ≤ 1000) (h : Q (.d (.bool ((List.range 84).all (fixF ms))))) : bfaT { nx := fun _ => Q (.d .none), rt := fun sv _ => Q sv } [.d (mvsD ms), .no, .no, .no] := by
  simp only [bfaT, kENOUGH, wIndex, wGlst, wSeq, wNext, wDrop, wRet, wRetO, wIfS, wSet, wSetD, wFrz, wThenFrz, wAsg, wPar, wPar3, wG, wGnil, wGcons, wGtup, wGS, wApp, wExt, wAugMul, wC, wV, wVR, wOp, wNil, wCons, wStar, wTup, wLst, wB, wAnd, wOr, wNot, wAndV, wOrV, wNotV, wIf, wFor, wIL, wIT, wIR1, wIR2, wIZ, wIE, wIRv, wComp, wComp2, wYes, wCall, argF, wNeg, wChain, gAdd, gSub, gInt, gInt0, gFdiv, gMod, gPow, gMul, gCmp, gLt, gLe, gGt, gGe, gEq, gNe, gIs, gIsNot, isNoneD, gIn, gIx, wNoP, wPart, wCut, gIxD, wKD, gInD, wDNew, wDisp, wPairs, w1, w2, gLen, gSum, gExt, gMax2, gMin2, gAbs, gIntC, gListC, gTupC, gBools, wIsi, wIsi2, wRevS, itemsS, intsOf, asD_d, asD_own, asDs, hideS, wipeS, spD, cDiv, cMod, List.cons_append, List.nil_append, List.length_cons, List.length_nil, List.getElem?_cons_zero, List.getElem?_cons_succ, List.set_cons_zero, List.set_cons_succ, List.replicate, List.sum_cons, List.sum_nil, List.map_cons, List.map_nil, true_and, Bool.false_eq_true, if_false, if_true]
  refine ⟨.inl (by decide), by decide, ?_⟩
  show wForL _ _ ((List.range 84).map fun i => PyData.int (1 + (i : Nat))) _ _
  refine forL_inv (I := fun r ρ => ∃ o1 o2 o3, ρ = [.d (mvsD ms), o1, o2, o3] ∧ (∀ i ∈ r, i < 84) ∧ Q (.d (.bool (r.all (fixF ms))))) ⟨.no, .no, .no, rfl, fun i hi => List.mem_range.mp hi, h⟩ ?_ ?_
  · rintro i r ρ _ ⟨o1, o2, o3, rfl, hlt, hq⟩ N hN
    have hi := hlt i List.mem_cons_self
    simp only [wIndex, wGlst, wSeq, wNext, wDrop, wRet, wRetO, wIfS, wSet, wSetD, wFrz, wThenFrz, wAsg, wPar, wPar3, wG, wGnil, wGcons, wGtup, wGS, wApp, wExt, wAugMul, wC, wV, wVR, wOp, wNil, wCons, wStar, wTup, wLst, wB, wAnd, wOr, wNot, wAndV, wOrV, wNotV, wIf, wFor, wIL, wIT, wIR1, wIR2, wIZ, wIE, wIRv, wComp, wComp2, wYes, wCall, argF, wNeg, wChain, gAdd, gSub, gInt, gInt0, gFdiv, gMod, gPow, gMul, gCmp, gLt, gLe, gGt, gGe, gEq, gNe, gIs, gIsNot, isNoneD, gIn, gIx, wNoP, wPart, wCut, gIxD, wKD, gInD, wDNew, wDisp, wPairs, w1, w2, gLen, gSum, gExt, gMax2, gMin2, gAbs, gIntC, gListC, gTupC, gBools, wIsi, wIsi2, wRevS, itemsS, intsOf, asD_d, asD_own, asDs, hideS, wipeS, spD, cDiv, cMod, List.cons_append, List.nil_append, List.length_cons, List.length_nil, List.getElem?_cons_zero, List.getElem?_cons_succ, List.set_cons_zero, List.set_cons_succ, List.replicate, List.sum_cons, List.sum_nil, List.map_cons, List.map_nil, true_and, Bool.false_eq_true, if_false, if_true]
    refine ⟨by decide, ⟨0, 1 + (i : Nat), 0⟩, ms, rfl, hl, ?_⟩
    simp only [wIndex, wGlst, wSeq, wNext, wDrop, wRet, wRetO, wIfS, wSet, wSetD, wFrz, wThenFrz, wAsg, wPar, wPar3, wG, wGnil, wGcons, wGtup, wGS, wApp, wExt, wAugMul, wC, wV, wVR, wOp, wNil, wCons, wStar, wTup, wLst, wB, wAnd, wOr, wNot, wAndV, wOrV, wNotV, wIf, wFor, wIL, wIT, wIR1, wIR2, wIZ, wIE, wIRv, wComp, wComp2, wYes, wCall, argF, wNeg, wChain, gAdd, gSub, gInt, gInt0, gFdiv, gMod, gPow, gMul, gCmp, gLt, gLe, gGt, gGe, gEq, gNe, gIs, gIsNot, isNoneD, gIn, gIx, wNoP, wPart, wCut, gIxD, wKD, gInD, wDNew, wDisp, wPairs, w1, w2, gLen, gSum, gExt, gMax2, gMin2, gAbs, gIntC, gListC, gTupC, gBools, wIsi, wIsi2, wRevS, itemsS, intsOf, asD_d, asD_own, asDs, hideS, wipeS, spD, cDiv, cMod, List.cons_append, List.nil_append, List.length_cons, List.length_nil, List.getElem?_cons_zero, List.getElem?_cons_succ, List.set_cons_zero, List.set_cons_succ, List.replicate, List.sum_cons, List.sum_nil, List.map_cons, List.map_nil, true_and, Bool.false_eq_true, if_false, if_true]
    refine ⟨by decide, 1 + i, [ms], by simp, by omega, by simp, ?_⟩
    rw [List.all_cons] at hq
    simp only [wIndex, wGlst, wSeq, wNext, wDrop, wRet, wRetO, wIfS, wSet, wSetD, wFrz, wThenFrz, wAsg, wPar, wPar3, wG, wGnil, wGcons, wGtup, wGS, wApp, wExt, wAugMul, wC, wV, wVR, wOp, wNil, wCons, wStar, wTup, wLst, wB, wAnd, wOr, wNot, wAndV, wOrV, wNotV, wIf, wFor, wIL, wIT, wIR1, wIR2, wIZ, wIE, wIRv, wComp, wComp2, wYes, wCall, argF, wNeg, wChain, gAdd, gSub, gInt, gInt0, gFdiv, gMod, gPow, gMul, gCmp, gLt, gLe, gGt, gGe, gEq, gNe, gIs, gIsNot, isNoneD, gIn, gIx, wNoP, wPart, wCut, gIxD, wKD, gInD, wDNew, wDisp, wPairs, w1, w2, gLen, gSum, gExt, gMax2, gMin2, gAbs, gIntC, gListC, gTupC, gBools, wIsi, wIsi2, wRevS, itemsS, intsOf, asD_d, asD_own, asDs, hideS, wipeS, spD, cDiv, cMod, List.cons_append, List.nil_append, List.length_cons, List.length_nil, List.getElem?_cons_zero, List.getElem?_cons_succ, List.set_cons_zero, List.set_cons_succ, List.replicate, List.sum_cons, List.sum_nil, List.map_cons, List.map_nil, true_and, Bool.false_eq_true, if_false, if_true]
    refine forL_inv (I := fun xs ρ => ∃ o3, ρ = [.d (mvsD ms), .d (.int (1 + (i : Nat))), .d (spD (endM ⟨0, 1 + (i : Nat), 0⟩ ms)), o3] ∧ Q (.d (.bool (xs.all (fixG ms i) && r.all (fixF ms))))) ⟨_, rfl, hq⟩ ?_ ?_
    · rintro x xs ρ _ ⟨o3, rfl, hq⟩ N2 hN2
      simp only [wIndex, wGlst, wSeq, wNext, wDrop, wRet, wRetO, wIfS, wSet, wSetD, wFrz, wThenFrz, wAsg, wPar, wPar3, wG, wGnil, wGcons, wGtup, wGS, wApp, wExt, wAugMul, wC, wV, wVR, wOp, wNil, wCons, wStar, wTup, wLst, wB, wAnd, wOr, wNot, wAndV, wOrV, wNotV, wIf, wFor, wIL, wIT, wIR1, wIR2, wIZ, wIE, wIRv, wComp, wComp2, wYes, wCall, argF, wNeg, wChain, gAdd, gSub, gInt, gInt0, gFdiv, gMod, gPow, gMul, gCmp, gLt, gLe, gGt, gGe, gEq, gNe, gIs, gIsNot, isNoneD, gIn, gIx, wNoP, wPart, wCut, gIxD, wKD, gInD, wDNew, wDisp, wPairs, w1, w2, gLen, gSum, gExt, gMax2, gMin2, gAbs, gIntC, gListC, gTupC, gBools, wIsi, wIsi2, wRevS, itemsS, intsOf, asD_d, asD_own, asDs, hideS, wipeS, spD, cDiv, cMod, List.cons_append, List.nil_append, List.length_cons, List.length_nil, List.getElem?_cons_zero, List.getElem?_cons_succ, List.set_cons_zero, List.set_cons_succ, List.replicate, List.sum_cons, List.sum_nil, List.map_cons, List.map_nil, true_and, Bool.false_eq_true, if_false, if_true]
      refine ⟨x, ms, rfl, hl, ?_⟩
      have e1 := ok_spD (endM x ms) (endM ⟨0, 1 + (i : Nat), 0⟩ ms)
      have e2 := eqv_spD (endM x ms) (endM ⟨0, 1 + (i : Nat), 0⟩ ms)
      simp only [spD] at e1 e2
      simp only [spD, e1, e2, asD_d, true_and]
      rw [List.all_cons] at hq
      have hd : fixG ms i x = decide (endM x ms = endM ⟨0, 1 + (i : Nat), 0⟩ ms) := rfl
      rw [hd] at hq
      cases c2 : decide (endM x ms = endM ⟨0, 1 + (i : Nat), 0⟩ ms) with
      | true =>
        rw [c2] at hq
        simp only [Bool.not_true, Bool.false_eq_true, if_false]
        exact hN2 _ ⟨_, rfl, by simpa using hq⟩
      | false =>
        rw [c2] at hq
        simp only [Bool.not_false, if_true]
        exact hq
    · rintro ρ ⟨o3, rfl, hq⟩
      exact hN _ ⟨_, _, _, rfl, fun j hj => hlt j (List.mem_cons_of_mem _ hj), by simpa using hq⟩
  · rintro ρ ⟨o1, o2, o3, rfl, _, hq⟩
    simp only [wIndex, wGlst, wSeq, wNext, wDrop, wRet, wRetO, wIfS, wSet, wSetD, wFrz, wThenFrz, wAsg, wPar, wPar3, wG, wGnil, wGcons, wGtup, wGS, wApp, wExt, wAugMul, wC, wV, wVR, wOp, wNil, wCons, wStar, wTup, wLst, wB, wAnd, wOr, wNot, wAndV, wOrV, wNotV, wIf, wFor, wIL, wIT, wIR1, wIR2, wIZ, wIE, wIRv, wComp, wComp2, wYes, wCall, argF, wNeg, wChain, gAdd, gSub, gInt, gInt0, gFdiv, gMod, gPow, gMul, gCmp, gLt, gLe, gGt, gGe, gEq, gNe, gIs, gIsNot, isNoneD, gIn, gIx, wNoP, wPart, wCut, gIxD, wKD, gInD, wDNew, wDisp, wPairs, w1, w2, gLen, gSum, gExt, gMax2, gMin2, gAbs, gIntC, gListC, gTupC, gBools, wIsi, wIsi2, wRevS, itemsS, intsOf, asD_d, asD_own, asDs, hideS, wipeS, spD, cDiv, cMod, List.cons_append, List.nil_append, List.length_cons, List.length_nil, List.getElem?_cons_zero, List.getElem?_cons_succ, List.set_cons_zero, List.set_cons_succ, List.replicate, List.sum_cons, List.sum_nil, List.map_cons, List.map_nil, true_and, Bool.false_eq_true, if_false, if_true]
    exact hq
theorem one_ds {sv : SV} {f : List Mv} {K : List SV → Prop} (hsv : asD sv = some (mvsD f)) (h : K [.d (mvsD f)]) : match argF [sv] with
    | some as => K as
    | none => False := by
  rcases asD_two hsv with ⟨xs, rfl, ex⟩ | rfl
  · rw [ex] at h; exact h
  · exact h
theorem wis_fixed_along : ∀ as Q, φis_fixed_along as Q → bis_fixed_along { nx := fun _ => Q (.d .none), rt := fun sv _ => Q sv } (as ++ List.replicate (4 - as.length) .no) := by
  rintro _ Q ⟨ms, rfl, hl, h⟩
  rw [show bis_fixed_along = wSeq (wIfS (wB (wCall φforgets (wCons (wCall φkept_moves (wCons (wV 0) wNil)) wNil))) (wRet (wC (.bool true))) wNext) bfaT from rfl]
  unfold fixM at h
  have fin : (if forgetsM (keptM ms) = true then Q (.d (.bool true)) else bfaT { nx := fun _ => Q (.d .none), rt := fun sv _ => Q sv } [.d (mvsD ms), .no, .no, .no]) := by
    cases c : forgetsM (keptM ms) with
    | true =>
      rw [c, Bool.true_or] at h
      exact h
    | false =>
      rw [c, Bool.false_or] at h
      exact wfaT hl h
  revert fin
  generalize bfaT = g
  intro fin
  simp only [wIndex, wGlst, wSeq, wNext, wDrop, wRet, wRetO, wIfS, wSet, wSetD, wFrz, wThenFrz, wAsg, wPar, wPar3, wG, wGnil, wGcons, wGtup, wGS, wApp, wExt, wAugMul, wC, wV, wVR, wOp, wNil, wCons, wStar, wTup, wLst, wB, wAnd, wOr, wNot, wAndV, wOrV, wNotV, wIf, wFor, wIL, wIT, wIR1, wIR2, wIZ, wIE, wIRv, wComp, wComp2, wYes, wCall, argF, wNeg, wChain, gAdd, gSub, gInt, gInt0, gFdiv, gMod, gPow, gMul, gCmp, gLt, gLe, gGt, gGe, gEq, gNe, gIs, gIsNot, isNoneD, gIn, gIx, wNoP, wPart, wCut, gIxD, wKD, gInD, wDNew, wDisp, wPairs, w1, w2, gLen, gSum, gExt, gMax2, gMin2, gAbs, gIntC, gListC, gTupC, gBools, wIsi, wIsi2, wRevS, itemsS, intsOf, asD_d, asD_own, asDs, hideS, wipeS, spD, cDiv, cMod, List.cons_append, List.nil_append, List.length_cons, List.length_nil, List.getElem?_cons_zero, List.getElem?_cons_succ, List.set_cons_zero, List.set_cons_succ, List.replicate, List.sum_cons, List.sum_nil, List.map_cons, List.map_nil, true_and, Bool.false_eq_true, if_false, if_true]
  refine ⟨ms, rfl, hl, fun sv hsv => ?_⟩
  rcases asD_two hsv with ⟨xs, rfl, ex⟩ | rfl
  · injection ex with ex
    subst ex
    exact ⟨keptM ms, rfl, fin⟩
  · exact ⟨keptM ms, rfl, fin⟩
def bis_fixed : FS :=
  (wRet (wAndV (wCall φis_fixed_along (wCons (wCall φmoves_of (wCons (wV 0) (wCons (wC (.int 0)) wNil))) wNil)) (wCall φis_fixed_along (wCons (wCall φmoves_of (wCons (wV 0) (wCons (wC (.int 1)) wNil))) wNil))))

def fixR (r : List Ky) : Bool := fixM (movesM r false) && fixM (movesM r true)
def φis_fixed : Phi := fun as Q => ∃ r, as = [.d (rowD r)] ∧ r.length ≤ 1000 ∧ Q (.d (.bool (fixR r)))
theorem lis_fixed : ∀ as Q, φis_fixed as Q → as.length = 1 := by rintro _ Q ⟨ms, rfl, _, h⟩; rfl
theorem wis_fixed : ∀ as Q, φis_fixed as Q → bis_fixed { nx := fun _ => Q (.d .none), rt := fun sv _ => Q sv } (as ++ List.replicate (1 - as.length) .no) := by
  rintro _ Q ⟨r, rfl, hl, h⟩
  unfold fixR at h
  have a1 : ∀ d : PyData, ∀ i : Int, argF [.d d, .d (.int i)] = some [.d d, .d (.int i)] := fun _ _ => rfl
  simp only [bis_fixed, wRet, wAndV, wCall, wCons, wNil, wV, wC, List.cons_append, List.nil_append, List.getElem?_cons_zero, a1]
  refine ⟨r, false, rfl, hl, fun sv hsv => one_ds hsv ⟨movesM r false, rfl, Nat.le_trans (moves_len r _) hl, ?_⟩⟩
  cases c : fixM (movesM r false) with
  | false =>
    rw [c, Bool.false_and] at h
    exact h
  | true =>
    rw [c, Bool.true_and] at h
    exact ⟨r, true, rfl, hl, fun sv hsv => one_ds hsv ⟨movesM r true, rfl, Nat.le_trans (moves_len r _) hl, h⟩⟩
end Z


/-! count_starts -/
namespace Z
open PySem PySem.Spec PyProof.Rows L2
def bcount_starts : FS :=
  (wSeq (wSetD 2 (wC (.int 1))) (wSeq (wFor (wIT (wTup (wCons (wC (.int 0)) (wCons (wC (.int 1)) wNil)))) (wG 3) (wSeq (wSetD 4 (wCall φmoves_of (wCons (wV 0) (wCons (wV 3) wNil)))) (wSetD 2 (wOp gMul (wV 2) (w1 gLen (wComp (wIL (wCall φspans_of (wCons (w1 gSum (wOp gIx (wV 1) (wV 3))) wNil))) (wG 5) (wB (wOp gEq (wCall φlast_span (wCons (wV 5) (wCons (wV 4) wNil))) (wOp gIx (wV 1) (wV 3)))) (wV 5) [5])))))) (wRet (wV 2))))

def selP (p : Spn × Spn) (t : Bool) : Spn := if t then p.2 else p.1
def cntT (r : List Ky) (p : Spn × Spn) (t : Bool) : Nat := ((spansM (selP p t).w.toNat).filter fun x => decide (endM x (rawM r t) = selP p t)).length
theorem cntT_eq (r : List Ky) (p : Spn × Spn) (t : Bool) : ((spansM (selP p t).w.toNat).filter fun x => decide (endM x (movesM r t) = selP p t)).length = cntT r p t := by
  unfold cntT; simp only [end_moves]
def cntM (r : List Ky) (p : Spn × Spn) : Int := 1 * (cntT r p false : Int) * (cntT r p true : Int)
def φcount_starts : Phi := fun as Q => ∃ r p, as = [.d (rowD r), .d (plD p)] ∧ (p.1.Ok ∧ p.2.Ok) ∧ (p.1.w ≤ 1000 ∧ p.2.w ≤ 1000) ∧ r.length ≤ 1000 ∧ Q (.d (.int (cntM r p)))
theorem lcount_starts : ∀ as Q, φcount_starts as Q → as.length = 2 := by rintro _ Q ⟨r, p, rfl, _, h⟩; rfl
theorem sum3 (x : Spn) : x.a + (x.s + (x.b + 0)) = x.w := by unfold Spn.w; omega
theorem cut3 (x : Spn) : spD x = .tuple [.int x.a, .int x.s, .int x.b] := rfl
theorem w_toNat {x : Spn} (h : x.Ok) : ((x.w.toNat : Nat) : Int) = x.w := by
  obtain ⟨h1, h2, h3⟩ := h
  exact Int.toNat_of_nonneg (by unfold Spn.w; omega)
theorem sel_ok {p : Spn × Spn} (h : p.1.Ok ∧ p.2.Ok) (t : Bool) : (selP p t).Ok := by cases t; exact h.1; exact h.2
theorem sel_w {p : Spn × Spn} {n : Int} (h : p.1.w ≤ n ∧ p.2.w ≤ n) (t : Bool) : (selP p t).w ≤ n := by cases t; exact h.1; exact h.2
theorem cnt_small (r : List Ky) {p : Spn × Spn} {t : Bool} (h1 : (selP p t).Ok) (h2 : (selP p t).w ≤ 1000) : cntT r p t ≤ 1000000 := by
  have a := List.length_filter_le (fun x => decide (endM x (rawM r t) = selP p t)) (spansM (selP p t).w.toNat)
  have b := spans_len (selP p t).w.toNat
  have c : (selP p t).w.toNat ≤ 1000 := by omega
  have d : (selP p t).w.toNat * (selP p t).w.toNat ≤ 1000 * 1000 := Nat.mul_le_mul c c
  unfold cntT; omega
theorem at_pl (p : Spn × Spn) (t : Bool) : atI [spD p.1, spD p.2] (tI t) = some (spD (selP p t)) := by rw [at_pair]; cases t <;> rfl
theorem wcount_starts : ∀ as Q, φcount_starts as Q → bcount_starts { nx := fun _ => Q (.d .none), rt := fun sv _ => Q sv } (as ++ List.replicate (6 - as.length) .no) := by
  rintro _ Q ⟨r, p, rfl, hp, hw, hl, h⟩
  have hsz : (2 : Nat) ^ 24 = 16777216 := by decide
  have h64 : (2 : Int) ^ 64 = 18446744073709551616 := by decide
  simp only [bcount_starts, plD, wSeq, wNext, wDrop, wRet, wRetO, wIfS, wSet, wSetD, wFrz, wThenFrz, wAsg, wPar, wPar3, wG, wGnil, wGcons, wGtup, wGS, wApp, wExt, wAugMul, wC, wV, wVR, wOp, wNil, wCons, wStar, wTup, wLst, wB, wAnd, wOr, wNot, wAndV, wOrV, wNotV, wIf, wFor, wIL, wIT, wIR1, wIR2, wIZ, wIE, wIRv, wComp, wComp2, wYes, wCall, argF, wNeg, wChain, gAdd, gSub, gInt, gInt0, gFdiv, gMod, gPow, gMul, gCmp, gLt, gLe, gGt, gGe, gEq, gNe, gIs, gIsNot, isNoneD, gIn, gIx, wNoP, wPart, wCut, gIxD, wKD, gInD, wDNew, wDisp, wPairs, w1, w2, gLen, gSum, gExt, gMax2, gMin2, gAbs, gIntC, gListC, gTupC, gBools, wIsi, wIsi2, wRevS, itemsS, intsOf, asD_d, asD_own, asDs, hideS, wipeS, spD, cDiv, cMod, List.cons_append, List.nil_append, List.length_cons, List.length_nil, List.getElem?_cons_zero, List.getElem?_cons_succ, List.set_cons_zero, List.set_cons_succ, List.replicate, List.sum_cons, List.sum_nil, List.map_cons, List.map_nil, true_and, Bool.false_eq_true, if_false, if_true]
  refine ⟨by decide, ?_⟩
  show wForL _ _ ([false, true].map fun t => PyData.int (tI t)) _ _
  refine forL_inv (I := fun ts ρ => ∃ (n : Int) (o o2 : SV), ρ = [.d (rowD r), .d (plD p), .d (.int n), o, o2, .no] ∧ n * (ts.map fun t => (cntT r p t : Int)).foldr (· * ·) 1 = cntM r p) ⟨1, .no, .no, rfl, by simp [cntM]⟩ ?_ ?_
  · rintro t ts ρ _ ⟨n, o, o2, rfl, hn⟩ N hN
    have ok := sel_ok hp t
    have ww := sel_w hw t
    have hc := cnt_small r ok ww
    simp only [plD, rowD, wSeq, wNext, wDrop, wRet, wRetO, wIfS, wSet, wSetD, wFrz, wThenFrz, wAsg, wPar, wPar3, wG, wGnil, wGcons, wGtup, wGS, wApp, wExt, wAugMul, wC, wV, wVR, wOp, wNil, wCons, wStar, wTup, wLst, wB, wAnd, wOr, wNot, wAndV, wOrV, wNotV, wIf, wFor, wIL, wIT, wIR1, wIR2, wIZ, wIE, wIRv, wComp, wComp2, wYes, wCall, argF, wNeg, wChain, gAdd, gSub, gInt, gInt0, gFdiv, gMod, gPow, gMul, gCmp, gLt, gLe, gGt, gGe, gEq, gNe, gIs, gIsNot, isNoneD, gIn, gIx, wNoP, wPart, wCut, gIxD, wKD, gInD, wDNew, wDisp, wPairs, w1, w2, gLen, gSum, gExt, gMax2, gMin2, gAbs, gIntC, gListC, gTupC, gBools, wIsi, wIsi2, wRevS, itemsS, intsOf, asD_d, asD_own, asDs, hideS, wipeS, spD, cDiv, cMod, List.cons_append, List.nil_append, List.length_cons, List.length_nil, List.getElem?_cons_zero, List.getElem?_cons_succ, List.set_cons_zero, List.set_cons_succ, List.replicate, List.sum_cons, List.sum_nil, List.map_cons, List.map_nil, true_and, Bool.false_eq_true, if_false, if_true]
    refine ⟨r, t, rfl, hl, fun sv hsv => ?_⟩
    simp only [hsv]
    have e := at_pl p t
    simp only [spD] at e
    simp only [e, sum3, wSeq, wNext, wDrop, wRet, wRetO, wIfS, wSet, wSetD, wFrz, wThenFrz, wAsg, wPar, wPar3, wG, wGnil, wGcons, wGtup, wGS, wApp, wExt, wAugMul, wC, wV, wVR, wOp, wNil, wCons, wStar, wTup, wLst, wB, wAnd, wOr, wNot, wAndV, wOrV, wNotV, wIf, wFor, wIL, wIT, wIR1, wIR2, wIZ, wIE, wIRv, wComp, wComp2, wYes, wCall, argF, wNeg, wChain, gAdd, gSub, gInt, gInt0, gFdiv, gMod, gPow, gMul, gCmp, gLt, gLe, gGt, gGe, gEq, gNe, gIs, gIsNot, isNoneD, gIn, gIx, wNoP, wPart, wCut, gIxD, wKD, gInD, wDNew, wDisp, wPairs, w1, w2, gLen, gSum, gExt, gMax2, gMin2, gAbs, gIntC, gListC, gTupC, gBools, wIsi, wIsi2, wRevS, itemsS, intsOf, asD_d, asD_own, asDs, hideS, wipeS, spD, cDiv, cMod, List.cons_append, List.nil_append, List.length_cons, List.length_nil, List.getElem?_cons_zero, List.getElem?_cons_succ, List.set_cons_zero, List.set_cons_succ, List.replicate, List.sum_cons, List.sum_nil, List.map_cons, List.map_nil, true_and, Bool.false_eq_true, if_false, if_true]
    refine ⟨(selP p t).w.toNat, by rw [w_toNat ok], by omega, ?_⟩
    have hs := spans_len (selP p t).w.toNat
    have c : (selP p t).w.toNat ≤ 1000 := by omega
    have d : (selP p t).w.toNat * (selP p t).w.toNat ≤ 1000 * 1000 := Nat.mul_le_mul c c
    simp only [List.length_map, wSeq, wNext, wDrop, wRet, wRetO, wIfS, wSet, wSetD, wFrz, wThenFrz, wAsg, wPar, wPar3, wG, wGnil, wGcons, wGtup, wGS, wApp, wExt, wAugMul, wC, wV, wVR, wOp, wNil, wCons, wStar, wTup, wLst, wB, wAnd, wOr, wNot, wAndV, wOrV, wNotV, wIf, wFor, wIL, wIT, wIR1, wIR2, wIZ, wIE, wIRv, wComp, wComp2, wYes, wCall, argF, wNeg, wChain, gAdd, gSub, gInt, gInt0, gFdiv, gMod, gPow, gMul, gCmp, gLt, gLe, gGt, gGe, gEq, gNe, gIs, gIsNot, isNoneD, gIn, gIx, wNoP, wPart, wCut, gIxD, wKD, gInD, wDNew, wDisp, wPairs, w1, w2, gLen, gSum, gExt, gMax2, gMin2, gAbs, gIntC, gListC, gTupC, gBools, wIsi, wIsi2, wRevS, itemsS, intsOf, asD_d, asD_own, asDs, hideS, wipeS, spD, cDiv, cMod, List.cons_append, List.nil_append, List.length_cons, List.length_nil, List.getElem?_cons_zero, List.getElem?_cons_succ, List.set_cons_zero, List.set_cons_succ, List.replicate, List.sum_cons, List.sum_nil, List.map_cons, List.map_nil, true_and, Bool.false_eq_true, if_false, if_true]
    refine ⟨by unfold sizeLine; omega, compL_pure (p := fun x => decide (endM x (movesM r t) = selP p t)) (out := spD) (fun x hx R hR => ?_) ?_⟩
    · simp only [wSeq, wNext, wDrop, wRet, wRetO, wIfS, wSet, wSetD, wFrz, wThenFrz, wAsg, wPar, wPar3, wG, wGnil, wGcons, wGtup, wGS, wApp, wExt, wAugMul, wC, wV, wVR, wOp, wNil, wCons, wStar, wTup, wLst, wB, wAnd, wOr, wNot, wAndV, wOrV, wNotV, wIf, wFor, wIL, wIT, wIR1, wIR2, wIZ, wIE, wIRv, wComp, wComp2, wYes, wCall, argF, wNeg, wChain, gAdd, gSub, gInt, gInt0, gFdiv, gMod, gPow, gMul, gCmp, gLt, gLe, gGt, gGe, gEq, gNe, gIs, gIsNot, isNoneD, gIn, gIx, wNoP, wPart, wCut, gIxD, wKD, gInD, wDNew, wDisp, wPairs, w1, w2, gLen, gSum, gExt, gMax2, gMin2, gAbs, gIntC, gListC, gTupC, gBools, wIsi, wIsi2, wRevS, itemsS, intsOf, asD_d, asD_own, asDs, hideS, wipeS, spD, cDiv, cMod, List.cons_append, List.nil_append, List.length_cons, List.length_nil, List.getElem?_cons_zero, List.getElem?_cons_succ, List.set_cons_zero, List.set_cons_succ, List.replicate, List.sum_cons, List.sum_nil, List.map_cons, List.map_nil, true_and, Bool.false_eq_true, if_false, if_true]
      refine ⟨x, movesM r t, rfl, Nat.le_trans (moves_len r t) hl, ?_⟩
      simp only [e, wSeq, wNext, wDrop, wRet, wRetO, wIfS, wSet, wSetD, wFrz, wThenFrz, wAsg, wPar, wPar3, wG, wGnil, wGcons, wGtup, wGS, wApp, wExt, wAugMul, wC, wV, wVR, wOp, wNil, wCons, wStar, wTup, wLst, wB, wAnd, wOr, wNot, wAndV, wOrV, wNotV, wIf, wFor, wIL, wIT, wIR1, wIR2, wIZ, wIE, wIRv, wComp, wComp2, wYes, wCall, argF, wNeg, wChain, gAdd, gSub, gInt, gInt0, gFdiv, gMod, gPow, gMul, gCmp, gLt, gLe, gGt, gGe, gEq, gNe, gIs, gIsNot, isNoneD, gIn, gIx, wNoP, wPart, wCut, gIxD, wKD, gInD, wDNew, wDisp, wPairs, w1, w2, gLen, gSum, gExt, gMax2, gMin2, gAbs, gIntC, gListC, gTupC, gBools, wIsi, wIsi2, wRevS, itemsS, intsOf, asD_d, asD_own, asDs, hideS, wipeS, spD, cDiv, cMod, List.cons_append, List.nil_append, List.length_cons, List.length_nil, List.getElem?_cons_zero, List.getElem?_cons_succ, List.set_cons_zero, List.set_cons_succ, List.replicate, List.sum_cons, List.sum_nil, List.map_cons, List.map_nil, true_and, Bool.false_eq_true, if_false, if_true]
      have e1 := ok_spD (endM x (movesM r t)) (selP p t)
      have e2 := eqv_spD (endM x (movesM r t)) (selP p t)
      simp only [spD] at e1 e2
      refine ⟨e1, ?_⟩
      rw [e2]
      revert hR
      cases decide (endM x (movesM r t) = selP p t) <;> exact id
    · have e3 : ((spansM (selP p t).w.toNat).filter fun x => decide (endM x (movesM r t) = selP p t)).length = cntT r p t := cntT_eq r p t
      simp only [List.length_map, e3, wSeq, wNext, wDrop, wRet, wRetO, wIfS, wSet, wSetD, wFrz, wThenFrz, wAsg, wPar, wPar3, wG, wGnil, wGcons, wGtup, wGS, wApp, wExt, wAugMul, wC, wV, wVR, wOp, wNil, wCons, wStar, wTup, wLst, wB, wAnd, wOr, wNot, wAndV, wOrV, wNotV, wIf, wFor, wIL, wIT, wIR1, wIR2, wIZ, wIE, wIRv, wComp, wComp2, wYes, wCall, argF, wNeg, wChain, gAdd, gSub, gInt, gInt0, gFdiv, gMod, gPow, gMul, gCmp, gLt, gLe, gGt, gGe, gEq, gNe, gIs, gIsNot, isNoneD, gIn, gIx, wNoP, wPart, wCut, gIxD, wKD, gInD, wDNew, wDisp, wPairs, w1, w2, gLen, gSum, gExt, gMax2, gMin2, gAbs, gIntC, gListC, gTupC, gBools, wIsi, wIsi2, wRevS, itemsS, intsOf, asD_d, asD_own, asDs, hideS, wipeS, spD, cDiv, cMod, List.cons_append, List.nil_append, List.length_cons, List.length_nil, List.getElem?_cons_zero, List.getElem?_cons_succ, List.set_cons_zero, List.set_cons_succ, List.replicate, List.sum_cons, List.sum_nil, List.map_cons, List.map_nil, true_and, Bool.false_eq_true, if_false, if_true]
      refine ⟨.inr (by omega), hN _ ⟨n * cntT r p t, .d (.int (tI t)), .d (mvsD (movesM r t)), rfl, ?_⟩⟩
      rw [← hn]
      simp only [List.map_cons, List.foldr_cons]
      rw [Int.mul_assoc]
  · rintro ρ ⟨n, o, o2, rfl, hn⟩
    simp only [wSeq, wNext, wDrop, wRet, wRetO, wIfS, wSet, wSetD, wFrz, wThenFrz, wAsg, wPar, wPar3, wG, wGnil, wGcons, wGtup, wGS, wApp, wExt, wAugMul, wC, wV, wVR, wOp, wNil, wCons, wStar, wTup, wLst, wB, wAnd, wOr, wNot, wAndV, wOrV, wNotV, wIf, wFor, wIL, wIT, wIR1, wIR2, wIZ, wIE, wIRv, wComp, wComp2, wYes, wCall, argF, wNeg, wChain, gAdd, gSub, gInt, gInt0, gFdiv, gMod, gPow, gMul, gCmp, gLt, gLe, gGt, gGe, gEq, gNe, gIs, gIsNot, isNoneD, gIn, gIx, wNoP, wPart, wCut, gIxD, wKD, gInD, wDNew, wDisp, wPairs, w1, w2, gLen, gSum, gExt, gMax2, gMin2, gAbs, gIntC, gListC, gTupC, gBools, wIsi, wIsi2, wRevS, itemsS, intsOf, asD_d, asD_own, asDs, hideS, wipeS, spD, cDiv, cMod, List.cons_append, List.nil_append, List.length_cons, List.length_nil, List.getElem?_cons_zero, List.getElem?_cons_succ, List.set_cons_zero, List.set_cons_succ, List.replicate, List.sum_cons, List.sum_nil, List.map_cons, List.map_nil, true_and, Bool.false_eq_true, if_false, if_true]
    simp only [List.map_nil, List.foldr_nil, Int.mul_one] at hn
    rw [hn]; exact h
end Z


/-! count_places, count_still -/
namespace Z
open PySem PySem.Spec PyProof.Rows L2
/-! keys put into a dict one by one -/
def insK {α : Type} [DecidableEq α] (ks : List α) (y : α) : List α := if y ∈ ks then ks else ks ++ [y]
def foldK {α : Type} [DecidableEq α] (ks : List α) (l : List α) : List α := l.foldl insK ks
theorem insK_nodup {α : Type} [DecidableEq α] {ks : List α} (h : ks.Nodup) (y : α) : (insK ks y).Nodup := by
  unfold insK; split
  · exact h
  · rename_i hn
    exact List.nodup_append.mpr ⟨h, List.nodup_cons.mpr ⟨by simp, List.nodup_nil⟩, fun a ha b hb => by simp at hb; subst hb; exact fun e => hn (e ▸ ha)⟩
theorem insK_mem {α : Type} [DecidableEq α] {ks : List α} {y x : α} : x ∈ insK ks y ↔ x ∈ ks ∨ x = y := by
  unfold insK; split
  · rename_i h
    exact ⟨Or.inl, fun z => z.elim id fun e => e ▸ h⟩
  · simp
theorem insK_len {α : Type} [DecidableEq α] {ks : List α} {y : α} : (insK ks y).length ≤ ks.length + 1 := by unfold insK; split <;> simp
theorem foldK_nodup {α : Type} [DecidableEq α] : ∀ (l ks : List α), ks.Nodup → (foldK ks l).Nodup
  | [], ks, h => h
  | y :: l, ks, h => foldK_nodup l _ (insK_nodup h y)
theorem foldK_mem {α : Type} [DecidableEq α] : ∀ (l ks : List α) (x : α), x ∈ foldK ks l ↔ x ∈ ks ∨ x ∈ l
  | [], ks, x => by simp [foldK]
  | y :: l, ks, x => by
    show x ∈ foldK (insK ks y) l ↔ _
    rw [foldK_mem l, insK_mem, List.mem_cons, or_assoc]
theorem put_keys {α : Type} [DecidableEq α] {enc : α → PyData} {c : PyData} (he : ∀ x y, PyData.eqv (enc x) (enc y) = decide (x = y)) (ks : List α) (y : α) :
    putD (ks.map fun x => (enc x, c)) (enc y) c = (insK ks y).map fun x => (enc x, c) := by
  have ha : ((ks.map fun x => (enc x, c)).any fun kv => PyData.eqv kv.1 (enc y)) = decide (y ∈ ks) := by
    rw [List.any_map, Bool.eq_iff_iff, List.any_eq_true]
    simp only [Function.comp, he, decide_eq_true_eq]
    exact ⟨fun ⟨x, h1, h2⟩ => h2 ▸ h1, fun h => ⟨y, h, rfl⟩⟩
  unfold putD insK
  rw [ha]
  by_cases h : y ∈ ks
  · rw [if_pos (decide_eq_true h), if_pos h, List.map_map]
    refine List.map_congr_left fun x _ => ?_
    simp only [Function.comp]
    split <;> rfl
  · rw [if_neg (by simp [h]), if_neg h]; simp
def spK (x : Spn) : NestedKey := .tup [.num x.a, .num x.s, .num x.b]
theorem sp_nk (x : Spn) : ∃ nk, PyData.tuple [.int x.a, .int x.s, .int x.b] = nkD nk ∧ nk.depth ≤ 8 ∧ ∃ ks, nk = .tup ks := ⟨spK x, by simp [spK, nkD, nkDs], by simp [spK, NestedKey.depth, NestedKey.depthAll], _, rfl⟩
theorem pl_nk (p : Spn × Spn) : ∃ nk, plD p = nkD nk ∧ nk.depth ≤ 8 ∧ ∃ ks, nk = .tup ks := ⟨.tup [spK p.1, spK p.2], by simp [plD, spD, spK, nkD, nkDs], by simp [spK, NestedKey.depth, NestedKey.depthAll], _, rfl⟩
def selI (a b : Int) (t : Bool) : Int := if t then b else a
def imgT (r : List Ky) (t : Bool) (n : Nat) : List Spn := foldK [] ((spansM n).map fun x => endM x (rawM r t))
def stT (r : List Ky) (t : Bool) (n : Nat) : List Spn := (spansM n).filter fun x => decide (endM x (rawM r t) = x)
def cpM (r : List Ky) (w h : Nat) : Int := 1 * ((imgT r false w).length : Int) * ((imgT r true h).length : Int)
def csM (r : List Ky) (w h : Nat) : Int := 1 * ((stT r false w).length : Int) * ((stT r true h).length : Int)
def bcount_places : FS :=
  (wSeq (wSetD 3 (wC (.int 1))) (wSeq (wFor (wIT (wTup (wCons (wTup (wCons (wC (.int 0)) (wCons (wV 1) wNil))) (wCons (wTup (wCons (wC (.int 1)) (wCons (wV 2) wNil))) wNil)))) (wGtup 2 (wGcons (wG 4) (wGcons (wG 5) wGnil))) (wSeq (wThenFrz 6 (wPar 6 7 (wCons (wCall φmoves_of (wCons (wV 0) (wCons (wV 4) wNil))) (wCons wDNewN wNil)))) (wSeq (wFor (wIL (wCall φspans_of (wCons (wV 5) wNil))) (wG 8) (wAsg (wC (.bool true)) (wGSN 7 (wCall φlast_span (wCons (wV 8) (wCons (wV 6) wNil)))))) (wAugMul 3 (w1 gLenN (wVR 7)))))) (wRet (wV 3))))

def φcount_places : Phi := fun as Q => ∃ (r : List Ky) (w h : Nat), as = [.d (rowD r), .d (.int w), .d (.int h)] ∧ r.length ≤ 1000 ∧ (w ≤ 1000 ∧ h ≤ 1000) ∧ Q (.d (.int (cpM r w h)))
theorem lcount_places : ∀ as Q, φcount_places as Q → as.length = 3 := by rintro _ Q ⟨r, w, h, rfl, _, _⟩; rfl
def wh (w h : Nat) (t : Bool) : Nat := if t then h else w
def atD (w h : Nat) (t : Bool) : PyData := .tuple [.int (tI t), .int (wh w h t : Nat)]
def bcpT : FS :=
  (wSeq (wFor (wIL (wCall φspans_of (wCons (wV 5) wNil))) (wG 8) (wAsg (wC (.bool true)) (wGSN 7 (wCall φlast_span (wCons (wV 8) (wCons (wV 6) wNil)))))) (wAugMul 3 (w1 gLenN (wVR 7))))

theorem asD_cases {sv : SV} {x : PyData} (e : asD sv = some x) : (∃ xs, sv = SV.own xs ∧ x = .list xs) ∨ sv = .d x := by
  cases sv <;> first
    | (cases e; done)
    | (cases e; exact .inr rfl)
    | (cases e; exact .inl ⟨_, rfl, rfl⟩)
theorem wcpT {E : FEnds} {r : List Ky} {t : Bool} {m : Nat} {n : Int} {o0 o1 o2 o4 o8 : SV} (hl : r.length ≤ 1000) (hm : m ≤ 1000) (h : ∀ o7 o8, E.nx [o0, o1, o2, .d (.int (n * ((imgT r t m).length : Int))), o4, .d (.int m), .d (mvsD (movesM r t)), o7, o8]) :
    bcpT E [o0, o1, o2, .d (.int n), o4, .d (.int m), .d (mvsD (movesM r t)), .dcn [], o8] := by
  have hsz : (2 : Nat) ^ 24 = 16777216 := by decide
  have h64 : (2 : Int) ^ 64 = 18446744073709551616 := by decide
  have hs := spans_len m
  have d : m * m ≤ 1000 * 1000 := Nat.mul_le_mul hm hm
  simp only [bcpT, wDNewN, gIxN, gInN, wGSN, gLenN, wSeq, wNext, wDrop, wRet, wRetO, wIfS, wSet, wSetD, wFrz, wThenFrz, wAsg, wPar, wPar3, wG, wGnil, wGcons, wGtup, wGS, wApp, wExt, wAugMul, wC, wV, wVR, wOp, wNil, wCons, wStar, wTup, wLst, wB, wAnd, wOr, wNot, wAndV, wOrV, wNotV, wIf, wFor, wIL, wIT, wIR1, wIR2, wIZ, wIE, wIRv, wComp, wComp2, wYes, wCall, argF, wNeg, wChain, gAdd, gSub, gInt, gInt0, gFdiv, gMod, gPow, gMul, gCmp, gLt, gLe, gGt, gGe, gEq, gNe, gIs, gIsNot, isNoneD, gIn, gIx, wNoP, wPart, wCut, gIxD, wKD, gInD, wDNew, wDisp, wPairs, w1, w2, gLen, gSum, gExt, gMax2, gMin2, gAbs, gIntC, gListC, gTupC, gBools, wIsi, wIsi2, wRevS, itemsS, intsOf, asD_d, asD_own, asDs, hideS, wipeS, spD, cDiv, cMod, List.cons_append, List.nil_append, List.length_cons, List.length_nil, List.getElem?_cons_zero, List.getElem?_cons_succ, List.set_cons_zero, List.set_cons_succ, List.replicate, List.sum_cons, List.sum_nil, List.map_cons, List.map_nil, true_and, Bool.false_eq_true, if_false, if_true]
  refine ⟨m, rfl, hm, ?_⟩
  simp only [wDNewN, gIxN, gInN, wGSN, gLenN, wSeq, wNext, wDrop, wRet, wRetO, wIfS, wSet, wSetD, wFrz, wThenFrz, wAsg, wPar, wPar3, wG, wGnil, wGcons, wGtup, wGS, wApp, wExt, wAugMul, wC, wV, wVR, wOp, wNil, wCons, wStar, wTup, wLst, wB, wAnd, wOr, wNot, wAndV, wOrV, wNotV, wIf, wFor, wIL, wIT, wIR1, wIR2, wIZ, wIE, wIRv, wComp, wComp2, wYes, wCall, argF, wNeg, wChain, gAdd, gSub, gInt, gInt0, gFdiv, gMod, gPow, gMul, gCmp, gLt, gLe, gGt, gGe, gEq, gNe, gIs, gIsNot, isNoneD, gIn, gIx, wNoP, wPart, wCut, gIxD, wKD, gInD, wDNew, wDisp, wPairs, w1, w2, gLen, gSum, gExt, gMax2, gMin2, gAbs, gIntC, gListC, gTupC, gBools, wIsi, wIsi2, wRevS, itemsS, intsOf, asD_d, asD_own, asDs, hideS, wipeS, spD, cDiv, cMod, List.cons_append, List.nil_append, List.length_cons, List.length_nil, List.getElem?_cons_zero, List.getElem?_cons_succ, List.set_cons_zero, List.set_cons_succ, List.replicate, List.sum_cons, List.sum_nil, List.map_cons, List.map_nil, true_and, Bool.false_eq_true, if_false, if_true]
  refine forL_inv (I := fun xs ρ => ∃ (ks : List Spn) (o8 : SV), ρ = [o0, o1, o2, .d (.int n), o4, .d (.int m), .d (mvsD (movesM r t)), .dcn (ks.map fun x => (spD x, .bool true)), o8] ∧ ks.length + xs.length ≤ (spansM m).length ∧
    foldK ks (xs.map fun x => endM x (rawM r t)) = imgT r t m) ⟨[], _, rfl, by simp, rfl⟩ ?_ ?_
  · rintro x xs ρ _ ⟨ks, o8, rfl, hlen, hf⟩ N hN
    rw [List.length_cons] at hlen
    simp only [mvsD, wDNewN, gIxN, gInN, wGSN, gLenN, wSeq, wNext, wDrop, wRet, wRetO, wIfS, wSet, wSetD, wFrz, wThenFrz, wAsg, wPar, wPar3, wG, wGnil, wGcons, wGtup, wGS, wApp, wExt, wAugMul, wC, wV, wVR, wOp, wNil, wCons, wStar, wTup, wLst, wB, wAnd, wOr, wNot, wAndV, wOrV, wNotV, wIf, wFor, wIL, wIT, wIR1, wIR2, wIZ, wIE, wIRv, wComp, wComp2, wYes, wCall, argF, wNeg, wChain, gAdd, gSub, gInt, gInt0, gFdiv, gMod, gPow, gMul, gCmp, gLt, gLe, gGt, gGe, gEq, gNe, gIs, gIsNot, isNoneD, gIn, gIx, wNoP, wPart, wCut, gIxD, wKD, gInD, wDNew, wDisp, wPairs, w1, w2, gLen, gSum, gExt, gMax2, gMin2, gAbs, gIntC, gListC, gTupC, gBools, wIsi, wIsi2, wRevS, itemsS, intsOf, asD_d, asD_own, asDs, hideS, wipeS, spD, cDiv, cMod, List.cons_append, List.nil_append, List.length_cons, List.length_nil, List.getElem?_cons_zero, List.getElem?_cons_succ, List.set_cons_zero, List.set_cons_succ, List.replicate, List.sum_cons, List.sum_nil, List.map_cons, List.map_nil, true_and, Bool.false_eq_true, if_false, if_true]
    refine ⟨x, movesM r t, rfl, Nat.le_trans (moves_len r t) hl, ?_⟩
    simp only [List.length_map, wDNewN, gIxN, gInN, wGSN, gLenN, wSeq, wNext, wDrop, wRet, wRetO, wIfS, wSet, wSetD, wFrz, wThenFrz, wAsg, wPar, wPar3, wG, wGnil, wGcons, wGtup, wGS, wApp, wExt, wAugMul, wC, wV, wVR, wOp, wNil, wCons, wStar, wTup, wLst, wB, wAnd, wOr, wNot, wAndV, wOrV, wNotV, wIf, wFor, wIL, wIT, wIR1, wIR2, wIZ, wIE, wIRv, wComp, wComp2, wYes, wCall, argF, wNeg, wChain, gAdd, gSub, gInt, gInt0, gFdiv, gMod, gPow, gMul, gCmp, gLt, gLe, gGt, gGe, gEq, gNe, gIs, gIsNot, isNoneD, gIn, gIx, wNoP, wPart, wCut, gIxD, wKD, gInD, wDNew, wDisp, wPairs, w1, w2, gLen, gSum, gExt, gMax2, gMin2, gAbs, gIntC, gListC, gTupC, gBools, wIsi, wIsi2, wRevS, itemsS, intsOf, asD_d, asD_own, asDs, hideS, wipeS, spD, cDiv, cMod, List.cons_append, List.nil_append, List.length_cons, List.length_nil, List.getElem?_cons_zero, List.getElem?_cons_succ, List.set_cons_zero, List.set_cons_succ, List.replicate, List.sum_cons, List.sum_nil, List.map_cons, List.map_nil, true_and, Bool.false_eq_true, if_false, if_true]
    refine ⟨⟨sp_nk _, by unfold sizeLine; omega⟩, hN _ ⟨insK ks (endM x (movesM r t)), .d (spD x), ?_, ?_, ?_⟩⟩
    · have := put_keys (enc := spD) (c := .bool true) eqv_spD ks (endM x (movesM r t))
      simp only [spD] at this
      rw [this]; rfl
    · have := insK_len (ks := ks) (y := endM x (movesM r t))
      omega
    · rw [← hf, List.map_cons, end_moves]; rfl
  · rintro ρ ⟨ks, o8, rfl, hlen, hf⟩
    have : ks = imgT r t m := hf
    subst this
    simp only [List.length_map, wDNewN, gIxN, gInN, wGSN, gLenN, wSeq, wNext, wDrop, wRet, wRetO, wIfS, wSet, wSetD, wFrz, wThenFrz, wAsg, wPar, wPar3, wG, wGnil, wGcons, wGtup, wGS, wApp, wExt, wAugMul, wC, wV, wVR, wOp, wNil, wCons, wStar, wTup, wLst, wB, wAnd, wOr, wNot, wAndV, wOrV, wNotV, wIf, wFor, wIL, wIT, wIR1, wIR2, wIZ, wIE, wIRv, wComp, wComp2, wYes, wCall, argF, wNeg, wChain, gAdd, gSub, gInt, gInt0, gFdiv, gMod, gPow, gMul, gCmp, gLt, gLe, gGt, gGe, gEq, gNe, gIs, gIsNot, isNoneD, gIn, gIx, wNoP, wPart, wCut, gIxD, wKD, gInD, wDNew, wDisp, wPairs, w1, w2, gLen, gSum, gExt, gMax2, gMin2, gAbs, gIntC, gListC, gTupC, gBools, wIsi, wIsi2, wRevS, itemsS, intsOf, asD_d, asD_own, asDs, hideS, wipeS, spD, cDiv, cMod, List.cons_append, List.nil_append, List.length_cons, List.length_nil, List.getElem?_cons_zero, List.getElem?_cons_succ, List.set_cons_zero, List.set_cons_succ, List.replicate, List.sum_cons, List.sum_nil, List.map_cons, List.map_nil, true_and, Bool.false_eq_true, if_false, if_true]
    simp only [List.length_nil, Nat.add_zero] at hlen
    exact ⟨.inr (by omega), h _ _⟩
theorem wcount_places : ∀ as Q, φcount_places as Q → bcount_places { nx := fun _ => Q (.d .none), rt := fun sv _ => Q sv } (as ++ List.replicate (9 - as.length) .no) := by
  rintro _ Q ⟨r, w, h, rfl, hl, ⟨hw, hh⟩, hq⟩
  have hsz : (2 : Nat) ^ 24 = 16777216 := by decide
  simp only [bcount_places, wDNewN, gIxN, gInN, wGSN, gLenN, wSeq, wNext, wDrop, wRet, wRetO, wIfS, wSet, wSetD, wFrz, wThenFrz, wAsg, wPar, wPar3, wG, wGnil, wGcons, wGtup, wGS, wApp, wExt, wAugMul, wC, wV, wVR, wOp, wNil, wCons, wStar, wTup, wLst, wB, wAnd, wOr, wNot, wAndV, wOrV, wNotV, wIf, wFor, wIL, wIT, wIR1, wIR2, wIZ, wIE, wIRv, wComp, wComp2, wYes, wCall, argF, wNeg, wChain, gAdd, gSub, gInt, gInt0, gFdiv, gMod, gPow, gMul, gCmp, gLt, gLe, gGt, gGe, gEq, gNe, gIs, gIsNot, isNoneD, gIn, gIx, wNoP, wPart, wCut, gIxD, wKD, gInD, wDNew, wDisp, wPairs, w1, w2, gLen, gSum, gExt, gMax2, gMin2, gAbs, gIntC, gListC, gTupC, gBools, wIsi, wIsi2, wRevS, itemsS, intsOf, asD_d, asD_own, asDs, hideS, wipeS, spD, cDiv, cMod, List.cons_append, List.nil_append, List.length_cons, List.length_nil, List.getElem?_cons_zero, List.getElem?_cons_succ, List.set_cons_zero, List.set_cons_succ, List.replicate, List.sum_cons, List.sum_nil, List.map_cons, List.map_nil, true_and, Bool.false_eq_true, if_false, if_true]
  refine ⟨by decide, by decide, by decide, ?_⟩
  show wForL _ _ ([false, true].map (atD w h)) _ _
  refine forL_inv (I := fun ts ρ => ∃ (n : Int) (o4 o5 o6 o7 o8 : SV), ρ = [.d (rowD r), .d (.int w), .d (.int h), .d (.int n), o4, o5, o6, o7, o8] ∧ n * (ts.map fun t => ((imgT r t (wh w h t)).length : Int)).foldr (· * ·) 1 = cpM r w h) ⟨1, _, _, _, _, _, rfl, by simp [cpM, wh]⟩ ?_ ?_
  · rintro t ts ρ _ ⟨n, o4, o5, o6, o7, o8, rfl, hn⟩ N hN
    have hwt : wh w h t ≤ 1000 := by cases t; exact hw; exact hh
    have fin : ∀ o7 o8, N [.d (rowD r), .d (.int w), .d (.int h), .d (.int (n * ((imgT r t (wh w h t)).length : Int))), .d (.int (tI t)), .d (.int (wh w h t : Nat)), .d (mvsD (movesM r t)), o7, o8] := fun o7 o8 =>
      hN _ ⟨_, _, _, _, _, _, rfl, by rw [← hn]; simp only [List.map_cons, List.foldr_cons]; rw [Int.mul_assoc]⟩
    simp only [atD, rowD, wDNewN, gIxN, gInN, wGSN, gLenN, wSeq, wNext, wDrop, wRet, wRetO, wIfS, wSet, wSetD, wFrz, wThenFrz, wAsg, wPar, wPar3, wG, wGnil, wGcons, wGtup, wGS, wApp, wExt, wAugMul, wC, wV, wVR, wOp, wNil, wCons, wStar, wTup, wLst, wB, wAnd, wOr, wNot, wAndV, wOrV, wNotV, wIf, wFor, wIL, wIT, wIR1, wIR2, wIZ, wIE, wIRv, wComp, wComp2, wYes, wCall, argF, wNeg, wChain, gAdd, gSub, gInt, gInt0, gFdiv, gMod, gPow, gMul, gCmp, gLt, gLe, gGt, gGe, gEq, gNe, gIs, gIsNot, isNoneD, gIn, gIx, wNoP, wPart, wCut, gIxD, wKD, gInD, wDNew, wDisp, wPairs, w1, w2, gLen, gSum, gExt, gMax2, gMin2, gAbs, gIntC, gListC, gTupC, gBools, wIsi, wIsi2, wRevS, itemsS, intsOf, asD_d, asD_own, asDs, hideS, wipeS, spD, cDiv, cMod, List.cons_append, List.nil_append, List.length_cons, List.length_nil, List.getElem?_cons_zero, List.getElem?_cons_succ, List.set_cons_zero, List.set_cons_succ, List.replicate, List.sum_cons, List.sum_nil, List.map_cons, List.map_nil, true_and, Bool.false_eq_true, if_false, if_true]
    refine ⟨r, t, rfl, hl, fun sv hsv => ?_⟩
    rcases asD_cases hsv with ⟨xs, rfl, ex⟩ | rfl
    · simp only [wDNewN, gIxN, gInN, wGSN, gLenN, wSeq, wNext, wDrop, wRet, wRetO, wIfS, wSet, wSetD, wFrz, wThenFrz, wAsg, wPar, wPar3, wG, wGnil, wGcons, wGtup, wGS, wApp, wExt, wAugMul, wC, wV, wVR, wOp, wNil, wCons, wStar, wTup, wLst, wB, wAnd, wOr, wNot, wAndV, wOrV, wNotV, wIf, wFor, wIL, wIT, wIR1, wIR2, wIZ, wIE, wIRv, wComp, wComp2, wYes, wCall, argF, wNeg, wChain, gAdd, gSub, gInt, gInt0, gFdiv, gMod, gPow, gMul, gCmp, gLt, gLe, gGt, gGe, gEq, gNe, gIs, gIsNot, isNoneD, gIn, gIx, wNoP, wPart, wCut, gIxD, wKD, gInD, wDNew, wDisp, wPairs, w1, w2, gLen, gSum, gExt, gMax2, gMin2, gAbs, gIntC, gListC, gTupC, gBools, wIsi, wIsi2, wRevS, itemsS, intsOf, asD_d, asD_own, asDs, hideS, wipeS, spD, cDiv, cMod, List.cons_append, List.nil_append, List.length_cons, List.length_nil, List.getElem?_cons_zero, List.getElem?_cons_succ, List.set_cons_zero, List.set_cons_succ, List.replicate, List.sum_cons, List.sum_nil, List.map_cons, List.map_nil, true_and, Bool.false_eq_true, if_false, if_true]
      have := wcpT (E := { nx := N, rt := fun sv _ => Q sv, bk := wRet (wV 3) { nx := fun _ => Q (.d .none), rt := fun sv _ => Q sv }, ct := N }) (r := r) (t := t) (m := wh w h t) (n := n) (o8 := o8) hl hwt fin
      rw [ex] at this
      exact this
    · simp only [wDNewN, gIxN, gInN, wGSN, gLenN, wSeq, wNext, wDrop, wRet, wRetO, wIfS, wSet, wSetD, wFrz, wThenFrz, wAsg, wPar, wPar3, wG, wGnil, wGcons, wGtup, wGS, wApp, wExt, wAugMul, wC, wV, wVR, wOp, wNil, wCons, wStar, wTup, wLst, wB, wAnd, wOr, wNot, wAndV, wOrV, wNotV, wIf, wFor, wIL, wIT, wIR1, wIR2, wIZ, wIE, wIRv, wComp, wComp2, wYes, wCall, argF, wNeg, wChain, gAdd, gSub, gInt, gInt0, gFdiv, gMod, gPow, gMul, gCmp, gLt, gLe, gGt, gGe, gEq, gNe, gIs, gIsNot, isNoneD, gIn, gIx, wNoP, wPart, wCut, gIxD, wKD, gInD, wDNew, wDisp, wPairs, w1, w2, gLen, gSum, gExt, gMax2, gMin2, gAbs, gIntC, gListC, gTupC, gBools, wIsi, wIsi2, wRevS, itemsS, intsOf, asD_d, asD_own, asDs, hideS, wipeS, spD, cDiv, cMod, List.cons_append, List.nil_append, List.length_cons, List.length_nil, List.getElem?_cons_zero, List.getElem?_cons_succ, List.set_cons_zero, List.set_cons_succ, List.replicate, List.sum_cons, List.sum_nil, List.map_cons, List.map_nil, true_and, Bool.false_eq_true, if_false, if_true]
      exact wcpT (E := { nx := N, rt := fun sv _ => Q sv, bk := wRet (wV 3) { nx := fun _ => Q (.d .none), rt := fun sv _ => Q sv }, ct := N }) (r := r) (t := t) (m := wh w h t) (n := n) (o8 := o8) hl hwt fin
  · rintro ρ ⟨n, o4, o5, o6, o7, o8, rfl, hn⟩
    simp only [wDNewN, gIxN, gInN, wGSN, gLenN, wSeq, wNext, wDrop, wRet, wRetO, wIfS, wSet, wSetD, wFrz, wThenFrz, wAsg, wPar, wPar3, wG, wGnil, wGcons, wGtup, wGS, wApp, wExt, wAugMul, wC, wV, wVR, wOp, wNil, wCons, wStar, wTup, wLst, wB, wAnd, wOr, wNot, wAndV, wOrV, wNotV, wIf, wFor, wIL, wIT, wIR1, wIR2, wIZ, wIE, wIRv, wComp, wComp2, wYes, wCall, argF, wNeg, wChain, gAdd, gSub, gInt, gInt0, gFdiv, gMod, gPow, gMul, gCmp, gLt, gLe, gGt, gGe, gEq, gNe, gIs, gIsNot, isNoneD, gIn, gIx, wNoP, wPart, wCut, gIxD, wKD, gInD, wDNew, wDisp, wPairs, w1, w2, gLen, gSum, gExt, gMax2, gMin2, gAbs, gIntC, gListC, gTupC, gBools, wIsi, wIsi2, wRevS, itemsS, intsOf, asD_d, asD_own, asDs, hideS, wipeS, spD, cDiv, cMod, List.cons_append, List.nil_append, List.length_cons, List.length_nil, List.getElem?_cons_zero, List.getElem?_cons_succ, List.set_cons_zero, List.set_cons_succ, List.replicate, List.sum_cons, List.sum_nil, List.map_cons, List.map_nil, true_and, Bool.false_eq_true, if_false, if_true]
    simp only [List.map_nil, List.foldr_nil, Int.mul_one] at hn
    rw [hn]; exact hq
def bcount_still : FS :=
  (wSeq (wSetD 3 (wC (.int 1))) (wSeq (wFor (wIT (wTup (wCons (wTup (wCons (wC (.int 0)) (wCons (wV 1) wNil))) (wCons (wTup (wCons (wC (.int 1)) (wCons (wV 2) wNil))) wNil)))) (wGtup 2 (wGcons (wG 4) (wGcons (wG 5) wGnil))) (wSeq (wSetD 6 (wCall φmoves_of (wCons (wV 0) (wCons (wV 4) wNil)))) (wAugMul 3 (w1 gLen (wComp (wIL (wCall φspans_of (wCons (wV 5) wNil))) (wG 7) (wB (wOp gEq (wCall φlast_span (wCons (wV 7) (wCons (wV 6) wNil))) (wV 7))) (wV 7) [7]))))) (wRet (wV 3))))

def φcount_still : Phi := fun as Q => ∃ (r : List Ky) (w h : Nat), as = [.d (rowD r), .d (.int w), .d (.int h)] ∧ r.length ≤ 1000 ∧ (w ≤ 1000 ∧ h ≤ 1000) ∧ Q (.d (.int (csM r w h)))
theorem lcount_still : ∀ as Q, φcount_still as Q → as.length = 3 := by rintro _ Q ⟨r, w, h, rfl, _, _⟩; rfl
theorem wcount_still : ∀ as Q, φcount_still as Q → bcount_still { nx := fun _ => Q (.d .none), rt := fun sv _ => Q sv } (as ++ List.replicate (8 - as.length) .no) := by
  rintro _ Q ⟨r, w, h, rfl, hl, ⟨hw, hh⟩, hq⟩
  have hsz : (2 : Nat) ^ 24 = 16777216 := by decide
  have h64 : (2 : Int) ^ 64 = 18446744073709551616 := by decide
  simp only [bcount_still, wDNewN, gIxN, gInN, wGSN, gLenN, wSeq, wNext, wDrop, wRet, wRetO, wIfS, wSet, wSetD, wFrz, wThenFrz, wAsg, wPar, wPar3, wG, wGnil, wGcons, wGtup, wGS, wApp, wExt, wAugMul, wC, wV, wVR, wOp, wNil, wCons, wStar, wTup, wLst, wB, wAnd, wOr, wNot, wAndV, wOrV, wNotV, wIf, wFor, wIL, wIT, wIR1, wIR2, wIZ, wIE, wIRv, wComp, wComp2, wYes, wCall, argF, wNeg, wChain, gAdd, gSub, gInt, gInt0, gFdiv, gMod, gPow, gMul, gCmp, gLt, gLe, gGt, gGe, gEq, gNe, gIs, gIsNot, isNoneD, gIn, gIx, wNoP, wPart, wCut, gIxD, wKD, gInD, wDNew, wDisp, wPairs, w1, w2, gLen, gSum, gExt, gMax2, gMin2, gAbs, gIntC, gListC, gTupC, gBools, wIsi, wIsi2, wRevS, itemsS, intsOf, asD_d, asD_own, asDs, hideS, wipeS, spD, cDiv, cMod, List.cons_append, List.nil_append, List.length_cons, List.length_nil, List.getElem?_cons_zero, List.getElem?_cons_succ, List.set_cons_zero, List.set_cons_succ, List.replicate, List.sum_cons, List.sum_nil, List.map_cons, List.map_nil, true_and, Bool.false_eq_true, if_false, if_true]
  refine ⟨by decide, by decide, by decide, ?_⟩
  show wForL _ _ ([false, true].map (atD w h)) _ _
  refine forL_inv (I := fun ts ρ => ∃ (n : Int) (o4 o5 o6 : SV), ρ = [.d (rowD r), .d (.int w), .d (.int h), .d (.int n), o4, o5, o6, .no] ∧ n * (ts.map fun t => ((stT r t (wh w h t)).length : Int)).foldr (· * ·) 1 = csM r w h) ⟨1, _, _, _, rfl, by simp [csM, wh]⟩ ?_ ?_
  · rintro t ts ρ _ ⟨n, o4, o5, o6, rfl, hn⟩ N hN
    have hwt : wh w h t ≤ 1000 := by cases t; exact hw; exact hh
    have hs := spans_len (wh w h t)
    have d : wh w h t * wh w h t ≤ 1000 * 1000 := Nat.mul_le_mul hwt hwt
    simp only [atD, rowD, wDNewN, gIxN, gInN, wGSN, gLenN, wSeq, wNext, wDrop, wRet, wRetO, wIfS, wSet, wSetD, wFrz, wThenFrz, wAsg, wPar, wPar3, wG, wGnil, wGcons, wGtup, wGS, wApp, wExt, wAugMul, wC, wV, wVR, wOp, wNil, wCons, wStar, wTup, wLst, wB, wAnd, wOr, wNot, wAndV, wOrV, wNotV, wIf, wFor, wIL, wIT, wIR1, wIR2, wIZ, wIE, wIRv, wComp, wComp2, wYes, wCall, argF, wNeg, wChain, gAdd, gSub, gInt, gInt0, gFdiv, gMod, gPow, gMul, gCmp, gLt, gLe, gGt, gGe, gEq, gNe, gIs, gIsNot, isNoneD, gIn, gIx, wNoP, wPart, wCut, gIxD, wKD, gInD, wDNew, wDisp, wPairs, w1, w2, gLen, gSum, gExt, gMax2, gMin2, gAbs, gIntC, gListC, gTupC, gBools, wIsi, wIsi2, wRevS, itemsS, intsOf, asD_d, asD_own, asDs, hideS, wipeS, spD, cDiv, cMod, List.cons_append, List.nil_append, List.length_cons, List.length_nil, List.getElem?_cons_zero, List.getElem?_cons_succ, List.set_cons_zero, List.set_cons_succ, List.replicate, List.sum_cons, List.sum_nil, List.map_cons, List.map_nil, true_and, Bool.false_eq_true, if_false, if_true]
    refine ⟨r, t, rfl, hl, fun sv hsv => ?_⟩
    simp only [hsv]
    refine ⟨wh w h t, rfl, hwt, ?_⟩
    simp only [List.length_map, mvsD, wDNewN, gIxN, gInN, wGSN, gLenN, wSeq, wNext, wDrop, wRet, wRetO, wIfS, wSet, wSetD, wFrz, wThenFrz, wAsg, wPar, wPar3, wG, wGnil, wGcons, wGtup, wGS, wApp, wExt, wAugMul, wC, wV, wVR, wOp, wNil, wCons, wStar, wTup, wLst, wB, wAnd, wOr, wNot, wAndV, wOrV, wNotV, wIf, wFor, wIL, wIT, wIR1, wIR2, wIZ, wIE, wIRv, wComp, wComp2, wYes, wCall, argF, wNeg, wChain, gAdd, gSub, gInt, gInt0, gFdiv, gMod, gPow, gMul, gCmp, gLt, gLe, gGt, gGe, gEq, gNe, gIs, gIsNot, isNoneD, gIn, gIx, wNoP, wPart, wCut, gIxD, wKD, gInD, wDNew, wDisp, wPairs, w1, w2, gLen, gSum, gExt, gMax2, gMin2, gAbs, gIntC, gListC, gTupC, gBools, wIsi, wIsi2, wRevS, itemsS, intsOf, asD_d, asD_own, asDs, hideS, wipeS, spD, cDiv, cMod, List.cons_append, List.nil_append, List.length_cons, List.length_nil, List.getElem?_cons_zero, List.getElem?_cons_succ, List.set_cons_zero, List.set_cons_succ, List.replicate, List.sum_cons, List.sum_nil, List.map_cons, List.map_nil, true_and, Bool.false_eq_true, if_false, if_true]
    refine ⟨by unfold sizeLine; omega, compL_pure (p := fun x => decide (endM x (rawM r t) = x)) (out := spD) (fun x hx R hR => ?_) ?_⟩
    · simp only [wDNewN, gIxN, gInN, wGSN, gLenN, wSeq, wNext, wDrop, wRet, wRetO, wIfS, wSet, wSetD, wFrz, wThenFrz, wAsg, wPar, wPar3, wG, wGnil, wGcons, wGtup, wGS, wApp, wExt, wAugMul, wC, wV, wVR, wOp, wNil, wCons, wStar, wTup, wLst, wB, wAnd, wOr, wNot, wAndV, wOrV, wNotV, wIf, wFor, wIL, wIT, wIR1, wIR2, wIZ, wIE, wIRv, wComp, wComp2, wYes, wCall, argF, wNeg, wChain, gAdd, gSub, gInt, gInt0, gFdiv, gMod, gPow, gMul, gCmp, gLt, gLe, gGt, gGe, gEq, gNe, gIs, gIsNot, isNoneD, gIn, gIx, wNoP, wPart, wCut, gIxD, wKD, gInD, wDNew, wDisp, wPairs, w1, w2, gLen, gSum, gExt, gMax2, gMin2, gAbs, gIntC, gListC, gTupC, gBools, wIsi, wIsi2, wRevS, itemsS, intsOf, asD_d, asD_own, asDs, hideS, wipeS, spD, cDiv, cMod, List.cons_append, List.nil_append, List.length_cons, List.length_nil, List.getElem?_cons_zero, List.getElem?_cons_succ, List.set_cons_zero, List.set_cons_succ, List.replicate, List.sum_cons, List.sum_nil, List.map_cons, List.map_nil, true_and, Bool.false_eq_true, if_false, if_true]
      refine ⟨x, movesM r t, rfl, Nat.le_trans (moves_len r t) hl, ?_⟩
      have e1 := ok_spD (endM x (movesM r t)) x
      have e2 := eqv_spD (endM x (movesM r t)) x
      simp only [spD] at e1 e2
      simp only [spD, e1, e2, asD_d, true_and]
      rw [end_moves]
      revert hR
      cases decide (endM x (rawM r t) = x) <;> exact id
    · have hle := List.length_filter_le (fun x => decide (endM x (rawM r t) = x)) (spansM (wh w h t))
      simp only [List.length_map, wDNewN, gIxN, gInN, wGSN, gLenN, wSeq, wNext, wDrop, wRet, wRetO, wIfS, wSet, wSetD, wFrz, wThenFrz, wAsg, wPar, wPar3, wG, wGnil, wGcons, wGtup, wGS, wApp, wExt, wAugMul, wC, wV, wVR, wOp, wNil, wCons, wStar, wTup, wLst, wB, wAnd, wOr, wNot, wAndV, wOrV, wNotV, wIf, wFor, wIL, wIT, wIR1, wIR2, wIZ, wIE, wIRv, wComp, wComp2, wYes, wCall, argF, wNeg, wChain, gAdd, gSub, gInt, gInt0, gFdiv, gMod, gPow, gMul, gCmp, gLt, gLe, gGt, gGe, gEq, gNe, gIs, gIsNot, isNoneD, gIn, gIx, wNoP, wPart, wCut, gIxD, wKD, gInD, wDNew, wDisp, wPairs, w1, w2, gLen, gSum, gExt, gMax2, gMin2, gAbs, gIntC, gListC, gTupC, gBools, wIsi, wIsi2, wRevS, itemsS, intsOf, asD_d, asD_own, asDs, hideS, wipeS, spD, cDiv, cMod, List.cons_append, List.nil_append, List.length_cons, List.length_nil, List.getElem?_cons_zero, List.getElem?_cons_succ, List.set_cons_zero, List.set_cons_succ, List.replicate, List.sum_cons, List.sum_nil, List.map_cons, List.map_nil, true_and, Bool.false_eq_true, if_false, if_true]
      refine ⟨.inr (by omega), hN _ ⟨_, _, _, .d (mvsD (movesM r t)), rfl, ?_⟩⟩
      rw [← hn]; simp only [List.map_cons, List.foldr_cons]; rw [Int.mul_assoc]; rfl
  · rintro ρ ⟨n, o4, o5, o6, rfl, hn⟩
    simp only [wDNewN, gIxN, gInN, wGSN, gLenN, wSeq, wNext, wDrop, wRet, wRetO, wIfS, wSet, wSetD, wFrz, wThenFrz, wAsg, wPar, wPar3, wG, wGnil, wGcons, wGtup, wGS, wApp, wExt, wAugMul, wC, wV, wVR, wOp, wNil, wCons, wStar, wTup, wLst, wB, wAnd, wOr, wNot, wAndV, wOrV, wNotV, wIf, wFor, wIL, wIT, wIR1, wIR2, wIZ, wIE, wIRv, wComp, wComp2, wYes, wCall, argF, wNeg, wChain, gAdd, gSub, gInt, gInt0, gFdiv, gMod, gPow, gMul, gCmp, gLt, gLe, gGt, gGe, gEq, gNe, gIs, gIsNot, isNoneD, gIn, gIx, wNoP, wPart, wCut, gIxD, wKD, gInD, wDNew, wDisp, wPairs, w1, w2, gLen, gSum, gExt, gMax2, gMin2, gAbs, gIntC, gListC, gTupC, gBools, wIsi, wIsi2, wRevS, itemsS, intsOf, asD_d, asD_own, asDs, hideS, wipeS, spD, cDiv, cMod, List.cons_append, List.nil_append, List.length_cons, List.length_nil, List.getElem?_cons_zero, List.getElem?_cons_succ, List.set_cons_zero, List.set_cons_succ, List.replicate, List.sum_cons, List.sum_nil, List.map_cons, List.map_nil, true_and, Bool.false_eq_true, if_false, if_true]
    simp only [List.map_nil, List.foldr_nil, Int.mul_one] at hn
    rw [hn]; exact hq

end Z


/-! sets of tuples of ints, up to 300 of them: the table -/
namespace Z
open PySem PySem.Spec PyProof.Rows L2
/-- the round of 512 slots -/
def orb : Nat → Nat → List Nat
  | 0, _ => []
  | n + 1, x => x :: orb n ((x * 5 + 1) % 512)
theorem orb_all : ((List.range 512).all fun j => (orb 512 0).elem j) = true := by decide +kernel
theorem orb_back : lcgI 511 0 512 = 0 := by decide +kernel
theorem lcg_shift (m i : Nat) : ∀ k, lcgI m ((i * 5 + 1) % (m + 1)) k = lcgI m i (k + 1)
  | 0 => rfl
  | k + 1 => congrArg (fun z => (z * 5 + 1) % (m + 1)) (lcg_shift m i k)
theorem lcg_join (m i a : Nat) : ∀ k, lcgI m (lcgI m i a) k = lcgI m i (a + k)
  | 0 => rfl
  | k + 1 => congrArg (fun z => (z * 5 + 1) % (m + 1)) (lcg_join m i a k)
theorem orb_in : ∀ (n x y : Nat), y ∈ orb n x → ∃ k, k < n ∧ lcgI 511 x k = y
  | 0, x, y, h => by cases h
  | n + 1, x, y, h => by
    rcases List.mem_cons.mp h with e | h
    · exact ⟨0, Nat.succ_pos _, e.symm⟩
    · obtain ⟨k, hk, e⟩ := orb_in n _ y h
      exact ⟨k + 1, Nat.succ_lt_succ hk, (lcg_shift 511 x k).symm.trans e⟩
theorem orb_at {j : Nat} (h : j ≤ 511) : ∃ k, k < 512 ∧ lcgI 511 0 k = j :=
  orb_in 512 0 j (List.mem_of_elem_eq_true (List.all_eq_true.mp orb_all j (List.mem_range.mpr (Nat.lt_succ_of_le h))))
/-- the four sizes -/
def Msk (m : Nat) : Prop := m = 7 ∨ m = 31 ∨ m = 127 ∨ m = 511
theorem Msk.odd {m : Nat} (h : Msk m) : m % 2 = 1 := by rcases h with e | e | e | e <;> subst e <;> rfl
theorem Msk.top {m : Nat} (h : Msk m) : m ≤ 511 := by rcases h with e | e | e | e <;> omega
theorem Msk.join {m i j : Nat} (h : Msk m) (hi : i ≤ m) (hj : j ≤ m) : ∃ k, k ≤ m ∧ lcgI m i k = j := by
  rcases h with e | e | e | e
  · exact lcgI_all (.inl e) hi hj
  · exact lcgI_all (.inr (.inl e)) hi hj
  · exact lcgI_all (.inr (.inr e)) hi hj
  · subst e
    obtain ⟨a, ha, ea⟩ := orb_at hi
    obtain ⟨b, hb, eb⟩ := orb_at hj
    rw [← ea]
    by_cases c : a ≤ b
    · exact ⟨b - a, by omega, by rw [lcg_join, show a + (b - a) = b by omega]; exact eb⟩
    · exact ⟨b + 512 - a, by omega, by rw [lcg_join, show a + (b + 512 - a) = 512 + b by omega, ← lcg_join, orb_back]; exact eb⟩
theorem way_in {m : Nat} (h : Int) (k : Nat) : way m h k ≤ m := by
  have hm : SetTable.bits h % (m + 1) ≤ m := Nat.le_of_lt_succ (Nat.mod_lt _ (Nat.succ_pos m))
  have e := runEnd_bd hm
  have q := nth_in k (runAt m (SetTable.bits h % (m + 1)) (SetTable.bits h)) (show SetTable.bits h % (m + 1) + (SetTable.runEnd m (SetTable.bits h % (m + 1)) - SetTable.bits h % (m + 1)) ≤ m by omega)
  exact Nat.le_trans (Nat.le_add_right _ _) q
/-- each slot begins a run -/
theorem Msk.run {m j : Nat} (M : Msk m) (h : Int) (hj : j ≤ m) : ∃ n, n ≤ m + 12 ∧ runI m (SetTable.bits h) n = j := by
  obtain ⟨k, hk, e⟩ := M.join (runI_le m (SetTable.bits h) 12) hj
  exact ⟨12 + k, by omega, (runI_tail (bits_lt h) k).trans e⟩
theorem Msk.met {m j : Nat} (M : Msk m) (h : Int) (hj : j ≤ m) : ∃ k, k < 10 * SetTable.turns m ∧ way m h k = j := by
  obtain ⟨n, hn, e⟩ := M.run h hj
  obtain ⟨k, hk, e2⟩ := run_nth m (SetTable.bits h) n
  exact ⟨k, by unfold SetTable.turns; omega, (congrArg SetTable.Probe.j e2).trans e⟩
/-! the table -/
structure Tb (t : SetTable) (hs : List Int) : Prop where
  up : Ris t.place.toList
  nod : t.dummies = #[]
  len : t.place.toList.length = hs.length
  msk : Msk t.mask
  hit : ∀ (i : Nat) (h : Int) (j : Nat), hs[i]? = some h → t.place.toList[i]? = some j → ∃ k, way t.mask h k = j ∧ ∀ c, c < k → way t.mask h c ∈ t.place.toList
theorem Tb.gap {t : SetTable} {hs : List Int} (T : Tb t hs) (hl : hs.length ≤ t.mask) (h : Int) :
    ∃ K, K < 10 * SetTable.turns t.mask ∧ way t.mask h K ∉ t.place.toList ∧ ∀ c, c < K → way t.mask h c ∈ t.place.toList := by
  obtain ⟨j, hj, hn⟩ := st_missing t.place.toList (t.mask + 1) (by rw [T.len]; omega)
  obtain ⟨k, hk, e⟩ := T.msk.met h (Nat.le_of_lt_succ hj)
  obtain ⟨K, a, b, c⟩ := st_least (p := fun k => ¬ way t.mask h k ∈ t.place.toList) k (by rw [e]; exact hn)
  exact ⟨K, Nat.lt_of_le_of_lt a hk, b, fun d hd => Classical.not_not.mp (c d hd)⟩
theorem Tb.past {t : SetTable} {hs : List Int} (T : Tb t hs) {h : Int} {K i j : Nat} (hK : way t.mask h K ∉ t.place.toList) (hi : hs[i]? = some h) (hj : t.place.toList[i]? = some j) : ∃ k, k < K ∧ way t.mask h k = j := by
  obtain ⟨k, e, hb⟩ := T.hit i h j hi hj
  refine ⟨k, Nat.lt_of_not_le fun c => ?_, e⟩
  rcases Nat.lt_or_eq_of_le c with c | c
  · exact hK (hb K c)
  · rw [c, e] at hK
    exact hK (List.mem_of_getElem? hj)
theorem put_is {t : SetTable} (hd : t.dummies = #[]) (j : Nat) : t.put j = ({ t with place := SetTable.insertAt t.place (SetTable.below t.place j) j }, SetTable.below t.place j) := by
  unfold SetTable.put
  rw [hd, L2.has_none]
  rfl
theorem Tb.more {t : SetTable} {hs : List Int} (T : Tb t hs) {h : Int} {K : Nat} (hK : way t.mask h K ∉ t.place.toList) (hb : ∀ c, c < K → way t.mask h c ∈ t.place.toList) {p : Nat} (hp : SetTable.below t.place (way t.mask h K) = p) :
    p ≤ hs.length ∧ Tb { t with place := SetTable.insertAt t.place p (way t.mask h K) } (hs.take p ++ h :: hs.drop p) := by
  subst hp
  obtain ⟨c1, _, _⟩ := below_cut T.up (way t.mask h K)
  have hnew : t.place[SetTable.below t.place (way t.mask h K)]? ≠ some (way t.mask h K) := fun e => hK (List.mem_of_getElem? (by rw [Array.getElem?_toList]; exact e))
  have up' := ris_insert T.up hnew
  have el := T.len
  have hpl : SetTable.below t.place (way t.mask h K) ≤ t.place.toList.length := c1
  generalize SetTable.below t.place (way t.mask h K) = p at hpl up' ⊢
  have hph : p ≤ hs.length := by omega
  have es := SetTable.toList_insertAt t.place p (way t.mask h K)
  have grow : ∀ {x : Nat}, x ∈ t.place.toList → x ∈ (SetTable.insertAt t.place p (way t.mask h K)).toList := fun hx => by
    rw [es]; exact mem_ins.2 (.inr hx)
  refine ⟨hph, up', T.nod, ?_, T.msk, fun i h' j' h1 h2 => ?_⟩
  · show (SetTable.insertAt t.place p (way t.mask h K)).toList.length = _
    rw [es, len_ins _ hpl, len_ins _ hph, el]
  · have h2 : (SetTable.insertAt t.place p (way t.mask h K)).toList[i]? = some j' := h2
    rw [tins_get hs hph] at h1
    rw [es, tins_get _ hpl] at h2
    have old : ∀ {i : Nat}, hs[i]? = some h' → t.place.toList[i]? = some j' → ∃ k, way t.mask h' k = j' ∧ ∀ c, c < k → way t.mask h' c ∈ (SetTable.insertAt t.place p (way t.mask h K)).toList := fun a b => by
      obtain ⟨k, e, z⟩ := T.hit _ h' j' a b
      exact ⟨k, e, fun c hc => grow (z c hc)⟩
    split at h1
    · rename_i c
      rw [if_pos c] at h2
      exact old h1 h2
    · rename_i c
      rw [if_neg c] at h2
      split at h1
      · rename_i d
        rw [if_pos d] at h2
        cases h1
        cases h2
        exact ⟨K, rfl, fun c hc => grow (hb c hc)⟩
      · rename_i d
        rw [if_neg d] at h2
        exact old h1 h2
/-! all laid anew -/
theorem Msk.spot {m j : Nat} (M : Msk m) (owner : Array (Option Nat)) (h : Int) (hj : j ≤ m) (hf : oAt owner j = none) :
    ∃ K, SetTable.layClean.free m owner (SetTable.turns m) (SetTable.bits h % (m + 1)) (SetTable.bits h) = some (way m h K) ∧ oAt owner (way m h K) = none ∧ ∀ c, c < K → oAt owner (way m h c) ≠ none := by
  obtain ⟨n, hn, e⟩ := M.run h hj
  have hw : way m h (off m (SetTable.bits h % (m + 1)) (SetTable.bits h) n) = j := by
    have z := nth_off m n (SetTable.bits h % (m + 1)) (SetTable.bits h)
    rw [itL_run] at z
    exact (congrArg SetTable.Probe.j z).trans e
  obtain ⟨K, a, b, c⟩ := st_least (p := fun k => oAt owner (way m h k) = none) (off m (SetTable.bits h % (m + 1)) (SetTable.bits h) n) (by rw [hw]; exact hf)
  exact ⟨K, free_spec m owner (SetTable.turns m) n _ _ K (by unfold SetTable.turns; omega) a (fun k hk => Option.isNone_eq_false_iff.mpr (Option.isSome_iff_ne_none.mpr (c k hk))) (Option.isNone_iff_eq_none.mpr b), b, c⟩
theorem own_next {m : Nat} (M : Msk m) {done : List Int} {owner : Array (Option Nat)} (W : L2.Own m done owner) (hl : done.length ≤ m) (h : Int) :
    ∃ j, SetTable.layClean.free m owner (SetTable.turns m) (SetTable.bits h % (m + 1)) (SetTable.bits h) = some j ∧ L2.Own m (done ++ [h]) (owner.setIfInBounds j (some done.length)) := by
  obtain ⟨ps, hps, hin⟩ := W.ps
  obtain ⟨j0, h0, hn0⟩ := st_missing ps (m + 1) (by omega)
  obtain ⟨K, e1, e2, e3⟩ := M.spot owner h (Nat.le_of_lt_succ h0) (Classical.byContradiction fun z => hn0 (hin j0 (Nat.le_of_lt_succ h0) z))
  have hjm := way_in (m := m) h K
  generalize ej : way m h K = j at e1 e2 hjm
  have hself := oAt_set_self (owner := owner) (some done.length) (show j < owner.size by rw [W.sz]; omega)
  have keep : ∀ {i : Nat}, i ≠ j → oAt (owner.setIfInBounds j (some done.length)) i = oAt owner i := fun hi => oAt_set_ne _ hi
  have mono : ∀ {i : Nat}, oAt owner i ≠ none → oAt (owner.setIfInBounds j (some done.length)) i ≠ none := fun {i} hi => by
    by_cases c : i = j
    · subst c; rw [hself]; exact Option.some_ne_none _
    · rw [keep c]; exact hi
  refine ⟨j, e1, by rw [Array.size_setIfInBounds]; exact W.sz, fun i k hi e => ?_, fun k hk => ?_, j :: ps, by simp [hps], fun i hi e => ?_⟩
  · by_cases c : i = j
    · subst c
      rw [hself] at e
      cases e
      exact ⟨h, K, by simp, ej, fun c hc => mono (e3 c hc)⟩
    · rw [keep c] at e
      obtain ⟨h', K', a1, a2, a3⟩ := W.at_ i k hi e
      exact ⟨h', K', by rw [List.getElem?_append_left (List.getElem?_eq_some_iff.mp a1).1]; exact a1, a2, fun c hc => mono (a3 c hc)⟩
  · rw [List.length_append, List.length_singleton] at hk
    rcases Nat.lt_or_eq_of_le (Nat.le_of_lt_succ hk) with c | c
    · obtain ⟨i, hi, e⟩ := W.all k c
      exact ⟨i, hi, by rw [keep fun z => by rw [z, e2] at e; cases e]; exact e⟩
    · exact ⟨j, hjm, by rw [c]; exact hself⟩
  · by_cases c : i = j
    · rw [c]; exact List.mem_cons_self
    · rw [keep c] at e
      exact List.mem_cons_of_mem _ (hin i hi e)
theorem own_fold {m : Nat} (M : Msk m) : ∀ (rest done : List Int) (owner : Array (Option Nat)), L2.Own m done owner → done.length + rest.length ≤ m →
    ∃ owner', rest.foldl (stepF m) (some (owner, done.length)) = some (owner', done.length + rest.length) ∧ L2.Own m (done ++ rest) owner'
  | [], done, owner, W, _ => ⟨owner, rfl, by rw [List.append_nil]; exact W⟩
  | h :: rest, done, owner, W, hl => by
    rw [List.length_cons] at hl
    obtain ⟨j, e, W'⟩ := own_next M W (by omega) h
    have e1 : (done ++ [h]).length = done.length + 1 := by simp
    obtain ⟨owner', f, W2⟩ := own_fold M rest (done ++ [h]) _ W' (by rw [e1]; omega)
    rw [List.append_assoc] at W2
    rw [e1] at f
    exact ⟨owner', by rw [List.foldl_cons, stepF_some e, f, List.length_cons]; congr 2; omega, W2⟩
theorem lay_own {m : Nat} (M : Msk m) {hs : Array Int} (hn : hs.size ≤ m) : ∃ owner, SetTable.layClean m hs = some owner ∧ L2.Own m hs.toList owner := by
  obtain ⟨owner, f, W⟩ := own_fold M hs.toList [] _ (L2.Own.init m) (by simpa using hn)
  refine ⟨owner, ?_, W⟩
  rw [layClean_eq]
  exact congrArg (Option.map (·.1)) f
theorem lay_table (t : SetTable) {hs : Array Int} {wanted M : Nat} (hw : SetTable.sizeAbove wanted - 1 = M) (hM : Msk M) (hn : hs.size ≤ M) :
    ∃ t' order, t.relaid hs wanted = some (t', order) ∧ order.toList.Perm (List.range hs.size) ∧ Tb t' (order.toList.map fun i => hs.getD i 0) ∧ t'.mask = M ∧ t'.led = t.led ∧ t'.plain = t.plain := by
  obtain ⟨owner, e, W⟩ := lay_own hM hn
  obtain ⟨r1, r2⟩ := ris_live (fun j => owner.getD j none) (List.range (M + 1)) List.pairwise_lt_range
  have r1 : Ris ((liveOf M owner).map (·.1)) := r1
  have at1 : ∀ {x : Nat}, x ∈ (liveOf M owner).map (·.1) → x ≤ M ∧ oAt owner x ≠ none := fun hx => by
    obtain ⟨⟨y, k⟩, hq, rfl⟩ := List.mem_map.mp hx
    obtain ⟨b1, b2⟩ := (mem_live W.sz).1 hq
    exact ⟨b1, by show oAt owner y ≠ none; rw [b2]; exact Option.some_ne_none _⟩
  have at2 : ∀ {k : Nat}, k < hs.size → k ∈ (liveOf M owner).map (·.2) := fun {k} hk => by
    obtain ⟨j, b1, b2⟩ := W.all k hk
    exact List.mem_map.mpr ⟨(j, k), (mem_live W.sz).2 ⟨b1, b2⟩, rfl⟩
  have hlen : (liveOf M owner).length = hs.size := by
    obtain ⟨ps, p1, p2⟩ := W.ps
    have nd : ((liveOf M owner).map (·.1)).Nodup := r1.imp fun h => Nat.ne_of_lt h
    have a := nat_nodup_len ((liveOf M owner).map (·.1)) ps nd fun x hx => p2 x (at1 hx).1 (at1 hx).2
    have b := nat_nodup_len (List.range hs.size) ((liveOf M owner).map (·.2)) List.nodup_range fun k hk => at2 (List.mem_range.mp hk)
    rw [List.length_map, p1] at a
    rw [List.length_map, List.length_range] at b
    exact Nat.le_antisymm a b
  refine ⟨tabOf t M owner, ((liveOf M owner).map (·.2)).toArray, by rw [relaid_eq, hw, e]; rfl, ?_, ⟨r1, rfl, ?_, hM, fun i h j h1 h2 => ?_⟩, rfl, rfl, rfl⟩
  · exact perm_range hs.size _ (by rw [← hlen]; exact List.length_map ..) fun k hk => at2 hk
  · show ((liveOf M owner).map (·.1)).length = (((liveOf M owner).map (·.2)).map fun i => hs.getD i 0).length
    simp only [List.length_map]
  · have h1 : (((liveOf M owner).map (·.2)).map fun i => hs.getD i 0)[i]? = some h := h1
    have h2 : ((liveOf M owner).map (·.1))[i]? = some j := h2
    rw [List.getElem?_map, List.getElem?_map] at h1
    rw [List.getElem?_map] at h2
    cases hq : (liveOf M owner)[i]? with
    | none => rw [hq] at h2; cases h2
    | some q =>
      obtain ⟨y, k⟩ := q
      rw [hq] at h1 h2
      cases h1
      cases h2
      obtain ⟨b1, b2⟩ := (mem_live W.sz).1 (List.mem_of_getElem? hq)
      obtain ⟨h0, K, a1, a2, a3⟩ := W.at_ y k b1 b2
      have e0 : hs.getD k 0 = h0 := by rw [Array.getD_eq_getD_getElem?, ← Array.getElem?_toList, a1]; rfl
      show ∃ c, way M (hs.getD k 0) c = y ∧ ∀ d, d < c → way M (hs.getD k 0) d ∈ (liveOf M owner).map (·.1)
      rw [e0]
      refine ⟨K, a2, fun c hc => ?_⟩
      obtain ⟨k2, z⟩ := Option.ne_none_iff_exists'.mp (a3 c hc)
      exact List.mem_map.mpr ⟨(way M h0 c, k2), (mem_live W.sz).2 ⟨way_in h0 c, z⟩, rfl⟩
end Z


/-! sets of tuples of ints: one put in -/
namespace Z
open PySem PySem.Spec PyProof.Rows L2
/-- the c-th state of a search -/
abbrev stn (m : Nat) (h : Int) (c : Nat) : SetTable.Probe := nth m (runAt m (SetTable.bits h % (m + 1)) (SetTable.bits h)) c
theorem stn_go (m : Nat) (h : Int) (c q : Nat) : nth m (stn m h c) q = stn m h (c + q) := (nth_add m c _ q).symm
theorem nth_dummy (m : Nat) : ∀ (c : Nat) (p : SetTable.Probe), p.dummy = none → (nth m p c).dummy = none
  | 0, _, h => h
  | c + 1, p, h => nth_dummy m c (adv m p) (by unfold adv; split <;> exact h)
/-- what a probe tells from the c-th state on -/
theorem Tb.probe {t : SetTable} {hs : List Int} (T : Tb t hs) {h : Int} {hashAt : Nat → Int} (ha : ∀ (i : Nat) (x : Int), hs[i]? = some x → hashAt i = x) {K c : Nat} (hc : c ≤ K) (hf : K < 10 * SetTable.turns t.mask)
    (hK : way t.mask h K ∉ t.place.toList) (hb : ∀ d, d < K → way t.mask h d ∈ t.place.toList) :
    (∃ d i, c ≤ d ∧ d < K ∧ t.place.toList[i]? = some (way t.mask h d) ∧ (∀ (e i' : Nat), c ≤ e → e < d → t.place.toList[i']? = some (way t.mask h e) → hs[i']? ≠ some h) ∧
      t.probe hashAt h (stn t.mask h c) = some (.candidate (way t.mask h d) i (stn t.mask h (d + 1)))) ∨
    ((∀ (e i' : Nat), c ≤ e → e < K → t.place.toList[i']? = some (way t.mask h e) → hs[i']? ≠ some h) ∧ t.probe hashAt h (stn t.mask h c) = some (.empty (way t.mask h K) none)) := by
  have ej : ∀ q, (nth t.mask (stn t.mask h c) q).j = way t.mask h (c + q) := fun q => congrArg SetTable.Probe.j (stn_go t.mask h c q)
  have nh : ∀ {i : Nat}, hashAt i ≠ h → hs[i]? ≠ some h := fun n e => n (ha _ _ e)
  have eK : c + (K - c) = K := by omega
  rcases go_spec t T.up T.nod hashAt h (10 * SetTable.turns t.mask) (K - c) (stn t.mask h c) (nth_dummy _ _ _ rfl) (by omega) (fun q hq => by rw [ej]; exact hb _ (by omega)) (by rw [ej, eK]; exact hK) with ⟨q, i, a1, a2, a3, a4, a5⟩ | ⟨a1, a2⟩
  · rw [ej] at a2 a5
    rw [stn_go] at a5
    refine .inl ⟨c + q, i, by omega, by omega, a2, fun e i' e1 e2 e3 => nh (a4 (e - c) i' (by omega) ?_), a5⟩
    rw [ej, show c + (e - c) = e by omega]
    exact e3
  · rw [ej, eK] at a2
    refine .inr ⟨fun e i' e1 e2 e3 => nh (a1 (e - c) i' (by omega) ?_), a2⟩
    rw [ej, show c + (e - c) = e by omega]
    exact e3
section
variable {P : Program} {w : World} {A : Around} {E : Value → Shared → Prop} {s : Shared}
abbrev Rws := List (Addr × List Int)
abbrev hsOf (P : Program) (w : World) (L : Rws) : List Int := L.map fun p => thash P w p.2
/-- a set that holds L's tuples -/
structure SB (P : Program) (w : World) (h : Heap) (a : Addr) (L : Rws) (es : Array (Int × Value)) (ep : Nat) (t : SetTable) : Prop where
  ob : ∃ o, h.get? a = some o ∧ o.ExactSet ∧ o.data = .set es ep t
  rows : es.toList = rowsOf P w L
  tab : Tb t (hsOf P w L)
  nd : (L.map (·.2)).Nodup
  tup : ∀ p ∈ L, IsT P w h p.2 p.1
  plain : t.plain = true
  led : w.params.followText "set-order" = true ∨ t.led = true
  room : L.length * 5 < t.mask * 3
variable {a : Addr} {L : Rws} {es : Array (Int × Value)} {ep : Nat} {t : SetTable}
theorem rows_len {L : Rws} {es : Array (Int × Value)} (h : es.toList = rowsOf P w L) : es.size = L.length := by
  rw [← Array.length_toList, h]; exact List.length_map ..
theorem SB.at_ (R : SB P w s.heap a L es ep t) {i : Nat} {p : Addr × List Int} (h : L[i]? = some p) : es[i]? = some (thash P w p.2, Value.ref p.1) := by
  rw [← Array.getElem?_toList, R.rows]
  exact (List.getElem?_map ..).trans (congrArg (Option.map _) h)
theorem SB.fits (R : SB P w s.heap a L es ep t) : t.fits es.size = true := by
  have h1 : t.place.size = L.length := R.tab.len.trans (List.length_map ..)
  have h2 := R.room
  unfold SetTable.fits SetTable.fill
  rw [R.tab.nod, rows_len R.rows, h1]
  simp
  omega
theorem SB.stays (R : SB P w s.heap a L es ep t) : ¬ t.gaveWay = true := by
  unfold SetTable.gaveWay
  rw [R.tab.msk.odd]
  decide
theorem hs_at {i : Nat} {x : Int} {L : Rws} (h : (hsOf P w L)[i]? = some x) : ∃ p, L[i]? = some p ∧ thash P w p.2 = x := by
  rw [List.getElem?_map] at h
  exact Option.map_eq_some_iff.mp h
/-- the search, from the c-th state on -/
theorem SB.seek (R : SB P w s.heap a L es ep t) {x : Addr} {k : List Int} (hx : IsT P w s.heap k x) (hu : A.units < cLine) {H : Int} (eH : thash P w k = H) {K : Nat} (hf : K < 10 * SetTable.turns t.mask)
    (hK : way t.mask H K ∉ t.place.toList) (hb : ∀ d, d < K → way t.mask H d ∈ t.place.toList) {Q : SetFound → Shared → Prop} (qin : k ∈ L.map (·.2) → Q (.there none) s) (qout : k ∉ L.map (·.2) → Q (.free (way t.mask H K) false) s) :
    ∀ (f c : Nat) (stand : Option SetTable.Probe), stand.getD (t.probeStart H) = stn t.mask H c → c ≤ K → K - c < f →
      (∀ (i : Nat) (p : Addr × List Int), L[i]? = some p → p.2 = k → ∃ d, c ≤ d ∧ d < K ∧ t.place.toList[i]? = some (way t.mask H d)) →
      wpAny (model P w) A (setSearchFrom a (.ref x) H true f stand) Q E s
  | 0, _, _, _, _, n, _ => absurd n (Nat.not_lt_zero _)
  | f + 1, c, stand, hst, hc, hn, hre => by
    obtain ⟨o, ho, hex, hd⟩ := R.ob
    have hashes : ∀ (i : Nat) (y : Int), (hsOf P w L)[i]? = some y → (es[i]?.map (·.1)).getD 0 = y := fun i y e => by
      obtain ⟨p, e1, e2⟩ := hs_at e
      rw [R.at_ e1, ← e2]; rfl
    rw [setSearchFrom_succ]
    refine wpAny_bind (wpAny_setState_of ho hd R.fits ?_)
    dsimp only
    refine wp_if_neg R.stays ?_
    try refine wpAny_bind (wpAny_pure ?_)
    rw [hst]
    rcases R.tab.probe (h := H) hashes hc hf hK hb with ⟨d, i, d1, d2, hi, hno, hpr⟩ | ⟨hno, hpr⟩
    · rw [hpr]
      dsimp only
      have hil : i < L.length := by
        have h1 := (List.getElem?_eq_some_iff.mp hi).1
        have h2 : t.place.toList.length = L.length := R.tab.len.trans (List.length_map ..)
        omega
      obtain ⟨p, hp⟩ : ∃ p, L[i]? = some p := ⟨_, List.getElem?_eq_getElem hil⟩
      have hm := List.mem_of_getElem? hp
      have core : wpAny (model P w) A (searchRest a (.ref x) H true f es t (way t.mask H d) i (stn t.mask H (d + 1))) Q E s := by
        unfold searchRest
        rw [R.at_ hp]
        dsimp only
        refine wpAny_bind (wpAny_holding (wpAny_eqBool_tuple hu (R.tup p hm) hx ?_))
        refine wpAny_bind (wpAny_setState_of ho hd R.fits ?_)
        dsimp only
        by_cases same : p.2 = k
        · exact wp_if_pos (by simp [same]) (wpAny_pure (qin (List.mem_map.mpr ⟨p, hm, same⟩)))
        · refine wp_if_neg (by simp [same]) ?_
          try refine wpAny_bind (wpAny_pure ?_)
          rw [sameMem]
          dsimp only
          have hsl := slot_live R.tab.up hi
          simp only [if_true, hsl, R.at_ hp]
          refine wpAny_bind (wpAny_isSame_ref_self (wpAny_bind (wpAny_pure ?_)))
          simp only [if_true]
          refine wp_if_neg (by simp [same]) (SB.seek R hx hu eH hf hK hb qin qout f (d + 1) _ rfl (by omega) (by omega) fun i0 p0 h0 k0 => ?_)
          obtain ⟨e, e1, e2, e3⟩ := hre i0 p0 h0 k0
          refine ⟨e, ?_, e2, e3⟩
          refine Nat.lt_of_not_le fun ce => ?_
          rcases Nat.lt_or_eq_of_le ce with ce | ce
          · exact hno e i0 e1 ce e3 ((List.getElem?_map ..).trans (by rw [h0, ← eH, ← k0]; rfl))
          · rw [ce] at e3
            have s0 := slot_live R.tab.up e3
            rw [hsl] at s0
            cases s0
            rw [hp] at h0
            cases h0
            exact same k0
      by_cases hl : t.led = true
      · refine wp_if_neg (by simp [hl]) ?_
        try refine wpAny_bind (wpAny_pure ?_)
        exact core
      · refine wp_if_pos (by simp [hl]) (wpAny_bind (seen_tup hx (fun y hy => ?_) ?_))
        · obtain ⟨e, he, rfl⟩ := List.mem_map.mp hy
          have he : e ∈ es.toList := (by simpa using he : e ∈ es ∧ e.1 = H).1.val
          rw [R.rows] at he
          obtain ⟨q, hq, rfl⟩ := List.mem_map.mp he
          exact ⟨q.2, q.1, rfl, R.tup q hq⟩
        · refine wp_if_neg (by decide) ?_
          try refine wpAny_bind (wpAny_pure ?_)
          exact core
    · rw [hpr]
      dsimp only
      refine wpAny_pure (qout fun hm => ?_)
      obtain ⟨p, hp, ek⟩ := List.mem_map.mp hm
      obtain ⟨i, hi⟩ := List.mem_iff_getElem?.mp hp
      obtain ⟨d, d1, d2, d3⟩ := hre i p hi ek
      exact hno d i d1 d2 d3 ((List.getElem?_map ..).trans (by rw [hi, ← eH, ← ek]; rfl))
theorem SB.search (R : SB P w s.heap a L es ep t) {x : Addr} {k : List Int} (hx : IsT P w s.heap k x) (hu : A.units < cLine) {Q : SetFound → Shared → Prop} (qin : k ∈ L.map (·.2) → Q (.there none) s)
    (qout : ∀ K, k ∉ L.map (·.2) → way t.mask (thash P w k) K ∉ t.place.toList → (∀ d, d < K → way t.mask (thash P w k) d ∈ t.place.toList) → Q (.free (way t.mask (thash P w k) K) false) s) :
    wpAny (model P w) A (setSearch a (.ref x) (thash P w k) true) Q E s := by
  have hr := R.room
  have hl : (hsOf P w L).length = L.length := List.length_map ..
  obtain ⟨K, hf, hK, hb⟩ := R.tab.gap (by omega) (thash P w k)
  have ht := R.tab.msk.top
  have hbig : K < 100000 := by
    have : 10 * SetTable.turns t.mask ≤ 5260 := by unfold SetTable.turns; omega
    omega
  unfold setSearch
  refine R.seek hx hu rfl hf hK hb qin (fun n => qout K n hK hb) 100000 0 none rfl (Nat.zero_le _) (by omega) fun i p hp ek => ?_
  have h1 : i < L.length := (List.getElem?_eq_some_iff.mp hp).1
  have h2 : i < t.place.toList.length := by rw [R.tab.len]; omega
  obtain ⟨c, hc, e⟩ := R.tab.past hK (i := i) ((List.getElem?_map ..).trans (by rw [hp, ← ek]; rfl)) (List.getElem?_eq_getElem h2)
  exact ⟨c, Nat.zero_le _, hc, by rw [List.getElem?_eq_getElem h2, e]⟩
theorem grown_sizes : SetTable.sizeAbove (SetTable.grown 5) = 32 ∧ SetTable.sizeAbove (SetTable.grown 19) = 128 ∧ SetTable.sizeAbove (SetTable.grown 77) = 512 := by decide +kernel
/-- the set as it stands between putting in and laying anew -/
structure SB0 (P : Program) (w : World) (h : Heap) (a : Addr) (L : Rws) (es : Array (Int × Value)) (ep : Nat) (t : SetTable) : Prop where
  ob : ∃ o, h.get? a = some o ∧ o.ExactSet ∧ o.data = .set es ep t
  rows : es.toList = rowsOf P w L
  tab : Tb t (hsOf P w L)
  nd : (L.map (·.2)).Nodup
  tup : ∀ p ∈ L, IsT P w h p.2 p.1
  plain : t.plain = true
  led : w.params.followText "set-order" = true ∨ t.led = true
  room : L.length ≤ t.mask
theorem SB0.fits (R : SB0 P w s.heap a L es ep t) : t.fits es.size = true := by
  have h1 : t.place.size = L.length := R.tab.len.trans (List.length_map ..)
  have h2 := R.room
  unfold SetTable.fits SetTable.fill
  rw [R.tab.nod, rows_len R.rows, h1]
  simp
  omega
theorem SB0.relay (R : SB0 P w s.heap a L es ep t) {wanted M : Nat} (hw : SetTable.sizeAbove wanted = M + 1) (hM : Msk M) (hn : L.length * 5 < M * 3) {Q : Unit → Shared → Prop}
    (hQ : ∀ h' L' es' ep' t', Heap.SameBut a s.heap h' → SB P w h' a L' es' ep' t' → L'.Perm L → Q () { s with heap := h' }) : wpAny (model P w) A (setRelay a wanted) Q E s := by
  obtain ⟨o, ho, hex, hd⟩ := R.ob
  have hsz := rows_len R.rows
  have htop := hM.top
  obtain ⟨t', order, e, hp, T, em, el, epl⟩ := lay_table t (hs := es.map (·.1)) (wanted := wanted) (M := M) (by omega) hM (by rw [Array.size_map]; omega)
  rw [Array.size_map, hsz] at hp
  obtain ⟨L', r1, r2, r3⟩ := order_rows L es order R.rows hp
  rw [← r3] at T
  have hs2 : (order.filterMap (es[·]?)).size = es.size := by rw [rows_len r1, r2.length_eq, hsz]
  rw [setRelay_eq]
  refine wpAny_bind (wpAny_setState_of ho hd R.fits ?_)
  dsimp only
  refine wp_if_neg (by rw [sizeLine_eq]; omega) ?_
  try refine wpAny_bind (wpAny_pure ?_)
  rw [e]
  dsimp only
  refine wpAny_bind (wp_if_neg (by rw [hs2]; simp) ?_)
  try refine wpAny_bind (wpAny_pure ?_)
  refine wpAny_pure ?_
  dsimp only
  refine wpAny_storeSet_of ho hd ?_ (by rw [hs2, hsz, sizeLine_eq]; omega)
  have sb : Heap.SameBut a s.heap (s.heap.update a (Obj.putSet (order.filterMap (es[·]?)) t')) := Heap.SameBut.update ..
  exact hQ _ L' _ (ep + 1) t' sb ⟨⟨_, store_at ho hd, ⟨hex.1, hex.2.1, hex.2.2⟩, rfl⟩, r1, T, (r2.map (·.2)).nodup_iff.mpr R.nd, fun p hpm => isT_same (R.tup p (r2.mem_iff.mp hpm)) ho hd sb, by rw [epl]; exact R.plain, by rw [el]; exact R.led, by rw [r2.length_eq, em]; exact hn⟩ r2
/-- one put in -/
theorem SB.add (R : SB P w s.heap a L es ep t) {x : Addr} {k : List Int} (hx : IsT P w s.heap k x) (hu : A.units < cLine) (hfew : L.length < 300) {Q : Bool → Shared → Prop}
    (hQ : ∀ b h' L' es' ep' t', Heap.SameBut a s.heap h' → SB P w h' a L' es' ep' t' → (k ∈ L.map (·.2) → L' = L) → (k ∉ L.map (·.2) → L'.Perm ((x, k) :: L)) → Q b { s with heap := h' }) :
    wpAny (model P w) A (setAddHashed a (.ref x) (thash P w k)) Q E s := by
  obtain ⟨o, ho, hex, hd⟩ := R.ob
  have hsl := rows_len R.rows
  have hroom := R.room
  unfold setAddHashed
  refine wpAny_holding ?_
  rw [show (100000 : Nat) = 99999 + 1 from rfl, setAddHashedIn_succ]
  refine wpAny_bind (wpAny_setState_of ho hd R.fits ?_)
  dsimp only
  refine wp_if_neg (by simp [byScan, Value.scannable]) ?_
  try refine wpAny_bind (wpAny_pure ?_)
  refine wpAny_bind (R.search hx hu (fun hm => ?_) fun K hm hK hb => ?_)
  · dsimp only
    exact wpAny_pure (hQ false s.heap L es ep t (Heap.SameBut.refl a s.heap) R (fun _ => rfl) fun z => absurd hm z)
  · dsimp only
    refine wpAny_bind (wpAny_setState_of ho hd R.fits ?_)
    dsimp only
    obtain ⟨j, ej⟩ : ∃ j, j = way t.mask (thash P w k) K := ⟨_, rfl⟩
    obtain ⟨p, epq⟩ : ∃ p, p = SetTable.below t.place j := ⟨_, rfl⟩
    obtain ⟨t1, et⟩ : ∃ t1 : SetTable, t1 = { t with place := SetTable.insertAt t.place p j } := ⟨_, rfl⟩
    have eput : t.put j = (t1, p) := by rw [et, epq]; exact put_is R.tab.nod j
    obtain ⟨hp, T1⟩ := R.tab.more hK hb (p := p) (by rw [epq, ej])
    rw [← ej] at T1 ⊢
    rw [← et] at T1
    rw [eput]
    have hpL : p ≤ L.length := by rw [List.length_map] at hp; exact hp
    have pm := put_perm L p (x, k)
    have er : (SetTable.insertAt es p (thash P w k, Value.ref x)).toList = rowsOf P w (L.take p ++ (x, k) :: L.drop p) := by
      rw [SetTable.toList_insertAt, rows_put, R.rows]
    have eh : (hsOf P w L).take p ++ thash P w k :: (hsOf P w L).drop p = hsOf P w (L.take p ++ (x, k) :: L.drop p) := by
      simp only [hsOf, List.map_append, List.map_cons, List.map_take, List.map_drop]
    rw [eh] at T1
    generalize SetTable.insertAt es p (thash P w k, Value.ref x) = es1 at er ⊢
    generalize L.take p ++ (x, k) :: L.drop p = L1 at pm er T1
    dsimp only
    have hl1 : L1.length = L.length + 1 := pm.length_eq
    have hs1 := rows_len er
    have f1 : t1.mask = t.mask := by rw [et]
    have f2 : t1.plain = true := by rw [et]; exact R.plain
    have f3 : t1.led = t.led := by rw [et]
    have f4 : t1.fill = L.length + 1 := by
      have h := T1.len
      rw [List.length_map, hl1] at h
      show t1.place.size + t1.dummies.size = _
      rw [T1.nod]
      exact h
    first
      | (refine wpAny_bind ?_; refine wp_if_pos f2 ?_; refine hashBy_tup hx ?_)
      | refine wp_if_pos f2 (wpAny_bind (hashBy_tup hx ?_))
    simp only [if_true]
    refine wpAny_bind (wpAny_storeSet_of ho hd ?_ (by rw [hs1, hl1, sizeLine_eq]; omega))
    have sb : Heap.SameBut a s.heap (s.heap.update a (Obj.putSet es1 t1)) := Heap.SameBut.update ..
    have ho1 := store_at (es' := es1) (t' := t1) ho hd
    generalize s.heap.update a (Obj.putSet es1 t1) = h1 at sb ho1 ⊢
    have top := R.tab.msk.top
    have R1 : SB0 P w h1 a L1 es1 (ep + 1) t1 := ⟨⟨_, ho1, ⟨hex.1, hex.2.1, hex.2.2⟩, rfl⟩, er, T1, (pm.map (·.2)).nodup_iff.mpr (List.nodup_cons.mpr ⟨hm, R.nd⟩), fun q hq => by
      rcases List.mem_cons.mp (pm.mem_iff.mp hq) with e | hq
      · rw [e]; exact isT_same hx ho hd sb
      · exact isT_same (R.tup q hq) ho hd sb, f2, by rw [f3]; exact R.led, by rw [f1, hl1]; rcases R.tab.msk with e | e | e | e <;> omega⟩
    by_cases full : t1.tooFull = true
    · first
        | (refine wpAny_bind ?_; refine wp_if_pos (by simp [full]) ?_)
        | (refine wp_if_pos (by simp [full]) ?_; refine wpAny_bind ?_)
      have hfull : (L.length + 1) * 5 ≥ t.mask * 3 := by
        have h := full
        unfold SetTable.tooFull at h
        rw [decide_eq_true_eq, f4, f1] at h
        exact h
      have go : ∀ M, SetTable.sizeAbove (SetTable.grown (L.length + 1)) = M + 1 → Msk M → (L.length + 1) * 5 < M * 3 →
          wpAny (model P w) A (setRelay a (SetTable.grown (es.size + 1))) (fun _ s' => wpAny (model P w) A (pure true) Q E s') E { s with heap := h1 } := fun M h1' h2' h3' => by
        rw [hsl]
        refine R1.relay (s := { s with heap := h1 }) h1' h2' (by rw [hl1]; exact h3') fun h2 L2 es2 ep2 t2 sb2 R2 pm2 => ?_
        exact wpAny_pure (hQ true h2 L2 es2 ep2 t2 (sb.trans sb2) R2 (fun z => absurd z hm) fun _ => pm2.trans pm)
      obtain ⟨g1, g2, g3⟩ := grown_sizes
      rcases R.tab.msk with e | e | e | e
      · have z : L.length = 4 := by omega
        exact go 31 (by rw [z]; exact g1) (.inr (.inl rfl)) (by omega)
      · have z : L.length = 18 := by omega
        exact go 127 (by rw [z]; exact g2) (.inr (.inr (.inl rfl))) (by omega)
      · have z : L.length = 76 := by omega
        exact go 511 (by rw [z]; exact g3) (.inr (.inr (.inr rfl))) (by omega)
      · omega
    · have nfull : (L.length + 1) * 5 < t.mask * 3 := by
        have h := full
        unfold SetTable.tooFull at h
        rw [decide_eq_true_eq, f4, f1] at h
        omega
      first
        | refine wp_if_neg (by simp [full]) ?_
        | (refine wpAny_bind ?_; refine wp_if_neg (by simp [full]) ?_; refine wpAny_pure ?_)
      exact wpAny_pure (hQ true h1 L1 es1 (ep + 1) t1 sb ⟨R1.ob, R1.rows, R1.tab, R1.nd, R1.tup, R1.plain, R1.led, by rw [f1, hl1]; exact nfull⟩ (fun z => absurd z hm) fun _ => pm)
end
end Z


/-! set(xs), sorted(set): tuples of ints -/
namespace Z
open PySem PySem.Spec PyProof.Rows L2
section
variable {P : Program} {w : World} {A : Around} {E : Value → Shared → Prop} {s : Shared}
theorem SB.stay {h h' : Heap} {a : Addr} {L : Rws} {es : Array (Int × Value)} {ep : Nat} {t : SetTable} (R : SB P w h a L es ep t) (ha : ∀ o, h.get? a = some o → h'.get? a = some o) (ht : ∀ p ∈ L, IsT P w h' p.2 p.1) : SB P w h' a L es ep t :=
  let ⟨o, ho, r⟩ := R.ob
  ⟨⟨o, ha o ho, r⟩, R.rows, R.tab, R.nd, ht, R.plain, R.led, R.room⟩
/-- the new set's object -/
abbrev newSet (w : World) : Obj := { cls := .type "set", dict := none, data := .set #[] 0 (.fresh 0 0 (!w.params.followText "set-order")) }
theorem sb_new {h : Heap} {a : Addr} (ho : h.get? a = some (newSet w)) : SB P w h a [] #[] 0 (.fresh 0 0 (!w.params.followText "set-order")) :=
  ⟨⟨_, ho, ⟨rfl, rfl, rfl⟩, rfl⟩, rfl, ⟨List.Pairwise.nil, rfl, rfl, .inl rfl, fun i h j hi => by simp at hi⟩, List.nodup_nil, fun p hp => (by cases hp), rfl, by
    show _ ∨ (!w.params.followText "set-order") = true
    cases w.params.followText "set-order" <;> simp, by show 0 * 5 < 7 * 3; decide⟩
/-- somewhere a set with what came so far -/
def Fill (P : Program) (w : World) (S : Addr) (ks : Rws) (i : Nat) (h : Heap) : Prop := ∃ L es ep t, SB P w h S L es ep t ∧ Got ks i L
theorem Fill.stay {S : Addr} {ks : Rws} {i : Nat} {h h' : Heap} (F : Fill P w S ks i h) (hS : ∀ o, h.get? S = some o → h'.get? S = some o) (ht : ∀ p ∈ ks, IsT P w h' p.2 p.1) : Fill P w S ks i h' :=
  let ⟨L, es, ep, t, R, g⟩ := F
  ⟨L, es, ep, t, R.stay hS fun p hp => ht p (List.mem_of_mem_take (g.sub p hp)), g⟩
theorem Fill.step {S : Addr} {ks : Rws} {i : Nat} {p : Addr × List Int} (F : Fill P w S ks i s.heap) (hp : ks[i]? = some p) (hx : IsT P w s.heap p.2 p.1) (hu : A.units < cLine) (hi : i < 300) {Q : Bool → Shared → Prop}
    (hQ : ∀ b h' tk, s.toks ≤ tk → Heap.SameBut S s.heap h' → Fill P w S ks (i + 1) h' → Q b { s with heap := h', toks := tk }) : wpAny (model P w) A (setAdd S (.ref p.1)) Q E s := by
  obtain ⟨L, es, ep, t, R, g⟩ := F
  unfold setAdd
  refine wpAny_holding (wpAny_bind (wpAny_pyHash_tuple hu hx ?_))
  refine SB.add (s := { s with toks := s.toks + (p.2.length + 1) }) R hx hu (by have := g.len; omega) fun b h' L' es' ep' t' sb R' c1 c2 => ?_
  refine hQ b h' _ (Nat.le_add_right _ _) sb ⟨L', es', ep', t', R', ?_⟩
  rcases Classical.em (p.2 ∈ L.map (·.2)) with c | c
  · rw [c1 c]; exact g.same hp c
  · exact g.more hp (c2 c)
/-- the loop of set.update -/
theorem fill_loop {I : Addr} {fp wr : List Addr} {G : Array GenState → Array GenState → Prop} {n : Nat} {Pv : Nat → Value → Prop} {St : Nat → Shared → Prop} {R : Result → Shared → Prop} (W : WalksS P w A.in1 I fp wr G n Pv St)
    {S : Addr} (hSf : S ∉ fp) {ks : Rws} (hn : n = ks.length) (h300 : ks.length ≤ 300) (hval : ∀ i v, Pv i v → ∃ p, ks[i]? = some p ∧ v = .ref p.1) {h0 : Heap} (hk : ∀ p ∈ ks, IsT P w h0 p.2 p.1)
    (hS0 : h0.get? S = none) (hw0 : ∀ b ∈ wr, h0.get? b = none) (hu : A.in1.units < cLine) : ∀ (k i : Nat) (s : Shared), n - i = k → i ≤ n → St i s → (∀ b o, h0.get? b = some o → s.heap.get? b = some o) → Fill P w S ks i s.heap →
      (∀ s', Moved (S :: wr) G s s' → Fill P w S ks n s'.heap → (∀ b o, h0.get? b = some o → s'.heap.get? b = some o) → R (.ok (.ret .none)) s') →
      codeAny (model P w) A (.builtin "set.update.loop" ⟨[.ref S, .ref I], []⟩) R s := by
  have nSw : S ∉ wr := fun h => hSf (W.sub _ h)
  have old : ∀ {s s' : Shared}, Moved wr G s s' → (∀ b o, h0.get? b = some o → s.heap.get? b = some o) → ∀ b o, h0.get? b = some o → s'.heap.get? b = some o := fun m k b o e =>
    m.heap b o (fun hb => Option.some_ne_none o (e.symm.trans (hw0 b hb))) (k b o e)
  have next : ∀ {i : Nat} {s s' : Shared}, Moved wr G s s' → (∀ b o, h0.get? b = some o → s'.heap.get? b = some o) → Fill P w S ks i s.heap → Fill P w S ks i s'.heap := fun m k F =>
    F.stay (fun o e => m.heap S o nSw e) fun p hp => isT_keep (hk p hp) k
  intro k
  induction k with
  | zero =>
    intro i s e hi st ko Y hR
    obtain rfl : i = n := by omega
    refine codeAny_builtin F.entry_set_update_loop ?_
    rw [Around.under_plainId F.plain_set_update_loop _]
    refine wpAny_bind (W.done s _ _ st fun s' m => wpAny_pure ?_)
    exact hR s' (m.mono fun b hb => List.mem_cons_of_mem _ hb) (next m (old m ko) Y) (old m ko)
  | succ k ih =>
    intro i s e hi st ko Y hR
    have hlt : i < n := by omega
    refine codeAny_builtin F.entry_set_update_loop ?_
    rw [Around.under_plainId F.plain_set_update_loop _]
    refine wpAny_bind (W.item i s _ _ hlt st fun v s' hv st' m => ?_)
    obtain ⟨p, hp, rfl⟩ := hval i v hv
    have ko' := old m ko
    refine wpAny_bind (wpAny_holding ((next m ko' Y).step hp (isT_keep (hk p (List.mem_of_getElem? hp)) ko') hu (by omega) fun b h' tk ht sb Y' => ?_))
    have ko2 : ∀ b o, h0.get? b = some o → h'.get? b = some o := fun b o e => (sb.2 b fun z => Option.some_ne_none o (e.symm.trans (by rw [z]; exact hS0))).trans (ko' b o e)
    refine wpAny_pure ⟨plainId_quiet F.plain_set_update_loop _, ih (i + 1) _ (by omega) hlt (W.frame _ s' _ _ st' ht fun b hb o e => (sb.2 b fun z => hSf (z ▸ hb)).trans e) ko2 Y' fun s'' m'' Y'' ko'' => ?_⟩
    refine hR s'' (Moved.trans W.gtrans ((m.mono fun b hb => List.mem_cons_of_mem _ hb).then_heap ht fun b o hb e => ?_) m'') Y'' ko''
    exact (sb.2 b fun z => hb (by rw [z]; exact List.mem_cons_self)).trans e
set_option maxHeartbeats 3200000 in
/-- set(xs) -/
theorem call_setB {l : Addr} {items : Array Value} (ks : Rws) {Q : Value → Shared → Prop} (hh : A.handled = none) (hl : s.heap.IsList l items) (hit : items.toList = ks.map fun p => Value.ref p.1) (hk : ∀ p ∈ ks, IsT P w s.heap p.2 p.1)
    (h300 : ks.length ≤ 300) (hu : A.units + 3 < cLine) (hQ : ∀ h' tk, Fill P w s.heap.objs.size ks ks.length h' → (∀ b o, s.heap.get? b = some o → h'.get? b = some o) → Q (.ref s.heap.objs.size) { s with heap := h', toks := tk }) :
    wpAny (model P w) A (call (.type "set") [.ref l]) Q E s := by
  have hn : items.size = ks.length := by rw [← Array.length_toList, hit, List.length_map]
  have cd := F.called_set
  obtain ⟨c, tl, hmro⟩ := cd.mro
  have hmade := cd.made
  have hsub := cd.sub
  have none_of : ∀ b, s.heap.objs.size ≤ b → s.heap.get? b = none := fun b hb => by
    cases q : s.heap.get? b with
    | none => rfl
    | some o => exact absurd (Heap.lt_size q) (Nat.not_lt.mpr hb)
  refine wpAny_call (codeAny_of_tree ?_)
  show wpAny _ _ (callAny (.type "set") _) _ _ _
  refine wpAny_pure ⟨Code.quiet_builtin _ (by decide +kernel), codeAny_builtin F.entry_type_call ?_⟩
  rw [Around.under_plain (weight_type_call_type "set" [.ref l] []) rfl]
  have h1 := cd.notType
  have h2 := cd.canCreate
  have hct := F.typeCall_set_1 (.ref l)
  repeat (any_goals (first | assumption | wp_step))
  refine codeAny_mono (code_set_led1 (.ref l) (E := E) (Q₁ := fun obj s₁ => obj = .ref s.heap.objs.size ∧ s₁ = { s with heap := s.heap.push (newSet w) }) ⟨rfl, rfl⟩) fun r s₁ hr => ?_
  rcases r with e | fl
  · exact hr
  cases fl with
  | ret obj =>
    obtain ⟨rfl, rfl⟩ := hr
    have hS : (s.heap.push (newSet w)).get? s.heap.objs.size = some (newSet w) := Heap.get?_push_size _ rfl
    have hT : Shared.TypeIs { s with heap := s.heap.push (newSet w) } (.ref s.heap.objs.size) "set" := ⟨_, hS, rfl⟩
    have hli := cd.init.lookup
    have hbi := cd.init.bind (.ref s.heap.objs.size)
    repeat (any_goals (first | assumption | wp_step))
    refine codeAny_mono (codeAny_call_builtin (R := wants (fun r s₂ => r = .none ∧ ∃ h' tk, s₂ = { s with heap := h', toks := tk } ∧ Fill P w s.heap.objs.size ks ks.length h' ∧ (∀ b o, s.heap.get? b = some o → h'.get? b = some o)) E)
      cd.init.plain F.entry_set_init (check_set_init_1 hT ?_)) fun r₂ s₂ hr₂ => ?_
    · obtain ⟨⟨oc, od, odata, os⟩, hol, hcl, nl, hdl⟩ := hl
      cases hcl
      cases hdl
      have hol' := Heap.get?_push_of_some (newSet w) hol
      have hl1 : (s.heap.push (newSet w)).IsList l items := ⟨_, hol', rfl, nl, rfl⟩
      have s1 := F.sub_list_set
      have s2 := F.sub_list_frozenset
      have hne : (Value.type "list" == Value.type "dict") = false := by decide
      unfold Builtin.«set.__init__» noKeywords Builtin.Frozenset.updateFrom
      generalize hPI : pyIter = PI
      wp_walk
      subst hPI
      refine wpAny_pyIter_list hl1 (wpAny_bind (wpAny_runValue ?_))
      have hlS : l < s.heap.objs.size := Heap.lt_size hol
      have hz : (s.heap.push (newSet w)).objs.size = s.heap.objs.size + 1 := Heap.size_push ..
      have hI : l ≠ (s.heap.push (newSet w)).objs.size := by rw [hz]; exact Nat.ne_of_lt (Nat.lt_succ_of_lt hlS)
      have hSI : s.heap.objs.size ∉ [(s.heap.push (newSet w)).objs.size, l] := by
        rw [hz]
        intro c
        rcases List.mem_cons.mp c with c | c
        · exact Nat.ne_of_lt (Nat.lt_succ_self _) c
        · rw [List.mem_singleton.mp c] at hlS
          exact Nat.lt_irrefl _ hlS
      refine fill_loop (P := P) (w := w) ((Walks.list (by simp [hh]) _ l hI items).toS) (S := s.heap.objs.size) hSI (ks := ks) hn h300 (fun i v hv => ?_) (h0 := s.heap) hk (none_of _ (Nat.le_refl _))
        (fun b hb => none_of b (by rw [List.mem_singleton.mp hb, hz]; omega)) (by simpa using (show A.units + 3 < cLine from hu)) (items.size - 0) 0 _ (by omega) (Nat.zero_le _) ⟨⟨_, Heap.get?_push_size _ rfl, rfl, rfl⟩, hl1.push _⟩
        (fun b o e => Heap.get?_push_of_some _ (Heap.get?_push_of_some _ e)) ⟨[], #[], 0, _, sb_new (Heap.get?_push_of_some _ hS), Got.zero ks⟩ fun s' m Y ko => ?_
      · have q : items.toList[i]? = some v := by rw [Array.getElem?_toList]; exact hv
        rw [hit, List.getElem?_map] at q
        obtain ⟨p, e1, e2⟩ := Option.map_eq_some_iff.mp q
        exact ⟨p, e1, e2.symm⟩
      · obtain ⟨h', g2, d', tk', os'⟩ := s'
        obtain rfl : g2 = s.gens := m.gens
        obtain rfl : d' = s.drawn := m.drawn
        obtain rfl : os' = s.os := m.os
        refine wpAny_pure (wpAny_pure ⟨rfl, h', tk', rfl, ?_, ko⟩)
        rw [hn] at Y
        exact Y
    · rcases r₂ with e | fl₂
      · exact hr₂
      cases fl₂ with
      | ret r =>
        obtain ⟨rfl, h', tk, rfl, Y, ko⟩ := hr₂
        repeat (any_goals (first | assumption | wp_step))
        exact hQ _ _ Y ko
      | _ => exact hr₂.elim
  | _ => exact hr.elim
end
end Z


/-! sorted(set(xs)): tuples of ints -/
namespace Z
open PySem PySem.Spec PyProof.Rows L2
theorem perm_map_back {α β : Type} {f : α → β} : ∀ {l : List β} {L : List α}, l.Perm (L.map f) → ∃ L' : List α, L'.Perm L ∧ l = L'.map f
  | [], L, h => by
    have e : L = [] := List.map_eq_nil_iff.mp (List.Perm.eq_nil h.symm)
    exact ⟨[], by rw [e], rfl⟩
  | x :: l, L, h => by
    obtain ⟨q, hq, e⟩ := List.mem_map.mp (h.mem_iff.mp List.mem_cons_self)
    obtain ⟨s, t, rfl⟩ := List.append_of_mem hq
    have p : (s ++ q :: t).Perm (q :: (s ++ t)) := List.perm_middle
    have h2 := h.trans (p.map f)
    rw [List.map_cons, e] at h2
    obtain ⟨L', p', e'⟩ := perm_map_back h2.cons_inv
    exact ⟨q :: L', (p'.cons q).trans p.symm, by rw [List.map_cons, e, e']⟩
section
variable {P : Program} {w : World} {A : Around} {E : Value → Shared → Prop} {s : Shared}
abbrev ltB (B : Int) (h : Heap) (u v : Value) : Bool := decide (TS.code B (TS.intsOf h u) < TS.code B (TS.intsOf h v))
theorem ltB_swo (B : Int) (h : Heap) : SrtO.Swo (ltB B h) := by
  refine ⟨fun x y h => ?_, fun x y z h1 h2 => ?_⟩
  · rw [decide_eq_true_eq] at h
    rw [decide_eq_false_iff_not]
    omega
  · rw [decide_eq_false_iff_not] at h1 h2 ⊢
    omega
theorem sortableB {a : Addr} {vs : List Value} {d : Nat} {B : Int} (hd : 1 ≤ d) (h2 : 2 ≤ vs.length) (x : TS.TupsOk s.heap d B vs) (hl : ∀ o, s.heap.get? a = some o → o.cls ≠ .type "tuple") :
    SrtO.SortableO P w A s a vs (ltB B s.heap) := by
  intro h' keep
  have x' : TS.TupsOk h' d B vs := x.keeps fun b o e c => keep b o (fun z => by subst z; exact hl o e c) e
  obtain ⟨fs, k, hf, hi⟩ := TS.firsts_of hd vs x'
  refine ⟨tuples' true, fun Q E hq => ?_, ?_⟩
  · refine PySem.W.kat_kind (T := .type "int") k (by omega) (fun f hm => ?_) (by rfl) ?_
    · obtain ⟨n, t, rfl⟩ := hi f hm
      exact PySem.W.Looks.now
    · rw [show (Value.type "int" != Value.type "tuple") = true by decide +kernel]
      exact hq
  · intro p q hm hm'
    show wpAny (model P w) A (keyLt' (tuples' true) p.1 q.1) (fun r s' => s' = { s with heap := h' } ∧ r = ltB B s.heap p.1 q.1) (fun _ _ => False) { s with heap := h' }
    obtain ⟨ns, tp, lp, bp⟩ := x _ hm
    obtain ⟨ms, tq, lq, bq⟩ := x _ hm'
    have e1 : TS.intsOf s.heap p.1 = ns := tp.ints
    have e2 : TS.intsOf s.heap q.1 = ms := tq.ints
    unfold ltB
    rw [e1, e2]
    obtain ⟨ns', tp', lp', _⟩ := x' _ hm
    obtain ⟨ms', tq', lq', _⟩ := x' _ hm'
    have kp : TS.TupInts h' p.1 ns := tp.keeps fun b o e c => keep b o (fun z => by subst z; exact hl o e c) e
    have kq : TS.TupInts h' q.1 ms := tq.keeps fun b o e c => keep b o (fun z => by subst z; exact hl o e c) e
    obtain ⟨a1, xs, f1, ⟨o1, ho1, hc1, n1, hd1⟩, i1⟩ := kp
    obtain ⟨a2, ys, f2, ⟨o2, ho2, hc2, n2, hd2⟩, i2⟩ := kq
    rw [f1, f2]
    refine PySem.W.kat_lt ho1 hd1 ho2 hd2 ?_
    have l1 := i1.length
    have l2 := i2.length
    rw [Array.length_toList] at l1 l2
    rw [show decide (xs.size < ys.size) = false from decide_eq_false (by omega)]
    exact TS.lex_ints 0 i1 i2 (by omega) bp bq ⟨rfl, rfl⟩
/-- sorted(set) -/
theorem call_sortedB {a : Addr} {L : Rws} {es : Array (Int × Value)} {ep : Nat} {t : SetTable} (R : SB P w s.heap a L es ep t) (hh : A.handled = none) (hn : L.length ≤ 300) {d : Nat} {B : Int} (hd1 : 1 ≤ d) (hB : ∀ p ∈ L, p.2.length = d ∧ TS.Bd B p.2) {Q : Value → Shared → Prop}
    (hQ : ∀ (s' : Shared) (p : Addr) (out : Array Value) (c : Nat) (L' : Rws), (∀ b o, s.heap.get? b = some o → s'.heap.get? b = some o) → s'.gens = s.gens → s'.os = s.os → s.heap.objs.size ≤ p → s'.heap.get? p = some (seqObj "list" out c) →
      out.toList = L'.map (fun q => Value.ref q.1) → L'.Perm L → Q (.ref p) s') : wpAny (model P w) A (call (.builtin "sorted") [.ref a]) Q E s := by
  obtain ⟨o, ho, hex, hd⟩ := R.ob
  have hsz := rows_len R.rows
  refine Calls.call_function_entry kind_sorted plain_sorted entry_sorted (args_sorted1 _) ?_
  unfold Builtin.«sorted»
  refine wpAny_bind (m := checkCount "sorted" 1 1 _) (wpAny_pure ?_)
  refine wpAny_bind (collect_set (A := A.in1) hh ⟨o, ho, hex.1, hd⟩ R.fits (by unfold scanBound; omega) R.tab.up R.led fun s1 vs k1 hz g1 o1 pm => ?_)
  have er : es.toList.map (·.2) = L.map fun q => Value.ref q.1 := by
    rw [R.rows]
    unfold rowsOf
    rw [List.map_map]; rfl
  rw [er] at pm
  have hlen : vs.length = L.length := pm.length_eq.trans (List.length_map ..)
  refine wpAny_bind (wpAny_newList ?_ (by rw [sizeLine_eq]; omega))
  have hoL : (s1.heap.push (seqObj "list" vs.toArray 0)).get? s1.heap.objs.size = some (seqObj "list" vs.toArray 0) := Heap.get?_push_size _ rfl
  have x : TS.TupsOk (s1.heap.push (seqObj "list" vs.toArray 0)) d B vs := fun v hv => by
    obtain ⟨q, hq, rfl⟩ := List.mem_map.mp (pm.mem_iff.mp hv)
    exact ⟨q.2, tupInts_of (P := P) (w := w) (isT_keep (R.tup q hq) fun b u e => Heap.get?_push_of_some _ (k1 b u e)), hB q hq⟩
  refine wpAny_bind (wpAny_holding (wpAny_call_entry PyProof.Rows.slot_list_sort ⟨_, hoL, rfl⟩ PyProof.Rows.entry_list_sort
    (SrtO.list_sort_ord (s := { s1 with heap := s1.heap.push (seqObj "list" vs.toArray 0) }) (ltB_swo B _) hoL (by rw [sizeLine_eq]; omega) (fun h2 => sortableB hd1 h2 x fun u e => ?_) fun out h1 h2 => ⟨_, rfl, ?_⟩) (PyProof.Rows.args_list_sort _)))
  · have e' : some u = some (seqObj "list" vs.toArray 0) := e.symm.trans hoL
    cases e'
    intro c
    exact absurd (Value.type.inj c) (by decide)
  · obtain ⟨c, hc⟩ := sortedHeap_at (vs := vs) (out := out.toArray) hoL
    obtain ⟨L', pL, eL⟩ := perm_map_back (h2.perm.trans pm)
    refine wpAny_pure ⟨_, rfl, hQ _ s1.heap.objs.size out.toArray c L' (fun b u e => ?_) g1 o1 hz hc eL pL⟩
    have q := k1 b u e
    have hlt := Heap.lt_size q
    show (sortedHeap (s1.heap.push (seqObj "list" vs.toArray 0)) s1.heap.objs.size vs out.toArray).get? b = some u
    rw [sortedHeap_old (Nat.ne_of_lt hlt) (by rw [size_push']; exact Nat.lt_succ_of_lt hlt)]
    exact Heap.get?_push_of_some _ q
end
section
variable {X : Cx}
def tSortSet (K : PySem.W.Frag) (ta : TE) : TE := fun σ H Q => ta σ H fun x H1 => ∃ (l : Addr) (ks : Rws) (d : Nat) (B : Int), x = V.ref l ∧ SqL K H1 l (ks.map fun p => V.ref p.1) ∧ (∀ p ∈ ks, SqT K H1 p.1 (p.2.map V.int)) ∧ ks.length ≤ 300 ∧ 1 ≤ d ∧
  (∀ p ∈ ks, p.2.length = d ∧ TS.Bd B p.2) ∧ ∀ (L : Rws) (p : Addr), (∀ q ∈ L, q ∈ ks) → (∀ q ∈ ks, q.2 ∈ L.map (·.2)) → (L.map (·.2)).Nodup → H1 p = none → Q (.ref p) (upd H1 p (.lst (L.map fun q => V.ref q.1)))
theorem pe_sortSet {a : Expr} {ta : TE} {p p2 q pos : Pos} (hc : X.calm = true) (hu : X.A.units + 64 < cLine) (hg : Gl X "sorted") (hm : X.mg "sorted" = none) (hg2 : Gl X "set") (hm2 : X.mg "set" = none) (ha : PE X a ta)
    (na : starEach [a] X.env = (false, eval a X.env) :: starEach [] X.env := by rfl) : PE X (.Call (.Name "sorted" p) [.Call (.Name "set" p2) [a] [] q] [] pos) (tSortSet X.K ta) := by
  refine ⟨fun pins s σ H Q I h => ?_⟩
  refine Call_ (ld_blt I hg hm (by decide +kernel : bootBuiltins "sorted" = some (.builtin "sorted")) ?_)
  refine PyProof.Rows.callWith_builtin1 (PyProof.Rows.args_cons ?_ rfl) rfl rfl
  refine Call_ (ld_blt I hg2 hm2 PyProof.Rows.boot_set ?_)
  refine PyProof.Rows.callWith_type1 (PyProof.Rows.args_cons (thn (ha.run pins s σ H _ I h) fun v s1 ⟨x, H1, I1, r1, q1⟩ => PyProof.Rows.args_nil ?_) na) na rfl
  obtain ⟨l, ks, d, B, rfl, hl, hk, h300, hd, hB, q1⟩ := q1
  cases r1
  obtain ⟨its, rv, pl, hz⟩ := I1.list hl
  refine call_setB (P := X.prog) (w := X.w) ks (I1.ok.hd hc) pl.isList (by simpa using refs_of_vals rv) (fun p hp => I1.isT (hk p hp)) h300 (by omega) fun h' tk Y ko => ?_
  obtain ⟨L, es, ep, t, R, g⟩ := Y
  have I2 : Inv X pins σ H1 { s1 with heap := h', toks := tk } := I1.kept ko
  have sub : ∀ p ∈ L, p ∈ ks := fun p hp => List.mem_of_mem_take (g.sub p hp)
  refine PyProof.Rows.args_nil ?_
  have R2 : SB X.prog X.w ({ s1 with heap := h', toks := tk } : Shared).heap s1.heap.objs.size L es ep t := R
  clear R ko
  revert I2 R2
  generalize ({ s1 with heap := h', toks := tk } : Shared) = s2
  intro I2 R
  refine call_sortedB (s := s2) R (I2.ok.hd hc) (Nat.le_trans g.len h300) hd (fun p hp => hB p (sub p hp)) fun s' p out c L' k gg o hp hg' hout pm => ?_
  have hlen : (L'.map fun q => V.ref q.1).length ≤ sizeLine := by
    rw [List.length_map, pm.length_eq, sizeLine_eq]
    have := g.len
    omega
  have hn : H1 p = none := I2.hok.fresh hp
  have hv : Vals (L'.map fun q => V.ref q.1) out.toList := by rw [hout]; exact vals_of_refs L'
  have J : Inv X pins σ (upd H1 p (.lst (L'.map fun q => V.ref q.1))) { s2 with heap := s'.heap, gens := s'.gens, drawn := s'.drawn, toks := s'.toks } :=
    I2.call (ch := []) (Un.laid k hp hn) (I2.hok.laid k hp ⟨hlen, out.toList, c, hv, hg'⟩) (by rw [gg]; exact I2.bare) (fun _ z => nomatch z)
  have e : s' = { s2 with heap := s'.heap, gens := s'.gens, drawn := s'.drawn, toks := s'.toks } := by
    cases s'
    cases s2
    cases o
    rfl
  rw [e]
  exact ⟨.ref p, _, J, rfl, q1 L' p (fun q hq => sub q (pm.mem_iff.mp hq)) (fun q hq => (pm.map (·.2)).mem_iff.mpr (g.all q (by rw [List.take_length]; exact hq))) ((pm.map (·.2)).nodup_iff.mpr R.nd) hn⟩
end
end Z


/-! sorted(set(xs)) over data: spans -/
namespace Z
open PySem PySem.Spec PyProof.Rows L2
def tupI (ns : List Int) : PyData := .tuple (ns.map .int)
theorem dp_tups {K : Kx} {G : Hp} : ∀ {l : List (List Int)} {vs : List V}, DpAll K.K G vs (l.map tupI) → ∃ ks : Rws, vs = ks.map (fun p => V.ref p.1) ∧ ks.map (·.2) = l ∧ ∀ p ∈ ks, SqT K.K G p.1 (p.2.map V.int)
  | [], vs, h => by cases h; exact ⟨[], rfl, rfl, fun p hp => by cases hp⟩
  | ns :: l, vs, h => by
    cases h with
    | cons h1 h2 =>
      obtain ⟨ks, e1, e2, e3⟩ := dp_tups h2
      cases h1 with
      | @tup a us _ hs hd =>
        have z := dpAll_ints hd
        subst z
        exact ⟨(a, ns) :: ks, by rw [e1]; rfl, by rw [← e2]; rfl, fun p hp => (List.mem_cons.mp hp).elim (fun e => by rw [e]; exact hs) (e3 p)⟩
theorem dp_tupB {K : Kx} {G : Hp} : ∀ (L : Rws), (∀ p ∈ L, SqT K.K G p.1 (p.2.map V.int)) → DpAll K.K G (L.map fun p => V.ref p.1) ((L.map (·.2)).map tupI)
  | [], _ => .nil
  | p :: L, h => .cons (.tup (h p List.mem_cons_self) (dpAll_ofInts _)) (dp_tupB L fun q hq => h q (List.mem_cons_of_mem _ hq))
/-- sorted(set(xs)) of tuples of ints: each one once; in which order is left open -/
def wSortSet (fa : FE) : FE := fun ρ Q => fa ρ fun sv => match sv with
  | .own xs => ∃ (l : List (List Int)) (d : Nat) (B : Int), xs = l.map tupI ∧ l.length ≤ 300 ∧ 1 ≤ d ∧ (∀ ns ∈ l, ns.length = d ∧ TS.Bd B ns) ∧ ∀ ys : List (List Int), ys.Nodup → (∀ x, x ∈ ys ↔ x ∈ l) → Q (.own (ys.map tupI))
  | _ => False
section
variable {X : Cx} {a : Expr} {fa : FE} {p p2 q pos : Pos}
theorem q_sortSet {k : Nat} (hr : Room k X.A) (hc : X.calm = true) (hg : Gl X "sorted") (hm : X.mg "sorted" = none) (hg2 : Gl X "set") (hm2 : X.mg "set" = none) (ha : QE X a fa)
    (na : starEach [a] X.env = (false, eval a X.env) :: starEach [] X.env := by rfl) : QE X (.Call (.Name "sorted" p) [.Call (.Name "set" p2) [a] [] q] [] pos) (wSortSet fa) := by
  refine PE.imp (pe_sortSet hc hr.units hg hm hg2 hm2 ha na) fun σ H Q h => ?_
  obtain ⟨T, B, G, L, M, Q', rfl, h, hf, hk⟩ := h
  refine ⟨T, B, G, L, M, _, rfl, h, hf, fun v G' H' sv h' gw hq => ?_⟩
  match sv, hq, h' with
  | .own xs, ⟨l, d, Bd, e, h300, hd, hB, hq⟩, h' =>
    subst e
    have hh := h'.head
    match v, hh with
    | .ref a, ⟨_, vs, ea, hd'⟩ =>
      obtain ⟨ks, e1, e2, e3⟩ := dp_tups hd'
      subst e1
      have len : ks.length = l.length := by rw [← e2, List.length_map]
      have mem : ∀ p ∈ ks, p.2 ∈ l := fun p hp => by rw [← e2]; exact List.mem_map.mpr ⟨p, hp, rfl⟩
      refine ⟨a, ks, d, Bd, rfl, .inl (.inl ea), fun p hp => same_tup h'.gH (e3 p hp), by omega, hd, fun p hp => hB _ (mem p hp), fun L' p hs hall hnd hp => ?_⟩
      refine hk _ _ _ _ (h'.tail.newOwn hp (dp_tupB L' fun q hq => e3 q (hs q hq))) gw (hq _ hnd fun x => ⟨fun hx => ?_, fun hx => ?_⟩)
      · obtain ⟨q, hq, rfl⟩ := List.mem_map.mp hx
        exact mem q (hs q hq)
      · rw [← e2] at hx
        obtain ⟨q, hq, rfl⟩ := List.mem_map.mp hx
        exact hall q hq
end
def spI (x : Spn) : List Int := [x.a, x.s, x.b]
theorem spI_D (x : Spn) : tupI (spI x) = spD x := rfl
theorem spI_inj {x y : Spn} (h : spI x = spI y) : x = y := by
  cases x; cases y
  simp only [spI, List.cons.injEq] at h
  obtain ⟨rfl, rfl, rfl, _⟩ := h
  rfl
theorem spI_back : ∀ {ys : List (List Int)} {l : List Spn}, (∀ x ∈ ys, x ∈ l.map spI) → ∃ zs : List Spn, ys = zs.map spI ∧ ∀ z ∈ zs, z ∈ l
  | [], l, _ => ⟨[], rfl, fun z hz => by cases hz⟩
  | y :: ys, l, h => by
    obtain ⟨z, hz, e⟩ := List.mem_map.mp (h y List.mem_cons_self)
    obtain ⟨zs, e1, e2⟩ := spI_back fun x hx => h x (List.mem_cons_of_mem _ hx)
    exact ⟨z :: zs, by rw [e1, ← e]; rfl, fun w hw => (List.mem_cons.mp hw).elim (fun e => e ▸ hz) (e2 w)⟩
/-- of spans -/
theorem sortSet_spn {Q : SV → Prop} {l : List Spn} {B : Int} (h300 : l.length ≤ 300) (hB : ∀ x ∈ l, (0 ≤ x.a ∧ x.a < B) ∧ (0 ≤ x.s ∧ x.s < B) ∧ (0 ≤ x.b ∧ x.b < B)) (hq : ∀ ys : List Spn, ys.Nodup → (∀ x, x ∈ ys ↔ x ∈ l) → Q (.own (ys.map spD))) :
    ∃ (m : List (List Int)) (d : Nat) (B : Int), l.map spD = m.map tupI ∧ m.length ≤ 300 ∧ 1 ≤ d ∧ (∀ ns ∈ m, ns.length = d ∧ TS.Bd B ns) ∧ ∀ ys : List (List Int), ys.Nodup → (∀ x, x ∈ ys ↔ x ∈ m) → Q (.own (ys.map tupI)) := by
  refine ⟨l.map spI, 3, B, by rw [List.map_map]; rfl, by rw [List.length_map]; exact h300, by decide, fun ns hn => ?_, fun ys hnd hm => ?_⟩
  · obtain ⟨x, hx, rfl⟩ := List.mem_map.mp hn
    obtain ⟨h1, h2, h3⟩ := hB x hx
    refine ⟨rfl, fun n hn => ?_⟩
    simp only [spI, List.mem_cons, List.not_mem_nil, or_false] at hn
    rcases hn with rfl | rfl | rfl
    · exact h1
    · exact h2
    · exact h3
  · obtain ⟨zs, e, hz⟩ := spI_back fun x hx => (hm x).mp hx
    subst e
    have := hq zs (List.Pairwise.of_map spI (fun _ _ h e => h (congrArg spI e)) hnd) fun x => ⟨hz x, fun hx => ?_⟩
    · rw [List.map_map]; exact this
    · obtain ⟨z, hz', e⟩ := List.mem_map.mp ((hm (spI x)).mpr (List.mem_map.mpr ⟨x, hx, rfl⟩))
      exact spI_inj e ▸ hz'
end Z


/-! k24: places led to, the plain law -/
namespace Z
open PySem PySem.Spec PyProof.Rows L2
theorem sub_len {α : Type} [DecidableEq α] : ∀ {l m : List α}, l.Nodup → (∀ x ∈ l, x ∈ m) → l.length ≤ m.length
  | [], _, _, _ => Nat.zero_le _
  | x :: l, m, hn, hs => by
    obtain ⟨h1, h2⟩ := List.nodup_cons.mp hn
    have hx := hs x List.mem_cons_self
    have ih := sub_len (m := m.erase x) h2 fun y hy => (List.mem_erase_of_ne (fun e : y = x => h1 (by rw [← e]; exact hy))).2 (hs y (List.mem_cons_of_mem _ hy))
    have e := List.length_erase_of_mem hx
    have p := List.length_pos_of_mem hx
    rw [List.length_cons]
    omega
theorem same_len {α : Type} [DecidableEq α] {l m : List α} (h1 : l.Nodup) (h2 : m.Nodup) (h : ∀ x, x ∈ l ↔ x ∈ m) : l.length = m.length :=
  Nat.le_antisymm (sub_len h1 fun x hx => (h x).mp hx) (sub_len h2 fun x hx => (h x).mpr hx)
theorem spans_nodup (n : Nat) : (spansM n).Nodup := by
  unfold spansM
  refine List.pairwise_flatMap.mpr ⟨fun a _ => List.pairwise_map.mpr (List.nodup_range.imp fun h e => h ?_), List.nodup_range.imp fun {a b} h x hx y hy e => ?_⟩
  · obtain ⟨i, _, rfl⟩ := List.mem_map.mp hx
    obtain ⟨j, _, rfl⟩ := List.mem_map.mp hy
    have := congrArg Spn.a e
    simp only at this
    exact h (by omega)
  · have := congrArg Spn.s e
    simp only at this
    omega
theorem spans_num (n : Nat) : 2 * (spansM n).length = n * (n + 1) := by
  have key : ∀ k, k ≤ n → 2 * ((List.range k).flatMap fun (a : Nat) => (List.range (n - a)).map fun (i : Nat) => (⟨a, 1 + i, n - a - (1 + i)⟩ : Spn)).length + k * k = k * (2 * n + 1) := by
    intro k
    induction k with
    | zero => intro _; simp
    | succ k ih =>
      intro hk
      have ih := ih (by omega)
      rw [List.range_succ, List.flatMap_append, List.length_append, List.flatMap_cons, List.flatMap_nil, List.append_nil, List.length_map, List.length_range]
      obtain ⟨j, rfl⟩ : ∃ j, n = k + j := ⟨n - k, by omega⟩
      have e : k + j - k = j := by omega
      rw [e]
      generalize ((List.range k).flatMap fun (a : Nat) => (List.range (k + j - a)).map fun (i : Nat) => (⟨a, 1 + i, ((k + j : Nat) : Int) - a - (1 + i)⟩ : Spn)).length = z at ih ⊢
      simp only [Nat.mul_add, Nat.add_mul, Nat.mul_one, Nat.one_mul] at ih ⊢
      omega
  have := key n (Nat.le_refl _)
  unfold spansM
  simp only [Nat.mul_add, Nat.mul_one] at this ⊢
  rw [Nat.mul_left_comm n 2 n] at this
  omega
theorem spans_one : spansM 1 = [⟨0, 1, 0⟩] := by decide
theorem spans_pos {n : Nat} (h : 1 ≤ n) : 1 ≤ (spansM n).length := by
  have := spans_num n
  have : 1 * 2 ≤ n * (n + 1) := Nat.mul_le_mul h (by omega)
  omega
/-! how many places are led to -/
theorem img_mem {r : List Ky} {t : Bool} {n : Nat} {y : Spn} : y ∈ imgT r t n ↔ ∃ x ∈ spansM n, endM x (rawM r t) = y := by
  unfold imgT
  rw [foldK_mem]
  simp
theorem img_nodup (r : List Ky) (t : Bool) (n : Nat) : (imgT r t n).Nodup := foldK_nodup _ _ List.nodup_nil
theorem img_le (r : List Ky) (t : Bool) (n : Nat) : (imgT r t n).length ≤ (spansM n).length := by
  have := sub_len (img_nodup r t n) (m := (spansM n).map fun x => endM x (rawM r t)) fun y hy => by
    obtain ⟨x, hx, e⟩ := img_mem.mp hy
    exact List.mem_map.mpr ⟨x, hx, e⟩
  rwa [List.length_map] at this
theorem img_pos (r : List Ky) (t : Bool) {n : Nat} (h : 1 ≤ n) : 1 ≤ (imgT r t n).length := by
  obtain ⟨x, l, e⟩ : ∃ x l, spansM n = x :: l := by
    have := spans_pos h
    cases e : spansM n with
    | nil => rw [e] at this; simp at this
    | cons x l => exact ⟨x, l, rfl⟩
  exact List.length_pos_of_mem (img_mem.mpr ⟨x, by rw [e]; exact List.mem_cons_self, rfl⟩)
theorem st_le (r : List Ky) (t : Bool) (n : Nat) : (stT r t n).length ≤ (imgT r t n).length :=
  sub_len ((spans_nodup n).filter _) fun x hx => by
    obtain ⟨h1, h2⟩ := List.mem_filter.mp hx
    exact img_mem.mpr ⟨x, h1, of_decide_eq_true h2⟩
theorem img_one (r : List Ky) (t : Bool) : (imgT r t 1).length = 1 := by
  unfold imgT
  rw [spans_one]
  rfl
theorem img_const {r : List Ky} {t : Bool} {n : Nat} (h1 : 1 ≤ n) {z : Spn} (h : ∀ x ∈ spansM n, endM x (rawM r t) = z) : (imgT r t n).length = 1 := by
  refine Nat.le_antisymm ?_ (img_pos r t h1)
  exact sub_len (img_nodup r t n) (m := [z]) fun y hy => by
    obtain ⟨x, hx, e⟩ := img_mem.mp hy
    rw [← e, h x hx]
    exact List.mem_cons_self
theorem end_nil (x : Spn) (t : Bool) : endM x (rawM [] t) = x := rfl
theorem img_nil (t : Bool) (n : Nat) : (imgT [] t n).length = (spansM n).length := same_len (img_nodup _ _ _) (spans_nodup n) fun y => by
  rw [img_mem]
  exact ⟨fun ⟨x, hx, e⟩ => by rw [← e, end_nil]; exact hx, fun h => ⟨y, h, end_nil y t⟩⟩
theorem st_nil (t : Bool) (n : Nat) : (stT [] t n).length = (spansM n).length := by
  unfold stT
  rw [List.filter_eq_self.mpr fun x _ => decide_eq_true (end_nil x t)]
/-! the starts of all ends -/
theorem filt_two {α : Type} (p : α → Bool) : ∀ l : List α, (l.filter p).length + (l.filter fun x => !p x).length = l.length
  | [] => rfl
  | x :: l => by
    have := filt_two p l
    cases c : p x <;> simp [c] <;> omega
theorem sum_fib {α β : Type} [DecidableEq β] {f : α → β} : ∀ {ys : List β} {l : List α}, ys.Nodup → (∀ x ∈ l, f x ∈ ys) → (ys.map fun y => (l.filter fun x => decide (f x = y)).length).sum = l.length
  | [], l, _, h => by
    have : l = [] := List.eq_nil_iff_forall_not_mem.mpr fun x hx => by have := h x hx; simp at this
    rw [this]; rfl
  | y :: ys, l, nd, h => by
    obtain ⟨h1, h2⟩ := List.nodup_cons.mp nd
    have ih := sum_fib (f := f) (ys := ys) (l := l.filter fun x => !decide (f x = y)) h2 fun x hx => by
      obtain ⟨a, b⟩ := List.mem_filter.mp hx
      simp only [Bool.not_eq_true', decide_eq_false_iff_not] at b
      exact (List.mem_cons.mp (h x a)).resolve_left b
    have e : (ys.map fun z => ((l.filter fun x => !decide (f x = y)).filter fun x => decide (f x = z)).length) = ys.map fun z => (l.filter fun x => decide (f x = z)).length := by
      refine List.map_congr_left fun z hz => ?_
      rw [List.filter_filter]
      congr 1
      refine List.filter_congr fun x _ => ?_
      by_cases c : f x = z
      · have : ¬ z = y := fun e => h1 (e ▸ hz)
        simp [c, this]
      · simp [c]
    rw [e] at ih
    rw [List.map_cons, List.sum_cons, ih]
    exact filt_two (fun x => decide (f x = y)) l
/-! rows that are fixed -/
/-- what is held and what is here hang on the screen alone -/
def absS (f : Bool × Bool) : Mv → Bool × Bool
  | .mark => (f.2, f.2)
  | .recall => (f.1, f.1)
  | .whole => (f.1, true)
  | .first => (f.1, true)
  | .second => (f.1, true)
  | _ => f
def absR (f : Bool × Bool) : List Mv → Bool × Bool
  | [] => f
  | m :: ms => absR (absS f m) ms
theorem abs_same : ∀ (ms : List Mv) (f : Bool × Bool) (a b : Spn × Spn), (a.1.Ok ∧ a.2.Ok ∧ a.1.w = a.2.w) → (b.1.Ok ∧ b.2.Ok ∧ b.1.w = b.2.w) → a.2.w = b.2.w → (f.1 = true → a.1 = b.1) → (f.2 = true → a.2 = b.2) →
    (absR f ms).2 = true → (runM a ms).2 = (runM b ms).2
  | [], f, a, b, _, _, _, _, h2, h => h2 h
  | m :: ms, f, a, b, ha, hb, hw, h1, h2, h => by
    obtain ⟨p1, p2, p3, p4⟩ := step_ok ha m
    obtain ⟨q1, q2, q3, q4⟩ := step_ok hb m
    refine abs_same ms (absS f m) (stepM a m) (stepM b m) ⟨p1, p2, p3⟩ ⟨q1, q2, q3⟩ (by rw [p4, q4]; exact hw) (fun e => ?_) (fun e => ?_) h
    · cases m <;> first
        | exact h1 e
        | exact h2 e
    · cases m <;> first
        | exact h1 e
        | exact h2 e
        | (simp only [stepM, movedM, halvedM, hw]; done)
        | (simp only [stepM]; rw [h2 e])
/-- else the size is near what it was -/
def nearS (n : Nat) (x y : Spn) : Prop := x.s ≤ y.s + n ∧ y.s ≤ x.s + n
theorem abs_near (x : Spn) : ∀ (ms : List Mv) (n : Nat) (f : Bool × Bool) (a : Spn × Spn), (f.1 = false → nearS n a.1 x) → (f.2 = false → nearS n a.2 x) → (absR f ms).2 = false → nearS (n + ms.length) (runM a ms).2 x
  | [], n, f, a, _, h2, h => h2 h
  | m :: ms, n, f, a, h1, h2, h => by
    have up : ∀ {y z : Spn}, nearS n y x → (z.s ≤ y.s + 1 ∧ y.s ≤ z.s + 1) → nearS (n + 1) z x := fun hy hz => by unfold nearS at *; omega
    have one : ∀ y : Spn, nearS n y x → nearS (n + 1) y x := fun y hy => up hy ⟨by omega, by omega⟩
    have ih := abs_near x ms (n + 1) (absS f m) (stepM a m) (fun e => ?_) (fun e => ?_) h
    · rw [List.length_cons, show n + (ms.length + 1) = n + 1 + ms.length by omega]
      exact ih
    · cases m <;> first
        | exact one _ (h1 e)
        | exact one _ (h2 e)
    · cases m <;> first
        | exact one _ (h1 e)
        | exact one _ (h2 e)
        | (have e : true = false := e; cases e; done)
        | (refine up (h2 e) ?_; simp only [stepM, movedM, changedM]; (try split) <;> (try split) <;> simp <;> omega)
theorem fix_end {ms : List Mv} (hl : ms.length ≤ 4) (h : fixM ms = true) {x y : Spn} (hx : x.Ok) (hy : y.Ok) (hw : x.w = y.w) : endM x ms = endM y ms := by
  unfold fixM at h
  rw [Bool.or_eq_true] at h
  rcases h with h | h
  · rw [← kept_end hx, ← kept_end hy]
    exact forget_span h hw
  · by_cases hf : forgetsM ms = true
    · exact forget_span hf hw
    · by_cases c : (absR (false, false) ms).2 = true
      · exact abs_same ms (false, false) (x, x) (y, y) ⟨hx, hx, rfl⟩ ⟨hy, hy, rfl⟩ hw (fun e => by cases e) (fun e => by cases e) c
      · exfalso
        have c : (absR (false, false) ms).2 = false := by simpa using c
        have h27 := List.all_eq_true.mp h 27 (List.mem_range.mpr (by omega))
        have hm : (⟨0, 1, 27⟩ : Spn) ∈ triedL (1 + 27) [ms] := by
          unfold triedL
          rw [if_neg (by simp [hf])]
          exact List.mem_filter.mpr ⟨mem_spans (x := ⟨0, 1, 27⟩) ⟨by decide, by decide, by decide⟩, by decide +kernel⟩
        have e := of_decide_eq_true (List.all_eq_true.mp h27 _ hm)
        have n1 : nearS (0 + ms.length) (endM ⟨0, 1, 27⟩ ms) ⟨0, 1, 27⟩ := abs_near _ ms 0 (false, false) (⟨0, 1, 27⟩, ⟨0, 1, 27⟩) (fun _ => ⟨by simp, by simp⟩) (fun _ => ⟨by simp, by simp⟩) c
        have n2 : nearS (0 + ms.length) (endM ⟨0, 1 + ((27 : Nat) : Int), 0⟩ ms) ⟨0, 1 + ((27 : Nat) : Int), 0⟩ := abs_near _ ms 0 (false, false) (⟨0, 1 + ((27 : Nat) : Int), 0⟩, ⟨0, 1 + ((27 : Nat) : Int), 0⟩) (fun _ => ⟨by simp, by simp⟩) (fun _ => ⟨by simp, by simp⟩) c
        rw [e] at n1
        unfold nearS at n1 n2
        simp only at n1 n2
        omega
theorem fix_img {r : List Ky} {t : Bool} {n : Nat} (hl : r.length ≤ 4) (h1 : 1 ≤ n) (h : fixM (movesM r t) = true) : (imgT r t n).length = 1 := by
  refine img_const h1 (z := endM ⟨0, n, 0⟩ (rawM r t)) fun x hx => ?_
  obtain ⟨ok, hw⟩ := spans_mem hx
  have := fix_end (Nat.le_trans (moves_len r t) hl) h ok (y := ⟨0, n, 0⟩) ⟨by simp, by simp; omega, by simp⟩ (by rw [hw]; simp [Spn.w])
  rwa [end_moves, end_moves] at this
/-! center first -/
theorem raw_cons (k : Ky) (r : List Ky) (t : Bool) : rawM (k :: r) t = mvA k t :: rawM r t := rfl
theorem no_rec {r : List Ky} (h : ∀ k ∈ r, k ≠ .k_recall) (t : Bool) : okF (rawM r t) = true := okF_no (by
  rw [List.any_eq_false]
  intro m hm
  obtain ⟨k, hk, rfl⟩ := List.mem_map.mp hm
  have := h k hk
  revert this
  cases t <;> cases k <;> decide)
theorem center_img {r : List Ky} (h : ∀ k ∈ r, k ≠ .k_recall) (t : Bool) (n : Nat) : (imgT (.k_center :: r) t n).length ≤ n := by
  have := sub_len (img_nodup (.k_center :: r) t n) (m := (List.range n).map fun (i : Nat) => endM ⟨((n : Int) - (1 + i)) / 2, 1 + i, (n : Int) - (1 + i) - ((n : Int) - (1 + i)) / 2⟩ (rawM r t)) fun y hy => by
    obtain ⟨x, hx, e⟩ := img_mem.mp hy
    obtain ⟨ok, hw⟩ := spans_mem hx
    have o1 := ok.a
    have o2 := ok.s
    have o3 := ok.b
    unfold Spn.w at hw
    refine List.mem_map.mpr ⟨(x.s - 1).toNat, List.mem_range.mpr (by omega), ?_⟩
    rw [← e, raw_cons]
    have em : mvA .k_center t = .center := by cases t <;> rfl
    rw [em]
    have e1 : endM x (.center :: rawM r t) = endM (movedM x .center) (rawM r t) := okF_run _ _ _ _ (no_rec h t)
    rw [e1]
    congr 1
    have es : (1 : Int) + ((x.s - 1).toNat : Nat) = x.s := by omega
    rw [es]
    simp only [movedM, Spn.mk.injEq]
    have : (n : Int) - x.s = x.a + x.b := by omega
    rw [this]
    simp
  rwa [List.length_map, List.length_range] at this
end Z


/-! k24: the law -/
namespace Z
open PySem PySem.Spec PyProof.Rows L2
def blaw0 : FS :=
  (wSet 1 (wLst (wCons (w1 gListC (wV 0)) (wCons (wC (.int 0)) (wCons (wC (.int 0)) wNil)))))
def blaw : FS :=
  (wSeq (wFor (wIR1 (wCons (wC (.int 2)) wNil)) (wG 2) (wSeq (wAsg (wTup (wCons (wCall φ_law_row (wCons (wV 1) (wCons (wC (.int 4)) wNil))) (wCons (wOp gAdd (wC (.int 1)) (wCall φ_law_draw (wCons (wV 1) (wCons (wC (.int 40)) wNil)))) (wCons (wOp gAdd (wC (.int 1)) (wCall φ_law_draw (wCons (wV 1) (wCons (wC (.int 10)) wNil)))) wNil)))) (wGtup 3 (wGcons (wG 3) (wGcons (wG 4) (wGcons (wG 5) wGnil))))) (wSeq (wSetD 6 (wOp gMul (wOp gFdiv (wOp gMul (wV 4) (wOp gAdd (wV 4) (wC (.int 1)))) (wC (.int 2))) (wOp gFdiv (wOp gMul (wV 5) (wOp gAdd (wV 5) (wC (.int 1)))) (wC (.int 2))))) (wSeq (wThenFrz 8 (wThenFrz 7 (wPar 7 8 (wCons (wCall φcount_places (wCons (wV 3) (wCons (wV 4) (wCons (wV 5) wNil)))) (wCons (wCall φcount_still (wCons (wV 3) (wCons (wV 4) (wCons (wV 5) wNil)))) wNil))))) (wSeq (wIfS (wOr (wNot (wB (wChain (fun i j => decide (i ≤ j)) (fun i j => decide (i ≤ j)) (wC (.int 1)) (wV 7) (wV 6)))) (wNot (wB (wChain (fun i j => decide (i ≤ j)) (fun i j => decide (i ≤ j)) (wC (.int 0)) (wV 8) (wV 7))))) (wRet (wC (.bool false))) wNext) (wSeq (wIfS (wOr (wAnd (wB (wCall φis_fixed (wCons (wV 3) wNil))) (wB (wOp gNe (wV 7) (wC (.int 1))))) (wAnd (wB (wOp gEq (wV 3) (wTup wNil))) (wB (wOp gNe (wTup (wCons (wV 7) (wCons (wV 8) wNil))) (wTup (wCons (wV 6) (wCons (wV 6) wNil))))))) (wRet (wC (.bool false))) wNext) (wSeq (wSetD 9 (wC (.int 0))) (wSeq (wSetD 10 (wSortSet (wComp (wIL (wCall φ_law_spans (wCons (w2 gMin2 (wCons (wV 4) (wCons (wC (.int 12)) wNil))) wNil))) (wG 15) wYes (wCall φ_law_end (wCons (wV 15) (wCons (wCall φ_law_moves (wCons (wV 3) (wCons (wC (.int 0)) wNil))) wNil))) [15]))) (wSeq (wFor (wIL (wV 10)) (wG 11) (wSetD 9 (wOp gAdd (wV 9) (wCall φcount_starts (wCons (wV 3) (wCons (wTup (wCons (wV 11) (wCons (wCall φ_law_end (wCons (wTup (wCons (wC (.int 0)) (wCons (wC (.int 1)) (wCons (wC (.int 0)) wNil)))) (wCons (wCall φ_law_moves (wCons (wV 3) (wCons (wC (.int 1)) wNil))) wNil))) wNil))) wNil)))))) (wSeq (wSetD 12 (w2 gMin2 (wCons (wV 4) (wCons (wC (.int 12)) wNil)))) (wSeq (wIfS (wOr (wB (wOp gNe (wV 9) (wOp gFdiv (wOp gMul (wV 12) (wOp gAdd (wV 12) (wC (.int 1)))) (wC (.int 2))))) (wB (wOp gNe (wCall φcount_places (wCons (wV 3) (wCons (wV 12) (wCons (wC (.int 1)) wNil)))) (w1 gLen (wV 10))))) (wRet (wC (.bool false))) wNext) (wSeq (wSetD 13 (w1 gTupC (wComp (wIT (wV 3)) (wG 14) (wB (wOp (gIn true) (wV 14) (wTup (wCons (wC (.str "mark")) (wCons (wC (.str "recall")) wNil))))) (wV 14) [14]))) (wIfS (wB (wOp gGt (wCall φcount_places (wCons (wOp gAdd (wTup (wCons (wC (.str "center")) wNil)) (wCut (wV 13) wNoP (wPart (wC (.int 3))))) (wCons (wV 4) (wCons (wC (.int 1)) wNil)))) (wV 4))) (wRet (wC (.bool false))) wNext))))))))))))) (wRet (wAndV (wOp gEq (wCall φcount_places (wCons (wTup (wCons (wC (.str "left")) wNil)) (wCons (wC (.int 20)) (wCons (wC (.int 20)) wNil)))) (wC (.int 1))) (wOp gEq (wCall φcount_still (wCons (wTup wNil) (wCons (wC (.int 20)) (wCons (wC (.int 20)) wNil)))) (wOp gMul (wC (.int 210)) (wC (.int 210)))))))

def blawA : FS :=
  (wSeq (wSetD 6 (wOp gMul (wOp gFdiv (wOp gMul (wV 4) (wOp gAdd (wV 4) (wC (.int 1)))) (wC (.int 2))) (wOp gFdiv (wOp gMul (wV 5) (wOp gAdd (wV 5) (wC (.int 1)))) (wC (.int 2))))) (wSeq (wThenFrz 8 (wThenFrz 7 (wPar 7 8 (wCons (wCall φcount_places (wCons (wV 3) (wCons (wV 4) (wCons (wV 5) wNil)))) (wCons (wCall φcount_still (wCons (wV 3) (wCons (wV 4) (wCons (wV 5) wNil)))) wNil))))) (wSeq (wIfS (wOr (wNot (wB (wChain (fun i j => decide (i ≤ j)) (fun i j => decide (i ≤ j)) (wC (.int 1)) (wV 7) (wV 6)))) (wNot (wB (wChain (fun i j => decide (i ≤ j)) (fun i j => decide (i ≤ j)) (wC (.int 0)) (wV 8) (wV 7))))) (wRet (wC (.bool false))) wNext) (wSeq (wIfS (wOr (wAnd (wB (wCall φis_fixed (wCons (wV 3) wNil))) (wB (wOp gNe (wV 7) (wC (.int 1))))) (wAnd (wB (wOp gEq (wV 3) (wTup wNil))) (wB (wOp gNe (wTup (wCons (wV 7) (wCons (wV 8) wNil))) (wTup (wCons (wV 6) (wCons (wV 6) wNil))))))) (wRet (wC (.bool false))) wNext) (wSeq (wSetD 9 (wC (.int 0))) (wSeq (wSetD 10 (wSortSet (wComp (wIL (wCall φ_law_spans (wCons (w2 gMin2 (wCons (wV 4) (wCons (wC (.int 12)) wNil))) wNil))) (wG 15) wYes (wCall φ_law_end (wCons (wV 15) (wCons (wCall φ_law_moves (wCons (wV 3) (wCons (wC (.int 0)) wNil))) wNil))) [15]))) (wSeq (wFor (wIL (wV 10)) (wG 11) (wSetD 9 (wOp gAdd (wV 9) (wCall φcount_starts (wCons (wV 3) (wCons (wTup (wCons (wV 11) (wCons (wCall φ_law_end (wCons (wTup (wCons (wC (.int 0)) (wCons (wC (.int 1)) (wCons (wC (.int 0)) wNil)))) (wCons (wCall φ_law_moves (wCons (wV 3) (wCons (wC (.int 1)) wNil))) wNil))) wNil))) wNil)))))) (wSeq (wSetD 12 (w2 gMin2 (wCons (wV 4) (wCons (wC (.int 12)) wNil)))) (wSeq (wIfS (wOr (wB (wOp gNe (wV 9) (wOp gFdiv (wOp gMul (wV 12) (wOp gAdd (wV 12) (wC (.int 1)))) (wC (.int 2))))) (wB (wOp gNe (wCall φcount_places (wCons (wV 3) (wCons (wV 12) (wCons (wC (.int 1)) wNil)))) (w1 gLen (wV 10))))) (wRet (wC (.bool false))) wNext) (wSeq (wSetD 13 (w1 gTupC (wComp (wIT (wV 3)) (wG 14) (wB (wOp (gIn true) (wV 14) (wTup (wCons (wC (.str "mark")) (wCons (wC (.str "recall")) wNil))))) (wV 14) [14]))) (wIfS (wB (wOp gGt (wCall φcount_places (wCons (wOp gAdd (wTup (wCons (wC (.str "center")) wNil)) (wCut (wV 13) wNoP (wPart (wC (.int 3))))) (wCons (wV 4) (wCons (wC (.int 1)) wNil)))) (wV 4))) (wRet (wC (.bool false))) wNext)))))))))))

def blawB : FS :=
  (wSeq (wIfS (wOr (wNot (wB (wChain (fun i j => decide (i ≤ j)) (fun i j => decide (i ≤ j)) (wC (.int 1)) (wV 7) (wV 6)))) (wNot (wB (wChain (fun i j => decide (i ≤ j)) (fun i j => decide (i ≤ j)) (wC (.int 0)) (wV 8) (wV 7))))) (wRet (wC (.bool false))) wNext) (wSeq (wIfS (wOr (wAnd (wB (wCall φis_fixed (wCons (wV 3) wNil))) (wB (wOp gNe (wV 7) (wC (.int 1))))) (wAnd (wB (wOp gEq (wV 3) (wTup wNil))) (wB (wOp gNe (wTup (wCons (wV 7) (wCons (wV 8) wNil))) (wTup (wCons (wV 6) (wCons (wV 6) wNil))))))) (wRet (wC (.bool false))) wNext) (wSeq (wSetD 9 (wC (.int 0))) (wSeq (wSetD 10 (wSortSet (wComp (wIL (wCall φ_law_spans (wCons (w2 gMin2 (wCons (wV 4) (wCons (wC (.int 12)) wNil))) wNil))) (wG 15) wYes (wCall φ_law_end (wCons (wV 15) (wCons (wCall φ_law_moves (wCons (wV 3) (wCons (wC (.int 0)) wNil))) wNil))) [15]))) (wSeq (wFor (wIL (wV 10)) (wG 11) (wSetD 9 (wOp gAdd (wV 9) (wCall φcount_starts (wCons (wV 3) (wCons (wTup (wCons (wV 11) (wCons (wCall φ_law_end (wCons (wTup (wCons (wC (.int 0)) (wCons (wC (.int 1)) (wCons (wC (.int 0)) wNil)))) (wCons (wCall φ_law_moves (wCons (wV 3) (wCons (wC (.int 1)) wNil))) wNil))) wNil))) wNil)))))) (wSeq (wSetD 12 (w2 gMin2 (wCons (wV 4) (wCons (wC (.int 12)) wNil)))) (wSeq (wIfS (wOr (wB (wOp gNe (wV 9) (wOp gFdiv (wOp gMul (wV 12) (wOp gAdd (wV 12) (wC (.int 1)))) (wC (.int 2))))) (wB (wOp gNe (wCall φcount_places (wCons (wV 3) (wCons (wV 12) (wCons (wC (.int 1)) wNil)))) (w1 gLen (wV 10))))) (wRet (wC (.bool false))) wNext) (wSeq (wSetD 13 (w1 gTupC (wComp (wIT (wV 3)) (wG 14) (wB (wOp (gIn true) (wV 14) (wTup (wCons (wC (.str "mark")) (wCons (wC (.str "recall")) wNil))))) (wV 14) [14]))) (wIfS (wB (wOp gGt (wCall φcount_places (wCons (wOp gAdd (wTup (wCons (wC (.str "center")) wNil)) (wCut (wV 13) wNoP (wPart (wC (.int 3))))) (wCons (wV 4) (wCons (wC (.int 1)) wNil)))) (wV 4))) (wRet (wC (.bool false))) wNext)))))))))

def blawC : FS :=
  (wSeq (wSetD 9 (wC (.int 0))) (wSeq (wSetD 10 (wSortSet (wComp (wIL (wCall φ_law_spans (wCons (w2 gMin2 (wCons (wV 4) (wCons (wC (.int 12)) wNil))) wNil))) (wG 15) wYes (wCall φ_law_end (wCons (wV 15) (wCons (wCall φ_law_moves (wCons (wV 3) (wCons (wC (.int 0)) wNil))) wNil))) [15]))) (wSeq (wFor (wIL (wV 10)) (wG 11) (wSetD 9 (wOp gAdd (wV 9) (wCall φcount_starts (wCons (wV 3) (wCons (wTup (wCons (wV 11) (wCons (wCall φ_law_end (wCons (wTup (wCons (wC (.int 0)) (wCons (wC (.int 1)) (wCons (wC (.int 0)) wNil)))) (wCons (wCall φ_law_moves (wCons (wV 3) (wCons (wC (.int 1)) wNil))) wNil))) wNil))) wNil)))))) (wSeq (wSetD 12 (w2 gMin2 (wCons (wV 4) (wCons (wC (.int 12)) wNil)))) (wSeq (wIfS (wOr (wB (wOp gNe (wV 9) (wOp gFdiv (wOp gMul (wV 12) (wOp gAdd (wV 12) (wC (.int 1)))) (wC (.int 2))))) (wB (wOp gNe (wCall φcount_places (wCons (wV 3) (wCons (wV 12) (wCons (wC (.int 1)) wNil)))) (w1 gLen (wV 10))))) (wRet (wC (.bool false))) wNext) (wSeq (wSetD 13 (w1 gTupC (wComp (wIT (wV 3)) (wG 14) (wB (wOp (gIn true) (wV 14) (wTup (wCons (wC (.str "mark")) (wCons (wC (.str "recall")) wNil))))) (wV 14) [14]))) (wIfS (wB (wOp gGt (wCall φcount_places (wCons (wOp gAdd (wTup (wCons (wC (.str "center")) wNil)) (wCut (wV 13) wNoP (wPart (wC (.int 3))))) (wCons (wV 4) (wCons (wC (.int 1)) wNil)))) (wV 4))) (wRet (wC (.bool false))) wNext)))))))

def blawD : FS :=
  (wSeq (wFor (wIL (wV 10)) (wG 11) (wSetD 9 (wOp gAdd (wV 9) (wCall φcount_starts (wCons (wV 3) (wCons (wTup (wCons (wV 11) (wCons (wCall φ_law_end (wCons (wTup (wCons (wC (.int 0)) (wCons (wC (.int 1)) (wCons (wC (.int 0)) wNil)))) (wCons (wCall φ_law_moves (wCons (wV 3) (wCons (wC (.int 1)) wNil))) wNil))) wNil))) wNil)))))) (wSeq (wSetD 12 (w2 gMin2 (wCons (wV 4) (wCons (wC (.int 12)) wNil)))) (wSeq (wIfS (wOr (wB (wOp gNe (wV 9) (wOp gFdiv (wOp gMul (wV 12) (wOp gAdd (wV 12) (wC (.int 1)))) (wC (.int 2))))) (wB (wOp gNe (wCall φcount_places (wCons (wV 3) (wCons (wV 12) (wCons (wC (.int 1)) wNil)))) (w1 gLen (wV 10))))) (wRet (wC (.bool false))) wNext) (wSeq (wSetD 13 (w1 gTupC (wComp (wIT (wV 3)) (wG 14) (wB (wOp (gIn true) (wV 14) (wTup (wCons (wC (.str "mark")) (wCons (wC (.str "recall")) wNil))))) (wV 14) [14]))) (wIfS (wB (wOp gGt (wCall φcount_places (wCons (wOp gAdd (wTup (wCons (wC (.str "center")) wNil)) (wCut (wV 13) wNoP (wPart (wC (.int 3))))) (wCons (wV 4) (wCons (wC (.int 1)) wNil)))) (wV 4))) (wRet (wC (.bool false))) wNext)))))

def blawE : FS :=
  (wSeq (wSetD 12 (w2 gMin2 (wCons (wV 4) (wCons (wC (.int 12)) wNil)))) (wSeq (wIfS (wOr (wB (wOp gNe (wV 9) (wOp gFdiv (wOp gMul (wV 12) (wOp gAdd (wV 12) (wC (.int 1)))) (wC (.int 2))))) (wB (wOp gNe (wCall φcount_places (wCons (wV 3) (wCons (wV 12) (wCons (wC (.int 1)) wNil)))) (w1 gLen (wV 10))))) (wRet (wC (.bool false))) wNext) (wSeq (wSetD 13 (w1 gTupC (wComp (wIT (wV 3)) (wG 14) (wB (wOp (gIn true) (wV 14) (wTup (wCons (wC (.str "mark")) (wCons (wC (.str "recall")) wNil))))) (wV 14) [14]))) (wIfS (wB (wOp gGt (wCall φcount_places (wCons (wOp gAdd (wTup (wCons (wC (.str "center")) wNil)) (wCut (wV 13) wNoP (wPart (wC (.int 3))))) (wCons (wV 4) (wCons (wC (.int 1)) wNil)))) (wV 4))) (wRet (wC (.bool false))) wNext))))

def blawF : FS :=
  (wSeq (wSetD 13 (w1 gTupC (wComp (wIT (wV 3)) (wG 14) (wB (wOp (gIn true) (wV 14) (wTup (wCons (wC (.str "mark")) (wCons (wC (.str "recall")) wNil))))) (wV 14) [14]))) (wIfS (wB (wOp gGt (wCall φcount_places (wCons (wOp gAdd (wTup (wCons (wC (.str "center")) wNil)) (wCut (wV 13) wNoP (wPart (wC (.int 3))))) (wCons (wV 4) (wCons (wC (.int 1)) wNil)))) (wV 4))) (wRet (wC (.bool false))) wNext))

def notMR (k : Ky) : Bool := !decide (k = .k_mark ∨ k = .k_recall)
theorem mr_key (k : Ky) : ([PyData.str "mark", PyData.str "recall"].any fun x => PyData.eqv x (kyD k)) = decide (k = .k_mark ∨ k = .k_recall) := by
  unfold kyD; simp only [List.any_cons, List.any_nil, eqv_str]; cases k <;> decide +kernel
theorem ok_rowN (l : List Ky) : okEq (rowD l) (.tuple []) = true := by
  have h1 : PyData.canLayAll0 (l.map kyD) = true := by
    induction l with
    | nil => rfl
    | cons x r ih => rw [List.map_cons, PyData.canLayAll0, ih]; cases x <;> decide +kernel
  have h2 : PyData.depthAll (l.map kyD) = 0 := by
    clear h1
    induction l with
    | nil => rfl
    | cons x r ih => rw [List.map_cons, PyData.depthAll, ih]; rfl
  simp [rowD, okEq, SeqAt.shaped, PyData.canLay0, PyData.canLayAll0, PyData.depth, PyData.depthAll, h1, h2]
theorem eqv_rowN (l : List Ky) : (rowD l).eqv (.tuple []) = decide (l = []) := by
  cases l <;> simp [rowD, PyData.eqv, PyData.eqvAll]
theorem ok_pair2 (a b c d : Int) : okEq (.tuple [.int a, .int b]) (.tuple [.int c, .int d]) = true := by
  simp [okEq, SeqAt.shaped, PyData.canLay0, PyData.canLayAll0, PyData.depth, PyData.depthAll]
theorem eqv_pair2 (a b c d : Int) : (PyData.tuple [.int a, .int b]).eqv (.tuple [.int c, .int d]) = (decide (a = c) && decide (b = d)) := by
  simp only [PyData.eqv, PyData.eqvAll, Bool.and_true]
  rw [Bool.eq_iff_iff]
  simp
section
variable {E : FEnds} {r : List Ky} {w h : Nat} {o0 o2 o4 o5 o6 o7 o8 o9 o10 o11 o12 o13 o14 o15 : SV}
theorem wFF (hr : r.length ≤ 4) (hw : 1 ≤ w ∧ w ≤ 40) (hN : ∀ o13 o14, E.nx [o0, .tp, o2, .d (rowD r), .d (.int w), o5, o6, o7, o8, o9, o10, o11, o12, o13, o14, o15]) :
    blawF E [o0, .tp, o2, .d (rowD r), .d (.int w), o5, o6, o7, o8, o9, o10, o11, o12, o13, o14, o15] := by
  have q24 : sizeLine = 16777216 := by decide
  simp only [blawF, rowD, List.length_map, wDisp1N, wFrz2, wDNewN, gIxN, gInN, wGSN, gLenN, wSeq, wNext, wDrop, wRet, wRetO, wIfS, wSet, wSetD, wFrz, wThenFrz, wAsg, wPar, wPar3, wG, wGnil, wGcons, wGtup, wGS, wApp, wExt, wAugMul, wC, wV, wVR, wOp, wNil, wCons, wStar, wTup, wLst, wB, wAnd, wOr, wNot, wAndV, wOrV, wNotV, wIf, wFor, wIL, wIT, wIR1, wIR2, wIZ, wIE, wIRv, wComp, wComp2, wYes, wCall, argF, wNeg, wChain, gAdd, gSub, gInt, gInt0, gFdiv, gMod, gPow, gMul, gCmp, gLt, gLe, gGt, gGe, gEq, gNe, gIs, gIsNot, isNoneD, gIn, gIx, wNoP, wPart, wCut, gIxD, wKD, gInD, wDNew, wDisp, wPairs, w1, w2, gLen, gSum, gExt, gMax2, gMin2, gAbs, gIntC, gListC, gTupC, gBools, wIsi, wIsi2, wRevS, itemsS, intsOf, asD_d, asD_own, asDs, hideS, wipeS, spD, cDiv, cMod, List.cons_append, List.nil_append, List.length_cons, List.length_nil, List.getElem?_cons_zero, List.getElem?_cons_succ, List.set_cons_zero, List.set_cons_succ, List.replicate, List.sum_cons, List.sum_nil, List.map_cons, List.map_nil, true_and, Bool.false_eq_true, if_false, if_true]
  refine ⟨by omega, compL_pure (p := notMR) (out := kyD) (fun k hk R hR => ?_) ?_⟩
  · have fk : flatD (kyD k) = true := rfl
    simp only [mr_key, fk, wDisp1N, wFrz2, wDNewN, gIxN, gInN, wGSN, gLenN, wSeq, wNext, wDrop, wRet, wRetO, wIfS, wSet, wSetD, wFrz, wThenFrz, wAsg, wPar, wPar3, wG, wGnil, wGcons, wGtup, wGS, wApp, wExt, wAugMul, wC, wV, wVR, wOp, wNil, wCons, wStar, wTup, wLst, wB, wAnd, wOr, wNot, wAndV, wOrV, wNotV, wIf, wFor, wIL, wIT, wIR1, wIR2, wIZ, wIE, wIRv, wComp, wComp2, wYes, wCall, argF, wNeg, wChain, gAdd, gSub, gInt, gInt0, gFdiv, gMod, gPow, gMul, gCmp, gLt, gLe, gGt, gGe, gEq, gNe, gIs, gIsNot, isNoneD, gIn, gIx, wNoP, wPart, wCut, gIxD, wKD, gInD, wDNew, wDisp, wPairs, w1, w2, gLen, gSum, gExt, gMax2, gMin2, gAbs, gIntC, gListC, gTupC, gBools, wIsi, wIsi2, wRevS, itemsS, intsOf, asD_d, asD_own, asDs, hideS, wipeS, spD, cDiv, cMod, List.cons_append, List.nil_append, List.length_cons, List.length_nil, List.getElem?_cons_zero, List.getElem?_cons_succ, List.set_cons_zero, List.set_cons_succ, List.replicate, List.sum_cons, List.sum_nil, List.map_cons, List.map_nil, true_and, Bool.false_eq_true, if_false, if_true]
    refine ⟨by omega, by decide, ?_⟩
    revert hR
    unfold notMR
    cases decide (k = .k_mark ∨ k = .k_recall) <;> exact id
  · have hl := List.length_filter_le notMR r
    have c3 : cutD ((r.filter notMR).map kyD) none (some 3) = ((r.filter notMR).take 3).map kyD := by
      rw [List.map_take]
      exact cut_to (j := 3)
    rw [c3]
    have hl3 : ((r.filter notMR).take 3).length ≤ 3 := by rw [List.length_take]; omega
    have nr : ∀ k ∈ (r.filter notMR).take 3, k ≠ .k_recall := fun k hk e => by
      have := (List.mem_filter.mp (List.mem_of_mem_take hk)).2
      rw [e] at this
      exact absurd this (by decide)
    refine ⟨by omega, by rw [List.length_map]; omega, .k_center :: (r.filter notMR).take 3, w, 1, rfl, by rw [List.length_cons]; omega, ⟨by omega, by omega⟩, ?_⟩
    have hi := center_img nr false w
    have ho := img_one (.k_center :: (r.filter notMR).take 3) true
    have hc : cpM (.k_center :: (r.filter notMR).take 3) w 1 ≤ w := by
      unfold cpM
      rw [ho]
      omega
    exact (if_neg (by rw [decide_eq_true_eq]; omega)).mpr (hN _ _)
theorem wEE {ys : List Spn} {s : Nat} (hr : r.length ≤ 4) (hw : 1 ≤ w ∧ w ≤ 40) (hs : s = min w 12) (hy : ys.length = (imgT r false s).length) (hN : ∀ o12 o13 o14, E.nx [o0, .tp, o2, .d (rowD r), .d (.int w), o5, o6, o7, o8, .d (.int (spansM s).length), .d (.list (ys.map spD)), o11, o12, o13, o14, o15]) :
    blawE E [o0, .tp, o2, .d (rowD r), .d (.int w), o5, o6, o7, o8, .d (.int (spansM s).length), .d (.list (ys.map spD)), o11, o12, o13, o14, o15] := by
  have q24 : sizeLine = 16777216 := by decide
  rw [show blawE = wSeq _ (wSeq _ blawF) from rfl]
  have em : (if 12 < (w : Int) then 12 else (w : Int)) = (s : Int) := by split <;> omega
  have sn := spans_num s
  have e2 : ((s : Int) * ((s : Int) + 1)) / 2 = ((spansM s).length : Int) := by
    have : ((s : Int) * ((s : Int) + 1)) = 2 * ((spansM s).length : Int) := by exact_mod_cast sn.symm
    omega
  have ei := img_one r true
  have ec : cpM r s 1 = (ys.length : Int) := by
    unfold cpM
    rw [ei, hy]
    omega
  have h40 : (2 : Int) < 10 ^ 40 := by decide
  have hm : cMul (s : Int) ((s : Int) + 1) := by unfold cMul; omega
  simp only [em, List.length_map, ok_int, eqv_int, e2, decide_true, Bool.not_true, wDisp1N, wFrz2, wDNewN, gIxN, gInN, wGSN, gLenN, wSeq, wNext, wDrop, wRet, wRetO, wIfS, wSet, wSetD, wFrz, wThenFrz, wAsg, wPar, wPar3, wG, wGnil, wGcons, wGtup, wGS, wApp, wExt, wAugMul, wC, wV, wVR, wOp, wNil, wCons, wStar, wTup, wLst, wB, wAnd, wOr, wNot, wAndV, wOrV, wNotV, wIf, wFor, wIL, wIT, wIR1, wIR2, wIZ, wIE, wIRv, wComp, wComp2, wYes, wCall, argF, wNeg, wChain, gAdd, gSub, gInt, gInt0, gFdiv, gMod, gPow, gMul, gCmp, gLt, gLe, gGt, gGe, gEq, gNe, gIs, gIsNot, isNoneD, gIn, gIx, wNoP, wPart, wCut, gIxD, wKD, gInD, wDNew, wDisp, wPairs, w1, w2, gLen, gSum, gExt, gMax2, gMin2, gAbs, gIntC, gListC, gTupC, gBools, wIsi, wIsi2, wRevS, itemsS, intsOf, asD_d, asD_own, asDs, hideS, wipeS, spD, cDiv, cMod, List.cons_append, List.nil_append, List.length_cons, List.length_nil, List.getElem?_cons_zero, List.getElem?_cons_succ, List.set_cons_zero, List.set_cons_succ, List.replicate, List.sum_cons, List.sum_nil, List.map_cons, List.map_nil, true_and, Bool.false_eq_true, if_false, if_true]
  refine ⟨hm, ⟨by omega, h40⟩, r, s, 1, rfl, by omega, ⟨by omega, by omega⟩, ?_⟩
  simp only [ec, ok_int, eqv_int, decide_true, Bool.not_true, wDisp1N, wFrz2, wDNewN, gIxN, gInN, wGSN, gLenN, wSeq, wNext, wDrop, wRet, wRetO, wIfS, wSet, wSetD, wFrz, wThenFrz, wAsg, wPar, wPar3, wG, wGnil, wGcons, wGtup, wGS, wApp, wExt, wAugMul, wC, wV, wVR, wOp, wNil, wCons, wStar, wTup, wLst, wB, wAnd, wOr, wNot, wAndV, wOrV, wNotV, wIf, wFor, wIL, wIT, wIR1, wIR2, wIZ, wIE, wIRv, wComp, wComp2, wYes, wCall, argF, wNeg, wChain, gAdd, gSub, gInt, gInt0, gFdiv, gMod, gPow, gMul, gCmp, gLt, gLe, gGt, gGe, gEq, gNe, gIs, gIsNot, isNoneD, gIn, gIx, wNoP, wPart, wCut, gIxD, wKD, gInD, wDNew, wDisp, wPairs, w1, w2, gLen, gSum, gExt, gMax2, gMin2, gAbs, gIntC, gListC, gTupC, gBools, wIsi, wIsi2, wRevS, itemsS, intsOf, asD_d, asD_own, asDs, hideS, wipeS, spD, cDiv, cMod, List.cons_append, List.nil_append, List.length_cons, List.length_nil, List.getElem?_cons_zero, List.getElem?_cons_succ, List.set_cons_zero, List.set_cons_succ, List.replicate, List.sum_cons, List.sum_nil, List.map_cons, List.map_nil, true_and, Bool.false_eq_true, if_false, if_true]
  exact wFF hr hw fun _ _ => hN _ _ _
/-- the loop over the ends -/
theorem wDD {ys : List Spn} {s : Nat} (hr : r.length ≤ 4) (hw : 1 ≤ w ∧ w ≤ 40) (hs : s = min w 12) (nd : ys.Nodup) (hm : ∀ y, y ∈ ys ↔ y ∈ (spansM s).map fun x => endM x (rawM r false))
    (hN : ∀ o11 o12 o13 o14, E.nx [o0, .tp, o2, .d (rowD r), .d (.int w), o5, o6, o7, o8, .d (.int (spansM s).length), .d (.list (ys.map spD)), o11, o12, o13, o14, o15]) :
    blawD E [o0, .tp, o2, .d (rowD r), .d (.int w), o5, o6, o7, o8, .d (.int 0), .d (.list (ys.map spD)), o11, o12, o13, o14, o15] := by
  have q24 : sizeLine = 16777216 := by decide
  have h62 : (2 : Int) ^ 62 = 4611686018427387904 := by decide
  rw [show blawD = wSeq _ blawE from rfl]
  have hy : ys.length = (imgT r false s).length := same_len nd (img_nodup _ _ _) fun y => by
    rw [hm, img_mem]
    simp
  have ysn : ys.length ≤ (spansM s).length := by rw [hy]; exact img_le r false s
  have tot := sum_fib (f := fun x => endM x (rawM r false)) (l := spansM s) nd fun x hx => (hm _).mpr (List.mem_map.mpr ⟨x, hx, rfl⟩)
  have okE : ∀ y ∈ ys, y.Ok ∧ y.w = s := fun y hy => by
    obtain ⟨x, hx, rfl⟩ := List.mem_map.mp ((hm y).mp hy)
    obtain ⟨ok, hw⟩ := spans_mem hx
    obtain ⟨ok', hw'⟩ := end_ok ok (rawM r false)
    exact ⟨ok', hw'.trans hw⟩
  have ok1 : Spn.Ok ⟨0, 1, 0⟩ := ⟨by decide, by decide, by decide⟩
  have w1' : (endM ⟨0, 1, 0⟩ (rawM r true)).w = 1 := (end_ok ok1 (rawM r true)).2
  have one : ∀ y ∈ ys, cntM r (y, endM ⟨0, 1, 0⟩ (rawM r true)) = (((spansM s).filter fun x => decide (endM x (rawM r false) = y)).length : Int) := fun y hy => by
    obtain ⟨ok, hw⟩ := okE y hy
    have a : cntT r (y, endM ⟨0, 1, 0⟩ (rawM r true)) false = ((spansM s).filter fun x => decide (endM x (rawM r false) = y)).length := by
      unfold cntT
      show ((spansM y.w.toNat).filter _).length = _
      rw [hw]
      rfl
    have b : cntT r (y, endM ⟨0, 1, 0⟩ (rawM r true)) true = 1 := by
      unfold cntT
      show ((spansM (endM ⟨0, 1, 0⟩ (rawM r true)).w.toNat).filter fun x => decide (endM x (rawM r true) = endM ⟨0, 1, 0⟩ (rawM r true))).length = 1
      rw [w1']
      show ((spansM 1).filter _).length = 1
      rw [spans_one]
      simp
    unfold cntM
    rw [a, b]
    omega
  simp only [List.length_map, wDisp1N, wFrz2, wDNewN, gIxN, gInN, wGSN, gLenN, wSeq, wNext, wDrop, wRet, wRetO, wIfS, wSet, wSetD, wFrz, wThenFrz, wAsg, wPar, wPar3, wG, wGnil, wGcons, wGtup, wGS, wApp, wExt, wAugMul, wC, wV, wVR, wOp, wNil, wCons, wStar, wTup, wLst, wB, wAnd, wOr, wNot, wAndV, wOrV, wNotV, wIf, wFor, wIL, wIT, wIR1, wIR2, wIZ, wIE, wIRv, wComp, wComp2, wYes, wCall, argF, wNeg, wChain, gAdd, gSub, gInt, gInt0, gFdiv, gMod, gPow, gMul, gCmp, gLt, gLe, gGt, gGe, gEq, gNe, gIs, gIsNot, isNoneD, gIn, gIx, wNoP, wPart, wCut, gIxD, wKD, gInD, wDNew, wDisp, wPairs, w1, w2, gLen, gSum, gExt, gMax2, gMin2, gAbs, gIntC, gListC, gTupC, gBools, wIsi, wIsi2, wRevS, itemsS, intsOf, asD_d, asD_own, asDs, hideS, wipeS, spD, cDiv, cMod, List.cons_append, List.nil_append, List.length_cons, List.length_nil, List.getElem?_cons_zero, List.getElem?_cons_succ, List.set_cons_zero, List.set_cons_succ, List.replicate, List.sum_cons, List.sum_nil, List.map_cons, List.map_nil, true_and, Bool.false_eq_true, if_false, if_true]
  refine forL_inv (I := fun rest ρ => ∃ (n : Int) (o11 : SV), ρ = [o0, .tp, o2, .d (rowD r), .d (.int w), o5, o6, o7, o8, .d (.int n), .d (.list (ys.map spD)), o11, o12, o13, o14, o15] ∧ (∀ y ∈ rest, y ∈ ys) ∧
      n + ((rest.map fun y => ((spansM s).filter fun x => decide (endM x (rawM r false) = y)).length).sum : Nat) = ((spansM s).length : Int)) ⟨0, _, rfl, fun y hy => hy, by rw [tot]; omega⟩ ?_ ?_
  · rintro y rest ρ _ ⟨n, o11, rfl, hin, hn⟩ N hN2
    have hy := hin y List.mem_cons_self
    obtain ⟨ok, hw⟩ := okE y hy
    have e1 := one y hy
    rw [List.map_cons, List.sum_cons] at hn
    simp only [wDisp1N, wFrz2, wDNewN, gIxN, gInN, wGSN, gLenN, wSeq, wNext, wDrop, wRet, wRetO, wIfS, wSet, wSetD, wFrz, wThenFrz, wAsg, wPar, wPar3, wG, wGnil, wGcons, wGtup, wGS, wApp, wExt, wAugMul, wC, wV, wVR, wOp, wNil, wCons, wStar, wTup, wLst, wB, wAnd, wOr, wNot, wAndV, wOrV, wNotV, wIf, wFor, wIL, wIT, wIR1, wIR2, wIZ, wIE, wIRv, wComp, wComp2, wYes, wCall, argF, wNeg, wChain, gAdd, gSub, gInt, gInt0, gFdiv, gMod, gPow, gMul, gCmp, gLt, gLe, gGt, gGe, gEq, gNe, gIs, gIsNot, isNoneD, gIn, gIx, wNoP, wPart, wCut, gIxD, wKD, gInD, wDNew, wDisp, wPairs, w1, w2, gLen, gSum, gExt, gMax2, gMin2, gAbs, gIntC, gListC, gTupC, gBools, wIsi, wIsi2, wRevS, itemsS, intsOf, asD_d, asD_own, asDs, hideS, wipeS, spD, cDiv, cMod, List.cons_append, List.nil_append, List.length_cons, List.length_nil, List.getElem?_cons_zero, List.getElem?_cons_succ, List.set_cons_zero, List.set_cons_succ, List.replicate, List.sum_cons, List.sum_nil, List.map_cons, List.map_nil, true_and, Bool.false_eq_true, if_false, if_true]
    refine ⟨by omega, r, true, rfl, by omega, ?_⟩
    simp only [wDisp1N, wFrz2, wDNewN, gIxN, gInN, wGSN, gLenN, wSeq, wNext, wDrop, wRet, wRetO, wIfS, wSet, wSetD, wFrz, wThenFrz, wAsg, wPar, wPar3, wG, wGnil, wGcons, wGtup, wGS, wApp, wExt, wAugMul, wC, wV, wVR, wOp, wNil, wCons, wStar, wTup, wLst, wB, wAnd, wOr, wNot, wAndV, wOrV, wNotV, wIf, wFor, wIL, wIT, wIR1, wIR2, wIZ, wIE, wIRv, wComp, wComp2, wYes, wCall, argF, wNeg, wChain, gAdd, gSub, gInt, gInt0, gFdiv, gMod, gPow, gMul, gCmp, gLt, gLe, gGt, gGe, gEq, gNe, gIs, gIsNot, isNoneD, gIn, gIx, wNoP, wPart, wCut, gIxD, wKD, gInD, wDNew, wDisp, wPairs, w1, w2, gLen, gSum, gExt, gMax2, gMin2, gAbs, gIntC, gListC, gTupC, gBools, wIsi, wIsi2, wRevS, itemsS, intsOf, asD_d, asD_own, asDs, hideS, wipeS, spD, cDiv, cMod, List.cons_append, List.nil_append, List.length_cons, List.length_nil, List.getElem?_cons_zero, List.getElem?_cons_succ, List.set_cons_zero, List.set_cons_succ, List.replicate, List.sum_cons, List.sum_nil, List.map_cons, List.map_nil, true_and, Bool.false_eq_true, if_false, if_true]
    have ok1' := (end_ok ok1 (rawM r true)).1
    have rl : (rawM r true).length = r.length := List.length_map ..
    refine ⟨⟨0, 1, 0⟩, rawM r true, rfl, ok1, by omega, ?_⟩
    simp only [asD_d, List.length_cons, List.length_nil, wDisp1N, wFrz2, wDNewN, gIxN, gInN, wGSN, gLenN, wSeq, wNext, wDrop, wRet, wRetO, wIfS, wSet, wSetD, wFrz, wThenFrz, wAsg, wPar, wPar3, wG, wGnil, wGcons, wGtup, wGS, wApp, wExt, wAugMul, wC, wV, wVR, wOp, wNil, wCons, wStar, wTup, wLst, wB, wAnd, wOr, wNot, wAndV, wOrV, wNotV, wIf, wFor, wIL, wIT, wIR1, wIR2, wIZ, wIE, wIRv, wComp, wComp2, wYes, wCall, argF, wNeg, wChain, gAdd, gSub, gInt, gInt0, gFdiv, gMod, gPow, gMul, gCmp, gLt, gLe, gGt, gGe, gEq, gNe, gIs, gIsNot, isNoneD, gIn, gIx, wNoP, wPart, wCut, gIxD, wKD, gInD, wDNew, wDisp, wPairs, w1, w2, gLen, gSum, gExt, gMax2, gMin2, gAbs, gIntC, gListC, gTupC, gBools, wIsi, wIsi2, wRevS, itemsS, intsOf, asD_d, asD_own, asDs, hideS, wipeS, spD, cDiv, cMod, List.cons_append, List.nil_append, List.length_cons, List.length_nil, List.getElem?_cons_zero, List.getElem?_cons_succ, List.set_cons_zero, List.set_cons_succ, List.replicate, List.sum_cons, List.sum_nil, List.map_cons, List.map_nil, true_and, Bool.false_eq_true, if_false, if_true]
    refine ⟨by omega, r, (y, endM ⟨0, 1, 0⟩ (rawM r true)), rfl, ⟨ok, ok1'⟩, ⟨by rw [hw]; omega, by rw [w1']; omega⟩, by omega, ?_⟩
    simp only [asD_d, e1, wDisp1N, wFrz2, wDNewN, gIxN, gInN, wGSN, gLenN, wSeq, wNext, wDrop, wRet, wRetO, wIfS, wSet, wSetD, wFrz, wThenFrz, wAsg, wPar, wPar3, wG, wGnil, wGcons, wGtup, wGS, wApp, wExt, wAugMul, wC, wV, wVR, wOp, wNil, wCons, wStar, wTup, wLst, wB, wAnd, wOr, wNot, wAndV, wOrV, wNotV, wIf, wFor, wIL, wIT, wIR1, wIR2, wIZ, wIE, wIRv, wComp, wComp2, wYes, wCall, argF, wNeg, wChain, gAdd, gSub, gInt, gInt0, gFdiv, gMod, gPow, gMul, gCmp, gLt, gLe, gGt, gGe, gEq, gNe, gIs, gIsNot, isNoneD, gIn, gIx, wNoP, wPart, wCut, gIxD, wKD, gInD, wDNew, wDisp, wPairs, w1, w2, gLen, gSum, gExt, gMax2, gMin2, gAbs, gIntC, gListC, gTupC, gBools, wIsi, wIsi2, wRevS, itemsS, intsOf, asD_d, asD_own, asDs, hideS, wipeS, spD, cDiv, cMod, List.cons_append, List.nil_append, List.length_cons, List.length_nil, List.getElem?_cons_zero, List.getElem?_cons_succ, List.set_cons_zero, List.set_cons_succ, List.replicate, List.sum_cons, List.sum_nil, List.map_cons, List.map_nil, true_and, Bool.false_eq_true, if_false, if_true]
    exact hN2 _ ⟨_, _, rfl, fun z hz => hin z (List.mem_cons_of_mem _ hz), by omega⟩
  · rintro ρ ⟨n, o11, rfl, _, hn⟩
    have : n = ((spansM s).length : Int) := by simpa using hn
    rw [this]
    exact wEE hr hw hs hy fun _ _ _ => hN _ _ _ _
theorem wCC (hr : r.length ≤ 4) (hw : 1 ≤ w ∧ w ≤ 40) (hN : ∀ o9 o10 o11 o12 o13 o14 o15, E.nx [o0, .tp, o2, .d (rowD r), .d (.int w), o5, o6, o7, o8, o9, o10, o11, o12, o13, o14, o15]) :
    blawC E [o0, .tp, o2, .d (rowD r), .d (.int w), o5, o6, o7, o8, o9, o10, o11, o12, o13, o14, o15] := by
  have q24 : sizeLine = 16777216 := by decide
  obtain ⟨s, hs⟩ : ∃ s, s = min w 12 := ⟨_, rfl⟩
  have em : (if 12 < (w : Int) then 12 else (w : Int)) = (s : Int) := by split <;> omega
  rw [show blawC = wSeq _ (wSeq _ blawD) from rfl]
  have sn := spans_num s
  have sl : (spansM s).length ≤ 100 := by
    have : s * (s + 1) ≤ 12 * 13 := Nat.mul_le_mul (by omega) (by omega)
    omega
  simp only [em, wDisp1N, wFrz2, wDNewN, gIxN, gInN, wGSN, gLenN, wSeq, wNext, wDrop, wRet, wRetO, wIfS, wSet, wSetD, wFrz, wThenFrz, wAsg, wPar, wPar3, wG, wGnil, wGcons, wGtup, wGS, wApp, wExt, wAugMul, wC, wV, wVR, wOp, wNil, wCons, wStar, wTup, wLst, wB, wAnd, wOr, wNot, wAndV, wOrV, wNotV, wIf, wFor, wIL, wIT, wIR1, wIR2, wIZ, wIE, wIRv, wComp, wComp2, wYes, wCall, argF, wNeg, wChain, gAdd, gSub, gInt, gInt0, gFdiv, gMod, gPow, gMul, gCmp, gLt, gLe, gGt, gGe, gEq, gNe, gIs, gIsNot, isNoneD, gIn, gIx, wNoP, wPart, wCut, gIxD, wKD, gInD, wDNew, wDisp, wPairs, w1, w2, gLen, gSum, gExt, gMax2, gMin2, gAbs, gIntC, gListC, gTupC, gBools, wIsi, wIsi2, wRevS, itemsS, intsOf, asD_d, asD_own, asDs, hideS, wipeS, spD, cDiv, cMod, List.cons_append, List.nil_append, List.length_cons, List.length_nil, List.getElem?_cons_zero, List.getElem?_cons_succ, List.set_cons_zero, List.set_cons_succ, List.replicate, List.sum_cons, List.sum_nil, List.map_cons, List.map_nil, true_and, Bool.false_eq_true, if_false, if_true]
  refine ⟨s, by rw [em], by omega, ?_⟩
  simp only [wSortSet, List.length_map, wDisp1N, wFrz2, wDNewN, gIxN, gInN, wGSN, gLenN, wSeq, wNext, wDrop, wRet, wRetO, wIfS, wSet, wSetD, wFrz, wThenFrz, wAsg, wPar, wPar3, wG, wGnil, wGcons, wGtup, wGS, wApp, wExt, wAugMul, wC, wV, wVR, wOp, wNil, wCons, wStar, wTup, wLst, wB, wAnd, wOr, wNot, wAndV, wOrV, wNotV, wIf, wFor, wIL, wIT, wIR1, wIR2, wIZ, wIE, wIRv, wComp, wComp2, wYes, wCall, argF, wNeg, wChain, gAdd, gSub, gInt, gInt0, gFdiv, gMod, gPow, gMul, gCmp, gLt, gLe, gGt, gGe, gEq, gNe, gIs, gIsNot, isNoneD, gIn, gIx, wNoP, wPart, wCut, gIxD, wKD, gInD, wDNew, wDisp, wPairs, w1, w2, gLen, gSum, gExt, gMax2, gMin2, gAbs, gIntC, gListC, gTupC, gBools, wIsi, wIsi2, wRevS, itemsS, intsOf, asD_d, asD_own, asDs, hideS, wipeS, spD, cDiv, cMod, List.cons_append, List.nil_append, List.length_cons, List.length_nil, List.getElem?_cons_zero, List.getElem?_cons_succ, List.set_cons_zero, List.set_cons_succ, List.replicate, List.sum_cons, List.sum_nil, List.map_cons, List.map_nil, true_and, Bool.false_eq_true, if_false, if_true]
  have rl : (rawM r false).length = r.length := List.length_map ..
  refine ⟨by omega, compL_map (out := fun x => spD (endM x (rawM r false))) (fun x hx R hR => ?_) ?_⟩
  · simp only [wDisp1N, wFrz2, wDNewN, gIxN, gInN, wGSN, gLenN, wSeq, wNext, wDrop, wRet, wRetO, wIfS, wSet, wSetD, wFrz, wThenFrz, wAsg, wPar, wPar3, wG, wGnil, wGcons, wGtup, wGS, wApp, wExt, wAugMul, wC, wV, wVR, wOp, wNil, wCons, wStar, wTup, wLst, wB, wAnd, wOr, wNot, wAndV, wOrV, wNotV, wIf, wFor, wIL, wIT, wIR1, wIR2, wIZ, wIE, wIRv, wComp, wComp2, wYes, wCall, argF, wNeg, wChain, gAdd, gSub, gInt, gInt0, gFdiv, gMod, gPow, gMul, gCmp, gLt, gLe, gGt, gGe, gEq, gNe, gIs, gIsNot, isNoneD, gIn, gIx, wNoP, wPart, wCut, gIxD, wKD, gInD, wDNew, wDisp, wPairs, w1, w2, gLen, gSum, gExt, gMax2, gMin2, gAbs, gIntC, gListC, gTupC, gBools, wIsi, wIsi2, wRevS, itemsS, intsOf, asD_d, asD_own, asDs, hideS, wipeS, spD, cDiv, cMod, List.cons_append, List.nil_append, List.length_cons, List.length_nil, List.getElem?_cons_zero, List.getElem?_cons_succ, List.set_cons_zero, List.set_cons_succ, List.replicate, List.sum_cons, List.sum_nil, List.map_cons, List.map_nil, true_and, Bool.false_eq_true, if_false, if_true]
    refine ⟨r, false, rfl, by omega, ?_⟩
    simp only [wDisp1N, wFrz2, wDNewN, gIxN, gInN, wGSN, gLenN, wSeq, wNext, wDrop, wRet, wRetO, wIfS, wSet, wSetD, wFrz, wThenFrz, wAsg, wPar, wPar3, wG, wGnil, wGcons, wGtup, wGS, wApp, wExt, wAugMul, wC, wV, wVR, wOp, wNil, wCons, wStar, wTup, wLst, wB, wAnd, wOr, wNot, wAndV, wOrV, wNotV, wIf, wFor, wIL, wIT, wIR1, wIR2, wIZ, wIE, wIRv, wComp, wComp2, wYes, wCall, argF, wNeg, wChain, gAdd, gSub, gInt, gInt0, gFdiv, gMod, gPow, gMul, gCmp, gLt, gLe, gGt, gGe, gEq, gNe, gIs, gIsNot, isNoneD, gIn, gIx, wNoP, wPart, wCut, gIxD, wKD, gInD, wDNew, wDisp, wPairs, w1, w2, gLen, gSum, gExt, gMax2, gMin2, gAbs, gIntC, gListC, gTupC, gBools, wIsi, wIsi2, wRevS, itemsS, intsOf, asD_d, asD_own, asDs, hideS, wipeS, spD, cDiv, cMod, List.cons_append, List.nil_append, List.length_cons, List.length_nil, List.getElem?_cons_zero, List.getElem?_cons_succ, List.set_cons_zero, List.set_cons_succ, List.replicate, List.sum_cons, List.sum_nil, List.map_cons, List.map_nil, true_and, Bool.false_eq_true, if_false, if_true]
    exact ⟨x, rawM r false, rfl, (spans_mem hx).1, by omega, hR⟩
  · have e : ((spansM s).map fun x => spD (endM x (rawM r false))) = ((spansM s).map fun x => endM x (rawM r false)).map spD := by rw [List.map_map]; rfl
    rw [e]
    refine sortSet_spn (Q := fun sv => blawD E [o0, .tp, o2, .d (rowD r), .d (.int w), o5, o6, o7, o8, .d (.int 0), (match sv with | .own xs => .d (.list xs) | x => x), o11, o12, o13, o14, o15]) (B := 1000) (by rw [List.length_map]; omega) (fun y hy => ?_) fun ys nd hm => ?_
    · obtain ⟨x, hx, rfl⟩ := List.mem_map.mp hy
      obtain ⟨ok, hw'⟩ := spans_mem hx
      obtain ⟨⟨h1, h2, h3⟩, h4⟩ := end_ok ok (rawM r false)
      unfold Spn.w at h4 hw'
      omega
    · exact wDD hr hw hs nd hm fun _ _ _ _ => hN _ _ _ _ _ _ _
/-- counted -/
def evN (n : Nat) : Int := (n : Int) * ((n : Int) + 1) / 2
theorem evN_eq (n : Nat) : evN n = ((spansM n).length : Int) := by
  have sn := spans_num n
  have : ((n : Int) * ((n : Int) + 1)) = 2 * ((spansM n).length : Int) := by exact_mod_cast sn.symm
  unfold evN
  omega
theorem wBB (hr : r.length ≤ 4) (hw : 1 ≤ w ∧ w ≤ 40) (hh : 1 ≤ h ∧ h ≤ 10) (hN : ∀ o9 o10 o11 o12 o13 o14 o15, E.nx [o0, .tp, o2, .d (rowD r), .d (.int w), o5, .d (.int (evN w * evN h)), .d (.int (cpM r w h)), .d (.int (csM r w h)), o9, o10, o11, o12, o13, o14, o15]) :
    blawB E [o0, .tp, o2, .d (rowD r), .d (.int w), o5, .d (.int (evN w * evN h)), .d (.int (cpM r w h)), .d (.int (csM r w h)), o9, o10, o11, o12, o13, o14, o15] := by
  have q24 : sizeLine = 16777216 := by decide
  rw [show blawB = wSeq _ (wSeq _ blawC) from rfl]
  have c1 : 1 ≤ cpM r w h := by
    have a := img_pos r false hw.1
    have b := img_pos r true hh.1
    have := Nat.mul_le_mul a b
    unfold cpM
    rw [Int.one_mul]
    exact_mod_cast this
  have c2 : cpM r w h ≤ evN w * evN h := by
    rw [evN_eq, evN_eq]
    have := Nat.mul_le_mul (img_le r false w) (img_le r true h)
    unfold cpM
    rw [Int.one_mul]
    exact_mod_cast this
  have c3 : 0 ≤ csM r w h := by
    unfold csM
    rw [Int.one_mul]
    exact_mod_cast Nat.zero_le _
  have c4 : csM r w h ≤ cpM r w h := by
    have := Nat.mul_le_mul (st_le r false w) (st_le r true h)
    unfold csM cpM
    rw [Int.one_mul, Int.one_mul]
    exact_mod_cast this
  have c5 : fixR r = true → cpM r w h = 1 := fun hf => by
    unfold fixR at hf
    rw [Bool.and_eq_true] at hf
    unfold cpM
    rw [fix_img hr hw.1 hf.1, fix_img hr hh.1 hf.2]
    rfl
  have c6 : r = [] → cpM r w h = evN w * evN h ∧ csM r w h = evN w * evN h := fun e => by
    subst e
    unfold cpM csM
    rw [img_nil, img_nil, st_nil, st_nil, evN_eq, evN_eq, Int.one_mul]
    exact ⟨rfl, rfl⟩
  generalize cpM r w h = m at c1 c2 c4 c5 c6 hN ⊢
  generalize csM r w h = n at c3 c4 c6 hN ⊢
  generalize evN w * evN h = ev at c2 c6 hN ⊢
  have tail : okEq (rowD r) (.tuple []) = true ∧ if (rowD r).eqv (.tuple []) = true then 0 + 1 + 1 ≤ sizeLine ∧ 0 + 1 + 1 ≤ sizeLine ∧ okEq (.tuple [.int m, .int n]) (.tuple [.int ev, .int ev]) = true ∧
      (if (!(PyData.tuple [.int m, .int n]).eqv (.tuple [.int ev, .int ev])) = true then E.rt (.d (.bool false)) [o0, .tp, o2, .d (rowD r), .d (.int w), o5, .d (.int ev), .d (.int m), .d (.int n), o9, o10, o11, o12, o13, o14, o15]
      else blawC E [o0, .tp, o2, .d (rowD r), .d (.int w), o5, .d (.int ev), .d (.int m), .d (.int n), o9, o10, o11, o12, o13, o14, o15])
    else blawC E [o0, .tp, o2, .d (rowD r), .d (.int w), o5, .d (.int ev), .d (.int m), .d (.int n), o9, o10, o11, o12, o13, o14, o15] := by
    refine ⟨ok_rowN r, ?_⟩
    rw [eqv_rowN]
    by_cases c : r = []
    · obtain ⟨e1, e2⟩ := c6 c
      refine (if_pos (decide_eq_true c)).mpr ⟨by omega, by omega, ok_pair2 _ _ _ _, ?_⟩
      rw [eqv_pair2, decide_eq_true e1, decide_eq_true e2]
      exact (if_neg (by decide)).mpr (wCC hr hw hN)
    · exact (if_neg (by rw [decide_eq_true_eq]; exact c)).mpr (wCC hr hw hN)
  simp only [decide_eq_true c1, decide_eq_true c2, decide_eq_true c3, decide_eq_true c4, Bool.not_true, wDisp1N, wFrz2, wDNewN, gIxN, gInN, wGSN, gLenN, wSeq, wNext, wDrop, wRet, wRetO, wIfS, wSet, wSetD, wFrz, wThenFrz, wAsg, wPar, wPar3, wG, wGnil, wGcons, wGtup, wGS, wApp, wExt, wAugMul, wC, wV, wVR, wOp, wNil, wCons, wStar, wTup, wLst, wB, wAnd, wOr, wNot, wAndV, wOrV, wNotV, wIf, wFor, wIL, wIT, wIR1, wIR2, wIZ, wIE, wIRv, wComp, wComp2, wYes, wCall, argF, wNeg, wChain, gAdd, gSub, gInt, gInt0, gFdiv, gMod, gPow, gMul, gCmp, gLt, gLe, gGt, gGe, gEq, gNe, gIs, gIsNot, isNoneD, gIn, gIx, wNoP, wPart, wCut, gIxD, wKD, gInD, wDNew, wDisp, wPairs, w1, w2, gLen, gSum, gExt, gMax2, gMin2, gAbs, gIntC, gListC, gTupC, gBools, wIsi, wIsi2, wRevS, itemsS, intsOf, asD_d, asD_own, asDs, hideS, wipeS, spD, cDiv, cMod, List.cons_append, List.nil_append, List.length_cons, List.length_nil, List.getElem?_cons_zero, List.getElem?_cons_succ, List.set_cons_zero, List.set_cons_succ, List.replicate, List.sum_cons, List.sum_nil, List.map_cons, List.map_nil, true_and, Bool.false_eq_true, if_false, if_true]
  refine ⟨r, rfl, by omega, ?_⟩
  cases hf : fixR r with
  | false => exact (if_neg (by decide)).mpr ⟨by omega, tail⟩
  | true =>
    have e := c5 hf
    refine (if_pos rfl).mpr ⟨ok_int _ _, ?_⟩
    rw [eqv_int, decide_eq_true e]
    exact (if_neg (by decide)).mpr ⟨by omega, tail⟩
theorem wAA (hr : r.length ≤ 4) (hw : 1 ≤ w ∧ w ≤ 40) (hh : 1 ≤ h ∧ h ≤ 10) (hN : ∀ o6 o7 o8 o9 o10 o11 o12 o13 o14 o15, E.nx [o0, .tp, o2, .d (rowD r), .d (.int w), .d (.int h), o6, o7, o8, o9, o10, o11, o12, o13, o14, o15]) :
    blawA E [o0, .tp, o2, .d (rowD r), .d (.int w), .d (.int h), o6, o7, o8, o9, o10, o11, o12, o13, o14, o15] := by
  have q24 : sizeLine = 16777216 := by decide
  rw [show blawA = wSeq _ (wSeq _ blawB) from rfl]
  have h40 : (2 : Int) < 10 ^ 40 := by decide
  have m1 : cMul (w : Int) ((w : Int) + 1) := by unfold cMul; omega
  have m2 : cMul (h : Int) ((h : Int) + 1) := by unfold cMul; omega
  have l1 : (spansM w).length ≤ 1600 := Nat.le_trans (spans_len w) (Nat.mul_le_mul hw.2 hw.2)
  have m3 : cMul (evN w) (evN h) := by
    have := evN_eq w
    unfold cMul
    omega
  simp only [wDisp1N, wFrz2, wDNewN, gIxN, gInN, wGSN, gLenN, wSeq, wNext, wDrop, wRet, wRetO, wIfS, wSet, wSetD, wFrz, wThenFrz, wAsg, wPar, wPar3, wG, wGnil, wGcons, wGtup, wGS, wApp, wExt, wAugMul, wC, wV, wVR, wOp, wNil, wCons, wStar, wTup, wLst, wB, wAnd, wOr, wNot, wAndV, wOrV, wNotV, wIf, wFor, wIL, wIT, wIR1, wIR2, wIZ, wIE, wIRv, wComp, wComp2, wYes, wCall, argF, wNeg, wChain, gAdd, gSub, gInt, gInt0, gFdiv, gMod, gPow, gMul, gCmp, gLt, gLe, gGt, gGe, gEq, gNe, gIs, gIsNot, isNoneD, gIn, gIx, wNoP, wPart, wCut, gIxD, wKD, gInD, wDNew, wDisp, wPairs, w1, w2, gLen, gSum, gExt, gMax2, gMin2, gAbs, gIntC, gListC, gTupC, gBools, wIsi, wIsi2, wRevS, itemsS, intsOf, asD_d, asD_own, asDs, hideS, wipeS, spD, cDiv, cMod, List.cons_append, List.nil_append, List.length_cons, List.length_nil, List.getElem?_cons_zero, List.getElem?_cons_succ, List.set_cons_zero, List.set_cons_succ, List.replicate, List.sum_cons, List.sum_nil, List.map_cons, List.map_nil, true_and, Bool.false_eq_true, if_false, if_true]
  refine ⟨m1, ⟨by omega, h40⟩, m2, ⟨by omega, h40⟩, m3, r, w, h, rfl, by omega, ⟨by omega, by omega⟩, r, w, h, rfl, by omega, ⟨by omega, by omega⟩, ?_⟩
  exact wBB hr hw hh fun _ _ _ _ _ _ _ => hN _ _ _ _ _ _ _ _ _ _
end
theorem wlaw : ∀ ns : List Int, ns.length ≤ 63 → blaw0 { nx := fun ρ' => ∃ cells u v, ρ'[1]? = some (.own (tapeD cells u v)) ∧ blaw { nx := fun _ => False, rt := fun sv _ => sv = .d (.bool true) } (ρ'.set 1 .tp), rt := fun _ _ => False }
      (.d (.list (ns.map .int)) :: List.replicate (16 - 1) .no) := by
  intro ns _
  have q24 : sizeLine = 16777216 := by decide
  have h40 : (1000 : Int) < 10 ^ 40 := by decide
  simp only [blaw0, wDisp1N, wFrz2, wDNewN, gIxN, gInN, wGSN, gLenN, wSeq, wNext, wDrop, wRet, wRetO, wIfS, wSet, wSetD, wFrz, wThenFrz, wAsg, wPar, wPar3, wG, wGnil, wGcons, wGtup, wGS, wApp, wExt, wAugMul, wC, wV, wVR, wOp, wNil, wCons, wStar, wTup, wLst, wB, wAnd, wOr, wNot, wAndV, wOrV, wNotV, wIf, wFor, wIL, wIT, wIR1, wIR2, wIZ, wIE, wIRv, wComp, wComp2, wYes, wCall, argF, wNeg, wChain, gAdd, gSub, gInt, gInt0, gFdiv, gMod, gPow, gMul, gCmp, gLt, gLe, gGt, gGe, gEq, gNe, gIs, gIsNot, isNoneD, gIn, gIx, wNoP, wPart, wCut, gIxD, wKD, gInD, wDNew, wDisp, wPairs, w1, w2, gLen, gSum, gExt, gMax2, gMin2, gAbs, gIntC, gListC, gTupC, gBools, wIsi, wIsi2, wRevS, itemsS, intsOf, asD_d, asD_own, asDs, hideS, wipeS, spD, cDiv, cMod, List.cons_append, List.nil_append, List.length_cons, List.length_nil, List.getElem?_cons_zero, List.getElem?_cons_succ, List.set_cons_zero, List.set_cons_succ, List.replicate, List.sum_cons, List.sum_nil, List.map_cons, List.map_nil, true_and, Bool.false_eq_true, if_false, if_true]
  refine ⟨by omega, ns, 0, 0, rfl, ?_⟩
  rw [show blaw = wSeq (wFor _ _ (wSeq _ blawA)) _ from rfl]
  simp only [wDisp1N, wFrz2, wDNewN, gIxN, gInN, wGSN, gLenN, wSeq, wNext, wDrop, wRet, wRetO, wIfS, wSet, wSetD, wFrz, wThenFrz, wAsg, wPar, wPar3, wG, wGnil, wGcons, wGtup, wGS, wApp, wExt, wAugMul, wC, wV, wVR, wOp, wNil, wCons, wStar, wTup, wLst, wB, wAnd, wOr, wNot, wAndV, wOrV, wNotV, wIf, wFor, wIL, wIT, wIR1, wIR2, wIZ, wIE, wIRv, wComp, wComp2, wYes, wCall, argF, wNeg, wChain, gAdd, gSub, gInt, gInt0, gFdiv, gMod, gPow, gMul, gCmp, gLt, gLe, gGt, gGe, gEq, gNe, gIs, gIsNot, isNoneD, gIn, gIx, wNoP, wPart, wCut, gIxD, wKD, gInD, wDNew, wDisp, wPairs, w1, w2, gLen, gSum, gExt, gMax2, gMin2, gAbs, gIntC, gListC, gTupC, gBools, wIsi, wIsi2, wRevS, itemsS, intsOf, asD_d, asD_own, asDs, hideS, wipeS, spD, cDiv, cMod, List.cons_append, List.nil_append, List.length_cons, List.length_nil, List.getElem?_cons_zero, List.getElem?_cons_succ, List.set_cons_zero, List.set_cons_succ, List.replicate, List.sum_cons, List.sum_nil, List.map_cons, List.map_nil, true_and, Bool.false_eq_true, if_false, if_true]
  refine ⟨by decide, ?_⟩
  refine forL_inv (I := fun _ ρ => ∃ o0 o2 o3 o4 o5 o6 o7 o8 o9 o10 o11 o12 o13 o14 o15 : SV, ρ = [o0, .tp, o2, o3, o4, o5, o6, o7, o8, o9, o10, o11, o12, o13, o14, o15]) ⟨_, _, _, _, _, _, _, _, _, _, _, _, _, _, _, rfl⟩ ?_ ?_
  · rintro i _ ρ _ ⟨o0, o2, o3, o4, o5, o6, o7, o8, o9, o10, o11, o12, o13, o14, o15, rfl⟩ N hN
    simp only [wDisp1N, wFrz2, wDNewN, gIxN, gInN, wGSN, gLenN, wSeq, wNext, wDrop, wRet, wRetO, wIfS, wSet, wSetD, wFrz, wThenFrz, wAsg, wPar, wPar3, wG, wGnil, wGcons, wGtup, wGS, wApp, wExt, wAugMul, wC, wV, wVR, wOp, wNil, wCons, wStar, wTup, wLst, wB, wAnd, wOr, wNot, wAndV, wOrV, wNotV, wIf, wFor, wIL, wIT, wIR1, wIR2, wIZ, wIE, wIRv, wComp, wComp2, wYes, wCall, argF, wNeg, wChain, gAdd, gSub, gInt, gInt0, gFdiv, gMod, gPow, gMul, gCmp, gLt, gLe, gGt, gGe, gEq, gNe, gIs, gIsNot, isNoneD, gIn, gIx, wNoP, wPart, wCut, gIxD, wKD, gInD, wDNew, wDisp, wPairs, w1, w2, gLen, gSum, gExt, gMax2, gMin2, gAbs, gIntC, gListC, gTupC, gBools, wIsi, wIsi2, wRevS, itemsS, intsOf, asD_d, asD_own, asDs, hideS, wipeS, spD, cDiv, cMod, List.cons_append, List.nil_append, List.length_cons, List.length_nil, List.getElem?_cons_zero, List.getElem?_cons_succ, List.set_cons_zero, List.set_cons_succ, List.replicate, List.sum_cons, List.sum_nil, List.map_cons, List.map_nil, true_and, Bool.false_eq_true, if_false, if_true]
    refine ⟨4, rfl, by omega, fun r hr => ?_⟩
    refine ⟨40, rfl, ⟨by omega, by omega⟩, fun a a0 a1 => ?_⟩
    simp only [asD_d, wDisp1N, wFrz2, wDNewN, gIxN, gInN, wGSN, gLenN, wSeq, wNext, wDrop, wRet, wRetO, wIfS, wSet, wSetD, wFrz, wThenFrz, wAsg, wPar, wPar3, wG, wGnil, wGcons, wGtup, wGS, wApp, wExt, wAugMul, wC, wV, wVR, wOp, wNil, wCons, wStar, wTup, wLst, wB, wAnd, wOr, wNot, wAndV, wOrV, wNotV, wIf, wFor, wIL, wIT, wIR1, wIR2, wIZ, wIE, wIRv, wComp, wComp2, wYes, wCall, argF, wNeg, wChain, gAdd, gSub, gInt, gInt0, gFdiv, gMod, gPow, gMul, gCmp, gLt, gLe, gGt, gGe, gEq, gNe, gIs, gIsNot, isNoneD, gIn, gIx, wNoP, wPart, wCut, gIxD, wKD, gInD, wDNew, wDisp, wPairs, w1, w2, gLen, gSum, gExt, gMax2, gMin2, gAbs, gIntC, gListC, gTupC, gBools, wIsi, wIsi2, wRevS, itemsS, intsOf, asD_d, asD_own, asDs, hideS, wipeS, spD, cDiv, cMod, List.cons_append, List.nil_append, List.length_cons, List.length_nil, List.getElem?_cons_zero, List.getElem?_cons_succ, List.set_cons_zero, List.set_cons_succ, List.replicate, List.sum_cons, List.sum_nil, List.map_cons, List.map_nil, true_and, Bool.false_eq_true, if_false, if_true]
    refine ⟨10, rfl, ⟨by omega, by omega⟩, fun b b0 b1 => ?_⟩
    obtain ⟨w, ew⟩ : ∃ w : Nat, 1 + a = (w : Int) := ⟨(1 + a).toNat, by omega⟩
    obtain ⟨h, eh⟩ : ∃ h : Nat, 1 + b = (h : Int) := ⟨(1 + b).toNat, by omega⟩
    simp only [asD_d, ew, eh, List.length_cons, List.length_nil, wDisp1N, wFrz2, wDNewN, gIxN, gInN, wGSN, gLenN, wSeq, wNext, wDrop, wRet, wRetO, wIfS, wSet, wSetD, wFrz, wThenFrz, wAsg, wPar, wPar3, wG, wGnil, wGcons, wGtup, wGS, wApp, wExt, wAugMul, wC, wV, wVR, wOp, wNil, wCons, wStar, wTup, wLst, wB, wAnd, wOr, wNot, wAndV, wOrV, wNotV, wIf, wFor, wIL, wIT, wIR1, wIR2, wIZ, wIE, wIRv, wComp, wComp2, wYes, wCall, argF, wNeg, wChain, gAdd, gSub, gInt, gInt0, gFdiv, gMod, gPow, gMul, gCmp, gLt, gLe, gGt, gGe, gEq, gNe, gIs, gIsNot, isNoneD, gIn, gIx, wNoP, wPart, wCut, gIxD, wKD, gInD, wDNew, wDisp, wPairs, w1, w2, gLen, gSum, gExt, gMax2, gMin2, gAbs, gIntC, gListC, gTupC, gBools, wIsi, wIsi2, wRevS, itemsS, intsOf, asD_d, asD_own, asDs, hideS, wipeS, spD, cDiv, cMod, List.cons_append, List.nil_append, List.length_cons, List.length_nil, List.getElem?_cons_zero, List.getElem?_cons_succ, List.set_cons_zero, List.set_cons_succ, List.replicate, List.sum_cons, List.sum_nil, List.map_cons, List.map_nil, true_and, Bool.false_eq_true, if_false, if_true]
    refine ⟨by omega, ?_⟩
    exact wAA hr ⟨by omega, by omega⟩ ⟨by omega, by omega⟩ fun _ _ _ _ _ _ _ _ _ _ => hN _ ⟨_, _, _, _, _, _, _, _, _, _, _, _, _, _, _, rfl⟩
  · rintro ρ ⟨o0, o2, o3, o4, o5, o6, o7, o8, o9, o10, o11, o12, o13, o14, o15, rfl⟩
    simp only [wDisp1N, wFrz2, wDNewN, gIxN, gInN, wGSN, gLenN, wSeq, wNext, wDrop, wRet, wRetO, wIfS, wSet, wSetD, wFrz, wThenFrz, wAsg, wPar, wPar3, wG, wGnil, wGcons, wGtup, wGS, wApp, wExt, wAugMul, wC, wV, wVR, wOp, wNil, wCons, wStar, wTup, wLst, wB, wAnd, wOr, wNot, wAndV, wOrV, wNotV, wIf, wFor, wIL, wIT, wIR1, wIR2, wIZ, wIE, wIRv, wComp, wComp2, wYes, wCall, argF, wNeg, wChain, gAdd, gSub, gInt, gInt0, gFdiv, gMod, gPow, gMul, gCmp, gLt, gLe, gGt, gGe, gEq, gNe, gIs, gIsNot, isNoneD, gIn, gIx, wNoP, wPart, wCut, gIxD, wKD, gInD, wDNew, wDisp, wPairs, w1, w2, gLen, gSum, gExt, gMax2, gMin2, gAbs, gIntC, gListC, gTupC, gBools, wIsi, wIsi2, wRevS, itemsS, intsOf, asD_d, asD_own, asDs, hideS, wipeS, spD, cDiv, cMod, List.cons_append, List.nil_append, List.length_cons, List.length_nil, List.getElem?_cons_zero, List.getElem?_cons_succ, List.set_cons_zero, List.set_cons_succ, List.replicate, List.sum_cons, List.sum_nil, List.map_cons, List.map_nil, true_and, Bool.false_eq_true, if_false, if_true]
    refine ⟨by omega, [.k_left], 20, 20, rfl, by decide, ⟨by decide, by decide⟩, ?_⟩
    have e1 : cpM [.k_left] 20 20 = 1 := by
      unfold cpM
      rw [fix_img (by decide) (by decide) (by decide +kernel), fix_img (by decide) (by decide) (by decide +kernel)]
      rfl
    have e2 : csM [] 20 20 = 210 * 210 := by
      unfold csM
      have := spans_num 20
      rw [st_nil, st_nil]
      have : (spansM 20).length = 210 := by omega
      rw [this]
      rfl
    simp only [asD_d, e1, ok_int, eqv_int, decide_true, wDisp1N, wFrz2, wDNewN, gIxN, gInN, wGSN, gLenN, wSeq, wNext, wDrop, wRet, wRetO, wIfS, wSet, wSetD, wFrz, wThenFrz, wAsg, wPar, wPar3, wG, wGnil, wGcons, wGtup, wGS, wApp, wExt, wAugMul, wC, wV, wVR, wOp, wNil, wCons, wStar, wTup, wLst, wB, wAnd, wOr, wNot, wAndV, wOrV, wNotV, wIf, wFor, wIL, wIT, wIR1, wIR2, wIZ, wIE, wIRv, wComp, wComp2, wYes, wCall, argF, wNeg, wChain, gAdd, gSub, gInt, gInt0, gFdiv, gMod, gPow, gMul, gCmp, gLt, gLe, gGt, gGe, gEq, gNe, gIs, gIsNot, isNoneD, gIn, gIx, wNoP, wPart, wCut, gIxD, wKD, gInD, wDNew, wDisp, wPairs, w1, w2, gLen, gSum, gExt, gMax2, gMin2, gAbs, gIntC, gListC, gTupC, gBools, wIsi, wIsi2, wRevS, itemsS, intsOf, asD_d, asD_own, asDs, hideS, wipeS, spD, cDiv, cMod, List.cons_append, List.nil_append, List.length_cons, List.length_nil, List.getElem?_cons_zero, List.getElem?_cons_succ, List.set_cons_zero, List.set_cons_succ, List.replicate, List.sum_cons, List.sum_nil, List.map_cons, List.map_nil, true_and, Bool.false_eq_true, if_false, if_true]
    refine ⟨by omega, [], 20, 20, rfl, by decide, ⟨by decide, by decide⟩, by unfold cMul; omega, ?_⟩
    simp only [asD_d, e2, ok_int, eqv_int, decide_true, wDisp1N, wFrz2, wDNewN, gIxN, gInN, wGSN, gLenN, wSeq, wNext, wDrop, wRet, wRetO, wIfS, wSet, wSetD, wFrz, wThenFrz, wAsg, wPar, wPar3, wG, wGnil, wGcons, wGtup, wGS, wApp, wExt, wAugMul, wC, wV, wVR, wOp, wNil, wCons, wStar, wTup, wLst, wB, wAnd, wOr, wNot, wAndV, wOrV, wNotV, wIf, wFor, wIL, wIT, wIR1, wIR2, wIZ, wIE, wIRv, wComp, wComp2, wYes, wCall, argF, wNeg, wChain, gAdd, gSub, gInt, gInt0, gFdiv, gMod, gPow, gMul, gCmp, gLt, gLe, gGt, gGe, gEq, gNe, gIs, gIsNot, isNoneD, gIn, gIx, wNoP, wPart, wCut, gIxD, wKD, gInD, wDNew, wDisp, wPairs, w1, w2, gLen, gSum, gExt, gMax2, gMin2, gAbs, gIntC, gListC, gTupC, gBools, wIsi, wIsi2, wRevS, itemsS, intsOf, asD_d, asD_own, asDs, hideS, wipeS, spD, cDiv, cMod, List.cons_append, List.nil_append, List.length_cons, List.length_nil, List.getElem?_cons_zero, List.getElem?_cons_succ, List.set_cons_zero, List.set_cons_succ, List.replicate, List.sum_cons, List.sum_nil, List.map_cons, List.map_nil, true_and, Bool.false_eq_true, if_false, if_true]
end Z


namespace Z
open PySem PySem.Spec PyProof.Rows L2
section
def topS (i : Nat) : Stmt := PySem.Challenge.pw_windowkeys_k24_whole_places_counted_on_g.main.body.getD i (.Pass ⟨0, 0, 0, 0⟩)
structure Bts (mg : Str → Option Value) : Prop where
  len : mg "len" = none
  sum : mg "sum" = none
  max : mg "max" = none
  min : mg "min" = none
  range : mg "range" = none
  sorted : mg "sorted" = none
  int : mg "int" = none
  list : mg "list" = none
  tuple : mg "tuple" = none
  reversed : mg "reversed" = none
  all : mg "all" = none
  set : mg "set" = none
structure Kcs (K : Kx) (mg : Str → Option Value) : Prop where
  gENOUGH : (∃ u, mg "ENOUGH" = some u ∧ RelV (.int 28) u)
  gMOVES : (∃ d, mg "MOVES" = some (.ref d) ∧ KMap K d kMOVES ∧ KSrt K d (["down", "east", "full", "center", "left", "mark", "narrow", "ne", "north", "nw", "recall", "right", "se", "short", "south", "sw", "tall", "up", "west", "wide"] : List Str))
variable {P : Program} {w : World} {K : PySem.W.Frag} {mg : Str → Option Value} {base : Heap}
theorem sc_law_draw : FnScope ["tape", "many", "prime", "found", "cell"] ["tape", "many"] (C8.fnScope (topS 22)) := ⟨rfl, rfl, rfl, by decide +kernel, rfl, by decide +kernel, by decide +kernel⟩
theorem d_law_draw (BT : Bts mg) (KC : Kcs ⟨K, P, w⟩ mg)  {f : Addr} {fd : FuncData} (F : C8.Def K mg "_law_draw" (topS 22) f fd) (bn : L2.Binds K fd ["tape", "many"] []) : CalQ P w K mg base 1 "_law_draw" φ_law_draw := by
  refine cal_tape F bn sc_law_draw l_law_draw w_law_draw fun cdv A outer s H E hr => ?_
  have nd := (sc_law_draw).nd
  exact (qs_cons (q_setD (show (2 : Nat) < 5 by decide) (ps_set (i := 2) nd rfl (Or.inl rfl) q_int)) (qs_cons (q_ifS (qt_lt (q_at (r_var 0 (pv 0)) q_int (fun _ _ => rfl)) (q_var 1 (pv 1))) (qs_cons (q_setD (show (4 : Nat) < 5 by decide) (ps_set (i := 4) nd rfl (Or.inl rfl) q_int)) (qs_cons (q_ifS (qt_gt (q_len rfl BT.len (r_of (q_at (r_var 0 (pv 0)) q_int (fun _ _ => rfl)))) q_int) (qs_one (q_setD (show (4 : Nat) < 5 by decide) (ps_set (i := 4) nd rfl (Or.inl rfl) (q_at (r_of (q_at (r_var 0 (pv 0)) q_int (fun _ _ => rfl))) (q_mod (q_intC rfl BT.int (r_of (q_at (r_var 0 (pv 0)) q_int (fun _ _ => rfl)))) (q_len rfl BT.len (r_of (q_at (r_var 0 (pv 0)) q_int (fun _ _ => rfl))))) (fun _ _ => rfl))))) qs_nil) (qs_cons (q_ifS (qw_pt (qw_or (qt_ge (q_at (r_var 0 (pv 0)) q_int (fun _ _ => rfl)) (q_len rfl BT.len (r_of (q_at (r_var 0 (pv 0)) q_int (fun _ _ => rfl))))) (qw_or1 (qt_lt (q_var 4 (pv 4)) (q_pow q_int q_int))))) (qs_cons (q_setD (show (4 : Nat) < 5 by decide) (ps_set (i := 4) nd rfl (Or.inl rfl) (q_mod (q_intC rfl BT.int (r_of (q_add (q_var 4 (pv 4)) (q_mul q_int (q_at (r_var 0 (pv 0)) q_int (fun _ _ => rfl)))))) (q_var 2 (pv 2))))) (qs_cons (q_setD (show (4 : Nat) < 5 by decide) (ps_set (i := 4) nd rfl (Or.inl rfl) (q_mod (q_intC rfl BT.int (r_of (q_add (q_add (q_mul (q_var 4 (pv 4)) (q_var 4 (pv 4))) (q_mul q_int (q_var 4 (pv 4)))) q_int))) (q_var 2 (pv 2))))) (qs_one (q_setD (show (4 : Nat) < 5 by decide) (ps_set (i := 4) nd rfl (Or.inl rfl) (q_mod (q_intC rfl BT.int (r_of (q_add (q_mul (q_var 4 (pv 4)) (q_var 4 (pv 4))) q_int))) (q_var 2 (pv 2)))))))) qs_nil) (qs_cons (q_asg (q_add (q_at (r_var 0 (pv 0)) q_int (fun _ _ => rfl)) q_int) (qg_sub 0 hr (pv 0) q_int)) (qs_one (q_asg (q_var 4 (pv 4)) (qg_sub 0 hr (pv 0) q_int))))))) qs_nil) (qs_cons (q_setD (show (3 : Nat) < 5 by decide) (ps_set (i := 3) nd rfl (Or.inl rfl) (q_mod (q_intC rfl BT.int (r_of (q_at (r_var 0 (pv 0)) q_int (fun _ _ => rfl)))) (q_var 1 (pv 1))))) (qs_cons (q_asg (q_fdiv (q_at (r_var 0 (pv 0)) q_int (fun _ _ => rfl)) (q_var 1 (pv 1))) (qg_sub 0 hr (pv 0) q_int)) (qs_one (q_ret (q_var 3 (pv 3))))))))

theorem sc_law_both : FnScope ["found"] [] (C8.fnScope (topS 23)) := ⟨rfl, rfl, rfl, by decide +kernel, rfl, by decide +kernel, by decide +kernel⟩
theorem d_law_both (BT : Bts mg) (KC : Kcs ⟨K, P, w⟩ mg)  {f : Addr} {fd : FuncData} (F : C8.Def K mg "_law_both" (topS 23) f fd) (bn : L2.Binds K fd [] []) : CalQ P w K mg base 1 "_law_both" φ_law_both := by
  refine cal_of F bn sc_law_both l_law_both w_law_both fun cdv A outer s H E hr => ?_
  have nd := (sc_law_both).nd
  exact (qs_cons (q_set (show (0 : Nat) < 1 by decide) (ps_set (i := 0) nd rfl (Or.inl rfl) (q_disp (qps_cons q_str (q_tup (qa_cons q_str (qa_cons q_str qa_nil))) (qps_cons q_str (q_tup (qa_cons q_str (qa_cons q_str qa_nil))) qps_nil))))) (qs_cons (q_asg (q_tup (qa_cons (q_tup (qa_cons q_str (qa_cons q_str qa_nil))) (qa_cons (q_tup (qa_cons q_str (qa_cons q_str qa_nil))) qa_nil))) (qg_tup (n := 2) rfl (qgs_cons (qg_sub 0 hr (pv 0) q_str) (qgs_cons (qg_sub 0 hr (pv 0) q_str) (qgs_nil (ws := [])))))) (qs_cons (q_asg (q_tup (qa_cons (q_tup (qa_cons q_str (qa_cons q_str qa_nil))) (qa_cons (q_tup (qa_cons q_str (qa_cons q_str qa_nil))) (qa_cons (q_tup (qa_cons q_str (qa_cons q_str qa_nil))) qa_nil)))) (qg_tup (n := 3) rfl (qgs_cons (qg_sub 0 hr (pv 0) q_str) (qgs_cons (qg_sub 0 hr (pv 0) q_str) (qgs_cons (qg_sub 0 hr (pv 0) q_str) (qgs_nil (ws := []))))))) (qs_cons (q_asg (q_tup (qa_cons (q_tup (qa_cons q_str (qa_cons q_str qa_nil))) (qa_cons (q_tup (qa_cons q_str (qa_cons q_str qa_nil))) (qa_cons (q_tup (qa_cons q_str (qa_cons q_str qa_nil))) qa_nil)))) (qg_tup (n := 3) rfl (qgs_cons (qg_sub 0 hr (pv 0) q_str) (qgs_cons (qg_sub 0 hr (pv 0) q_str) (qgs_cons (qg_sub 0 hr (pv 0) q_str) (qgs_nil (ws := []))))))) (qs_cons (q_asg (q_tup (qa_cons (q_tup (qa_cons q_str (qa_cons q_str qa_nil))) (qa_cons (q_tup (qa_cons q_str (qa_cons q_str qa_nil))) (qa_cons (q_tup (qa_cons q_str (qa_cons q_str qa_nil))) (qa_cons (q_tup (qa_cons q_str (qa_cons q_str qa_nil))) qa_nil))))) (qg_tup (n := 4) rfl (qgs_cons (qg_sub 0 hr (pv 0) q_str) (qgs_cons (qg_sub 0 hr (pv 0) q_str) (qgs_cons (qg_sub 0 hr (pv 0) q_str) (qgs_cons (qg_sub 0 hr (pv 0) q_str) (qgs_nil (ws := [])))))))) (qs_cons (q_asg (q_tup (qa_cons (q_tup (qa_cons q_str (qa_cons q_str qa_nil))) (qa_cons (q_tup (qa_cons q_str (qa_cons q_str qa_nil))) (qa_cons (q_tup (qa_cons q_str (qa_cons q_str qa_nil))) (qa_cons (q_tup (qa_cons q_str (qa_cons q_str qa_nil))) qa_nil))))) (qg_tup (n := 4) rfl (qgs_cons (qg_sub 0 hr (pv 0) q_str) (qgs_cons (qg_sub 0 hr (pv 0) q_str) (qgs_cons (qg_sub 0 hr (pv 0) q_str) (qgs_cons (qg_sub 0 hr (pv 0) q_str) (qgs_nil (ws := [])))))))) (qs_cons (q_asg (q_tup (qa_cons (q_tup (qa_cons q_str (qa_cons q_str qa_nil))) (qa_cons (q_tup (qa_cons q_str (qa_cons q_str qa_nil))) qa_nil))) (qg_tup (n := 2) rfl (qgs_cons (qg_sub 0 hr (pv 0) q_str) (qgs_cons (qg_sub 0 hr (pv 0) q_str) (qgs_nil (ws := [])))))) (qs_one (q_retO 0 (pv 0))))))))))

theorem sc_law_key : FnScope ["tape", "some"] ["tape"] (C8.fnScope (topS 24)) := ⟨rfl, rfl, rfl, by decide +kernel, rfl, by decide +kernel, by decide +kernel⟩
theorem d_law_key (BT : Bts mg) (KC : Kcs ⟨K, P, w⟩ mg) (c_law_both : CalQ P w K mg base 1 "_law_both" φ_law_both) (c_law_draw : CalQ P w K mg base 1 "_law_draw" φ_law_draw) {f : Addr} {fd : FuncData} (F : C8.Def K mg "_law_key" (topS 24) f fd) (bn : L2.Binds K fd ["tape"] []) : CalQ P w K mg base 2 "_law_key" φ_law_key := by
  refine cal_of F bn sc_law_key l_law_key w_law_key fun cdv A outer s H E hr => ?_
  have nd := (sc_law_key).nd
  exact (qs_cons (q_setD (show (1 : Nat) < 2 by decide) (ps_set (i := 1) nd rfl (Or.inl rfl) (q_sorted rfl rfl BT.sorted (r_of (q_call0 c_law_both hr (by decide) rfl))))) (qs_one (q_ret (q_at (r_of (q_var 1 (pv 1))) (q_call c_law_draw hr (by decide) rfl (qa_cons (q_var 0 (pv 0)) (qa_cons q_int qa_nil))) (fun _ _ => rfl)))))

theorem sc_law_row : FnScope ["tape", "most", "found", "turn"] ["tape", "most"] (C8.fnScope (topS 25)) := ⟨rfl, rfl, rfl, by decide +kernel, rfl, by decide +kernel, by decide +kernel⟩
theorem d_law_row (BT : Bts mg) (KC : Kcs ⟨K, P, w⟩ mg) (c_law_draw : CalQ P w K mg base 1 "_law_draw" φ_law_draw) (c_law_key : CalQ P w K mg base 2 "_law_key" φ_law_key) {f : Addr} {fd : FuncData} (F : C8.Def K mg "_law_row" (topS 25) f fd) (bn : L2.Binds K fd ["tape", "most"] []) : CalQ P w K mg base 3 "_law_row" φ_law_row := by
  refine cal_of F bn sc_law_row l_law_row w_law_row fun cdv A outer s H E hr => ?_
  have nd := (sc_law_row).nd
  exact (qs_cons (q_setD (show (2 : Nat) < 4 by decide) (ps_set (i := 2) nd rfl (Or.inl rfl) (q_tup qa_nil))) (qs_cons (q_for PassesOwn.never rfl (qi_range1 rfl BT.range (qa_cons (q_call c_law_draw hr (by decide) rfl (qa_cons (q_var 0 (pv 0)) (qa_cons (q_add (q_var 1 (pv 1)) q_int) qa_nil))) qa_nil)) (qg_name (show (3 : Nat) < 4 by decide) (pg_name (i := 3) nd rfl (Or.inl rfl))) (qs_one (q_setD (show (2 : Nat) < 4 by decide) (ps_set (i := 2) nd rfl (Or.inl rfl) (q_add (q_var 2 (pv 2)) (q_tup (qa_cons (q_call c_law_key hr (by decide) rfl (qa_cons (q_var 0 (pv 0)) qa_nil)) qa_nil))))))) (qs_one (q_ret (q_var 2 (pv 2))))))

theorem scspans_of : FnScope ["width", "ahead", "size"] ["width"] (C8.fnScope (topS 10)) := ⟨rfl, rfl, rfl, by decide +kernel, rfl, by decide +kernel, by decide +kernel⟩
theorem dspans_of (BT : Bts mg) (KC : Kcs ⟨K, P, w⟩ mg)  {f : Addr} {fd : FuncData} (F : C8.Def K mg "spans_of" (topS 10) f fd) (bn : L2.Binds K fd ["width"] []) : CalQ P w K mg base 1 "spans_of" φspans_of := by
  refine cal_of F bn scspans_of lspans_of wspans_of fun cdv A outer s H E hr => ?_
  have nd := (scspans_of).nd
  exact (qs_one (q_ret (q_lc2 (own := [("ahead", 1), ("size", 2)]) (vs1 := [2]) (ws := [1]) (ws1 := [2]) rfl nd (qi_range1 rfl BT.range (qa_cons (q_var 0 (pv 0)) qa_nil)) (blkOk_by (N := ["width", "ahead", "size"]) (sc := C8.fnScope (topS 10)) (by decide +kernel)) (by decide) (by decide) (fun _ h => h) (fun _ _ _ _ _ => (qg_name (show (1 : Nat) < 3 by decide) (pg_name (i := 1) nd rfl (Or.inl rfl)))) (fun _ _ _ _ _ => qts_nil) (fun _ _ _ _ _ => (qi_range2 rfl BT.range (qa_cons q_int (qa_cons (q_add (q_sub (q_var 0 (pv 0)) (q_var 1 (pv 1))) q_int) qa_nil)))) (fun _ _ _ _ _ => (qg_name (show (2 : Nat) < 3 by decide) (pg_name (i := 2) nd rfl (Or.inl rfl)))) (fun _ _ _ _ _ => qts_nil) (fun _ _ _ _ _ => (q_tup (qa_cons (q_var 1 (pv 1)) (qa_cons (q_var 2 (pv 2)) (qa_cons (q_sub (q_sub (q_var 0 (pv 0)) (q_var 1 (pv 1))) (q_var 2 (pv 2))) qa_nil))))))))

theorem scmoves_of : FnScope ["row", "at", "found", "key", "move"] ["row", "at"] (C8.fnScope (topS 2)) := ⟨rfl, rfl, rfl, by decide +kernel, rfl, by decide +kernel, by decide +kernel⟩
theorem dmoves_of (BT : Bts mg) (KC : Kcs ⟨K, P, w⟩ mg)  {f : Addr} {fd : FuncData} (F : C8.Def K mg "moves_of" (topS 2) f fd) (bn : L2.Binds K fd ["row", "at"] []) : CalQ P w K mg base 1 "moves_of" φmoves_of := by
  obtain ⟨aMOVES, KMOVES⟩ := KC.gMOVES
  refine cal_of F bn scmoves_of lmoves_of wmoves_of fun cdv A outer s H E hr => ?_
  have nd := (scmoves_of).nd
  exact (qs_cons (q_setD (show (2 : Nat) < 5 by decide) (q_setLc (i := 2) (own := [("key", 3)]) rfl nd rfl rfl (sw_true rfl rfl rfl (by decide +kernel)) (qi_tup (q_var 0 (pv 0))) (blkOk_by (N := ["row", "at", "found", "key", "move"]) (sc := C8.fnScope (topS 2)) (by decide +kernel)) (fun _ h => h) (fun _ _ _ _ _ => (qg_name (show (3 : Nat) < 5 by decide) (pg_name (i := 3) nd rfl (Or.inl rfl)))) (fun _ _ _ _ _ => qts_nil) (fun _ _ _ _ _ => (q_at (r_of (q_atK rfl KMOVES.1 KMOVES.2.1 (q_var 3 (pv 3)) (hs := fun _ _ => rfl))) (q_var 1 (pv 1)) (fun _ _ => rfl))))) (qs_cons (q_setD (show (2 : Nat) < 5 by decide) (q_setLc (i := 2) (own := [("move", 4)]) rfl nd rfl rfl (sw_true rfl rfl rfl (by decide +kernel)) (qi_list (q_var 2 (pv 2))) (blkOk_by (N := ["row", "at", "found", "key", "move"]) (sc := C8.fnScope (topS 2)) (by decide +kernel)) (fun _ h => h) (fun _ _ _ _ _ => (qg_name (show (4 : Nat) < 5 by decide) (pg_name (i := 4) nd rfl (Or.inl rfl)))) (fun _ _ _ _ _ => (qts_one (qt_ne hr (q_var 4 (pv 4)) q_str))) (fun _ _ _ _ _ => (q_var 4 (pv 4))))) (qs_one (q_ret (q_if (qt_in q_str (q_var 2 (pv 2))) (q_var 2 (pv 2)) (q_lc (own := [("move", 4)]) rfl nd (qi_list (q_var 2 (pv 2))) (blkOk_by (N := ["row", "at", "found", "key", "move"]) (sc := C8.fnScope (topS 2)) (by decide +kernel)) (fun _ h => h) (fun _ _ _ _ _ => (qg_name (show (4 : Nat) < 5 by decide) (pg_name (i := 4) nd rfl (Or.inl rfl)))) (fun _ _ _ _ _ => (qts_one (qt_ne hr (q_var 4 (pv 4)) q_str))) (fun _ _ _ _ _ => (q_var 4 (pv 4)))))))))

theorem scchanged : FnScope ["span", "move", "ahead", "size", "behind"] ["span", "move"] (C8.fnScope (topS 4)) := ⟨rfl, rfl, rfl, by decide +kernel, rfl, by decide +kernel, by decide +kernel⟩
theorem dchanged (BT : Bts mg) (KC : Kcs ⟨K, P, w⟩ mg)  {f : Addr} {fd : FuncData} (F : C8.Def K mg "changed" (topS 4) f fd) (bn : L2.Binds K fd ["span", "move"] []) : CalQ P w K mg base 1 "changed" φchanged := by
  refine cal_of F bn scchanged lchanged wchanged fun cdv A outer s H E hr => ?_
  have nd := (scchanged).nd
  exact (qs_cons (q_asg (q_var 0 (pv 0)) (qg_tup (n := 3) rfl (qgs_cons (qg_name (show (2 : Nat) < 5 by decide) (pg_name (i := 2) nd rfl (Or.inl rfl))) (qgs_cons (qg_name (show (3 : Nat) < 5 by decide) (pg_name (i := 3) nd rfl (Or.inl rfl))) (qgs_cons (qg_name (show (4 : Nat) < 5 by decide) (pg_name (i := 4) nd rfl (Or.inl rfl))) (qgs_nil (ws := []))))))) (qs_cons (q_ifS (qt_eq hr (q_var 1 (pv 1)) q_str) (qs_cons (q_ifS (qt_gt (q_var 4 (pv 4)) q_int) (qs_one (q_ret (q_tup (qa_cons (q_var 2 (pv 2)) (qa_cons (q_add (q_var 3 (pv 3)) q_int) (qa_cons (q_sub (q_var 4 (pv 4)) q_int) qa_nil)))))) qs_nil) (qs_one (q_ret (q_if (qt_gt (q_var 2 (pv 2)) q_int) (q_tup (qa_cons (q_sub (q_var 2 (pv 2)) q_int) (qa_cons (q_add (q_var 3 (pv 3)) q_int) (qa_cons q_int qa_nil)))) (q_var 0 (pv 0)))))) qs_nil) (qs_cons (q_ifS (qt_eq hr (q_var 1 (pv 1)) q_str) (qs_one (q_ret (q_if (qt_gt (q_var 3 (pv 3)) q_int) (q_tup (qa_cons (q_var 2 (pv 2)) (qa_cons (q_sub (q_var 3 (pv 3)) q_int) (qa_cons (q_add (q_var 4 (pv 4)) q_int) qa_nil)))) (q_var 0 (pv 0))))) qs_nil) (qs_cons (q_ifS (qt_eq hr (q_var 1 (pv 1)) q_str) (qs_one (q_ret (q_if (qt_gt (q_var 4 (pv 4)) q_int) (q_tup (qa_cons (q_add (q_var 2 (pv 2)) q_int) (qa_cons (q_var 3 (pv 3)) (qa_cons (q_sub (q_var 4 (pv 4)) q_int) qa_nil)))) (q_var 0 (pv 0))))) qs_nil) (qs_one (q_ret (q_if (qt_gt (q_var 2 (pv 2)) q_int) (q_tup (qa_cons (q_sub (q_var 2 (pv 2)) q_int) (qa_cons (q_var 3 (pv 3)) (qa_cons (q_add (q_var 4 (pv 4)) q_int) qa_nil)))) (q_var 0 (pv 0)))))))))

theorem schalved : FnScope ["span", "second", "width", "half"] ["span", "second"] (C8.fnScope (topS 3)) := ⟨rfl, rfl, rfl, by decide +kernel, rfl, by decide +kernel, by decide +kernel⟩
theorem dhalved (BT : Bts mg) (KC : Kcs ⟨K, P, w⟩ mg)  {f : Addr} {fd : FuncData} (F : C8.Def K mg "halved" (topS 3) f fd) (bn : L2.Binds K fd ["span", "second"] []) : CalQ P w K mg base 1 "halved" φhalved := by
  refine cal_of F bn schalved lhalved whalved fun cdv A outer s H E hr => ?_
  have nd := (schalved).nd
  exact (qs_cons (q_setD (show (2 : Nat) < 4 by decide) (ps_set (i := 2) nd rfl (Or.inl rfl) (q_sum rfl rfl BT.sum (r_of (q_var 0 (pv 0)))))) (qs_cons (q_setD (show (3 : Nat) < 4 by decide) (ps_set (i := 3) nd rfl (Or.inl rfl) (q_fdiv (q_var 2 (pv 2)) q_int))) (qs_one (q_ret (q_if (qt_val (q_var 1 (pv 1))) (q_tup (qa_cons (q_var 3 (pv 3)) (qa_cons (q_sub (q_var 2 (pv 2)) (q_var 3 (pv 3))) (qa_cons q_int qa_nil)))) (q_tup (qa_cons q_int (qa_cons (q_sub (q_var 2 (pv 2)) (q_var 3 (pv 3))) (qa_cons (q_var 3 (pv 3)) qa_nil)))))))))

theorem scmoved : FnScope ["span", "move", "rest"] ["span", "move"] (C8.fnScope (topS 5)) := ⟨rfl, rfl, rfl, by decide +kernel, rfl, by decide +kernel, by decide +kernel⟩
theorem dmoved (BT : Bts mg) (KC : Kcs ⟨K, P, w⟩ mg) (cchanged : CalQ P w K mg base 1 "changed" φchanged) (chalved : CalQ P w K mg base 1 "halved" φhalved) {f : Addr} {fd : FuncData} (F : C8.Def K mg "moved" (topS 5) f fd) (bn : L2.Binds K fd ["span", "move"] []) : CalQ P w K mg base 2 "moved" φmoved := by
  refine cal_of F bn scmoved lmoved wmoved fun cdv A outer s H E hr => ?_
  have nd := (scmoved).nd
  exact (qs_cons (q_ifS (qt_eq hr (q_var 1 (pv 1)) q_str) (qs_one (q_ret (q_tup (qa_cons q_int (qa_cons (q_sum rfl rfl BT.sum (r_of (q_var 0 (pv 0)))) (qa_cons q_int qa_nil)))))) qs_nil) (qs_cons (q_ifS (qt_in (q_var 1 (pv 1)) (q_tup (qa_cons q_str (qa_cons q_str qa_nil)))) (qs_one (q_ret (q_call chalved hr (by decide) rfl (qa_cons (q_var 0 (pv 0)) (qa_cons (q_eq hr (q_var 1 (pv 1)) q_str) qa_nil))))) qs_nil) (qs_cons (q_ifS (qt_eq hr (q_var 1 (pv 1)) q_str) (qs_cons (q_setD (show (2 : Nat) < 3 by decide) (ps_set (i := 2) nd rfl (Or.inl rfl) (q_add (q_at (r_of (q_var 0 (pv 0))) q_int (fun _ _ => rfl)) (q_at (r_of (q_var 0 (pv 0))) q_int (fun _ _ => rfl))))) (qs_one (q_ret (q_tup (qa_cons (q_fdiv (q_var 2 (pv 2)) q_int) (qa_cons (q_at (r_of (q_var 0 (pv 0))) q_int (fun _ _ => rfl)) (qa_cons (q_sub (q_var 2 (pv 2)) (q_fdiv (q_var 2 (pv 2)) q_int)) qa_nil))))))) qs_nil) (qs_one (q_ret (q_call cchanged hr (by decide) rfl (qa_cons (q_var 0 (pv 0)) (qa_cons (q_var 1 (pv 1)) qa_nil))))))))

theorem scspans : FnScope ["span", "moves", "found", "marked", "move"] ["span", "moves"] (C8.fnScope (topS 6)) := ⟨rfl, rfl, rfl, by decide +kernel, rfl, by decide +kernel, by decide +kernel⟩
theorem dspans (BT : Bts mg) (KC : Kcs ⟨K, P, w⟩ mg) (cmoved : CalQ P w K mg base 2 "moved" φmoved) {f : Addr} {fd : FuncData} (F : C8.Def K mg "spans" (topS 6) f fd) (bn : L2.Binds K fd ["span", "moves"] []) : CalQ P w K mg base 3 "spans" φspans := by
  refine cal_of F bn scspans lspans wspans fun cdv A outer s H E hr => ?_
  have nd := (scspans).nd
  exact (qs_cons (q_par (show (2 : Nat) < 5 by decide) (show (3 : Nat) < 5 by decide) (ps_par (i := 2) (j := 3) rfl nd rfl rfl (by decide) rfl rfl (qa_cons (q_lst (qa_cons (q_var 0 (pv 0)) qa_nil)) (qa_cons (q_var 0 (pv 0)) qa_nil)) rfl)) (qs_cons (q_for PassesOwn.never rfl (qi_list (q_var 1 (pv 1))) (qg_name (show (4 : Nat) < 5 by decide) (pg_name (i := 4) nd rfl (Or.inl rfl))) (qs_one (q_ifS (qt_eq hr (q_var 4 (pv 4)) q_str) (qs_cons (q_setD (show (3 : Nat) < 5 by decide) (ps_set (i := 3) nd rfl (Or.inl rfl) (q_at (r_var 2 (pv 2)) (q_neg q_int) (fun _ _ => rfl)))) (qs_one (q_append 2 (ps_expr (pe_bm PySem.F.plainAttrs_list PySem.F.slot_list_append PySem.F.type_list_append mt_append (pv 2) (pa_cons (q_var 3 (pv 3)) pa_nil)))))) (qs_one (q_ifS (qt_eq hr (q_var 4 (pv 4)) q_str) (qs_one (q_append 2 (ps_expr (pe_bm PySem.F.plainAttrs_list PySem.F.slot_list_append PySem.F.type_list_append mt_append (pv 2) (pa_cons (q_at (r_var 2 (pv 2)) (q_neg q_int) (fun _ _ => rfl)) pa_nil))))) (qs_one (q_append 2 (ps_expr (pe_bm PySem.F.plainAttrs_list PySem.F.slot_list_append PySem.F.type_list_append mt_append (pv 2) (pa_cons (q_if (qt_eq hr (q_var 4 (pv 4)) q_str) (q_var 3 (pv 3)) (q_call cmoved hr (by decide) rfl (qa_cons (q_at (r_var 2 (pv 2)) (q_neg q_int) (fun _ _ => rfl)) (qa_cons (q_var 4 (pv 4)) qa_nil)))) pa_nil)))))))))) (qs_one (q_retO 2 (pv 2)))))

theorem sclast_span : FnScope ["span", "moves"] ["span", "moves"] (C8.fnScope (topS 7)) := ⟨rfl, rfl, rfl, by decide +kernel, rfl, by decide +kernel, by decide +kernel⟩
theorem dlast_span (BT : Bts mg) (KC : Kcs ⟨K, P, w⟩ mg) (cspans : CalQ P w K mg base 3 "spans" φspans) {f : Addr} {fd : FuncData} (F : C8.Def K mg "last_span" (topS 7) f fd) (bn : L2.Binds K fd ["span", "moves"] []) : CalQ P w K mg base 4 "last_span" φlast_span := by
  refine cal_of F bn sclast_span llast_span wlast_span fun cdv A outer s H E hr => ?_
  have nd := (sclast_span).nd
  exact (qs_one (q_ret (q_at (r_of (q_call cspans hr (by decide) rfl (qa_cons (q_var 0 (pv 0)) (qa_cons (q_var 1 (pv 1)) qa_nil)))) (q_neg q_int) (fun _ _ => rfl))))

theorem sccount_places : FnScope ["row", "width", "height", "found", "at", "size", "moves", "known", "span"] ["row", "width", "height"] (C8.fnScope (topS 17)) := ⟨rfl, rfl, rfl, by decide +kernel, rfl, by decide +kernel, by decide +kernel⟩
theorem dcount_places (BT : Bts mg) (KC : Kcs ⟨K, P, w⟩ mg) (cspans_of : CalQ P w K mg base 1 "spans_of" φspans_of) (cmoves_of : CalQ P w K mg base 1 "moves_of" φmoves_of) (clast_span : CalQ P w K mg base 4 "last_span" φlast_span) {f : Addr} {fd : FuncData} (F : C8.Def K mg "count_places" (topS 17) f fd) (bn : L2.Binds K fd ["row", "width", "height"] []) : CalQ P w K mg base 5 "count_places" φcount_places := by
  refine cal_of F bn sccount_places lcount_places wcount_places fun cdv A outer s H E hr => ?_
  have nd := (sccount_places).nd
  exact (qs_cons (q_setD (show (3 : Nat) < 9 by decide) (ps_set (i := 3) nd rfl (Or.inl rfl) q_int)) (qs_cons (q_for PassesOwn.never rfl (qi_tup (q_tup (qa_cons (q_tup (qa_cons q_int (qa_cons (q_var 1 (pv 1)) qa_nil))) (qa_cons (q_tup (qa_cons q_int (qa_cons (q_var 2 (pv 2)) qa_nil))) qa_nil)))) (qg_tup (n := 2) rfl (qgs_cons (qg_name (show (4 : Nat) < 9 by decide) (pg_name (i := 4) nd rfl (Or.inl rfl))) (qgs_cons (qg_name (show (5 : Nat) < 9 by decide) (pg_name (i := 5) nd rfl (Or.inl rfl))) (qgs_nil (ws := []))))) (qs_cons (q_thenFrz 6 (q_par (show (6 : Nat) < 9 by decide) (show (7 : Nat) < 9 by decide) (ps_par (i := 6) (j := 7) rfl nd rfl rfl (by decide) rfl rfl (qa_cons (q_call cmoves_of hr (by decide) rfl (qa_cons (q_var 0 (pv 0)) (qa_cons (q_var 4 (pv 4)) qa_nil))) (qa_cons q_dnewN qa_nil)) rfl))) (qs_cons (q_for PassesOwn.never rfl (qi_list (q_call cspans_of hr (by decide) rfl (qa_cons (q_var 5 (pv 5)) qa_nil))) (qg_name (show (8 : Nat) < 9 by decide) (pg_name (i := 8) nd rfl (Or.inl rfl))) (qs_one (q_asg q_bl (qg_subN 7 hr (pv 7) (q_call clast_span hr (by decide) rfl (qa_cons (q_var 8 (pv 8)) (qa_cons (q_var 6 (pv 6)) qa_nil))))))) (qs_one (q_augMul 3 (by show (3 : Nat) < 9; decide) (ps_aug (i := 3) nd rfl (Or.inl rfl) (q_lenN rfl BT.len (r_var 7 (pv 7))) iop_mul)))))) (qs_one (q_ret (q_var 3 (pv 3))))))

theorem sccount_still : FnScope ["row", "width", "height", "found", "at", "size", "moves", "span"] ["row", "width", "height"] (C8.fnScope (topS 18)) := ⟨rfl, rfl, rfl, by decide +kernel, rfl, by decide +kernel, by decide +kernel⟩
theorem dcount_still (BT : Bts mg) (KC : Kcs ⟨K, P, w⟩ mg) (cmoves_of : CalQ P w K mg base 1 "moves_of" φmoves_of) (cspans_of : CalQ P w K mg base 1 "spans_of" φspans_of) (clast_span : CalQ P w K mg base 4 "last_span" φlast_span) {f : Addr} {fd : FuncData} (F : C8.Def K mg "count_still" (topS 18) f fd) (bn : L2.Binds K fd ["row", "width", "height"] []) : CalQ P w K mg base 5 "count_still" φcount_still := by
  refine cal_of F bn sccount_still lcount_still wcount_still fun cdv A outer s H E hr => ?_
  have nd := (sccount_still).nd
  exact (qs_cons (q_setD (show (3 : Nat) < 8 by decide) (ps_set (i := 3) nd rfl (Or.inl rfl) q_int)) (qs_cons (q_for PassesOwn.never rfl (qi_tup (q_tup (qa_cons (q_tup (qa_cons q_int (qa_cons (q_var 1 (pv 1)) qa_nil))) (qa_cons (q_tup (qa_cons q_int (qa_cons (q_var 2 (pv 2)) qa_nil))) qa_nil)))) (qg_tup (n := 2) rfl (qgs_cons (qg_name (show (4 : Nat) < 8 by decide) (pg_name (i := 4) nd rfl (Or.inl rfl))) (qgs_cons (qg_name (show (5 : Nat) < 8 by decide) (pg_name (i := 5) nd rfl (Or.inl rfl))) (qgs_nil (ws := []))))) (qs_cons (q_setD (show (6 : Nat) < 8 by decide) (ps_set (i := 6) nd rfl (Or.inr rfl) (q_call cmoves_of hr (by decide) rfl (qa_cons (q_var 0 (pv 0)) (qa_cons (q_var 4 (pv 4)) qa_nil))))) (qs_one (q_augMul 3 (by show (3 : Nat) < 8; decide) (ps_aug (i := 3) nd rfl (Or.inl rfl) (q_len rfl BT.len (r_of (q_lc (own := [("span", 7)]) rfl nd (qi_list (q_call cspans_of hr (by decide) rfl (qa_cons (q_var 5 (pv 5)) qa_nil))) (blkOk_by (N := ["row", "width", "height", "found", "at", "size", "moves", "span"]) (sc := C8.fnScope (topS 18)) (by decide +kernel)) (fun _ h => h) (fun _ _ _ _ _ => (qg_name (show (7 : Nat) < 8 by decide) (pg_name (i := 7) nd rfl (Or.inl rfl)))) (fun _ _ _ _ _ => (qts_one (qt_eq hr (q_call clast_span hr (by decide) rfl (qa_cons (q_var 7 (pv 7)) (qa_cons (q_var 6 (pv 6)) qa_nil))) (q_var 7 (pv 7))))) (fun _ _ _ _ _ => (q_var 7 (pv 7)))))) iop_mul))))) (qs_one (q_ret (q_var 3 (pv 3))))))

theorem scforgets : FnScope ["moves"] ["moves"] (C8.fnScope (topS 11)) := ⟨rfl, rfl, rfl, by decide +kernel, rfl, by decide +kernel, by decide +kernel⟩
theorem dforgets (BT : Bts mg) (KC : Kcs ⟨K, P, w⟩ mg)  {f : Addr} {fd : FuncData} (F : C8.Def K mg "forgets" (topS 11) f fd) (bn : L2.Binds K fd ["moves"] []) : CalQ P w K mg base 1 "forgets" φforgets := by
  refine cal_of F bn scforgets lforgets wforgets fun cdv A outer s H E hr => ?_
  have nd := (scforgets).nd
  exact (qs_cons (q_ifS (qw_pt (qw_or (qt_eq hr (q_var 0 (pv 0)) (q_lst qa_nil)) (qw_or1 (qt_notIn (q_at (r_of (q_var 0 (pv 0))) q_int (fun _ _ => rfl)) (q_tup (qa_cons q_str (qa_cons q_str (qa_cons q_str qa_nil)))))))) (qs_one (q_ret q_bl)) qs_nil) (qs_one (q_ret (q_or (q_notIn q_str (q_var 0 (pv 0))) (q_one (q_in q_str (q_slice (r_of (q_var 0 (pv 0))) qo_none (qo_some (q_index (q_var 0 (pv 0)) (fun to ho ta ha => pe_bm PySem.F.plainAttrs_list PySem.F.slot_list_index PySem.F.type_list_index mt_index ho (pa_cons ha pa_nil)) q_str)))))))))

theorem sckept_moves : FnScope ["moves", "at"] ["moves"] (C8.fnScope (topS 12)) := ⟨rfl, rfl, rfl, by decide +kernel, rfl, by decide +kernel, by decide +kernel⟩
theorem dkept_moves (BT : Bts mg) (KC : Kcs ⟨K, P, w⟩ mg) (cforgets : CalQ P w K mg base 1 "forgets" φforgets) {f : Addr} {fd : FuncData} (F : C8.Def K mg "kept_moves" (topS 12) f fd) (bn : L2.Binds K fd ["moves"] []) : CalQ P w K mg base 2 "kept_moves" φkept_moves := by
  refine cal_of F bn sckept_moves lkept_moves wkept_moves fun cdv A outer s H E hr => ?_
  have nd := (sckept_moves).nd
  exact (qs_cons (q_for PassesOwn.never rfl (qi_rev1 rfl BT.reversed rfl BT.range (q_len rfl BT.len (r_of (q_var 0 (pv 0)))) (fun te h => pi_revR rfl BT.reversed (prg_1 rfl BT.range h))) (qg_name (show (1 : Nat) < 2 by decide) (pg_name (i := 1) nd rfl (Or.inl rfl))) (qs_one (q_ifS (qt_val (q_call cforgets hr (by decide) rfl (qa_cons (q_slice (r_of (q_var 0 (pv 0))) (qo_some (q_var 1 (pv 1))) qo_none) qa_nil))) (qs_one (q_ret (q_slice (r_of (q_var 0 (pv 0))) (qo_some (q_var 1 (pv 1))) qo_none))) qs_nil))) (qs_one (q_ret (q_var 0 (pv 0)))))

theorem sctried_spans : FnScope ["width", "rows", "span", "moves"] ["width", "rows"] (C8.fnScope (topS 13)) := ⟨rfl, rfl, rfl, by decide +kernel, rfl, by decide +kernel, by decide +kernel⟩
theorem dtried_spans (BT : Bts mg) (KC : Kcs ⟨K, P, w⟩ mg) (cforgets : CalQ P w K mg base 1 "forgets" φforgets) (cspans_of : CalQ P w K mg base 1 "spans_of" φspans_of) {f : Addr} {fd : FuncData} (F : C8.Def K mg "tried_spans" (topS 13) f fd) (bn : L2.Binds K fd ["width", "rows"] []) : CalQ P w K mg base 2 "tried_spans" φtried_spans := by
  obtain ⟨aENOUGH, KENOUGH⟩ := KC.gENOUGH
  refine cal_of F bn sctried_spans ltried_spans wtried_spans fun cdv A outer s H E hr => ?_
  have nd := (sctried_spans).nd
  exact (qs_cons (q_ifS (qt_val (q_all rfl rfl BT.all (r_of (q_lc (own := [("moves", 3)]) rfl nd (qi_tup (q_var 1 (pv 1))) (blkOk_by (N := ["width", "rows", "span", "moves"]) (sc := C8.fnScope (topS 13)) (by decide +kernel)) (fun _ h => h) (fun _ _ _ _ _ => (qg_name (show (3 : Nat) < 4 by decide) (pg_name (i := 3) nd rfl (Or.inl rfl)))) (fun _ _ _ _ _ => qts_nil) (fun _ _ _ _ _ => (q_call cforgets hr (by decide) rfl (qa_cons (q_var 3 (pv 3)) qa_nil))))))) (qs_one (q_ret (q_lst (qa_cons (q_tup (qa_cons q_int (qa_cons q_int (qa_cons (q_sub (q_var 0 (pv 0)) q_int) qa_nil)))) qa_nil)))) qs_nil) (qs_one (q_ret (q_lc (own := [("span", 2)]) rfl nd (qi_list (q_call cspans_of hr (by decide) rfl (qa_cons (q_var 0 (pv 0)) qa_nil))) (blkOk_by (N := ["width", "rows", "span", "moves"]) (sc := C8.fnScope (topS 13)) (by decide +kernel)) (fun _ h => h) (fun _ _ _ _ _ => (qg_name (show (2 : Nat) < 4 by decide) (pg_name (i := 2) nd rfl (Or.inl rfl)))) (fun _ _ _ _ _ => (qts_one (qt_le (q_max hr rfl rfl BT.max (r_of (q_var 2 (pv 2)))) (q_glob rfl KENOUGH.1 KENOUGH.2 (fun _ => .int _))))) (fun _ _ _ _ _ => (q_var 2 (pv 2)))))))

theorem scis_fixed_along : FnScope ["moves", "width", "due", "span"] ["moves"] (C8.fnScope (topS 14)) := ⟨rfl, rfl, rfl, by decide +kernel, rfl, by decide +kernel, by decide +kernel⟩
theorem dis_fixed_along (BT : Bts mg) (KC : Kcs ⟨K, P, w⟩ mg) (cforgets : CalQ P w K mg base 1 "forgets" φforgets) (ckept_moves : CalQ P w K mg base 2 "kept_moves" φkept_moves) (clast_span : CalQ P w K mg base 4 "last_span" φlast_span) (ctried_spans : CalQ P w K mg base 2 "tried_spans" φtried_spans) {f : Addr} {fd : FuncData} (F : C8.Def K mg "is_fixed_along" (topS 14) f fd) (bn : L2.Binds K fd ["moves"] []) : CalQ P w K mg base 5 "is_fixed_along" φis_fixed_along := by
  obtain ⟨aENOUGH, KENOUGH⟩ := KC.gENOUGH
  refine cal_of F bn scis_fixed_along lis_fixed_along wis_fixed_along fun cdv A outer s H E hr => ?_
  have nd := (scis_fixed_along).nd
  exact (qs_cons (q_ifS (qt_val (q_call cforgets hr (by decide) rfl (qa_cons (q_call ckept_moves hr (by decide) rfl (qa_cons (q_var 0 (pv 0)) qa_nil)) qa_nil))) (qs_one (q_ret q_bl)) qs_nil) (qs_cons (q_for PassesOwn.never rfl (qi_range2 rfl BT.range (qa_cons q_int (qa_cons (q_add (q_mul q_int (q_glob rfl KENOUGH.1 KENOUGH.2 (fun _ => .int _))) q_int) qa_nil))) (qg_name (show (1 : Nat) < 4 by decide) (pg_name (i := 1) nd rfl (Or.inl rfl))) (qs_cons (q_setD (show (2 : Nat) < 4 by decide) (ps_set (i := 2) nd rfl (Or.inl rfl) (q_call clast_span hr (by decide) rfl (qa_cons (q_tup (qa_cons q_int (qa_cons (q_var 1 (pv 1)) (qa_cons q_int qa_nil)))) (qa_cons (q_var 0 (pv 0)) qa_nil))))) (qs_one (q_for PassesOwn.never rfl (qi_list (q_call ctried_spans hr (by decide) rfl (qa_cons (q_var 1 (pv 1)) (qa_cons (q_tup (qa_cons (q_var 0 (pv 0)) qa_nil)) qa_nil)))) (qg_name (show (3 : Nat) < 4 by decide) (pg_name (i := 3) nd rfl (Or.inl rfl))) (qs_one (q_ifS (qt_ne hr (q_call clast_span hr (by decide) rfl (qa_cons (q_var 3 (pv 3)) (qa_cons (q_var 0 (pv 0)) qa_nil))) (q_var 2 (pv 2))) (qs_one (q_ret q_bl)) qs_nil)))))) (qs_one (q_ret q_bl))))

theorem scis_fixed : FnScope ["row"] ["row"] (C8.fnScope (topS 15)) := ⟨rfl, rfl, rfl, by decide +kernel, rfl, by decide +kernel, by decide +kernel⟩
theorem dis_fixed (BT : Bts mg) (KC : Kcs ⟨K, P, w⟩ mg) (cis_fixed_along : CalQ P w K mg base 5 "is_fixed_along" φis_fixed_along) (cmoves_of : CalQ P w K mg base 1 "moves_of" φmoves_of) {f : Addr} {fd : FuncData} (F : C8.Def K mg "is_fixed" (topS 15) f fd) (bn : L2.Binds K fd ["row"] []) : CalQ P w K mg base 6 "is_fixed" φis_fixed := by
  refine cal_of F bn scis_fixed lis_fixed wis_fixed fun cdv A outer s H E hr => ?_
  have nd := (scis_fixed).nd
  exact (qs_one (q_ret (q_and (q_call cis_fixed_along hr (by decide) rfl (qa_cons (q_call cmoves_of hr (by decide) rfl (qa_cons (q_var 0 (pv 0)) (qa_cons q_int qa_nil))) qa_nil)) (q_one (q_call cis_fixed_along hr (by decide) rfl (qa_cons (q_call cmoves_of hr (by decide) rfl (qa_cons (q_var 0 (pv 0)) (qa_cons q_int qa_nil))) qa_nil))))))

theorem sccount_starts : FnScope ["row", "goal", "found", "at", "moves", "span"] ["row", "goal"] (C8.fnScope (topS 20)) := ⟨rfl, rfl, rfl, by decide +kernel, rfl, by decide +kernel, by decide +kernel⟩
theorem dcount_starts (BT : Bts mg) (KC : Kcs ⟨K, P, w⟩ mg) (cmoves_of : CalQ P w K mg base 1 "moves_of" φmoves_of) (cspans_of : CalQ P w K mg base 1 "spans_of" φspans_of) (clast_span : CalQ P w K mg base 4 "last_span" φlast_span) {f : Addr} {fd : FuncData} (F : C8.Def K mg "count_starts" (topS 20) f fd) (bn : L2.Binds K fd ["row", "goal"] []) : CalQ P w K mg base 5 "count_starts" φcount_starts := by
  refine cal_of F bn sccount_starts lcount_starts wcount_starts fun cdv A outer s H E hr => ?_
  have nd := (sccount_starts).nd
  exact (qs_cons (q_setD (show (2 : Nat) < 6 by decide) (ps_set (i := 2) nd rfl (Or.inl rfl) q_int)) (qs_cons (q_for PassesOwn.never rfl (qi_tup (q_tup (qa_cons q_int (qa_cons q_int qa_nil)))) (qg_name (show (3 : Nat) < 6 by decide) (pg_name (i := 3) nd rfl (Or.inr rfl))) (qs_cons (q_setD (show (4 : Nat) < 6 by decide) (ps_set (i := 4) nd rfl (Or.inr rfl) (q_call cmoves_of hr (by decide) rfl (qa_cons (q_var 0 (pv 0)) (qa_cons (q_var 3 (pv 3)) qa_nil))))) (qs_one (q_setD (show (2 : Nat) < 6 by decide) (ps_set (i := 2) nd rfl (Or.inl rfl) (q_mul (q_var 2 (pv 2)) (q_len rfl BT.len (r_of (q_lc (own := [("span", 5)]) rfl nd (qi_list (q_call cspans_of hr (by decide) rfl (qa_cons (q_sum rfl rfl BT.sum (r_of (q_at (r_of (q_var 1 (pv 1))) (q_var 3 (pv 3)) (fun _ _ => rfl)))) qa_nil))) (blkOk_by (N := ["row", "goal", "found", "at", "moves", "span"]) (sc := C8.fnScope (topS 20)) (by decide +kernel)) (fun _ h => h) (fun _ _ _ _ _ => (qg_name (show (5 : Nat) < 6 by decide) (pg_name (i := 5) nd rfl (Or.inl rfl)))) (fun _ _ _ _ _ => (qts_one (qt_eq hr (q_call clast_span hr (by decide) rfl (qa_cons (q_var 5 (pv 5)) (qa_cons (q_var 4 (pv 4)) qa_nil))) (q_at (r_of (q_var 1 (pv 1))) (q_var 3 (pv 3)) (fun _ _ => rfl))))) (fun _ _ _ _ _ => (q_var 5 (pv 5)))))))))))) (qs_one (q_ret (q_var 2 (pv 2))))))

theorem sc_law_gone : FnScope ["move", "start", "end", "width", "begin"] ["move", "start", "end", "width"] (C8.fnScope (topS 26)) := ⟨rfl, rfl, rfl, by decide +kernel, rfl, by decide +kernel, by decide +kernel⟩
theorem d_law_gone (BT : Bts mg) (KC : Kcs ⟨K, P, w⟩ mg)  {f : Addr} {fd : FuncData} (F : C8.Def K mg "_law_gone" (topS 26) f fd) (bn : L2.Binds K fd ["move", "start", "end", "width"] []) : CalQ P w K mg base 1 "_law_gone" φ_law_gone := by
  refine cal_of F bn sc_law_gone l_law_gone w_law_gone fun cdv A outer s H E hr => ?_
  have nd := (sc_law_gone).nd
  exact (qs_cons (q_ifS (qt_eq hr (q_var 0 (pv 0)) q_str) (qs_one (q_ret (q_tup (qa_cons q_int (qa_cons (q_var 3 (pv 3)) qa_nil))))) qs_nil) (qs_cons (q_ifS (qt_eq hr (q_var 0 (pv 0)) q_str) (qs_one (q_ret (q_tup (qa_cons q_int (qa_cons (q_sub (q_var 3 (pv 3)) (q_fdiv (q_var 3 (pv 3)) q_int)) qa_nil))))) qs_nil) (qs_cons (q_ifS (qt_eq hr (q_var 0 (pv 0)) q_str) (qs_one (q_ret (q_tup (qa_cons (q_fdiv (q_var 3 (pv 3)) q_int) (qa_cons (q_var 3 (pv 3)) qa_nil))))) qs_nil) (qs_cons (q_ifS (qt_eq hr (q_var 0 (pv 0)) q_str) (qs_cons (q_setD (show (4 : Nat) < 5 by decide) (ps_set (i := 4) nd rfl (Or.inl rfl) (q_fdiv (q_sub (q_var 3 (pv 3)) (q_sub (q_var 2 (pv 2)) (q_var 1 (pv 1)))) q_int))) (qs_one (q_ret (q_tup (qa_cons (q_var 4 (pv 4)) (qa_cons (q_sub (q_add (q_var 4 (pv 4)) (q_var 2 (pv 2))) (q_var 1 (pv 1))) qa_nil)))))) qs_nil) (qs_cons (q_ifS (qt_eq hr (q_var 0 (pv 0)) q_str) (qs_one (q_ret (q_if (qt_lt (q_var 2 (pv 2)) (q_var 3 (pv 3))) (q_tup (qa_cons (q_var 1 (pv 1)) (qa_cons (q_add (q_var 2 (pv 2)) q_int) qa_nil))) (q_tup (qa_cons (q_max2 rfl rfl BT.max (qa_cons q_int (qa_cons (q_sub (q_var 1 (pv 1)) q_int) qa_nil))) (qa_cons (q_var 2 (pv 2)) qa_nil)))))) qs_nil) (qs_cons (q_ifS (qt_eq hr (q_var 0 (pv 0)) q_str) (qs_one (q_ret (q_tup (qa_cons (q_var 1 (pv 1)) (qa_cons (q_max2 rfl rfl BT.max (qa_cons (q_add (q_var 1 (pv 1)) q_int) (qa_cons (q_sub (q_var 2 (pv 2)) q_int) qa_nil))) qa_nil))))) qs_nil) (qs_cons (q_ifS (qw_pt (qw_and (qt_eq hr (q_var 0 (pv 0)) q_str) (qw_and1 (qt_lt (q_var 2 (pv 2)) (q_var 3 (pv 3)))))) (qs_one (q_ret (q_tup (qa_cons (q_add (q_var 1 (pv 1)) q_int) (qa_cons (q_add (q_var 2 (pv 2)) q_int) qa_nil))))) qs_nil) (qs_one (q_ret (q_if (qw_pt (qw_and (qt_eq hr (q_var 0 (pv 0)) q_str) (qw_and1 (qt_gt (q_var 1 (pv 1)) q_int)))) (q_tup (qa_cons (q_sub (q_var 1 (pv 1)) q_int) (qa_cons (q_sub (q_var 2 (pv 2)) q_int) qa_nil))) (q_tup (qa_cons (q_var 1 (pv 1)) (qa_cons (q_var 2 (pv 2)) qa_nil)))))))))))))

theorem sc_law_trail : FnScope ["span", "moves", "width", "here", "held", "found", "move"] ["span", "moves"] (C8.fnScope (topS 27)) := ⟨rfl, rfl, rfl, by decide +kernel, rfl, by decide +kernel, by decide +kernel⟩
theorem d_law_trail (BT : Bts mg) (KC : Kcs ⟨K, P, w⟩ mg) (c_law_gone : CalQ P w K mg base 1 "_law_gone" φ_law_gone) {f : Addr} {fd : FuncData} (F : C8.Def K mg "_law_trail" (topS 27) f fd) (bn : L2.Binds K fd ["span", "moves"] []) : CalQ P w K mg base 2 "_law_trail" φ_law_trail := by
  refine cal_of F bn sc_law_trail l_law_trail w_law_trail fun cdv A outer s H E hr => ?_
  have nd := (sc_law_trail).nd
  exact (qs_cons (q_setD (show (2 : Nat) < 7 by decide) (ps_set (i := 2) nd rfl (Or.inl rfl) (q_add (q_add (q_at (r_of (q_var 0 (pv 0))) q_int (fun _ _ => rfl)) (q_at (r_of (q_var 0 (pv 0))) q_int (fun _ _ => rfl))) (q_at (r_of (q_var 0 (pv 0))) q_int (fun _ _ => rfl))))) (qs_cons (q_setD (show (3 : Nat) < 7 by decide) (ps_set (i := 3) nd rfl (Or.inl rfl) (q_tup (qa_cons (q_at (r_of (q_var 0 (pv 0))) q_int (fun _ _ => rfl)) (qa_cons (q_add (q_at (r_of (q_var 0 (pv 0))) q_int (fun _ _ => rfl)) (q_at (r_of (q_var 0 (pv 0))) q_int (fun _ _ => rfl))) qa_nil))))) (qs_cons (q_par (show (4 : Nat) < 7 by decide) (show (5 : Nat) < 7 by decide) (ps_par (i := 4) (j := 5) rfl nd rfl rfl (by decide) rfl rfl (qa_cons (q_var 3 (pv 3)) (qa_cons (q_lst qa_nil) qa_nil)) rfl)) (qs_cons (q_for PassesOwn.never rfl (qi_list (q_var 1 (pv 1))) (qg_name (show (6 : Nat) < 7 by decide) (pg_name (i := 6) nd rfl (Or.inl rfl))) (qs_cons (q_ifS (qt_eq hr (q_var 6 (pv 6)) q_str) (qs_one (q_setD (show (4 : Nat) < 7 by decide) (ps_set (i := 4) nd rfl (Or.inl rfl) (q_var 3 (pv 3))))) (qs_one (q_ifS (qt_eq hr (q_var 6 (pv 6)) q_str) (qs_one (q_setD (show (3 : Nat) < 7 by decide) (ps_set (i := 3) nd rfl (Or.inl rfl) (q_var 4 (pv 4))))) (qs_one (q_setD (show (3 : Nat) < 7 by decide) (ps_set (i := 3) nd rfl (Or.inl rfl) (q_call c_law_gone hr (by decide) rfl (qa_cons (q_var 6 (pv 6)) (qa_cons (q_at (r_of (q_var 3 (pv 3))) q_int (fun _ _ => rfl)) (qa_cons (q_at (r_of (q_var 3 (pv 3))) q_int (fun _ _ => rfl)) (qa_cons (q_var 2 (pv 2)) qa_nil))))))))))) (qs_one (q_append 5 (ps_expr (pe_bm PySem.F.plainAttrs_list PySem.F.slot_list_append PySem.F.type_list_append mt_append (pv 5) (pa_cons (q_tup (qa_cons (q_at (r_of (q_var 3 (pv 3))) q_int (fun _ _ => rfl)) (qa_cons (q_sub (q_at (r_of (q_var 3 (pv 3))) q_int (fun _ _ => rfl)) (q_at (r_of (q_var 3 (pv 3))) q_int (fun _ _ => rfl))) (qa_cons (q_sub (q_var 2 (pv 2)) (q_at (r_of (q_var 3 (pv 3))) q_int (fun _ _ => rfl))) qa_nil)))) pa_nil))))))) (qs_one (q_retO 5 (pv 5)))))))

theorem sc_law_end : FnScope ["span", "moves"] ["span", "moves"] (C8.fnScope (topS 28)) := ⟨rfl, rfl, rfl, by decide +kernel, rfl, by decide +kernel, by decide +kernel⟩
theorem d_law_end (BT : Bts mg) (KC : Kcs ⟨K, P, w⟩ mg) (c_law_trail : CalQ P w K mg base 2 "_law_trail" φ_law_trail) {f : Addr} {fd : FuncData} (F : C8.Def K mg "_law_end" (topS 28) f fd) (bn : L2.Binds K fd ["span", "moves"] []) : CalQ P w K mg base 3 "_law_end" φ_law_end := by
  refine cal_of F bn sc_law_end l_law_end w_law_end fun cdv A outer s H E hr => ?_
  have nd := (sc_law_end).nd
  exact (qs_one (q_ret (q_at (r_of (q_add (q_lst (qa_cons (q_var 0 (pv 0)) qa_nil)) (q_call c_law_trail hr (by decide) rfl (qa_cons (q_var 0 (pv 0)) (qa_cons (q_var 1 (pv 1)) qa_nil))))) (q_neg q_int) (fun _ _ => rfl))))

theorem sc_law_moves : FnScope ["row", "at", "key"] ["row", "at"] (C8.fnScope (topS 29)) := ⟨rfl, rfl, rfl, by decide +kernel, rfl, by decide +kernel, by decide +kernel⟩
theorem d_law_moves (BT : Bts mg) (KC : Kcs ⟨K, P, w⟩ mg) (c_law_both : CalQ P w K mg base 1 "_law_both" φ_law_both) {f : Addr} {fd : FuncData} (F : C8.Def K mg "_law_moves" (topS 29) f fd) (bn : L2.Binds K fd ["row", "at"] []) : CalQ P w K mg base 2 "_law_moves" φ_law_moves := by
  refine cal_of F bn sc_law_moves l_law_moves w_law_moves fun cdv A outer s H E hr => ?_
  have nd := (sc_law_moves).nd
  exact (qs_one (q_ret (q_lc (own := [("key", 2)]) rfl nd (qi_tup (q_var 0 (pv 0))) (blkOk_by (N := ["row", "at", "key"]) (sc := C8.fnScope (topS 29)) (by decide +kernel)) (fun _ h => h) (fun _ _ _ _ _ => (qg_name (show (2 : Nat) < 3 by decide) (pg_name (i := 2) nd rfl (Or.inl rfl)))) (fun _ _ _ _ _ => qts_nil) (fun _ _ _ _ _ => (q_at (r_of (q_atD hr (r_of (q_call0 c_law_both hr (by decide) rfl)) (q_var 2 (pv 2)) (fun _ _ => rfl))) (q_var 1 (pv 1)) (fun _ _ => rfl))))))

theorem sc_law_spans : FnScope ["width", "found", "ahead", "size"] ["width"] (C8.fnScope (topS 30)) := ⟨rfl, rfl, rfl, by decide +kernel, rfl, by decide +kernel, by decide +kernel⟩
theorem d_law_spans (BT : Bts mg) (KC : Kcs ⟨K, P, w⟩ mg)  {f : Addr} {fd : FuncData} (F : C8.Def K mg "_law_spans" (topS 30) f fd) (bn : L2.Binds K fd ["width"] []) : CalQ P w K mg base 1 "_law_spans" φ_law_spans := by
  refine cal_of F bn sc_law_spans l_law_spans w_law_spans fun cdv A outer s H E hr => ?_
  have nd := (sc_law_spans).nd
  exact (qs_cons (q_setD (show (1 : Nat) < 4 by decide) (ps_set (i := 1) nd rfl (Or.inl rfl) (q_lst qa_nil))) (qs_cons (q_for PassesOwn.never rfl (qi_range1 rfl BT.range (qa_cons (q_var 0 (pv 0)) qa_nil)) (qg_name (show (2 : Nat) < 4 by decide) (pg_name (i := 2) nd rfl (Or.inr rfl))) (qs_one (q_setD (show (1 : Nat) < 4 by decide) (ps_set (i := 1) nd rfl (Or.inl rfl) (q_add (q_var 1 (pv 1)) (q_lc (own := [("size", 3)]) rfl nd (qi_range2 rfl BT.range (qa_cons q_int (qa_cons (q_add (q_sub (q_var 0 (pv 0)) (q_var 2 (pv 2))) q_int) qa_nil))) (blkOk_by (N := ["width", "found", "ahead", "size"]) (sc := C8.fnScope (topS 30)) (by decide +kernel)) (fun _ h => h) (fun _ _ _ _ _ => (qg_name (show (3 : Nat) < 4 by decide) (pg_name (i := 3) nd rfl (Or.inl rfl)))) (fun _ _ _ _ _ => qts_nil) (fun _ _ _ _ _ => (q_tup (qa_cons (q_var 2 (pv 2)) (qa_cons (q_var 3 (pv 3)) (qa_cons (q_sub (q_sub (q_var 0 (pv 0)) (q_var 2 (pv 2))) (q_var 3 (pv 3))) qa_nil))))))))))) (qs_one (q_ret (q_var 1 (pv 1))))))

theorem sclaw : FnScope ["script", "tape", "turn", "row", "width", "height", "every", "many", "still", "total", "ends", "end", "small", "more", "key", "span"] ["script"] (C8.fnScope (topS 31)) := ⟨rfl, rfl, rfl, by decide +kernel, rfl, by decide +kernel, by decide +kernel⟩
theorem dlaw (BT : Bts mg) (KC : Kcs ⟨K, P, w⟩ mg) (c_law_row : CalQ P w K mg base 3 "_law_row" φ_law_row) (ccount_places : CalQ P w K mg base 5 "count_places" φcount_places) (ccount_still : CalQ P w K mg base 5 "count_still" φcount_still) (c_law_draw : CalQ P w K mg base 1 "_law_draw" φ_law_draw) (cis_fixed : CalQ P w K mg base 6 "is_fixed" φis_fixed) (ccount_starts : CalQ P w K mg base 5 "count_starts" φcount_starts) (c_law_end : CalQ P w K mg base 3 "_law_end" φ_law_end) (c_law_moves : CalQ P w K mg base 2 "_law_moves" φ_law_moves) (c_law_spans : CalQ P w K mg base 1 "_law_spans" φ_law_spans) {f : Addr} {fd : FuncData} (F : C8.Def K mg "law" (topS 31) f fd) : FnOk P w K mg base CX0 7 f fd ["script"] (spLaw K) := by
  refine law_of F sclaw rfl wlaw (fun cdv A outer s H E hr => ?_) (fun cdv A outer s H E hr => ?_)
  · have nd := sclaw.nd
    exact (q_set (show (1 : Nat) < 16 by decide) (ps_set (i := 1) nd rfl (Or.inl rfl) (q_lst (qa_cons (q_listC rfl BT.list (r_of (q_var 0 (pv 0)))) (qa_cons q_int (qa_cons q_int qa_nil))))))
  · have nd := sclaw.nd
    exact (qs_cons (q_for PassesOwn.never rfl (qi_range1 rfl BT.range (qa_cons q_int qa_nil)) (qg_name (show (2 : Nat) < 16 by decide) (pg_name (i := 2) nd rfl (Or.inl rfl))) (qs_cons (q_asg (q_tup (qa_cons (q_call c_law_row hr (by decide) rfl (qa_cons (q_var 1 (pv 1)) (qa_cons q_int qa_nil))) (qa_cons (q_add q_int (q_call c_law_draw hr (by decide) rfl (qa_cons (q_var 1 (pv 1)) (qa_cons q_int qa_nil)))) (qa_cons (q_add q_int (q_call c_law_draw hr (by decide) rfl (qa_cons (q_var 1 (pv 1)) (qa_cons q_int qa_nil)))) qa_nil)))) (qg_tup (n := 3) rfl (qgs_cons (qg_name (show (3 : Nat) < 16 by decide) (pg_name (i := 3) nd rfl (Or.inr rfl))) (qgs_cons (qg_name (show (4 : Nat) < 16 by decide) (pg_name (i := 4) nd rfl (Or.inl rfl))) (qgs_cons (qg_name (show (5 : Nat) < 16 by decide) (pg_name (i := 5) nd rfl (Or.inl rfl))) (qgs_nil (ws := []))))))) (qs_cons (q_setD (show (6 : Nat) < 16 by decide) (ps_set (i := 6) nd rfl (Or.inl rfl) (q_mul (q_fdiv (q_mul (q_var 4 (pv 4)) (q_add (q_var 4 (pv 4)) q_int)) q_int) (q_fdiv (q_mul (q_var 5 (pv 5)) (q_add (q_var 5 (pv 5)) q_int)) q_int)))) (qs_cons (q_thenFrz 8 (q_thenFrz 7 (q_par (show (7 : Nat) < 16 by decide) (show (8 : Nat) < 16 by decide) (ps_par (i := 7) (j := 8) rfl nd rfl rfl (by decide) rfl rfl (qa_cons (q_call ccount_places hr (by decide) rfl (qa_cons (q_var 3 (pv 3)) (qa_cons (q_var 4 (pv 4)) (qa_cons (q_var 5 (pv 5)) qa_nil)))) (qa_cons (q_call ccount_still hr (by decide) rfl (qa_cons (q_var 3 (pv 3)) (qa_cons (q_var 4 (pv 4)) (qa_cons (q_var 5 (pv 5)) qa_nil)))) qa_nil)) rfl)))) (qs_cons (q_ifS (qw_pt (qw_or (qt_not (qt_chain op_le op_le q_int (q_var 7 (pv 7)) (q_var 6 (pv 6)))) (qw_or1 (qt_not (qt_chain op_le op_le q_int (q_var 8 (pv 8)) (q_var 7 (pv 7))))))) (qs_one (q_ret q_bl)) qs_nil) (qs_cons (q_ifS (qw_pt (qw_or (qw_pt (qw_and (qt_val (q_call cis_fixed hr (by decide) rfl (qa_cons (q_var 3 (pv 3)) qa_nil))) (qw_and1 (qt_ne hr (q_var 7 (pv 7)) q_int)))) (qw_or1 (qw_pt (qw_and (qt_eq hr (q_var 3 (pv 3)) (q_tup qa_nil)) (qw_and1 (qt_ne hr (q_tup (qa_cons (q_var 7 (pv 7)) (qa_cons (q_var 8 (pv 8)) qa_nil))) (q_tup (qa_cons (q_var 6 (pv 6)) (qa_cons (q_var 6 (pv 6)) qa_nil)))))))))) (qs_one (q_ret q_bl)) qs_nil) (qs_cons (q_setD (show (9 : Nat) < 16 by decide) (ps_set (i := 9) nd rfl (Or.inl rfl) q_int)) (qs_cons (q_setD (show (10 : Nat) < 16 by decide) (ps_set (i := 10) nd rfl (Or.inl rfl) (q_sortSet hr rfl rfl BT.sorted rfl BT.set (q_lc (own := [("span", 15)]) rfl nd (qi_list (q_call c_law_spans hr (by decide) rfl (qa_cons (q_min2 rfl rfl BT.min (qa_cons (q_var 4 (pv 4)) (qa_cons q_int qa_nil))) qa_nil))) (blkOk_by (N := ["script", "tape", "turn", "row", "width", "height", "every", "many", "still", "total", "ends", "end", "small", "more", "key", "span"]) (sc := C8.fnScope (topS 31)) (by decide +kernel)) (fun _ h => h) (fun _ _ _ _ _ => (qg_name (show (15 : Nat) < 16 by decide) (pg_name (i := 15) nd rfl (Or.inl rfl)))) (fun _ _ _ _ _ => qts_nil) (fun _ _ _ _ _ => (q_call c_law_end hr (by decide) rfl (qa_cons (q_var 15 (pv 15)) (qa_cons (q_call c_law_moves hr (by decide) rfl (qa_cons (q_var 3 (pv 3)) (qa_cons q_int qa_nil))) qa_nil)))))))) (qs_cons (q_for PassesOwn.never rfl (qi_list (q_var 10 (pv 10))) (qg_name (show (11 : Nat) < 16 by decide) (pg_name (i := 11) nd rfl (Or.inl rfl))) (qs_one (q_setD (show (9 : Nat) < 16 by decide) (ps_set (i := 9) nd rfl (Or.inl rfl) (q_add (q_var 9 (pv 9)) (q_call ccount_starts hr (by decide) rfl (qa_cons (q_var 3 (pv 3)) (qa_cons (q_tup (qa_cons (q_var 11 (pv 11)) (qa_cons (q_call c_law_end hr (by decide) rfl (qa_cons (q_tup (qa_cons q_int (qa_cons q_int (qa_cons q_int qa_nil)))) (qa_cons (q_call c_law_moves hr (by decide) rfl (qa_cons (q_var 3 (pv 3)) (qa_cons q_int qa_nil))) qa_nil))) qa_nil))) qa_nil)))))))) (qs_cons (q_setD (show (12 : Nat) < 16 by decide) (ps_set (i := 12) nd rfl (Or.inl rfl) (q_min2 rfl rfl BT.min (qa_cons (q_var 4 (pv 4)) (qa_cons q_int qa_nil))))) (qs_cons (q_ifS (qw_pt (qw_or (qt_ne hr (q_var 9 (pv 9)) (q_fdiv (q_mul (q_var 12 (pv 12)) (q_add (q_var 12 (pv 12)) q_int)) q_int)) (qw_or1 (qt_ne hr (q_call ccount_places hr (by decide) rfl (qa_cons (q_var 3 (pv 3)) (qa_cons (q_var 12 (pv 12)) (qa_cons q_int qa_nil)))) (q_len rfl BT.len (r_of (q_var 10 (pv 10)))))))) (qs_one (q_ret q_bl)) qs_nil) (qs_cons (q_setD (show (13 : Nat) < 16 by decide) (ps_set (i := 13) nd rfl (Or.inl rfl) (q_tupC rfl BT.tuple (r_of (q_lc (own := [("key", 14)]) rfl nd (qi_tup (q_var 3 (pv 3))) (blkOk_by (N := ["script", "tape", "turn", "row", "width", "height", "every", "many", "still", "total", "ends", "end", "small", "more", "key", "span"]) (sc := C8.fnScope (topS 31)) (by decide +kernel)) (fun _ h => h) (fun _ _ _ _ _ => (qg_name (show (14 : Nat) < 16 by decide) (pg_name (i := 14) nd rfl (Or.inl rfl)))) (fun _ _ _ _ _ => (qts_one (qt_notIn (q_var 14 (pv 14)) (q_tup (qa_cons q_str (qa_cons q_str qa_nil)))))) (fun _ _ _ _ _ => (q_var 14 (pv 14)))))))) (qs_one (q_ifS (qt_gt (q_call ccount_places hr (by decide) rfl (qa_cons (q_add (q_tup (qa_cons q_str qa_nil)) (q_slice (r_of (q_var 13 (pv 13))) qo_none (qo_some q_int))) (qa_cons (q_var 4 (pv 4)) (qa_cons q_int qa_nil)))) (q_var 4 (pv 4))) (qs_one (q_ret q_bl)) qs_nil)))))))))))))) (qs_one (q_ret (q_and (q_eq hr (q_call ccount_places hr (by decide) rfl (qa_cons (q_tup (qa_cons q_str qa_nil)) (qa_cons q_int (qa_cons q_int qa_nil)))) q_int) (q_one (q_eq hr (q_call ccount_still hr (by decide) rfl (qa_cons (q_tup qa_nil) (qa_cons q_int (qa_cons q_int qa_nil)))) (q_mul q_int q_int)))))))

end
theorem all_mk {P : Program} {w : World} {K : PySem.W.Frag} {h : Heap} {mg : Str → Option Value} {fa : Addr} (X : K.In h) (G : h.Ns mainGlobals mg) (hfa : mg "law" = some (.ref fa)) {f0 : Addr} {oc0 : Value} {od0 an0 : Option Addr} {sl0 : Array (Option Value)} {kV0 dc0 pm0 cd0 ct0 : Value} {f1 : Addr} {oc1 : Value} {od1 an1 : Option Addr} {sl1 : Array (Option Value)} {kV1 dc1 pm1 cd1 ct1 : Value} {f2 : Addr} {oc2 : Value} {od2 an2 : Option Addr} {sl2 : Array (Option Value)} {kV2 dc2 pm2 cd2 ct2 : Value} {f3 : Addr} {oc3 : Value} {od3 an3 : Option Addr} {sl3 : Array (Option Value)} {kV3 dc3 pm3 cd3 ct3 : Value} {f4 : Addr} {oc4 : Value} {od4 an4 : Option Addr} {sl4 : Array (Option Value)} {kV4 dc4 pm4 cd4 ct4 : Value} {f5 : Addr} {oc5 : Value} {od5 an5 : Option Addr} {sl5 : Array (Option Value)} {kV5 dc5 pm5 cd5 ct5 : Value} {f6 : Addr} {oc6 : Value} {od6 an6 : Option Addr} {sl6 : Array (Option Value)} {kV6 dc6 pm6 cd6 ct6 : Value} {f7 : Addr} {oc7 : Value} {od7 an7 : Option Addr} {sl7 : Array (Option Value)} {kV7 dc7 pm7 cd7 ct7 : Value} {f8 : Addr} {oc8 : Value} {od8 an8 : Option Addr} {sl8 : Array (Option Value)} {kV8 dc8 pm8 cd8 ct8 : Value} {f9 : Addr} {oc9 : Value} {od9 an9 : Option Addr} {sl9 : Array (Option Value)} {kV9 dc9 pm9 cd9 ct9 : Value} {f10 : Addr} {oc10 : Value} {od10 an10 : Option Addr} {sl10 : Array (Option Value)} {kV10 dc10 pm10 cd10 ct10 : Value} {f11 : Addr} {oc11 : Value} {od11 an11 : Option Addr} {sl11 : Array (Option Value)} {kV11 dc11 pm11 cd11 ct11 : Value} {f12 : Addr} {oc12 : Value} {od12 an12 : Option Addr} {sl12 : Array (Option Value)} {kV12 dc12 pm12 cd12 ct12 : Value} {f13 : Addr} {oc13 : Value} {od13 an13 : Option Addr} {sl13 : Array (Option Value)} {kV13 dc13 pm13 cd13 ct13 : Value} {f14 : Addr} {oc14 : Value} {od14 an14 : Option Addr} {sl14 : Array (Option Value)} {kV14 dc14 pm14 cd14 ct14 : Value} {f15 : Addr} {oc15 : Value} {od15 an15 : Option Addr} {sl15 : Array (Option Value)} {kV15 dc15 pm15 cd15 ct15 : Value} {f16 : Addr} {oc16 : Value} {od16 an16 : Option Addr} {sl16 : Array (Option Value)} {kV16 dc16 pm16 cd16 ct16 : Value} {f17 : Addr} {oc17 : Value} {od17 an17 : Option Addr} {sl17 : Array (Option Value)} {kV17 dc17 pm17 cd17 ct17 : Value} {f18 : Addr} {oc18 : Value} {od18 an18 : Option Addr} {sl18 : Array (Option Value)} {kV18 dc18 pm18 cd18 ct18 : Value} {f19 : Addr} {oc19 : Value} {od19 an19 : Option Addr} {sl19 : Array (Option Value)} {kV19 dc19 pm19 cd19 ct19 : Value} {f20 : Addr} {oc20 : Value} {od20 an20 : Option Addr} {sl20 : Array (Option Value)} {kV20 dc20 pm20 cd20 ct20 : Value} {f21 : Addr} {oc21 : Value} {od21 an21 : Option Addr} {sl21 : Array (Option Value)} {kV21 dc21 pm21 cd21 ct21 : Value} {f22 : Addr} {oc22 : Value} {od22 an22 : Option Addr} {sl22 : Array (Option Value)} {kV22 dc22 pm22 cd22 ct22 : Value} {f23 : Addr} {oc23 : Value} {od23 an23 : Option Addr} {sl23 : Array (Option Value)} {kV23 dc23 pm23 cd23 ct23 : Value} {f24 : Addr} {oc24 : Value} {od24 an24 : Option Addr} {sl24 : Array (Option Value)} {kV24 dc24 pm24 cd24 ct24 : Value} {tkENOUGH : Tok} {dMOVES : Addr} {eMOVES : Array DictEntry} {nMOVES : Nat} {tdown : Addr} {otdown : Option Addr} {stdown : Array (Option Value)} {itdown : Array Value} {ntdown : Nat} {teast : Addr} {oteast : Option Addr} {steast : Array (Option Value)} {iteast : Array Value} {nteast : Nat} {tfull : Addr} {otfull : Option Addr} {stfull : Array (Option Value)} {itfull : Array Value} {ntfull : Nat} {tcenter : Addr} {otcenter : Option Addr} {stcenter : Array (Option Value)} {itcenter : Array Value} {ntcenter : Nat} {tleft : Addr} {otleft : Option Addr} {stleft : Array (Option Value)} {itleft : Array Value} {ntleft : Nat} {tmark : Addr} {otmark : Option Addr} {stmark : Array (Option Value)} {itmark : Array Value} {ntmark : Nat} {tnarrow : Addr} {otnarrow : Option Addr} {stnarrow : Array (Option Value)} {itnarrow : Array Value} {ntnarrow : Nat} {tne : Addr} {otne : Option Addr} {stne : Array (Option Value)} {itne : Array Value} {ntne : Nat} {tnorth : Addr} {otnorth : Option Addr} {stnorth : Array (Option Value)} {itnorth : Array Value} {ntnorth : Nat} {tnw : Addr} {otnw : Option Addr} {stnw : Array (Option Value)} {itnw : Array Value} {ntnw : Nat} {trecall : Addr} {otrecall : Option Addr} {strecall : Array (Option Value)} {itrecall : Array Value} {ntrecall : Nat} {tright : Addr} {otright : Option Addr} {stright : Array (Option Value)} {itright : Array Value} {ntright : Nat} {tse : Addr} {otse : Option Addr} {stse : Array (Option Value)} {itse : Array Value} {ntse : Nat} {tshort : Addr} {otshort : Option Addr} {stshort : Array (Option Value)} {itshort : Array Value} {ntshort : Nat} {tsouth : Addr} {otsouth : Option Addr} {stsouth : Array (Option Value)} {itsouth : Array Value} {ntsouth : Nat} {tsw : Addr} {otsw : Option Addr} {stsw : Array (Option Value)} {itsw : Array Value} {ntsw : Nat} {ttall : Addr} {ottall : Option Addr} {sttall : Array (Option Value)} {ittall : Array Value} {nttall : Nat} {tup : Addr} {otup : Option Addr} {stup : Array (Option Value)} {itup : Array Value} {ntup : Nat} {twest : Addr} {otwest : Option Addr} {stwest : Array (Option Value)} {itwest : Array Value} {ntwest : Nat} {twide : Addr} {otwide : Option Addr} {stwide : Array (Option Value)} {itwide : Array Value} {ntwide : Nat}
    (a0 : PySem.W.nsIn K mainGlobals "_law_draw" = some (some (.ref f0))) (l0 : K.lookup f0 = some ⟨oc0, od0, .func (PySem.W.fnOf "_law_draw" "_law_draw" (C8.fnArgs (topS 22)) (C8.fnBody (topS 22)) (C8.fnScope (topS 22)) .none kV0 dc0 pm0 an0 cd0 ct0), sl0⟩) (c0 : PySem.W.codeIn K cd0 "_law_draw" = true) (k0 : PySem.W.keepIn K (.ref f0) = true)
    (a1 : PySem.W.nsIn K mainGlobals "_law_both" = some (some (.ref f1))) (l1 : K.lookup f1 = some ⟨oc1, od1, .func (PySem.W.fnOf "_law_both" "_law_both" (C8.fnArgs (topS 23)) (C8.fnBody (topS 23)) (C8.fnScope (topS 23)) .none kV1 dc1 pm1 an1 cd1 ct1), sl1⟩) (c1 : PySem.W.codeIn K cd1 "_law_both" = true) (k1 : PySem.W.keepIn K (.ref f1) = true)
    (a2 : PySem.W.nsIn K mainGlobals "_law_key" = some (some (.ref f2))) (l2 : K.lookup f2 = some ⟨oc2, od2, .func (PySem.W.fnOf "_law_key" "_law_key" (C8.fnArgs (topS 24)) (C8.fnBody (topS 24)) (C8.fnScope (topS 24)) .none kV2 dc2 pm2 an2 cd2 ct2), sl2⟩) (c2 : PySem.W.codeIn K cd2 "_law_key" = true) (k2 : PySem.W.keepIn K (.ref f2) = true)
    (a3 : PySem.W.nsIn K mainGlobals "_law_row" = some (some (.ref f3))) (l3 : K.lookup f3 = some ⟨oc3, od3, .func (PySem.W.fnOf "_law_row" "_law_row" (C8.fnArgs (topS 25)) (C8.fnBody (topS 25)) (C8.fnScope (topS 25)) .none kV3 dc3 pm3 an3 cd3 ct3), sl3⟩) (c3 : PySem.W.codeIn K cd3 "_law_row" = true) (k3 : PySem.W.keepIn K (.ref f3) = true)
    (a4 : PySem.W.nsIn K mainGlobals "spans_of" = some (some (.ref f4))) (l4 : K.lookup f4 = some ⟨oc4, od4, .func (PySem.W.fnOf "spans_of" "spans_of" (C8.fnArgs (topS 10)) (C8.fnBody (topS 10)) (C8.fnScope (topS 10)) .none kV4 dc4 pm4 an4 cd4 ct4), sl4⟩) (c4 : PySem.W.codeIn K cd4 "spans_of" = true) (k4 : PySem.W.keepIn K (.ref f4) = true)
    (a5 : PySem.W.nsIn K mainGlobals "moves_of" = some (some (.ref f5))) (l5 : K.lookup f5 = some ⟨oc5, od5, .func (PySem.W.fnOf "moves_of" "moves_of" (C8.fnArgs (topS 2)) (C8.fnBody (topS 2)) (C8.fnScope (topS 2)) .none kV5 dc5 pm5 an5 cd5 ct5), sl5⟩) (c5 : PySem.W.codeIn K cd5 "moves_of" = true) (k5 : PySem.W.keepIn K (.ref f5) = true)
    (a6 : PySem.W.nsIn K mainGlobals "changed" = some (some (.ref f6))) (l6 : K.lookup f6 = some ⟨oc6, od6, .func (PySem.W.fnOf "changed" "changed" (C8.fnArgs (topS 4)) (C8.fnBody (topS 4)) (C8.fnScope (topS 4)) .none kV6 dc6 pm6 an6 cd6 ct6), sl6⟩) (c6 : PySem.W.codeIn K cd6 "changed" = true) (k6 : PySem.W.keepIn K (.ref f6) = true)
    (a7 : PySem.W.nsIn K mainGlobals "halved" = some (some (.ref f7))) (l7 : K.lookup f7 = some ⟨oc7, od7, .func (PySem.W.fnOf "halved" "halved" (C8.fnArgs (topS 3)) (C8.fnBody (topS 3)) (C8.fnScope (topS 3)) .none kV7 dc7 pm7 an7 cd7 ct7), sl7⟩) (c7 : PySem.W.codeIn K cd7 "halved" = true) (k7 : PySem.W.keepIn K (.ref f7) = true)
    (a8 : PySem.W.nsIn K mainGlobals "moved" = some (some (.ref f8))) (l8 : K.lookup f8 = some ⟨oc8, od8, .func (PySem.W.fnOf "moved" "moved" (C8.fnArgs (topS 5)) (C8.fnBody (topS 5)) (C8.fnScope (topS 5)) .none kV8 dc8 pm8 an8 cd8 ct8), sl8⟩) (c8 : PySem.W.codeIn K cd8 "moved" = true) (k8 : PySem.W.keepIn K (.ref f8) = true)
    (a9 : PySem.W.nsIn K mainGlobals "spans" = some (some (.ref f9))) (l9 : K.lookup f9 = some ⟨oc9, od9, .func (PySem.W.fnOf "spans" "spans" (C8.fnArgs (topS 6)) (C8.fnBody (topS 6)) (C8.fnScope (topS 6)) .none kV9 dc9 pm9 an9 cd9 ct9), sl9⟩) (c9 : PySem.W.codeIn K cd9 "spans" = true) (k9 : PySem.W.keepIn K (.ref f9) = true)
    (a10 : PySem.W.nsIn K mainGlobals "last_span" = some (some (.ref f10))) (l10 : K.lookup f10 = some ⟨oc10, od10, .func (PySem.W.fnOf "last_span" "last_span" (C8.fnArgs (topS 7)) (C8.fnBody (topS 7)) (C8.fnScope (topS 7)) .none kV10 dc10 pm10 an10 cd10 ct10), sl10⟩) (c10 : PySem.W.codeIn K cd10 "last_span" = true) (k10 : PySem.W.keepIn K (.ref f10) = true)
    (a11 : PySem.W.nsIn K mainGlobals "count_places" = some (some (.ref f11))) (l11 : K.lookup f11 = some ⟨oc11, od11, .func (PySem.W.fnOf "count_places" "count_places" (C8.fnArgs (topS 17)) (C8.fnBody (topS 17)) (C8.fnScope (topS 17)) .none kV11 dc11 pm11 an11 cd11 ct11), sl11⟩) (c11 : PySem.W.codeIn K cd11 "count_places" = true) (k11 : PySem.W.keepIn K (.ref f11) = true)
    (a12 : PySem.W.nsIn K mainGlobals "count_still" = some (some (.ref f12))) (l12 : K.lookup f12 = some ⟨oc12, od12, .func (PySem.W.fnOf "count_still" "count_still" (C8.fnArgs (topS 18)) (C8.fnBody (topS 18)) (C8.fnScope (topS 18)) .none kV12 dc12 pm12 an12 cd12 ct12), sl12⟩) (c12 : PySem.W.codeIn K cd12 "count_still" = true) (k12 : PySem.W.keepIn K (.ref f12) = true)
    (a13 : PySem.W.nsIn K mainGlobals "forgets" = some (some (.ref f13))) (l13 : K.lookup f13 = some ⟨oc13, od13, .func (PySem.W.fnOf "forgets" "forgets" (C8.fnArgs (topS 11)) (C8.fnBody (topS 11)) (C8.fnScope (topS 11)) .none kV13 dc13 pm13 an13 cd13 ct13), sl13⟩) (c13 : PySem.W.codeIn K cd13 "forgets" = true) (k13 : PySem.W.keepIn K (.ref f13) = true)
    (a14 : PySem.W.nsIn K mainGlobals "kept_moves" = some (some (.ref f14))) (l14 : K.lookup f14 = some ⟨oc14, od14, .func (PySem.W.fnOf "kept_moves" "kept_moves" (C8.fnArgs (topS 12)) (C8.fnBody (topS 12)) (C8.fnScope (topS 12)) .none kV14 dc14 pm14 an14 cd14 ct14), sl14⟩) (c14 : PySem.W.codeIn K cd14 "kept_moves" = true) (k14 : PySem.W.keepIn K (.ref f14) = true)
    (a15 : PySem.W.nsIn K mainGlobals "tried_spans" = some (some (.ref f15))) (l15 : K.lookup f15 = some ⟨oc15, od15, .func (PySem.W.fnOf "tried_spans" "tried_spans" (C8.fnArgs (topS 13)) (C8.fnBody (topS 13)) (C8.fnScope (topS 13)) .none kV15 dc15 pm15 an15 cd15 ct15), sl15⟩) (c15 : PySem.W.codeIn K cd15 "tried_spans" = true) (k15 : PySem.W.keepIn K (.ref f15) = true)
    (a16 : PySem.W.nsIn K mainGlobals "is_fixed_along" = some (some (.ref f16))) (l16 : K.lookup f16 = some ⟨oc16, od16, .func (PySem.W.fnOf "is_fixed_along" "is_fixed_along" (C8.fnArgs (topS 14)) (C8.fnBody (topS 14)) (C8.fnScope (topS 14)) .none kV16 dc16 pm16 an16 cd16 ct16), sl16⟩) (c16 : PySem.W.codeIn K cd16 "is_fixed_along" = true) (k16 : PySem.W.keepIn K (.ref f16) = true)
    (a17 : PySem.W.nsIn K mainGlobals "is_fixed" = some (some (.ref f17))) (l17 : K.lookup f17 = some ⟨oc17, od17, .func (PySem.W.fnOf "is_fixed" "is_fixed" (C8.fnArgs (topS 15)) (C8.fnBody (topS 15)) (C8.fnScope (topS 15)) .none kV17 dc17 pm17 an17 cd17 ct17), sl17⟩) (c17 : PySem.W.codeIn K cd17 "is_fixed" = true) (k17 : PySem.W.keepIn K (.ref f17) = true)
    (a18 : PySem.W.nsIn K mainGlobals "count_starts" = some (some (.ref f18))) (l18 : K.lookup f18 = some ⟨oc18, od18, .func (PySem.W.fnOf "count_starts" "count_starts" (C8.fnArgs (topS 20)) (C8.fnBody (topS 20)) (C8.fnScope (topS 20)) .none kV18 dc18 pm18 an18 cd18 ct18), sl18⟩) (c18 : PySem.W.codeIn K cd18 "count_starts" = true) (k18 : PySem.W.keepIn K (.ref f18) = true)
    (a19 : PySem.W.nsIn K mainGlobals "_law_gone" = some (some (.ref f19))) (l19 : K.lookup f19 = some ⟨oc19, od19, .func (PySem.W.fnOf "_law_gone" "_law_gone" (C8.fnArgs (topS 26)) (C8.fnBody (topS 26)) (C8.fnScope (topS 26)) .none kV19 dc19 pm19 an19 cd19 ct19), sl19⟩) (c19 : PySem.W.codeIn K cd19 "_law_gone" = true) (k19 : PySem.W.keepIn K (.ref f19) = true)
    (a20 : PySem.W.nsIn K mainGlobals "_law_trail" = some (some (.ref f20))) (l20 : K.lookup f20 = some ⟨oc20, od20, .func (PySem.W.fnOf "_law_trail" "_law_trail" (C8.fnArgs (topS 27)) (C8.fnBody (topS 27)) (C8.fnScope (topS 27)) .none kV20 dc20 pm20 an20 cd20 ct20), sl20⟩) (c20 : PySem.W.codeIn K cd20 "_law_trail" = true) (k20 : PySem.W.keepIn K (.ref f20) = true)
    (a21 : PySem.W.nsIn K mainGlobals "_law_end" = some (some (.ref f21))) (l21 : K.lookup f21 = some ⟨oc21, od21, .func (PySem.W.fnOf "_law_end" "_law_end" (C8.fnArgs (topS 28)) (C8.fnBody (topS 28)) (C8.fnScope (topS 28)) .none kV21 dc21 pm21 an21 cd21 ct21), sl21⟩) (c21 : PySem.W.codeIn K cd21 "_law_end" = true) (k21 : PySem.W.keepIn K (.ref f21) = true)
    (a22 : PySem.W.nsIn K mainGlobals "_law_moves" = some (some (.ref f22))) (l22 : K.lookup f22 = some ⟨oc22, od22, .func (PySem.W.fnOf "_law_moves" "_law_moves" (C8.fnArgs (topS 29)) (C8.fnBody (topS 29)) (C8.fnScope (topS 29)) .none kV22 dc22 pm22 an22 cd22 ct22), sl22⟩) (c22 : PySem.W.codeIn K cd22 "_law_moves" = true) (k22 : PySem.W.keepIn K (.ref f22) = true)
    (a23 : PySem.W.nsIn K mainGlobals "_law_spans" = some (some (.ref f23))) (l23 : K.lookup f23 = some ⟨oc23, od23, .func (PySem.W.fnOf "_law_spans" "_law_spans" (C8.fnArgs (topS 30)) (C8.fnBody (topS 30)) (C8.fnScope (topS 30)) .none kV23 dc23 pm23 an23 cd23 ct23), sl23⟩) (c23 : PySem.W.codeIn K cd23 "_law_spans" = true) (k23 : PySem.W.keepIn K (.ref f23) = true)
    (a24 : PySem.W.nsIn K mainGlobals "law" = some (some (.ref f24))) (l24 : K.lookup f24 = some ⟨oc24, od24, .func (PySem.W.fnOf "law" "law" (C8.fnArgs (topS 31)) (C8.fnBody (topS 31)) (C8.fnScope (topS 31)) .none kV24 dc24 pm24 an24 cd24 ct24), sl24⟩) (c24 : PySem.W.codeIn K cd24 "law" = true) (k24 : PySem.W.keepIn K (.ref f24) = true)
    (zlen : PySem.W.nsIn K mainGlobals "len" = some none)
    (zsum : PySem.W.nsIn K mainGlobals "sum" = some none)
    (zmax : PySem.W.nsIn K mainGlobals "max" = some none)
    (zmin : PySem.W.nsIn K mainGlobals "min" = some none)
    (zrange : PySem.W.nsIn K mainGlobals "range" = some none)
    (zsorted : PySem.W.nsIn K mainGlobals "sorted" = some none)
    (zint : PySem.W.nsIn K mainGlobals "int" = some none)
    (zlist : PySem.W.nsIn K mainGlobals "list" = some none)
    (ztuple : PySem.W.nsIn K mainGlobals "tuple" = some none)
    (zreversed : PySem.W.nsIn K mainGlobals "reversed" = some none)
    (zall : PySem.W.nsIn K mainGlobals "all" = some none)
    (zset : PySem.W.nsIn K mainGlobals "set" = some none)
    (gENOUGH : PySem.W.nsIn K mainGlobals "ENOUGH" = some (some (.int 28 tkENOUGH)))
    (gMOVES : PySem.W.nsIn K mainGlobals "MOVES" = some (some (.ref dMOVES)))
    (wMOVES : K.lookup dMOVES = some ⟨.type "dict", none, .dict eMOVES nMOVES, #[]⟩) (hMOVES : PySem.W.KeysLit w.params eMOVES.toList) (yMOVES : (dMOVES == sysModules) = false) (xMOVES : keysOf eMOVES.toList = some (["down", "east", "full", "center", "left", "mark", "narrow", "ne", "north", "nw", "recall", "right", "se", "short", "south", "sw", "tall", "up", "west", "wide"] : List Str))
    (rdown : PySem.W.nsIn K dMOVES "down" = some (some (.ref tdown))) (udown : K.lookup tdown = some ⟨.type "tuple", otdown, .seq itdown ntdown, stdown⟩) (vdown : strs2 itdown = some (("whole" : Str), ("second" : Str)))
    (reast : PySem.W.nsIn K dMOVES "east" = some (some (.ref teast))) (ueast : K.lookup teast = some ⟨.type "tuple", oteast, .seq iteast nteast, steast⟩) (veast : strs2 iteast = some (("on" : Str), ("keep" : Str)))
    (rfull : PySem.W.nsIn K dMOVES "full" = some (some (.ref tfull))) (ufull : K.lookup tfull = some ⟨.type "tuple", otfull, .seq itfull ntfull, stfull⟩) (vfull : strs2 itfull = some (("whole" : Str), ("whole" : Str)))
    (rcenter : PySem.W.nsIn K dMOVES "center" = some (some (.ref tcenter))) (ucenter : K.lookup tcenter = some ⟨.type "tuple", otcenter, .seq itcenter ntcenter, stcenter⟩) (vcenter : strs2 itcenter = some (("center" : Str), ("center" : Str)))
    (rleft : PySem.W.nsIn K dMOVES "left" = some (some (.ref tleft))) (uleft : K.lookup tleft = some ⟨.type "tuple", otleft, .seq itleft ntleft, stleft⟩) (vleft : strs2 itleft = some (("first" : Str), ("whole" : Str)))
    (rmark : PySem.W.nsIn K dMOVES "mark" = some (some (.ref tmark))) (umark : K.lookup tmark = some ⟨.type "tuple", otmark, .seq itmark ntmark, stmark⟩) (vmark : strs2 itmark = some (("mark" : Str), ("mark" : Str)))
    (rnarrow : PySem.W.nsIn K dMOVES "narrow" = some (some (.ref tnarrow))) (unarrow : K.lookup tnarrow = some ⟨.type "tuple", otnarrow, .seq itnarrow ntnarrow, stnarrow⟩) (vnarrow : strs2 itnarrow = some (("less" : Str), ("keep" : Str)))
    (rne : PySem.W.nsIn K dMOVES "ne" = some (some (.ref tne))) (une : K.lookup tne = some ⟨.type "tuple", otne, .seq itne ntne, stne⟩) (vne : strs2 itne = some (("second" : Str), ("first" : Str)))
    (rnorth : PySem.W.nsIn K dMOVES "north" = some (some (.ref tnorth))) (unorth : K.lookup tnorth = some ⟨.type "tuple", otnorth, .seq itnorth ntnorth, stnorth⟩) (vnorth : strs2 itnorth = some (("keep" : Str), ("off" : Str)))
    (rnw : PySem.W.nsIn K dMOVES "nw" = some (some (.ref tnw))) (unw : K.lookup tnw = some ⟨.type "tuple", otnw, .seq itnw ntnw, stnw⟩) (vnw : strs2 itnw = some (("first" : Str), ("first" : Str)))
    (rrecall : PySem.W.nsIn K dMOVES "recall" = some (some (.ref trecall))) (urecall : K.lookup trecall = some ⟨.type "tuple", otrecall, .seq itrecall ntrecall, strecall⟩) (vrecall : strs2 itrecall = some (("recall" : Str), ("recall" : Str)))
    (rright : PySem.W.nsIn K dMOVES "right" = some (some (.ref tright))) (uright : K.lookup tright = some ⟨.type "tuple", otright, .seq itright ntright, stright⟩) (vright : strs2 itright = some (("second" : Str), ("whole" : Str)))
    (rse : PySem.W.nsIn K dMOVES "se" = some (some (.ref tse))) (use : K.lookup tse = some ⟨.type "tuple", otse, .seq itse ntse, stse⟩) (vse : strs2 itse = some (("second" : Str), ("second" : Str)))
    (rshort : PySem.W.nsIn K dMOVES "short" = some (some (.ref tshort))) (ushort : K.lookup tshort = some ⟨.type "tuple", otshort, .seq itshort ntshort, stshort⟩) (vshort : strs2 itshort = some (("keep" : Str), ("less" : Str)))
    (rsouth : PySem.W.nsIn K dMOVES "south" = some (some (.ref tsouth))) (usouth : K.lookup tsouth = some ⟨.type "tuple", otsouth, .seq itsouth ntsouth, stsouth⟩) (vsouth : strs2 itsouth = some (("keep" : Str), ("on" : Str)))
    (rsw : PySem.W.nsIn K dMOVES "sw" = some (some (.ref tsw))) (usw : K.lookup tsw = some ⟨.type "tuple", otsw, .seq itsw ntsw, stsw⟩) (vsw : strs2 itsw = some (("first" : Str), ("second" : Str)))
    (rtall : PySem.W.nsIn K dMOVES "tall" = some (some (.ref ttall))) (utall : K.lookup ttall = some ⟨.type "tuple", ottall, .seq ittall nttall, sttall⟩) (vtall : strs2 ittall = some (("keep" : Str), ("more" : Str)))
    (rup : PySem.W.nsIn K dMOVES "up" = some (some (.ref tup))) (uup : K.lookup tup = some ⟨.type "tuple", otup, .seq itup ntup, stup⟩) (vup : strs2 itup = some (("whole" : Str), ("first" : Str)))
    (rwest : PySem.W.nsIn K dMOVES "west" = some (some (.ref twest))) (uwest : K.lookup twest = some ⟨.type "tuple", otwest, .seq itwest ntwest, stwest⟩) (vwest : strs2 itwest = some (("off" : Str), ("keep" : Str)))
    (rwide : PySem.W.nsIn K dMOVES "wide" = some (some (.ref twide))) (uwide : K.lookup twide = some ⟨.type "tuple", otwide, .seq itwide ntwide, stwide⟩) (vwide : strs2 itwide = some (("more" : Str), ("keep" : Str))) :
    ∃ fd : FuncData, (∀ (s : Shared) (v : Value), BindsTo s fd ⟨[v], []⟩ [("script", v)]) ∧ ∀ base : Heap, K.In base → base.Ns mainGlobals mg → FnOk P w K mg base CX0 7 fa fd ["script"] (spLaw K) := by
  have e := hfa.symm.trans (PySem.W.mg_of X G a24)
  cases e
  refine ⟨PySem.W.fnOf "law" "law" (C8.fnArgs (topS 31)) (C8.fnBody (topS 31)) (C8.fnScope (topS 31)) .none kV24 dc24 pm24 an24 cd24 ct24, fun s v => .of_eq rfl, fun base _ _ => ?_⟩
  have BT : Bts mg := ⟨PySem.W.mg_none_of X G zlen, PySem.W.mg_none_of X G zsum, PySem.W.mg_none_of X G zmax, PySem.W.mg_none_of X G zmin, PySem.W.mg_none_of X G zrange, PySem.W.mg_none_of X G zsorted, PySem.W.mg_none_of X G zint, PySem.W.mg_none_of X G zlist, PySem.W.mg_none_of X G ztuple, PySem.W.mg_none_of X G zreversed, PySem.W.mg_none_of X G zall, PySem.W.mg_none_of X G zset⟩
  have KC : Kcs ⟨K, P, w⟩ mg := ⟨⟨_, PySem.W.mg_of X G gENOUGH, ⟨tkENOUGH, rfl⟩⟩, ⟨dMOVES, PySem.W.mg_of X G gMOVES, kmap_of wMOVES hMOVES (kmap_cons rdown udown vdown (kmap_cons reast ueast veast (kmap_cons rfull ufull vfull (kmap_cons rcenter ucenter vcenter (kmap_cons rleft uleft vleft (kmap_cons rmark umark vmark (kmap_cons rnarrow unarrow vnarrow (kmap_cons rne une vne (kmap_cons rnorth unorth vnorth (kmap_cons rnw unw vnw (kmap_cons rrecall urecall vrecall (kmap_cons rright uright vright (kmap_cons rse use vse (kmap_cons rshort ushort vshort (kmap_cons rsouth usouth vsouth (kmap_cons rsw usw vsw (kmap_cons rtall utall vtall (kmap_cons rup uup vup (kmap_cons rwest uwest vwest (kmap_cons rwide uwide vwide kmap_nil)))))))))))))))))))), ⟨_, _, wMOVES, yMOVES, xMOVES, by decide⟩⟩⟩
  have D0 := def_mk (st := topS 22) X G a0 l0 c0 k0
  have b0 := D0.fn.binds rfl (ps := ["tape", "many"]) fun _ _ _ _ _ _ us hl => match us, hl with | [_, _], _ => rfl
  have C_law_draw : CalQ P w K mg base 1 "_law_draw" φ_law_draw := d_law_draw BT KC  D0 b0
  have D1 := def_mk (st := topS 23) X G a1 l1 c1 k1
  have b1 := D1.fn.binds rfl (ps := []) fun _ _ _ _ _ _ us hl => match us, hl with | [], _ => rfl
  have C_law_both : CalQ P w K mg base 1 "_law_both" φ_law_both := d_law_both BT KC  D1 b1
  have D2 := def_mk (st := topS 24) X G a2 l2 c2 k2
  have b2 := D2.fn.binds rfl (ps := ["tape"]) fun _ _ _ _ _ _ us hl => match us, hl with | [_], _ => rfl
  have C_law_key : CalQ P w K mg base 2 "_law_key" φ_law_key := d_law_key BT KC C_law_both C_law_draw D2 b2
  have D3 := def_mk (st := topS 25) X G a3 l3 c3 k3
  have b3 := D3.fn.binds rfl (ps := ["tape", "most"]) fun _ _ _ _ _ _ us hl => match us, hl with | [_, _], _ => rfl
  have C_law_row : CalQ P w K mg base 3 "_law_row" φ_law_row := d_law_row BT KC C_law_draw C_law_key D3 b3
  have D4 := def_mk (st := topS 10) X G a4 l4 c4 k4
  have b4 := D4.fn.binds rfl (ps := ["width"]) fun _ _ _ _ _ _ us hl => match us, hl with | [_], _ => rfl
  have Cspans_of : CalQ P w K mg base 1 "spans_of" φspans_of := dspans_of BT KC  D4 b4
  have D5 := def_mk (st := topS 2) X G a5 l5 c5 k5
  have b5 := D5.fn.binds rfl (ps := ["row", "at"]) fun _ _ _ _ _ _ us hl => match us, hl with | [_, _], _ => rfl
  have Cmoves_of : CalQ P w K mg base 1 "moves_of" φmoves_of := dmoves_of BT KC  D5 b5
  have D6 := def_mk (st := topS 4) X G a6 l6 c6 k6
  have b6 := D6.fn.binds rfl (ps := ["span", "move"]) fun _ _ _ _ _ _ us hl => match us, hl with | [_, _], _ => rfl
  have Cchanged : CalQ P w K mg base 1 "changed" φchanged := dchanged BT KC  D6 b6
  have D7 := def_mk (st := topS 3) X G a7 l7 c7 k7
  have b7 := D7.fn.binds rfl (ps := ["span", "second"]) fun _ _ _ _ _ _ us hl => match us, hl with | [_, _], _ => rfl
  have Chalved : CalQ P w K mg base 1 "halved" φhalved := dhalved BT KC  D7 b7
  have D8 := def_mk (st := topS 5) X G a8 l8 c8 k8
  have b8 := D8.fn.binds rfl (ps := ["span", "move"]) fun _ _ _ _ _ _ us hl => match us, hl with | [_, _], _ => rfl
  have Cmoved : CalQ P w K mg base 2 "moved" φmoved := dmoved BT KC Cchanged Chalved D8 b8
  have D9 := def_mk (st := topS 6) X G a9 l9 c9 k9
  have b9 := D9.fn.binds rfl (ps := ["span", "moves"]) fun _ _ _ _ _ _ us hl => match us, hl with | [_, _], _ => rfl
  have Cspans : CalQ P w K mg base 3 "spans" φspans := dspans BT KC Cmoved D9 b9
  have D10 := def_mk (st := topS 7) X G a10 l10 c10 k10
  have b10 := D10.fn.binds rfl (ps := ["span", "moves"]) fun _ _ _ _ _ _ us hl => match us, hl with | [_, _], _ => rfl
  have Clast_span : CalQ P w K mg base 4 "last_span" φlast_span := dlast_span BT KC Cspans D10 b10
  have D11 := def_mk (st := topS 17) X G a11 l11 c11 k11
  have b11 := D11.fn.binds rfl (ps := ["row", "width", "height"]) fun _ _ _ _ _ _ us hl => match us, hl with | [_, _, _], _ => rfl
  have Ccount_places : CalQ P w K mg base 5 "count_places" φcount_places := dcount_places BT KC Cspans_of Cmoves_of Clast_span D11 b11
  have D12 := def_mk (st := topS 18) X G a12 l12 c12 k12
  have b12 := D12.fn.binds rfl (ps := ["row", "width", "height"]) fun _ _ _ _ _ _ us hl => match us, hl with | [_, _, _], _ => rfl
  have Ccount_still : CalQ P w K mg base 5 "count_still" φcount_still := dcount_still BT KC Cmoves_of Cspans_of Clast_span D12 b12
  have D13 := def_mk (st := topS 11) X G a13 l13 c13 k13
  have b13 := D13.fn.binds rfl (ps := ["moves"]) fun _ _ _ _ _ _ us hl => match us, hl with | [_], _ => rfl
  have Cforgets : CalQ P w K mg base 1 "forgets" φforgets := dforgets BT KC  D13 b13
  have D14 := def_mk (st := topS 12) X G a14 l14 c14 k14
  have b14 := D14.fn.binds rfl (ps := ["moves"]) fun _ _ _ _ _ _ us hl => match us, hl with | [_], _ => rfl
  have Ckept_moves : CalQ P w K mg base 2 "kept_moves" φkept_moves := dkept_moves BT KC Cforgets D14 b14
  have D15 := def_mk (st := topS 13) X G a15 l15 c15 k15
  have b15 := D15.fn.binds rfl (ps := ["width", "rows"]) fun _ _ _ _ _ _ us hl => match us, hl with | [_, _], _ => rfl
  have Ctried_spans : CalQ P w K mg base 2 "tried_spans" φtried_spans := dtried_spans BT KC Cforgets Cspans_of D15 b15
  have D16 := def_mk (st := topS 14) X G a16 l16 c16 k16
  have b16 := D16.fn.binds rfl (ps := ["moves"]) fun _ _ _ _ _ _ us hl => match us, hl with | [_], _ => rfl
  have Cis_fixed_along : CalQ P w K mg base 5 "is_fixed_along" φis_fixed_along := dis_fixed_along BT KC Cforgets Ckept_moves Clast_span Ctried_spans D16 b16
  have D17 := def_mk (st := topS 15) X G a17 l17 c17 k17
  have b17 := D17.fn.binds rfl (ps := ["row"]) fun _ _ _ _ _ _ us hl => match us, hl with | [_], _ => rfl
  have Cis_fixed : CalQ P w K mg base 6 "is_fixed" φis_fixed := dis_fixed BT KC Cis_fixed_along Cmoves_of D17 b17
  have D18 := def_mk (st := topS 20) X G a18 l18 c18 k18
  have b18 := D18.fn.binds rfl (ps := ["row", "goal"]) fun _ _ _ _ _ _ us hl => match us, hl with | [_, _], _ => rfl
  have Ccount_starts : CalQ P w K mg base 5 "count_starts" φcount_starts := dcount_starts BT KC Cmoves_of Cspans_of Clast_span D18 b18
  have D19 := def_mk (st := topS 26) X G a19 l19 c19 k19
  have b19 := D19.fn.binds rfl (ps := ["move", "start", "end", "width"]) fun _ _ _ _ _ _ us hl => match us, hl with | [_, _, _, _], _ => rfl
  have C_law_gone : CalQ P w K mg base 1 "_law_gone" φ_law_gone := d_law_gone BT KC  D19 b19
  have D20 := def_mk (st := topS 27) X G a20 l20 c20 k20
  have b20 := D20.fn.binds rfl (ps := ["span", "moves"]) fun _ _ _ _ _ _ us hl => match us, hl with | [_, _], _ => rfl
  have C_law_trail : CalQ P w K mg base 2 "_law_trail" φ_law_trail := d_law_trail BT KC C_law_gone D20 b20
  have D21 := def_mk (st := topS 28) X G a21 l21 c21 k21
  have b21 := D21.fn.binds rfl (ps := ["span", "moves"]) fun _ _ _ _ _ _ us hl => match us, hl with | [_, _], _ => rfl
  have C_law_end : CalQ P w K mg base 3 "_law_end" φ_law_end := d_law_end BT KC C_law_trail D21 b21
  have D22 := def_mk (st := topS 29) X G a22 l22 c22 k22
  have b22 := D22.fn.binds rfl (ps := ["row", "at"]) fun _ _ _ _ _ _ us hl => match us, hl with | [_, _], _ => rfl
  have C_law_moves : CalQ P w K mg base 2 "_law_moves" φ_law_moves := d_law_moves BT KC C_law_both D22 b22
  have D23 := def_mk (st := topS 30) X G a23 l23 c23 k23
  have b23 := D23.fn.binds rfl (ps := ["width"]) fun _ _ _ _ _ _ us hl => match us, hl with | [_], _ => rfl
  have C_law_spans : CalQ P w K mg base 1 "_law_spans" φ_law_spans := d_law_spans BT KC  D23 b23
  exact dlaw BT KC C_law_row Ccount_places Ccount_still C_law_draw Cis_fixed Ccount_starts C_law_end C_law_moves C_law_spans (def_mk (st := topS 31) X G a24 l24 c24 k24)
theorem walk {l : PySem.W.OpenLaw} {q : Program} {loose : List Str} {XP : (Str → Option Value) → Heap → Prop} {YP : World → Heap → Prop} {d : DefRec} {K : Params → PySem.W.Frag} (hn : l.most = some 63) (hdf : d.params.defaults = [])
    (hY : ∀ (w : World) (h : Heap), YP w h → (K w.params).In h)
    (F : ∀ (w : World) (mg : Str → Option Value) (fa : Addr) (h : Heap), (K w.params).In h → h.Ns mainGlobals mg → mg d.name = some (.ref fa) →
      ∃ fd : FuncData, (∀ (s : Shared) (u : Value), BindsTo s fd ⟨[u], []⟩ [("script", u)]) ∧ ∀ base : Heap, (K w.params).In base → base.Ns mainGlobals mg → FnOk l.prog w (K w.params) mg base CX0 7 fa fd ["script"] (spLaw (K w.params))) :
    PySem.W.WalkO q loose XP YP l.row.toRowW d [] (fun f vs => PySem.call f vs) :=
  L2.walk_of (n := 63) (k := 7) (x := "script") (CX := fun _ => CX0) (sp := fun w => spLaw (K w.params)) hn (by decide) hdf ⟨rfl, by decide, by decide⟩ hY F (fun _ _ a ns hl _ hS => ⟨a, ns, rfl, hS, hl, fun _ => rfl⟩) fun _ _ _ _ _ z => z
end Z

open PySem PySem.W PyProof.Rows in
set_option maxRecDepth 100000 in
set_option maxHeartbeats 0 in
theorem PySem.Challenge.cw_windowkeys_k24_whole_places_counted_on_g_holds : PySem.Challenge.rw_windowkeys_k24_whole_places_counted_on_g.Holds := by
  w_on; o_law; k_head; (case hw => w_witness2)
  k_fill
  refine Z.walk (l := PySem.Challenge.rw_windowkeys_k24_whole_places_counted_on_g) rfl rfl (fun w h Y => PySem.W.kIn_of Y) ?F
  case F =>
    intro w mg fa h KX G hmg
    refine' Z.all_mk KX G hmg ?a0 ?l0 ?c0 ?k0 ?a1 ?l1 ?c1 ?k1 ?a2 ?l2 ?c2 ?k2 ?a3 ?l3 ?c3 ?k3 ?a4 ?l4 ?c4 ?k4 ?a5 ?l5 ?c5 ?k5 ?a6 ?l6 ?c6 ?k6 ?a7 ?l7 ?c7 ?k7 ?a8 ?l8 ?c8 ?k8 ?a9 ?l9 ?c9 ?k9 ?a10 ?l10 ?c10 ?k10 ?a11 ?l11 ?c11 ?k11 ?a12 ?l12 ?c12 ?k12 ?a13 ?l13 ?c13 ?k13 ?a14 ?l14 ?c14 ?k14 ?a15 ?l15 ?c15 ?k15 ?a16 ?l16 ?c16 ?k16 ?a17 ?l17 ?c17 ?k17 ?a18 ?l18 ?c18 ?k18 ?a19 ?l19 ?c19 ?k19 ?a20 ?l20 ?c20 ?k20 ?a21 ?l21 ?c21 ?k21 ?a22 ?l22 ?c22 ?k22 ?a23 ?l23 ?c23 ?k23 ?a24 ?l24 ?c24 ?k24 ?zlen ?zsum ?zmax ?zmin ?zrange ?zsorted ?zint ?zlist ?ztuple ?zreversed ?zall ?zset ?gENOUGH ?gMOVES ?wMOVES ?hMOVES ?yMOVES ?xMOVES ?rdown ?udown ?vdown ?reast ?ueast ?veast ?rfull ?ufull ?vfull ?rcenter ?ucenter ?vcenter ?rleft ?uleft ?vleft ?rmark ?umark ?vmark ?rnarrow ?unarrow ?vnarrow ?rne ?une ?vne ?rnorth ?unorth ?vnorth ?rnw ?unw ?vnw ?rrecall ?urecall ?vrecall ?rright ?uright ?vright ?rse ?use ?vse ?rshort ?ushort ?vshort ?rsouth ?usouth ?vsouth ?rsw ?usw ?vsw ?rtall ?utall ?vtall ?rup ?uup ?vup ?rwest ?uwest ?vwest ?rwide ?uwide ?vwide
    (case a0 => k_is)
    (case l0 => k_is)
    (case c0 => k_is)
    (case k0 => k_is)
    (case a1 => k_is)
    (case l1 => k_is)
    (case c1 => k_is)
    (case k1 => k_is)
    (case a2 => k_is)
    (case l2 => k_is)
    (case c2 => k_is)
    (case k2 => k_is)
    (case a3 => k_is)
    (case l3 => k_is)
    (case c3 => k_is)
    (case k3 => k_is)
    (case a4 => k_is)
    (case l4 => k_is)
    (case c4 => k_is)
    (case k4 => k_is)
    (case a5 => k_is)
    (case l5 => k_is)
    (case c5 => k_is)
    (case k5 => k_is)
    (case a6 => k_is)
    (case l6 => k_is)
    (case c6 => k_is)
    (case k6 => k_is)
    (case a7 => k_is)
    (case l7 => k_is)
    (case c7 => k_is)
    (case k7 => k_is)
    (case a8 => k_is)
    (case l8 => k_is)
    (case c8 => k_is)
    (case k8 => k_is)
    (case a9 => k_is)
    (case l9 => k_is)
    (case c9 => k_is)
    (case k9 => k_is)
    (case a10 => k_is)
    (case l10 => k_is)
    (case c10 => k_is)
    (case k10 => k_is)
    (case a11 => k_is)
    (case l11 => k_is)
    (case c11 => k_is)
    (case k11 => k_is)
    (case a12 => k_is)
    (case l12 => k_is)
    (case c12 => k_is)
    (case k12 => k_is)
    (case a13 => k_is)
    (case l13 => k_is)
    (case c13 => k_is)
    (case k13 => k_is)
    (case a14 => k_is)
    (case l14 => k_is)
    (case c14 => k_is)
    (case k14 => k_is)
    (case a15 => k_is)
    (case l15 => k_is)
    (case c15 => k_is)
    (case k15 => k_is)
    (case a16 => k_is)
    (case l16 => k_is)
    (case c16 => k_is)
    (case k16 => k_is)
    (case a17 => k_is)
    (case l17 => k_is)
    (case c17 => k_is)
    (case k17 => k_is)
    (case a18 => k_is)
    (case l18 => k_is)
    (case c18 => k_is)
    (case k18 => k_is)
    (case a19 => k_is)
    (case l19 => k_is)
    (case c19 => k_is)
    (case k19 => k_is)
    (case a20 => k_is)
    (case l20 => k_is)
    (case c20 => k_is)
    (case k20 => k_is)
    (case a21 => k_is)
    (case l21 => k_is)
    (case c21 => k_is)
    (case k21 => k_is)
    (case a22 => k_is)
    (case l22 => k_is)
    (case c22 => k_is)
    (case k22 => k_is)
    (case a23 => k_is)
    (case l23 => k_is)
    (case c23 => k_is)
    (case k23 => k_is)
    (case a24 => k_is)
    (case l24 => k_is)
    (case c24 => k_is)
    (case k24 => k_is)
    (case zlen => k_is)
    (case zsum => k_is)
    (case zmax => k_is)
    (case zmin => k_is)
    (case zrange => k_is)
    (case zsorted => k_is)
    (case zint => k_is)
    (case zlist => k_is)
    (case ztuple => k_is)
    (case zreversed => k_is)
    (case zall => k_is)
    (case zset => k_is)
    (case gENOUGH => k_is)
    (case gMOVES => k_is)
    (case wMOVES => k_is)
    (case hMOVES => exact ⟨⟨_, _, rfl, rfl⟩, ⟨_, _, rfl, rfl⟩, ⟨_, _, rfl, rfl⟩, ⟨_, _, rfl, rfl⟩, ⟨_, _, rfl, rfl⟩, ⟨_, _, rfl, rfl⟩, ⟨_, _, rfl, rfl⟩, ⟨_, _, rfl, rfl⟩, ⟨_, _, rfl, rfl⟩, ⟨_, _, rfl, rfl⟩, ⟨_, _, rfl, rfl⟩, ⟨_, _, rfl, rfl⟩, ⟨_, _, rfl, rfl⟩, ⟨_, _, rfl, rfl⟩, ⟨_, _, rfl, rfl⟩, ⟨_, _, rfl, rfl⟩, ⟨_, _, rfl, rfl⟩, ⟨_, _, rfl, rfl⟩, ⟨_, _, rfl, rfl⟩, ⟨_, _, rfl, rfl⟩, trivial⟩)
    (case yMOVES => exact rfl)
    (case xMOVES => exact rfl)
    (case rdown => k_is)
    (case udown => k_is)
    (case vdown => exact rfl)
    (case reast => k_is)
    (case ueast => k_is)
    (case veast => exact rfl)
    (case rfull => k_is)
    (case ufull => k_is)
    (case vfull => exact rfl)
    (case rcenter => k_is)
    (case ucenter => k_is)
    (case vcenter => exact rfl)
    (case rleft => k_is)
    (case uleft => k_is)
    (case vleft => exact rfl)
    (case rmark => k_is)
    (case umark => k_is)
    (case vmark => exact rfl)
    (case rnarrow => k_is)
    (case unarrow => k_is)
    (case vnarrow => exact rfl)
    (case rne => k_is)
    (case une => k_is)
    (case vne => exact rfl)
    (case rnorth => k_is)
    (case unorth => k_is)
    (case vnorth => exact rfl)
    (case rnw => k_is)
    (case unw => k_is)
    (case vnw => exact rfl)
    (case rrecall => k_is)
    (case urecall => k_is)
    (case vrecall => exact rfl)
    (case rright => k_is)
    (case uright => k_is)
    (case vright => exact rfl)
    (case rse => k_is)
    (case use => k_is)
    (case vse => exact rfl)
    (case rshort => k_is)
    (case ushort => k_is)
    (case vshort => exact rfl)
    (case rsouth => k_is)
    (case usouth => k_is)
    (case vsouth => exact rfl)
    (case rsw => k_is)
    (case usw => k_is)
    (case vsw => exact rfl)
    (case rtall => k_is)
    (case utall => k_is)
    (case vtall => exact rfl)
    (case rup => k_is)
    (case uup => k_is)
    (case vup => exact rfl)
    (case rwest => k_is)
    (case uwest => k_is)
    (case vwest => exact rfl)
    (case rwide => k_is)
    (case uwide => k_is)
    (case vwide => exact rfl)

