import PyProof.Rows.All
import HandS.ForMost
import HandS.ForExc
import HandS.IsInst
import HandS.Zip
import HandS.Deep
import HandS.TupAny
import HandS.Wide
import HandS.Walk
import HandS.Style
import HandS.Codes
import KE.GoesNew
import HandS.TupMul
import HandS.More
import HandS.Conv
import HandS.Set
import HandS.Strs
import HandS.Words
import KE.SortData
import HandS.SetFor
import HandS.TupSets
import HandS.ExcIs
import KE.DataMinMax
import PySem.Challenge.RW_limitsigns_k64_trip
set_option Elab.async false
set_option linter.all false
set_option maxRecDepth 100000
set_option autoImplicit false
/-! Den1: what a piece of the text denotes over plain data: results, data in a frozen part of the heap, environments by slots. -/
namespace DN
open PySem PySem.Spec PyProof.Rows L2

/-! ### results -/
inductive Rs (α : Type) where
  | ok (a : α)
  | err (c : Str)
  | bad
def Rs.bind {α β : Type} : Rs α → (α → Rs β) → Rs β
  | .ok a, k => k a
  | .err c, _ => .err c
  | .bad, _ => .bad
@[simp] theorem bind_ok {α β : Type} (a : α) (k : α → Rs β) : (Rs.ok a).bind k = k a := rfl
@[simp] theorem bind_err {α β : Type} (c : Str) (k : α → Rs β) : (Rs.err c).bind k = .err c := rfl
@[simp] theorem bind_bad {α β : Type} (k : α → Rs β) : (Rs.bad : Rs α).bind k = .bad := rfl

/-! ### data over a part F of the heap that stays -/
mutual
inductive DD (F : Hp) : V → PyData → Prop
  | non : DD F .non .none
  | bl (b : Bool) : DD F (.bl b) (.bool b)
  | int (i : Int) : DD F (.int i) (.int i)
  | str (x : Str) : DD F (.str x) (.str x)
  | lst {a : Addr} {xs : List V} {ds : List PyData} : F a = some (.lst xs) → DDs F xs ds → DD F (.ref a) (.list ds)
  | tup {a : Addr} {xs : List V} {ds : List PyData} : F a = some (.tup xs) → DDs F xs ds → DD F (.ref a) (.tuple ds)
inductive DDs (F : Hp) : List V → List PyData → Prop
  | nil : DDs F [] []
  | cons {v : V} {vs : List V} {d : PyData} {ds : List PyData} : DD F v d → DDs F vs ds → DDs F (v :: vs) (d :: ds)
end
section
variable {F F' : Hp}
mutual
theorem DD.mono (e : Same F F') : ∀ (d : PyData) (v : V), DD F v d → DD F' v d
  | .none, _, .non => .non
  | .bool _, _, .bl b => .bl b
  | .int _, _, .int i => .int i
  | .str _, _, .str x => .str x
  | .list ds, _, .lst h r => .lst (e _ _ h) (DDs.mono e ds _ r)
  | .tuple ds, _, .tup h r => .tup (e _ _ h) (DDs.mono e ds _ r)
theorem DDs.mono (e : Same F F') : ∀ (ds : List PyData) (vs : List V), DDs F vs ds → DDs F' vs ds
  | [], _, .nil => .nil
  | d :: ds, _, .cons h r => .cons (DD.mono e d _ h) (DDs.mono e ds _ r)
end
mutual
theorem DD.dp {K : PySem.W.Frag} {H : Hp} (e : Same F H) : ∀ (d : PyData) (v : V), DD F v d → Dp K H v d
  | .none, _, .non => .non
  | .bool _, _, .bl b => .bl b
  | .int _, _, .int i => .int i
  | .str _, _, .str x => .str x
  | .list ds, _, .lst h r => .lst (SqL.of (e _ _ h)) (DDs.dp e ds _ r)
  | .tuple ds, _, .tup h r => .tup (SqT.of (e _ _ h)) (DDs.dp e ds _ r)
theorem DDs.dp {K : PySem.W.Frag} {H : Hp} (e : Same F H) : ∀ (ds : List PyData) (vs : List V), DDs F vs ds → DpAll K H vs ds
  | [], _, .nil => .nil
  | d :: ds, _, .cons h r => .cons (DD.dp e d _ h) (DDs.dp e ds _ r)
end
theorem DDs.len : ∀ {ds : List PyData} {vs : List V}, DDs F vs ds → vs.length = ds.length
  | [], _, .nil => rfl
  | d :: ds, _, .cons _ r => congrArg (· + 1) (DDs.len r)
theorem DDs.get : ∀ {ds : List PyData} {vs : List V} {i : Nat} {d : PyData}, DDs F vs ds → ds[i]? = some d → ∃ v, vs[i]? = some v ∧ DD F v d
  | d :: ds, _, 0, _, .cons h _, e => by simp at e; subst e; exact ⟨_, rfl, h⟩
  | d :: ds, _, i + 1, _, .cons _ r, e => by
    obtain ⟨v, a, b⟩ := DDs.get (i := i) r (by simpa using e)
    exact ⟨v, by simpa using a, b⟩
theorem DDs.getV : ∀ {ds : List PyData} {vs : List V} {i : Nat} {v : V}, DDs F vs ds → vs[i]? = some v → ∃ d, ds[i]? = some d ∧ DD F v d
  | d :: ds, _, 0, _, .cons h _, e => by simp at e; subst e; exact ⟨_, rfl, h⟩
  | d :: ds, _, i + 1, _, .cons _ r, e => by
    obtain ⟨v, a, b⟩ := DDs.getV (i := i) r (by simpa using e)
    exact ⟨v, by simpa using a, b⟩
  | [], _, _, _, .nil, e => by simp at e
theorem DDs.app : ∀ {ds es : List PyData} {vs ws : List V}, DDs F vs ds → DDs F ws es → DDs F (vs ++ ws) (ds ++ es)
  | [], _, _, _, .nil, s => s
  | _ :: _, _, _, _, .cons h r, s => .cons h (DDs.app r s)
theorem DDs.take : ∀ {ds : List PyData} {vs : List V} (n : Nat), DDs F vs ds → DDs F (vs.take n) (ds.take n)
  | _, _, 0, _ => by simp; exact .nil
  | [], _, _ + 1, .nil => .nil
  | _ :: _, _, n + 1, .cons h r => .cons h (DDs.take n r)
theorem DDs.drop : ∀ {ds : List PyData} {vs : List V} (n : Nat), DDs F vs ds → DDs F (vs.drop n) (ds.drop n)
  | _, _, 0, r => by simpa using r
  | [], _, _ + 1, .nil => .nil
  | _ :: _, _, n + 1, .cons h r => DDs.drop n r
theorem DDs.set {v : V} {d : PyData} (h : DD F v d) : ∀ {ds : List PyData} {vs : List V} (n : Nat), DDs F vs ds → DDs F (vs.set n v) (ds.set n d)
  | [], _, _, .nil => .nil
  | _ :: _, _, 0, .cons _ r => .cons h r
  | _ :: _, _, n + 1, .cons g r => .cons g (DDs.set h n r)
theorem DDs.ints : ∀ (ns : List Int), DDs F (ns.map V.int) (ns.map PyData.int)
  | [] => .nil
  | n :: ns => .cons (.int n) (DDs.ints ns)
/-- the values of a list of ints -/
theorem DDs.ofInts : ∀ {ns : List Int} {vs : List V}, DDs F vs (ns.map PyData.int) → vs = ns.map V.int
  | [], _, .nil => rfl
  | n :: ns, _, .cons (.int _) r => by rw [DDs.ofInts r]; rfl
theorem DDs.ofBools : ∀ {ns : List Bool} {vs : List V}, DDs F vs (ns.map PyData.bool) → vs = ns.map V.bl
  | [], _, .nil => rfl
  | n :: ns, _, .cons (.bl _) r => by rw [DDs.ofBools r]; rfl
theorem DDs.ofStrs : ∀ {ns : List Str} {vs : List V}, DDs F vs (ns.map PyData.str) → vs = ns.map V.str
  | [], _, .nil => rfl
  | n :: ns, _, .cons (.str _) r => by rw [DDs.ofStrs r]; rfl
end

/-! ### what a slot may hold -/
/-- a trip: its net, where it stands, what is done, what is undone -/
structure Ob where
  n : PyData
  p : PyData
  D : List PyData
  U : List PyData
inductive R where
  /-- data that stays -/
  | val (d : PyData)
  /-- a list of ours that nobody else holds; its items stay -/
  | own (xs : List PyData)
  /-- a dict of ours, its keys tuples; ints and texts -/
  | dct (kvs : List (List Key × PyData))
  | dck (kvs : List (Key × PyData))
  /-- the script -/
  | scr (ns : List Int)
  /-- a value as it is (a caught exception) -/
  | raw (v : V)
  /-- a dict that stays, its keys tuples -/
  | dfz (kvs : List (List Key × PyData))
  /-- an instance of ours of the class at c; its address, if it was handed in -/
  | obj (id : Option Addr) (c : Addr) (o : Ob)
  /-- an instance that is only looked at -/
  | vie (c : Addr) (n p : PyData)
def R.isOwn : R → Bool
  | .own _ => true
  | .dct _ => true
  | .dck _ => true
  | .obj _ _ _ => true
  | _ => false
abbrev KD {κ : Type} (F : Hp) : List (κ × V) → List (κ × PyData) → Prop := Paired fun (p : κ × V) (q : κ × PyData) => p.1 = q.1 ∧ DD F p.2 q.2
/-- the class of trips: its fields are the instances' own -/
structure TripC (K : PySem.W.Frag) (c : Addr) : Prop where
  cls : L2.Cls K c
  n : L2.NoAttr K c "net"
  p : L2.NoAttr K c "present"
  d : L2.NoAttr K c "done"
  u : L2.NoAttr K c "undone"
def flds (v1 v2 : V) (l1 l2 : Addr) : List (Str × V) := [("net", v1), ("present", v2), ("done", .ref l1), ("undone", .ref l2)]
/-- the instance at a with its dict and its two lists -/
def ObAt (F H : Hp) (a c dx l1 l2 : Addr) (o : Ob) : Prop := ∃ v1 v2 us1 us2, H a = some (.ins c dx (flds v1 v2 l1 l2)) ∧ H dx = some (.own a) ∧ H l1 = some (.lst us1) ∧ H l2 = some (.lst us2) ∧ l1 ≠ l2 ∧
  DD F v1 o.n ∧ DD F v2 o.p ∧ DDs F us1 o.D ∧ DDs F us2 o.U
def Rep (K : PySem.W.Frag) (F H : Hp) (v : V) : R → Prop
  | .val d => DD F v d
  | .own xs => ∃ p vs, v = .ref p ∧ H p = some (.lst vs) ∧ F p = none ∧ DDs F vs xs
  | .dct kvs => ∃ p ws, v = .ref p ∧ H p = some (.dT ws) ∧ F p = none ∧ KD F ws kvs
  | .dck kvs => ∃ p ws, v = .ref p ∧ H p = some (.dK ws) ∧ F p = none ∧ KD F ws kvs
  | .scr ns => ∃ a, v = .ref a ∧ SqL K F a (ns.map V.int)
  | .raw u => v = u
  | .dfz kvs => ∃ p o ws, v = .ref p ∧ F p = some (.frz o (.dT ws)) ∧ KD F ws kvs
  | .obj id c o => ∃ a dx l1 l2, v = .ref a ∧ ((∀ b, id = some b → a = b) ∧ TripC K c) ∧ ObAt F H a c dx l1 l2 o ∧ F a = none ∧ F dx = none ∧ F l1 = none ∧ F l2 = none
  | .vie c n d => TripC K c ∧ ∃ a dx l1 l2 v1 v2, v = .ref a ∧ F a = some (.ins c dx (flds v1 v2 l1 l2)) ∧ DD F v1 n ∧ DD F v2 d
/-- the cells of a thing of ours -/
def Cell (H : Hp) (v : V) : R → Addr → Prop
  | .own _, q => v = .ref q
  | .dct _, q => v = .ref q
  | .dck _, q => v = .ref q
  | .obj _ c _, q => ∃ a dx v1 v2 l1 l2, v = .ref a ∧ H a = some (.ins c dx (flds v1 v2 l1 l2)) ∧ (q = a ∨ q = dx ∨ q = l1 ∨ q = l2)
  | _, _ => False
theorem ObAt.mono {F F' H H' : Hp} {a c dx l1 l2 : Addr} {o : Ob} (e : Same F F') (g : Same H H') (h : ObAt F H a c dx l1 l2 o) : ObAt F' H' a c dx l1 l2 o := by
  obtain ⟨v1, v2, us1, us2, h1, h2, h3, h4, h5, h6, h7, h8, h9⟩ := h
  exact ⟨v1, v2, us1, us2, g _ _ h1, g _ _ h2, g _ _ h3, g _ _ h4, h5, DD.mono e _ _ h6, DD.mono e _ _ h7, DDs.mono e _ _ h8, DDs.mono e _ _ h9⟩
/-- the same where only other cells change -/
theorem ObAt.away {F H H' : Hp} {a c dx l1 l2 : Addr} {o : Ob} (g : ∀ q, q = a ∨ q = dx ∨ q = l1 ∨ q = l2 → H' q = H q) (h : ObAt F H a c dx l1 l2 o) : ObAt F H' a c dx l1 l2 o := by
  obtain ⟨v1, v2, us1, us2, h1, h2, h3, h4, r⟩ := h
  exact ⟨v1, v2, us1, us2, by rw [g a (.inl rfl)]; exact h1, by rw [g dx (.inr (.inl rfl))]; exact h2, by rw [g l1 (.inr (.inr (.inl rfl)))]; exact h3, by rw [g l2 (.inr (.inr (.inr rfl)))]; exact h4, r⟩
theorem Cell.here {K : PySem.W.Frag} {F H : Hp} {v : V} {r : R} {q : Addr} (h : Rep K F H v r) (c : Cell H v r q) : F q = none ∧ ∃ o, H q = some o ∧ ∀ xs, o ≠ .tup xs := by
  cases r with
  | own _ => obtain ⟨p, vs, rfl, a, b, _⟩ := h; cases c; exact ⟨b, _, a, fun _ z => by cases z⟩
  | dct _ => obtain ⟨p, vs, rfl, a, b, _⟩ := h; cases c; exact ⟨b, _, a, fun _ z => by cases z⟩
  | dck _ => obtain ⟨p, vs, rfl, a, b, _⟩ := h; cases c; exact ⟨b, _, a, fun _ z => by cases z⟩
  | obj id k o =>
    obtain ⟨a, dx, l1, l2, rfl, _, ⟨v1, v2, us1, us2, h1, h2, h3, h4, _⟩, f1, f2, f3, f4⟩ := h
    obtain ⟨a', dx', w1, w2, m1, m2, e, g, hq⟩ := c
    cases e
    rw [h1] at g
    cases g
    rcases hq with rfl | rfl | rfl | rfl
    · exact ⟨f1, _, h1, fun _ z => by cases z⟩
    · exact ⟨f2, _, h2, fun _ z => by cases z⟩
    · exact ⟨f3, _, h3, fun _ z => by cases z⟩
    · exact ⟨f4, _, h4, fun _ z => by cases z⟩
  | _ => exact c.elim
/-- its cells lie where they lay -/
theorem Cell.back {K : PySem.W.Frag} {F H H' : Hp} {v : V} {r : R} {q : Addr} (h : Rep K F H v r) (e : Same H H') (c : Cell H' v r q) : Cell H v r q := by
  cases r with
  | obj id k o =>
    obtain ⟨a, dx, l1, l2, rfl, _, ⟨v1, v2, us1, us2, h1, _⟩, _⟩ := h
    obtain ⟨a', dx', w1, w2, m1, m2, e', g, hq⟩ := c
    cases e'
    rw [e _ _ h1] at g
    cases g
    exact ⟨a, dx, v1, v2, l1, l2, rfl, h1, hq⟩
  | _ => exact c
theorem Cell.own {H : Hp} {v : V} {r : R} {q : Addr} (c : Cell H v r q) : r.isOwn = true := by
  cases r with
  | own _ => rfl
  | dct _ => rfl
  | dck _ => rfl
  | obj _ _ _ => rfl
  | _ => exact c.elim
/-- its first cell -/
theorem Cell.top {K : PySem.W.Frag} {F H : Hp} {r : R} {p : Addr} (h : Rep K F H (.ref p) r) (o : r.isOwn = true) : Cell H (.ref p) r p := by
  cases r with
  | own _ => rfl
  | dct _ => rfl
  | dck _ => rfl
  | obj id k b =>
    obtain ⟨a, dx, l1, l2, e, _, ⟨v1, v2, us1, us2, h1, _⟩, _⟩ := h
    cases e
    exact ⟨p, dx, v1, v2, l1, l2, rfl, h1, .inl rfl⟩
  | _ => cases o

/-! ### heaps that grow -/
/-- nothing lies there, or a tuple (which never changes) -/
def Okn (H : Hp) (a : Addr) : Prop := ∀ o, H a = some o → ∃ xs, o = .tup xs
theorem Okn.none {H : Hp} {a : Addr} (h : H a = none) : Okn H a := fun o e => by rw [h] at e; cases e
theorem Okn.back {H H1 : Hp} {a : Addr} (e : Same H H1) (h : Okn H1 a) : Okn H a := fun o q => h o (e _ _ q)
structure Ext (F H F' H' : Hp) : Prop where
  old : Same F H
  ff : Same F F'
  hh : Same H H'
  sub : Same F' H'
  new : ∀ a, F' a ≠ none → F a ≠ none ∨ Okn H a
section
variable {F H F' H' F1 H1 F2 H2 : Hp} {K : PySem.W.Frag}
theorem Ext.refl (h : Same F H) : Ext F H F H := ⟨h, Same.refl _, Same.refl _, h, fun _ q => .inl q⟩
theorem Ext.trans (a : Ext F H F1 H1) (b : Ext F1 H1 F2 H2) : Ext F H F2 H2 :=
  ⟨a.old, a.ff.trans b.ff, a.hh.trans b.hh, b.sub, fun x q => by
    rcases b.new x q with h | h
    · exact a.new x h
    · exact .inr (h.back a.hh)⟩
/-- the heap grew, what we know did not -/
theorem Ext.more (h : Same F H) (e : Same H H') : Ext F H F H' := ⟨h, Same.refl _, e, h.trans e, fun _ q => .inl q⟩
theorem same_new {H : Hp} {p : Addr} {o : HO} (h : H p = none) : Same H (upd H p o) := fun b x e => by
  rw [upd_ne (ne_of_none e h)]; exact e
theorem same_upd2 {F H : Hp} {p : Addr} {o : HO} (h : Same F H) : Same (upd F p o) (upd H p o) := fun b x e => by
  by_cases q : b = p
  · subst q; rw [upd_same] at *; exact e
  · rw [upd_ne q] at *; exact h _ _ e
/-- a new object that stays -/
theorem Ext.add {p : Addr} {o : HO} (h : Same F H) (n : H p = none) : Ext F H (upd F p o) (upd H p o) :=
  ⟨h, same_new (h.free n), same_new n, same_upd2 h, fun a q => by
    by_cases e : a = p
    · subst e; exact .inr (.none n)
    · rw [upd_ne e] at q; exact .inl q⟩
/-- a new object of ours -/
theorem Ext.addH {p : Addr} {o : HO} (h : Same F H) (n : H p = none) : Ext F H F (upd H p o) := Ext.more h (same_new n)
/-- an object of ours stays from now on -/
theorem Ext.freeze {p : Addr} {o : HO} (e : Ext F H F' H') (hp : H' p = some o) (hf : F' p = none) (n : H p = none) : Ext F H (upd F' p o) H' where
  old := e.old
  ff := e.ff.trans (same_new hf)
  hh := e.hh
  sub := fun b x q => by
    by_cases z : b = p
    · subst z; rw [upd_same] at q; rw [hp]; exact q
    · rw [upd_ne z] at q; exact e.sub _ _ q
  new := fun a q => by
    by_cases z : a = p
    · subst z; exact .inr (.none n)
    · rw [upd_ne z] at q; exact e.new a q
theorem Ext.own {p : Addr} {o : HO} (e : Ext F H F' H') (hp : H p = some o) (n : F p = none) (ho : ∀ xs, o ≠ .tup xs := by intro _ z; cases z) : F' p = none := by
  cases q : F' p with
  | none => rfl
  | some y =>
    rcases e.new p (by rw [q]; exact fun z => nomatch z) with h | h
    · exact absurd n h
    · obtain ⟨xs, z⟩ := h _ hp
      exact absurd z (ho xs)
theorem KD.mono {κ : Type} (e : Same F F') : ∀ {ws : List (κ × V)} {kvs : List (κ × PyData)}, KD F ws kvs → KD F' ws kvs
  | _, _, .nil => .nil
  | _, _, .cons r t => .cons ⟨r.1, DD.mono e _ _ r.2⟩ (KD.mono e t)
theorem same_l {a : Addr} {xs : List V} (e : Same F F') (h : SqL K F a xs) : SqL K F' a xs := e.seq h
theorem Rep.step {v : V} {r : R} (e : Ext F H F' H') (h : Rep K F H v r) : Rep K F' H' v r := by
  cases r with
  | val d => exact DD.mono e.ff _ _ h
  | own xs =>
    obtain ⟨p, vs, rfl, a, b, c⟩ := h
    exact ⟨p, vs, rfl, e.hh _ _ a, e.own a b, DDs.mono e.ff _ _ c⟩
  | dct xs =>
    obtain ⟨p, vs, rfl, a, b, c⟩ := h
    exact ⟨p, vs, rfl, e.hh _ _ a, e.own a b, KD.mono e.ff c⟩
  | dck xs =>
    obtain ⟨p, vs, rfl, a, b, c⟩ := h
    exact ⟨p, vs, rfl, e.hh _ _ a, e.own a b, KD.mono e.ff c⟩
  | scr ns =>
    obtain ⟨a, rfl, h⟩ := h
    exact ⟨a, rfl, same_l e.ff h⟩
  | raw u => exact h
  | dfz kvs =>
    obtain ⟨p, o, ws, rfl, a, b⟩ := h
    exact ⟨p, o, ws, rfl, e.ff _ _ a, KD.mono e.ff b⟩
  | obj id c o =>
    obtain ⟨a, dx, l1, l2, rfl, hi, hb, f1, f2, f3, f4⟩ := h
    obtain ⟨v1, v2, us1, us2, h1, h2, h3, h4, r⟩ := _root_.id hb
    exact ⟨a, dx, l1, l2, rfl, hi, hb.mono e.ff e.hh, e.own h1 f1, e.own h2 f2, e.own h3 f3, e.own h4 f4⟩
  | vie c n d =>
    obtain ⟨tc, a, dx, l1, l2, v1, v2, rfl, h1, h2, h3⟩ := h
    exact ⟨tc, a, dx, l1, l2, v1, v2, rfl, e.ff _ _ h1, DD.mono e.ff _ _ h2, DD.mono e.ff _ _ h3⟩
end
/-- a thing stays what it is where a cell of another thing changes -/
theorem Rep.move {K : PySem.W.Frag} {F F' H H' : Hp} {w : V} {y : R} {p : Addr} (sm : Same F F') (hH : ∀ q, q ≠ p → H' q = H q) (hF : ∀ q, q ≠ p → F' q = F q) (b : Rep K F H w y) (nc : ¬ Cell H w y p) :
    Rep K F' H' w y ∧ ∀ q, Cell H' w y q → Cell H w y q := by
  cases y with
  | val d => exact ⟨DD.mono sm _ _ b, fun _ z => z⟩
  | scr ns => obtain ⟨c, rfl, q⟩ := b; exact ⟨⟨c, rfl, same_l sm q⟩, fun _ z => z⟩
  | raw u => exact ⟨b, fun _ z => z⟩
  | dfz _ => obtain ⟨q, o, us, rfl, b1, b2⟩ := b; exact ⟨⟨q, o, us, rfl, sm _ _ b1, KD.mono sm b2⟩, fun _ z => z⟩
  | vie c n d =>
    obtain ⟨tc, a, dx, l1, l2, v1, v2, rfl, h1, h2, h3⟩ := b
    exact ⟨⟨tc, a, dx, l1, l2, v1, v2, rfl, sm _ _ h1, DD.mono sm _ _ h2, DD.mono sm _ _ h3⟩, fun _ z => z⟩
  | own _ =>
    obtain ⟨q, us, rfl, b1, b2, b3⟩ := b
    have ne : q ≠ p := fun z => nc (by subst z; exact rfl)
    exact ⟨⟨q, us, rfl, by rw [hH _ ne]; exact b1, by rw [hF _ ne]; exact b2, DDs.mono sm _ _ b3⟩, fun _ z => z⟩
  | dct _ =>
    obtain ⟨q, us, rfl, b1, b2, b3⟩ := b
    have ne : q ≠ p := fun z => nc (by subst z; exact rfl)
    exact ⟨⟨q, us, rfl, by rw [hH _ ne]; exact b1, by rw [hF _ ne]; exact b2, KD.mono sm b3⟩, fun _ z => z⟩
  | dck _ =>
    obtain ⟨q, us, rfl, b1, b2, b3⟩ := b
    have ne : q ≠ p := fun z => nc (by subst z; exact rfl)
    exact ⟨⟨q, us, rfl, by rw [hH _ ne]; exact b1, by rw [hF _ ne]; exact b2, KD.mono sm b3⟩, fun _ z => z⟩
  | obj id c o =>
    obtain ⟨a, dx, l1, l2, rfl, hi, hb, f1, f2, f3, f4⟩ := b
    obtain ⟨v1, v2, us1, us2, h1, h2, h3, h4, r⟩ := _root_.id hb
    have ne : ∀ q, q = a ∨ q = dx ∨ q = l1 ∨ q = l2 → q ≠ p := fun q hq z => nc ⟨a, dx, v1, v2, l1, l2, rfl, h1, z ▸ hq⟩
    refine ⟨⟨a, dx, l1, l2, rfl, hi, (hb.away fun q hq => hH q (ne q hq)).mono sm (Same.refl _), by rw [hF _ (ne a (.inl rfl))]; exact f1, by rw [hF _ (ne dx (.inr (.inl rfl)))]; exact f2,
      by rw [hF _ (ne l1 (.inr (.inr (.inl rfl))))]; exact f3, by rw [hF _ (ne l2 (.inr (.inr (.inr rfl))))]; exact f4⟩, fun q z => ?_⟩
    obtain ⟨a', dx', w1, w2, m1, m2, e', g, hq⟩ := z
    cases e'
    rw [hH _ (ne a (.inl rfl))] at g
    exact ⟨a, dx', w1, w2, m1, m2, rfl, g, hq⟩

/-! ### environments -/
abbrev Ev := List (Option R)
/-- G: what must stay; H0: the def's entry -/
structure Base (G H0 F H : Hp) : Prop where
  keep : Same G F
  hh : Same H0 H
  sub : Same F H
  new : ∀ a, F a ≠ none → G a ≠ none ∨ Okn H0 a
section
variable {G H0 F H F' H' F1 H1 : Hp}
theorem Base.refl (h : Same F H) : Base F H F H := ⟨Same.refl _, Same.refl _, h, fun _ q => .inl q⟩
theorem Base.step (b : Base G H0 F H) (e : Ext F H F' H') : Base G H0 F' H' :=
  ⟨b.keep.trans e.ff, b.hh.trans e.hh, e.sub, fun x q => by
    rcases e.new x q with h | h
    · exact b.new x h
    · exact .inr (h.back b.hh)⟩
theorem Base.ext (h : Same F H) (b : Base F H F' H') : Ext F H F' H' := ⟨h, b.keep, b.hh, b.sub, b.new⟩
theorem Base.re (b : Base G H0 F1 H1) (c : Base F1 H0 F' H') : Base G H0 F' H' :=
  ⟨b.keep.trans c.keep, c.hh, c.sub, fun x q => by
    rcases c.new x q with h | h
    · exact b.new x h
    · exact .inr h⟩
theorem Base.self (b : Base G H0 F H) : Base F H0 F H := ⟨Same.refl _, b.hh, b.sub, fun _ q => .inl q⟩
end
structure Rel (K : PySem.W.Frag) (G H0 : Hp) (ρ : Ev) (σ : L2.St) (F H : Hp) : Prop where
  base : Base G H0 F H
  len : ρ.length = σ.length
  at_ : ∀ (i : Nat) (r : R), ρ[i]? = some (some r) → ∃ v, σ[i]? = some (some v) ∧ Rep K F H v r
  frs : ∀ (i : Nat) (r : R) (v : V) (q : Addr), ρ[i]? = some (some r) → σ[i]? = some (some v) → Cell H v r q → H0 q = none
  apart : ∀ (i j : Nat) (r r' : R) (v v' : V) (q : Addr), ρ[i]? = some (some r) → ρ[j]? = some (some r') → σ[i]? = some (some v) → σ[j]? = some (some v') → Cell H v r q → Cell H v' r' q → i = j
section
variable {K : PySem.W.Frag} {G H0 F H F' H' : Hp} {ρ : Ev} {σ : L2.St}
theorem Rel.sub (r : Rel K G H0 ρ σ F H) : Same F H := r.base.sub
theorem Rel.re (r : Rel K G H0 ρ σ F H) : Rel K F H0 ρ σ F H := ⟨r.base.self, r.len, r.at_, r.frs, r.apart⟩
theorem Rel.back {F1 H1 : Hp} (b : Base G H0 F1 H1) (r : Rel K F1 H0 ρ σ F H) : Rel K G H0 ρ σ F H := ⟨b.re r.base, r.len, r.at_, r.frs, r.apart⟩
theorem Rel.step (r : Rel K G H0 ρ σ F H) (e : Ext F H F' H') : Rel K G H0 ρ σ F' H' where
  base := r.base.step e
  len := r.len
  at_ := fun i x h => by
    obtain ⟨v, a, b⟩ := r.at_ i x h
    exact ⟨v, a, b.step e⟩
  frs := fun i x v q h s c => by
    obtain ⟨w, a, b⟩ := r.at_ i x h
    rw [s] at a
    cases a
    exact r.frs i x v q h s (c.back b e.hh)
  apart := fun i j x y v w q h1 h2 s1 s2 c1 c2 => by
    obtain ⟨w1, a1, b1⟩ := r.at_ i x h1
    obtain ⟨w2, a2, b2⟩ := r.at_ j y h2
    rw [s1] at a1
    rw [s2] at a2
    cases a1
    cases a2
    exact r.apart i j x y v w q h1 h2 s1 s2 (c1.back b1 e.hh) (c2.back b2 e.hh)
/-- a new value of an expression: it stands, and if it is ours it is new -/
def RepN (K : PySem.W.Frag) (F H Hold : Hp) (v : V) (r : R) : Prop := Rep K F H v r ∧ (r.isOwn = true → ∀ p, Cell H v r p → Hold p = none)
theorem RepN.val {d : PyData} {v : V} {Hold : Hp} (h : DD F v d) : RepN K F H Hold v (.val d) := ⟨h, fun e => nomatch e⟩
theorem lt_of_get {α : Type} {l : List α} {i : Nat} {x : α} (e : l[i]? = some x) : i < l.length := by
  rcases Nat.lt_or_ge i l.length with z | z
  · exact z
  · rw [List.getElem?_eq_none z] at e; cases e
/-- a slot is set to a value that stays -/
theorem Rel.setVal {i : Nat} {r : R} {v : V} (h : Rel K G H0 ρ σ F H) (q : Rep K F H v r) (n : r.isOwn = false) : Rel K G H0 (ρ.set i (some r)) (σ.set i (some v)) F H := by
  have self : ∀ {x : R}, (ρ.set i (some r))[i]? = some (some x) → x = r ∧ i < ρ.length := fun {x} e => by
    have hl : i < ρ.length := by simpa using lt_of_get e
    rw [List.getElem?_set_self hl] at e
    cases e
    exact ⟨rfl, hl⟩
  have key : ∀ {m : Nat} {z : R} {w : V} {c : Addr}, (ρ.set i (some r))[m]? = some (some z) → Cell H w z c → i ≠ m := fun {m z w c} e o hm => by
    subst hm
    have := o.own
    rw [(self e).1, n] at this
    cases this
  refine ⟨h.base, by simp [h.len], fun j x e => ?_, fun j x w p e s o => ?_, fun j k x y w1 w2 p e1 e2 s1 s2 o1 o2 => ?_⟩
  · by_cases hj : i = j
    · subst hj
      obtain ⟨rfl, hl⟩ := self e
      exact ⟨v, List.getElem?_set_self (h.len ▸ hl), q⟩
    · rw [List.getElem?_set_ne hj] at e
      obtain ⟨w, a, b⟩ := h.at_ j x e
      exact ⟨w, by rw [List.getElem?_set_ne hj]; exact a, b⟩
  · have hj := key e o
    rw [List.getElem?_set_ne hj] at e s
    exact h.frs j x w p e s o
  · have k1 := key e1 o1
    have k2 := key e2 o2
    rw [List.getElem?_set_ne k1] at e1 s1
    rw [List.getElem?_set_ne k2] at e2 s2
    exact h.apart j k x y w1 w2 p e1 e2 s1 s2 o1 o2
/-- a slot is set to a thing of ours, new at the heap Hm that all slots knew -/
theorem Rel.setOwn {i : Nat} {r : R} {v : V} {Fm Hm : Hp} (h0 : Rel K G H0 ρ σ Fm Hm) (e : Ext Fm Hm F H) (q : RepN K F H Hm v r) : Rel K G H0 (ρ.set i (some r)) (σ.set i (some v)) F H := by
  have h := h0.step e
  cases n : r.isOwn with
  | false => exact h.setVal q.1 n
  | true =>
    have old : ∀ (j : Nat) (y : R) (w : V) (p : Addr), ρ[j]? = some (some y) → σ[j]? = some (some w) → Cell H w y p → Cell H v r p → False := fun j y w p ey s o z => by
      have np := q.2 n p z
      obtain ⟨w', a, b⟩ := h0.at_ j y ey
      rw [s] at a
      cases a
      obtain ⟨_, o', ho', _⟩ := (o.back b e.hh).here b
      rw [np] at ho'
      cases ho'
    have self : ∀ {x : R}, (ρ.set i (some r))[i]? = some (some x) → x = r ∧ i < ρ.length := fun {x} e => by
      have hl : i < ρ.length := by simpa using lt_of_get e
      rw [List.getElem?_set_self hl] at e
      cases e
      exact ⟨rfl, hl⟩
    have selfV : ∀ {w : V}, i < ρ.length → (σ.set i (some v))[i]? = some (some w) → w = v := fun {w} hl e => by
      rw [List.getElem?_set_self (h.len ▸ hl)] at e
      cases e
      rfl
    refine ⟨h.base, by simp [h.len], fun j x e => ?_, fun j x w p e s o => ?_, fun j k x y w1 w2 p e1 e2 s1 s2 o1 o2 => ?_⟩
    · by_cases hj : i = j
      · subst hj
        obtain ⟨rfl, hl⟩ := self e
        exact ⟨v, List.getElem?_set_self (h.len ▸ hl), q.1⟩
      · rw [List.getElem?_set_ne hj] at e
        obtain ⟨w, a, b⟩ := h.at_ j x e
        exact ⟨w, by rw [List.getElem?_set_ne hj]; exact a, b⟩
    · by_cases hj : i = j
      · subst hj
        obtain ⟨rfl, hl⟩ := self e
        cases selfV hl s
        exact h0.base.hh.free (q.2 n p o)
      · rw [List.getElem?_set_ne hj] at e s
        exact h.frs j x w p e s o
    · by_cases hj : i = j
      · by_cases hk : i = k
        · exact hj.symm.trans hk
        · subst hj
          obtain ⟨rfl, hl⟩ := self e1
          cases selfV hl s1
          rw [List.getElem?_set_ne hk] at e2 s2
          exact (old k y w2 p e2 s2 o2 o1).elim
      · by_cases hk : i = k
        · subst hk
          obtain ⟨rfl, hl⟩ := self e2
          cases selfV hl s2
          rw [List.getElem?_set_ne hj] at e1 s1
          exact (old j x w1 p e1 s1 o1 o2).elim
        · rw [List.getElem?_set_ne hj] at e1 s1
          rw [List.getElem?_set_ne hk] at e2 s2
          exact h.apart j k x y w1 w2 p e1 e2 s1 s2 o1 o2
/-- slots are forgotten -/
theorem Rel.unset {i : Nat} (h : Rel K G H0 ρ σ F H) : Rel K G H0 (ρ.set i none) (σ.set i none) F H where
  base := h.base
  len := by simp [h.len]
  at_ := fun j x e => by
    by_cases hj : i = j
    · subst hj
      rw [List.getElem?_set] at e
      simp at e
    · rw [List.getElem?_set_ne hj] at e
      obtain ⟨w, a, b⟩ := h.at_ j x e
      exact ⟨w, by rw [List.getElem?_set_ne hj]; exact a, b⟩
  frs := fun j x w p e s o => by
    by_cases hj : i = j
    · subst hj
      rw [List.getElem?_set] at e
      simp at e
    · rw [List.getElem?_set_ne hj] at e s
      exact h.frs j x w p e s o
  apart := fun j k x y w1 w2 p e1 e2 s1 s2 o1 o2 => by
    have key : ∀ {m : Nat} {z : R}, (ρ.set i none)[m]? = some (some z) → i ≠ m := fun {m z} e hm => by
      subst hm
      rw [List.getElem?_set] at e
      simp at e
    have k1 := key e1
    have k2 := key e2
    rw [List.getElem?_set_ne k1] at e1 s1
    rw [List.getElem?_set_ne k2] at e2 s2
    exact h.apart j k x y w1 w2 p e1 e2 s1 s2 o1 o2
end
end DN
/-! Den2: judgements of expressions, tests, arguments, statements over plain data. -/
namespace DN
open PySem PySem.Spec PyProof.Rows L2

/-- a value as data that stays: a new list of ours is let go -/
def R.d : R → Rs PyData
  | .val d => .ok d
  | .own xs => .ok (.list xs)
  | _ => .bad
@[simp] theorem d_val (d : PyData) : (R.val d).d = .ok d := rfl
@[simp] theorem d_own (xs : List PyData) : (R.own xs).d = .ok (.list xs) := rfl
/-- an argument of a def -/
def R.a : R → Rs R
  | .val d => .ok (.val d)
  | .own xs => .ok (.val (.list xs))
  | .scr ns => .ok (.scr ns)
  | .dfz kvs => .ok (.dfz kvs)
  | _ => .bad
@[simp] theorem a_dfz (kvs : List (List Key × PyData)) : (R.dfz kvs).a = .ok (.dfz kvs) := rfl
@[simp] theorem a_val (d : PyData) : (R.val d).a = .ok (.val d) := rfl
@[simp] theorem a_own (xs : List PyData) : (R.own xs).a = .ok (.val (.list xs)) := rfl
@[simp] theorem a_scr (xs : List Int) : (R.scr xs).a = .ok (.scr xs) := rfl

/-! ### what is asked behind -/
section
variable (K : PySem.W.Frag) (mg : Str → Option Value) (W : WX) (σ : L2.St) (F H : Hp)
def Post (Q : VK) : Rs R → Prop
  | .ok r => ∀ v F' H', Ext F H F' H' → RepN K F' H' H v r → Q v H'
  | .err c => ∀ C H', mg c = some (.ref C) → Same H H' → W (.ref C) none σ H'
  | .bad => False
def PostB (Q : Bool → Hp → Prop) : Rs Bool → Prop
  | .ok b => ∀ F' H', Ext F H F' H' → Q b H'
  | .err c => ∀ C H', mg c = some (.ref C) → Same H H' → W (.ref C) none σ H'
  | .bad => False
def PostD (Q : List V → Hp → Prop) : Rs (List PyData) → Prop
  | .ok ds => ∀ vs F' H', Ext F H F' H' → DDs F' vs ds → Q vs H'
  | .err c => ∀ C H', mg c = some (.ref C) → Same H H' → W (.ref C) none σ H'
  | .bad => False
abbrev Args (F H : Hp) : List V → List R → Prop := Paired fun v r => Rep K F H v r ∧ r.isOwn = false
def PostA (Q : List V → Hp → Prop) : Rs (List R) → Prop
  | .ok rs => ∀ vs F' H', Ext F H F' H' → Args K F' H' vs rs → Q vs H'
  | .err c => ∀ C H', mg c = some (.ref C) → Same H H' → W (.ref C) none σ H'
  | .bad => False
end
section
variable {K : PySem.W.Frag} {mg : Str → Option Value} {W : WX} {σ : L2.St} {F H F1 H1 : Hp}
theorem Args.step {vs : List V} {rs : List R} (e : Ext F H F1 H1) : ∀ {vs : List V} {rs : List R}, Args K F H vs rs → Args K F1 H1 vs rs
  | _, _, .nil => .nil
  | _, _, .cons r t => .cons ⟨r.1.step e, r.2⟩ (Args.step (vs := vs) (rs := rs) e t)
theorem post_step {Q : VK} {m : Rs R} (P : Post K mg W σ F H Q m) (e : Ext F H F1 H1) : Post K mg W σ F1 H1 Q m := by
  cases m with
  | ok r => exact fun v F' H' x y => P v F' H' (e.trans x) ⟨y.1, fun o p q => e.hh.free (y.2 o p q)⟩
  | err c => exact fun C H' x y => P C H' x (e.hh.trans y)
  | bad => exact P
theorem postB_step {Q : Bool → Hp → Prop} {m : Rs Bool} (P : PostB mg W σ F H Q m) (e : Ext F H F1 H1) : PostB mg W σ F1 H1 Q m := by
  cases m with
  | ok r => exact fun F' H' x => P F' H' (e.trans x)
  | err c => exact fun C H' x y => P C H' x (e.hh.trans y)
  | bad => exact P
theorem postD_step {Q : List V → Hp → Prop} {m : Rs (List PyData)} (P : PostD mg W σ F H Q m) (e : Ext F H F1 H1) : PostD mg W σ F1 H1 Q m := by
  cases m with
  | ok r => exact fun v F' H' x y => P v F' H' (e.trans x) y
  | err c => exact fun C H' x y => P C H' x (e.hh.trans y)
  | bad => exact P
theorem postA_step {Q : List V → Hp → Prop} {m : Rs (List R)} (P : PostA K mg W σ F H Q m) (e : Ext F H F1 H1) : PostA K mg W σ F1 H1 Q m := by
  cases m with
  | ok r => exact fun v F' H' x y => P v F' H' (e.trans x) y
  | err c => exact fun C H' x y => P C H' x (e.hh.trans y)
  | bad => exact P

/-- the wishes alike: a result of another kind -/
inductive Alike : {α β : Type} → (m : Rs α) → (α → Rs β) → (Rs β) → Prop
  | mk {α β : Type} {m : Rs α} {k : α → Rs β} : Alike m k (m.bind k)

theorem post_bind {Q Q1 : VK} {m : Rs R} {k : R → Rs R} (P : Post K mg W σ F H Q (m.bind k))
    (h : ∀ r v F1 H1, Ext F H F1 H1 → RepN K F1 H1 H v r → Post K mg W σ F1 H1 Q (k r) → Q1 v H1) : Post K mg W σ F H Q1 m := by
  cases m with
  | ok r => exact fun v F' H' x y => h r v F' H' x y (post_step P x)
  | err c => exact P
  | bad => exact P
/-- a new list of ours is let go -/
theorem RepN.data {v : V} {r : R} {d : PyData} (e : Ext F H F1 H1) (q : RepN K F1 H1 H v r) (hd : r.d = .ok d) : ∃ F2, Ext F H F2 H1 ∧ Same F1 F2 ∧ DD F2 v d := by
  cases r with
  | val x =>
    cases hd
    exact ⟨F1, e, Same.refl _, q.1⟩
  | own xs =>
    cases hd
    obtain ⟨p, vs, rfl, a, b, c⟩ := q.1
    exact ⟨upd F1 p (.lst vs), e.freeze a b (q.2 rfl p rfl), same_new b, .lst upd_same (DDs.mono (same_new b) _ _ c)⟩
  | dct _ => cases hd
  | dck _ => cases hd
  | scr _ => cases hd
  | raw _ => cases hd
  | dfz _ => cases hd
  | obj _ _ _ => cases hd
  | vie _ _ _ => cases hd
theorem RepN.arg {v : V} {r r' : R} (e : Ext F H F1 H1) (q : RepN K F1 H1 H v r) (hd : r.a = .ok r') : ∃ F2, Ext F H F2 H1 ∧ Same F1 F2 ∧ Rep K F2 H1 v r' ∧ r'.isOwn = false := by
  cases r with
  | val x =>
    cases hd
    exact ⟨F1, e, Same.refl _, q.1, rfl⟩
  | own xs =>
    cases hd
    obtain ⟨p, vs, rfl, a, b, c⟩ := q.1
    exact ⟨upd F1 p (.lst vs), e.freeze a b (q.2 rfl p rfl), same_new b, .lst upd_same (DDs.mono (same_new b) _ _ c), rfl⟩
  | dct _ => cases hd
  | dck _ => cases hd
  | scr _ => cases hd; exact ⟨F1, e, Same.refl _, q.1, rfl⟩
  | raw _ => cases hd
  | dfz _ => cases hd; exact ⟨F1, e, Same.refl _, q.1, rfl⟩
  | obj _ _ _ => cases hd
  | vie _ _ _ => cases hd
theorem post_data {Q Q1 : VK} {m : Rs R} {k : PyData → Rs R} (P : Post K mg W σ F H Q (m.bind fun r => r.d.bind k))
    (h : ∀ d v F1 H1, Ext F H F1 H1 → DD F1 v d → Post K mg W σ F1 H1 Q (k d) → Q1 v H1) : Post K mg W σ F H Q1 m := by
  cases m with
  | ok r =>
    intro v F' H' x y
    cases hd : r.d with
    | ok d =>
      obtain ⟨F2, e2, _, q2⟩ := y.data x hd
      have P' : Post K mg W σ F H Q (k d) := by
        have : ((Rs.ok r).bind fun r => r.d.bind k) = k d := by simp [hd]
        rw [this] at P; exact P
      exact h d v F2 H' e2 q2 (post_step P' e2)
    | err c => exact absurd hd (by cases r <;> simp [R.d])
    | bad =>
      have : ((Rs.ok r).bind fun r => r.d.bind k) = .bad := by simp [hd]
      rw [this] at P; exact P.elim
  | err c => exact P
  | bad => exact P
end

/-! ### judgements -/
structure EE (X : Cx) (W : WX) (e : Expr) (t : TE) (f : Ev → Rs R) : Prop where
  pe : PE X e t
  sound : ∀ {G H0 : Hp} {ρ : Ev} {σ : L2.St} {F H : Hp}, Rel X.K G H0 ρ σ F H → ∀ Q : VK, Post X.K X.mg W σ F H Q (f ρ) → t σ H Q
structure ET (X : Cx) (W : WX) (e : Expr) (t : TT) (f : Ev → Rs Bool) : Prop where
  pt : PT X e t
  sound : ∀ {G H0 : Hp} {ρ : Ev} {σ : L2.St} {F H : Hp}, Rel X.K G H0 ρ σ F H → ∀ Q : Bool → Hp → Prop, PostB X.mg W σ F H Q (f ρ) → t σ H Q
/-- the same whatever its whole is -/
structure EW (X : Cx) (W : WX) (e : Expr) (t : TT) (f : Ev → Rs Bool) : Prop where
  pw : PW X e t
  sound : ∀ {G H0 : Hp} {ρ : Ev} {σ : L2.St} {F H : Hp}, Rel X.K G H0 ρ σ F H → ∀ Q : Bool → Hp → Prop, PostB X.mg W σ F H Q (f ρ) → t σ H Q
structure ED (X : Cx) (W : WX) (es : List Expr) (t : TA) (f : Ev → Rs (List PyData)) : Prop where
  pa : PA X es t
  sound : ∀ {G H0 : Hp} {ρ : Ev} {σ : L2.St} {F H : Hp}, Rel X.K G H0 ρ σ F H → ∀ Q : List V → Hp → Prop, PostD X.mg W σ F H Q (f ρ) → t σ H Q
structure EA (X : Cx) (W : WX) (es : List Expr) (t : TA) (f : Ev → Rs (List R)) : Prop where
  pa : PA X es t
  len : ∀ ρ rs, f ρ = .ok rs → rs.length = es.length
  sound : ∀ {G H0 : Hp} {ρ : Ev} {σ : L2.St} {F H : Hp}, Rel X.K G H0 ρ σ F H → ∀ Q : List V → Hp → Prop, PostA X.K X.mg W σ F H Q (f ρ) → t σ H Q

/-! ### readings of the data side -/
@[simp] def fVar (i : Nat) : Ev → Rs R := fun ρ => match ρ[i]? with
  | some (some (.val d)) => .ok (.val d)
  | some (some (.scr ns)) => .ok (.scr ns)
  | some (some (.dfz kvs)) => .ok (.dfz kvs)
  | _ => .bad
@[simp] def fC (d : PyData) : Ev → Rs R := fun _ => .ok (.val d)
def lim : Nat := 1000000
theorem lim_le : lim ≤ sizeLine := by decide
theorem lim_lt : lim < sizeLine := by decide
def capL (ds : List PyData) (r : R) : Rs R := if ds.length ≤ lim then .ok r else .bad
@[simp] def fTup (fa : Ev → Rs (List PyData)) : Ev → Rs R := fun ρ => (fa ρ).bind fun ds => capL ds (.val (.tuple ds))
@[simp] def fLst (fa : Ev → Rs (List PyData)) : Ev → Rs R := fun ρ => (fa ρ).bind fun ds => capL ds (.own ds)
@[simp] def fNil : Ev → Rs (List PyData) := fun _ => .ok []
@[simp] def fCons (f : Ev → Rs R) (fa : Ev → Rs (List PyData)) : Ev → Rs (List PyData) := fun ρ => (f ρ).bind fun r => r.d.bind fun x => (fa ρ).bind fun xs => .ok (x :: xs)
@[simp] def aNil : Ev → Rs (List R) := fun _ => .ok []
@[simp] def aCons (f : Ev → Rs R) (fa : Ev → Rs (List R)) : Ev → Rs (List R) := fun ρ => (f ρ).bind fun r => r.a.bind fun x => (fa ρ).bind fun xs => .ok (x :: xs)
@[simp] def fOp (op : PyData → PyData → Rs R) (fa fb : Ev → Rs R) : Ev → Rs R := fun ρ => (fa ρ).bind fun a => a.d.bind fun x => (fb ρ).bind fun b => b.d.bind fun y => op x y
@[simp] def fUn (op : PyData → Rs R) (fa : Ev → Rs R) : Ev → Rs R := fun ρ => (fa ρ).bind fun a => a.d.bind op
@[simp] def fBi (op : List PyData → Rs R) (fa : Ev → Rs (List PyData)) : Ev → Rs R := fun ρ => (fa ρ).bind op
@[simp] def fCall (den : List R → Rs R) (fa : Ev → Rs (List R)) : Ev → Rs R := fun ρ => (fa ρ).bind den
def asB : PyData → Rs Bool
  | .bool b => .ok b
  | _ => .bad
@[simp] def fTest (f : Ev → Rs R) : Ev → Rs Bool := fun ρ => (f ρ).bind fun r => r.d.bind asB
@[simp] def fAnd (f g : Ev → Rs Bool) : Ev → Rs Bool := fun ρ => (f ρ).bind fun b => if b = true then g ρ else .ok false
@[simp] def fOr (f g : Ev → Rs Bool) : Ev → Rs Bool := fun ρ => (f ρ).bind fun b => if b = true then .ok true else g ρ
@[simp] def fNot (f : Ev → Rs Bool) : Ev → Rs Bool := fun ρ => (f ρ).bind fun b => .ok (!b)
@[simp] def fAndV (f g : Ev → Rs R) : Ev → Rs R := fun ρ => (f ρ).bind fun r => r.d.bind fun x => (asB x).bind fun b => if b = true then g ρ else .ok (.val (.bool false))
@[simp] def fOrV (f g : Ev → Rs R) : Ev → Rs R := fun ρ => (f ρ).bind fun r => r.d.bind fun x => (asB x).bind fun b => if b = true then .ok (.val (.bool true)) else g ρ
@[simp] def fNotV (f : Ev → Rs R) : Ev → Rs R := fun ρ => (f ρ).bind fun r => r.d.bind fun x => (asB x).bind fun b => .ok (.val (.bool (!b)))
@[simp] def fIf (c : Ev → Rs Bool) (f g : Ev → Rs R) : Ev → Rs R := fun ρ => (c ρ).bind fun b => if b = true then f ρ else g ρ

section
variable {X : Cx} {W : WX} {a b e : Expr} {es : List Expr} {ta tb te : TE} {fa fb f : Ev → Rs R} {pos : Pos}

theorem ee_var (i : Nat) {x : Str} (hN : X.N[i]? = some x := by rfl) (hv : Vis X.env.scope x := by first | exact Or.inl rfl | exact Or.inr (Or.inl rfl) | exact Or.inr (Or.inr rfl)) (hd : (x == ("__debug__" : Str)) = false := by decide)
    (hcd : (x == ("__classdict__" : Str)) = false := by decide) : EE X W (.Name x pos) (tVar i) (fVar i) where
  pe := pe_var hN hv hd hcd
  sound := fun {G H0 ρ σ F H} rel Q P => by
    unfold fVar at P
    split at P
    · rename_i d h
      obtain ⟨v, a, b⟩ := rel.at_ i _ h
      exact ⟨v, a, P v F H (Ext.refl rel.sub) (.val b)⟩
    · rename_i d h
      obtain ⟨v, a, b⟩ := rel.at_ i _ h
      exact ⟨v, a, P v F H (Ext.refl rel.sub) ⟨b, fun e => nomatch e⟩⟩
    · rename_i d h
      obtain ⟨v, a, b⟩ := rel.at_ i _ h
      exact ⟨v, a, P v F H (Ext.refl rel.sub) ⟨b, fun e => nomatch e⟩⟩
    · exact P.elim
theorem c_sound {d : PyData} {v : V} (h : ∀ F, DD F v d) {G H0 : Hp} {ρ : Ev} {σ : L2.St} {F H : Hp} (rel : Rel X.K G H0 ρ σ F H) (Q : VK) (P : Post X.K X.mg W σ F H Q (fC d ρ)) : tC v σ H Q :=
  P v F H (Ext.refl rel.sub) (.val (h F))
theorem ee_int {i : Int} {j : Nat} : EE X W (.Constant (.int i) j pos) (tC (.int i)) (fC (.int i)) := ⟨pe_int, c_sound fun _ => .int i⟩
theorem ee_bl {b : Bool} {j : Nat} : EE X W (.Constant (.bool b) j pos) (tC (.bl b)) (fC (.bool b)) := ⟨pe_bl, c_sound fun _ => .bl b⟩
theorem ee_non {j : Nat} : EE X W (.Constant .none j pos) (tC .non) (fC .none) := ⟨pe_non, c_sound fun _ => .non⟩
theorem ee_str {x : Str} {j : Nat} : EE X W (.Constant (.str x) j pos) (tC (.str x)) (fC (.str x)) := ⟨pe_str, c_sound fun _ => .str x⟩
/-- a module's constant -/
theorem ee_globI {x : Str} {i : Int} {u : Tok} (hg : Gl X x) (hm : X.mg x = some (.int i u)) (hd : (x == ("__debug__" : Str)) = false := by decide) : EE X W (.Name x pos) (tC (.int i)) (fC (.int i)) :=
  ⟨pe_glob hg hm ⟨_, rfl⟩ hd, c_sound fun _ => .int i⟩
theorem ee_globS {x : Str} {i : Str} {u : Tok} (hg : Gl X x) (hm : X.mg x = some (.str i u)) (hd : (x == ("__debug__" : Str)) = false := by decide) : EE X W (.Name x pos) (tC (.str i)) (fC (.str i)) :=
  ⟨pe_glob hg hm ⟨_, rfl⟩ hd, c_sound fun _ => .str i⟩

/-! ### argument lists -/
theorem ed_nil : ED X W [] tNil fNil := ⟨pa_nil, fun rel Q P => P [] _ _ (Ext.refl rel.sub) .nil⟩
theorem postD_data {Q1 : VK} {Q : List V → Hp → Prop} {mg : Str → Option Value} {σ : L2.St} {F H : Hp} {m : Rs R} {k : PyData → Rs (List PyData)} (P : PostD mg W σ F H Q (m.bind fun r => r.d.bind k))
    (h : ∀ d v F1 H1, Ext F H F1 H1 → DD F1 v d → PostD mg W σ F1 H1 Q (k d) → Q1 v H1) {K : PySem.W.Frag} : Post K mg W σ F H Q1 m := by
  cases m with
  | ok r =>
    intro v F' H' x y
    cases hd : r.d with
    | ok d =>
      obtain ⟨F2, e2, _, q2⟩ := y.data x hd
      have P' : PostD mg W σ F H Q (k d) := by
        have : ((Rs.ok r).bind fun r => r.d.bind k) = k d := by simp [hd]
        rw [this] at P; exact P
      exact h d v F2 H' e2 q2 (postD_step P' e2)
    | err c => exact absurd hd (by cases r <;> simp [R.d])
    | bad =>
      have : ((Rs.ok r).bind fun r => r.d.bind k) = .bad := by simp [hd]
      rw [this] at P; exact P.elim
  | err c => exact P
  | bad => exact P
theorem postD_bind {Q Q1 : List V → Hp → Prop} {mg : Str → Option Value} {σ : L2.St} {F H : Hp} {m : Rs (List PyData)} {k : List PyData → Rs (List PyData)} (P : PostD mg W σ F H Q (m.bind k))
    (h : ∀ ds vs F1 H1, Ext F H F1 H1 → DDs F1 vs ds → PostD mg W σ F1 H1 Q (k ds) → Q1 vs H1) : PostD mg W σ F H Q1 m := by
  cases m with
  | ok r => exact fun v F' H' x y => h r v F' H' x y (postD_step P x)
  | err c => exact P
  | bad => exact P
theorem ed_cons {t : TA} {fr : Ev → Rs (List PyData)} (ha : EE X W e te f) (hr : ED X W es t fr) (hs : starEach (e :: es) X.env = (false, eval e X.env) :: starEach es X.env := by rfl) : ED X W (e :: es) (tCons te t) (fCons f fr) where
  pa := pa_cons ha.pe hr.pa hs
  sound := fun rel Q P => ha.sound rel _ (postD_data P fun d v F1 H1 e1 r1 P1 => hr.sound (rel.step e1) _ (postD_bind P1 fun ds vs F2 H2 e2 r2 P2 =>
    P2 _ _ _ (Ext.refl e2.sub) (.cons (DD.mono e2.ff _ _ r1) r2)))
theorem ea_nil : EA X W [] tNil aNil := ⟨pa_nil, fun ρ rs h => by cases h; rfl, fun rel Q P => P [] _ _ (Ext.refl rel.sub) .nil⟩
theorem postA_arg {Q1 : VK} {Q : List V → Hp → Prop} {K : PySem.W.Frag} {mg : Str → Option Value} {σ : L2.St} {F H : Hp} {m : Rs R} {k : R → Rs (List R)} (P : PostA K mg W σ F H Q (m.bind fun r => r.a.bind k))
    (h : ∀ d v F1 H1, Ext F H F1 H1 → Rep K F1 H1 v d → d.isOwn = false → PostA K mg W σ F1 H1 Q (k d) → Q1 v H1) : Post K mg W σ F H Q1 m := by
  cases m with
  | ok r =>
    intro v F' H' x y
    cases hd : r.a with
    | ok d =>
      obtain ⟨F2, e2, _, q2, n2⟩ := y.arg x hd
      have P' : PostA K mg W σ F H Q (k d) := by
        have : ((Rs.ok r).bind fun r => r.a.bind k) = k d := by simp [hd]
        rw [this] at P; exact P
      exact h d v F2 H' e2 q2 n2 (postA_step P' e2)
    | err c => exact absurd hd (by cases r <;> simp [R.a])
    | bad =>
      have : ((Rs.ok r).bind fun r => r.a.bind k) = .bad := by simp [hd]
      rw [this] at P; exact P.elim
  | err c => exact P
  | bad => exact P
theorem postA_bind {Q Q1 : List V → Hp → Prop} {K : PySem.W.Frag} {mg : Str → Option Value} {σ : L2.St} {F H : Hp} {m : Rs (List R)} {k : List R → Rs (List R)} (P : PostA K mg W σ F H Q (m.bind k))
    (h : ∀ ds vs F1 H1, Ext F H F1 H1 → Args K F1 H1 vs ds → PostA K mg W σ F1 H1 Q (k ds) → Q1 vs H1) : PostA K mg W σ F H Q1 m := by
  cases m with
  | ok r => exact fun v F' H' x y => h r v F' H' x y (postA_step P x)
  | err c => exact P
  | bad => exact P
theorem ea_cons {t : TA} {fr : Ev → Rs (List R)} (ha : EE X W e te f) (hr : EA X W es t fr) (hs : starEach (e :: es) X.env = (false, eval e X.env) :: starEach es X.env := by rfl) : EA X W (e :: es) (tCons te t) (aCons f fr) where
  pa := pa_cons ha.pe hr.pa hs
  len := fun ρ rs h => by
    unfold aCons at h
    cases h1 : f ρ with
    | ok r =>
      cases h2 : r.a with
      | ok x =>
        cases h3 : fr ρ with
        | ok xs =>
          simp [h1, h2, h3] at h
          subst h
          simp [hr.len ρ xs h3]
        | err c => simp [h1, h2, h3] at h
        | bad => simp [h1, h2, h3] at h
      | err c => simp [h1, h2] at h
      | bad => simp [h1, h2] at h
    | err c => simp [h1] at h
    | bad => simp [h1] at h
  sound := fun rel Q P => ha.sound rel _ (postA_arg P fun d v F1 H1 e1 r1 n1 P1 => hr.sound (rel.step e1) _ (postA_bind P1 fun ds vs F2 H2 e2 r2 P2 =>
    P2 _ _ _ (Ext.refl e2.sub) (.cons ⟨r1.step e2, n1⟩ r2)))

/-! ### displays -/
theorem postD_out {Q1 : List V → Hp → Prop} {Q : VK} {K : PySem.W.Frag} {mg : Str → Option Value} {σ : L2.St} {F H : Hp} {m : Rs (List PyData)} {k : List PyData → Rs R} (P : Post K mg W σ F H Q (m.bind k))
    (h : ∀ ds vs F1 H1, Ext F H F1 H1 → DDs F1 vs ds → Post K mg W σ F1 H1 Q (k ds) → Q1 vs H1) : PostD mg W σ F H Q1 m := by
  cases m with
  | ok r => exact fun v F' H' x y => h r v F' H' x y (post_step P x)
  | err c => exact P
  | bad => exact P
theorem postA_out {Q1 : List V → Hp → Prop} {Q : VK} {K : PySem.W.Frag} {mg : Str → Option Value} {σ : L2.St} {F H : Hp} {m : Rs (List R)} {k : List R → Rs R} (P : Post K mg W σ F H Q (m.bind k))
    (h : ∀ ds vs F1 H1, m = .ok ds → Ext F H F1 H1 → Args K F1 H1 vs ds → Post K mg W σ F1 H1 Q (k ds) → Q1 vs H1) : PostA K mg W σ F H Q1 m := by
  cases m with
  | ok r => exact fun v F' H' x y => h r v F' H' rfl x y (post_step P x)
  | err c => exact P
  | bad => exact P
/-- a new tuple that stays -/
theorem new_tup {K : PySem.W.Frag} {mg : Str → Option Value} {σ : L2.St} {F H : Hp} {Q : VK} {vs : List V} {ds : List PyData} (s : Same F H) (r : DDs F vs ds) (P : Post K mg W σ F H Q (.ok (.val (.tuple ds)))) :
    ∀ p, H p = none → Q (.ref p) (upd H p (.tup vs)) := fun p np =>
  P _ _ _ (Ext.add s np) (.val (.tup upd_same (DDs.mono (same_new (s.free np)) _ _ r)))
/-- a new list of ours -/
theorem new_lst {K : PySem.W.Frag} {mg : Str → Option Value} {σ : L2.St} {F H : Hp} {Q : VK} {vs : List V} {ds : List PyData} (s : Same F H) (r : DDs F vs ds) (P : Post K mg W σ F H Q (.ok (.own ds))) :
    ∀ p, H p = none → Q (.ref p) (upd H p (.lst vs)) := fun p np =>
  P _ _ _ (Ext.addH s np) ⟨⟨p, vs, rfl, upd_same, s.free np, r⟩, fun _ q e => by cases e; exact np⟩
theorem ee_tup {x1 : Nat} {t : TA} {fr : Ev → Rs (List PyData)} (h : ED X W es t fr) : EE X W (.Tuple es x1 pos) (tTup t) (fTup fr) where
  pe := pe_tup h.pa
  sound := fun rel Q P => h.sound rel _ (postD_out P fun ds vs F1 H1 e1 r1 P1 => by
    unfold capL at P1
    split at P1
    · rename_i hl
      exact ⟨by rw [r1.len]; exact Nat.le_trans hl lim_le, new_tup e1.sub r1 P1⟩
    · exact P1.elim)
theorem ee_lst {t : TA} {fr : Ev → Rs (List PyData)} (h : ED X W es t fr) : EE X W (.List es pos) (tLst t) (fLst fr) where
  pe := pe_lst h.pa
  sound := fun rel Q P => h.sound rel _ (postD_out P fun ds vs F1 H1 e1 r1 P1 => by
    unfold capL at P1
    split at P1
    · rename_i hl
      exact ⟨by rw [r1.len]; exact Nat.le_trans hl lim_le, new_lst e1.sub r1 P1⟩
    · exact P1.elim)
end
end DN
/-! Den3: operators, tests, subscripts, calls. -/
namespace DN
open PySem PySem.Spec PyProof.Rows L2

/-! ### operators by data -/
def OpD (K : PySem.W.Frag) (mg : Str → Option Value) (W : WX) (r : R2) (op : PyData → PyData → Rs R) : Prop :=
  ∀ {σ : L2.St} {F H : Hp} {Q : VK} {v u : V} {x y : PyData}, Same F H → DD F v x → DD F u y → Post K mg W σ F H Q (op x y) → r v u H Q
/-- a result that is no new object -/
theorem post_flat {K : PySem.W.Frag} {mg : Str → Option Value} {W : WX} {σ : L2.St} {F H : Hp} {Q : VK} {v : V} {d : PyData} (s : Same F H) (h : DD F v d) (P : Post K mg W σ F H Q (.ok (.val d))) : Q v H :=
  P v F H (Ext.refl s) (.val h)

def oI (g : Int → Int → PyData) : PyData → PyData → Rs R
  | .int i, .int j => .ok (.val (g i j))
  | _, _ => .bad
def oIc (C : Int → Int → Prop) [∀ i j, Decidable (C i j)] (g : Int → Int → PyData) : PyData → PyData → Rs R
  | .int i, .int j => if C i j then .ok (.val (g i j)) else .bad
  | _, _ => .bad
section
variable {K : PySem.W.Frag} {mg : Str → Option Value} {W : WX}
theorem od_I {g : Int → Int → PyData} {gv : Int → Int → V} (h : ∀ F i j, DD F (gv i j) (g i j)) : OpD K mg W (rI0 gv) (oI g) := fun {σ F H Q v u x y} s a b P => by
  cases a <;> cases b <;> first
    | exact ⟨_, _, rfl, rfl, post_flat s (h F _ _) P⟩
    | exact P.elim
theorem od_Ic {C : Int → Int → Prop} [∀ i j, Decidable (C i j)] {g : Int → Int → PyData} {gv : Int → Int → V} (h : ∀ F i j, DD F (gv i j) (g i j)) : OpD K mg W (rI C gv) (oIc C g) := fun {σ F H Q v u x y} s a b P => by
  cases a <;> cases b <;> first
    | exact P.elim
    | (unfold oIc at P
       dsimp only at P
       split at P
       · rename_i hc
         exact ⟨_, _, rfl, rfl, hc, post_flat s (h F _ _) P⟩
       · exact P.elim)
theorem od_or {r r' : R2} {op op' : PyData → PyData → Rs R} {f : PyData → PyData → Bool} (h : OpD K mg W r op) (h' : OpD K mg W r' op') :
    OpD K mg W (fun x y H Q => r x y H Q ∨ r' x y H Q) (fun x y => if f x y = true then op x y else op' x y) := fun {σ F H Q v u x y} s a b P => by
  dsimp only at P
  split at P
  · exact .inl (h s a b P)
  · exact .inr (h' s a b P)
end
instance (i j : Int) : Decidable (CDivW i j) := by unfold CDivW; infer_instance
instance (i j : Int) : Decidable (CMul i j) := by unfold CMul; infer_instance
instance (i j : Int) : Decidable (CPow i j) := by unfold CPow; infer_instance
/-- a + b: ints, texts, lists, tuples -/
def opAdd : PyData → PyData → Rs R
  | .int i, .int j => .ok (.val (.int (i + j)))
  | .str a, .str b => if a.length + b.length ≤ lim then .ok (.val (.str (a ++ b))) else .bad
  | .list a, .list b => if a.length + b.length ≤ lim then .ok (.own (a ++ b)) else .bad
  | .tuple a, .tuple b => if a.length + b.length ≤ lim then .ok (.val (.tuple (a ++ b))) else .bad
  | _, _ => .bad
abbrev opSub : PyData → PyData → Rs R := oI fun i j => .int (i - j)
abbrev opMulI : PyData → PyData → Rs R := oIc CMul fun i j => .int (i * j)
abbrev opDiv : PyData → PyData → Rs R := oIc CDivW fun i j => .int (i / j)
abbrev opMod : PyData → PyData → Rs R := oIc (fun _ j => 0 < j) fun i j => .int (i % j)
abbrev opPow : PyData → PyData → Rs R := oIc CPow fun i j => .int (i ^ j.toNat)
abbrev opLt : PyData → PyData → Rs R := oI fun i j => .bool (decide (i < j))
abbrev opLe : PyData → PyData → Rs R := oI fun i j => .bool (decide (i ≤ j))
abbrev opGt : PyData → PyData → Rs R := oI fun i j => .bool (decide (j < i))
abbrev opGe : PyData → PyData → Rs R := oI fun i j => .bool (decide (j ≤ i))
def eqD (d e : PyData) : Rs Bool := if (SeqAt.shaped d && SeqAt.shaped e) = true then .ok (PyData.eqv d e) else .bad
@[simp] def opEq (d e : PyData) : Rs R := (eqD d e).bind fun b => .ok (.val (.bool b))
@[simp] def opNe (d e : PyData) : Rs R := (eqD d e).bind fun b => .ok (.val (.bool (!b)))
def opIs : PyData → PyData → Rs R
  | d, .none => .ok (.val (.bool (match d with | .none => true | _ => false)))
  | .bool a, .bool b => .ok (.val (.bool (decide (a = b))))
  | _, _ => .bad
def opIsNot : PyData → PyData → Rs R
  | d, .none => .ok (.val (.bool (match d with | .none => false | _ => true)))
  | .bool a, .bool b => .ok (.val (.bool (!decide (a = b))))
  | _, _ => .bad
/-- == of flat data -/
def flatD : PyData → Bool
  | .none => true
  | .bool _ => true
  | .int _ => true
  | .str _ => true
  | _ => false
theorem flat_of {F : Hp} {v : V} {d : PyData} (h : DD F v d) : flatV v = flatD d := by cases h <;> rfl
def eqF : PyData → PyData → Bool
  | .none, .none => true
  | .bool a, .bool b => a == b
  | .bool a, .int b => (if a then 1 else 0) == b
  | .int a, .bool b => a == (if b then 1 else 0)
  | .int a, .int b => a == b
  | .str a, .str b => a == b
  | _, _ => false
theorem eqF_of {F : Hp} {v u : V} {d e : PyData} (h : DD F v d) (g : DD F u e) : eqV v u = eqF d e := by cases h <;> cases g <;> rfl
def inD (x : PyData) : PyData → Rs Bool
  | .list ds => if (flatD x && ds.all flatD) = true then .ok (ds.any fun y => eqF y x) else if (SeqAt.shaped x && SeqAt.shaped (.list ds)) = true then .ok (ds.any fun z => PyData.eqv z x) else .bad
  | .tuple ds => if (flatD x && ds.all flatD) = true then .ok (ds.any fun y => eqF y x) else .bad
  | .str z => match x with
    | .str ⟨⟨[c]⟩⟩ => .ok (decide (c ∈ z.cps.toList))
    | _ => .bad
  | _ => .bad
@[simp] def opIn (x y : PyData) : Rs R := (inD x y).bind fun b => .ok (.val (.bool b))
@[simp] def opNotIn (x y : PyData) : Rs R := (inD x y).bind fun b => .ok (.val (.bool (!b)))
theorem DDs.allFlat {F : Hp} : ∀ {ds : List PyData} {vs : List V}, DDs F vs ds → vs.all flatV = ds.all flatD
  | [], _, .nil => rfl
  | _ :: _, _, .cons h r => by rw [List.all_cons, List.all_cons, flat_of h, DDs.allFlat r]
theorem DDs.anyEq {F : Hp} {v : V} {d : PyData} (h : DD F v d) : ∀ {ds : List PyData} {vs : List V}, DDs F vs ds → inV v vs = ds.any fun y => eqF y d
  | [], _, .nil => rfl
  | _ :: _, _, .cons g r => by
    show (eqV _ v || inV v _) = _
    rw [List.any_cons, eqF_of g h, DDs.anyEq h r]
section
variable {X : Cx} {W : WX}
def rAddA (K : PySem.W.Frag) : R2 := fun x y H Q => rI0 (fun i j => .int (i + j)) x y H Q ∨ (fun x y H Q => ∃ i j, x = .str i ∧ y = .str j ∧ i.length + j.length ≤ sizeLine ∧ Q (.str (i ++ j)) H) x y H Q ∨ rCat x y H Q ∨ rCatA K x y H Q
theorem op_addA : OpR X (binaryOp .Add) (rAddA X.K) := op_add.or (op_add_str.or (op_cat.or op_catA))
theorem od_add : OpD X.K X.mg W (rAddA X.K) opAdd := fun {σ F H Q v u x y} s a b P => by
  cases a with
  | int i =>
    cases b with
    | int j => exact .inl ⟨_, _, rfl, rfl, post_flat s (.int _) P⟩
    | _ => exact P.elim
  | str i =>
    cases b with
    | str j =>
      unfold opAdd at P
      dsimp only at P
      split at P
      · rename_i hl
        exact .inr (.inl ⟨_, _, rfl, rfl, Nat.le_trans hl lim_le, post_flat s (.str _) P⟩)
      · exact P.elim
    | _ => exact P.elim
  | @lst p xs ds h r =>
    cases b with
    | @lst q ys es g w =>
      unfold opAdd at P
      dsimp only at P
      split at P
      · rename_i hl
        exact .inr (.inr (.inl ⟨_, _, _, _, rfl, rfl, s _ _ h, s _ _ g, by rw [r.len, w.len]; exact Nat.le_trans hl lim_le, new_lst s (r.app w) P⟩))
      · exact P.elim
    | _ => exact P.elim
  | @tup p xs ds h r =>
    cases b with
    | @tup q ys es g w =>
      unfold opAdd at P
      dsimp only at P
      split at P
      · rename_i hl
        refine .inr (.inr (.inr ⟨_, _, _, _, rfl, rfl, SqT.of (s _ _ h), SqT.of (s _ _ g), by rw [r.len, w.len]; exact Nat.le_trans hl lim_le, fun e => ?_, fun _ e => ?_, fun _ _ => new_tup s (r.app w) P⟩))
        · subst e
          cases r
          exact post_flat s (.tup g w) P
        · subst e
          cases w
          rw [List.append_nil] at P
          exact post_flat s (.tup h r) P
      · exact P.elim
    | _ => exact P.elim
  | _ => cases b <;> exact P.elim
theorem od_sub : OpD X.K X.mg W (rI0 fun i j => .int (i - j)) opSub := od_I fun _ _ _ => .int _
theorem od_mul : OpD X.K X.mg W (rI CMul fun i j => .int (i * j)) opMulI := od_Ic fun _ _ _ => .int _
theorem od_div : OpD X.K X.mg W (rI CDivW fun i j => .int (i / j)) opDiv := od_Ic fun _ _ _ => .int _
theorem od_mod : OpD X.K X.mg W (rI (fun _ j => 0 < j) fun i j => .int (i % j)) opMod := od_Ic fun _ _ _ => .int _
theorem od_pow : OpD X.K X.mg W (rI CPow fun i j => .int (i ^ j.toNat)) opPow := od_Ic fun _ _ _ => .int _
theorem od_lt : OpD X.K X.mg W (rI0 fun i j => .bl (decide (i < j))) opLt := od_I fun _ _ _ => .bl _
theorem od_le : OpD X.K X.mg W (rI0 fun i j => .bl (decide (i ≤ j))) opLe := od_I fun _ _ _ => .bl _
theorem od_gt : OpD X.K X.mg W (rI0 fun i j => .bl (decide (j < i))) opGt := od_I fun _ _ _ => .bl _
theorem od_ge : OpD X.K X.mg W (rI0 fun i j => .bl (decide (j ≤ i))) opGe := od_I fun _ _ _ => .bl _
theorem od_eq : OpD X.K X.mg W (rEqD X.K) opEq := fun {σ F H Q v u x y} s a b P => by
  unfold opEq eqD at P
  split at P
  · rename_i h
    have h' := Bool.and_eq_true_iff.mp h
    exact ⟨x, y, DD.dp s _ _ a, DD.dp s _ _ b, h'.1, h'.2, post_flat s (.bl _) P⟩
  · exact P.elim
theorem od_ne : OpD X.K X.mg W (rNeD X.K) opNe := fun {σ F H Q v u x y} s a b P => by
  unfold opNe eqD at P
  split at P
  · rename_i h
    have h' := Bool.and_eq_true_iff.mp h
    exact ⟨x, y, DD.dp s _ _ a, DD.dp s _ _ b, h'.1, h'.2, post_flat s (.bl _) P⟩
  · exact P.elim
def rIsA : R2 := fun x y H Q => (y = .non ∧ Q (.bl (decide (x = .non))) H) ∨ rIsB x y H Q
def rIsNotA : R2 := fun x y H Q => (y = .non ∧ Q (.bl (!decide (x = .non))) H) ∨ rNotB x y H Q
theorem op_isA : OpR X (compareOp .Is) rIsA := op_isN.or op_isBl
theorem op_isNotA : OpR X (compareOp .IsNot) rIsNotA := op_notN.or op_notBl
theorem od_is : OpD X.K X.mg W rIsA opIs := fun {σ F H Q v u x y} s a b P => by
  cases b with
  | non =>
    refine .inl ⟨rfl, ?_⟩
    cases a <;> exact post_flat s (.bl _) P
  | bl c =>
    cases a with
    | bl d => exact .inr ⟨_, _, rfl, rfl, post_flat s (.bl _) P⟩
    | _ => exact P.elim
  | _ => cases a <;> exact P.elim
theorem od_isNot : OpD X.K X.mg W rIsNotA opIsNot := fun {σ F H Q v u x y} s a b P => by
  cases b with
  | non =>
    refine .inl ⟨rfl, ?_⟩
    cases a <;> exact post_flat s (.bl _) P
  | bl c =>
    cases a with
    | bl d => exact .inr ⟨_, _, rfl, rfl, post_flat s (.bl _) P⟩
    | _ => exact P.elim
  | _ => cases a <;> exact P.elim
def rInA (K : PySem.W.Frag) : R2 := fun x y H Q => rIn K false x y H Q ∨ rInD K x y H Q ∨ (∃ (c : Nat) (z : Str), x = .str ⟨#[c]⟩ ∧ y = .str z ∧ Q (.bl (decide (c ∈ z.cps.toList))) H)
def rNotInA (K : PySem.W.Frag) : R2 := fun x y H Q => rIn K true x y H Q ∨ rNotInD K x y H Q ∨ (∃ (c : Nat) (z : Str), x = .str ⟨#[c]⟩ ∧ y = .str z ∧ Q (.bl (!decide (c ∈ z.cps.toList))) H)
theorem op_inA (hu : X.A.units + 65 < cLine) : OpR X (compareOp .In) (rInA X.K) := op_in_seq.or ((op_inD hu).or op_in_sign)
theorem op_notInA (hu : X.A.units + 65 < cLine) : OpR X (compareOp .NotIn) (rNotInA X.K) := op_notIn_seq.or ((op_notInD hu).or op_notIn_sign)
theorem od_in : OpD X.K X.mg W (rInA X.K) opIn := fun {σ F H Q v u x y} s a b P => by
  unfold opIn inD at P
  cases b with
  | @lst p ys es g w =>
    dsimp only at P
    split at P
    · rename_i hl
      have h' := Bool.and_eq_true_iff.mp hl
      refine .inl ⟨_, _, rfl, .inl (SqL.of (s _ _ g)), by rw [flat_of a]; exact h'.1, by rw [w.allFlat]; exact h'.2, ?_⟩
      rw [if_neg (by decide), w.anyEq a]
      exact post_flat s (.bl _) P
    · split at P
      · rename_i hl
        have h' := Bool.and_eq_true_iff.mp hl
        exact .inr (.inl ⟨x, es, DD.dp s _ _ a, DD.dp s _ _ (.lst g w), h'.1, h'.2, post_flat s (.bl _) P⟩)
      · exact P.elim
  | @tup p ys es g w =>
    dsimp only at P
    split at P
    · rename_i hl
      have h' := Bool.and_eq_true_iff.mp hl
      refine .inl ⟨_, _, rfl, .inr (SqT.of (s _ _ g)), by rw [flat_of a]; exact h'.1, by rw [w.allFlat]; exact h'.2, ?_⟩
      rw [if_neg (by decide), w.anyEq a]
      exact post_flat s (.bl _) P
    · exact P.elim
  | str z =>
    dsimp only at P
    split at P
    · rename_i c
      cases a
      exact .inr (.inr ⟨c, z, rfl, rfl, post_flat s (.bl _) P⟩)
    · exact P.elim
  | _ => exact P.elim
theorem od_notIn : OpD X.K X.mg W (rNotInA X.K) opNotIn := fun {σ F H Q v u x y} s a b P => by
  unfold opNotIn inD at P
  cases b with
  | @lst p ys es g w =>
    dsimp only at P
    split at P
    · rename_i hl
      have h' := Bool.and_eq_true_iff.mp hl
      refine .inl ⟨_, _, rfl, .inl (SqL.of (s _ _ g)), by rw [flat_of a]; exact h'.1, by rw [w.allFlat]; exact h'.2, ?_⟩
      rw [if_pos rfl, w.anyEq a]
      exact post_flat s (.bl _) P
    · split at P
      · rename_i hl
        have h' := Bool.and_eq_true_iff.mp hl
        exact .inr (.inl ⟨x, es, DD.dp s _ _ a, DD.dp s _ _ (.lst g w), h'.1, h'.2, post_flat s (.bl _) P⟩)
      · exact P.elim
  | @tup p ys es g w =>
    dsimp only at P
    split at P
    · rename_i hl
      have h' := Bool.and_eq_true_iff.mp hl
      refine .inl ⟨_, _, rfl, .inr (SqT.of (s _ _ g)), by rw [flat_of a]; exact h'.1, by rw [w.allFlat]; exact h'.2, ?_⟩
      rw [if_pos rfl, w.anyEq a]
      exact post_flat s (.bl _) P
    · exact P.elim
  | str z =>
    dsimp only at P
    split at P
    · rename_i c
      cases a
      exact .inr (.inr ⟨c, z, rfl, rfl, post_flat s (.bl _) P⟩)
    · exact P.elim
  | _ => exact P.elim
end

/-! ### as expressions -/
section
variable {X : Cx} {W : WX} {a b c e : Expr} {es : List Expr} {ta tb tc te : TE} {fa fb fc f : Ev → Rs R} {pos : Pos}
theorem op_sound {r : R2} {op : PyData → PyData → Rs R} (hd : OpD X.K X.mg W r op) (ha : EE X W a ta fa) (hb : EE X W b tb fb) {G H0 : Hp} {ρ : Ev} {σ : L2.St} {F H : Hp} (rel : Rel X.K G H0 ρ σ F H) (Q : VK)
    (P : Post X.K X.mg W σ F H Q (fOp op fa fb ρ)) : tOp r ta tb σ H Q :=
  ha.sound rel _ (post_data P fun d v F1 H1 e1 r1 P1 => hb.sound (rel.step e1) _ (post_data P1 fun d2 v2 F2 H2 e2 r2 P2 => hd e2.sub (DD.mono e2.ff _ _ r1) r2 P2))
theorem ee_op {o : Operator} {r : R2} {op : PyData → PyData → Rs R} (ho : OpR X (binaryOp o) r) (hd : OpD X.K X.mg W r op) (ha : EE X W a ta fa) (hb : EE X W b tb fb) : EE X W (.BinOp a o b pos) (tOp r ta tb) (fOp op fa fb) :=
  ⟨pe_op ho ha.pe hb.pe, op_sound hd ha hb⟩
theorem ee_cmp {o : CmpOp} {r : R2} {op : PyData → PyData → Rs R} (ho : OpR X (compareOp o) r) (hd : OpD X.K X.mg W r op) (ha : EE X W a ta fa) (hb : EE X W b tb fb) (hm : behindInMarks o b = false) : EE X W (.Compare a [o] [b] pos) (tOp r ta tb) (fOp op fa fb) :=
  ⟨pe_cmpR ho ha.pe hb.pe hm, op_sound hd ha hb⟩
def UnD (K : PySem.W.Frag) (mg : Str → Option Value) (W : WX) (r : V → Hp → VK → Prop) (op : PyData → Rs R) : Prop :=
  ∀ {σ : L2.St} {F H : Hp} {Q : VK} {v : V} {x : PyData}, Same F H → DD F v x → Post K mg W σ F H Q (op x) → r v H Q
theorem ee_un {o : UnaryOp} {r : V → Hp → VK → Prop} {op : PyData → Rs R} (ho : UnR X (unaryOp o) r) (hd : UnD X.K X.mg W r op) (ha : EE X W a ta fa) : EE X W (.UnaryOp o a pos) (tUn r ta) (fUn op fa) where
  pe := pe_un ho ha.pe
  sound := fun rel Q P => ha.sound rel _ (post_data P fun d v F1 H1 e1 r1 P1 => hd e1.sub r1 P1)
def opNeg : PyData → Rs R
  | .int i => .ok (.val (.int (-i)))
  | _ => .bad
theorem ud_neg : UnD X.K X.mg W (rU fun i => .int (-i)) opNeg := fun {σ F H Q v x} s a P => by
  cases a <;> first
    | exact ⟨_, rfl, post_flat s (.int _) P⟩
    | exact P.elim
/-- a chain of two comparisons -/
@[simp] def fChain (op op' : PyData → PyData → Rs R) (fa fb fc : Ev → Rs R) : Ev → Rs R := fun ρ => (fa ρ).bind fun a => a.d.bind fun x => (fb ρ).bind fun b => b.d.bind fun y => (op x y).bind fun z => z.d.bind fun w => (asB w).bind fun k =>
  if k = true then (fc ρ).bind fun c => c.d.bind fun v => op' y v else .ok (.val (.bool false))
theorem asB_ok {d : PyData} {b : Bool} (h : asB d = .ok b) : d = .bool b := by
  cases d <;> simp [asB] at h
  rw [h]
theorem post_asB {K : PySem.W.Frag} {mg : Str → Option Value} {σ : L2.St} {F H : Hp} {Q : VK} {d : PyData} {k : Bool → Rs R} (P : Post K mg W σ F H Q ((asB d).bind k)) : ∃ b, d = .bool b ∧ Post K mg W σ F H Q (k b) := by
  cases d <;> first
    | exact ⟨_, rfl, P⟩
    | exact P.elim
theorem ee_chain {o o' : CmpOp} {r r' : R2} {op op' : PyData → PyData → Rs R} (ho : OpR X (compareOp o) r) (ho' : OpR X (compareOp o') r') (hd : OpD X.K X.mg W r op) (hd' : OpD X.K X.mg W r' op') (ha : EE X W a ta fa) (hb : EE X W b tb fb) (hc : EE X W c tc fc)
    (hm : lastMarks [o, o'] [b, c] = false := by with_unfolding_all rfl) : EE X W (.Compare a [o, o'] [b, c] pos) (tChain r r' ta tb tc) (fChain op op' fa fb fc) where
  pe := pe_chain ho ho' ha.pe hb.pe hc.pe hm
  sound := fun rel Q P => ha.sound rel _ (post_data P fun d v F1 H1 e1 r1 P1 => hb.sound (rel.step e1) _ (post_data P1 fun d2 v2 F2 H2 e2 r2 P2 =>
    hd e2.sub (DD.mono e2.ff _ _ r1) r2 (post_data P2 fun d3 v3 F3 H3 e3 r3 P3 => by
      obtain ⟨k, rfl, P4⟩ := post_asB P3
      cases r3
      refine ⟨k, rfl, ?_⟩
      cases k with
      | true =>
        rw [if_pos rfl] at P4 ⊢
        exact hc.sound ((rel.step e1).step (e2.trans e3)) _ (post_data P4 fun d5 v5 F5 H5 e5 r5 P5 => hd' e5.sub (DD.mono e5.ff _ _ (DD.mono e3.ff _ _ r2)) r5 P5)
      | false =>
        rw [if_neg (by decide)] at P4 ⊢
        exact post_flat e3.sub (.bl _) P4)))

/-! ### tests -/
theorem postB_data {Q1 : VK} {Q : Bool → Hp → Prop} {K : PySem.W.Frag} {mg : Str → Option Value} {σ : L2.St} {F H : Hp} {m : Rs R} {k : PyData → Rs Bool} (P : PostB mg W σ F H Q (m.bind fun r => r.d.bind k))
    (h : ∀ d v F1 H1, Ext F H F1 H1 → DD F1 v d → PostB mg W σ F1 H1 Q (k d) → Q1 v H1) : Post K mg W σ F H Q1 m := by
  cases m with
  | ok r =>
    intro v F' H' x y
    cases hd : r.d with
    | ok d =>
      obtain ⟨F2, e2, _, q2⟩ := y.data x hd
      have P' : PostB mg W σ F H Q (k d) := by
        have : ((Rs.ok r).bind fun r => r.d.bind k) = k d := by simp [hd]
        rw [this] at P; exact P
      exact h d v F2 H' e2 q2 (postB_step P' e2)
    | err c => exact absurd hd (by cases r <;> simp [R.d])
    | bad =>
      have : ((Rs.ok r).bind fun r => r.d.bind k) = .bad := by simp [hd]
      rw [this] at P; exact P.elim
  | err c => exact P
  | bad => exact P
theorem et_val (h : EE X W e te f) (he : ∀ whole, isTrue e X.env whole = (do let v ← whole; standAt e.pos; holding [v] (truthy v)) := by intro _; rfl) : ET X W e (tB te) (fTest f) where
  pt := pt_val h.pe he
  sound := fun rel Q P => h.sound rel _ (postB_data P fun d v F1 H1 e1 r1 P1 => by
    cases r1 <;> first
      | exact ⟨_, rfl, P1 _ _ (Ext.refl e1.sub)⟩
      | exact P1.elim)
theorem postB_bind {Q Q1 : Bool → Hp → Prop} {mg : Str → Option Value} {σ : L2.St} {F H : Hp} {m : Rs Bool} {k : Bool → Rs Bool} (P : PostB mg W σ F H Q (m.bind k))
    (h : ∀ b F1 H1, Ext F H F1 H1 → PostB mg W σ F1 H1 Q (k b) → Q1 b H1) : PostB mg W σ F H Q1 m := by
  cases m with
  | ok r => exact fun F' H' x => h r F' H' x (postB_step P x)
  | err c => exact P
  | bad => exact P
variable {tA tB' : TT} {fA fB : Ev → Rs Bool} {rest : List Expr}
theorem et_not (h : ET X W a tA fA) : ET X W (.UnaryOp .Not a pos) (tNot tA) (fNot fA) where
  pt := pt_not h.pt
  sound := fun rel Q P => h.sound rel _ (postB_bind P fun b F1 H1 e1 P1 => P1 _ _ (Ext.refl e1.sub))
theorem ew_and1 (h : ET X W a tA fA) : EW X W (.BoolOp .And [a] pos) tA fA := ⟨pw_and1 h.pt, h.sound⟩
theorem ew_or1 (h : ET X W a tA fA) : EW X W (.BoolOp .Or [a] pos) tA fA := ⟨pw_or1 h.pt, h.sound⟩
theorem ew_and (h : ET X W a tA fA) (g : EW X W (.BoolOp .And (b :: rest) pos) tB' fB) : EW X W (.BoolOp .And (a :: b :: rest) pos) (tAnd tA tB') (fAnd fA fB) where
  pw := pw_and h.pt g.pw
  sound := fun rel Q P => h.sound rel _ (postB_bind P fun b F1 H1 e1 P1 => by
    cases b with
    | true =>
      rw [if_pos rfl] at P1 ⊢
      exact g.sound (rel.step e1) _ P1
    | false =>
      rw [if_neg (by decide)] at P1 ⊢
      exact P1 _ _ (Ext.refl e1.sub))
theorem ew_or (h : ET X W a tA fA) (g : EW X W (.BoolOp .Or (b :: rest) pos) tB' fB) : EW X W (.BoolOp .Or (a :: b :: rest) pos) (tOr tA tB') (fOr fA fB) where
  pw := pw_or h.pt g.pw
  sound := fun rel Q P => h.sound rel _ (postB_bind P fun b F1 H1 e1 P1 => by
    cases b with
    | true =>
      rw [if_pos rfl] at P1 ⊢
      exact P1 _ _ (Ext.refl e1.sub)
    | false =>
      rw [if_neg (by decide)] at P1 ⊢
      exact g.sound (rel.step e1) _ P1)
theorem EW.et (h : EW X W e tA fA) : ET X W e tA fA := ⟨h.pw.pt, h.sound⟩
/-! ### and, or, not as values -/
theorem ee_one {o} (h : EE X W a ta fa) : EE X W (.BoolOp o [a] pos) ta fa := ⟨pe_one h.pe, h.sound⟩
theorem ee_and (h : EE X W a ta fa) (g : EE X W (.BoolOp .And (b :: rest) pos) tb fb) : EE X W (.BoolOp .And (a :: b :: rest) pos) (tAndV ta tb) (fAndV fa fb) where
  pe := pe_and h.pe g.pe
  sound := fun rel Q P => h.sound rel _ (post_data P fun d v F1 H1 e1 r1 P1 => by
    obtain ⟨k, rfl, P4⟩ := post_asB P1
    cases r1
    refine ⟨k, rfl, ?_⟩
    cases k with
    | true =>
      rw [if_pos rfl] at P4 ⊢
      exact g.sound (rel.step e1) _ P4
    | false =>
      rw [if_neg (by decide)] at P4 ⊢
      exact post_flat e1.sub (.bl _) P4)
theorem ee_or (h : EE X W a ta fa) (g : EE X W (.BoolOp .Or (b :: rest) pos) tb fb) : EE X W (.BoolOp .Or (a :: b :: rest) pos) (tOrV ta tb) (fOrV fa fb) where
  pe := pe_or h.pe g.pe
  sound := fun rel Q P => h.sound rel _ (post_data P fun d v F1 H1 e1 r1 P1 => by
    obtain ⟨k, rfl, P4⟩ := post_asB P1
    cases r1
    refine ⟨k, rfl, ?_⟩
    cases k with
    | true =>
      rw [if_pos rfl] at P4 ⊢
      exact post_flat e1.sub (.bl _) P4
    | false =>
      rw [if_neg (by decide)] at P4 ⊢
      exact g.sound (rel.step e1) _ P4)
theorem ee_not (h : EE X W a ta fa) : EE X W (.UnaryOp .Not a pos) (tNotV ta) (fNotV fa) where
  pe := pe_not h.pe
  sound := fun rel Q P => h.sound rel _ (post_data P fun d v F1 H1 e1 r1 P1 => by
    obtain ⟨k, rfl, P4⟩ := post_asB P1
    cases r1
    exact ⟨k, rfl, post_flat e1.sub (.bl _) P4⟩)
theorem postB_out {Q1 : Bool → Hp → Prop} {Q : VK} {K : PySem.W.Frag} {mg : Str → Option Value} {σ : L2.St} {F H : Hp} {m : Rs Bool} {k : Bool → Rs R} (P : Post K mg W σ F H Q (m.bind k))
    (h : ∀ b F1 H1, Ext F H F1 H1 → Post K mg W σ F1 H1 Q (k b) → Q1 b H1) : PostB mg W σ F H Q1 m := by
  cases m with
  | ok r => exact fun F' H' x => h r F' H' x (post_step P x)
  | err c => exact P
  | bad => exact P
theorem ee_if (hc : ET X W c tA fA) (ha : EE X W a ta fa) (hb : EE X W b tb fb) : EE X W (.IfExp c a b pos) (tIf tA ta tb) (fIf fA fa fb) where
  pe := pe_ifExp hc.pt ha.pe hb.pe
  sound := fun rel Q P => hc.sound rel _ (postB_out P fun b F1 H1 e1 P1 => by
    cases b with
    | true =>
      rw [if_pos rfl] at P1 ⊢
      exact ha.sound (rel.step e1) _ P1
    | false =>
      rw [if_neg (by decide)] at P1 ⊢
      exact hb.sound (rel.step e1) _ P1)
/-! ### subscripts -/
def opIx : PyData → PyData → Rs R
  | .list ds, .int i => match atI ds i with
    | some d => .ok (.val d)
    | none => .bad
  | .tuple ds, .int i => match atI ds i with
    | some d => .ok (.val d)
    | none => .bad
  | .str z, .int i => if z.length ≤ lim then (match atI z.cps.toList i with
    | some c => .ok (.val (.str ⟨#[c]⟩))
    | none => .bad) else .bad
  | _, _ => .bad
theorem atI_DD {F : Hp} {vs : List V} {ds : List PyData} {i : Int} {d : PyData} (r : DDs F vs ds) (h : atI ds i = some d) : ∃ v, atI vs i = some v ∧ DD F v d := by
  unfold atI at *
  rw [r.len]
  cases hx : ixN ds.length i with
  | none => rw [hx] at h; cases h
  | some j =>
    rw [hx] at h
    obtain ⟨v, a, b⟩ := r.get (i := j) h
    exact ⟨v, a, b⟩
theorem od_ix : OpD X.K X.mg W (rIx X.K) opIx := fun {σ F H Q v u x y} s a b P => by
  unfold opIx at P
  cases a with
  | @lst p xs ds h r =>
    cases b with
    | int i =>
      dsimp only at P
      split at P
      · rename_i d hd
        obtain ⟨w, e1, e2⟩ := atI_DD r hd
        exact .inl ⟨_, _, _, _, rfl, rfl, SqL.of (s _ _ h), e1, post_flat s e2 P⟩
      · exact P.elim
    | _ => exact P.elim
  | @tup p xs ds h r =>
    cases b with
    | int i =>
      dsimp only at P
      split at P
      · rename_i d hd
        obtain ⟨w, e1, e2⟩ := atI_DD r hd
        exact .inr (.inl ⟨_, _, _, _, rfl, rfl, SqT.of (s _ _ h), e1, post_flat s e2 P⟩)
      · exact P.elim
    | _ => exact P.elim
  | str z =>
    cases b with
    | int i =>
      dsimp only at P
      split at P
      · rename_i hl
        split at P
        · rename_i c hc
          exact .inr (.inr ⟨_, _, _, rfl, rfl, Nat.le_trans hl lim_le, hc, post_flat s (.str _) P⟩)
        · exact P.elim
      · exact P.elim
    | _ => exact P.elim
  | _ => cases b <;> exact P.elim
theorem ee_ix (ha : EE X W a ta fa) (hb : EE X W b tb fb) (hs : PlainIx b := by exact fun _ _ => rfl) : EE X W (.Subscript a b pos) (tOp (rIx X.K) ta tb) (fOp opIx fa fb) :=
  ⟨pe_ix ix_seq ha.pe hb.pe hs, op_sound od_ix ha hb⟩
/-! ### slices -/
def cut {α : Type} (xs : List α) (lo hi : Option Int) : List α := (xs.drop (HT.sIx xs.length 0 lo)).take (HT.sIx xs.length xs.length hi - HT.sIx xs.length 0 lo)
structure EO (X : Cx) (W : WX) (e : Option Expr) (t : TO) (f : Ev → Rs (Option Int)) : Prop where
  po : PO X e t
  sound : ∀ {G H0 : Hp} {ρ : Ev} {σ : L2.St} {F H : Hp}, Rel X.K G H0 ρ σ F H → ∀ (Q1 : Option Int → Hp → Prop) (Q : VK) (k : Option Int → Rs R), Post X.K X.mg W σ F H Q ((f ρ).bind k) →
    (∀ o F1 H1, Ext F H F1 H1 → Post X.K X.mg W σ F1 H1 Q (k o) → Q1 o H1) → t σ H Q1
@[simp] def fNo : Ev → Rs (Option Int) := fun _ => .ok none
def asI : PyData → Rs (Option Int)
  | .int i => .ok (some i)
  | _ => .bad
@[simp] def fPart (f : Ev → Rs R) : Ev → Rs (Option Int) := fun ρ => (f ρ).bind fun r => r.d.bind asI
theorem eo_none : EO X W none tNoPart fNo := ⟨po_none, fun rel Q1 Q k P h => h none _ _ (Ext.refl rel.sub) P⟩
theorem bind_assoc {α β γ : Type} (m : Rs α) (k : α → Rs β) (j : β → Rs γ) : (m.bind k).bind j = m.bind fun x => (k x).bind j := by cases m <;> rfl
theorem eo_some (h : EE X W e te f) : EO X W (some e) (tPart te) (fPart f) where
  po := po_some h.pe
  sound := fun {G H0 ρ σ F H} rel Q1 Q k P g => by
    unfold fPart at P
    have P' : Post X.K X.mg W σ F H Q ((f ρ).bind fun r => r.d.bind fun x => (asI x).bind k) := by
      simpa only [bind_assoc] using P
    exact h.sound rel _ (post_data P' fun d v F1 H1 e1 r1 P1 => by
      cases r1 <;> first
        | exact ⟨_, rfl, g _ _ _ e1 P1⟩
        | exact P1.elim)
def opSl (d : PyData) (lo hi : Option Int) : Rs R := match d with
  | .list ds => .ok (.own (cut ds lo hi))
  | .tuple ds => .ok (.val (.tuple (cut ds lo hi)))
  | .str z => if z.length ≤ lim then .ok (.val (.str (cutS z lo hi))) else .bad
  | _ => .bad
def rSlAll (K : PySem.W.Frag) : V → Option Int → Option Int → Hp → VK → Prop := fun x lo hi H Q => rSlL K x lo hi H Q ∨ rSlA K x lo hi H Q ∨ rSlS x lo hi H Q
theorem sl_all : SlR X (rSlAll X.K) := sl_list.or (sl_tupA.or sl_str)
theorem DDs.cut {F : Hp} {vs : List V} {ds : List PyData} (r : DDs F vs ds) (lo hi : Option Int) : DDs F (cutV vs lo hi) (DN.cut ds lo hi) := by
  unfold cutV DN.cut
  rw [r.len]
  exact (r.drop _).take _
theorem cut_whole {α : Type} {xs : List α} {lo hi : Option Int} (h : HT.sIx xs.length 0 lo = 0 ∧ HT.sIx xs.length xs.length hi = xs.length) : DN.cut xs lo hi = xs := by
  unfold DN.cut
  rw [h.1, h.2]
  simp
@[simp] def fSl (f : Ev → Rs R) (fl fh : Ev → Rs (Option Int)) : Ev → Rs R := fun ρ => (f ρ).bind fun r => r.d.bind fun x => (fl ρ).bind fun lo => (fh ρ).bind fun hi => opSl x lo hi
theorem ee_sl {lo hi : Option Expr} {tl th : TO} {fl fh : Ev → Rs (Option Int)} {p2 : Pos} (he : EE X W e te f) (hl : EO X W lo tl fl) (hh : EO X W hi th fh) : EE X W (.Subscript e (.Slice lo hi none p2) pos) (tSl (rSlAll X.K) te tl th) (fSl f fl fh) where
  pe := pe_slice sl_all he.pe hl.po hh.po
  sound := fun {G H0 ρ σ F H} rel Q P => he.sound rel _ (post_data P fun d v F1 H1 e1 r1 P1 => hl.sound (rel.step e1) _ Q _ P1 fun lo F2 H2 e2 P2 => hh.sound ((rel.step e1).step e2) _ Q _ P2 fun hi F3 H3 e3 P3 => by
    have r3 := DD.mono (e2.ff.trans e3.ff) _ _ r1
    have s := e3.sub
    unfold opSl at P3
    cases r3 with
    | @lst p xs ds h r => exact .inl ⟨_, _, rfl, SqL.of (s _ _ h), new_lst s (r.cut lo hi) P3⟩
    | @tup p xs ds h r =>
      refine .inr (.inl ⟨_, _, rfl, SqT.of (s _ _ h), fun z => ?_, fun _ => new_tup s (r.cut lo hi) P3⟩)
      rw [r.len] at z
      dsimp only at P3
      rw [cut_whole z] at P3
      exact post_flat s (.tup h r) P3
    | str z =>
      dsimp only at P3
      split at P3
      · rename_i hl
        exact .inr (.inr ⟨_, rfl, Nat.le_trans hl lim_le, post_flat s (.str _) P3⟩)
      · exact P3.elim
    | _ => exact P3.elim)

/-! ### calls of defs -/
/-- what a def of plain data promises -/
def spD (K : PySem.W.Frag) (mg : Str → Option Value) (n : Nat) (den : List R → Rs R) : Sp := fun vs H Q E => vs.length = n ∧ ∃ rs F, Same F H ∧ Args K F H vs rs ∧ (match den rs with
  | .ok r => ∀ v F' H', Ext F H F' H' → RepN K F' H' H v r → Q v H'
  | .err c => ∀ C H', mg c = some (.ref C) → Same H H' → E (.ref C) none H'
  | .bad => False)
theorem Args.len {K : PySem.W.Frag} {F H : Hp} : ∀ {vs : List V} {rs : List R}, Args K F H vs rs → vs.length = rs.length
  | _, _, .nil => rfl
  | _, _, .cons _ t => congrArg (· + 1) (Args.len t)
theorem ee_call {k n : Nat} {fn : Addr} {fd : FuncData} {ps : List Str} {den : List R → Rs R} {x : Str} {p : Pos} {t : TA} {fr : Ev → Rs (List R)} (Fn : FnOk X.prog X.w X.K X.mg X.base (L2.CX X.prog X.w) k fn fd ps (spD X.K X.mg n den)) (hr : Room k X.A) (hm : X.mg x = some (.ref fn))
    (hk : PySem.W.keepIn X.K (.ref fn) = true) (hb : Binds X.K fd ps []) (tk : Takes X W) (ha : EA X W (e :: es) t fr) (hn : (e :: es).length = n := by rfl) (hg : Gl X x := by rfl)
    (hdb : (x == ("__debug__" : Str)) = false := by decide) (he : starEach (e :: es) X.env = (false, eval e X.env) :: starEach es X.env := by rfl) (hpl : (backTo pos (starEach es X.env)).any (·.1) = false := by rfl) :
    EE X W (.Call (.Name x p) (e :: es) [] pos) (tCallS (spD X.K X.mg n den) (WE W) t) (fCall den fr) where
  pe := pe_callS Fn hr hg hm hk hb (fun σ => passAt tk σ) ha.pa hdb he hpl
  sound := fun {G H0 ρ σ F H} rel Q P => ha.sound rel _ (postA_out P fun rs vs F1 H1 q e1 r1 P1 => ⟨by rw [r1.len, ha.len ρ rs q]; exact hn, rs, F1, e1.sub, r1, by
    cases hd : den rs with
    | ok r => rw [hd] at P1; exact P1
    | err c => rw [hd] at P1; exact P1
    | bad => rw [hd] at P1; exact P1⟩)
theorem ee_call0 {k : Nat} {fn : Addr} {fd : FuncData} {ps : List Str} {den : List R → Rs R} {x : Str} {p : Pos} (Fn : FnOk X.prog X.w X.K X.mg X.base (L2.CX X.prog X.w) k fn fd ps (spD X.K X.mg 0 den)) (hr : Room k X.A) (hm : X.mg x = some (.ref fn))
    (hk : PySem.W.keepIn X.K (.ref fn) = true) (hb : Binds X.K fd ps []) (E : XK) (hp : Passes (L2.CX X.prog X.w) X E) (hE : ∀ c d σ H, W c d σ H → E c d H) (hg : Gl X x := by rfl)
    (hdb : (x == ("__debug__" : Str)) = false := by decide) :
    EE X W (.Call (.Name x p) [] [] pos) (tCall (spD X.K X.mg 0 den) [] E tNil) (fun _ => den []) where
  pe := pe_call0 Fn hr hg hm hk hb .nil hp hdb
  sound := fun {G H0 ρ σ F H} rel Q P => ⟨rfl, [], F, rel.sub, .nil, by
    cases hd : den [] with
    | ok r => rw [hd] at P; exact P
    | err c => rw [hd] at P; exact fun C H' m s => hE _ _ σ _ (P C H' m s)
    | bad => rw [hd] at P; exact P⟩

/-! ### calls of built-ins -/
def BiD (K : PySem.W.Frag) (mg : Str → Option Value) (W : WX) (r : List V → Hp → VK → Prop) (op : List PyData → Rs R) : Prop :=
  ∀ {σ : L2.St} {F H : Hp} {Q : VK} {vs : List V} {ds : List PyData}, Same F H → DDs F vs ds → Post K mg W σ F H Q (op ds) → r vs H Q
theorem ee_callB {x : Str} {id : String} {p : Pos} {t : TA} {fr : Ev → Rs (List PyData)} {r : List V → Hp → VK → Prop} {op : List PyData → Rs R} (hc : CallR X (.builtin id) r) (hd : BiD X.K X.mg W r op) (hm : X.mg x = none) (hv : bootBuiltins x = some (.builtin id)) (ha : ED X W (e :: es) t fr)
    (hg : Gl X x := by rfl) (hn : x ≠ "__name__" := by decide) (hdb : (x == ("__debug__" : Str)) = false := by decide)
    (he : starEach (e :: es) X.env = (false, eval e X.env) :: starEach es X.env := by rfl) (hpl : (backTo pos (starEach es X.env)).any (·.1) = false := by rfl) : EE X W (.Call (.Name x p) (e :: es) [] pos) (tCB r t) (fBi op fr) where
  pe := pe_callB hc hg hm hv ha.pa hn hdb he hpl
  sound := fun {G H0 ρ σ F H} rel Q P => ha.sound rel _ (postD_out P fun ds vs F1 H1 e1 r1 P1 => hd e1.sub r1 P1)
theorem ee_callTy {x : Str} {T : String} {p : Pos} {t : TA} {fr : Ev → Rs (List PyData)} {r : List V → Hp → VK → Prop} {op : List PyData → Rs R} (hc : CallR X (.type T) r) (hd : BiD X.K X.mg W r op) (hm : X.mg x = none) (hv : bootBuiltins x = some (.type T)) (ha : ED X W (e :: es) t fr)
    (hg : Gl X x := by rfl) (hn : x ≠ "__name__" := by decide) (hdb : (x == ("__debug__" : Str)) = false := by decide)
    (he : starEach (e :: es) X.env = (false, eval e X.env) :: starEach es X.env := by rfl) (hpl : (backTo pos (starEach es X.env)).any (·.1) = false := by rfl) : EE X W (.Call (.Name x p) (e :: es) [] pos) (tCB r t) (fBi op fr) where
  pe := pe_callTy hc hg hm hv ha.pa hn hdb he hpl
  sound := fun {G H0 ρ σ F H} rel Q P => ha.sound rel _ (postD_out P fun ds vs F1 H1 e1 r1 P1 => hd e1.sub r1 P1)
/-- len -/
def biLen : List PyData → Rs R
  | [.list ds] => .ok (.val (.int ds.length))
  | [.tuple ds] => .ok (.val (.int ds.length))
  | [.str z] => if z.length ≤ lim then .ok (.val (.int z.length)) else .bad
  | _ => .bad
theorem bd_len : BiD X.K X.mg W (fun xs H Q => ∃ x n, xs = [x] ∧ LenV X.K x H n ∧ Q (.int n) H) biLen := fun {σ F H Q vs ds} s r P => by
  match ds, r with
  | [], .nil => exact P.elim
  | [_], .cons h .nil =>
    unfold biLen at P
    cases h with
    | @lst p xs ds h r => exact ⟨_, _, rfl, .inl ⟨_, SqL.of (s _ _ h), rfl⟩, by rw [r.len]; exact post_flat s (.int _) P⟩
    | @tup p xs ds h r => exact ⟨_, _, rfl, .inr ⟨_, SqT.of (s _ _ h), rfl⟩, by rw [r.len]; exact post_flat s (.int _) P⟩
    | str z =>
      dsimp only at P
      split at P
      · rename_i hl
        exact ⟨_, _, rfl, ⟨Nat.le_trans hl lim_le, rfl⟩, post_flat s (.int _) P⟩
      · exact P.elim
    | _ => exact P.elim
  | _ :: _ :: _, .cons h (.cons _ _) => cases h <;> exact P.elim
/-- all, any of a list of truth values -/
def asBs : List PyData → Option (List Bool)
  | [] => some []
  | .bool b :: r => (asBs r).map (b :: ·)
  | _ => none
theorem asBs_eq : ∀ {ds : List PyData} {bs : List Bool}, asBs ds = some bs → ds = bs.map PyData.bool
  | [], _, h => by simp [asBs] at h; subst h; rfl
  | d :: r, bs, h => by
    cases d <;> simp [asBs] at h
    obtain ⟨a, h1, rfl⟩ := h
    rw [asBs_eq h1]; rfl
@[simp] theorem asBs_map (bs : List Bool) : asBs (bs.map PyData.bool) = some bs := by
  induction bs with
  | nil => rfl
  | cons b r ih => simp [asBs, ih]
def biAll : List PyData → Rs R
  | [.list ds] => match asBs ds with
    | some bs => .ok (.val (.bool (bs.all id)))
    | none => .bad
  | _ => .bad
def biAny : List PyData → Rs R
  | [.list ds] => match asBs ds with
    | some bs => .ok (.val (.bool (bs.any id)))
    | none => .bad
  | _ => .bad
theorem bd_all : BiD X.K X.mg W (rAll X.K) biAll := fun {σ F H Q vs ds} s r P => by
  match ds, r with
  | [], .nil => exact P.elim
  | [_], .cons h .nil =>
    unfold biAll at P
    cases h with
    | @lst p xs ds h r =>
      dsimp only at P
      split at P
      · rename_i bs hb
        have e := asBs_eq hb
        subst e
        have e2 := r.ofBools
        subst e2
        exact ⟨_, bs, rfl, SqL.of (s _ _ h), post_flat s (.bl _) P⟩
      · exact P.elim
    | _ => exact P.elim
  | _ :: _ :: _, .cons h (.cons _ _) => cases h <;> exact P.elim
theorem bd_any : BiD X.K X.mg W (rAny X.K) biAny := fun {σ F H Q vs ds} s r P => by
  match ds, r with
  | [], .nil => exact P.elim
  | [_], .cons h .nil =>
    unfold biAny at P
    cases h with
    | @lst p xs ds h r =>
      dsimp only at P
      split at P
      · rename_i bs hb
        have e := asBs_eq hb
        subst e
        have e2 := r.ofBools
        subst e2
        exact ⟨_, bs, rfl, SqL.of (s _ _ h), post_flat s (.bl _) P⟩
      · exact P.elim
    | _ => exact P.elim
  | _ :: _ :: _, .cons h (.cons _ _) => cases h <;> exact P.elim
/-- list(x), tuple(x) -/
def biList : List PyData → Rs R
  | [.list ds] => .ok (.own ds)
  | [.tuple ds] => .ok (.own ds)
  | _ => .bad
def biTuple : List PyData → Rs R
  | [.list ds] => .ok (.val (.tuple ds))
  | [.tuple ds] => .ok (.val (.tuple ds))
  | _ => .bad
theorem bd_list : BiD X.K X.mg W (fun xs H Q => ∃ p ys, xs = [.ref p] ∧ (SqL X.K H p ys ∨ SqT X.K H p ys) ∧ ∀ l, H l = none → Q (.ref l) (upd H l (.lst ys))) biList := fun {σ F H Q vs ds} s r P => by
  match ds, r with
  | [], .nil => exact P.elim
  | [_], .cons h .nil =>
    unfold biList at P
    cases h with
    | @lst p xs ds h r => exact ⟨_, _, rfl, .inl (SqL.of (s _ _ h)), new_lst s r P⟩
    | @tup p xs ds h r => exact ⟨_, _, rfl, .inr (SqT.of (s _ _ h)), new_lst s r P⟩
    | _ => exact P.elim
  | _ :: _ :: _, .cons h (.cons _ _) => cases h <;> exact P.elim
theorem bd_tuple : BiD X.K X.mg W (fun xs H Q => ∃ p ys, xs = [.ref p] ∧ ((SqL X.K H p ys ∧ ∀ l, H l = none → Q (.ref l) (upd H l (.tup ys))) ∨ (SqT X.K H p ys ∧ Q (.ref p) H))) biTuple := fun {σ F H Q vs ds} s r P => by
  match ds, r with
  | [], .nil => exact P.elim
  | [_], .cons h .nil =>
    unfold biTuple at P
    cases h with
    | @lst p xs ds h r => exact ⟨_, _, rfl, .inl ⟨SqL.of (s _ _ h), new_tup s r P⟩⟩
    | @tup p xs ds h r => exact ⟨_, _, rfl, .inr ⟨SqT.of (s _ _ h), post_flat s (.tup h r) P⟩⟩
    | _ => exact P.elim
  | _ :: _ :: _, .cons h (.cons _ _) => cases h <;> exact P.elim
/-- max(i, j), min(i, j) -/
def biMax2 : List PyData → Rs R
  | [.int i, .int j] => .ok (.val (.int (if j > i then j else i)))
  | _ => .bad
def biMin2 : List PyData → Rs R
  | [.int i, .int j] => .ok (.val (.int (if j < i then j else i)))
  | _ => .bad
theorem bd_max2 : BiD X.K X.mg W (fun xs H Q => ∃ i j, xs = [.int i, .int j] ∧ Q (.int (if j > i then j else i)) H) biMax2 := fun {σ F H Q vs ds} s r P => by
  match ds, r with
  | [], .nil => exact P.elim
  | [_], .cons h .nil => cases h <;> exact P.elim
  | [_, _], .cons h (.cons g .nil) =>
    cases h <;> cases g <;> first
      | exact ⟨_, _, rfl, post_flat s (.int _) P⟩
      | exact P.elim
  | _ :: _ :: _ :: _, .cons h (.cons g (.cons _ _)) => cases h <;> cases g <;> exact P.elim
theorem bd_min2 : BiD X.K X.mg W (fun xs H Q => ∃ i j, xs = [.int i, .int j] ∧ Q (.int (if j < i then j else i)) H) biMin2 := fun {σ F H Q vs ds} s r P => by
  match ds, r with
  | [], .nil => exact P.elim
  | [_], .cons h .nil => cases h <;> exact P.elim
  | [_, _], .cons h (.cons g .nil) =>
    cases h <;> cases g <;> first
      | exact ⟨_, _, rfl, post_flat s (.int _) P⟩
      | exact P.elim
  | _ :: _ :: _ :: _, .cons h (.cons g (.cons _ _)) => cases h <;> cases g <;> exact P.elim
/-- int(i) -/
def biInt : List PyData → Rs R
  | [.int i] => .ok (.val (.int i))
  | _ => .bad
theorem bd_int : BiD X.K X.mg W (fun xs H Q => (∃ i, xs = [.int i] ∧ Q (.int i) H) ∨ ∃ k, xs = [.bl k] ∧ Q (.int (if k then 1 else 0)) H) biInt := fun {σ F H Q vs ds} s r P => by
  match ds, r with
  | [], .nil => exact P.elim
  | [_], .cons h .nil =>
    cases h <;> first
      | exact .inl ⟨_, rfl, post_flat s (.int _) P⟩
      | exact P.elim
  | _ :: _ :: _, .cons h (.cons _ _) => cases h <;> exact P.elim
/-! ### isinstance(e, T) -/
def tyD : PyData → String
  | .none => "NoneType"
  | .bool _ => "bool"
  | .int _ => "int"
  | .str _ => "str"
  | .list _ => "list"
  | .tuple _ => "tuple"
  | .dict _ => "dict"
def isiD (T : String) (d : PyData) : Rs R := match kitB (tyD d) T with
  | some b => .ok (.val (.bool b))
  | none => .bad
theorem tyX_of {K : PySem.W.Frag} {F H : Hp} {v : V} {d : PyData} (s : Same F H) (h : DD F v d) : TyX K H v (.type (tyD d)) := by
  cases h with
  | non => exact .base .non
  | bl b => exact .base (.bl b)
  | int b => exact .base (.int b)
  | str b => exact .base (.str b)
  | lst h r => exact .base (.lst (s _ _ h))
  | tup h r => exact .base (.tup (s _ _ h))
theorem ee_isi {T : Str} {n : String} {p p2 : Pos} (he : EE X W e te f) (hm : X.mg "isinstance" = none) (hT : X.mg T = none) (hb : bootBuiltins T = some (.type n)) (hg : Gl X "isinstance" := by rfl) (hgT : Gl X T := by rfl) (hn : T ≠ "__name__" := by decide) (hd : (T == ("__debug__" : Str)) = false := by decide)
    (hs1 : starEach [e, .Name T p2] X.env = (false, eval e X.env) :: starEach [.Name T p2] X.env := by rfl) (hs2 : starEach [.Name T p2] X.env = (false, eval (.Name T p2) X.env) :: starEach [] X.env := by rfl) (hpl : (backTo pos (starEach [.Name T p2] X.env)).any (·.1) = false := by rfl) :
    EE X W (.Call (.Name "isinstance" p) [e, .Name T p2] [] pos) (tCB (rIsi X.K) (tCons te (tCons (tC (.ty n)) tNil))) (fUn (isiD n) f) where
  pe := pe_callB call_isi hg hm (by decide +kernel) (pa_cons he.pe (pa_cons (pe_bltn (v := .ty n) hgT hT hb rfl hn hd) pa_nil hs2) hs1) (by decide) (by decide) hs1 hpl
  sound := fun {G H0 ρ σ F H} rel Q P => he.sound rel _ (post_data P fun d v F1 H1 e1 r1 P1 => by
    unfold isiD at P1
    split at P1
    · rename_i b hb
      exact ⟨v, _, _, _, b, rfl, .ty n, tyX_of e1.sub r1, kit_ty hb, post_flat e1.sub (.bl _) P1⟩
    · exact P1.elim)
end
end DN
/-! Den4: enumerate and zip of lists and tuples in any mix. -/
namespace DN
open PySem PySem.Spec PyProof.Rows L2

/-! ### a source: a tuple (true) or a list -/
def SqK (k : Bool) (K : PySem.W.Frag) (H : Hp) (a : Addr) (xs : List V) : Prop := match k with
  | true => SqT K H a xs
  | false => SqL K H a xs
def IterK (k : Bool) (h : Heap) (it a : Addr) (i : Nat) : Prop := match k with
  | true => h.IsTupleIter it a i
  | false => h.IsListIter it a i
def SeqK (k : Bool) (h : Heap) (a : Addr) (items : Array Value) : Prop := match k with
  | true => h.IsTuple a items
  | false => h.IsList a items
def iterObj (k : Bool) (a : Addr) : Obj := match k with
  | true => { cls := .type "tuple_iterator", data := .fields #[.ref a, .int 0 0] }
  | false => { cls := .type "list_iterator", data := .fields #[.ref a, .int 0 0] }
section
variable {X : Cx} {pins : List (Addr × Obj)} {σ : L2.St} {H : Hp} {s : Shared} {a : Addr} {xs ys : List V} {k : Bool}
theorem seqK_of (I : Inv X pins σ H s) (h : SqK k X.K H a xs) : ∃ its : List Value, Vals xs its ∧ SeqK k s.heap a its.toArray ∧ xs.length ≤ sizeLine := by
  cases k with
  | true => exact I.tuple h
  | false =>
    obtain ⟨its, a, b, c⟩ := I.list h
    exact ⟨its, a, b.isList, c⟩
theorem seqK_inj (I : Inv X pins σ H s) (h : SqK k X.K H a xs) (g : SqK k X.K H a ys) : xs = ys := by
  cases k with
  | true => exact I.tuple_inj h g
  | false => exact I.list_inj h g
end
theorem IterK.at {k : Bool} {h h' : Heap} {it a : Addr} {i : Nat} (x : IterK k h it a i) (e : ∀ o, h.get? it = some o → h'.get? it = some o) : IterK k h' it a i := by
  cases k with
  | true => exact Heap.IsTupleIter.at x e
  | false => exact Heap.IsListIter.at x e
theorem IterK.obj {k : Bool} {h : Heap} {it a : Addr} {i : Nat} (x : IterK k h it a i) : ∃ o, h.get? it = some o ∧ ∀ v, o.data ≠ .cell v := by
  cases k with
  | true =>
    obtain ⟨o, e, c, d⟩ := x
    exact ⟨o, e, fun v z => by rw [d] at z; cases z⟩
  | false =>
    obtain ⟨o, e, c, d⟩ := x
    exact ⟨o, e, fun v z => by rw [d] at z; cases z⟩
theorem SeqK.at {k : Bool} {h h' : Heap} {a : Addr} {xs : Array Value} (x : SeqK k h a xs) (e : ∀ o, h.get? a = some o → h'.get? a = some o) : SeqK k h' a xs := by
  cases k with
  | true => exact Heap.IsTuple.at x e
  | false => exact Heap.IsList.at x e
theorem iter0 {k : Bool} {h : Heap} {it a : Addr} (e : h.get? it = some (iterObj k a)) : IterK k h it a 0 := by
  cases k with
  | true => exact ⟨_, e, rfl, rfl⟩
  | false => exact ⟨_, e, rfl, rfl⟩
theorem drawsK {k : Bool} {prog : Program} {w : World} {A : Around} (hh : A.handled = none) (it t : Addr) (hne : t ≠ it) (items : Array Value) :
    Draws prog w A it [it, t] items.size (fun i v => items[i]? = some v) (fun i h => IterK k h it t i ∧ SeqK k h t items) := by
  cases k with
  | true => exact Draws.tuple hh it t hne items
  | false => exact Draws.list hh it t hne items
theorem beginsK (k : Bool) (t : Addr) (items : Array Value) : Begins (.ref t) (iterObj k t) fun h => SeqK k h t items := by
  cases k with
  | true => exact begins_tuple t items
  | false => exact begins_list t items

/-! ### enumerate -/
def IteK (k : Bool) (K : PySem.W.Frag) (a : Addr) : It :=
  ⟨fun i H => ∃ (xs : List V) (x : V), SqK k K H a xs ∧ xs[i]? = some x, fun i H v H' => ∃ T x, v = .ref T ∧ H T = none ∧ H' = upd H T (.tup [.int (i : Nat), x]) ∧ ∀ xs, SqK k K H a xs → xs[i]? = some x, fun i H => ∃ xs : List V, SqK k K H a xs ∧ xs.length = i⟩
theorem turn_enumK {k : Bool} {P : Program} {w : World} {K : PySem.W.Frag} {elts : List Expr} {kk : Nat} {tpos : Pos} (a e it : Addr) :
    Turn P w K (.Tuple elts kk tpos) (IteK k K a) [e, it] e (fun i h => (∃ old, IsEnum h e it ((i : Nat) : Int) old) ∧ IterK k h it a i ∧ e ≠ it ∧ a ≠ it ∧ a ≠ e) where
  mem := by simp
  obj := fun i h st b hb => by
    obtain ⟨⟨old, he⟩, hit, _⟩ := st
    have e' : b = e ∨ b = it := by simpa using hb
    rcases e' with z | z
    · rw [z]; exact ⟨_, he, fun v q => nomatch q⟩
    · rw [z]; exact hit.obj
  keep := fun i h h' st kp => let ⟨⟨old, he⟩, hi, hne⟩ := st; ⟨⟨old, kp e (by simp) _ he⟩, hi.at fun o q => kp it (by simp) o q, hne⟩
  item := by
    intro X hP hw hK hc i pins s σ H E I hf st hg
    subst hP hw hK
    obtain ⟨⟨old, he⟩, hit, hne, hai, hae⟩ := st
    obtain ⟨xs, x, hq, hx⟩ := hg
    obtain ⟨its, rv, p, hz⟩ := seqK_of I hq
    obtain ⟨u, hu, ru⟩ := rv.get hx
    have hel : e < s.heap.objs.size := Heap.lt_size he
    have hil : it < s.heap.objs.size := by obtain ⟨_, q, _⟩ := hit.obj; exact Heap.lt_size q
    have D := drawsK (k := k) (prog := X.prog) (w := X.w) (A := X.A.in1) (I.ok.hd hc) it a hai its.toArray
    have hi : i < its.toArray.size := by
      have := (List.getElem?_eq_some_iff.mp hu).1
      simpa using this
    refine (GoesN.enumFrom (elts := elts) (x1 := kk) (pos := tpos) 0 D e hne (by simp; exact ⟨hne, fun z => hae z.symm⟩) (by simp)).goes i s
      (fun u s2 => ∃ x H', Inv X pins σ H' s2 ∧ RelV x u ∧ (IteK k X.K a).yld i H x H' ∧ ((∃ old, IsEnum s2.heap e it (((i + 1 : Nat)) : Int) old) ∧ IterK k s2.heap it a (i + 1) ∧ e ≠ it ∧ a ≠ it ∧ a ≠ e) ∧ ∀ b ∈ [e, it], H' b = none)
      E hi ⟨⟨old, by rw [Int.zero_add]; exact he⟩, hit, p⟩ fun v h' tk hY st' hk htk => ?_
    obtain ⟨T, t, y, rfl, hT, hy, hTup⟩ := hY
    have ey : y = u := by
      have : its.toArray[i]? = some u := by simpa using hu
      rw [this] at hy; exact (Option.some.inj hy).symm
    subst ey
    have hnw : ∀ b, b ∉ ([e, it] : List Addr) → b ∉ ([e, it] : List Addr) := fun _ z => z
    have new : ObjOk X.prog X.w (upd H T (.tup [.int (i : Nat), x])) h' T (.tup [.int (i : Nat), x]) :=
      ⟨by show 2 ≤ sizeLine; decide, [.int (0 + (i : Int)) t, y], .cons ⟨_, by rw [Int.zero_add]⟩ (.cons ru .nil), hTup⟩
    have I1 : Inv X pins σ (upd H T (.tup [.int (i : Nat), x])) { s with heap := h', toks := tk } :=
      I.turnedNew (ch := [e, it]) (fun b ob hb q => hk b ob hb q) hf hT new
    refine ⟨.ref T, _, I1, rfl, ⟨T, x, rfl, I.hok.fresh hT, rfl, fun ys hy => by rw [seqK_inj I hy hq]; exact hx⟩, ⟨?_, st'.2.1, hne, hai, hae⟩, fun b hb => ?_⟩
    · obtain ⟨⟨old', he'⟩, _⟩ := st'
      rw [Int.zero_add] at he'
      exact ⟨old', he'⟩
    · have hb' : b < s.heap.objs.size := by
        have e' : b = e ∨ b = it := by simpa using hb
        rcases e' with z | z
        · rw [z]; exact hel
        · rw [z]; exact hil
      rw [upd_ne (Nat.ne_of_lt (Nat.lt_of_lt_of_le hb' hT))]
      exact (hf b hb).1
  done := by
    intro X hP hw hK hc i pins s σ H E I hf st hg
    subst hP hw hK
    obtain ⟨⟨old, he⟩, hit, hne, hai, hae⟩ := st
    obtain ⟨xs, hq, hx⟩ := hg
    obtain ⟨its, rv, p, hz⟩ := seqK_of I hq
    have D := drawsK (k := k) (prog := X.prog) (w := X.w) (A := X.A.in1) (I.ok.hd hc) it a hai its.toArray
    have hn : its.toArray.size = i := by rw [← hx, rv.length]; simp
    refine (GoesN.enumFrom (elts := elts) (x1 := kk) (pos := tpos) 0 D e hne (by simp; exact ⟨hne, fun z => hae z.symm⟩) (by simp)).stops s _ E (by
      rw [hn]; exact ⟨⟨old, by rw [Int.zero_add]; exact he⟩, hit, p⟩) fun h' tk hk htk => ?_
    exact I.turnedL (ch := [e, it]) (fun b o hb q => hk b o hb q) hf
  self := fun A i s Q E st h => let ⟨⟨_, he⟩, _⟩ := st; wpAny_pyIter_enum he h
set_option maxHeartbeats 1000000 in
theorem meets_enumerate_new1 {v : Value} {o : Obj} {H : Heap → Prop} (B : Begins v o H) :
    Meets (Builtin.«enumerate.__new__» ⟨[.type "enumerate", v], []⟩) (fun _ R s => H s.heap ∧
      R (.ok (.ret (.ref (s.heap.push o).objs.size))) { s with heap := (s.heap.push o).push { cls := .type "enumerate", data := .fields #[.none, .bool false, .ref s.heap.objs.size, rawInt 0, .none, .none] } }) :=
  .of_wp fun prog w A R s h => by
    obtain ⟨hp, g, d, tk, os⟩ := s; obtain ⟨h1, h⟩ := h
    have hsub := sub_enumerate
    have q1 : ∀ {A' : Around} {E : Value → Shared → Prop} {Q : Value → Shared → Prop}, Q (.ref hp.objs.size) ⟨hp.push o, g, d, tk, os⟩ → wpAny (model prog w) A' (pyIter v) Q E ⟨hp, g, d, tk, os⟩ :=
      fun q => B.iter prog w _ _ ⟨hp, g, d, tk, os⟩ _ h1 q
    wp_walk using q1
    refine wpAny_stack_any fun st => wpAny_pure ?_
    split
    · rename_i c _ _ _ _ _
      cases (c == Value.type "enumerate")
      · wp_walk using q1
        exact ⟨_, rfl, h⟩
      · wp_walk using q1
        exact ⟨_, rfl, h⟩
    · wp_walk using q1
      exact ⟨_, rfl, h⟩
theorem call_enum1 {prog : Program} {w : World} {A : Around} {E : Value → Shared → Prop} {s : Shared} {v : Value} {o : Obj} {H : Heap → Prop} {Q : Value → Shared → Prop} (B : Begins v o H) (h1 : H s.heap)
    (h : ∀ h', IsEnum h' (s.heap.objs.size + 1) s.heap.objs.size 0 .none → h'.get? s.heap.objs.size = some o → h'.objs.size = s.heap.objs.size + 2 →
      (∀ b o, s.heap.get? b = some o → h'.get? b = some o) → Q (.ref (s.heap.objs.size + 1)) { s with heap := h' }) :
    wpAny (model prog w) A (call (.type "enumerate") [v]) Q E s := by
  refine callType_new F.called_enumerate (by decide) (F.typeCall_enumerate_1 _) (F.newCall_enumerate_1 _) (fun obj => F.args_object_init_2 obj _) F.entry_enumerate_new
    (meets_enumerate_new1 B) ⟨h1, ?_⟩
  have hz : (s.heap.push o).objs.size = s.heap.objs.size + 1 := Heap.size_push ..
  show _ ∧ _
  rw [hz]
  have he : IsEnum ((s.heap.push o).push { cls := .type "enumerate", data := .fields #[.none, .bool false, .ref s.heap.objs.size, rawInt 0, .none, .none] }) (s.heap.objs.size + 1) s.heap.objs.size 0 .none := by
    have := Heap.get?_push_size (s.heap.push o) (o := { cls := .type "enumerate", data := .fields #[.none, .bool false, .ref s.heap.objs.size, rawInt 0, .none, .none] }) rfl
    rw [hz] at this; exact this
  refine ⟨⟨_, he, rfl⟩, h _ he (Heap.get?_push_of_some _ (Heap.get?_push_size _ B.free)) (by rw [Heap.size_push, hz]) fun b o x => Heap.get?_push_of_some _ (Heap.get?_push_of_some _ x)⟩
def iEnumK (K : PySem.W.Frag) (ta : TA) : TI := fun σ H R => ta σ H fun vs H1 => ∃ k a xs, vs = [.ref a] ∧ SqK k K H1 a xs ∧ R (IteK k K a) H1
theorem pi_enumK {X : Cx} {e : Expr} {ta : TA} {p pos tpos : Pos} {elts : List Expr} {kk : Nat} (hg : Gl X "enumerate") (hm : X.mg "enumerate" = none) (ha : PA X [e] ta) (hs : starEach [e] X.env = [(false, eval e X.env)] := by rfl) :
    PI X (.Tuple elts kk tpos) (.Call (.Name "enumerate" p) [e] [] pos) (iEnumK X.K ta) := by
  refine ⟨fun pins s σ H R I h => ?_⟩
  refine Call_ (ld_blt I hg hm boot_enumerate (PyProof.Rows.callWith_type1 (thn (ha.run pos pins s σ H _ I h) fun us s1 ⟨vs, H1, I1, r1, q1⟩ => ?_) hs rfl))
  obtain ⟨k, a, xs, ex, hq, q⟩ := q1
  subst ex
  cases r1 with
  | cons r rr =>
    cases rr
    cases r
    obtain ⟨its, rv, p', hz⟩ := seqK_of I1 hq
    have hal : a < s1.heap.objs.size := by
      cases k with
      | true => obtain ⟨o, ho, _⟩ := p'; exact Heap.lt_size ho
      | false => obtain ⟨o, ho, _⟩ := p'; exact Heap.lt_size ho
    refine call_enum1 (beginsK k a its.toArray) p' fun h' he hit hsz hk => wpAny_pyIter_enum he ?_
    have I2 : Inv X pins σ H1 { s1 with heap := h' } := I1.kept (t' := s1.toks) hk
    refine ⟨s1.heap.objs.size + 1, [s1.heap.objs.size + 1, s1.heap.objs.size], _, _, H1, rfl, I2, turn_enumK (k := k) a (s1.heap.objs.size + 1) s1.heap.objs.size,
      ⟨⟨.none, he⟩, iter0 hit, Nat.succ_ne_self _, Nat.ne_of_lt hal, Nat.ne_of_lt (Nat.lt_succ_of_lt hal)⟩, fun b hb => ?_, q⟩
    have e' : b = s1.heap.objs.size + 1 ∨ b = s1.heap.objs.size := by simpa using hb
    have hle : s1.heap.objs.size ≤ b := by
      rcases e' with z | z
      · rw [z]; exact Nat.le_add_right _ _
      · rw [z]; exact Nat.le_refl _
    exact I1.fpOk hle (I1.hok.fresh hle)
end DN
/-! Den5: zip of two sources of any kind. -/
namespace DN
open PySem PySem.Spec PyProof.Rows L2

def ItzK (k l : Bool) (K : PySem.W.Frag) (a b : Addr) : It :=
  ⟨fun i H => ∃ (xs ys : List V) (x y : V), SqK k K H a xs ∧ SqK l K H b ys ∧ xs[i]? = some x ∧ ys[i]? = some y,
    fun i H v H' => ∃ T x y, v = .ref T ∧ H T = none ∧ H' = upd H T (.tup [x, y]) ∧ (∀ xs, SqK k K H a xs → xs[i]? = some x) ∧ ∀ ys, SqK l K H b ys → ys[i]? = some y,
    fun i H => ∃ xs ys : List V, SqK k K H a xs ∧ SqK l K H b ys ∧ min xs.length ys.length = i⟩
theorem mem4 {c N : Nat} (h : c ∈ [N + 4, N + 3, N, N + 1]) : c ∈ [N + 4, N + 2, N + 3, N, N + 1] := by
  have e : c = N + 4 ∨ c = N + 3 ∨ c = N ∨ c = N + 1 := by simpa using h
  rcases e with z | z | z | z <;> simp [z]
theorem le5 {c N : Nat} (h : c ∈ [N + 4, N + 2, N + 3, N, N + 1]) : c ≤ N + 4 := by
  have e : c = N + 4 ∨ c = N + 2 ∨ c = N + 3 ∨ c = N ∨ c = N + 1 := by simpa using h
  omega
theorem ge5 {c N : Nat} (h : c ∈ [N + 4, N + 2, N + 3, N, N + 1]) : N ≤ c := by
  have e : c = N + 4 ∨ c = N + 2 ∨ c = N + 3 ∨ c = N ∨ c = N + 1 := by simpa using h
  omega
theorem turn_zipK {k l : Bool} {P : Program} {w : World} {K : PySem.W.Frag} {elts : List Expr} {kk : Nat} {tpos : Pos} {N a b : Addr} (ha : a < N) (hb : b < N) :
    Turn P w K (.Tuple elts kk tpos) (ItzK k l K a b) [N + 4, N + 2, N + 3, N, N + 1] (N + 4)
      (fun i h => IsZip h (N + 4) (N + 2) (N + 3) .none ∧ IsTupOf2 h (N + 2) (.ref N) (.ref (N + 1)) ∧ (∃ x y, IsTupOf2 h (N + 3) x y) ∧ IterK k h N a i ∧ IterK l h (N + 1) b i) where
  mem := by simp
  obj := fun i h st c hc => by
    obtain ⟨hz, hTI, ⟨x, y, hTO⟩, h1, h2⟩ := st
    have e' : c = N + 4 ∨ c = N + 2 ∨ c = N + 3 ∨ c = N ∨ c = N + 1 := by simpa using hc
    rcases e' with z | z | z | z | z
    · rw [z]; exact ⟨_, hz, fun v q => nomatch q⟩
    · rw [z]; exact ⟨_, hTI, fun v q => nomatch q⟩
    · rw [z]; exact ⟨_, hTO, fun v q => nomatch q⟩
    · rw [z]; exact h1.obj
    · rw [z]; exact h2.obj
  keep := fun i h h' st kp => by
    obtain ⟨hz, hTI, ⟨x, y, hTO⟩, h1, h2⟩ := st
    exact ⟨kp _ (by simp) _ hz, kp _ (by simp) _ hTI, ⟨x, y, kp _ (by simp) _ hTO⟩, h1.at fun o q => kp _ (by simp) o q, h2.at fun o q => kp _ (by simp) o q⟩
  item := by
    intro X hP hw hK hc i pins s σ H E I hf st hg
    subst hP hw hK
    obtain ⟨hz, hTI, hTO, h1, h2⟩ := st
    obtain ⟨xs, ys, x, y, hq, hq2, hx, hy⟩ := hg
    obtain ⟨its, rv, p, _⟩ := seqK_of I hq
    obtain ⟨its2, rv2, p2, _⟩ := seqK_of I hq2
    obtain ⟨u, hu, ru⟩ := rv.get hx
    obtain ⟨u2, hu2, ru2⟩ := rv2.get hy
    have D1 := drawsK (k := k) (prog := X.prog) (w := X.w) (A := X.A.in1) (I.ok.hd hc) N a (Nat.ne_of_lt ha) its.toArray
    have D2 := drawsK (k := l) (prog := X.prog) (w := X.w) (A := X.A.in1) (I.ok.hd hc) (N + 1) b (Nat.ne_of_lt (Nat.lt_succ_of_lt hb)) its2.toArray
    have hzl : N + 4 < s.heap.objs.size := Heap.lt_size hz
    have hi1 : i < its.toArray.size := by
      have := (List.getElem?_eq_some_iff.mp hu).1
      simpa using this
    have hi2 : i < its2.toArray.size := by
      have := (List.getElem?_eq_some_iff.mp hu2).1
      simpa using this
    refine (GoesN.zip2 (elts := elts) (x1 := kk) (pos := tpos) (zip_sep2 (N := N) (fp1 := [a]) (fp2 := [b]) (by simpa using ha) (by simpa using hb)) D1 D2).goes i s
      (fun u s2 => ∃ x H', Inv X pins σ H' s2 ∧ RelV x u ∧ (ItzK k l X.K a b).yld i H x H' ∧ (IsZip s2.heap (N + 4) (N + 2) (N + 3) .none ∧ IsTupOf2 s2.heap (N + 2) (.ref N) (.ref (N + 1)) ∧ (∃ x y, IsTupOf2 s2.heap (N + 3) x y) ∧ IterK k s2.heap N a (i + 1) ∧ IterK l s2.heap (N + 1) b (i + 1)) ∧
        ∀ c ∈ [N + 4, N + 2, N + 3, N, N + 1], H' c = none)
      E (by omega) ⟨hz, hTI, hTO, ⟨h1, p⟩, ⟨h2, p2⟩⟩ fun v h' tk hY st' hk htk => ?_
    obtain ⟨T, y1, y2, rfl, hT, hy1, hy2, hTup⟩ := hY
    have e1 : y1 = u := by
      have : its.toArray[i]? = some u := by simpa using hu
      rw [this] at hy1; exact (Option.some.inj hy1).symm
    have e2 : y2 = u2 := by
      have : its2.toArray[i]? = some u2 := by simpa using hu2
      rw [this] at hy2; exact (Option.some.inj hy2).symm
    subst e1 e2
    have new : ObjOk X.prog X.w (upd H T (.tup [x, y])) h' T (.tup [x, y]) :=
      ⟨by show 2 ≤ sizeLine; decide, [y1, y2], .cons ru (.cons ru2 .nil), hTup⟩
    have I1 : Inv X pins σ (upd H T (.tup [x, y])) { s with heap := h', toks := tk } :=
      I.turnedNew (ch := [N + 4, N + 2, N + 3, N, N + 1]) (fun c ob hc q => hk c ob (fun z => hc (mem4 z)) q) hf hT new
    obtain ⟨a1, a2, a3, ⟨a4, _⟩, ⟨a5, _⟩⟩ := st'
    refine ⟨.ref T, _, I1, rfl, ⟨T, x, y, rfl, I.hok.fresh hT, rfl, fun zs hz => by rw [seqK_inj I hz hq]; exact hx, fun zs hz => by rw [seqK_inj I hz hq2]; exact hy⟩, ⟨a1, a2, a3, a4, a5⟩, fun c hc => ?_⟩
    have hc' : c < s.heap.objs.size := Nat.lt_of_le_of_lt (le5 hc) hzl
    rw [upd_ne (Nat.ne_of_lt (Nat.lt_of_lt_of_le hc' hT))]
    exact (hf c hc).1
  done := by
    intro X hP hw hK hc i pins s σ H E I hf st hg
    subst hP hw hK
    obtain ⟨hz, hTI, hTO, h1, h2⟩ := st
    obtain ⟨xs, ys, hq, hq2, hx⟩ := hg
    obtain ⟨its, rv, p, _⟩ := seqK_of I hq
    obtain ⟨its2, rv2, p2, _⟩ := seqK_of I hq2
    have D1 := drawsK (k := k) (prog := X.prog) (w := X.w) (A := X.A.in1) (I.ok.hd hc) N a (Nat.ne_of_lt ha) its.toArray
    have D2 := drawsK (k := l) (prog := X.prog) (w := X.w) (A := X.A.in1) (I.ok.hd hc) (N + 1) b (Nat.ne_of_lt (Nat.lt_succ_of_lt hb)) its2.toArray
    have hn : min its.toArray.size its2.toArray.size = i := by rw [← hx, rv.length, rv2.length]; simp
    refine (GoesN.zip2 (elts := elts) (x1 := kk) (pos := tpos) (zip_sep2 (N := N) (fp1 := [a]) (fp2 := [b]) (by simpa using ha) (by simpa using hb)) D1 D2).stops s _ E (by
      rw [hn]; exact ⟨hz, hTI, hTO, ⟨h1, p⟩, ⟨h2, p2⟩⟩) fun h' tk hk htk => ?_
    exact I.turnedL (ch := [N + 4, N + 2, N + 3, N, N + 1]) (fun c o hc q => hk c o (fun z => hc (mem4 z)) q) hf
  self := fun A i s Q E st h => wpAny_pyIter_zip st.1 h
def iZipK (K : PySem.W.Frag) (ta : TA) : TI := fun σ H R => ta σ H fun vs H1 => ∃ k l a b xs ys, vs = [.ref a, .ref b] ∧ SqK k K H1 a xs ∧ SqK l K H1 b ys ∧ R (ItzK k l K a b) H1
theorem seqK_lt {k : Bool} {h : Heap} {a : Addr} {its : Array Value} (p' : SeqK k h a its) : a < h.objs.size := by
  cases k with
  | true => obtain ⟨o, ho, _⟩ := p'; exact Heap.lt_size ho
  | false => obtain ⟨o, ho, _⟩ := p'; exact Heap.lt_size ho
theorem pi_zipK {X : Cx} {e e2 : Expr} {ta : TA} {p pos tpos : Pos} {elts : List Expr} {kk : Nat} (hg : Gl X "zip") (hm : X.mg "zip" = none) (ha : PA X [e, e2] ta)
    (hs : starEach [e, e2] X.env = (false, eval e X.env) :: starEach [e2] X.env := by rfl) (hpl : (backTo pos (starEach [e2] X.env)).any (·.1) = false := by rfl) :
    PI X (.Tuple elts kk tpos) (.Call (.Name "zip" p) [e, e2] [] pos) (iZipK X.K ta) := by
  refine ⟨fun pins s σ H R I h => ?_⟩
  refine Call_ (ld_blt I hg hm PyProof.Rows.boot_zip (PyProof.Rows.callWith_type1 (thn (ha.run pos pins s σ H _ I h) fun us s1 ⟨vs, H1, I1, r1, q1⟩ => ?_) hs hpl))
  obtain ⟨k, l, a, b, xs, ys, ex, hq, hq2, q⟩ := q1
  subst ex
  cases r1 with
  | cons r rr =>
    cases rr with
    | cons r' rr =>
      cases rr
      cases r
      cases r'
      obtain ⟨its, rv, p1, _⟩ := seqK_of I1 hq
      obtain ⟨its2, rv2, p2, _⟩ := seqK_of I1 hq2
      refine zip_begins2 (beginsK k a its.toArray) (beginsK l b its2.toArray) p1 p2 fun h' hz hTI hTO h1 h2 hsz hk => wpAny_pyIter_zip hz ?_
      have I2 : Inv X pins σ H1 { s1 with heap := h' } := I1.kept (t' := s1.toks) hk
      refine ⟨s1.heap.objs.size + 4, [s1.heap.objs.size + 4, s1.heap.objs.size + 2, s1.heap.objs.size + 3, s1.heap.objs.size, s1.heap.objs.size + 1], _, _, H1, rfl, I2, turn_zipK (k := k) (l := l) (seqK_lt p1) (seqK_lt p2),
        ⟨hz, hTI, ⟨_, _, hTO⟩, iter0 h1, iter0 h2⟩, fun c hc => ?_, q⟩
      have hle : s1.heap.objs.size ≤ c := ge5 hc
      exact I1.fpOk hle (I1.hok.fresh hle)
end DN
/-! Den6: what is walked, targets, comprehensions. -/
namespace DN
open PySem PySem.Spec PyProof.Rows L2

/-- J gives the items ds, one by one, wherever F stands -/
structure WalkD (J : It) (F : Hp) (ds : List PyData) : Prop where
  goes : ∀ i H, i < ds.length → Same F H → J.go i H
  stops : ∀ H, Same F H → J.stop ds.length H
  yields : ∀ i H x H' d F1, ds[i]? = some d → Same F F1 → Same F1 H → J.yld i H x H' → ∃ F', Ext F1 H F' H' ∧ DD F' x d
def PostI (mg : Str → Option Value) (W : WX) (σ : L2.St) (F H : Hp) (R : It → Hp → Prop) : Rs (List PyData) → Prop
  | .ok ds => ∀ J F' H', Ext F H F' H' → WalkD J F' ds → R J H'
  | .err c => ∀ C H', mg c = some (.ref C) → Same H H' → W (.ref C) none σ H'
  | .bad => False
structure EI (X : Cx) (W : WX) (tg iter : Expr) (wi : TI) (fi : Ev → Rs (List PyData)) : Prop where
  pi : PI X tg iter wi
  sound : ∀ {G H0 : Hp} {ρ : Ev} {σ : L2.St} {F H : Hp}, Rel X.K G H0 ρ σ F H → ∀ R : It → Hp → Prop, PostI X.mg W σ F H R (fi ρ) → wi σ H R
theorem pi_or {X : Cx} {tg e : Expr} {w1 w2 : TI} (h : PI X tg e w1) (g : PI X tg e w2) : PI X tg e (fun σ H R => w1 σ H R ∨ w2 σ H R) :=
  ⟨fun pins s σ H R I q => q.elim (h.run pins s σ H R I) (g.run pins s σ H R I)⟩
def seqD : PyData → Rs (List PyData)
  | .list ds => .ok ds
  | .tuple ds => .ok ds
  | _ => .bad
@[simp] theorem seqD_list (ds : List PyData) : seqD (.list ds) = .ok ds := rfl
@[simp] theorem seqD_tuple (ds : List PyData) : seqD (.tuple ds) = .ok ds := rfl
section
variable {K : PySem.W.Frag} {F : Hp} {a b : Addr} {xs ys : List V} {ds es : List PyData} {k l : Bool}
def At (k : Bool) (F : Hp) (a : Addr) (xs : List V) : Prop := match k with
  | true => F a = some (.tup xs)
  | false => F a = some (.lst xs)
theorem At.sq {H : Hp} (h : At k F a xs) (s : Same F H) : SqK k K H a xs := by
  cases k with
  | true => exact SqT.of (s _ _ h)
  | false => exact SqL.of (s _ _ h)
theorem walk_l (h : F a = some (.lst xs)) (r : DDs F xs ds) : WalkD (Itl K a) F ds where
  goes := fun i H hi s => ⟨xs, xs[i]'(by rw [r.len]; exact hi), SqL.of (s _ _ h), List.getElem?_eq_getElem _⟩
  stops := fun H s => ⟨xs, SqL.of (s _ _ h), by rw [r.len]; exact Nat.le_refl _⟩
  yields := fun i H x H' d F1 hd sF sH y => by
    obtain ⟨rfl, hy⟩ := y
    have := hy xs (SqL.of (sH _ _ (sF _ _ h)))
    obtain ⟨d', e1, e2⟩ := r.getV this
    rw [hd] at e1; cases e1
    exact ⟨F1, Ext.refl sH, DD.mono sF _ _ e2⟩
theorem walk_t (h : F a = some (.tup xs)) (r : DDs F xs ds) : WalkD (Itt K a) F ds where
  goes := fun i H hi s => ⟨xs, xs[i]'(by rw [r.len]; exact hi), SqT.of (s _ _ h), List.getElem?_eq_getElem _⟩
  stops := fun H s => ⟨xs, SqT.of (s _ _ h), by rw [r.len]; exact Nat.le_refl _⟩
  yields := fun i H x H' d F1 hd sF sH y => by
    obtain ⟨rfl, hy⟩ := y
    have := hy xs (SqT.of (sH _ _ (sF _ _ h)))
    obtain ⟨d', e1, e2⟩ := r.getV this
    rw [hd] at e1; cases e1
    exact ⟨F1, Ext.refl sH, DD.mono sF _ _ e2⟩
def rngD (lo : Int) (n : Nat) : List PyData := (List.range n).map fun (i : Nat) => PyData.int (lo + (i : Int))
theorem walk_r {lo : Int} {n : Nat} : WalkD (Itr lo n) F (rngD lo n) where
  goes := fun i H hi s => by
    show i < n
    simpa [rngD] using hi
  stops := fun H s => by simp [rngD]; exact Nat.le_refl n
  yields := fun i H x H' d F1 hd sF sH y => by
    obtain ⟨rfl, rfl⟩ := y
    have hi : i < n := by
      have := (List.getElem?_eq_some_iff.mp hd).1
      simpa [rngD] using this
    rw [show (rngD lo n)[i]? = some (.int (lo + (i : Int))) by simp [rngD, hi]] at hd
    cases hd
    exact ⟨F1, Ext.refl sH, .int _⟩
def enumD (ds : List PyData) : List PyData := ds.zipIdx.map fun p => PyData.tuple [.int (p.2 : Nat), p.1]
theorem enumD_get {i : Nat} {d : PyData} (h : (enumD ds)[i]? = some d) : ∃ x, ds[i]? = some x ∧ d = .tuple [.int (i : Nat), x] := by
  unfold enumD at h
  rw [List.getElem?_map, List.getElem?_zipIdx] at h
  cases hx : ds[i]? with
  | none => rw [hx] at h; cases h
  | some x =>
    rw [hx] at h
    simp at h
    exact ⟨x, rfl, h.symm⟩
theorem walk_e (h : At k F a xs) (r : DDs F xs ds) : WalkD (IteK k K a) F (enumD ds) where
  goes := fun i H hi s => ⟨xs, xs[i]'(by rw [r.len]; simpa [enumD] using hi), h.sq s, List.getElem?_eq_getElem _⟩
  stops := fun H s => ⟨xs, h.sq s, by rw [r.len]; simp [enumD]⟩
  yields := fun i H x H' d F1 hd sF sH y => by
    obtain ⟨T, z, rfl, nT, rfl, hy⟩ := y
    obtain ⟨d1, e1, rfl⟩ := enumD_get hd
    have := hy xs (h.sq (sF.trans sH))
    obtain ⟨d', e3, e2⟩ := r.getV this
    rw [e1] at e3; cases e3
    exact ⟨_, Ext.add sH nT, .tup upd_same (.cons (.int _) (.cons (DD.mono (sF.trans (same_new (sH.free nT))) _ _ e2) .nil))⟩
def zipD (ds es : List PyData) : List PyData := (ds.zip es).map fun p => PyData.tuple [p.1, p.2]
theorem zipD_get {i : Nat} {d : PyData} (h : (zipD ds es)[i]? = some d) : ∃ x y, ds[i]? = some x ∧ es[i]? = some y ∧ d = .tuple [x, y] := by
  simp [zipD, List.getElem?_zip_eq_some] at h
  obtain ⟨x, y, ⟨h1, h2⟩, h3⟩ := h
  exact ⟨x, y, h1, h2, h3.symm⟩
theorem walk_z (h : At k F a xs) (r : DDs F xs ds) (g : At l F b ys) (r' : DDs F ys es) : WalkD (ItzK k l K a b) F (zipD ds es) where
  goes := fun i H hi s => by
    have hi' : i < ds.length ∧ i < es.length := by simpa [zipD, Nat.lt_min] using hi
    exact ⟨xs, ys, xs[i]'(by rw [r.len]; exact hi'.1), ys[i]'(by rw [r'.len]; exact hi'.2), h.sq s, g.sq s, List.getElem?_eq_getElem _, List.getElem?_eq_getElem _⟩
  stops := fun H s => ⟨xs, ys, h.sq s, g.sq s, by rw [r.len, r'.len]; simp [zipD]⟩
  yields := fun i H x H' d F1 hd sF sH y => by
    obtain ⟨T, z, z', rfl, nT, rfl, hy, hy'⟩ := y
    obtain ⟨d1, d2, e1, e2, rfl⟩ := zipD_get hd
    obtain ⟨d', e3, e4⟩ := r.getV (hy xs (h.sq (sF.trans sH)))
    obtain ⟨d'', e5, e6⟩ := r'.getV (hy' ys (g.sq (sF.trans sH)))
    rw [e1] at e3; cases e3
    rw [e2] at e5; cases e5
    have sm := sF.trans (same_new (o := .tup [z, z']) (sH.free nT))
    exact ⟨_, Ext.add sH nT, .tup upd_same (.cons (DD.mono sm _ _ e4) (.cons (DD.mono sm _ _ e6) .nil))⟩
def strD (z : Str) : List PyData := z.cps.toList.map fun c => PyData.str ⟨#[c]⟩
theorem walk_s {z : Str} : WalkD (Its z) F (strD z) where
  goes := fun i H hi s => by
    show i < z.cps.size
    simpa [strD] using hi
  stops := fun H s => by
    show z.cps.size ≤ _
    simp [strD]
  yields := fun i H x H' d F1 hd sF sH y => by
    obtain ⟨rfl, c, hc, rfl⟩ := y
    have : (strD z)[i]? = some (.str ⟨#[c]⟩) := by
      unfold strD
      rw [List.getElem?_map, show z.cps.toList[i]? = some c by simpa using hc]
      rfl
    rw [this] at hd; cases hd
    exact ⟨F1, Ext.refl sH, .str _⟩
end

section
variable {X : Cx} {W : WX} {tg e e2 : Expr} {te te2 : TE} {f f2 : Ev → Rs R} {pos p tpos : Pos}
theorem postI_data {mg : Str → Option Value} {σ : L2.St} {F H : Hp} {Q1 : VK} {R' : It → Hp → Prop} {K : PySem.W.Frag} {m : Rs R} {k : PyData → Rs (List PyData)} (P : PostI mg W σ F H R' (m.bind fun r => r.d.bind k))
    (h : ∀ d v F1 H1 r, m = .ok r → r.d = .ok d → Ext F H F1 H1 → DD F1 v d → PostI mg W σ F1 H1 R' (k d) → Q1 v H1) : Post K mg W σ F H Q1 m := by
  cases m with
  | ok r =>
    intro v F' H' x y
    cases hd : r.d with
    | ok d =>
      obtain ⟨F2, e2, _, q2⟩ := y.data x hd
      have P' : PostI mg W σ F H R' (k d) := by
        have : ((Rs.ok r).bind fun r => r.d.bind k) = k d := by simp [hd]
        rw [this] at P; exact P
      refine h d v F2 H' r rfl hd e2 q2 ?_
      cases hk : k d with
      | ok ds => rw [hk] at P'; exact fun J F' H' x y => P' J F' H' (e2.trans x) y
      | err c => rw [hk] at P'; exact fun C H' x y => P' C H' x (e2.hh.trans y)
      | bad => rw [hk] at P'; exact P'
    | err c => exact absurd hd (by cases r <;> simp [R.d])
    | bad =>
      have : ((Rs.ok r).bind fun r => r.d.bind k) = .bad := by simp [hd]
      rw [this] at P; exact P.elim
  | err c => exact P
  | bad => exact P
@[simp] def fSeq (f : Ev → Rs R) : Ev → Rs (List PyData) := fun ρ => (f ρ).bind fun r => r.d.bind seqD
theorem ei_seq (h : EE X W e te f) : EI X W tg e (fun σ H R => iList X.K te σ H R ∨ iTup X.K te σ H R) (fSeq f) where
  pi := pi_or (pi_list h.pe) (pi_tup h.pe)
  sound := fun {G H0 ρ σ F H} rel R' P => by
    by_cases hl : ∃ r ds, f ρ = .ok r ∧ r.d = .ok (.tuple ds)
    · refine .inr (h.sound rel _ (postI_data P fun d v F1 H1 r hm hd e1 r1 P1 => ?_))
      obtain ⟨r0, ds, h1, h2⟩ := hl
      rw [hm] at h1; cases h1
      rw [hd] at h2; cases h2
      cases r1 with
      | @tup p xs ds h r => exact ⟨_, rfl, ⟨_, SqT.of (e1.sub _ _ h)⟩, P1 _ _ _ (Ext.refl e1.sub) (walk_t h r)⟩
    · refine .inl (h.sound rel _ (postI_data P fun d v F1 H1 r hm hd e1 r1 P1 => ?_))
      cases r1 with
      | @lst p xs ds h r => exact ⟨_, rfl, ⟨_, SqL.of (e1.sub _ _ h)⟩, P1 _ _ _ (Ext.refl e1.sub) (walk_l h r)⟩
      | @tup p xs ds h r => exact absurd ⟨_, _, hm, hd⟩ hl
      | _ => exact P1.elim
@[simp] def fStr (f : Ev → Rs R) : Ev → Rs (List PyData) := fun ρ => (f ρ).bind fun r => r.d.bind fun x => match x with
  | .str z => .ok (strD z)
  | _ => .bad
theorem ei_str (h : EE X W e te f) : EI X W tg e (iStr te) (fStr f) where
  pi := pi_str h.pe
  sound := fun {G H0 ρ σ F H} rel R' P => h.sound rel _ (postI_data P fun d v F1 H1 r hm hd e1 r1 P1 => by
    cases r1 with
    | str z => exact ⟨z, rfl, P1 _ _ _ (Ext.refl e1.sub) walk_s⟩
    | _ => exact P1.elim)
theorem postI_out {mg : Str → Option Value} {σ : L2.St} {F H : Hp} {Q1 : List V → Hp → Prop} {R' : It → Hp → Prop} {m : Rs (List PyData)} {k : List PyData → Rs (List PyData)} (P : PostI mg W σ F H R' (m.bind k))
    (h : ∀ ds vs F1 H1, Ext F H F1 H1 → DDs F1 vs ds → PostI mg W σ F1 H1 R' (k ds) → Q1 vs H1) : PostD mg W σ F H Q1 m := by
  cases m with
  | ok r =>
    intro v F' H' x y
    refine h r v F' H' x y ?_
    cases hk : k r with
    | ok ds =>
      have P' : PostI mg W σ F H R' (.ok ds) := by rw [← hk]; exact P
      exact fun J F1 H1 x' y' => P' J F1 H1 (x.trans x') y'
    | err c =>
      have P' : PostI mg W σ F H R' (.err c) := by rw [← hk]; exact P
      exact fun C H1 x' y' => P' C H1 x' (x.hh.trans y')
    | bad =>
      have P' : PostI mg W σ F H R' .bad := by rw [← hk]; exact P
      exact P'
  | err c => exact P
  | bad => exact P
def rg1 : List PyData → Rs (List PyData)
  | [.int j] => if j.natAbs ≤ 1000000 then .ok (rngD 0 j.toNat) else .bad
  | _ => .bad
def rg2 : List PyData → Rs (List PyData)
  | [.int i, .int j] => if i.natAbs ≤ 1000000 ∧ j.natAbs ≤ 1000000 then .ok (rngD i (j - i).toNat) else .bad
  | _ => .bad
@[simp] def fRg1 (f : Ev → Rs R) : Ev → Rs (List PyData) := fun ρ => (fCons f fNil ρ).bind rg1
@[simp] def fRg2 (f g : Ev → Rs R) : Ev → Rs (List PyData) := fun ρ => (fCons f (fCons g fNil) ρ).bind rg2
theorem ei_range1 (h : EE X W e te f) (hm : X.mg "range" = none) (hg : Gl X "range" := by rfl) (hs : starEach [e] X.env = [(false, eval e X.env)] := by rfl) : EI X W tg (.Call (.Name "range" p) [e] [] pos) (iRng1 (tCons te tNil)) (fRg1 f) where
  pi := pi_range1 hg hm (pa_cons h.pe pa_nil hs) hs
  sound := fun {G H0 ρ σ F H} rel R' P => (ed_cons h ed_nil hs).sound rel _ (postI_out P fun ds vs F1 H1 e1 r1 P1 => by
    unfold rg1 at P1
    split at P1
    · split at P1
      · rename_i j hj
        cases r1 with
        | cons a b =>
          cases a
          cases b
          exact ⟨j, rfl, by omega, by omega, P1 _ _ _ (Ext.refl e1.sub) walk_r⟩
      · exact P1.elim
    · exact P1.elim)
theorem ei_range2 (h : EE X W e te f) (h2 : EE X W e2 te2 f2) (hm : X.mg "range" = none) (hg : Gl X "range" := by rfl) (hs : starEach [e, e2] X.env = [(false, eval e X.env), (false, eval e2 X.env)] := by rfl) (hs2 : starEach [e2] X.env = [(false, eval e2 X.env)] := by rfl) :
    EI X W tg (.Call (.Name "range" p) [e, e2] [] pos) (iRng2 (tCons te (tCons te2 tNil))) (fRg2 f f2) where
  pi := pi_range2 hg hm (pa_cons h.pe (pa_cons h2.pe pa_nil hs2) (by rw [hs, hs2])) hs hs2
  sound := fun {G H0 ρ σ F H} rel R' P => (ed_cons h (ed_cons h2 ed_nil hs2) (by rw [hs, hs2])).sound rel _ (postI_out P fun ds vs F1 H1 e1 r1 P1 => by
    unfold rg2 at P1
    split at P1
    · split at P1
      · rename_i i j hj
        cases r1 with
        | cons a b =>
          cases a
          cases b with
          | cons a b =>
            cases a
            cases b
            exact ⟨i, j, rfl, ⟨by omega, by omega, by omega, by omega⟩, P1 _ _ _ (Ext.refl e1.sub) walk_r⟩
      · exact P1.elim
    · exact P1.elim)
@[simp] def fEnum (f : Ev → Rs R) : Ev → Rs (List PyData) := fun ρ => (fCons f fNil ρ).bind fun ds => match ds with
  | [x] => (seqD x).bind fun xs => .ok (enumD xs)
  | _ => .bad
theorem ei_enum {elts : List Expr} {kk : Nat} (h : EE X W e te f) (hm : X.mg "enumerate" = none) (hg : Gl X "enumerate" := by rfl) (hs : starEach [e] X.env = [(false, eval e X.env)] := by rfl) :
    EI X W (.Tuple elts kk tpos) (.Call (.Name "enumerate" p) [e] [] pos) (iEnumK X.K (tCons te tNil)) (fEnum f) where
  pi := pi_enumK hg hm (pa_cons h.pe pa_nil hs) hs
  sound := fun {G H0 ρ σ F H} rel R' P => (ed_cons h ed_nil hs).sound rel _ (postI_out P fun ds vs F1 H1 e1 r1 P1 => by
    cases r1 with
    | nil => exact P1.elim
    | cons a b =>
      cases b with
      | cons _ _ => exact P1.elim
      | nil =>
        cases a with
        | @lst p xs ds h r => exact ⟨false, _, _, rfl, SqL.of (e1.sub _ _ h), P1 _ _ _ (Ext.refl e1.sub) (walk_e (k := false) h r)⟩
        | @tup p xs ds h r => exact ⟨true, _, _, rfl, SqT.of (e1.sub _ _ h), P1 _ _ _ (Ext.refl e1.sub) (walk_e (k := true) h r)⟩
        | _ => exact P1.elim)
@[simp] def fZip (f g : Ev → Rs R) : Ev → Rs (List PyData) := fun ρ => (fCons f (fCons g fNil) ρ).bind fun ds => match ds with
  | [x, y] => (seqD x).bind fun xs => (seqD y).bind fun ys => .ok (zipD xs ys)
  | _ => .bad
theorem ei_zip {elts : List Expr} {kk : Nat} (h : EE X W e te f) (h2 : EE X W e2 te2 f2) (hm : X.mg "zip" = none) (hg : Gl X "zip" := by rfl) (hs : starEach [e, e2] X.env = (false, eval e X.env) :: starEach [e2] X.env := by rfl) (hs2 : starEach [e2] X.env = (false, eval e2 X.env) :: starEach [] X.env := by rfl)
    (hpl : (backTo pos (starEach [e2] X.env)).any (·.1) = false := by rfl) :
    EI X W (.Tuple elts kk tpos) (.Call (.Name "zip" p) [e, e2] [] pos) (iZipK X.K (tCons te (tCons te2 tNil))) (fZip f f2) where
  pi := pi_zipK hg hm (pa_cons h.pe (pa_cons h2.pe pa_nil hs2) hs) hs hpl
  sound := fun {G H0 ρ σ F H} rel R' P => (ed_cons h (ed_cons h2 ed_nil hs2) hs).sound rel _ (postI_out P fun ds vs F1 H1 e1 r1 P1 => by
    cases r1 with
    | nil => exact P1.elim
    | cons a b =>
      cases b with
      | nil => exact P1.elim
      | cons a2 b =>
        cases b with
        | cons _ _ => exact P1.elim
        | nil =>
          cases a with
          | @lst p xs ds h r =>
            cases a2 with
            | @lst q ys es g w => exact ⟨false, false, _, _, _, _, rfl, SqL.of (e1.sub _ _ h), SqL.of (e1.sub _ _ g), P1 _ _ _ (Ext.refl e1.sub) (walk_z (k := false) (l := false) h r g w)⟩
            | @tup q ys es g w => exact ⟨false, true, _, _, _, _, rfl, SqL.of (e1.sub _ _ h), SqT.of (e1.sub _ _ g), P1 _ _ _ (Ext.refl e1.sub) (walk_z (k := false) (l := true) h r g w)⟩
            | _ => exact P1.elim
          | @tup p xs ds h r =>
            cases a2 with
            | @lst q ys es g w => exact ⟨true, false, _, _, _, _, rfl, SqT.of (e1.sub _ _ h), SqL.of (e1.sub _ _ g), P1 _ _ _ (Ext.refl e1.sub) (walk_z (k := true) (l := false) h r g w)⟩
            | @tup q ys es g w => exact ⟨true, true, _, _, _, _, rfl, SqT.of (e1.sub _ _ h), SqT.of (e1.sub _ _ g), P1 _ _ _ (Ext.refl e1.sub) (walk_z (k := true) (l := true) h r g w)⟩
            | _ => exact P1.elim
          | _ => cases a2 <;> exact P1.elim)
end

/-! ### targets -/
structure EG (X : Cx) (tg : Expr) (g : TG) (is : List Nat) (ft : PyData → Ev → Rs Ev) : Prop where
  pg : PG X tg g
  sound : ∀ {G H0 : Hp} {ρ : Ev} {σ : L2.St} {F H : Hp} {v : V} {d : PyData} {ρ' : Ev}, Rel X.K G H0 ρ σ F H → DD F v d → ft d ρ = .ok ρ' → ∀ Q : L2.St → Hp → Prop,
    (∀ σ', Rel X.K G H0 ρ' σ' F H → σ'.length = σ.length → (∀ j, j ∉ is → σ'[j]? = σ[j]?) → Q σ' H) → g v σ H Q
structure EGs (X : Cx) (ts : List Expr) (g : TGs) (n : Nat) (is : List Nat) (ft : List PyData → Ev → Rs Ev) : Prop where
  pg : PGs X ts g
  len : ∀ ds ρ ρ', ft ds ρ = .ok ρ' → ds.length = n
  sound : ∀ {G H0 : Hp} {ρ : Ev} {σ : L2.St} {F H : Hp} {vs : List V} {ds : List PyData} {ρ' : Ev}, Rel X.K G H0 ρ σ F H → DDs F vs ds → ft ds ρ = .ok ρ' → ∀ Q : L2.St → Hp → Prop,
    (∀ σ', Rel X.K G H0 ρ' σ' F H → σ'.length = σ.length → (∀ j, j ∉ is → σ'[j]? = σ[j]?) → Q σ' H) → g vs σ H Q
@[simp] def tName (i : Nat) : PyData → Ev → Rs Ev := fun d ρ => .ok (ρ.set i (some (.val d)))
def tsNil : List PyData → Ev → Rs Ev
  | [], ρ => .ok ρ
  | _, _ => .bad
def tsCons (t : PyData → Ev → Rs Ev) (ts : List PyData → Ev → Rs Ev) : List PyData → Ev → Rs Ev
  | d :: ds, ρ => (t d ρ).bind (ts ds)
  | _, _ => .bad
def tTupl (ts : List PyData → Ev → Rs Ev) : PyData → Ev → Rs Ev
  | .tuple ds, ρ => ts ds ρ
  | _, _ => .bad
section
variable {X : Cx} {pos : Pos}
theorem eg_name (i : Nat) {x : Str} (hN : X.N.Nodup) (hi : X.N[i]? = some x := by rfl) (hx : Loc X.env.scope x := by first | exact .inl rfl | exact .inr rfl) (hf : X.fn x = true ∨ X.env.scope.names.lookup x = some .local := by first | exact .inl rfl | exact .inr rfl | assumption) :
    EG X (.Name x pos) (gName i) [i] (tName i) where
  pg := pg_name hN hi hx hf
  sound := fun rel h e Q k => by
    cases e
    exact k _ (rel.setVal h rfl) (by simp) fun j hj => by
      rw [List.getElem?_set_ne]
      exact fun z => hj (by simp [z])
theorem egs_nil : EGs X [] gNil 0 [] tsNil where
  pg := pgs_nil
  len := fun ds ρ ρ' h => by
    cases ds with
    | nil => rfl
    | cons _ _ => cases h
  sound := fun {G H0 ρ σ F H vs ds ρ'} rel r e Q k => by
    cases r with
    | nil => cases e; exact ⟨rfl, k _ rel rfl fun _ _ => rfl⟩
    | cons _ _ => cases e
theorem egs_cons {e : Expr} {es : List Expr} {g : TG} {gs : TGs} {n : Nat} {is js : List Nat} {t : PyData → Ev → Rs Ev} {ts : List PyData → Ev → Rs Ev} (h : EG X e g is t) (hs : EGs X es gs n js ts)
    (hh : (assignEach (e :: es) X.env).map (·.2) = assign e X.env :: (assignEach es X.env).map (·.2) := by rfl) : EGs X (e :: es) (gCons g gs) (n + 1) (is ++ js) (tsCons t ts) where
  pg := pgs_cons h.pg hs.pg hh
  len := fun ds ρ ρ' q => by
    cases ds with
    | nil => cases q
    | cons d ds =>
      replace q : (t d _).bind (ts ds) = .ok ρ' := q
      cases h1 : t d ρ with
      | ok ρ1 =>
        rw [h1] at q
        simp [hs.len ds ρ1 ρ' q]
      | err c => rw [h1] at q; cases q
      | bad => rw [h1] at q; cases q
  sound := fun {G H0 ρ σ F H vs ds ρ'} rel r q Q k => by
    cases r with
    | nil => cases q
    | @cons v vs d ds r1 r2 =>
      replace q : (t d _).bind (ts ds) = .ok ρ' := q
      cases h1 : t d ρ with
      | ok ρ1 =>
        rw [h1] at q
        refine ⟨v, vs, rfl, h.sound rel r1 h1 _ fun σ1 rel1 l1 o1 => hs.sound rel1 r2 q _ fun σ2 rel2 l2 o2 => k σ2 rel2 (l2.trans l1) fun j hj => ?_⟩
        rw [o2 j (fun z => hj (List.mem_append_right _ z)), o1 j (fun z => hj (List.mem_append_left _ z))]
      | err c => rw [h1] at q; cases q
      | bad => rw [h1] at q; cases q
theorem eg_tup {es : List Expr} {k n : Nat} {gs : TGs} {is : List Nat} {ts : List PyData → Ev → Rs Ev} (h : EGs X es gs n is ts) (hc : X.calm = true := by rfl)
    (hn : (assignEach es X.env).length = n := by rfl) (hst : (assignEach es X.env).findIdx? (·.1) = none := by rfl) : EG X (.Tuple es k pos) (gTup X.K n gs) is (tTupl ts) where
  pg := pg_tup hc h.pg hn hst
  sound := fun {G H0 ρ σ F H v d ρ'} rel r q Q kk => by
    cases r with
    | @tup a xs ds hF r =>
      exact ⟨a, xs, rfl, SqT.of (rel.sub _ _ hF), by rw [r.len]; exact h.len _ _ _ q, h.sound rel r q Q kk⟩
    | _ => cases q
end

/-! ### comprehensions -/
@[simp] def wipeE (ρ : Ev) : List Nat → Ev
  | [] => ρ
  | v :: vs => (wipeE ρ vs).set v none
theorem Rel.wipe {K : PySem.W.Frag} {G H0 F H : Hp} {ρ : Ev} {σ : L2.St} (h : Rel K G H0 ρ σ F H) : ∀ vs : List Nat, Rel K G H0 (wipeE ρ vs) (wipe σ vs) F H
  | [] => h
  | v :: vs => (Rel.wipe h vs).unset
theorem wipe_get {σ : L2.St} {j : Nat} : ∀ {vs : List Nat}, j ∈ vs → j < σ.length → (wipe σ vs)[j]? = some none
  | [], h, _ => by cases h
  | v :: vs, h, hl => by
    unfold wipe
    by_cases e : v = j
    · subst e
      rw [List.getElem?_set_self (by rw [wipe_length]; exact hl)]
    · rw [List.getElem?_set_ne e]
      exact wipe_get (by simpa [Ne.symm e] using h) hl
theorem wipe_eq {σ σ' : L2.St} {vs is : List Nat} (hs : ∀ i ∈ is, i ∈ vs) (hl : σ'.length = σ.length) (ho : ∀ j, j ∉ is → σ'[j]? = (wipe σ vs)[j]?) : wipe σ' vs = wipe σ vs := by
  apply List.ext_getElem?
  intro j
  by_cases hj : j ∈ vs
  · by_cases hb : j < σ.length
    · rw [wipe_get hj hb, wipe_get hj (by rw [hl]; exact hb)]
    · rw [List.getElem?_eq_none (by rw [wipe_length, hl]; omega), List.getElem?_eq_none (by rw [wipe_length]; omega)]
  · rw [wipe_out hj, wipe_out hj, ho j (fun z => hj (hs j z)), wipe_out hj]
structure ETs (X : Cx) (W : WX) (ifs : List Expr) (t : TT) (f : Ev → Rs Bool) : Prop where
  pts : PTs X ifs t
  sound : ∀ {G H0 : Hp} {ρ : Ev} {σ : L2.St} {F H : Hp}, Rel X.K G H0 ρ σ F H → ∀ Q : Bool → Hp → Prop, PostB X.mg W σ F H Q (f ρ) → t σ H Q
@[simp] def fYes : Ev → Rs Bool := fun _ => .ok true
theorem ets_nil {X : Cx} {W : WX} : ETs X W [] tYes fYes := ⟨pts_nil, fun rel Q P => P _ _ (Ext.refl rel.sub)⟩
theorem ets_one {X : Cx} {W : WX} {c : Expr} {t : TT} {f : Ev → Rs Bool} (h : ET X W c t f) : ETs X W [c] t f := ⟨pts_one h.pt, h.sound⟩
/-- the items that a comprehension gives -/
def lcGo (ft : PyData → Ev → Rs Ev) (fc : Ev → Rs Bool) (fe : Ev → Rs R) (ρ : Ev) : List PyData → Rs (List PyData)
  | [] => .ok []
  | d :: ds => (ft d ρ).bind fun ρ1 => (fc ρ1).bind fun b => if b = true then (fe ρ1).bind fun r => r.d.bind fun x => (lcGo ft fc fe ρ ds).bind fun xs => .ok (x :: xs) else lcGo ft fc fe ρ ds
def noErr {α : Type} : Rs α → Rs α
  | .ok a => .ok a
  | _ => .bad
def fLc (vs : List Nat) (fi : Ev → Rs (List PyData)) (ft : PyData → Ev → Rs Ev) (fc : Ev → Rs Bool) (fe : Ev → Rs R) : Ev → Rs R := fun ρ => (fi ρ).bind fun ds =>
  if ds.length ≤ lim then (noErr (lcGo ft fc fe (wipeE ρ vs) ds)).bind fun xs => .ok (.own xs) else .bad
abbrev W0 : WX := fun _ _ _ _ => False
theorem postI_post {mg : Str → Option Value} {W : WX} {σ : L2.St} {F H : Hp} {Q : VK} {R' : It → Hp → Prop} {K : PySem.W.Frag} {m : Rs (List PyData)} {k : List PyData → Rs R} (P : Post K mg W σ F H Q (m.bind k))
    (h : ∀ ds J F1 H1, Ext F H F1 H1 → WalkD J F1 ds → Post K mg W σ F1 H1 Q (k ds) → R' J H1) : PostI mg W σ F H R' m := by
  cases m with
  | ok r => exact fun J F' H' x y => h r J F' H' x y (post_step P x)
  | err c => exact P
  | bad => exact P
theorem ee_lc {X : Cx} {W : WX} {elt tg iter : Expr} {ifs : List Expr} {scope : Scope} {own : List (Str × Nat)} {pos : Pos} {wi : TI} {g : TG} {tt : TT} {te : TE} {is : List Nat} {fi : Ev → Rs (List PyData)} {ft : PyData → Ev → Rs Ev} {fc : Ev → Rs Bool} {fe : Ev → Rs R}
    (hN : X.N.Nodup) (hi : EI X W tg iter wi fi) (ok : BlkOk X.N X.env.scope scope own)
    (hg : ∀ (s : Shared) (H : Hp) (C : Addr) (cl : List (Str × Addr)) (fp : List Addr), EG (X.blk s H scope (compEnvC scope cl C X.env) fp) tg g is ft)
    (ht : ∀ (s : Shared) (H : Hp) (C : Addr) (cl : List (Str × Addr)) (fp : List Addr), ETs (X.blk s H scope (compEnvC scope cl C X.env) fp) W0 ifs tt fc)
    (he : ∀ (s : Shared) (H : Hp) (C : Addr) (cl : List (Str × Addr)) (fp : List Addr), EE (X.blk s H scope (compEnvC scope cl C X.env) fp) W0 elt te fe)
    (hsub : ∀ i ∈ is, i ∈ own.map (·.2) := by decide) (hc : X.calm = true := by rfl) (hs : ∀ x, foldedSetIterable iter X.env x = pure x := by intro _; rfl) :
    EE X W (.ListComp elt [⟨tg, iter, ifs, 0⟩] scope pos) (tLc wi g tt te (own.map (·.2))) (fLc (own.map (·.2)) fi ft fc fe) where
  pe := pe_lc hc hN hi.pi ok (fun s H C cl fp => (hg s H C cl fp).pg) (fun s H C cl fp => (ht s H C cl fp).pts) (fun s H C cl fp => (he s H C cl fp).pe) hs
  sound := fun {G H0 ρ σ F H} rel Q P => hi.sound rel _ (postI_post P fun ds J F1 H1 e1 wk P1 => by
    split at P1
    · rename_i hlim
      cases hgo : lcGo ft fc fe (wipeE ρ (own.map (·.2))) ds with
      | ok xs =>
        rw [hgo] at P1
        replace P1 : Post X.K X.mg W σ F1 H1 Q (.ok (.own xs)) := P1
        intro D nD
        have rel1 := (rel.step e1).wipe (own.map (·.2))
        refine ⟨fun i m H' => i ≤ ds.length ∧ m = ds.length - i ∧ ∃ F' vs acc rest, Ext F1 H1 F' H' ∧ H' D = some (.lst vs) ∧ F' D = none ∧ DDs F' vs acc ∧ acc.length ≤ i ∧ lcGo ft fc fe (wipeE ρ (own.map (·.2))) (ds.drop i) = .ok rest ∧ acc ++ rest = xs,
          ⟨ds.length, Nat.zero_le _, rfl, F1, [], [], xs, Ext.addH e1.sub nD, upd_same, e1.sub.free nD, .nil, Nat.zero_le _, hgo, rfl⟩, fun i m H' hW => ?_⟩
        obtain ⟨hi', rfl, F', vs, acc, rest, ex, hD, hF, hv, hal, hr, hx⟩ := hW
        by_cases hlt : i < ds.length
        · refine .inr ⟨wk.goes i H' hlt (ex.ff.trans ex.sub), fun H'' => i + 1 ≤ ds.length ∧ ∃ F' vs acc rest, Ext F1 H1 F' H'' ∧ H'' D = some (.lst vs) ∧ F' D = none ∧ DDs F' vs acc ∧ acc.length ≤ i + 1 ∧ lcGo ft fc fe (wipeE ρ (own.map (·.2))) (ds.drop (i + 1)) = .ok rest ∧ acc ++ rest = xs, fun H'' q => ⟨ds.length - (i + 1), by omega, q.1, rfl, q.2⟩, fun x H2 hy => ?_⟩
          have hd : ds[i]? = some ds[i] := List.getElem?_eq_getElem hlt
          obtain ⟨F2, e2, r2⟩ := wk.yields i H' x H2 ds[i] F' hd ex.ff ex.sub hy
          rw [List.drop_eq_getElem_cons hlt] at hr
          unfold lcGo at hr
          cases h1 : ft ds[i] (wipeE ρ (own.map (·.2))) with
          | ok ρ1 =>
            rw [h1] at hr
            simp only [bind_ok] at hr
            refine (hg X.s_0 X.H_0 0 [] []).sound ((rel1.step ex).step e2) r2 h1 _ fun σ2 rel2 l2 o2 => ⟨wipe_eq hsub (by rw [l2, wipe_length]) o2, ?_⟩
            cases h2 : fc ρ1 with
            | ok b =>
              rw [h2] at hr
              simp only [bind_ok] at hr
              refine (ht X.s_0 X.H_0 0 [] []).sound rel2 _ (by
                rw [h2]
                intro F3 H3 e3
                have hD3 : H3 D = some (.lst vs) := e3.hh _ _ (e2.hh _ _ hD)
                have hF3 : F3 D = none := e3.own (e2.hh _ _ hD) (e2.own hD hF)
                have hv3 : DDs F3 vs acc := DDs.mono (e2.ff.trans e3.ff) _ _ hv
                have ex3 : Ext F1 H1 F3 H3 := (ex.trans e2).trans e3
                cases b with
                | true =>
                  rw [if_pos rfl] at hr ⊢
                  cases h3 : fe ρ1 with
                  | ok r =>
                    rw [h3] at hr
                    simp only [bind_ok] at hr
                    refine (he X.s_0 X.H_0 0 [] []).sound (rel2.step e3) _ (by
                      rw [h3]
                      intro y F4 H4 e4 r4
                      cases h4 : r.d with
                      | ok dx =>
                        rw [h4] at hr
                        simp only [bind_ok] at hr
                        obtain ⟨F5, e5, s5, r5⟩ := r4.data e4 h4
                        cases h6 : lcGo ft fc fe (wipeE ρ (own.map (·.2))) (ds.drop (i + 1)) with
                        | ok rest' =>
                          rw [h6] at hr
                          cases hr
                          have hD5 : H4 D = some (.lst vs) := e5.hh _ _ hD3
                          have hF5 : F5 D = none := e5.own hD3 hF3
                          have ex5 : Ext F1 H1 F5 H4 := ex3.trans e5
                          have hlen : vs.length < sizeLine := by
                            have := hv.len
                            have := lim_lt
                            omega
                          refine ⟨vs, hD5, hlen, hlt, F5, vs ++ [y], acc ++ [dx], rest', ⟨ex5.old, ex5.ff, fun b o q => ?_, fun b o q => ?_, ex5.new⟩, upd_same, hF5, (DDs.mono e5.ff _ _ hv3).app (.cons r5 .nil), by simp; omega, rfl, by rw [← hx]; simp⟩
                          · have : b ≠ D := ne_of_none q nD
                            rw [upd_ne this]
                            exact ex5.hh _ _ q
                          · have : b ≠ D := ne_of_none q hF5
                            rw [upd_ne this]
                            exact ex5.sub _ _ q
                        | err c => rw [h6] at hr; cases hr
                        | bad => rw [h6] at hr; cases hr
                      | err c => rw [h4] at hr; cases hr
                      | bad => rw [h4] at hr; cases hr)
                  | err c => rw [h3] at hr; cases hr
                  | bad => rw [h3] at hr; cases hr
                | false =>
                  rw [if_neg (by decide)] at hr ⊢
                  exact ⟨hlt, F3, vs, acc, rest, ex3, hD3, hF3, hv3, by omega, hr, hx⟩)
            | err c => rw [h2] at hr; cases hr
            | bad => rw [h2] at hr; cases hr
          | err c => rw [h1] at hr; cases hr
          | bad => rw [h1] at hr; cases hr
        · have hin : i = ds.length := by omega
          subst hin
          refine .inl ⟨wk.stops H' (ex.ff.trans ex.sub), ?_⟩
          simp [lcGo] at hr
          subst hr
          rw [List.append_nil] at hx
          subst hx
          exact P1 _ F' H' ex ⟨⟨D, vs, rfl, hD, hF, hv⟩, fun _ q e => by cases e; exact nD⟩
      | err c => rw [hgo] at P1; exact P1.elim
      | bad => rw [hgo] at P1; exact P1.elim
    · exact P1.elim)
end DN
/-! Den7: statements, loops, a def by its body. -/
namespace DN
open PySem PySem.Spec PyProof.Rows L2

inductive RO where
  | nx (ρ : Ev)
  | ret (r : R)
  | exc (c : Str) (ρ : Ev)
  | bad
  /-- a return that keeps the slots -/
  | retk (r : R) (ρ : Ev)
/-- an expression within a statement -/
def onR {α : Type} (ρ : Ev) (m : Rs α) (k : α → RO) : RO := match m with
  | .ok a => k a
  | .err c => .exc c ρ
  | .bad => .bad
@[simp] theorem onR_ok {α : Type} (ρ : Ev) (a : α) (k : α → RO) : onR ρ (.ok a) k = k a := rfl
@[simp] theorem onR_err {α : Type} (ρ : Ev) (c : Str) (k : α → RO) : onR ρ (.err c) k = .exc c ρ := rfl
@[simp] theorem onR_bad {α : Type} (ρ : Ev) (k : α → RO) : onR ρ .bad k = .bad := rfl
def RO.seq : RO → (Ev → RO) → RO
  | .nx ρ, k => k ρ
  | .ret r, _ => .ret r
  | .exc c ρ, _ => .exc c ρ
  | .bad, _ => .bad
  | .retk r ρ, _ => .retk r ρ
@[simp] theorem seq_retk (r : R) (ρ : Ev) (k : Ev → RO) : (RO.retk r ρ).seq k = .retk r ρ := rfl
@[simp] theorem seq_nx (ρ : Ev) (k : Ev → RO) : (RO.nx ρ).seq k = k ρ := rfl
@[simp] theorem seq_ret (r : R) (k : Ev → RO) : (RO.ret r).seq k = .ret r := rfl
@[simp] theorem seq_exc (c : Str) (ρ : Ev) (k : Ev → RO) : (RO.exc c ρ).seq k = .exc c ρ := rfl
@[simp] theorem seq_bad (k : Ev → RO) : RO.bad.seq k = .bad := rfl
section
variable (K : PySem.W.Frag) (mg : Str → Option Value) (W : WX) (G H0 : Hp)
def PostS (D : Ends) : RO → Prop
  | .nx ρ' => ∀ σ' F' H', Rel K G H0 ρ' σ' F' H' → D.nx σ' H'
  | .ret r => ∀ v F' H', Base G H0 F' H' → RepN K F' H' H0 v r → D.rt v H'
  | .exc c ρ' => ∀ C σ' F' H', mg c = some (.ref C) → Rel K G H0 ρ' σ' F' H' → W (.ref C) none σ' H'
  | .bad => False
  | .retk r ρ' => ∀ v σ' F' H', Rel K G H0 ρ' σ' F' H' → RepN K F' H' H0 v r → (∀ (q : Addr) (j : Nat) (y : R) (w : V), Cell H' v r q → ρ'[j]? = some (some y) → σ'[j]? = some (some w) → ¬ Cell H' w y q) → D.rt v H'
end
structure ES (X : Cx) (W : WX) (st : Stmt) (t : TS) (g : Ev → RO) : Prop where
  ps : PS X st t
  sound : ∀ {G H0 : Hp} {ρ : Ev} {σ : L2.St} {F H : Hp}, Rel X.K G H0 ρ σ F H → ∀ D : Ends, PostS X.K X.mg W G H0 D (g ρ) → t D σ H
structure EB (X : Cx) (W : WX) (sts : List Stmt) (t : TS) (g : Ev → RO) : Prop where
  ps : PSs X sts t
  sound : ∀ {G H0 : Hp} {ρ : Ev} {σ : L2.St} {F H : Hp}, Rel X.K G H0 ρ σ F H → ∀ D : Ends, PostS X.K X.mg W G H0 D (g ρ) → t D σ H
section
variable {K : PySem.W.Frag} {mg : Str → Option Value} {W : WX} {G H0 F H F1 H1 : Hp} {ρ : Ev} {σ : L2.St} {D : Ends}
/-- over more that stays -/
theorem postS_re {m : RO} (b : Base G H0 F1 H1) (P : PostS K mg W G H0 D m) : PostS K mg W F1 H0 D m := by
  cases m with
  | nx ρ' => exact fun σ' F' H' r => P σ' F' H' (r.back b)
  | ret r => exact fun v F' H' e q => P v F' H' (b.re e) q
  | exc c ρ' => exact fun C σ' F' H' m r => P C σ' F' H' m (r.back b)
  | bad => exact P
  | retk r ρ' => exact fun v σ' F' H' e q z => P v σ' F' H' (e.back b) q z
theorem postS_seq {D' : Ends} {m : RO} {k : Ev → RO} (P : PostS K mg W G H0 D (m.seq k)) (hn : ∀ ρ' σ' F' H', Rel K G H0 ρ' σ' F' H' → PostS K mg W G H0 D (k ρ') → D'.nx σ' H') (hr : D'.rt = D.rt) : PostS K mg W G H0 D' m := by
  cases m with
  | nx ρ' => exact fun σ' F' H' r => hn ρ' σ' F' H' r P
  | ret r => exact fun v F' H' e q => by rw [hr]; exact P v F' H' e q
  | exc c ρ' => exact P
  | bad => exact P
  | retk r ρ' => exact fun v σ' F' H' e q z => by rw [hr]; exact P v σ' F' H' e q z
theorem postS_on {Q : VK} {m : Rs R} {k : R → RO} (rel : Rel K G H0 ρ σ F H) (P : PostS K mg W G H0 D (onR ρ m k))
    (h : ∀ r v F' H', Ext F H F' H' → RepN K F' H' H v r → PostS K mg W G H0 D (k r) → Q v H') : Post K mg W σ F H Q m := by
  cases m with
  | ok r => exact fun v F' H' e q => h r v F' H' e q P
  | err c => exact fun C H' m s => P C σ F H' m (rel.step (Ext.more rel.sub s))
  | bad => exact P
theorem postS_data {Q : VK} {m : Rs R} {k : PyData → RO} (rel : Rel K G H0 ρ σ F H) (P : PostS K mg W G H0 D (onR ρ (m.bind R.d) k))
    (h : ∀ d v F' H', Ext F H F' H' → DD F' v d → PostS K mg W G H0 D (k d) → Q v H') : Post K mg W σ F H Q m := by
  cases m with
  | ok r =>
    intro v F' H' e q
    cases hd : r.d with
    | ok d =>
      obtain ⟨F2, e2, _, q2⟩ := q.data e hd
      have P' : PostS K mg W G H0 D (k d) := by
        have : onR ρ ((Rs.ok r).bind R.d) k = k d := by simp [hd]
        rw [this] at P; exact P
      exact h d v F2 H' e2 q2 P'
    | err c => exact absurd hd (by cases r <;> simp [R.d])
    | bad =>
      have : onR ρ ((Rs.ok r).bind R.d) k = .bad := by simp [hd]
      rw [this] at P; exact P.elim
  | err c => exact fun C H' m s => P C σ F H' m (rel.step (Ext.more rel.sub s))
  | bad => exact P
theorem postS_onB {Q : Bool → Hp → Prop} {m : Rs Bool} {k : Bool → RO} (rel : Rel K G H0 ρ σ F H) (P : PostS K mg W G H0 D (onR ρ m k))
    (h : ∀ b F' H', Ext F H F' H' → PostS K mg W G H0 D (k b) → Q b H') : PostB mg W σ F H Q m := by
  cases m with
  | ok r => exact fun F' H' e => h r F' H' e P
  | err c => exact fun C H' m s => P C σ F H' m (rel.step (Ext.more rel.sub s))
  | bad => exact P
theorem postS_onI {R' : It → Hp → Prop} {m : Rs (List PyData)} {k : List PyData → RO} (rel : Rel K G H0 ρ σ F H) (P : PostS K mg W G H0 D (onR ρ m k))
    (h : ∀ ds J F' H', Ext F H F' H' → WalkD J F' ds → PostS K mg W G H0 D (k ds) → R' J H') : PostI mg W σ F H R' m := by
  cases m with
  | ok r => exact fun J F' H' e w => h r J F' H' e w P
  | err c => exact fun C H' m s => P C σ F H' m (rel.step (Ext.more rel.sub s))
  | bad => exact P
end

/-! ### blocks -/
@[simp] def gNext : Ev → RO := fun ρ => .nx ρ
@[simp] def gSeq (g h : Ev → RO) : Ev → RO := fun ρ => (g ρ).seq h
section
variable {X : Cx} {W : WX} {st : Stmt} {rest : List Stmt} {t u : TS} {g h : Ev → RO} {e : Expr} {te : TE} {f : Ev → Rs R} {pos : Pos}
theorem eb_nil : EB X W [] tNext gNext := ⟨pss_nil, fun rel D P => P _ _ _ rel⟩
theorem eb_one (a : ES X W st t g) : EB X W [st] t g := ⟨pss_one a.ps, a.sound⟩
theorem eb_cons (a : ES X W st t g) (b : EB X W rest u h) : EB X W (st :: rest) (tSeq t u) (gSeq g h) where
  ps := pss_cons a.ps b.ps
  sound := fun rel D P => a.sound rel _ (postS_seq P (fun ρ' σ' F' H' r P' => b.sound r D P') rfl)
theorem es_pass : ES X W (.Pass pos) tNext gNext := ⟨ps_pass, fun rel D P => P _ _ _ rel⟩
/-- an expression whose value is dropped -/
@[simp] def gDrop (f : Ev → Rs R) : Ev → RO := fun ρ => onR ρ (f ρ) fun _ => .nx ρ
theorem es_expr (he : EE X W e te f) (hs : swapsWith e none pos.line X.env = pure false := by rfl) : ES X W (.Expr e pos) (tDrop te) (gDrop f) where
  ps := ps_expr he.pe hs
  sound := fun {G H0 ρ σ F H} rel D P => he.sound rel _ (postS_on rel P fun r v F' H' e q P' => P' _ _ _ (rel.step e))
/-- return -/
@[simp] def gRet (f : Ev → Rs R) : Ev → RO := fun ρ => onR ρ (f ρ) .ret
theorem es_ret (he : EE X W e te f) : ES X W (.Return (some e) pos) (tRet te) (gRet f) where
  ps := ps_ret he.pe
  sound := fun {G H0 ρ σ F H} rel D P => he.sound rel _ (postS_on rel P fun r v F' H' e q P' => P' v F' H' (rel.base.step e) ⟨q.1, fun o p z => rel.base.hh.free (q.2 o p z)⟩)
/-- return x, whatever x holds -/
@[simp] def gRetV (i : Nat) : Ev → RO := fun ρ => match ρ[i]? with
  | some (some r) => .ret r
  | _ => .bad
theorem es_retV (i : Nat) {x : Str} {p2 : Pos} (hN : X.N[i]? = some x := by rfl) (hv : Vis X.env.scope x := by first | exact Or.inl rfl | exact Or.inr (Or.inl rfl) | exact Or.inr (Or.inr rfl)) (hd : (x == ("__debug__" : Str)) = false := by decide)
    (hcd : (x == ("__classdict__" : Str)) = false := by decide) : ES X W (.Return (some (.Name x p2)) pos) (tRet (tVar i)) (gRetV i) where
  ps := ps_ret (pe_var hN hv hd hcd)
  sound := fun {G H0 ρ σ F H} rel D P => by
    unfold gRetV at P
    split at P
    · rename_i r h
      obtain ⟨v, a, b⟩ := rel.at_ i _ h
      exact ⟨v, a, P v F H rel.base ⟨b, fun o p z => rel.frs i r v p h a z⟩⟩
    · exact P.elim
theorem es_retN : ES X W (.Return none pos) tRetN (fun _ => .ret (.val .none)) := ⟨ps_retN, fun {G H0 ρ σ F H} rel D P => P _ F H rel.base (.val .non)⟩
/-- if -/
@[simp] def gIf (c : Ev → Rs Bool) (g h : Ev → RO) : Ev → RO := fun ρ => onR ρ (c ρ) fun b => if b = true then g ρ else h ρ
theorem es_if {c : Expr} {a b : List Stmt} {tc : TT} {fc : Ev → Rs Bool} (hc : ET X W c tc fc) (ha : EB X W a t g) (hb : EB X W b u h) : ES X W (.If c a b pos) (tIfS tc t u) (gIf fc g h) where
  ps := ps_if hc.pt ha.ps hb.ps
  sound := fun {G H0 ρ σ F H} rel D P => hc.sound rel _ (postS_onB rel P fun b F' H' e P' => by
    cases b with
    | true =>
      rw [if_pos rfl] at P' ⊢
      exact ha.sound (rel.step e) D P'
    | false =>
      rw [if_neg (by decide)] at P' ⊢
      exact hb.sound (rel.step e) D P')
/-! ### assignments -/
/-- x = e, a new thing of ours stays ours; x = e, it is let go -/
@[simp] def gAsg (i : Nat) (f : Ev → Rs R) : Ev → RO := fun ρ => onR ρ (f ρ) fun r => .nx (ρ.set i (some r))
@[simp] def gAsgF (i : Nat) (f : Ev → Rs R) : Ev → RO := fun ρ => onR ρ ((f ρ).bind R.d) fun d => .nx (ρ.set i (some (.val d)))
theorem es_asgP {i : Nat} (hp : PS X st (tAsg te (gName i))) (he : EE X W e te f) : ES X W st (tAsg te (gName i)) (gAsg i f) where
  ps := hp
  sound := fun {G H0 ρ σ F H} rel D P => he.sound rel _ (postS_on rel P fun r v F' H' e q P' => P' _ _ _ (rel.setOwn e q))
theorem es_asgPF {i : Nat} (hp : PS X st (tAsg te (gName i))) (he : EE X W e te f) : ES X W st (tAsg te (gName i)) (gAsgF i f) where
  ps := hp
  sound := fun {G H0 ρ σ F H} rel D P => he.sound rel _ (postS_data rel P fun d v F' H' e q P' => P' _ _ _ ((rel.step e).setVal q rfl))
theorem es_asg (i : Nat) {x : Str} {pos' : Pos} (hN : X.N.Nodup) (he : EE X W e te f) (hi : X.N[i]? = some x := by rfl) (hx : Loc X.env.scope x := by first | exact .inl rfl | exact .inr rfl) (hs : swapsWith e (some (.Name x pos')) pos.line X.env = pure false := by rfl) (hf : X.fn x = true ∨ X.env.scope.names.lookup x = some .local := by first | exact .inl rfl | exact .inr rfl | assumption) :
    ES X W (.Assign [.Name x pos'] e pos) (tAsg te (gName i)) (gAsg i f) := es_asgP (ps_set hN hi hx he.pe hs hf) he
theorem es_asgF (i : Nat) {x : Str} {pos' : Pos} (hN : X.N.Nodup) (he : EE X W e te f) (hi : X.N[i]? = some x := by rfl) (hx : Loc X.env.scope x := by first | exact .inl rfl | exact .inr rfl) (hs : swapsWith e (some (.Name x pos')) pos.line X.env = pure false := by rfl) (hf : X.fn x = true ∨ X.env.scope.names.lookup x = some .local := by first | exact .inl rfl | exact .inr rfl | assumption) :
    ES X W (.Assign [.Name x pos'] e pos) (tAsg te (gName i)) (gAsgF i f) := es_asgPF (ps_set hN hi hx he.pe hs hf) he
/-- a, b, .. = e -/
@[simp] def gAsgT (ft : PyData → Ev → Rs Ev) (f : Ev → Rs R) : Ev → RO := fun ρ => onR ρ ((f ρ).bind R.d) fun d => match ft d ρ with
  | .ok ρ' => .nx ρ'
  | _ => .bad
theorem es_asgT {tg : Expr} {gt : TG} {is : List Nat} {ft : PyData → Ev → Rs Ev} (he : EE X W e te f) (hg : EG X tg gt is ft) (hs : swapsWithSole [tg] e pos.line X.env = pure false := by rfl) (hw : swappedStores [tg] e X.env = pure none := by rfl)
    (h1 : (assignEach [tg] X.env).map (·.2) = [assign tg X.env] := by rfl) : ES X W (.Assign [tg] e pos) (tAsg te gt) (gAsgT ft f) where
  ps := ps_asg he.pe hg.pg hs hw h1
  sound := fun {G H0 ρ σ F H} rel D P => he.sound rel _ (postS_data rel P fun d v F' H' e q P' => by
    cases h : ft d ρ with
    | ok ρ' =>
      rw [h] at P'
      exact hg.sound (rel.step e) q h _ fun σ' r _ _ => P' _ _ _ r
    | err c => rw [h] at P'; exact P'.elim
    | bad => rw [h] at P'; exact P'.elim)
/-- how a value is taken: as it is, or let go -/
def keepR (k : Bool) (r : R) : Rs R := match k with
  | true => .ok r
  | false => r.d.bind fun d => .ok (.val d)
@[simp] theorem keepR_t (r : R) : keepR true r = .ok r := rfl
@[simp] theorem keepR_f (r : R) : keepR false r = r.d.bind fun d => .ok (.val d) := rfl
theorem RepN.keep {K : PySem.W.Frag} {F H F1 H1 : Hp} {k : Bool} {v : V} {r r' : R} (e : Ext F H F1 H1) (q : RepN K F1 H1 H v r) (hk : keepR k r = .ok r') : ∃ F2, Ext F H F2 H1 ∧ Same F1 F2 ∧ RepN K F2 H1 H v r' := by
  cases k with
  | true => cases hk; exact ⟨F1, e, Same.refl _, q⟩
  | false =>
    unfold keepR at hk
    cases hd : r.d with
    | ok d =>
      rw [hd] at hk; cases hk
      obtain ⟨F2, a, b, c⟩ := q.data e hd
      exact ⟨F2, a, b, .val c⟩
    | err c => rw [hd] at hk; cases hk
    | bad => rw [hd] at hk; cases hk
/-- a, b = e1, e2 -/
@[simp] def gPar (i j : Nat) (k l : Bool) (f1 f2 : Ev → Rs R) : Ev → RO := fun ρ => onR ρ ((f1 ρ).bind (keepR k)) fun a => onR ρ ((f2 ρ).bind (keepR l)) fun b => .nx ((ρ.set i (some a)).set j (some b))
theorem postS_keep {K : PySem.W.Frag} {mg : Str → Option Value} {G H0 F H : Hp} {ρ : Ev} {σ : L2.St} {D : Ends} {k : Bool} {Q : VK} {m : Rs R} {n : R → RO} (rel : Rel K G H0 ρ σ F H) (P : PostS K mg W G H0 D (onR ρ (m.bind (keepR k)) n))
    (h : ∀ r v F' H', Ext F H F' H' → RepN K F' H' H v r → PostS K mg W G H0 D (n r) → Q v H') : Post K mg W σ F H Q m := by
  cases m with
  | ok r =>
    intro v F' H' e q
    cases hd : keepR k r with
    | ok d =>
      obtain ⟨F2, e2, _, q2⟩ := q.keep e hd
      have P' : PostS K mg W G H0 D (n d) := by
        have : onR ρ ((Rs.ok r).bind (keepR k)) n = n d := by simp [hd]
        rw [this] at P; exact P
      exact h d v F2 H' e2 q2 P'
    | err c =>
      exfalso
      cases k with
      | true => cases hd
      | false => cases r <;> simp [keepR, R.d] at hd
    | bad =>
      have : onR ρ ((Rs.ok r).bind (keepR k)) n = .bad := by simp [hd]
      rw [this] at P; exact P.elim
  | err c => exact fun C H' m s => P C σ F H' m (rel.step (Ext.more rel.sub s))
  | bad => exact P
theorem es_par (i j : Nat) (k l : Bool) {x y : Str} {a b : Expr} {ta tb : TE} {fa fb : Ev → Rs R} {px py pt pt2 : Pos} {kt k2 : Nat} (hN : X.N.Nodup) (ha : EE X W a ta fa) (hb : EE X W b tb fb)
    (hw : swappedStores [.Tuple [.Name x px, .Name y py] kt pt] (.Tuple [a, b] k2 pt2) X.env = pure (some [x, y]) := by rfl)
    (hi : X.N[i]? = some x := by rfl) (hj : X.N[j]? = some y := by rfl) (hij : i ≠ j := by decide) (hx : X.env.scope.names.lookup x = some .local := by rfl) (hy : X.env.scope.names.lookup y = some .local := by rfl) (hc : X.calm = true := by rfl)
    (hs : swapsWithSole [.Tuple [.Name x px, .Name y py] kt pt] (.Tuple [a, b] k2 pt2) pos.line X.env = pure false := by rfl)
    (hs1 : starEach [a, b] X.env = (false, eval a X.env) :: starEach [b] X.env := by rfl) (hs2 : starEach [b] X.env = (false, eval b X.env) :: starEach [] X.env := by rfl) :
    ES X W (.Assign [.Tuple [.Name x px, .Name y py] kt pt] (.Tuple [a, b] k2 pt2) pos) (tPar i j (tCons ta (tCons tb tNil))) (gPar i j k l fa fb) where
  ps := ps_par hc hN hi hj hij hx hy (pa_cons ha.pe (pa_cons hb.pe pa_nil hs2) hs1) hw hs
  sound := fun {G H0 ρ σ F H} rel D P => ha.sound rel _ (postS_keep rel P fun r v F1 H1 e1 q1 P1 => hb.sound (rel.step e1) _ (postS_keep (rel.step e1) P1 fun r2 v2 F2 H2 e2 q2 P2 =>
    ⟨v, v2, rfl, P2 _ _ _ (Rel.setOwn (rel.setOwn e1 q1) e2 q2)⟩))
/-- a, b, c = e1, e2, e3 -/
@[simp] def gPar3 (i j m : Nat) (k l n : Bool) (f1 f2 f3 : Ev → Rs R) : Ev → RO := fun ρ => onR ρ ((f1 ρ).bind (keepR k)) fun a => onR ρ ((f2 ρ).bind (keepR l)) fun b => onR ρ ((f3 ρ).bind (keepR n)) fun c => .nx (((ρ.set i (some a)).set j (some b)).set m (some c))
theorem es_par3 (i j m : Nat) (k l n : Bool) {x y z : Str} {a b c : Expr} {ta tb tc : TE} {fa fb fc : Ev → Rs R} {px py pz pt pt2 : Pos} {kt k2 : Nat} (hN : X.N.Nodup) (ha : EE X W a ta fa) (hb : EE X W b tb fb) (hc3 : EE X W c tc fc)
    (hw : swappedStores [.Tuple [.Name x px, .Name y py, .Name z pz] kt pt] (.Tuple [a, b, c] k2 pt2) X.env = pure (some [x, y, z]) := by rfl)
    (hi : X.N[i]? = some x := by rfl) (hj : X.N[j]? = some y := by rfl) (hl : X.N[m]? = some z := by rfl) (hij : i ≠ j := by decide) (him : i ≠ m := by decide) (hjm : j ≠ m := by decide)
    (hx : X.env.scope.names.lookup x = some .local := by rfl) (hy : X.env.scope.names.lookup y = some .local := by rfl) (hz : X.env.scope.names.lookup z = some .local := by rfl) (hc : X.calm = true := by rfl)
    (hs : swapsWithSole [.Tuple [.Name x px, .Name y py, .Name z pz] kt pt] (.Tuple [a, b, c] k2 pt2) pos.line X.env = pure false := by rfl)
    (hs1 : starEach [a, b, c] X.env = (false, eval a X.env) :: starEach [b, c] X.env := by rfl) (hs2 : starEach [b, c] X.env = (false, eval b X.env) :: starEach [c] X.env := by rfl) (hs3 : starEach [c] X.env = (false, eval c X.env) :: starEach [] X.env := by rfl) :
    ES X W (.Assign [.Tuple [.Name x px, .Name y py, .Name z pz] kt pt] (.Tuple [a, b, c] k2 pt2) pos) (tPar3 i j m (tCons ta (tCons tb (tCons tc tNil)))) (gPar3 i j m k l n fa fb fc) where
  ps := ps_par3 hc hN hi hj hl hij him hjm hx hy hz (pa_cons ha.pe (pa_cons hb.pe (pa_cons hc3.pe pa_nil hs3) hs2) hs1) hw hs
  sound := fun {G H0 ρ σ F H} rel D P => ha.sound rel _ (postS_keep rel P fun r v F1 H1 e1 q1 P1 => hb.sound (rel.step e1) _ (postS_keep (rel.step e1) P1 fun r2 v2 F2 H2 e2 q2 P2 =>
    hc3.sound ((rel.step e1).step e2) _ (postS_keep ((rel.step e1).step e2) P2 fun r3 v3 F3 H3 e3 q3 P3 => ⟨v, v2, v3, rfl, P3 _ _ _ (Rel.setOwn (Rel.setOwn (rel.setOwn e1 q1) e2 q2) e3 q3)⟩)))
/-- a thing of ours in a slot is let go -/
@[simp] def frzAt (i : Nat) (ρ : Ev) : Ev := match ρ[i]? with
  | some (some (.own xs)) => ρ.set i (some (.val (.list xs)))
  | _ => ρ
theorem Rel.frz {K : PySem.W.Frag} {G H0 F H : Hp} {ρ : Ev} {σ : L2.St} (i : Nat) (rel : Rel K G H0 ρ σ F H) : ∃ F', Rel K G H0 (frzAt i ρ) σ F' H := by
  unfold frzAt
  split
  · rename_i xs h
    obtain ⟨v, hv, p, vs, rfl, hp, hF, r⟩ := rel.at_ i _ h
    have np : H0 p = none := rel.frs i _ _ p h hv rfl
    have hl := lt_of_get h
    have sm : Same F (upd F p (.lst vs)) := same_new hF
    have key : ∀ {j : Nat} {y : R} {w : V} {c : Addr}, (ρ.set i (some (.val (.list xs))))[j]? = some (some y) → Cell H w y c → i ≠ j ∧ ρ[j]? = some (some y) := fun {j y w c} e o => by
      by_cases z : i = j
      · subst z
        rw [List.getElem?_set_self hl] at e
        cases e; cases o.own
      · rw [List.getElem?_set_ne z] at e
        exact ⟨z, e⟩
    refine ⟨upd F p (.lst vs), ⟨rel.base.keep.trans sm, rel.base.hh, fun b o q => ?_, fun a q => ?_⟩, by simp [rel.len], fun j y e => ?_, fun j y w q e s o => rel.frs j y w q (key e o).2 s o, fun j k y z w1 w2 q e1 e2 s1 s2 o1 o2 => rel.apart j k y z w1 w2 q (key e1 o1).2 (key e2 o2).2 s1 s2 o1 o2⟩
    · by_cases z : b = p
      · subst z; rw [upd_same] at q; rw [hp]; exact q
      · rw [upd_ne z] at q; exact rel.sub _ _ q
    · by_cases z : a = p
      · subst z; exact .inr (.none np)
      · rw [upd_ne z] at q; exact rel.base.new a q
    · by_cases z : i = j
      · subst z
        rw [List.getElem?_set_self hl] at e
        cases e
        exact ⟨_, hv, .lst upd_same (DDs.mono sm _ _ r)⟩
      · rw [List.getElem?_set_ne z] at e
        obtain ⟨w, a, b⟩ := rel.at_ j y e
        exact ⟨w, a, (b.move sm (fun _ _ => rfl) (fun q hq => upd_ne hq) fun c => z (rel.apart i j _ y _ w p h e hv a rfl c)).1⟩
  · exact ⟨F, rel⟩
theorem es_frz (i : Nat) (a : ES X W st t g) : ES X W st t (fun ρ => g (frzAt i ρ)) := ⟨a.ps, fun rel D P => by
  obtain ⟨F', r⟩ := rel.frz i
  exact a.sound r D P⟩
end
end DN
/-! Den8: loops, things of ours that change, raise, a def by its body. -/
namespace DN
open PySem PySem.Spec PyProof.Rows L2

/-! ### for -/
def loop (ft : PyData → Ev → Rs Ev) (gb : Ev → RO) : List PyData → Ev → RO
  | [], ρ => .nx ρ
  | d :: ds, ρ => match ft d ρ with
    | .ok ρ1 => (gb ρ1).seq (loop ft gb ds)
    | _ => .bad
def gFor (fi : Ev → Rs (List PyData)) (ft : PyData → Ev → Rs Ev) (gb : Ev → RO) : Ev → RO := fun ρ => onR ρ (fi ρ) fun ds => loop ft gb ds ρ
section
variable {X : Cx} {W : WX} {pos : Pos}
theorem es_for {tg iter : Expr} {body : List Stmt} {wi : TI} {gt : TG} {tb : TS} {is : List Nat} {fi : Ev → Rs (List PyData)} {ft : PyData → Ev → Rs Ev} {gb : Ev → RO} (po : PassesOwn (model X.prog X.w) X.A X.env X.xe) (hi : EI X W tg iter wi fi) (hg : EG X tg gt is ft) (hb : EB X W body tb gb)
    (hc : X.calm = true := by rfl) (hs : ∀ x, foldedSetIterable iter X.env x = pure x := by intro _; rfl) : ES X W (.For tg iter body [] pos) (tFor wi gt tb) (gFor fi ft gb) where
  ps := ps_for po hc hi.pi hg.pg hb.ps hs
  sound := fun {G H0 ρ σ F H} rel D P => hi.sound rel _ (postS_onI rel P fun ds J F1 H1 e1 wk P1 => by
    have rel1 := rel.step e1
    refine ⟨fun i m σ' H' => i ≤ ds.length ∧ m = ds.length - i ∧ ∃ ρ' F', Rel X.K F1 H0 ρ' σ' F' H' ∧ PostS X.K X.mg W F1 H0 D (loop ft gb (ds.drop i) ρ'),
      ⟨ds.length, Nat.zero_le _, rfl, ρ, F1, rel1.re, postS_re rel1.base P1⟩, fun i m σ' H' hW => ?_⟩
    obtain ⟨hi', rfl, ρ', F', r', P'⟩ := hW
    have sF : Same F1 H' := r'.base.keep.trans r'.sub
    by_cases hlt : i < ds.length
    · refine .inr ⟨wk.goes i H' hlt sF, fun σ2 H2 => i + 1 ≤ ds.length ∧ ∃ ρ' F', Rel X.K F1 H0 ρ' σ2 F' H2 ∧ PostS X.K X.mg W F1 H0 D (loop ft gb (ds.drop (i + 1)) ρ'), fun σ2 H2 q => ⟨ds.length - (i + 1), by omega, q.1, rfl, q.2⟩, fun x H2 hy => ?_⟩
      have hd : ds[i]? = some ds[i] := List.getElem?_eq_getElem hlt
      obtain ⟨F2, e2, r2⟩ := wk.yields i H' x H2 ds[i] F' hd r'.base.keep r'.sub hy
      rw [List.drop_eq_getElem_cons hlt] at P'
      unfold loop at P'
      cases h1 : ft ds[i] ρ' with
      | ok ρ1 =>
        rw [h1] at P'
        replace P' : PostS X.K X.mg W F1 H0 D ((gb ρ1).seq (loop ft gb (ds.drop (i + 1)))) := P'
        exact hg.sound (r'.step e2) r2 h1 _ fun σ2 r3 _ _ => hb.sound r3 _ (postS_seq P' (fun ρ4 σ4 F4 H4 r4 P4 => ⟨hlt, ρ4, F4, r4, P4⟩) rfl)
      | err c => rw [h1] at P'; exact P'.elim
      | bad => rw [h1] at P'; exact P'.elim
    · have hin : i = ds.length := by omega
      subst hin
      refine .inl ⟨wk.stops H' sF, ?_⟩
      rw [List.drop_length] at P'
      exact P' σ' F' H' r')
/-! ### while -/
def whileN (fc : Ev → Rs Bool) (gb : Ev → RO) : Nat → Ev → RO
  | 0, _ => .bad
  | n + 1, ρ => onR ρ (fc ρ) fun b => if b = true then (gb ρ).seq (whileN fc gb n) else .nx ρ
def fuel : Nat := 1000000
def gWhile (fc : Ev → Rs Bool) (gb : Ev → RO) : Ev → RO := fun ρ => whileN fc gb fuel ρ
theorem es_while {c : Expr} {body : List Stmt} {tc : TT} {tb : TS} {fc : Ev → Rs Bool} {gb : Ev → RO} (po : PassesOwn (model X.prog X.w) X.A X.env X.xe) (hc : ET X W c tc fc) (hb : EB X W body tb gb) : ES X W (.While c body [] pos) (tWhile tc tb) (gWhile fc gb) where
  ps := ps_while po hc.pt hb.ps
  sound := fun {G H0 ρ σ F H} rel D P => by
    refine ⟨fun m σ' H' => ∃ ρ' F', Rel X.K G H0 ρ' σ' F' H' ∧ PostS X.K X.mg W G H0 D (whileN fc gb m ρ'), ⟨fuel, ρ, F, rel, P⟩, fun m σ' H' hW => ?_⟩
    obtain ⟨ρ', F', r', P'⟩ := hW
    cases m with
    | zero => exact P'.elim
    | succ m =>
      refine hc.sound r' _ (postS_onB r' P' fun b F2 H2 e2 P2 => ?_)
      cases b with
      | true =>
        rw [if_pos rfl] at P2 ⊢
        exact ⟨fun σ3 H3 => ∃ ρ' F', Rel X.K G H0 ρ' σ3 F' H3 ∧ PostS X.K X.mg W G H0 D (whileN fc gb m ρ'), fun σ3 H3 q => ⟨m, Nat.lt_succ_self m, q⟩, hb.sound (r'.step e2) _ (postS_seq P2 (fun ρ4 σ4 F4 H4 r4 P4 => ⟨ρ4, F4, r4, P4⟩) rfl)⟩
      | false =>
        rw [if_neg (by decide)] at P2 ⊢
        exact P2 _ _ _ (r'.step e2)
/-! ### raise -/
theorem es_raise {c m : Str} {j : Nat} {C : Addr} {p p2 pos' : Pos} {bmB : List Value} {B newId initId : String} (tk : Takes X W) (Fb : ExcBaseFacts B newId initId bmB) (q : PySem.W.excIn X.K C bmB newId = true) (gC : X.mg c = some (.ref C)) (kC : PySem.W.keepIn X.K (.ref C) = true)
    (r : Raises X (.ref C)) (hc : X.calm = true := by rfl) (hg : Gl X c := by rfl) (hdb : (c == ("__debug__" : Str)) = false := by decide) :
    ES X W (.Raise (some (.Call (.Name c p) [.Constant (.str m) j p2] [] pos')) none pos) (fun _ σ H => (fun (_ : L2.St) (H : Hp) (Q : XK) => Q (.ref C) none H) σ H fun cls d H' => W cls d σ H') (fun ρ => .exc c ρ) where
  ps := ps_raise hc tk (pmk_own Fb q gC kC r hg hdb)
  sound := fun {G H0 ρ σ F H} rel D P => P C σ F H gC rel
/-! ### things of ours change -/
theorem Rel.mut {K : PySem.W.Frag} {G H0 F H : Hp} {ρ : Ev} {σ : L2.St} {i : Nat} {r r' : R} {p : Addr} {o : HO} (rel : Rel K G H0 ρ σ F H) (h : ρ[i]? = some (some r)) (ho : r.isOwn = true) (hv : σ[i]? = some (some (.ref p))) (hF : F p = none)
    (q : Rep K F (upd H p o) (.ref p) r') (ho' : r'.isOwn = true) (hc : ∀ x, Cell (upd H p o) (.ref p) r' x → Cell H (.ref p) r x := by exact fun _ z => z) : Rel K G H0 (ρ.set i (some r')) σ F (upd H p o) := by
  have hR : Rep K F H (.ref p) r := by
    obtain ⟨v, a, b⟩ := rel.at_ i _ h
    rw [hv] at a
    cases a
    exact b
  have tp := Cell.top hR ho
  have np : H0 p = none := rel.frs i _ _ p h hv tp
  have hl := lt_of_get h
  have mv : ∀ {j : Nat} {y : R} {w : V}, i ≠ j → ρ[j]? = some (some y) → σ[j]? = some (some w) → Rep K F H w y → Rep K F (upd H p o) w y ∧ ∀ q, Cell (upd H p o) w y q → Cell H w y q := fun {j y w} z e s b =>
    b.move (Same.refl _) (fun q hq => upd_ne hq) (fun _ _ => rfl) fun c => z (rel.apart i j _ y _ w p h e hv s tp c)
  have own : ∀ {j : Nat} {y : R} {w : V} {q : Addr}, (ρ.set i (some r'))[j]? = some (some y) → σ[j]? = some (some w) → Cell (upd H p o) w y q → ∃ y', ρ[j]? = some (some y') ∧ Cell H w y' q := fun {j y w q} e s c => by
    by_cases z : i = j
    · subst z
      rw [List.getElem?_set_self hl] at e
      cases e
      rw [hv] at s
      cases s
      exact ⟨r, h, hc q c⟩
    · rw [List.getElem?_set_ne z] at e
      obtain ⟨w', a, b⟩ := rel.at_ j y e
      rw [s] at a
      cases a
      exact ⟨y, e, (mv z e s b).2 q c⟩
  refine ⟨⟨rel.base.keep, fun b x e => ?_, fun b x e => ?_, rel.base.new⟩, by simp [rel.len], fun j y e => ?_, fun j y w q e s c => ?_, fun j k y z w1 w2 q e1 e2 s1 s2 c1 c2 => ?_⟩
  · rw [upd_ne (ne_of_none e np)]; exact rel.base.hh _ _ e
  · rw [upd_ne (ne_of_none e hF)]; exact rel.sub _ _ e
  · by_cases z : i = j
    · subst z
      rw [List.getElem?_set_self hl] at e
      cases e
      exact ⟨_, hv, q⟩
    · rw [List.getElem?_set_ne z] at e
      obtain ⟨w, a, b⟩ := rel.at_ j y e
      exact ⟨w, a, (mv z e a b).1⟩
  · obtain ⟨y', a, b⟩ := own e s c
    exact rel.frs j y' w q a s b
  · obtain ⟨y', a, b⟩ := own e1 s1 c1
    obtain ⟨z', a', b'⟩ := own e2 s2 c2
    exact rel.apart j k y' z' w1 w2 q a a' s1 s2 b b'
/-- x.append(e) -/
@[simp] def gApp (i : Nat) (f : Ev → Rs R) : Ev → RO := fun ρ => match ρ[i]? with
  | some (some (.own xs)) => onR ρ ((f ρ).bind R.d) fun d => if xs.length < lim then .nx (ρ.set i (some (.own (xs ++ [d])))) else .bad
  | _ => .bad
theorem es_app (i : Nat) {x : Str} {e : Expr} {te : TE} {f : Ev → Rs R} {p2 apos cpos : Pos} (he : EE X W e te f) (hN : X.N[i]? = some x := by rfl) (hv : Vis X.env.scope x := by first | exact Or.inl rfl | exact Or.inr (Or.inl rfl) | exact Or.inr (Or.inr rfl))
    (hd : (x == ("__debug__" : Str)) = false := by decide) (hcd : (x == ("__classdict__" : Str)) = false := by decide)
    (hbase : attributeBase (.Name x p2) "append" X.env (eval (.Name x p2) X.env) = eval (.Name x p2) X.env := by rfl)
    (hfew : ((backTo cpos (starEach [e] X.env)).all (fun x => !x.1) && (backToKw cpos (keywordEach [] X.env)).all (fun x => x.1.isSome)
      && decide (([e] : List Expr).length + ([] : List Keyword).length + (if ([] : List Keyword).isEmpty then 0 else 1) < 30)) = true := by rfl)
    (hline : (apos.endLine == cpos.line) = true := by rfl) (hs : starEach [e] X.env = (false, eval e X.env) :: starEach [] X.env := by rfl) (hplain : (backTo cpos (starEach [] X.env)).any (·.1) = false := by rfl)
    (hsw : swapsWith (.Call (.Attribute (.Name x p2) "append" apos) [e] [] cpos) none pos.line X.env = pure false := by rfl) :
    ES X W (.Expr (.Call (.Attribute (.Name x p2) "append" apos) [e] [] cpos) pos) (tDrop (tBM X.K "list" rAppend (tVar i) (tCons te tNil))) (gApp i f) where
  ps := ps_expr (pe_bm PySem.F.plainAttrs_list PySem.F.slot_list_append PySem.F.type_list_append mt_append (pe_var hN hv hd hcd) (pa_cons he.pe pa_nil hs) hbase hfew hline hs hplain) hsw
  sound := fun {G H0 ρ σ F H} rel D P => by
    unfold gApp at P
    split at P
    · rename_i xs h
      obtain ⟨v, hv, p, vs, rfl, hp, hF, r⟩ := rel.at_ i _ h
      refine ⟨_, hv, .inl ⟨rfl, vs, SqL.of hp⟩, he.sound rel _ (postS_data rel P fun d v F1 H1 e1 q1 P1 => ?_)⟩
      split at P1
      · rename_i hl
        have hp1 := e1.hh _ _ hp
        refine ⟨p, vs, v, rfl, rfl, hp1, by rw [r.len]; exact Nat.lt_trans hl lim_lt, P1 _ _ _ ((rel.step e1).mut h rfl hv (e1.own hp hF) ⟨p, _, rfl, upd_same, e1.own hp hF, (DDs.mono e1.ff _ _ r).app (.cons q1 .nil)⟩ rfl)⟩
      · exact P1.elim
    · exact P.elim
/-- x.extend(e) -/
@[simp] def gExt (i : Nat) (f : Ev → Rs R) : Ev → RO := fun ρ => match ρ[i]? with
  | some (some (.own xs)) => onR ρ ((f ρ).bind R.d) fun d => match d with
    | .list ys => if xs.length + ys.length ≤ lim then .nx (ρ.set i (some (.own (xs ++ ys)))) else .bad
    | _ => .bad
  | _ => .bad
theorem es_ext (i : Nat) {x : Str} {e : Expr} {te : TE} {f : Ev → Rs R} {p2 apos cpos : Pos} (he : EE X W e te f) (hN : X.N[i]? = some x := by rfl) (hv : Vis X.env.scope x := by first | exact Or.inl rfl | exact Or.inr (Or.inl rfl) | exact Or.inr (Or.inr rfl))
    (hd : (x == ("__debug__" : Str)) = false := by decide) (hcd : (x == ("__classdict__" : Str)) = false := by decide)
    (hbase : attributeBase (.Name x p2) "extend" X.env (eval (.Name x p2) X.env) = eval (.Name x p2) X.env := by rfl)
    (hfew : ((backTo cpos (starEach [e] X.env)).all (fun x => !x.1) && (backToKw cpos (keywordEach [] X.env)).all (fun x => x.1.isSome)
      && decide (([e] : List Expr).length + ([] : List Keyword).length + (if ([] : List Keyword).isEmpty then 0 else 1) < 30)) = true := by rfl)
    (hline : (apos.endLine == cpos.line) = true := by rfl) (hs : starEach [e] X.env = (false, eval e X.env) :: starEach [] X.env := by rfl) (hplain : (backTo cpos (starEach [] X.env)).any (·.1) = false := by rfl)
    (hsw : swapsWith (.Call (.Attribute (.Name x p2) "extend" apos) [e] [] cpos) none pos.line X.env = pure false := by rfl) :
    ES X W (.Expr (.Call (.Attribute (.Name x p2) "extend" apos) [e] [] cpos) pos) (tDrop (tBM X.K "list" rExtend (tVar i) (tCons te tNil))) (gExt i f) where
  ps := ps_expr (pe_bm PySem.F.plainAttrs_list PySem.F.slot_list_extend PySem.F.type_list_extend mt_extend (pe_var hN hv hd hcd) (pa_cons he.pe pa_nil hs) hbase hfew hline hs hplain) hsw
  sound := fun {G H0 ρ σ F H} rel D P => by
    unfold gExt at P
    split at P
    · rename_i xs h
      obtain ⟨v, hv, p, vs, rfl, hp, hF, r⟩ := rel.at_ i _ h
      refine ⟨_, hv, .inl ⟨rfl, vs, SqL.of hp⟩, he.sound rel _ (postS_data rel P fun d v F1 H1 e1 q1 P1 => ?_)⟩
      cases q1 with
      | @lst b ys ds hb w =>
        dsimp only at P1
        split at P1
        · rename_i hl
          have hp1 := e1.hh _ _ hp
          refine ⟨p, b, vs, ys, rfl, rfl, hp1, e1.sub _ _ hb, by rw [r.len, w.len]; exact Nat.le_trans hl lim_le, P1 _ _ _ ((rel.step e1).mut h rfl hv (e1.own hp hF) ⟨p, _, rfl, upd_same, e1.own hp hF, (DDs.mono e1.ff _ _ r).app w⟩ rfl)⟩
        · exact P1.elim
      | _ => exact P1.elim
    · exact P.elim
end

/-! ### a def by its body -/
def retOf : RO → Rs R
  | .nx _ => .ok (.val .none)
  | .ret r => .ok r
  | .exc c _ => .err c
  | .bad => .bad
  | .retk r _ => .ok r
@[simp] theorem retOf_retk (r : R) (ρ : Ev) : retOf (.retk r ρ) = .ok r := rfl
@[simp] theorem retOf_nx (ρ : Ev) : retOf (.nx ρ) = .ok (.val .none) := rfl
@[simp] theorem retOf_ret (r : R) : retOf (.ret r) = .ok r := rfl
@[simp] theorem retOf_exc (c : Str) (ρ : Ev) : retOf (.exc c ρ) = .err c := rfl
@[simp] theorem retOf_bad : retOf .bad = .bad := rfl
/-- n slots in all -/
def startE (n : Nat) (rs : List R) : Ev := rs.map some ++ List.replicate (n - rs.length) none
def denB (n : Nat) (g : Ev → RO) (rs : List R) : Rs R := retOf (g (startE n rs))
theorem Args.get {K : PySem.W.Frag} {F H : Hp} : ∀ {vs : List V} {rs : List R} {i : Nat} {r : R}, Args K F H vs rs → rs[i]? = some r → ∃ v, vs[i]? = some v ∧ Rep K F H v r ∧ r.isOwn = false
  | _, _, _, _, .nil, e => by simp at e
  | _, _, 0, _, .cons r t, e => by simp at e; subst e; exact ⟨_, rfl, r⟩
  | _, _, i + 1, r, .cons _ t, e => by
    obtain ⟨v, h1, h2⟩ := Args.get (i := i) (r := r) t (by simpa using e)
    exact ⟨v, by simpa using h1, h2⟩
theorem startE_get {n i : Nat} {rs : List R} {r : R} (h : (startE n rs)[i]? = some (some r)) : rs[i]? = some r := by
  unfold startE at h
  by_cases hi : i < rs.length
  · rw [List.getElem?_append_left (by simpa using hi), List.getElem?_map] at h
    cases q : rs[i]? with
    | none => rw [q] at h; cases h
    | some y => rw [q] at h; simp at h; rw [h]
  · rw [List.getElem?_append_right (by simpa using hi), List.getElem?_replicate] at h
    split at h <;> simp at h
theorem rel_start {K : PySem.W.Frag} {F H : Hp} {N : List Str} {vs : List V} {rs : List R} (s : Same F H) (h : Args K F H vs rs) : Rel K F H (startE N.length rs) (L2.start N vs) F H where
  base := Base.refl s
  len := by simp [startE, L2.start, h.len]
  at_ := fun i r e => by
    have e := startE_get e
    obtain ⟨v, a, b, _⟩ := h.get e
    refine ⟨v, ?_, b⟩
    unfold L2.start
    have hi : i < vs.length := by
      rcases Nat.lt_or_ge i vs.length with z | z
      · exact z
      · rw [List.getElem?_eq_none z] at a; cases a
    rw [List.getElem?_append_left (by simpa using hi), List.getElem?_map, a]
    rfl
  frs := fun i r w p e _ o => by
    obtain ⟨v, a, b, c⟩ := h.get (startE_get e)
    rw [o.own] at c; cases c
  apart := fun i j r r' w w' p e _ _ _ o _ => by
    obtain ⟨v, a, b, c⟩ := h.get (startE_get e)
    rw [o.own] at c; cases c
section
variable {P : Program} {w : World} {K : PySem.W.Frag} {mg : Str → Option Value} {base : Heap}
theorem fn_den {x qual : Str} {st : Stmt} {f : Addr} {fd : FuncData} {N ps : List Str} {k n : Nat} {g : Ev → RO} (Fu : Fun K x qual st f fd) (S : FnScope N ps (defScope st)) (hn : ps.length = n)
    (hb : ∀ (cdv : Value) (A : Around) (outer : List Env) (s : Shared) (H : Hp) (E : XK), Room k (A.deeper (envOfC qual (defScope st) s.heap.objs.size f cdv)) →
      Takes (cxOf (L2.CX P w) P w K mg base N qual (defScope st) f cdv A outer s H E) (fun cls d _ H => E cls d H) →
      PassesOwn (model P w) (cxOf (L2.CX P w) P w K mg base N qual (defScope st) f cdv A outer s H E).A (cxOf (L2.CX P w) P w K mg base N qual (defScope st) f cdv A outer s H E).env (cxOf (L2.CX P w) P w K mg base N qual (defScope st) f cdv A outer s H E).xe →
      ∃ t, EB (cxOf (L2.CX P w) P w K mg base N qual (defScope st) f cdv A outer s H E) (fun cls d _ H => E cls d H) (defBody st) t g) :
    FnOk P w K mg base (L2.CX P w) (k + 1) f fd ps (spD K mg n (denB N.length g)) := by
  refine Fu.okX S (fun vs H Q E h => by rw [hn]; exact h.1) (fun cdv A outer s H vs Q E hr h => ?_)
  obtain ⟨hl, rs, F, sF, ha, hden⟩ := h
  obtain ⟨t, B⟩ := hb cdv A outer s H E hr (takes_of rfl rfl rfl rfl) (passes_of rfl)
  refine ⟨t, B.ps, B.sound (rel_start sF ha) _ ?_⟩
  unfold denB at hden
  cases hg : g (startE N.length rs) with
  | nx ρ =>
    rw [hg] at hden
    exact fun σ' F' H' r => hden .non F' H' (Base.ext sF r.base) (.val .non)
  | ret r =>
    rw [hg] at hden
    exact fun v F' H' e q => hden v F' H' (Base.ext sF e) q
  | exc c ρ =>
    rw [hg] at hden
    exact fun C σ' F' H' m r => hden C H' m r.base.hh
  | bad => rw [hg] at hden; exact hden.elim
  | retk r ρ =>
    rw [hg] at hden
    exact fun v σ' F' H' e q _ => hden v F' H' (Base.ext sF e.base) q
end
end DN
/-! Den9: short forms for the generator. -/
namespace DN
open PySem PySem.Spec PyProof.Rows L2
theorem hu65_of {A : Around} {k : Nat} (hr : Room k A) : A.units + 65 < cLine := by
  have := hr.un
  omega
section
variable {X : Cx} {W : WX} {a b c e e2 tg : Expr} {es : List Expr} {ta tb tc te te2 : TE} {fa fb fc f f2 : Ev → Rs R} {pos p tpos : Pos} {mg : Str → Option Value}
/-- a test by a rule of its own over a value's reading -/
theorem et_of (hp : PT X e (tTest te)) (h : EE X W e te f) : ET X W e (tTest te) (fTest f) where
  pt := hp
  sound := fun rel Q P => h.sound rel _ (postB_data P fun d v F1 H1 e1 r1 P1 => by
    cases r1 <;> first
      | exact ⟨_, rfl, P1 _ _ (Ext.refl e1.sub)⟩
      | exact P1.elim)
theorem et_cmp {o : CmpOp} {r : R2} {op : PyData → PyData → Rs R} (ho : OpR X (compareOp o) r) (hd : OpD X.K X.mg W r op) (ha : EE X W a ta fa) (hb : EE X W b tb fb) (hm : behindInMarks o b = false) : ET X W (.Compare a [o] [b] pos) (tTest (tOp r ta tb)) (fTest (fOp op fa fb)) :=
  et_of (pt_cmpR ho ha.pe hb.pe hm) (ee_cmp ho hd ha hb hm)
theorem et_chain {o o' : CmpOp} {r r' : R2} {op op' : PyData → PyData → Rs R} (ho : OpR X (compareOp o) r) (ho' : OpR X (compareOp o') r') (hd : OpD X.K X.mg W r op) (hd' : OpD X.K X.mg W r' op') (ha : EE X W a ta fa) (hb : EE X W b tb fb) (hc : EE X W c tc fc)
    (hm : lastMarks [o, o'] [b, c] = false := by with_unfolding_all rfl) : ET X W (.Compare a [o, o'] [b, c] pos) (tTest (tChain r r' ta tb tc)) (fTest (fChain op op' fa fb fc)) :=
  et_of (pt_chain ho ho' ha.pe hb.pe hc.pe hm) (ee_chain ho ho' hd hd' ha hb hc hm)
/-! ### the same with the written part named: no context in the reading (for a comprehension's block) -/
variable (K : PySem.W.Frag)
theorem ek_add (ha : EE X W a ta fa) (hb : EE X W b tb fb) (hK : X.K = K := by rfl) : EE X W (.BinOp a .Add b pos) (tOp (rAddA K) ta tb) (fOp opAdd fa fb) := by
  subst hK; exact ee_op op_addA od_add ha hb
theorem ek_eq (hu : X.A.units + 64 < cLine) (ha : EE X W a ta fa) (hb : EE X W b tb fb) (hK : X.K = K := by rfl) : EE X W (.Compare a [.Eq] [b] pos) (tOp (rEqD K) ta tb) (fOp opEq fa fb) := by
  subst hK; exact ee_cmp (op_eqD hu) od_eq ha hb (nomark _)
theorem ek_ne (hu : X.A.units + 64 < cLine) (ha : EE X W a ta fa) (hb : EE X W b tb fb) (hK : X.K = K := by rfl) : EE X W (.Compare a [.NotEq] [b] pos) (tOp (rNeD K) ta tb) (fOp opNe fa fb) := by
  subst hK; exact ee_cmp (op_neD hu) od_ne ha hb (nomark _)
theorem ek_in (hu : X.A.units + 65 < cLine) (ha : EE X W a ta fa) (hb : EE X W b tb fb) (hm : behindInMarks .In b = false := by rfl) (hK : X.K = K := by rfl) : EE X W (.Compare a [.In] [b] pos) (tOp (rInA K) ta tb) (fOp opIn fa fb) := by
  subst hK; exact ee_cmp (op_inA hu) od_in ha hb hm
theorem ek_notIn (hu : X.A.units + 65 < cLine) (ha : EE X W a ta fa) (hb : EE X W b tb fb) (hm : behindInMarks .NotIn b = false := by rfl) (hK : X.K = K := by rfl) : EE X W (.Compare a [.NotIn] [b] pos) (tOp (rNotInA K) ta tb) (fOp opNotIn fa fb) := by
  subst hK; exact ee_cmp (op_notInA hu) od_notIn ha hb hm
theorem tk_eq (hu : X.A.units + 64 < cLine) (ha : EE X W a ta fa) (hb : EE X W b tb fb) (hK : X.K = K := by rfl) : ET X W (.Compare a [.Eq] [b] pos) (tTest (tOp (rEqD K) ta tb)) (fTest (fOp opEq fa fb)) := by
  subst hK; exact et_cmp (op_eqD hu) od_eq ha hb (nomark _)
theorem tk_ne (hu : X.A.units + 64 < cLine) (ha : EE X W a ta fa) (hb : EE X W b tb fb) (hK : X.K = K := by rfl) : ET X W (.Compare a [.NotEq] [b] pos) (tTest (tOp (rNeD K) ta tb)) (fTest (fOp opNe fa fb)) := by
  subst hK; exact et_cmp (op_neD hu) od_ne ha hb (nomark _)
theorem tk_in (hu : X.A.units + 65 < cLine) (ha : EE X W a ta fa) (hb : EE X W b tb fb) (hm : behindInMarks .In b = false := by rfl) (hK : X.K = K := by rfl) : ET X W (.Compare a [.In] [b] pos) (tTest (tOp (rInA K) ta tb)) (fTest (fOp opIn fa fb)) := by
  subst hK; exact et_cmp (op_inA hu) od_in ha hb hm
theorem tk_notIn (hu : X.A.units + 65 < cLine) (ha : EE X W a ta fa) (hb : EE X W b tb fb) (hm : behindInMarks .NotIn b = false := by rfl) (hK : X.K = K := by rfl) : ET X W (.Compare a [.NotIn] [b] pos) (tTest (tOp (rNotInA K) ta tb)) (fTest (fOp opNotIn fa fb)) := by
  subst hK; exact et_cmp (op_notInA hu) od_notIn ha hb hm
theorem ek_ix (ha : EE X W a ta fa) (hb : EE X W b tb fb) (hs : PlainIx b := by exact fun _ _ => rfl) (hK : X.K = K := by rfl) : EE X W (.Subscript a b pos) (tOp (rIx K) ta tb) (fOp opIx fa fb) := by
  subst hK; exact ee_ix ha hb hs
theorem ek_sl {lo hi : Option Expr} {tl th : TO} {fl fh : Ev → Rs (Option Int)} {p2 : Pos} (he : EE X W e te f) (hl : EO X W lo tl fl) (hh : EO X W hi th fh) (hK : X.K = K := by rfl) : EE X W (.Subscript e (.Slice lo hi none p2) pos) (tSl (rSlAll K) te tl th) (fSl f fl fh) := by
  subst hK; exact ee_sl he hl hh
theorem ek_isi {T : Str} {n : String} {p2 : Pos} (he : EE X W e te f) (hm : X.mg "isinstance" = none) (hT : X.mg T = none) (hb : bootBuiltins T = some (.type n)) (hg : Gl X "isinstance" := by rfl) (hgT : Gl X T := by rfl) (hn : T ≠ "__name__" := by decide) (hd : (T == ("__debug__" : Str)) = false := by decide)
    (hs1 : starEach [e, .Name T p2] X.env = (false, eval e X.env) :: starEach [.Name T p2] X.env := by rfl) (hs2 : starEach [.Name T p2] X.env = (false, eval (.Name T p2) X.env) :: starEach [] X.env := by rfl) (hpl : (backTo pos (starEach [.Name T p2] X.env)).any (·.1) = false := by rfl) (hK : X.K = K := by rfl) :
    EE X W (.Call (.Name "isinstance" p) [e, .Name T p2] [] pos) (tCB (rIsi K) (tCons te (tCons (tC (.ty n)) tNil))) (fUn (isiD n) f) := by
  subst hK; exact ee_isi he hm hT hb hg hgT hn hd hs1 hs2 hpl
theorem ek_call {k n : Nat} {fn : Addr} {fd : FuncData} {ps : List Str} {den : List R → Rs R} {x : Str} {t : TA} {fr : Ev → Rs (List R)} (Fn : FnOk X.prog X.w K mg X.base (L2.CX X.prog X.w) k fn fd ps (spD K mg n den)) (hr : Room k X.A) (hm : mg x = some (.ref fn))
    (hk : PySem.W.keepIn K (.ref fn) = true) (hb : Binds K fd ps []) (tk : Takes X W) (ha : EA X W (e :: es) t fr) (hn : (e :: es).length = n := by rfl) (hg : Gl X x := by rfl)
    (hdb : (x == ("__debug__" : Str)) = false := by decide) (he : starEach (e :: es) X.env = (false, eval e X.env) :: starEach es X.env := by rfl) (hpl : (backTo pos (starEach es X.env)).any (·.1) = false := by rfl) (hK : X.K = K := by rfl) (hmg : X.mg = mg := by rfl) :
    EE X W (.Call (.Name x p) (e :: es) [] pos) (tCallS (spD K mg n den) (WE W) t) (fCall den fr) := by
  subst hK hmg; exact ee_call Fn hr hm hk hb tk ha hn hg hdb he hpl
section
variable {x : Str} {t : TA} {fr : Ev → Rs (List PyData)}
theorem ek_len (hm : X.mg "len" = none) (ha : ED X W (e :: es) t fr) (hg : Gl X "len" := by rfl)
    (he : starEach (e :: es) X.env = (false, eval e X.env) :: starEach es X.env := by rfl) (hpl : (backTo pos (starEach es X.env)).any (·.1) = false := by rfl) (hK : X.K = K := by rfl) :
    EE X W (.Call (.Name "len" p) (e :: es) [] pos) (tCB (fun xs H Q => ∃ x n, xs = [x] ∧ LenV K x H n ∧ Q (.int n) H) t) (fBi biLen fr) := by
  subst hK; exact ee_callB call_len bd_len hm PySem.boot_len ha hg (by decide) (by decide) he hpl
theorem ek_all (hm : X.mg "all" = none) (ha : ED X W (e :: es) t fr) (hg : Gl X "all" := by rfl) (hc : X.calm = true := by rfl)
    (he : starEach (e :: es) X.env = (false, eval e X.env) :: starEach es X.env := by rfl) (hpl : (backTo pos (starEach es X.env)).any (·.1) = false := by rfl) (hK : X.K = K := by rfl) :
    EE X W (.Call (.Name "all" p) (e :: es) [] pos) (tCB (rAll K) t) (fBi biAll fr) := by
  subst hK; exact ee_callB (cr_all hc) bd_all hm (by decide +kernel) ha hg (by decide) (by decide) he hpl
theorem ek_any (hm : X.mg "any" = none) (ha : ED X W (e :: es) t fr) (hg : Gl X "any" := by rfl) (hc : X.calm = true := by rfl)
    (he : starEach (e :: es) X.env = (false, eval e X.env) :: starEach es X.env := by rfl) (hpl : (backTo pos (starEach es X.env)).any (·.1) = false := by rfl) (hK : X.K = K := by rfl) :
    EE X W (.Call (.Name "any" p) (e :: es) [] pos) (tCB (rAny K) t) (fBi biAny fr) := by
  subst hK; exact ee_callB (cr_any hc) bd_any hm (by decide +kernel) ha hg (by decide) (by decide) he hpl
theorem ek_list (hm : X.mg "list" = none) (ha : ED X W (e :: es) t fr) (hg : Gl X "list" := by rfl)
    (he : starEach (e :: es) X.env = (false, eval e X.env) :: starEach es X.env := by rfl) (hpl : (backTo pos (starEach es X.env)).any (·.1) = false := by rfl) (hK : X.K = K := by rfl) :
    EE X W (.Call (.Name "list" p) (e :: es) [] pos) (tCB (fun xs H Q => ∃ p ys, xs = [.ref p] ∧ (SqL K H p ys ∨ SqT K H p ys) ∧ ∀ l, H l = none → Q (.ref l) (upd H l (.lst ys))) t) (fBi biList fr) := by
  subst hK; exact ee_callTy call_list_of bd_list hm (by decide +kernel) ha hg (by decide) (by decide) he hpl
theorem ek_tuple (hm : X.mg "tuple" = none) (ha : ED X W (e :: es) t fr) (hg : Gl X "tuple" := by rfl)
    (he : starEach (e :: es) X.env = (false, eval e X.env) :: starEach es X.env := by rfl) (hpl : (backTo pos (starEach es X.env)).any (·.1) = false := by rfl) (hK : X.K = K := by rfl) :
    EE X W (.Call (.Name "tuple" p) (e :: es) [] pos) (tCB (fun xs H Q => ∃ p ys, xs = [.ref p] ∧ ((SqL K H p ys ∧ ∀ l, H l = none → Q (.ref l) (upd H l (.tup ys))) ∨ (SqT K H p ys ∧ Q (.ref p) H))) t) (fBi biTuple fr) := by
  subst hK; exact ee_callTy call_tuple_of bd_tuple hm (by decide +kernel) ha hg (by decide) (by decide) he hpl
end
theorem ik_seq (h : EE X W e te f) (hK : X.K = K := by rfl) : EI X W tg e (fun σ H R => iList K te σ H R ∨ iTup K te σ H R) (fSeq f) := by
  subst hK; exact ei_seq h
theorem ik_enum {elts : List Expr} {kk : Nat} (h : EE X W e te f) (hm : X.mg "enumerate" = none) (hg : Gl X "enumerate" := by rfl) (hs : starEach [e] X.env = [(false, eval e X.env)] := by rfl) (hK : X.K = K := by rfl) :
    EI X W (.Tuple elts kk tpos) (.Call (.Name "enumerate" p) [e] [] pos) (iEnumK K (tCons te tNil)) (fEnum f) := by
  subst hK; exact ei_enum h hm hg hs
theorem ik_zip {elts : List Expr} {kk : Nat} (h : EE X W e te f) (h2 : EE X W e2 te2 f2) (hm : X.mg "zip" = none) (hg : Gl X "zip" := by rfl) (hs : starEach [e, e2] X.env = (false, eval e X.env) :: starEach [e2] X.env := by rfl) (hs2 : starEach [e2] X.env = (false, eval e2 X.env) :: starEach [] X.env := by rfl)
    (hpl : (backTo pos (starEach [e2] X.env)).any (·.1) = false := by rfl) (hK : X.K = K := by rfl) :
    EI X W (.Tuple elts kk tpos) (.Call (.Name "zip" p) [e, e2] [] pos) (iZipK K (tCons te (tCons te2 tNil))) (fZip f f2) := by
  subst hK; exact ei_zip h h2 hm hg hs hs2 hpl
theorem gk_tup {k n : Nat} {gs : TGs} {is : List Nat} {ts : List PyData → Ev → Rs Ev} (h : EGs X es gs n is ts) (hc : X.calm = true := by rfl)
    (hn : (assignEach es X.env).length = n := by rfl) (hst : (assignEach es X.env).findIdx? (·.1) = none := by rfl) (hK : X.K = K := by rfl) : EG X (.Tuple es k pos) (gTup K n gs) is (tTupl ts) := by
  subst hK; exact eg_tup h hc hn hst
end
end DN
/-! Den10: the script, x = [..] on one line, calls without arguments, repetitions, sums. -/
namespace DN
open PySem PySem.Spec PyProof.Rows L2

section
variable {X : Cx} {W : WX} {a b c e e2 tg : Expr} {es : List Expr} {ta tb tc te te2 : TE} {fa fb fc f f2 : Ev → Rs R} {pos p tpos : Pos} {mg : Str → Option Value}
variable (K : PySem.W.Frag)
/-! ### the script -/
@[simp] def fSix (i : Nat) (fb : Ev → Rs R) : Ev → Rs R := fun ρ => match ρ[i]? with
  | some (some (.scr ns)) => (fb ρ).bind fun r => r.d.bind fun x => match x with
    | .int j => match atI ns j with
      | some n => .ok (.val (.int n))
      | none => .bad
    | _ => .bad
  | _ => .bad
theorem atI_map {α β : Type} (g : α → β) (xs : List α) (i : Int) : atI (xs.map g) i = (atI xs i).map g := by
  unfold atI
  rw [List.length_map]
  cases ixN xs.length i with
  | none => rfl
  | some j => simp
theorem ek_six (i : Nat) {x : Str} {p2 : Pos} (hb : EE X W b tb fb) (hN : X.N[i]? = some x := by rfl) (hv : Vis X.env.scope x := by first | exact Or.inl rfl | exact Or.inr (Or.inl rfl) | exact Or.inr (Or.inr rfl)) (hd : (x == ("__debug__" : Str)) = false := by decide)
    (hcd : (x == ("__classdict__" : Str)) = false := by decide) (hs : PlainIx b := by exact fun _ _ => rfl) (hK : X.K = K := by rfl) : EE X W (.Subscript (.Name x p2) b pos) (tOp (rIxL K) (tVar i) tb) (fSix i fb) := by
  subst hK
  refine ⟨pe_ix ix_list (pe_var hN hv hd hcd) hb.pe hs, fun {G H0 ρ σ F H} rel Q P => ?_⟩
  unfold fSix at P
  split at P
  · rename_i ns h
    obtain ⟨v, hv, a, rfl, q⟩ := rel.at_ i _ h
    refine ⟨_, hv, hb.sound rel _ (post_data P fun d v F1 H1 e1 r1 P1 => ?_)⟩
    cases r1 with
    | int j =>
      dsimp only at P1
      split at P1
      · rename_i n hn
        exact ⟨a, _, j, .int n, rfl, rfl, (rel.sub.trans e1.hh).seq q, by rw [atI_map, hn]; rfl, post_flat e1.sub (.int n) P1⟩
      · exact P1.elim
    | _ => exact P1.elim
  · exact P.elim
@[simp] def fSlen (i : Nat) : Ev → Rs R := fun ρ => match ρ[i]? with
  | some (some (.scr ns)) => .ok (.val (.int ns.length))
  | _ => .bad
theorem ek_slen (i : Nat) {x : Str} {p2 : Pos} (hm : X.mg "len" = none) (hN : X.N[i]? = some x := by rfl) (hv : Vis X.env.scope x := by first | exact Or.inl rfl | exact Or.inr (Or.inl rfl) | exact Or.inr (Or.inr rfl)) (hd : (x == ("__debug__" : Str)) = false := by decide)
    (hcd : (x == ("__classdict__" : Str)) = false := by decide) (hg : Gl X "len" := by rfl)
    (he : starEach [.Name x p2] X.env = (false, eval (.Name x p2) X.env) :: starEach [] X.env := by rfl) (hpl : (backTo pos (starEach [] X.env)).any (·.1) = false := by rfl) (hK : X.K = K := by rfl) :
    EE X W (.Call (.Name "len" p) [.Name x p2] [] pos) (tCB (fun xs H Q => ∃ x n, xs = [x] ∧ LenV K x H n ∧ Q (.int n) H) (tCons (tVar i) tNil)) (fSlen i) := by
  subst hK
  refine ⟨pe_callB call_len hg hm PySem.boot_len (pa_cons (pe_var hN hv hd hcd) pa_nil he) (by decide) (by decide) he hpl, fun {G H0 ρ σ F H} rel Q P => ?_⟩
  unfold fSlen at P
  split at P
  · rename_i ns h
    obtain ⟨v, hv, a, rfl, q⟩ := rel.at_ i _ h
    exact ⟨_, hv, _, _, rfl, .inl ⟨_, rel.sub.seq q, rfl⟩, by rw [List.length_map]; exact post_flat rel.sub (.int _) P⟩
  · exact P.elim
theorem shaped_ints (ns : List Int) : SeqAt.shaped (.list (ns.map .int)) = true := by
  have h1 : ∀ l : List Int, PyData.canLayAll0 (l.map .int) = true := fun l => by
    induction l with
    | nil => rfl
    | cons x r ih => simp [PyData.canLayAll0, PyData.canLay0, ih]
  have h2 : ∀ l : List Int, PyData.depthAll (l.map .int) = 0 := fun l => by
    induction l with
    | nil => rfl
    | cons x r ih => simp [PyData.depthAll, PyData.depth, ih]
  unfold SeqAt.shaped
  simp [PyData.canLay0, PyData.depth, h1, h2]
theorem dp_ints {H : Hp} {a : Addr} {ns : List Int} (h : SqL K H a (ns.map V.int)) : Dp K H (.ref a) (.list (ns.map .int)) := by
  refine .lst h ?_
  have : ∀ l : List Int, DpAll K H (l.map V.int) (l.map PyData.int) := fun l => by
    induction l with
    | nil => exact .nil
    | cons x r ih => exact .cons (.int x) ih
  exact this ns
@[simp] def fSne (i : Nat) : Ev → Rs Bool := fun ρ => match ρ[i]? with
  | some (some (.scr ns)) => .ok (!ns.isEmpty)
  | _ => .bad
theorem tk_sne (i : Nat) {x : Str} {p2 p3 : Pos} (hu : X.A.units + 64 < cLine) (hN : X.N[i]? = some x := by rfl) (hv : Vis X.env.scope x := by first | exact Or.inl rfl | exact Or.inr (Or.inl rfl) | exact Or.inr (Or.inr rfl)) (hd : (x == ("__debug__" : Str)) = false := by decide)
    (hcd : (x == ("__classdict__" : Str)) = false := by decide) (hK : X.K = K := by rfl) :
    ET X W (.Compare (.Name x p2) [.NotEq] [.List [] p3] pos) (tTest (tOp (rNeD K) (tVar i) (tLst tNil))) (fSne i) := by
  subst hK
  refine ⟨pt_cmpR (op_neD hu) (pe_var hN hv hd hcd) (pe_lst pa_nil) (nomark _), fun {G H0 ρ σ F H} rel Q P => ?_⟩
  unfold fSne at P
  split at P
  · rename_i ns h
    obtain ⟨v, hv, a, rfl, q⟩ := rel.at_ i _ h
    refine ⟨_, hv, Nat.zero_le _, fun l nl => ?_⟩
    refine ⟨_, _, dp_ints _ ((rel.sub.trans (same_new nl)).seq q), .lst (SqL.of upd_same) .nil, shaped_ints ns, by decide, _, rfl, ?_⟩
    have e : (!PyData.eqv (.list (ns.map .int)) (.list [])) = !ns.isEmpty := by
      cases ns with
      | nil => rfl
      | cons x r => rfl
    rw [e]
    exact P _ _ (Ext.addH rel.sub nl)
  · exact P.elim
/-! ### x = [..] on one line -/
theorem es_setLcF (i : Nat) {y : Str} {py : Pos} {elt tg iter : Expr} {ifs : List Expr} {scope : Scope} {own : List (Str × Nat)} {spos : Pos} {wi : TI} {g : TG} {tt : TT} {te : TE} {is : List Nat} {fi : Ev → Rs (List PyData)} {ft : PyData → Ev → Rs Ev} {fc : Ev → Rs Bool} {fe : Ev → Rs R}
    (hN : X.N.Nodup) (hi : EI X W tg iter wi fi) (ok : BlkOk X.N X.env.scope scope own)
    (hg : ∀ (s : Shared) (H : Hp) (C : Addr) (cl : List (Str × Addr)) (fp : List Addr), EG (X.blk s H scope (compEnvC scope cl C X.env) fp) tg g is ft)
    (ht : ∀ (s : Shared) (H : Hp) (C : Addr) (cl : List (Str × Addr)) (fp : List Addr), ETs (X.blk s H scope (compEnvC scope cl C X.env) fp) W0 ifs tt fc)
    (he : ∀ (s : Shared) (H : Hp) (C : Addr) (cl : List (Str × Addr)) (fp : List Addr), EE (X.blk s H scope (compEnvC scope cl C X.env) fp) W0 elt te fe)
    (hsub : ∀ i ∈ is, i ∈ own.map (·.2) := by decide) (hc : X.calm = true := by rfl) (hs : ∀ x, foldedSetIterable iter X.env x = pure x := by intro _; rfl)
    (hy : X.N[i]? = some y := by rfl) (hyl : X.env.scope.names.lookup y = some .local := by rfl) (hk : X.env.scope.kind = .function := by rfl) (hl : (py.line == pos.line) = true := by rfl)
    (ha : (scope.names.any fun (n, k) => n == y && (k == .local || k == .cell)) = false := by decide +kernel) :
    ES X W (.Assign [.Name y py] (.ListComp elt [⟨tg, iter, ifs, 0⟩] scope pos) spos) (tAsg (tLc wi g tt te (own.map (·.2))) (gName i)) (gAsgF i (fLc (own.map (·.2)) fi ft fc fe)) :=
  es_asgPF (ps_setLc hc hN hy hyl (sw_true hk hyl hl ha) hi.pi ok (fun s H C cl fp => (hg s H C cl fp).pg) (fun s H C cl fp => (ht s H C cl fp).pts) (fun s H C cl fp => (he s H C cl fp).pe) hs)
    (ee_lc (pos := pos) hN hi ok hg ht he hsub hc hs)
theorem es_setLc (i : Nat) {y : Str} {py : Pos} {elt tg iter : Expr} {ifs : List Expr} {scope : Scope} {own : List (Str × Nat)} {spos : Pos} {wi : TI} {g : TG} {tt : TT} {te : TE} {is : List Nat} {fi : Ev → Rs (List PyData)} {ft : PyData → Ev → Rs Ev} {fc : Ev → Rs Bool} {fe : Ev → Rs R}
    (hN : X.N.Nodup) (hi : EI X W tg iter wi fi) (ok : BlkOk X.N X.env.scope scope own)
    (hg : ∀ (s : Shared) (H : Hp) (C : Addr) (cl : List (Str × Addr)) (fp : List Addr), EG (X.blk s H scope (compEnvC scope cl C X.env) fp) tg g is ft)
    (ht : ∀ (s : Shared) (H : Hp) (C : Addr) (cl : List (Str × Addr)) (fp : List Addr), ETs (X.blk s H scope (compEnvC scope cl C X.env) fp) W0 ifs tt fc)
    (he : ∀ (s : Shared) (H : Hp) (C : Addr) (cl : List (Str × Addr)) (fp : List Addr), EE (X.blk s H scope (compEnvC scope cl C X.env) fp) W0 elt te fe)
    (hsub : ∀ i ∈ is, i ∈ own.map (·.2) := by decide) (hc : X.calm = true := by rfl) (hs : ∀ x, foldedSetIterable iter X.env x = pure x := by intro _; rfl)
    (hy : X.N[i]? = some y := by rfl) (hyl : X.env.scope.names.lookup y = some .local := by rfl) (hk : X.env.scope.kind = .function := by rfl) (hl : (py.line == pos.line) = true := by rfl)
    (ha : (scope.names.any fun (n, k) => n == y && (k == .local || k == .cell)) = false := by decide +kernel) :
    ES X W (.Assign [.Name y py] (.ListComp elt [⟨tg, iter, ifs, 0⟩] scope pos) spos) (tAsg (tLc wi g tt te (own.map (·.2))) (gName i)) (gAsg i (fLc (own.map (·.2)) fi ft fc fe)) :=
  es_asgP (ps_setLc hc hN hy hyl (sw_true hk hyl hl ha) hi.pi ok (fun s H C cl fp => (hg s H C cl fp).pg) (fun s H C cl fp => (ht s H C cl fp).pts) (fun s H C cl fp => (he s H C cl fp).pe) hs)
    (ee_lc (pos := pos) hN hi ok hg ht he hsub hc hs)
/-! ### f() -/
theorem ek_call0 {k : Nat} {fn : Addr} {fd : FuncData} {ps : List Str} {den : List R → Rs R} {x : Str} (Fn : FnOk X.prog X.w K mg X.base (L2.CX X.prog X.w) k fn fd ps (spD K mg 0 den)) (hr : Room k X.A) (hm : mg x = some (.ref fn))
    (hk : PySem.W.keepIn K (.ref fn) = true) (hb : Binds K fd ps []) (tk : Takes X W) (hW : ∀ c d σ σ' H, W c d σ H → W c d σ' H := by exact fun _ _ _ _ _ h => h) (hg : Gl X x := by rfl)
    (hdb : (x == ("__debug__" : Str)) = false := by decide) (hK : X.K = K := by rfl) (hmg : X.mg = mg := by rfl) :
    EE X W (.Call (.Name x p) [] [] pos) (tCall (spD K mg 0 den) [] (fun c d H => ∀ σ, W c d σ H) tNil) (fun _ => den []) := by
  subst hK hmg
  exact ee_call0 Fn hr hm hk hb _ (passes_call tk fun c d σ H h => h σ) (fun c d σ H h σ' => hW c d σ σ' H h) hg hdb
/-! ### repetitions -/
def opRepT : PyData → PyData → Rs R
  | .tuple xs, .int k => if xs ≠ [] ∧ 2 ≤ k ∧ k ≤ 1000 ∧ xs.length ≤ 1000 then .ok (.val (.tuple (List.replicate k.toNat xs).flatten)) else .bad
  | _, _ => .bad
theorem DDs.rep {F : Hp} {vs : List V} {ds : List PyData} (r : DDs F vs ds) : ∀ k : Nat, DDs F (List.replicate k vs).flatten (List.replicate k ds).flatten
  | 0 => .nil
  | k + 1 => by
    rw [List.replicate_succ, List.replicate_succ, List.flatten_cons, List.flatten_cons]
    exact r.app (DDs.rep r k)
theorem ek_repT (ha : EE X W a ta fa) (hb : EE X W b tb fb) (hK : X.K = K := by rfl) : EE X W (.BinOp a .Mult b pos) (tOp (rRepT K) ta tb) (fOp opRepT fa fb) := by
  subst hK
  refine ee_op op_repT (fun {σ F H Q v u x y} s a b P => ?_) ha hb
  unfold opRepT at P
  cases a with
  | @tup p xs ds h r =>
    cases b with
    | int k =>
      dsimp only at P
      split at P
      · rename_i hc
        refine ⟨_, k, xs, rfl, rfl, SqT.of (s _ _ h), fun z => hc.1 ?_, hc.2.1, hc.2.2.1, by rw [r.len]; exact hc.2.2.2, new_tup s (r.rep _) P⟩
        subst z
        cases r
        rfl
      · exact P.elim
    | _ => exact P.elim
  | _ => cases b <;> exact P.elim
def opRepL : PyData → PyData → Rs R
  | .list xs, .int k => if k.natAbs ≤ 1000000 ∧ xs.length * k.toNat ≤ lim then .ok (.own (List.replicate k.toNat xs).flatten) else .bad
  | _, _ => .bad
theorem ek_repL (ha : EE X W a ta fa) (hb : EE X W b tb fb) : EE X W (.BinOp a .Mult b pos) (tOp rRep ta tb) (fOp opRepL fa fb) := by
  refine ee_op op_rep (fun {σ F H Q v u x y} s a b P => ?_) ha hb
  unfold opRepL at P
  cases a with
  | @lst p xs ds h r =>
    cases b with
    | int k =>
      dsimp only at P
      split at P
      · rename_i hc
        exact ⟨_, k, xs, rfl, rfl, s _ _ h, by omega, by omega, by rw [r.len]; exact Nat.le_trans hc.2 lim_le, new_lst s (r.rep _) P⟩
      · exact P.elim
    | _ => exact P.elim
  | _ => cases b <;> exact P.elim
/-! ### sum, max, min of a list of ints -/
def asIs : List PyData → Option (List Int)
  | [] => some []
  | .int b :: r => (asIs r).map (b :: ·)
  | _ => none
theorem asIs_eq : ∀ {ds : List PyData} {bs : List Int}, asIs ds = some bs → ds = bs.map PyData.int
  | [], _, h => by simp [asIs] at h; subst h; rfl
  | d :: r, bs, h => by
    cases d <;> simp [asIs] at h
    obtain ⟨a, h1, rfl⟩ := h
    rw [asIs_eq h1]; rfl
@[simp] theorem asIs_map (bs : List Int) : asIs (bs.map PyData.int) = some bs := by
  induction bs with
  | nil => rfl
  | cons b r ih => simp [asIs, ih]
def biSum : List PyData → Rs R
  | [.list ds] => match asIs ds with
    | some bs => .ok (.val (.int bs.sum))
    | none => .bad
  | _ => .bad
def maxOf : List Int → Int
  | [] => 0
  | [x] => x
  | x :: r => max x (maxOf r)
def minOf : List Int → Int
  | [] => 0
  | [x] => x
  | x :: r => min x (minOf r)
theorem maxOf_spec : ∀ (ns : List Int), ns ≠ [] → maxOf ns ∈ ns ∧ ∀ y ∈ ns, y ≤ maxOf ns
  | [], h => absurd rfl h
  | [x], _ => by simp [maxOf]
  | x :: y :: r, _ => by
    have ih := maxOf_spec (y :: r) (by simp)
    show max x (maxOf (y :: r)) ∈ _ ∧ ∀ z ∈ _, z ≤ max x (maxOf (y :: r))
    refine ⟨?_, fun z hz => ?_⟩
    · rcases Int.le_total x (maxOf (y :: r)) with h | h
      · rw [Int.max_eq_right h]; exact List.mem_cons_of_mem _ ih.1
      · rw [Int.max_eq_left h]; exact List.mem_cons_self
    · rcases List.mem_cons.mp hz with rfl | h
      · exact Int.le_max_left _ _
      · exact Int.le_trans (ih.2 z h) (Int.le_max_right _ _)
theorem minOf_spec : ∀ (ns : List Int), ns ≠ [] → minOf ns ∈ ns ∧ ∀ y ∈ ns, minOf ns ≤ y
  | [], h => absurd rfl h
  | [x], _ => by simp [minOf]
  | x :: y :: r, _ => by
    have ih := minOf_spec (y :: r) (by simp)
    show min x (minOf (y :: r)) ∈ _ ∧ ∀ z ∈ _, min x (minOf (y :: r)) ≤ z
    refine ⟨?_, fun z hz => ?_⟩
    · rcases Int.le_total x (minOf (y :: r)) with h | h
      · rw [Int.min_eq_left h]; exact List.mem_cons_self
      · rw [Int.min_eq_right h]; exact List.mem_cons_of_mem _ ih.1
    · rcases List.mem_cons.mp hz with rfl | h
      · exact Int.min_le_left _ _
      · exact Int.le_trans (Int.min_le_right _ _) (ih.2 z h)
def biMax : List PyData → Rs R
  | [.list ds] => match asIs ds with
    | some bs => if bs = [] then .bad else .ok (.val (.int (maxOf bs)))
    | none => .bad
  | _ => .bad
def biMin : List PyData → Rs R
  | [.list ds] => match asIs ds with
    | some bs => if bs = [] then .bad else .ok (.val (.int (minOf bs)))
    | none => .bad
  | _ => .bad
theorem bd_sum : BiD X.K X.mg W (rSum X.K) biSum := fun {σ F H Q vs ds} s r P => by
  match ds, r with
  | [], .nil => exact P.elim
  | [_], .cons h .nil =>
    unfold biSum at P
    cases h with
    | @lst p xs ds h r =>
      dsimp only at P
      split at P
      · rename_i bs hb
        have e := asIs_eq hb
        subst e
        have e2 := r.ofInts
        subst e2
        exact ⟨_, bs, rfl, SqL.of (s _ _ h), post_flat s (.int _) P⟩
      · exact P.elim
    | _ => exact P.elim
  | _ :: _ :: _, .cons h (.cons _ _) => cases h <;> exact P.elim
theorem bd_max : BiD X.K X.mg W (rMax X.K) biMax := fun {σ F H Q vs ds} s r P => by
  match ds, r with
  | [], .nil => exact P.elim
  | [_], .cons h .nil =>
    unfold biMax at P
    cases h with
    | @lst p xs ds h r =>
      dsimp only at P
      split at P
      · rename_i bs hb
        split at P
        · exact P.elim
        · rename_i hne
          have e := asIs_eq hb
          subst e
          have e2 := r.ofInts
          subst e2
          refine ⟨_, bs, rfl, SqL.of (s _ _ h), List.length_pos_iff.mpr hne, fun m hm hy => ?_⟩
          have sp := maxOf_spec bs hne
          have : m = maxOf bs := Int.le_antisymm (sp.2 m hm) (hy _ sp.1)
          subst this
          exact post_flat s (.int _) P
      · exact P.elim
    | _ => exact P.elim
  | _ :: _ :: _, .cons h (.cons _ _) => cases h <;> exact P.elim
theorem bd_min : BiD X.K X.mg W (rMin X.K) biMin := fun {σ F H Q vs ds} s r P => by
  match ds, r with
  | [], .nil => exact P.elim
  | [_], .cons h .nil =>
    unfold biMin at P
    cases h with
    | @lst p xs ds h r =>
      dsimp only at P
      split at P
      · rename_i bs hb
        split at P
        · exact P.elim
        · rename_i hne
          have e := asIs_eq hb
          subst e
          have e2 := r.ofInts
          subst e2
          refine ⟨_, bs, rfl, SqL.of (s _ _ h), List.length_pos_iff.mpr hne, fun m hm hy => ?_⟩
          have sp := minOf_spec bs hne
          have : m = minOf bs := Int.le_antisymm (hy _ sp.1) (sp.2 m hm)
          subst this
          exact post_flat s (.int _) P
      · exact P.elim
    | _ => exact P.elim
  | _ :: _ :: _, .cons h (.cons _ _) => cases h <;> exact P.elim
section
variable {t : TA} {fr : Ev → Rs (List PyData)}
theorem ek_sum (hm : X.mg "sum" = none) (ha : ED X W (e :: es) t fr) (hg : Gl X "sum" := by rfl) (hc : X.calm = true := by rfl)
    (he : starEach (e :: es) X.env = (false, eval e X.env) :: starEach es X.env := by rfl) (hpl : (backTo pos (starEach es X.env)).any (·.1) = false := by rfl) (hK : X.K = K := by rfl) :
    EE X W (.Call (.Name "sum" p) (e :: es) [] pos) (tCB (rSum K) t) (fBi biSum fr) := by
  subst hK; exact ee_callB (cr_sum hc) bd_sum hm (by decide +kernel) ha hg (by decide) (by decide) he hpl
theorem ek_max (hm : X.mg "max" = none) (ha : ED X W (e :: es) t fr) (hg : Gl X "max" := by rfl) (hc : X.calm = true := by rfl)
    (he : starEach (e :: es) X.env = (false, eval e X.env) :: starEach es X.env := by rfl) (hpl : (backTo pos (starEach es X.env)).any (·.1) = false := by rfl) (hK : X.K = K := by rfl) :
    EE X W (.Call (.Name "max" p) (e :: es) [] pos) (tCB (rMax K) t) (fBi biMax fr) := by
  subst hK; exact ee_callB (cr_max hc) bd_max hm (by decide +kernel) ha hg (by decide) (by decide) he hpl
theorem ek_min (hm : X.mg "min" = none) (ha : ED X W (e :: es) t fr) (hg : Gl X "min" := by rfl) (hc : X.calm = true := by rfl)
    (he : starEach (e :: es) X.env = (false, eval e X.env) :: starEach es X.env := by rfl) (hpl : (backTo pos (starEach es X.env)).any (·.1) = false := by rfl) (hK : X.K = K := by rfl) :
    EE X W (.Call (.Name "min" p) (e :: es) [] pos) (tCB (rMin K) t) (fBi biMin fr) := by
  subst hK; exact ee_callB (cr_min hc) bd_min hm (by decide +kernel) ha hg (by decide) (by decide) he hpl
end
/-- a statement that the proof never comes to -/
theorem es_never {st : Stmt} : ES X W st tNever (fun _ => .bad) := ⟨ps_never, fun rel D P => P⟩
end
end DN
/-! Den11: comprehensions with two clauses. -/
namespace DN
open PySem PySem.Spec PyProof.Rows L2
/-- the heap turned at one place D that no slot holds -/
theorem Rel.turn {K : PySem.W.Frag} {G H0 F H F' H' : Hp} {ρ : Ev} {σ : L2.St} (r : Rel K G H0 ρ σ F H) (D : Addr) (ff : Same F F') (hh : ∀ b o, b ≠ D → H b = some o → H' b = some o) (h0 : H0 D = none) (sub : Same F' H') (new : ∀ a, F' a ≠ none → F a ≠ none ∨ Okn H a)
    (no : ∀ (i : Nat) (x : R) (v : V), ρ[i]? = some (some x) → σ[i]? = some (some v) → ¬ Cell H v x D) : Rel K G H0 ρ σ F' H' := by
  have fr : ∀ {p : Addr} {o : HO}, H p = some o → F p = none → (∀ xs, o ≠ .tup xs) → F' p = none := fun {p o} hp n ho => by
    cases q : F' p with
    | none => rfl
    | some y =>
      rcases new p (by rw [q]; exact fun z => nomatch z) with h | h
      · exact absurd n h
      · obtain ⟨xs, z⟩ := h _ hp
        exact absurd z (ho xs)
  have mv : ∀ {i : Nat} {x : R} {v : V}, ρ[i]? = some (some x) → σ[i]? = some (some v) → Rep K F H v x → Rep K F' H' v x ∧ ∀ q, Cell H' v x q → Cell H v x q := fun {i x v} h a b => by
    have nc := no i x v h a
    cases x with
    | val d => exact ⟨DD.mono ff _ _ b, fun _ z => z⟩
    | own xs =>
      obtain ⟨p, vs, rfl, c, d, e⟩ := b
      exact ⟨⟨p, vs, rfl, hh _ _ (fun z => nc (by subst z; exact rfl)) c, fr c d (by intro _ z; cases z), DDs.mono ff _ _ e⟩, fun _ z => z⟩
    | dct xs =>
      obtain ⟨p, vs, rfl, c, d, e⟩ := b
      exact ⟨⟨p, vs, rfl, hh _ _ (fun z => nc (by subst z; exact rfl)) c, fr c d (by intro _ z; cases z), KD.mono ff e⟩, fun _ z => z⟩
    | dck xs =>
      obtain ⟨p, vs, rfl, c, d, e⟩ := b
      exact ⟨⟨p, vs, rfl, hh _ _ (fun z => nc (by subst z; exact rfl)) c, fr c d (by intro _ z; cases z), KD.mono ff e⟩, fun _ z => z⟩
    | scr ns =>
      obtain ⟨a', rfl, h'⟩ := b
      exact ⟨⟨a', rfl, same_l ff h'⟩, fun _ z => z⟩
    | raw u => exact ⟨b, fun _ z => z⟩
    | dfz _ => obtain ⟨q, o, us, rfl, b1, b2⟩ := b; exact ⟨⟨q, o, us, rfl, ff _ _ b1, KD.mono ff b2⟩, fun _ z => z⟩
    | vie c n d =>
      obtain ⟨tc, a', dx, l1, l2, v1, v2, rfl, h1, h2, h3⟩ := b
      exact ⟨⟨tc, a', dx, l1, l2, v1, v2, rfl, ff _ _ h1, DD.mono ff _ _ h2, DD.mono ff _ _ h3⟩, fun _ z => z⟩
    | obj id c o =>
      obtain ⟨a', dx, l1, l2, rfl, hi, ⟨v1, v2, us1, us2, h1, h2, h3, h4, h5, h6, h7, h8, h9⟩, f1, f2, f3, f4⟩ := b
      have ne : ∀ q, q = a' ∨ q = dx ∨ q = l1 ∨ q = l2 → q ≠ D := fun q hq z => nc ⟨a', dx, v1, v2, l1, l2, rfl, h1, z ▸ hq⟩
      refine ⟨⟨a', dx, l1, l2, rfl, hi, ⟨v1, v2, us1, us2, hh _ _ (ne _ (.inl rfl)) h1, hh _ _ (ne _ (.inr (.inl rfl))) h2, hh _ _ (ne _ (.inr (.inr (.inl rfl)))) h3, hh _ _ (ne _ (.inr (.inr (.inr rfl)))) h4, h5, DD.mono ff _ _ h6, DD.mono ff _ _ h7, DDs.mono ff _ _ h8, DDs.mono ff _ _ h9⟩,
        fr h1 f1 (by intro _ z; cases z), fr h2 f2 (by intro _ z; cases z), fr h3 f3 (by intro _ z; cases z), fr h4 f4 (by intro _ z; cases z)⟩, fun q z => ?_⟩
      obtain ⟨a2, dx', w1, w2, m1, m2, e', g, hq⟩ := z
      cases e'
      rw [hh _ _ (ne _ (.inl rfl)) h1] at g
      cases g
      exact ⟨a', dx, v1, v2, l1, l2, rfl, h1, hq⟩
  refine ⟨⟨r.base.keep.trans ff, fun b o e => hh b o (ne_of_none e h0) (r.base.hh _ _ e), sub, fun x q => ?_⟩, r.len, fun i x h => ?_, fun i x v q h s c => ?_, fun i j x y v w q h1 h2 s1 s2 c1 c2 => ?_⟩
  · rcases new x q with h | h
    · exact r.base.new x h
    · exact .inr (h.back r.base.hh)
  · obtain ⟨v, a, b⟩ := r.at_ i x h
    exact ⟨v, a, (mv h a b).1⟩
  · obtain ⟨v', a, b⟩ := r.at_ i x h
    rw [s] at a
    cases a
    exact r.frs i x v q h s ((mv h s b).2 q c)
  · obtain ⟨v', a, b⟩ := r.at_ i x h1
    rw [s1] at a
    cases a
    obtain ⟨v', a, b'⟩ := r.at_ j y h2
    rw [s2] at a
    cases a
    exact r.apart i j x y v w q h1 h2 s1 s2 ((mv h1 s1 b).2 q c1) ((mv h2 s2 b').2 q c2)
def lc2Go (ft : PyData → Ev → Rs Ev) (fc : Ev → Rs Bool) (vs1 : List Nat) (fi1 : Ev → Rs (List PyData)) (ft1 : PyData → Ev → Rs Ev) (fc1 : Ev → Rs Bool) (fe : Ev → Rs R) (ρ : Ev) : List PyData → Rs (List PyData)
  | [] => .ok []
  | d :: ds => (ft d ρ).bind fun ρ1 => (fc ρ1).bind fun b => if b = true then (fi1 ρ1).bind fun ds1 => (lcGo ft1 fc1 fe (wipeE ρ1 vs1) ds1).bind fun ys => (lc2Go ft fc vs1 fi1 ft1 fc1 fe ρ ds).bind fun xs => .ok (ys ++ xs) else lc2Go ft fc vs1 fi1 ft1 fc1 fe ρ ds
def fLc2 (vs vs1 : List Nat) (fi : Ev → Rs (List PyData)) (ft : PyData → Ev → Rs Ev) (fc : Ev → Rs Bool) (fi1 : Ev → Rs (List PyData)) (ft1 : PyData → Ev → Rs Ev) (fc1 : Ev → Rs Bool) (fe : Ev → Rs R) : Ev → Rs R := fun ρ => (fi ρ).bind fun ds =>
  (noErr (lc2Go ft fc vs1 fi1 ft1 fc1 fe (wipeE ρ vs) ds)).bind fun xs => if xs.length ≤ lim then .ok (.own xs) else .bad
theorem lcGo_cons {ft : PyData → Ev → Rs Ev} {fc : Ev → Rs Bool} {fe : Ev → Rs R} {ρ : Ev} {d : PyData} {ds ys : List PyData} (h : lcGo ft fc fe ρ (d :: ds) = .ok ys) :
    ∃ ρ1 b, ft d ρ = .ok ρ1 ∧ fc ρ1 = .ok b ∧ ((b = true ∧ ∃ r x zs, fe ρ1 = .ok r ∧ r.d = .ok x ∧ lcGo ft fc fe ρ ds = .ok zs ∧ ys = x :: zs) ∨ (b = false ∧ lcGo ft fc fe ρ ds = .ok ys)) := by
  unfold lcGo at h
  cases h1 : ft d ρ with
  | ok ρ1 =>
    rw [h1, bind_ok] at h
    cases h2 : fc ρ1 with
    | ok b =>
      rw [h2, bind_ok] at h
      refine ⟨ρ1, b, rfl, h2, ?_⟩
      cases b with
      | true =>
        rw [if_pos rfl] at h
        cases h3 : fe ρ1 with
        | ok r =>
          rw [h3, bind_ok] at h
          cases h4 : r.d with
          | ok x =>
            rw [h4, bind_ok] at h
            cases h5 : lcGo ft fc fe ρ ds with
            | ok zs =>
              rw [h5, bind_ok] at h
              cases h
              exact .inl ⟨rfl, r, x, zs, rfl, h4, rfl, rfl⟩
            | err c => rw [h5] at h; cases h
            | bad => rw [h5] at h; cases h
          | err c => rw [h4] at h; cases h
          | bad => rw [h4] at h; cases h
        | err c => rw [h3] at h; cases h
        | bad => rw [h3] at h; cases h
      | false =>
        rw [if_neg (by decide)] at h
        exact .inr ⟨rfl, h⟩
    | err c => rw [h2] at h; cases h
    | bad => rw [h2] at h; cases h
  | err c => rw [h1] at h; cases h
  | bad => rw [h1] at h; cases h
theorem lc2Go_cons {ft : PyData → Ev → Rs Ev} {fc : Ev → Rs Bool} {vs1 : List Nat} {fi1 : Ev → Rs (List PyData)} {ft1 : PyData → Ev → Rs Ev} {fc1 : Ev → Rs Bool} {fe : Ev → Rs R} {ρ : Ev} {d : PyData} {ds ys : List PyData} (h : lc2Go ft fc vs1 fi1 ft1 fc1 fe ρ (d :: ds) = .ok ys) :
    ∃ ρ1 b, ft d ρ = .ok ρ1 ∧ fc ρ1 = .ok b ∧ ((b = true ∧ ∃ ds1 xs zs, fi1 ρ1 = .ok ds1 ∧ lcGo ft1 fc1 fe (wipeE ρ1 vs1) ds1 = .ok xs ∧ lc2Go ft fc vs1 fi1 ft1 fc1 fe ρ ds = .ok zs ∧ ys = xs ++ zs) ∨ (b = false ∧ lc2Go ft fc vs1 fi1 ft1 fc1 fe ρ ds = .ok ys)) := by
  unfold lc2Go at h
  cases h1 : ft d ρ with
  | ok ρ1 =>
    rw [h1, bind_ok] at h
    cases h2 : fc ρ1 with
    | ok b =>
      rw [h2, bind_ok] at h
      refine ⟨ρ1, b, rfl, h2, ?_⟩
      cases b with
      | true =>
        rw [if_pos rfl] at h
        cases h3 : fi1 ρ1 with
        | ok r =>
          rw [h3, bind_ok] at h
          cases h4 : lcGo ft1 fc1 fe (wipeE ρ1 vs1) r with
          | ok x =>
            rw [h4, bind_ok] at h
            cases h5 : lc2Go ft fc vs1 fi1 ft1 fc1 fe ρ ds with
            | ok zs =>
              rw [h5, bind_ok] at h
              cases h
              exact .inl ⟨rfl, r, x, zs, rfl, h4, rfl, rfl⟩
            | err c => rw [h5] at h; cases h
            | bad => rw [h5] at h; cases h
          | err c => rw [h4] at h; cases h
          | bad => rw [h4] at h; cases h
        | err c => rw [h3] at h; cases h
        | bad => rw [h3] at h; cases h
      | false =>
        rw [if_neg (by decide)] at h
        exact .inr ⟨rfl, h⟩
    | err c => rw [h2] at h; cases h
    | bad => rw [h2] at h; cases h
  | err c => rw [h1] at h; cases h
  | bad => rw [h1] at h; cases h
theorem ee_lc2 {X : Cx} {W : WX} {elt tg iter tg1 iter1 : Expr} {ifs ifs1 : List Expr} {scope : Scope} {own : List (Str × Nat)} {pos : Pos} {wi wi1 : TI} {g g1 : TG} {tt tt1 : TT} {te : TE} {i0 : Nat} {is1 : List Nat} {fi fi1 : Ev → Rs (List PyData)} {ft1 : PyData → Ev → Rs Ev} {fc fc1 : Ev → Rs Bool} {fe : Ev → Rs R}
    (hN : X.N.Nodup) (hi : EI X W tg iter wi fi) (ok : BlkOk X.N X.env.scope scope own)
    (hg : ∀ (s : Shared) (H : Hp) (C : Addr) (cl : List (Str × Addr)) (fp : List Addr), EG (X.blk s H scope (compEnvC scope cl C X.env) fp) tg g [i0] (tName i0))
    (ht : ∀ (s : Shared) (H : Hp) (C : Addr) (cl : List (Str × Addr)) (fp : List Addr), ETs (X.blk s H scope (compEnvC scope cl C X.env) fp) W0 ifs tt fc)
    (hi1 : ∀ (s : Shared) (H : Hp) (C : Addr) (cl : List (Str × Addr)) (fp : List Addr), EI (X.blk s H scope (compEnvC scope cl C X.env) fp) W0 tg1 iter1 wi1 fi1)
    (hg1 : ∀ (s : Shared) (H : Hp) (C : Addr) (cl : List (Str × Addr)) (fp : List Addr), EG (X.blk s H scope (compEnvC scope cl C X.env) fp) tg1 g1 is1 ft1)
    (ht1 : ∀ (s : Shared) (H : Hp) (C : Addr) (cl : List (Str × Addr)) (fp : List Addr), ETs (X.blk s H scope (compEnvC scope cl C X.env) fp) W0 ifs1 tt1 fc1)
    (he : ∀ (s : Shared) (H : Hp) (C : Addr) (cl : List (Str × Addr)) (fp : List Addr), EE (X.blk s H scope (compEnvC scope cl C X.env) fp) W0 elt te fe)
    (hsub : ∀ i ∈ [i0], i ∈ own.map (·.2) := by decide) (hv : ∀ i ∈ is1, i ∈ own.map (·.2) := by decide) (hc : X.calm = true := by rfl) (hs : ∀ x, foldedSetIterable iter X.env x = pure x := by intro _; rfl) (hs1 : ∀ env x, foldedSetIterable iter1 env x = pure x := by intro _ _; rfl) :
    EE X W (.ListComp elt [⟨tg, iter, ifs, 0⟩, ⟨tg1, iter1, ifs1, 0⟩] scope pos) (tLc2 wi g tt wi1 g1 tt1 te (own.map (·.2)) is1) (fLc2 (own.map (·.2)) is1 fi (tName i0) fc fi1 ft1 fc1 fe) where
  pe := pe_lc2 hc hN hi.pi ok hv (fun s H C cl fp => (hg s H C cl fp).pg) (fun s H C cl fp => (ht s H C cl fp).pts) (fun s H C cl fp => (hi1 s H C cl fp).pi) (fun s H C cl fp => (hg1 s H C cl fp).pg) (fun s H C cl fp => (ht1 s H C cl fp).pts) (fun s H C cl fp => (he s H C cl fp).pe) hs hs1
  sound := fun {G H0 ρ σ F H} rel Q P => hi.sound rel _ (postI_post P fun ds J F1 H1 e1 wk P1 => by
    cases hgo : lc2Go (tName i0) fc is1 fi1 ft1 fc1 fe (wipeE ρ (own.map (·.2))) ds with
    | err c => rw [hgo] at P1; exact P1.elim
    | bad => rw [hgo] at P1; exact P1.elim
    | ok xs =>
      rw [hgo] at P1
      replace P1 : Post X.K X.mg W σ F1 H1 Q (if xs.length ≤ lim then .ok (.own xs) else .bad) := P1
      by_cases hlim : xs.length ≤ lim
      · rw [if_pos hlim] at P1
        intro D nD
        have rel1 := (rel.step e1).wipe (own.map (·.2))
        have h0D : H0 D = none := rel1.base.hh.free nD
        -- what holds between turns of the outer loop
        let St : List PyData → Hp → Hp → Prop := fun acc F' H' => ∃ vs, Ext F1 H1 F' H' ∧ H' D = some (.lst vs) ∧ F' D = none ∧ DDs F' vs acc
        have step : ∀ {acc : List PyData} {F' H' F'' H'' : Hp}, St acc F' H' → Ext F' H' F'' H'' → St acc F'' H'' := fun {acc F' H' F'' H''} h e => by
          obtain ⟨vs, ex, hD, hF, hv⟩ := h
          exact ⟨vs, ex.trans e, e.hh _ _ hD, e.own hD hF, DDs.mono e.ff _ _ hv⟩
        refine ⟨fun i m H' => i ≤ ds.length ∧ m = ds.length - i ∧ ∃ F' acc rest, St acc F' H' ∧ lc2Go (tName i0) fc is1 fi1 ft1 fc1 fe (wipeE ρ (own.map (·.2))) (ds.drop i) = .ok rest ∧ acc ++ rest = xs,
          ⟨ds.length, Nat.zero_le _, rfl, F1, [], xs, ⟨[], Ext.addH e1.sub nD, upd_same, e1.sub.free nD, .nil⟩, hgo, rfl⟩, fun i m H' hW => ?_⟩
        obtain ⟨hi', rfl, F', acc, rest, hst, hr, hx⟩ := hW
        by_cases hlt : i < ds.length
        · refine .inr ⟨wk.goes i H' hlt (hst.elim fun vs q => q.1.ff.trans q.1.sub), fun H'' => i + 1 ≤ ds.length ∧ ∃ F' acc rest, St acc F' H'' ∧ lc2Go (tName i0) fc is1 fi1 ft1 fc1 fe (wipeE ρ (own.map (·.2))) (ds.drop (i + 1)) = .ok rest ∧ acc ++ rest = xs, fun H'' q => ⟨ds.length - (i + 1), by omega, q.1, rfl, q.2⟩, fun x H2 hy => ?_⟩
          have hd : ds[i]? = some ds[i] := List.getElem?_eq_getElem hlt
          obtain ⟨F2, e2, r2⟩ := wk.yields i H' x H2 ds[i] F' hd (hst.elim fun vs q => q.1.ff) (hst.elim fun vs q => q.1.sub) hy
          rw [List.drop_eq_getElem_cons hlt] at hr
          obtain ⟨ρ1, b, h1, h2, hr⟩ := lc2Go_cons hr
          have relA : Rel X.K G H0 (wipeE ρ (own.map (·.2))) (wipe σ (own.map (·.2))) F2 H2 := (rel1.step (hst.elim fun vs q => q.1)).step e2
          refine (hg X.s_0 X.H_0 0 [] []).sound relA r2 h1 _ fun σ2 rel2 l2 o2 => ⟨wipe_eq hsub (by rw [l2, wipe_length]) o2, ?_⟩
          -- no slot holds D
          have noD : ∀ {H' : Hp}, Same H1 H' → ∀ (j : Nat) (y : R) (w : V), ρ1[j]? = some (some y) → σ2[j]? = some (some w) → ¬ Cell H' w y D := fun {H'} sm j y w hj z c => by
            cases h1
            have hne : i0 ≠ j := fun e => by
              subst e
              rw [List.getElem?_set] at hj
              by_cases hb : i0 < (wipeE ρ (own.map (·.2))).length
              · simp [hb] at hj
                subst hj
                cases c.own
              · simp [hb] at hj
            rw [List.getElem?_set_ne hne] at hj
            rw [o2 j (by simpa using Ne.symm hne)] at z
            obtain ⟨w', a, b⟩ := rel1.at_ j y hj
            rw [z] at a
            cases a
            obtain ⟨_, o', ho', _⟩ := (c.back b sm).here b
            rw [nD] at ho'
            cases ho'
          have hstA := step hst e2
          refine (ht X.s_0 X.H_0 0 [] []).sound rel2 _ (by
            rw [h2]
            intro F3 H3 e3
            have hst3 := step hstA e3
            rcases hr with ⟨rfl, ds1, ys, zs, h3, h4, h5, rfl⟩ | ⟨rfl, h5⟩
            · rw [if_pos rfl]
              have rel3 := rel2.step e3
              refine (hi1 X.s_0 X.H_0 0 [] []).sound rel3 _ ?_
              rw [h3]
              intro J1 F4 H4 e4 wk1
              have hst4 := step hst3 e4
              have rel4 := rel3.step e4
              -- the inner loop
              refine ⟨fun j k H' => j ≤ ds1.length ∧ k = ds1.length - j ∧ ∃ F' acc' rest', St acc' F' H' ∧ Same F4 F' ∧ Rel X.K G H0 ρ1 σ2 F' H' ∧ lcGo ft1 fc1 fe (wipeE ρ1 is1) (ds1.drop j) = .ok rest' ∧ acc' ++ rest' = acc ++ ys,
                ⟨ds1.length, Nat.zero_le _, rfl, F4, acc, ys, hst4, Same.refl _, rel4, h4, rfl⟩, fun j k H5 hW => ?_⟩
              obtain ⟨hj', rfl, F5, acc5, rest5, hst5, ff5, rel5, hr5, hx5⟩ := hW
              by_cases hlt5 : j < ds1.length
              · refine .inr ⟨wk1.goes j H5 hlt5 (ff5.trans rel5.sub), fun H' => j + 1 ≤ ds1.length ∧ ∃ F' acc' rest', St acc' F' H' ∧ Same F4 F' ∧ Rel X.K G H0 ρ1 σ2 F' H' ∧ lcGo ft1 fc1 fe (wipeE ρ1 is1) (ds1.drop (j + 1)) = .ok rest' ∧ acc' ++ rest' = acc ++ ys,
                  fun H' q => ⟨ds1.length - (j + 1), by omega, q.1, rfl, q.2⟩, fun x6 H6 hy6 => ?_⟩
                have hd6 : ds1[j]? = some ds1[j] := List.getElem?_eq_getElem hlt5
                obtain ⟨F6, e6, r6⟩ := wk1.yields j H5 x6 H6 ds1[j] F5 hd6 ff5 rel5.sub hy6
                rw [List.drop_eq_getElem_cons hlt5] at hr5
                obtain ⟨ρ6, b6, k1, k2, hr6⟩ := lcGo_cons hr5
                have hst6 := step hst5 e6
                have rel6 := rel5.step e6
                refine (hg1 X.s_0 X.H_0 0 [] []).sound (rel6.wipe is1) r6 k1 _ fun σ7 rel7 l7 o7 => ⟨wipe_eq (fun _ q => q) (by rw [l7, wipe_length]) o7, ?_⟩
                refine (ht1 X.s_0 X.H_0 0 [] []).sound rel7 _ (by
                  rw [k2]
                  intro F7 H7 e7
                  have hst7 := step hst6 e7
                  rcases hr6 with ⟨rfl, r, dx, zs6, k3, k4, k5, rfl⟩ | ⟨rfl, k5⟩
                  · rw [if_pos rfl]
                    refine (he X.s_0 X.H_0 0 [] []).sound (rel7.step e7) _ ?_
                    rw [k3]
                    intro y F8 H8 e8 r8
                    obtain ⟨F9, e9, s9, r9⟩ := r8.data e8 k4
                    obtain ⟨vs9, ex9, hD9, hF9, hv9⟩ := step hst7 e9
                    have rel9 := (rel6.step e7).step e9
                    have hlen : vs9.length < sizeLine := by
                      have h1 := hv9.len
                      have h2 := lim_lt
                      have h3 : (acc5 ++ dx :: zs6).length ≤ xs.length := by rw [hx5, ← hx]; simp
                      rw [List.length_append, List.length_cons] at h3
                      omega
                    refine ⟨vs9, hD9, hlen, hlt5, F9, acc5 ++ [dx], zs6, ⟨vs9 ++ [y], ⟨ex9.old, ex9.ff, fun b o q => ?_, fun b o q => ?_, ex9.new⟩, upd_same, hF9, hv9.app (.cons r9 .nil)⟩, ((ff5.trans e6.ff).trans e7.ff).trans e9.ff, ?_, k5, by simpa using hx5⟩
                    · have : b ≠ D := ne_of_none q nD
                      rw [upd_ne this]
                      exact ex9.hh _ _ q
                    · have : b ≠ D := ne_of_none q hF9
                      rw [upd_ne this]
                      exact ex9.sub _ _ q
                    · refine rel9.turn D (Same.refl _) (fun b o ne q => by rw [upd_ne ne]; exact q) h0D (fun b o q => ?_) (fun a q => .inl q) (noD ex9.hh)
                      have : b ≠ D := ne_of_none q hF9
                      rw [upd_ne this]
                      exact ex9.sub _ _ q
                  · rw [if_neg (by decide)]
                    exact ⟨hlt5, F7, acc5, rest5, hst7, (ff5.trans e6.ff).trans e7.ff, rel6.step e7, k5, hx5⟩)
              · have hin : j = ds1.length := by omega
                subst hin
                refine .inl ⟨wk1.stops H5 (ff5.trans rel5.sub), ?_⟩
                simp [lcGo] at hr5
                subst hr5
                rw [List.append_nil] at hx5
                subst hx5
                exact ⟨hlt, F5, acc ++ ys, zs, hst5, h5, by rw [← hx]; simp⟩
            · rw [if_neg (by decide)]
              exact ⟨hlt, F3, acc, rest, hst3, h5, hx⟩)
        · have hin : i = ds.length := by omega
          subst hin
          obtain ⟨vs, ex, hD, hF, hv'⟩ := hst
          refine .inl ⟨wk.stops H' (ex.ff.trans ex.sub), ?_⟩
          simp [lc2Go] at hr
          subst hr
          rw [List.append_nil] at hx
          subst hx
          exact P1 _ F' H' ex ⟨⟨D, vs, rfl, hD, hF, hv'⟩, fun _ q e => by cases e; exact nD⟩
      · rw [if_neg hlim] at P1
        exact P1.elim)
end DN
/-! Den12: things of ours, read as they stand. -/
namespace DN
open PySem PySem.Spec PyProof.Rows L2
section
variable {X : Cx} {W : WX} {a b e : Expr} {ta tb te : TE} {fa fb f : Ev → Rs R} {pos p : Pos} (K : PySem.W.Frag)
/-- an item of a list of ours -/
@[simp] def fOix (i : Nat) (fb : Ev → Rs R) : Ev → Rs R := fun ρ => match ρ[i]? with
  | some (some (.own ds)) => (fb ρ).bind fun r => r.d.bind fun x => match x with
    | .int j => match atI ds j with
      | some d => .ok (.val d)
      | none => .bad
    | _ => .bad
  | some (some (.val (.list ds))) => (fb ρ).bind fun r => r.d.bind fun x => match x with
    | .int j => match atI ds j with
      | some d => .ok (.val d)
      | none => .bad
    | _ => .bad
  | _ => .bad
theorem ek_oix (i : Nat) {x : Str} {p2 : Pos} (hb : EE X W b tb fb) (hN : X.N[i]? = some x := by rfl) (hv : Vis X.env.scope x := by first | exact Or.inl rfl | exact Or.inr (Or.inl rfl) | exact Or.inr (Or.inr rfl)) (hd : (x == ("__debug__" : Str)) = false := by decide)
    (hcd : (x == ("__classdict__" : Str)) = false := by decide) (hs : PlainIx b := by exact fun _ _ => rfl) (hK : X.K = K := by rfl) : EE X W (.Subscript (.Name x p2) b pos) (tOp (rIxL K) (tVar i) tb) (fOix i fb) := by
  subst hK
  refine ⟨pe_ix ix_list (pe_var hN hv hd hcd) hb.pe hs, fun {G H0 ρ σ F H} rel Q P => ?_⟩
  unfold fOix at P
  split at P
  · rename_i ds h
    obtain ⟨v, hv, a, vs, rfl, q1, q2, q3⟩ := rel.at_ i _ h
    refine ⟨_, hv, hb.sound rel _ (post_data P fun d v F1 H1 e1 r1 P1 => ?_)⟩
    cases r1 with
    | int j =>
      dsimp only at P1
      split at P1
      · rename_i n hn
        obtain ⟨w, k1, k2⟩ := atI_DD q3 hn
        exact ⟨a, _, j, w, rfl, rfl, SqL.of (e1.hh _ _ q1), k1, post_flat e1.sub (DD.mono e1.ff _ _ k2) P1⟩
      · exact P1.elim
    | _ => exact P1.elim
  · rename_i ds h
    obtain ⟨v, hv, q⟩ := rel.at_ i _ h
    refine ⟨_, hv, hb.sound rel _ (post_data P fun d v F1 H1 e1 r1 P1 => ?_)⟩
    cases q with
    | @lst a vs _ q1 q3 =>
      cases r1 with
      | int j =>
        dsimp only at P1
        split at P1
        · rename_i n hn
          obtain ⟨w, k1, k2⟩ := atI_DD q3 hn
          exact ⟨a, _, j, w, rfl, rfl, SqL.of (e1.hh _ _ (rel.sub _ _ q1)), k1, post_flat e1.sub (DD.mono e1.ff _ _ k2) P1⟩
        · exact P1.elim
      | _ => exact P1.elim
  · exact P.elim
end
end DN
/-! Den13: dicts with tuple keys; sorted. -/
namespace DN
open PySem PySem.Spec PyProof.Rows L2

/-! ### sorted: the rule -/
theorem each_vals {bs : List (V × PyData)} : ∀ {us : List Value}, Vals (bs.map (·.1)) us → PySem.W.EachIs (fun v (b : V × PyData) => RelV b.1 v) us bs := by
  induction bs with
  | nil => intro us r; cases r; exact .nil
  | cons b bs ih =>
    intro us r
    cases r with
    | cons h t => exact .cons h (ih t)
theorem vals_each {bs : List (V × PyData)} : ∀ {us : List Value}, PySem.W.EachIs (fun v (b : V × PyData) => RelV b.1 v) us bs → Vals (bs.map (·.1)) us := by
  induction bs with
  | nil => intro us r; cases r; exact .nil
  | cons b bs ih =>
    intro us r
    cases r with
    | cons h t => exact .cons h (ih t)
theorem each_reads {X : Cx} {pins : List (Addr × Obj)} {σ : L2.St} {H : Hp} {s : Shared} (I : Inv X pins σ H s) : ∀ {bs : List (V × PyData)} {us : List Value}, (∀ b ∈ bs, Dp X.K H b.1 b.2) → PySem.W.EachIs (fun v (b : V × PyData) => RelV b.1 v) us bs →
    PySem.W.EachIs (fun v (b : V × PyData) => ∃ as, Reads s.heap v b.2 as) us bs
  | _, _, _, .nil => .nil
  | b :: bs, _, h, .cons r t => .cons (Dp.reads I _ _ _ (h b List.mem_cons_self) r) (each_reads I (fun x hx => h x (List.mem_cons_of_mem _ hx)) t)
/-- the pairs of values and data, sorted by the data -/
def srt (bs : List (V × PyData)) : List (V × PyData) := bs.mergeSort (PySem.W.dataLe false fun b => b.2)
def rSortedA (K : PySem.W.Frag) : List V → Hp → VK → Prop := fun vs H Q => ∃ (a : Addr) (bs : List (V × PyData)), vs = [V.ref a] ∧ SqL K H a (bs.map (·.1)) ∧ (∀ b ∈ bs, Dp K H b.1 b.2) ∧ PySem.W.AllAlike (bs.map (·.2)) ∧ PySem.W.Sortable (bs.map (·.2)) ∧
  (∀ b ∈ bs, b.2.depth ≤ 16) ∧ bs.length ≤ sizeLine ∧ ∀ p, H p = none → Q (.ref p) (upd H p (.lst ((srt bs).map (·.1))))
section
variable {X : Cx}
theorem cr_sortedA (hu : X.A.units + 64 < cLine) : CallR X (.builtin "sorted") (rSortedA X.K) := by
  intro pins s σ H vs us Q I r h
  obtain ⟨a, bs, rfl, hs, hdp, hal, hk, hde, hL, q⟩ := h
  obtain ⟨its, rv, hl, _⟩ := I.list hs
  rw [Vals.ref1 r]
  have e := each_vals rv
  refine PySem.W.sorted_data (enc := fun b : V × PyData => b.2) (bs := bs) (R := fun v b => RelV b.1 v) hl.isList e (each_reads I hdp e) hal hk hL (fun b hb => ?_) fun out ho eo => ?_
  · have := hde b hb
    omega
  · obtain ⟨ep, he'⟩ := PyProof.Rows.sortedAll_at s.heap its out.toArray
    have hlen : ((srt bs).map (·.1)).length ≤ sizeLine := by
      unfold srt
      rw [List.length_map, List.length_mergeSort]
      exact hL
    exact ⟨.ref _, upd H (s.heap.objs.size + 1) (.lst ((srt bs).map (·.1))), I.laid (t' := s.toks) (fun _ _ => PyProof.Rows.sortedAll_old) (Nat.le_succ _) ⟨hlen, out, ep, vals_each eo, he'⟩, rfl, q _ (I.hok.fresh (Nat.le_succ _))⟩
/-! ### sorted(d), the keys tuples -/
def keyD : Key → PyData
  | .inl i => .int i
  | .inr x => .str x
theorem dp_key {K : PySem.W.Frag} {H : Hp} (k : Key) : Dp K H (kV k) (keyD k) := by
  cases k with
  | inl i => exact .int i
  | inr x => exact .str x
theorem dp_keys {K : PySem.W.Frag} {H : Hp} : ∀ ks : List Key, DpAll K H (ks.map kV) (ks.map keyD)
  | [] => .nil
  | k :: ks => .cons (dp_key k) (dp_keys ks)
def kTup (k : List Key) : PyData := .tuple (k.map keyD)
def rSortedDT : List V → Hp → VK → Prop := fun vs H Q => ∃ (a : Addr) (kvs : List (List Key × V)), vs = [V.ref a] ∧ H a = some (.dT kvs) ∧ PySem.W.AllAlike (kvs.map fun kv => kTup kv.1) ∧ PySem.W.Sortable (kvs.map fun kv => kTup kv.1) ∧
  ∀ p bs, H p = none → IsKeys H kvs bs → Q (.ref p) (upd H p (.lst ((srt ((bs.map V.ref).zip (kvs.map fun kv => kTup kv.1))).map (·.1))))
theorem depth_keys : ∀ ks : List Key, PyData.depthAll (ks.map keyD) = 0
  | [] => by simp [PyData.depthAll]
  | k :: ks => by
    rw [List.map_cons, PyData.depthAll, depth_keys ks]
    cases k <;> simp [keyD, PyData.depth]
theorem keys_zip {K : PySem.W.Frag} {H : Hp} : ∀ {kvs : List (List Key × V)} {bs : List Addr}, IsKeys H kvs bs → ((bs.map V.ref).zip (kvs.map fun kv => kTup kv.1)).map (·.1) = bs.map V.ref ∧ ((bs.map V.ref).zip (kvs.map fun kv => kTup kv.1)).map (·.2) = kvs.map (fun kv => kTup kv.1) ∧
    ∀ b ∈ (bs.map V.ref).zip (kvs.map fun kv => kTup kv.1), Dp K H b.1 b.2
  | _, _, .nil => ⟨rfl, rfl, fun _ h => by cases h⟩
  | kv :: kvs, b :: bs, .cons h t => by
    obtain ⟨a1, a2, a3⟩ := keys_zip (K := K) t
    refine ⟨by simp only [List.map_cons, List.zip_cons_cons, a1], by simp only [List.map_cons, List.zip_cons_cons, a2], fun x hx => ?_⟩
    rw [List.map_cons, List.map_cons, List.zip_cons_cons] at hx
    rcases List.mem_cons.mp hx with rfl | hx
    · exact .tup (SqT.of h) (dp_keys kv.1)
    · exact a3 x hx
theorem reads_keys {h : Heap} : ∀ (ks : List Key) (us : List Value) (as : List Addr), ReadsAll h us (ks.map keyD) as → as = []
  | [], _, _, r => by cases r; rfl
  | k :: ks, _, _, r => by
    rw [List.map_cons] at r
    cases r with
    | cons h1 h2 =>
      have e2 := reads_keys ks _ _ h2
      subst e2
      cases k with
      | inl i => cases h1; rfl
      | inr x => cases h1; rfl
theorem reads_kTup {h : Heap} {k : List Key} {v : Value} {as : List Addr} (r : Reads h v (kTup k) as) : as = [] := by
  unfold kTup at r
  cases r with
  | tuple h1 h2 h3 h4 => exact reads_keys k _ _ h4
theorem cr_sortedDT (hc : X.calm = true) (hu : X.A.units + 64 < cLine) : CallR X (.builtin "sorted") rSortedDT := by
  intro pins s σ H vs us Q I r h
  obtain ⟨d, kvs, rfl, hd, hal, hk, q⟩ := h
  obtain ⟨u, rfl, rx⟩ := r.one
  cases rx
  obtain ⟨z, hs, ks, pr, o, es, ep, ho, hx, hdt, he, hn⟩ := (show ObjOk X.prog X.w H s.heap d (.dT kvs) from (show Rd H d (.dT kvs) from .inl hd).ok I.hok)
  have l1 : es.size = ks.length := size_of_entries he
  have l2 : kvs.length = ks.length := Paired.length pr
  refine Calls.call_function_entry PyProof.Rows.kind_sorted PyProof.Rows.plain_sorted PyProof.Rows.entry_sorted (PyProof.Rows.args_sorted1 _) ?_
  unfold Builtin.«sorted»
  refine wpAny_bind (m := checkCount "sorted" 1 1 _) (wpAny_pure ?_)
  refine wpAny_bind (PySem.W.kdu_collect (A := X.A.in1) (kdl_raw hs hx hdt) (I.ok.hd hc) ho (by omega) fun h' tk acc hkp it => ?_)
  have ea : acc.toList = ks.map fun x => Value.ref x.2.1 := by
    have hl : acc.toList.length = ks.length := by rw [Array.length_toList, it.1]; exact l1
    apply List.ext_getElem?
    intro j
    rw [List.getElem?_map]
    cases hj : acc.toList[j]? with
    | none =>
      have h1 := List.getElem?_eq_none_iff.mp hj
      rw [List.getElem?_eq_none (by omega)]
      all_goals rfl
    | some v =>
      obtain ⟨en, hen, hv⟩ := it.2 j v (by rw [← Array.getElem?_toList]; exact hj)
      have qe := entry_at he j
      rw [hen] at qe
      cases hb : ks[j]? with
      | none =>
        rw [hb] at qe
        exact nomatch (show some en = none from qe)
      | some b =>
        rw [hb] at qe
        have e2 : en = entryOfKey (tupleKind (mixKind X.prog X.w)) b := Option.some.inj qe
        rw [hv, e2]
        all_goals rfl
  have isk := isKeys_of pr
  have I1 : Inv X pins σ H { s with heap := h', toks := tk } := I.kept hkp
  generalize hbs : (ks.map fun x => x.2.1) = bs at isk
  have eb : acc.toList = bs.map Value.ref := by rw [ea, ← hbs, List.map_map]; all_goals rfl
  obtain ⟨z1, z2, z3⟩ := keys_zip (K := X.K) isk
  have hlz : ((bs.map V.ref).zip (kvs.map fun kv => kTup kv.1)).length = ks.length := by
    have := congrArg List.length z1
    rw [List.length_map, List.length_map, ← hbs, List.length_map] at this
    rw [← hbs]
    exact this
  replace q := fun p hp => q p bs hp isk
  generalize (bs.map V.ref).zip (kvs.map fun kv => kTup kv.1) = zs at z1 z2 z3 q hlz
  have rv : Vals (zs.map (·.1)) acc.toList := by rw [z1, eb]; exact vals_refs _
  have e := each_vals rv
  have I2 : Inv X pins σ H { s with heap := h'.push (seqObj "list" acc.toList.toArray 0), toks := tk } := I.kept (fun b o q => Heap.get?_push_of_some _ (hkp b o q))
  refine wpAny_bind (wpAny_newList ?_ (by rw [eb, List.length_map, ← hbs, List.length_map]; omega))
  have hoL : (h'.push (seqObj "list" acc.toList.toArray 0)).get? h'.objs.size = some (seqObj "list" acc.toList.toArray 0) := Heap.get?_push_size _ rfl
  show wpAny _ _ _ _ _ { s with heap := h'.push (seqObj "list" acc.toList.toArray 0), toks := tk }
  refine wpAny_bind (wpAny_holding (PySem.W.list_sort_data (s := { s with heap := h'.push (seqObj "list" acc.toList.toArray 0), toks := tk }) (enc := fun b : V × PyData => b.2) (bs := zs) (R := fun v b => RelV b.1 v) (vs := acc.toList) hoL e ?_ (by rw [z2]; exact hal) (by rw [z2]; exact hk) (by omega) (fun b hb => ?_) fun out hlo eo => ?_))
  · have key : ∀ {us : List Value} {bs : List (V × PyData)}, (∀ b ∈ bs, b ∈ zs) → PySem.W.EachIs (fun v (b : V × PyData) => RelV b.1 v) us bs → PySem.W.EachIs (fun v (b : V × PyData) => ∃ as, Reads (h'.push (seqObj "list" acc.toList.toArray 0)) v b.2 as ∧ h'.objs.size ∉ as) us bs := by
      intro us bs' hsub ee
      induction ee with
      | nil => exact .nil
      | @cons v b us bs' r t ih =>
        refine .cons ?_ (ih fun x hx => hsub x (List.mem_cons_of_mem _ hx))
        obtain ⟨as, hr⟩ := Dp.reads I1 _ _ _ (z3 b (hsub b List.mem_cons_self)) r
        refine ⟨as, PyProof.Rows.Reads.keeps (fun b o q => Heap.get?_push_of_some _ q) hr, ?_⟩
        have hb2 : b.2 ∈ zs.map (·.2) := List.mem_map.mpr ⟨b, hsub b List.mem_cons_self, rfl⟩
        rw [z2] at hb2
        obtain ⟨kv, _, ekv⟩ := List.mem_map.mp hb2
        rw [← ekv] at hr
        rw [reads_kTup hr]
        exact List.not_mem_nil
    exact key (fun _ h => h) e
  · have hb2 : b.2 ∈ zs.map (·.2) := List.mem_map.mpr ⟨b, hb, rfl⟩
    rw [z2] at hb2
    obtain ⟨kv, _, ekv⟩ := List.mem_map.mp hb2
    have : (kTup kv.1).depth = 1 := by
      unfold kTup
      rw [PyData.depth, depth_keys]
    show X.A.in1.units + 1 + b.2.depth < cLine
    rw [← ekv, this]
    have : X.A.in1.units ≤ X.A.units + 1 := by first | exact Nat.le_succ _ | exact Nat.le_refl _ | (simp [Around.in1]; omega)
    omega
  · obtain ⟨e', he'⟩ := PyProof.Rows.sortedHeap_at (vs := acc.toList) (out := out.toArray) hoL
    have hlen : ((srt zs).map (·.1)).length ≤ sizeLine := by
      unfold srt
      rw [List.length_map, List.length_mergeSort]
      omega
    refine wpAny_pure ⟨_, rfl, .ref h'.objs.size, upd H h'.objs.size (.lst ((srt zs).map (·.1))), I1.laid (t' := tk) (fun b u e => ?_) (Nat.le_refl _)
      (show ObjOk X.prog X.w _ _ _ (.lst ((srt zs).map (·.1))) from ⟨hlen, out, e', vals_each eo, he'⟩), rfl, q _ (I1.hok.fresh (Nat.le_refl _))⟩
    have hb : b < h'.objs.size := Heap.lt_size e
    rw [PyProof.Rows.sortedHeap_old (Nat.ne_of_lt hb) (by rw [size_push']; exact Nat.lt_succ_of_lt hb)]
    exact Heap.get?_push_of_some _ e
end
/-! ### denotations -/
def sortable (ds : List PyData) : Bool := (ds.all fun d => ds.all fun e => PySem.W.alike d e) && ((ds.all fun d => match d with | .tuple (_ :: _) => true | _ => false) || ds.all fun d => match d with | .none => false | .tuple _ => false | _ => true) && ds.all fun d => decide (d.depth ≤ 16)
def sortD (ds : List PyData) : List PyData := ds.mergeSort (PySem.W.dataLe false fun d => d)
theorem sortable_ok {ds : List PyData} (h : sortable ds = true) : PySem.W.AllAlike ds ∧ PySem.W.Sortable ds ∧ ∀ d ∈ ds, d.depth ≤ 16 := by
  unfold sortable at h
  rw [Bool.and_eq_true, Bool.and_eq_true, Bool.or_eq_true] at h
  obtain ⟨⟨h1, h2⟩, h3⟩ := h
  refine ⟨fun d hd e he => List.all_eq_true.mp (List.all_eq_true.mp h1 d hd) e he, ?_, fun d hd => by simpa using List.all_eq_true.mp h3 d hd⟩
  rcases h2 with h2 | h2
  · refine .inl fun d hd => ?_
    have := List.all_eq_true.mp h2 d hd
    cases d with
    | tuple xs =>
      cases xs with
      | nil => simp at this
      | cons x r => exact ⟨x, r, rfl⟩
    | _ => simp at this
  · refine .inr fun d hd => ?_
    have := List.all_eq_true.mp h2 d hd
    cases d with
    | none => simp at this
    | tuple xs => simp at this
    | _ => exact And.intro (fun z => by cases z) (fun xs z => by cases z)
/-- sorting pairs by their data: the data come sorted -/
theorem srt_data (bs : List (V × PyData)) : (srt bs).map (·.2) = sortD (bs.map (·.2)) := by
  unfold srt sortD
  rw [List.map_mergeSort (r := fun a b => PySem.W.dataLe false (fun b : V × PyData => b.2) a b) (s := fun a b => PySem.W.dataLe false (fun d : PyData => d) a b)]
  intro a _ b _
  rfl
theorem DDs.zip {F : Hp} : ∀ {ds : List PyData} {vs : List V}, DDs F vs ds → ((vs.zip ds).map (·.1) = vs ∧ (vs.zip ds).map (·.2) = ds ∧ ∀ b ∈ vs.zip ds, DD F b.1 b.2)
  | [], _, .nil => ⟨rfl, rfl, fun _ h => by cases h⟩
  | d :: ds, v :: vs, .cons h r => by
    obtain ⟨a, b, c⟩ := DDs.zip r
    refine ⟨by simp only [List.zip_cons_cons, List.map_cons, a], by simp only [List.zip_cons_cons, List.map_cons, b], fun x hx => ?_⟩
    rw [List.zip_cons_cons] at hx
    rcases List.mem_cons.mp hx with rfl | hx
    · exact h
    · exact c x hx
theorem DDs.unzip {F : Hp} : ∀ {bs : List (V × PyData)}, (∀ b ∈ bs, DD F b.1 b.2) → DDs F (bs.map (·.1)) (bs.map (·.2))
  | [], _ => .nil
  | b :: bs, h => .cons (h b List.mem_cons_self) (DDs.unzip fun x hx => h x (List.mem_cons_of_mem _ hx))
theorem srt_DDs {F : Hp} {bs : List (V × PyData)} (h : ∀ b ∈ bs, DD F b.1 b.2) : DDs F ((srt bs).map (·.1)) (sortD (bs.map (·.2))) := by
  rw [← srt_data]
  exact DDs.unzip fun b hb => h b (by unfold srt at hb; exact (List.mem_mergeSort.mp hb))
def biSorted : List PyData → Rs R
  | [.list ds] => if (sortable ds && decide (ds.length ≤ lim)) = true then .ok (.own (sortD ds)) else .bad
  | _ => .bad
section
variable {X : Cx} {W : WX} {e : Expr} {es : List Expr} {t : TA} {fr : Ev → Rs (List PyData)} {p pos : Pos} (K : PySem.W.Frag)
theorem ek_sorted (hu : X.A.units + 64 < cLine) (hm : X.mg "sorted" = none) (ha : ED X W (e :: es) t fr) (hg : Gl X "sorted" := by rfl)
    (he : starEach (e :: es) X.env = (false, eval e X.env) :: starEach es X.env := by rfl) (hpl : (backTo pos (starEach es X.env)).any (·.1) = false := by rfl) (hK : X.K = K := by rfl) :
    EE X W (.Call (.Name "sorted" p) (e :: es) [] pos) (tCB (rSortedA K) t) (fBi biSorted fr) := by
  subst hK
  refine ee_callB (cr_sortedA hu) (fun {σ F H Q vs ds} s r P => ?_) hm (by decide +kernel) ha hg (by decide) (by decide) he hpl
  match ds, r with
  | [], .nil => exact P.elim
  | [_], .cons h .nil =>
    unfold biSorted at P
    cases h with
    | @lst p xs ds h r =>
      dsimp only at P
      split at P
      · rename_i hc
        rw [Bool.and_eq_true, decide_eq_true_eq] at hc
        obtain ⟨a1, a2, a3⟩ := sortable_ok hc.1
        obtain ⟨z1, z2, z3⟩ := r.zip
        refine ⟨p, xs.zip ds, rfl, by rw [z1]; exact SqL.of (s _ _ h), fun b hb => DD.dp s _ _ (z3 b hb), by rw [z2]; exact a1, by rw [z2]; exact a2, fun b hb => a3 b.2 ?_, ?_, ?_⟩
        · rw [← z2]
          exact List.mem_map.mpr ⟨b, hb, rfl⟩
        · have := congrArg List.length z2
          rw [List.length_map] at this
          rw [this]
          exact Nat.le_trans hc.2 lim_le
        · have q := srt_DDs z3
          rw [z2] at q
          exact new_lst s q P
      · exact P.elim
    | _ => exact P.elim
  | _ :: _ :: _, .cons h (.cons _ _) => cases h <;> exact P.elim
end
/-! ### dicts with tuple keys -/
def asKey : PyData → Option Key
  | .int i => some (.inl i)
  | .str x => some (.inr x)
  | _ => none
def asKeys : List PyData → Option (List Key)
  | [] => some []
  | d :: ds => match asKey d, asKeys ds with
    | some k, some ks => some (k :: ks)
    | _, _ => none
def asTup : PyData → Option (List Key)
  | .tuple ds => asKeys ds
  | _ => none
theorem asKeys_ok {F : Hp} : ∀ {ds : List PyData} {vs : List V} {ks : List Key}, DDs F vs ds → asKeys ds = some ks → vs = ks.map kV ∧ ds = ks.map keyD
  | [], _, _, .nil, h => by cases h; exact ⟨rfl, rfl⟩
  | d :: ds, _, ks, .cons r t, h => by
    unfold asKeys at h
    cases h1 : asKey d with
    | none => rw [h1] at h; cases h
    | some k =>
      cases h2 : asKeys ds with
      | none => rw [h1, h2] at h; cases h
      | some ks' =>
        rw [h1, h2] at h
        cases h
        obtain ⟨a, b⟩ := asKeys_ok t h2
        subst a b
        cases r with
        | int i => cases h1; exact ⟨rfl, rfl⟩
        | str x => cases h1; exact ⟨rfl, rfl⟩
        | _ => cases h1
theorem asTup_ok {F : Hp} {v : V} {d : PyData} {k : List Key} (r : DD F v d) (h : asTup d = some k) : ∃ b, v = .ref b ∧ F b = some (.tup (k.map kV)) := by
  cases r with
  | @tup a xs ds hF r =>
    have h : asKeys ds = some k := h
    obtain ⟨e, _⟩ := asKeys_ok r h
    subst e
    exact ⟨a, rfl, hF⟩
  | _ => cases h
section
variable {κ : Type} [DecidableEq κ]
def valP (kvs : List (κ × PyData)) (k : κ) : Option PyData := (kvs.find? fun kv => decide (kv.1 = k)).map (·.2)
def putP (kvs : List (κ × PyData)) (k : κ) (v : PyData) : List (κ × PyData) :=
  if (kvs.any fun kv => decide (kv.1 = k)) = true then kvs.map (fun kv => if kv.1 = k then (kv.1, v) else kv) else kvs ++ [(k, v)]
theorem KD.val {F : Hp} {k : κ} : ∀ {ws : List (κ × V)} {kvs : List (κ × PyData)}, KD F ws kvs → (valV ws k = none ∧ valP kvs k = none) ∨ ∃ v d, valV ws k = some v ∧ valP kvs k = some d ∧ DD F v d
  | _, _, .nil => .inl ⟨rfl, rfl⟩
  | w :: ws, kv :: kvs, .cons r t => by
    obtain ⟨e, h⟩ := r
    unfold valV valP
    by_cases hk : w.1 = k
    · refine .inr ⟨w.2, kv.2, ?_, ?_, h⟩
      · rw [List.find?_cons_of_pos (by simpa using hk)]; rfl
      · rw [List.find?_cons_of_pos (by simpa [← e] using hk)]; rfl
    · rw [List.find?_cons_of_neg (by simpa using hk), List.find?_cons_of_neg (by simpa [← e] using hk)]
      exact KD.val (k := k) t
theorem KD.any {F : Hp} {k : κ} : ∀ {ws : List (κ × V)} {kvs : List (κ × PyData)}, KD F ws kvs → (ws.any fun kv => decide (kv.1 = k)) = kvs.any fun kv => decide (kv.1 = k)
  | _, _, .nil => rfl
  | w :: ws, kv :: kvs, .cons r t => by
    rw [List.any_cons, List.any_cons, KD.any t, r.1]
theorem KD.app {F : Hp} {w : κ × V} {q : κ × PyData} (h : w.1 = q.1 ∧ DD F w.2 q.2) : ∀ {ws : List (κ × V)} {kvs : List (κ × PyData)}, KD F ws kvs → KD F (ws ++ [w]) (kvs ++ [q])
  | _, _, .nil => .cons h .nil
  | _ :: _, _ :: _, .cons r t => .cons r (KD.app h t)
theorem KD.mapPut {F : Hp} {k : κ} {v : V} {d : PyData} (h : DD F v d) : ∀ {ws : List (κ × V)} {kvs : List (κ × PyData)}, KD F ws kvs → KD F (ws.map fun kv => if kv.1 = k then (kv.1, v) else kv) (kvs.map fun kv => if kv.1 = k then (kv.1, d) else kv)
  | _, _, .nil => .nil
  | w :: ws, q :: kvs, .cons r t => by
    rw [List.map_cons, List.map_cons]
    refine .cons ?_ (KD.mapPut h t)
    by_cases hk : w.1 = k
    · rw [if_pos hk, if_pos (r.1 ▸ hk)]
      exact ⟨r.1, h⟩
    · rw [if_neg hk, if_neg (r.1 ▸ hk)]
      exact r
theorem KD.put {F : Hp} {k : κ} {v : V} {d : PyData} (h : DD F v d) {ws : List (κ × V)} {kvs : List (κ × PyData)} (r : KD F ws kvs) : KD F (putK ws k v) (putP kvs k d) := by
  unfold putK putP
  rw [KD.any r]
  split
  · exact KD.mapPut h r
  · exact KD.app ⟨rfl, h⟩ r
end
theorem KD.len {κ : Type} {F : Hp} : ∀ {ws : List (κ × V)} {kvs : List (κ × PyData)}, KD F ws kvs → ws.length = kvs.length
  | _, _, .nil => rfl
  | _ :: _, _ :: _, .cons _ t => congrArg (· + 1) (KD.len t)
theorem KD.keys {κ : Type} {F : Hp} : ∀ {ws : List (κ × V)} {kvs : List (κ × PyData)}, KD F ws kvs → ws.map (·.1) = kvs.map (·.1)
  | _, _, .nil => rfl
  | _ :: _, _ :: _, .cons r t => by rw [List.map_cons, List.map_cons, r.1, KD.keys t]
section
variable {X : Cx} {W : WX} {a b e f : Expr} {ta tb te tf : TE} {fa fb fe ff : Ev → Rs R} {pos p : Pos}
@[simp] def fDnewT : Ev → Rs R := fun _ => .ok (.dct [])
theorem ee_dnewT : EE X W (.Dict [] [] pos) tDNewT fDnewT where
  pe := pe_dnewT
  sound := fun {G H0 ρ σ F H} rel Q P => fun p np => P _ _ _ (Ext.addH rel.sub np) ⟨⟨p, [], rfl, upd_same, rel.sub.free np, .nil⟩, fun _ q e => by cases e; exact np⟩
/-- key in d -/
@[simp] def fDinT (i : Nat) (fa : Ev → Rs R) : Ev → Rs R := fun ρ => (fa ρ).bind fun r => r.d.bind fun x => match ρ[i]?, asTup x with
  | some (some (.dct kvs)), some k => .ok (.val (.bool (valP kvs k).isSome))
  | _, _ => .bad
@[simp] def fDNinT (i : Nat) (fa : Ev → Rs R) : Ev → Rs R := fun ρ => (fa ρ).bind fun r => r.d.bind fun x => match ρ[i]?, asTup x with
  | some (some (.dct kvs)), some k => .ok (.val (.bool (!(valP kvs k).isSome)))
  | _, _ => .bad
theorem KD.isSome {κ : Type} [DecidableEq κ] {F : Hp} {k : κ} {ws : List (κ × V)} {kvs : List (κ × PyData)} (r : KD F ws kvs) : (valV ws k).isSome = (valP kvs k).isSome := by
  rcases KD.val (k := k) r with ⟨h1, h2⟩ | ⟨v, d, h1, h2, _⟩ <;> rw [h1, h2] <;> rfl
theorem et_ofB {e : Expr} {te : TE} {f : Ev → Rs R} (hp : PT X e (tB te)) (h : EE X W e te f) : ET X W e (tB te) (fTest f) where
  pt := hp
  sound := fun rel Q P => h.sound rel _ (postB_data P fun d v F1 H1 e1 r1 P1 => by
    cases r1 <;> first
      | exact ⟨_, rfl, P1 _ _ (Ext.refl e1.sub)⟩
      | exact P1.elim)
section
variable (i : Nat) {x : Str} {p2 : Pos} (hu : X.A.units + 1 < cLine) (ha : EE X W a ta fa)
  (hN : X.N[i]? = some x := by rfl) (hv : Vis X.env.scope x := by first | exact Or.inl rfl | exact Or.inr (Or.inl rfl) | exact Or.inr (Or.inr rfl)) (hd : (x == ("__debug__" : Str)) = false := by decide) (hcd : (x == ("__classdict__" : Str)) = false := by decide)
include hu ha hN hv hd hcd
theorem ee_dinT (hm : behindInMarks .In (.Name x p2) = false := by rfl) : EE X W (.Compare a [.In] [.Name x p2] pos) (tDIn ta (tVar i)) (fDinT i fa) where
  pe := pe_cmp (pc_din hu ha.pe (pe_var hN hv hd hcd)) hm
  sound := fun {G H0 ρ σ F H} rel Q P => ha.sound rel _ (post_data P fun d v F1 H1 e1 r1 P1 => by
    split at P1
    · rename_i kvs k h hk
      obtain ⟨w, hw, p, ws, rfl, q1, q2, q3⟩ := (rel.step e1).at_ i _ h
      obtain ⟨b, rfl, hb⟩ := asTup_ok r1 hk
      refine ⟨_, hw, p, _, rfl, DGet.t q1 (e1.sub _ _ hb), ?_⟩
      rw [KD.isSome q3]
      exact post_flat e1.sub (.bl _) P1
    · exact P1.elim)
theorem ee_dNinT (hm : behindInMarks .NotIn (.Name x p2) = false := by rfl) : EE X W (.Compare a [.NotIn] [.Name x p2] pos) (tDNotIn ta (tVar i)) (fDNinT i fa) where
  pe := pe_cmp (pc_dnotin hu ha.pe (pe_var hN hv hd hcd)) hm
  sound := fun {G H0 ρ σ F H} rel Q P => ha.sound rel _ (post_data P fun d v F1 H1 e1 r1 P1 => by
    split at P1
    · rename_i kvs k h hk
      obtain ⟨w, hw, p, ws, rfl, q1, q2, q3⟩ := (rel.step e1).at_ i _ h
      obtain ⟨b, rfl, hb⟩ := asTup_ok r1 hk
      refine ⟨_, hw, p, _, rfl, DGet.t q1 (e1.sub _ _ hb), ?_⟩
      rw [KD.isSome q3]
      exact post_flat e1.sub (.bl _) P1
    · exact P1.elim)
theorem et_dinT (hm : behindInMarks .In (.Name x p2) = false := by rfl) : ET X W (.Compare a [.In] [.Name x p2] pos) (tB (tDIn ta (tVar i))) (fTest (fDinT i fa)) :=
  et_ofB (pt_cmp (pc_din hu ha.pe (pe_var hN hv hd hcd)) hm) (ee_dinT i hu ha hN hv hd hcd hm)
theorem et_dNinT (hm : behindInMarks .NotIn (.Name x p2) = false := by rfl) : ET X W (.Compare a [.NotIn] [.Name x p2] pos) (tB (tDNotIn ta (tVar i))) (fTest (fDNinT i fa)) :=
  et_ofB (pt_cmp (pc_dnotin hu ha.pe (pe_var hN hv hd hcd)) hm) (ee_dNinT i hu ha hN hv hd hcd hm)
/-- d[k] -/
@[simp] def fDgetT (i : Nat) (fa : Ev → Rs R) : Ev → Rs R := fun ρ => match ρ[i]? with
  | some (some (.dct kvs)) => (fa ρ).bind fun r => r.d.bind fun x => match asTup x with
    | some k => match valP kvs k with
      | some d => .ok (.val d)
      | none => .bad
    | none => .bad
  | _ => .bad
theorem ee_dgetT (hs : NoSl a := by exact fun _ _ => rfl) : EE X W (.Subscript (.Name x p2) a pos) (tDGet (tVar i) ta) (fDgetT i fa) where
  pe := pe_dget hu (pe_var hN hv hd hcd) ha.pe hs
  sound := fun {G H0 ρ σ F H} rel Q P => by
    unfold fDgetT at P
    split at P
    · rename_i kvs h
      obtain ⟨w, hw, p, ws, rfl, q1, q2, q3⟩ := rel.at_ i _ h
      refine ⟨_, hw, ha.sound rel _ (post_data P fun d v F1 H1 e1 r1 P1 => ?_)⟩
      split at P1
      · rename_i k hk
        obtain ⟨b, rfl, hb⟩ := asTup_ok r1 hk
        have q3' := KD.mono e1.ff q3
        rcases KD.val (k := k) q3' with ⟨_, h2⟩ | ⟨u, y, h1, h2, h3⟩
        · rw [h2] at P1; exact P1.elim
        · rw [h2] at P1
          refine ⟨p, u, rfl, ?_, post_flat e1.sub h3 P1⟩
          rw [← h1]
          exact DGet.t (e1.hh _ _ q1) (e1.sub _ _ hb)
      · exact P1.elim
    · exact P.elim
/-- d.get(k, default) -/
@[simp] def fDget2T (i : Nat) (fa fe : Ev → Rs R) : Ev → Rs R := fun ρ => match ρ[i]? with
  | some (some (.dct kvs)) => (fa ρ).bind fun r => r.d.bind fun x => (fe ρ).bind fun r2 => r2.d.bind fun y => match asTup x with
    | some k => .ok (.val ((valP kvs k).getD y))
    | none => .bad
  | _ => .bad
theorem ee_dget2T {apos : Pos} (he : EE X W e te fe) (m : M2 X (.Name x p2) "get" apos a e pos := by exact ⟨rfl, rfl, rfl, rfl⟩) : EE X W (.Call (.Attribute (.Name x p2) "get" apos) [a, e] [] pos) (tDGet2 (tVar i) ta te) (fDget2T i fa fe) where
  pe := pe_dget2 hu (pe_var hN hv hd hcd) ha.pe he.pe m
  sound := fun {G H0 ρ σ F H} rel Q P => by
    unfold fDget2T at P
    split at P
    · rename_i kvs h
      obtain ⟨w, hw, p, ws, rfl, q1, q2, q3⟩ := rel.at_ i _ h
      refine ⟨_, hw, p, rfl, .inr ⟨ws, .inl q1⟩, ha.sound rel _ (post_data P fun d v F1 H1 e1 r1 P1 => ?_)⟩
      refine he.sound (rel.step e1) _ (post_data P1 fun d2 v2 F2 H2 e2 r2 P2 => ?_)
      split at P2
      · rename_i k hk
        obtain ⟨b, rfl, hb⟩ := asTup_ok r1 hk
        have q3' := KD.mono (e1.ff.trans e2.ff) q3
        refine ⟨valV ws k, DGet.t (e2.hh _ _ (e1.hh _ _ q1)) (e2.hh _ _ (e1.sub _ _ hb)), ?_⟩
        rcases KD.val (k := k) q3' with ⟨h1, h2⟩ | ⟨u, y, h1, h2, h3⟩
        · rw [h1]; rw [h2] at P2
          exact post_flat e2.sub r2 P2
        · rw [h1]; rw [h2] at P2
          exact post_flat e2.sub h3 P2
      · exact P2.elim
    · exact P.elim
/-- d[k] = v -/
@[simp] def gDputT (i : Nat) (fa fe : Ev → Rs R) : Ev → RO := fun ρ => onR ρ ((fe ρ).bind R.d) fun v => match ρ[i]? with
  | some (some (.dct kvs)) => onR ρ ((fa ρ).bind R.d) fun x => match asTup x with
    | some k => if kvs.length < lim then .nx (ρ.set i (some (.dct (putP kvs k v)))) else .bad
    | none => .bad
  | _ => .bad
theorem es_dputT {tpos : Pos} (he : EE X W e te fe) (hsw : swapsWith e (some (.Subscript (.Name x p2) a tpos)) pos.line X.env = pure false := by rfl) : ES X W (.Assign [.Subscript (.Name x p2) a tpos] e pos) (sDPut (tVar i) ta te) (gDputT i fa fe) where
  ps := ps_dput hu (pe_var hN hv hd hcd) ha.pe he.pe hsw
  sound := fun {G H0 ρ σ F H} rel D P => he.sound rel _ (postS_data rel P fun d v F1 H1 e1 r1 P1 => by
    split at P1
    · rename_i kvs h
      have rel1 := rel.step e1
      obtain ⟨w, hw, p, ws, rfl, q1, q2, q3⟩ := rel1.at_ i _ h
      refine ⟨_, hw, ha.sound rel1 _ (postS_data rel1 P1 fun d2 v2 F2 H2 e2 r2 P2 => ?_)⟩
      split at P2
      · rename_i k hk
        obtain ⟨b, rfl, hb⟩ := asTup_ok r2 hk
        split at P2
        · rename_i hl
          have q3' := KD.mono e2.ff q3
          refine ⟨p, _, rfl, DPut.t (e2.hh _ _ q1) (e2.sub _ _ hb) (by rw [KD.len q3']; exact Nat.lt_trans hl lim_lt), P2 _ _ _ ((rel1.step e2).mut h rfl hw (e2.own q1 q2) ⟨p, _, rfl, upd_same, e2.own q1 q2, KD.put (DD.mono e2.ff _ _ r1) q3'⟩ rfl)⟩
        · exact P2.elim
      · exact P2.elim
    · exact P1.elim)
end
/-- sorted(d) -/
@[simp] def fSortedDT (i : Nat) : Ev → Rs R := fun ρ => match ρ[i]? with
  | some (some (.dct kvs)) => if sortable (kvs.map fun kv => kTup kv.1) = true then .ok (.own (sortD (kvs.map fun kv => kTup kv.1))) else .bad
  | _ => .bad
theorem keys_DD {K : PySem.W.Frag} {F : Hp} : ∀ {ws : List (List Key × V)} {bs : List Addr}, Paired (fun (p : List Key × V) (b : Addr) => F b = some (.tup (p.1.map kV))) ws bs → ∀ b ∈ (bs.map V.ref).zip (ws.map fun kv => kTup kv.1), DD F b.1 b.2
  | _, _, .nil => fun _ h => by cases h
  | w :: ws, b :: bs, .cons h t => fun x hx => by
    rw [List.map_cons, List.map_cons, List.zip_cons_cons] at hx
    rcases List.mem_cons.mp hx with rfl | hx
    · have key : ∀ ks : List Key, DDs F (ks.map kV) (ks.map keyD) := fun ks => by
        induction ks with
        | nil => exact .nil
        | cons k ks ih =>
          refine .cons ?_ ih
          cases k with
          | inl i => exact .int i
          | inr x => exact .str x
      exact .tup h (key w.1)
    · exact keys_DD (K := K) t x hx
/-- what stays, with the tuples at these places -/
def addTups (F H : Hp) (bs : List Addr) : Hp := fun a => match F a with
  | some o => some o
  | none => if a ∈ bs then (match H a with | some (.tup xs) => some (.tup xs) | _ => none) else none
theorem addTups_ext {F H : Hp} (s : Same F H) (bs : List Addr) : Ext F H (addTups F H bs) H where
  old := s
  ff := fun a o e => by unfold addTups; rw [e]
  hh := Same.refl _
  sub := fun a o e => by
    unfold addTups at e
    split at e
    · rename_i o' h; cases e; exact s _ _ h
    · split at e
      · split at e
        · rename_i xs h; cases e; exact h
        · cases e
      · cases e
  new := fun a q => by
    unfold addTups at q
    split at q
    · rename_i o' h; exact .inl (by rw [h]; exact fun z => nomatch z)
    · split at q
      · split at q
        · rename_i xs h
          exact .inr fun o e => by rw [h] at e; cases e; exact ⟨xs, rfl⟩
        · exact absurd rfl q
      · exact absurd rfl q
theorem addTups_at {F H : Hp} (s : Same F H) {bs : List Addr} {b : Addr} {xs : List V} (hb : b ∈ bs) (h : H b = some (.tup xs)) : addTups F H bs b = some (.tup xs) := by
  unfold addTups
  cases hF : F b with
  | some o =>
    have := s _ _ hF
    rw [h] at this
    cases this
    rfl
  | none => simp only [if_pos hb, h]
theorem isKeys_add {F H : Hp} (s : Same F H) : ∀ {ws : List (List Key × V)} {bs cs : List Addr}, (∀ b ∈ bs, b ∈ cs) → IsKeys H ws bs → Paired (fun (p : List Key × V) (b : Addr) => addTups F H cs b = some (.tup (p.1.map kV))) ws bs
  | _, _, _, _, .nil => .nil
  | w :: ws, b :: bs, cs, hs, .cons h t => .cons (addTups_at s (hs b List.mem_cons_self) h) (isKeys_add s (fun x hx => hs x (List.mem_cons_of_mem _ hx)) t)
theorem ee_sortedDT (i : Nat) {x : Str} {p2 : Pos} (hu : X.A.units + 64 < cLine) (hm : X.mg "sorted" = none) (hN : X.N[i]? = some x := by rfl) (hv : Vis X.env.scope x := by first | exact Or.inl rfl | exact Or.inr (Or.inl rfl) | exact Or.inr (Or.inr rfl)) (hd : (x == ("__debug__" : Str)) = false := by decide) (hcd : (x == ("__classdict__" : Str)) = false := by decide)
    (hg : Gl X "sorted" := by rfl) (hc : X.calm = true := by rfl) (he : starEach [.Name x p2] X.env = (false, eval (.Name x p2) X.env) :: starEach [] X.env := by rfl) (hpl : (backTo pos (starEach [] X.env)).any (·.1) = false := by rfl) :
    EE X W (.Call (.Name "sorted" p) [.Name x p2] [] pos) (tCB rSortedDT (tCons (tVar i) tNil)) (fSortedDT i) where
  pe := pe_callB (cr_sortedDT hc hu) hg hm (by decide +kernel) (pa_cons (pe_var hN hv hd hcd) pa_nil he) (by decide) (by decide) he hpl
  sound := fun {G H0 ρ σ F H} rel Q P => by
    unfold fSortedDT at P
    split at P
    · rename_i kvs h
      split at P
      · rename_i hc
        obtain ⟨w, hw, p, ws, rfl, q1, q2, q3⟩ := rel.at_ i _ h
        have ek : (ws.map fun kv => kTup kv.1) = kvs.map fun kv => kTup kv.1 := by
          have := congrArg (List.map kTup) (KD.keys q3)
          rw [List.map_map, List.map_map] at this
          exact this
        obtain ⟨a1, a2, a3⟩ := sortable_ok hc
        refine ⟨_, hw, p, ws, rfl, q1, by rw [ek]; exact a1, by rw [ek]; exact a2, fun l bs nl isk => ?_⟩
        have ex := addTups_ext rel.sub bs
        have dd := srt_DDs (keys_DD (K := X.K) (isKeys_add rel.sub (fun _ q => q) isk))
        rw [(keys_zip (K := X.K) isk).2.1, ek] at dd
        rw [ek] at *
        have nl' : H l = none := nl
        exact P _ _ _ (ex.trans (Ext.addH ex.sub nl')) ⟨⟨l, _, rfl, upd_same, ex.sub.free nl', dd⟩, fun _ q e => by cases e; exact nl'⟩
      · exact P.elim
    · exact P.elim
end
end DN
/-! Den14: sorted(set(xs)), len(set(xs)) of ints; list(range(n)); lists of ours: membership, stores. -/
namespace DN
open PySem PySem.Spec PyProof.Rows L2
abbrev noneYet (w : World) : Obj := { cls := .type "set", dict := none, data := .set #[] 0 (.fresh 0 0 (!w.params.followText "set-order")) }
section
variable {P : Program} {w : World} {A : Around} {E : Value → Shared → Prop} {s : Shared}
set_option maxRecDepth 100000 in
set_option maxHeartbeats 3200000 in
/-- set(xs), xs a list of ints -/
theorem set_of_list {l : Addr} {its : Array Value} (ns : List Int) {Q : Value → Shared → Prop} (nh : A.handled = none) (isl : s.heap.IsList l its) (iA : IntsAre its.toList ns) (small : ns.length + 1 < scanBound)
    (fin : ∀ (g : Heap) (tk c : Nat), SetR w g s.heap.objs.size (fun j => decide (j ∈ ns)) c → c ≤ ns.length → (∀ b o, s.heap.get? b = some o → g.get? b = some o) → Q (.ref s.heap.objs.size) { s with heap := g, toks := tk }) :
    wpAny (model P w) A (call (.type "set") [.ref l]) Q E s := by
  have isz : its.size = ns.length := by
    have q := IntsAre.length iA
    rw [Array.length_toList] at q
    exact q
  obtain ⟨c, tl, m1⟩ := F.called_set.mro
  have m2 := F.called_set.made
  have m3 := F.called_set.sub
  refine wpAny_call (codeAny_of_tree ?_)
  show wpAny _ A.in1 (callAny (.type "set") _) _ _ s
  refine wpAny_pure ⟨Code.quiet_builtin _ (by decide +kernel), codeAny_builtin F.entry_type_call ?_⟩ <;> skip
  rw [Around.under_plain (weight_type_call_type "set" [.ref l] []) rfl] <;> skip
  have m4 := F.called_set.notType
  have m5 := F.called_set.canCreate
  have m6 := F.typeCall_set_1 (.ref l)
  (repeat (any_goals (first | assumption | wp_step)))
  refine codeAny_mono (code_set_led1 (.ref l) (E := E) (Q₁ := fun obj s₁ => obj = .ref s.heap.objs.size ∧ s₁ = { s with heap := s.heap.push (noneYet w) }) ⟨rfl, rfl⟩) fun r s₁ hr => ?_
  cases r with
  | error e => exact hr
  | ok fl =>
    cases fl with
    | ret obj =>
      obtain ⟨rfl, rfl⟩ := hr
      have hS : (s.heap.push (noneYet w)).get? s.heap.objs.size = some (noneYet w) := Heap.get?_push_size _ rfl
      have hT : Shared.TypeIs { s with heap := s.heap.push (noneYet w) } (.ref s.heap.objs.size) "set" := ⟨_, hS, rfl⟩
      have m7 := F.called_set.init.lookup
      have m8 := F.called_set.init.bind (.ref s.heap.objs.size)
      (repeat (any_goals (first | assumption | wp_step)))
      refine codeAny_mono (codeAny_call_builtin (R := wants (fun r t => r = .none ∧ ∃ g tk c, t = { s with heap := g, toks := tk } ∧ SetR w g s.heap.objs.size (fun j => decide (j ∈ ns)) c ∧ c ≤ ns.length ∧ ∀ b o, s.heap.get? b = some o → g.get? b = some o) E) F.called_set.init.plain F.entry_set_init (check_set_init_1 hT ?_)) fun r2 s2 hr2 => ?_
      · obtain ⟨ol, hol, hcl, nl, hdl⟩ := isl
        obtain ⟨oc, od, oda, osl⟩ := ol
        simp only at hcl hdl
        subst hcl; subst hdl
        have at1 : (s.heap.push (noneYet w)).get? l = some { cls := .type "list", dict := od, data := .seq its nl, slots := osl } := Heap.get?_push_of_some _ hol
        have n1 := F.sub_list_set
        have n2 := F.sub_list_frozenset
        have n3 : (Value.type "list" == Value.type "dict") = false := rfl
        have l1 : (s.heap.push (noneYet w)).IsList l its := ⟨_, at1, rfl, nl, rfl⟩
        unfold Builtin.«set.__init__» noKeywords <;> unfold Builtin.Frozenset.updateFrom
        generalize hPI : pyIter = PI
        wp_walk
        subst hPI
        refine wpAny_pyIter_list l1 (wpAny_bind (wpAny_runValue ?_))
        have lS : l < s.heap.objs.size := Heap.lt_size hol
        have nh3 : A.in1.in1.in1.handled = none := by simp [nh]
        have sz1 : (s.heap.push (noneYet w)).objs.size = s.heap.objs.size + 1 := Heap.size_push ..
        have ne1 : l ≠ (s.heap.push (noneYet w)).objs.size := by rw [sz1]; exact Nat.ne_of_lt (Nat.lt_succ_of_lt lS)
        have out1 : s.heap.objs.size ∉ [(s.heap.push (noneYet w)).objs.size, l] := by
          intro z
          rw [sz1] at z
          rcases List.mem_cons.mp z with z | z
          · exact absurd z (Nat.ne_of_lt (Nat.lt_succ_self _))
          · exact absurd (List.mem_singleton.mp z) (Nat.ne_of_gt lS)
        have each : ∀ (i : Nat) (v : Value), its[i]? = some v → ∃ k t, ns[i]? = some k ∧ v = .int k t := fun i v hv => by
          have hi : i < ns.length := by rw [← isz]; exact (Array.getElem?_eq_some_iff.mp hv).1
          obtain ⟨t, e⟩ := PyProof.Rows.IntsAre.int_at iA i v (by rw [Array.getElem?_toList] <;> exact hv)
          refine ⟨ns[i], t, List.getElem?_eq_getElem hi, ?_⟩ <;> rw [e, List.getD_eq_getElem?_getD, List.getElem?_eq_getElem hi] <;> rfl
        refine set_update_ints ((Walks.list nh3 _ l ne1 its).toS) s.heap.objs.size out1 ns isz small each (its.size - 0) 0 _ (by omega) (Nat.zero_le _) ⟨⟨_, Heap.get?_push_size _ rfl, rfl, rfl⟩, (l1.push _)⟩ ?S0 ?SR
        case S0 =>
          have at2 : ((s.heap.push (noneYet w)).push { cls := .type "list_iterator", data := .fields #[.ref l, .int 0 0] }).get? s.heap.objs.size = some (noneYet w) := Heap.get?_push_of_some _ hS
          exact ⟨0, Nat.le_refl 0, setR_new_at at2⟩
        case SR =>
          intro s' c' mv hc' hS'
          obtain ⟨g, g2, d', tk', os'⟩ := s'
          have eg : g2 = s.gens := mv.gens
          have ed : d' = s.drawn := mv.drawn
          have eo : os' = s.os := mv.os
          subst eg; subst ed; subst eo
          show wpAny _ _ _ _ _ _
          refine wpAny_pure ?_
          show wpAny _ _ (ret Value.none) _ _ _
          rw [isz] at hc'
          refine wpAny_pure ⟨rfl, g, tk', c', rfl, hS', hc', fun b o e => ?_⟩
          have hb0 : b < s.heap.objs.size := Heap.lt_size e
          refine mv.heap b o ?_ (Heap.get?_push_of_some _ (Heap.get?_push_of_some _ e))
          intro z
          rw [sz1] at z
          rcases List.mem_cons.mp z with z | z
          · exact absurd z (Nat.ne_of_lt hb0)
          · exact absurd (List.mem_singleton.mp z) (Nat.ne_of_lt (Nat.lt_succ_of_lt hb0))
      · cases r2 with
        | error e => exact hr2
        | ok fl2 =>
          cases fl2 with
          | ret r =>
            obtain ⟨rfl, g, tk, c', rfl, hS', hc', hk'⟩ := hr2
            (repeat (any_goals (first | assumption | wp_step)))
            exact fin _ _ _ hS' hc' hk'
          | _ => exact hr2.elim
    | _ => exact hr.elim
end
end DN
namespace DN
open PySem PySem.Spec PyProof.Rows L2
/-! ### denotations -/
/-- the members of a list of ints, ascending, each once -/
def sortU (ns : List Int) : List Int := (ns.mergeSort (fun a b => decide (a ≤ b))).eraseDups
theorem lt_unique : ∀ {xs ys : List Int}, xs.Pairwise (· < ·) → ys.Pairwise (· < ·) → (∀ k, k ∈ xs ↔ k ∈ ys) → xs = ys
  | [], [], _, _, _ => rfl
  | [], y :: ys, _, _, h => by have := (h y).mpr List.mem_cons_self; cases this
  | x :: xs, [], _, _, h => by have := (h x).mp List.mem_cons_self; cases this
  | x :: xs, y :: ys, h1, h2, h => by
    rw [List.pairwise_cons] at h1 h2
    have e : x = y := by
      rcases List.mem_cons.mp ((h x).mp List.mem_cons_self) with e | e
      · exact e
      · rcases List.mem_cons.mp ((h y).mpr List.mem_cons_self) with e2 | e2
        · exact e2.symm
        · have := h2.1 x e
          have := h1.1 y e2
          omega
    subst e
    congr 1
    refine lt_unique h1.2 h2.2 fun k => ⟨fun hk => ?_, fun hk => ?_⟩
    · rcases List.mem_cons.mp ((h k).mp (List.mem_cons_of_mem _ hk)) with e | e
      · subst e
        have := h1.1 k hk
        omega
      · exact e
    · rcases List.mem_cons.mp ((h k).mpr (List.mem_cons_of_mem _ hk)) with e | e
      · subst e
        have := h2.1 k hk
        omega
      · exact e
theorem eraseDups_lt : ∀ (n : Nat) (xs : List Int), xs.length ≤ n → xs.Pairwise (· ≤ ·) → xs.eraseDups.Pairwise (· < ·)
  | _, [], _, _ => by rw [List.eraseDups_nil]; exact .nil
  | 0, x :: xs, hn, _ => by simp at hn
  | n + 1, x :: xs, hn, h => by
    rw [List.eraseDups_cons, List.pairwise_cons]
    rw [List.pairwise_cons] at h
    refine ⟨fun y hy => ?_, ?_⟩
    · have hy := List.mem_eraseDups.mp hy
      rw [List.mem_filter] at hy
      have h1 := h.1 y hy.1
      have h2 : y ≠ x := by simpa using hy.2
      omega
    · refine eraseDups_lt n _ ?_ (h.2.filter _)
      have := List.length_filter_le (fun b => !b == x) xs
      simp at hn
      omega
theorem sortU_lt (ns : List Int) : (sortU ns).Pairwise (· < ·) := by
  unfold sortU
  refine eraseDups_lt _ _ (Nat.le_refl _) ?_
  have := List.pairwise_mergeSort (le := fun a b : Int => decide (a ≤ b)) (fun a b c h1 h2 => by simp at *; omega) (fun a b => by simp; omega) ns
  simpa using this
theorem mem_sortU (ns : List Int) (k : Int) : k ∈ sortU ns ↔ k ∈ ns := by
  unfold sortU
  rw [List.mem_eraseDups, List.mem_mergeSort]
section
variable {X : Cx}
def rSetOfI (K : PySem.W.Frag) (w : World) : List V → Hp → VK → Prop := fun xs H Q => ∃ (l : Addr) (ns : List Int), xs = [V.ref l] ∧ SqL K H l (ns.map V.int) ∧ ns.length ≤ 1000 ∧
  ∀ a, H a = none → Q (.ref a) (upd H a (SetO w a (fun j => decide (j ∈ ns)) (sortU ns).length))
theorem setR_len {w : World} {h : Heap} {a : Addr} {ns : List Int} {c : Nat} (R : SetR w h a (fun j => decide (j ∈ ns)) c) : c = (sortU ns).length := by
  obtain ⟨o, es, ep, t, ho, hex, hdt, g, nd, hm, hb, hf, hn, _⟩ := R
  have hm : ∀ k, k ∈ es.toList.map keyOf ↔ k ∈ sortU ns := fun k => by
    rw [← hm k, mem_sortU]
    simp
  have nd2 : (sortU ns).Nodup := (sortU_lt ns).imp fun {a b} h => by omega
  have h1 := List.Nodup.length_le_of_subset nd (l₂ := sortU ns) fun k hk => (hm k).mp hk
  have h2 := List.Nodup.length_le_of_subset nd2 (l₂ := es.toList.map keyOf) fun k hk => (hm k).mpr hk
  have e1 : (es.toList.map keyOf).length = c := by rw [List.length_map, Array.length_toList]; exact hn
  omega
theorem cr_setOfI (hc : X.calm = true) : CallR X (.type "set") (rSetOfI X.K X.w) := by
  intro pins s σ H xs us Q I r h
  obtain ⟨l, ns, rfl, hl, hn, q⟩ := h
  rw [Vals.ref1 r]
  obtain ⟨its, rv, pl, hz⟩ := I.list hl
  refine set_of_list ns (I.ok.hd hc) pl.isList (by simpa using rv.ints) (by unfold scanBound; omega) fun g tk c R hcn k => ?_
  have hc := setR_len R
  subst hc
  exact ⟨.ref s.heap.objs.size, upd H s.heap.objs.size (SetO X.w s.heap.objs.size (fun j => decide (j ∈ ns)) (sortU ns).length), I.laid (t' := tk) k (Nat.le_refl _) (setO_new R), rfl, q _ (I.hok.fresh (Nat.le_refl _))⟩
end
def setSortedD : PyData → Rs R
  | .list ds => match asIs ds with
    | some ns => if ns.length ≤ 1000 ∧ (sortU ns).length < 64 then .ok (.own ((sortU ns).map .int)) else .bad
    | none => .bad
  | _ => .bad
section
variable {X : Cx} {W : WX} {a e : Expr} {ta te : TE} {fa : Ev → Rs R} {pos p p2 q : Pos} (K : PySem.W.Frag) (w : World)
theorem ek_setSorted (hm : X.mg "sorted" = none) (hm2 : X.mg "set" = none) (ha : EE X W a ta fa) (hg : Gl X "sorted" := by rfl) (hg2 : Gl X "set" := by rfl) (hc : X.calm = true := by rfl)
    (na : starEach [a] X.env = (false, eval a X.env) :: starEach [] X.env := by rfl) (ns : starEach [.Call (.Name "set" p2) [a] [] q] X.env = (false, eval (.Call (.Name "set" p2) [a] [] q) X.env) :: starEach [] X.env := by rfl)
    (hpl : (backTo pos (starEach [] X.env)).any (·.1) = false := by rfl) (hpl2 : (backTo q (starEach [] X.env)).any (·.1) = false := by rfl) (hK : X.K = K := by rfl) (hw : X.w = w := by rfl) :
    EE X W (.Call (.Name "sorted" p) [.Call (.Name "set" p2) [a] [] q] [] pos) (tCB (rSortedSet w) (tCons (tCB (rSetOfI K w) (tCons ta tNil)) tNil)) (fUn setSortedD fa) := by
  subst hK hw
  refine ⟨pe_callB (cr_sortedSet hc) hg hm (by decide +kernel) (pa_cons (pe_callTy (cr_setOfI hc) hg2 hm2 (by decide +kernel) (pa_cons ha.pe pa_nil na) (by decide) (by decide) na hpl2) pa_nil ns) (by decide) (by decide) ns hpl, fun {G H0 ρ σ F H} rel Q P => ?_⟩
  refine ha.sound rel _ (post_data P fun d v F1 H1 e1 r1 P1 => ?_)
  unfold setSortedD at P1
  cases r1 with
  | @lst l xs ds hl r =>
    dsimp only at P1
    split at P1
    · rename_i ns hns
      split at P1
      · rename_i h64
        have := asIs_eq hns
        subst this
        have := r.ofInts
        subst this
        refine ⟨l, ns, rfl, SqL.of (e1.sub _ _ hl), h64.1, fun s hs => ?_⟩
        refine ⟨s, _, _, rfl, upd_same, h64.2, fun ys p hp hmem _ hn => ?_⟩
        have ey : ys = sortU ns := lt_unique hp (sortU_lt ns) fun k => by
          rw [hmem k, mem_sortU]
          simp
        subst ey
        have np : H1 p = none := by
          by_cases z : p = s
          · subst z; rw [upd_same] at hn; cases hn
          · rw [upd_ne z] at hn; exact hn
        have ex : Ext F1 H1 F1 (upd (upd H1 s (SetO X.w s (fun j => decide (j ∈ ns)) (sortU ns).length)) p (.lst ((sortU ns).map V.int))) := (Ext.addH e1.sub hs).trans (Ext.addH ((e1.sub).trans (same_new hs)) hn)
        exact P1 _ _ _ ex ⟨⟨p, _, rfl, upd_same, e1.sub.free np, DDs.ints _⟩, fun _ q e => by cases e; exact np⟩
      · exact P1.elim
    · exact P1.elim
  | _ => exact P1.elim
end
/-! ### in, over a list of ours -/
theorem post_thaw {K : PySem.W.Frag} {mg : Str → Option Value} {W : WX} {σ : L2.St} {F H : Hp} {Q : VK} {p : Addr} {vs : List V} {b : Bool} (hp : H p = some (.lst vs)) (hF : F p = none) (P : Post K mg W σ F H Q (.ok (.val (.bool b)))) : Post K mg W σ (upd F p (.lst vs)) H Q (.ok (.val (.bool b))) := by
  intro v F' H' e r
  have hr : DD F' v (.bool b) := r.1
  cases hr
  refine P (.bl b) (fun a => if a = p then none else F' a) H' ⟨?_, fun a o q => ?_, e.hh, fun a o q => ?_, fun a q => ?_⟩ ⟨.bl b, fun z => by cases z⟩
  · exact fun a o q => e.old a o (by rw [upd_ne (ne_of_none q hF)]; exact q)
  · have : a ≠ p := ne_of_none q hF
    show (if a = p then none else F' a) = some o
    rw [if_neg this]
    exact e.ff a o (by rw [upd_ne this]; exact q)
  · have q : (if a = p then none else F' a) = some o := q
    split at q
    · cases q
    · exact e.sub a o q
  · have q : (if a = p then none else F' a) ≠ none := q
    split at q
    · exact absurd rfl q
    · rename_i hne
      rcases e.new a q with z | z
      · rw [upd_ne hne] at z
        exact .inl z
      · exact .inr z
@[simp] def fOin (i : Nat) (fa : Ev → Rs R) : Ev → Rs R := fun ρ => (fa ρ).bind fun r => r.d.bind fun x => match ρ[i]? with
  | some (some (.own ds)) => opIn x (.list ds)
  | some (some (.val d)) => opIn x d
  | _ => .bad
@[simp] def fONin (i : Nat) (fa : Ev → Rs R) : Ev → Rs R := fun ρ => (fa ρ).bind fun r => r.d.bind fun x => match ρ[i]? with
  | some (some (.own ds)) => opNotIn x (.list ds)
  | some (some (.val d)) => opNotIn x d
  | _ => .bad
section
variable {X : Cx} {W : WX} {a : Expr} {ta : TE} {fa : Ev → Rs R} {pos : Pos} (K : PySem.W.Frag)
  (i : Nat) {x : Str} {p2 : Pos} (hu : X.A.units + 65 < cLine) (ha : EE X W a ta fa)
  (hN : X.N[i]? = some x := by rfl) (hv : Vis X.env.scope x := by first | exact Or.inl rfl | exact Or.inr (Or.inl rfl) | exact Or.inr (Or.inr rfl)) (hd : (x == ("__debug__" : Str)) = false := by decide) (hcd : (x == ("__classdict__" : Str)) = false := by decide)
include hu ha hN hv hd hcd
theorem ek_oin (hm : behindInMarks .In (.Name x p2) = false := by rfl) (hK : X.K = K := by rfl) : EE X W (.Compare a [.In] [.Name x p2] pos) (tOp (rInA K) ta (tVar i)) (fOin i fa) := by
  subst hK
  refine ⟨pe_cmpR (op_inA hu) ha.pe (pe_var hN hv hd hcd) hm, fun {G H0 ρ σ F H} rel Q P => ha.sound rel _ (post_data P fun d v F1 H1 e1 r1 P1 => ?_)⟩
  split at P1
  · rename_i ds h
    obtain ⟨w, hw, p, vs, rfl, q1, q2, q3⟩ := (rel.step e1).at_ i _ h
    have sm : Same F1 (upd F1 p (.lst vs)) := same_new q2
    have sb : Same (upd F1 p (.lst vs)) H1 := fun b o q => by
      by_cases z : b = p
      · subst z; rw [upd_same] at q; rw [q1]; exact q
      · rw [upd_ne z] at q; exact e1.sub _ _ q
    refine ⟨_, hw, od_in (W := W) (σ := σ) sb (DD.mono sm _ _ r1) (.lst upd_same (DDs.mono sm _ _ q3)) ?_⟩
    unfold opIn at P1 ⊢
    cases hi : inD d (.list ds) with
    | ok b => rw [hi] at P1; exact post_thaw q1 q2 P1
    | err c => rw [hi] at P1; exact P1
    | bad => rw [hi] at P1; exact P1.elim
  · rename_i e h
    obtain ⟨w, hw, q⟩ := (rel.step e1).at_ i _ h
    exact ⟨_, hw, od_in (W := W) (σ := σ) e1.sub r1 q P1⟩
  · exact P1.elim
theorem ek_oNin (hm : behindInMarks .NotIn (.Name x p2) = false := by rfl) (hK : X.K = K := by rfl) : EE X W (.Compare a [.NotIn] [.Name x p2] pos) (tOp (rNotInA K) ta (tVar i)) (fONin i fa) := by
  subst hK
  refine ⟨pe_cmpR (op_notInA hu) ha.pe (pe_var hN hv hd hcd) hm, fun {G H0 ρ σ F H} rel Q P => ha.sound rel _ (post_data P fun d v F1 H1 e1 r1 P1 => ?_)⟩
  split at P1
  · rename_i ds h
    obtain ⟨w, hw, p, vs, rfl, q1, q2, q3⟩ := (rel.step e1).at_ i _ h
    have sm : Same F1 (upd F1 p (.lst vs)) := same_new q2
    have sb : Same (upd F1 p (.lst vs)) H1 := fun b o q => by
      by_cases z : b = p
      · subst z; rw [upd_same] at q; rw [q1]; exact q
      · rw [upd_ne z] at q; exact e1.sub _ _ q
    refine ⟨_, hw, od_notIn (W := W) (σ := σ) sb (DD.mono sm _ _ r1) (.lst upd_same (DDs.mono sm _ _ q3)) ?_⟩
    unfold opNotIn at P1 ⊢
    cases hi : inD d (.list ds) with
    | ok b => rw [hi] at P1; exact post_thaw q1 q2 P1
    | err c => rw [hi] at P1; exact P1
    | bad => rw [hi] at P1; exact P1.elim
  · rename_i e h
    obtain ⟨w, hw, q⟩ := (rel.step e1).at_ i _ h
    exact ⟨_, hw, od_notIn (W := W) (σ := σ) e1.sub r1 q P1⟩
  · exact P1.elim
theorem tk_oin (hm : behindInMarks .In (.Name x p2) = false := by rfl) (hK : X.K = K := by rfl) : ET X W (.Compare a [.In] [.Name x p2] pos) (tTest (tOp (rInA K) ta (tVar i))) (fTest (fOin i fa)) := by
  subst hK
  exact et_of (pt_cmpR (op_inA hu) ha.pe (pe_var hN hv hd hcd) hm) (ek_oin _ i hu ha hN hv hd hcd hm rfl)
theorem tk_oNin (hm : behindInMarks .NotIn (.Name x p2) = false := by rfl) (hK : X.K = K := by rfl) : ET X W (.Compare a [.NotIn] [.Name x p2] pos) (tTest (tOp (rNotInA K) ta (tVar i))) (fTest (fONin i fa)) := by
  subst hK
  exact et_of (pt_cmpR (op_notInA hu) ha.pe (pe_var hN hv hd hcd) hm) (ek_oNin _ i hu ha hN hv hd hcd hm rfl)
end
/-! ### list(range(..)) -/
theorem rgV_DDs {F : Hp} (i j : Int) : DDs F (rgV i j) (rngD i (j - i).toNat) := by
  unfold rgV rngD
  generalize List.range (j - i).toNat = xs
  induction xs with
  | nil => exact .nil
  | cons x xs ih => exact .cons (.int _) ih
@[simp] def fListRange (fa : Ev → Rs R) : Ev → Rs R := fun ρ => (fa ρ).bind fun r => r.d.bind fun x => match x with
  | .int n => if n.natAbs ≤ 1000000 then .ok (.own (rngD 0 n.toNat)) else .bad
  | _ => .bad
theorem ee_listRange {X : Cx} {W : WX} {a : Expr} {ta : TE} {fa : Ev → Rs R} {pos p q p2 : Pos} (ha : EE X W a ta fa) (hm : X.mg "list" = none) (hm2 : X.mg "range" = none) (hg : Gl X "list" := by rfl) (hg2 : Gl X "range" := by rfl) (hc : X.calm = true := by rfl)
    (na : starEach [a] X.env = (false, eval a X.env) :: starEach [] X.env := by rfl) (nr : starEach [.Call (.Name "range" p2) [a] [] q] X.env = (false, eval (.Call (.Name "range" p2) [a] [] q) X.env) :: starEach [] X.env := by rfl) :
    EE X W (.Call (.Name "list" p) [.Call (.Name "range" p2) [a] [] q] [] pos) (tLstRg (tRg1 ta)) (fListRange fa) where
  pe := pe_listRg hc hg hm (prg_1 hg2 hm2 ha.pe na) nr
  sound := fun {G H0 ρ σ F H} rel Q P => ha.sound rel _ (post_data P fun d v F1 H1 e1 r1 P1 => by
    cases r1 with
    | int n =>
      dsimp only at P1
      split at P1
      · refine ⟨n, rfl, ⟨by omega, by omega, by omega, by omega, by omega⟩, ?_⟩
        have q := rgV_DDs (F := F1) 0 n
        rw [show (n - 0).toNat = n.toNat by omega] at q
        exact new_lst e1.sub q P1
      · exact P1.elim
    | _ => exact P1.elim)
end DN
/-! Den16: sorted(set(xs)) of pairs, the list long, the set short; len(set(xs)) of ints. -/
namespace DN
open PySem PySem.Spec PyProof.Rows L2
section
variable {P : Program} {w : World} {A : Around} {E : Value → Shared → Prop} {s : Shared}
theorem few_of {h : Heap} {a : Addr} {L : List (Addr × List Int)} {es : Array (Int × Value)} {ep : Nat} {t : SetTable} (R : SetTR P w h a L es ep t) {D : List (List Int)} (hd : ∀ p ∈ L, p.2 ∈ D) : L.length ≤ D.length := by
  have := List.Nodup.length_le_of_subset R.nd (l₂ := D) fun k hk => by
    obtain ⟨p, hp, rfl⟩ := List.mem_map.mp hk
    exact hd p hp
  simpa using this
/-- the loop behind set(xs): the list may be long, what it holds is among few -/
theorem set_loop {I : Addr} {fp wr : List Addr} {G : Array GenState → Array GenState → Prop} {n : Nat} {Pv : Nat → Value → Prop} {St : Nat → Shared → Prop} {R : Result → Shared → Prop}
    (wk : WalksS P w A.in1 I fp wr G n Pv St) (z : Addr) (nz : z ∉ fp) (ks : List (Addr × List Int)) (len : n = ks.length) (D : List (List Int)) (small : D.length + 1 < 64) (inD : ∀ p ∈ ks, p.2 ∈ D) (each : ∀ i v, Pv i v → ∃ p, ks[i]? = some p ∧ v = .ref p.1)
    (h0 : Heap) (tups : ∀ p ∈ ks, IsT P w h0 p.2 p.1) (z0 : h0.get? z = none) (w0 : ∀ b ∈ wr, h0.get? b = none) (room : A.in1.units < cLine) :
    ∀ (k i : Nat) (s : Shared), n - i = k → i ≤ n → St i s → (∀ b o, h0.get? b = some o → s.heap.get? b = some o) → (∃ L es ep t, SetTR P w s.heap z L es ep t ∧ Got ks i L) →
      (∀ s' L es ep t, Moved (z :: wr) G s s' → SetTR P w s'.heap z L es ep t → Got ks n L → (∀ b o, h0.get? b = some o → s'.heap.get? b = some o) → R (.ok (.ret .none)) s') →
      codeAny (model P w) A (.builtin "set.update.loop" ⟨[.ref z, .ref I], []⟩) R s := by
  have zw : z ∉ wr := fun q => nz (wk.sub _ q)
  have more : ∀ b ∈ wr, b ∈ z :: wr := fun b q => List.mem_cons_of_mem _ q
  have stay : ∀ {s s' : Shared}, Moved wr G s s' → (∀ b o, h0.get? b = some o → s.heap.get? b = some o) → ∀ b o, h0.get? b = some o → s'.heap.get? b = some o := fun mv old b o e =>
    mv.heap b o (fun q => by rw [w0 b q] at e; cases e) (old b o e)
  intro k
  induction k with
  | zero =>
    intro i s ek hi st old ⟨L, es, ep, t, T, g⟩ fin
    have ei : i = n := by omega
    subst ei
    refine codeAny_builtin F.entry_set_update_loop ?_ <;> skip
    rw [Around.under_plainId F.plain_set_update_loop _] <;> skip
    show wpAny (model P w) A.in1 (pyNext (.ref I) >>= _) _ _ s
    refine wpAny_bind (wk.done s _ _ st fun s1 mv => ?_)
    show wpAny (model P w) A.in1 (ret Value.none) _ _ s1
    have old1 := stay mv old
    have T1 := T.keep (h' := s1.heap) (fun o e => mv.heap z o zw e) fun p hp => isT_keep (tups p (List.mem_of_mem_take (g.sub p hp))) old1
    exact wpAny_pure (fin s1 L es ep t (mv.mono more) T1 g old1)
  | succ k ih =>
    intro i s ek hi st old ⟨L, es, ep, t, T, g⟩ fin
    have lt : i < n := by omega
    refine codeAny_builtin F.entry_set_update_loop ?_ <;> skip
    rw [Around.under_plainId F.plain_set_update_loop _] <;> skip
    show wpAny (model P w) A.in1 (pyNext (.ref I) >>= _) _ _ s
    refine wpAny_bind (wk.item i s _ _ lt st fun v s1 pv st1 mv => ?_)
    obtain ⟨p, hp, rfl⟩ := each i v pv
    have old1 := stay mv old
    have inL : ∀ q ∈ L, q ∈ ks := fun q hq => List.mem_of_mem_take (g.sub q hq)
    have T1 := T.keep (h' := s1.heap) (fun o e => mv.heap z o zw e) fun p hp => isT_keep (tups p (inL p hp)) old1
    have tp : IsT P w s1.heap p.2 p.1 := isT_keep (tups p (List.mem_of_getElem? hp)) old1
    have few := few_of T1 (D := D) fun q hq => inD q (inL q hq)
    show wpAny (model P w) A.in1 (holding [Value.ref p.1] (setAdd z (.ref p.1)) >>= _) _ _ s1
    refine wpAny_bind (wpAny_holding ?_) <;> unfold setAdd
    refine wpAny_holding (wpAny_bind (wpAny_pyHash_tuple room tp ?_))
    refine add_at (s := { s1 with toks := s1.toks + (p.2.length + 1) }) T1 tp room (by omega) fun b h2 L2 es2 ep2 t2 sb T2 c1 c2 => ?_
    have g2 : Got ks (i + 1) L2 := by
      by_cases c : p.2 ∈ L.map (·.2)
      · rw [c1 c] <;> exact g.same hp c
      · exact g.more hp (c2 c)
    have old2 : ∀ b o, h0.get? b = some o → h2.get? b = some o := fun b o e => (sb.2 b (fun q => by rw [q, z0] at e; cases e)).trans (old1 b o e)
    refine wpAny_pure ⟨plainId_quiet F.plain_set_update_loop _, ih (i + 1) _ (by omega) lt (wk.frame _ s1 _ _ st1 (Nat.le_add_right _ _) fun b hb o e => ?_) old2 ⟨L2, es2, ep2, t2, T2, g2⟩ fun s3 L3 es3 ep3 t3 mv3 T3 g3 old3 => ?_⟩
    · rw [sb.2 b (fun q : b = z => nz (q ▸ hb))] <;> exact e
    · refine fin s3 L3 es3 ep3 t3 (Moved.trans wk.gtrans ((mv.mono more).then_heap (Nat.le_add_right _ _) fun b o hb e => ?_) mv3) T3 g3 old3
      rw [sb.2 b (fun q : b = z => hb (q ▸ List.mem_cons_self))] <;> exact e
set_option maxRecDepth 100000 in
set_option maxHeartbeats 3200000 in
/-- set(xs), xs a list of tuples of ints -/
theorem set_of_tups {l : Addr} {its : Array Value} (ks : List (Addr × List Int)) {Q : Value → Shared → Prop} (nh : A.handled = none) (isl : s.heap.IsList l its) (iA : its.toList = ks.map fun p => Value.ref p.1)
    (tups : ∀ p ∈ ks, IsT P w s.heap p.2 p.1) (D : List (List Int)) (small : D.length + 1 < 64) (inD : ∀ p ∈ ks, p.2 ∈ D) (room : A.units + 3 < cLine)
    (fin : ∀ (g : Heap) (tk : Nat) L es ep t, SetTR P w g s.heap.objs.size L es ep t → Got ks ks.length L → (∀ b o, s.heap.get? b = some o → g.get? b = some o) → Q (.ref s.heap.objs.size) { s with heap := g, toks := tk }) :
    wpAny (model P w) A (call (.type "set") [.ref l]) Q E s := by
  have isz : its.size = ks.length := by
    have q := congrArg List.length iA
    simpa using q
  obtain ⟨c, tl, m1⟩ := F.called_set.mro
  have m2 := F.called_set.made
  have m3 := F.called_set.sub
  refine wpAny_call (codeAny_of_tree ?_)
  show wpAny _ A.in1 (callAny (.type "set") _) _ _ s
  refine wpAny_pure ⟨Code.quiet_builtin _ (by decide +kernel), codeAny_builtin F.entry_type_call ?_⟩ <;> skip
  rw [Around.under_plain (weight_type_call_type "set" [.ref l] []) rfl] <;> skip
  have m4 := F.called_set.notType
  have m5 := F.called_set.canCreate
  have m6 := F.typeCall_set_1 (.ref l)
  (repeat (any_goals (first | assumption | wp_step)))
  refine codeAny_mono (code_set_led1 (.ref l) (E := E) (Q₁ := fun obj s₁ => obj = .ref s.heap.objs.size ∧ s₁ = { s with heap := s.heap.push (noneYet w) }) ⟨rfl, rfl⟩) fun r s₁ hr => ?_
  cases r with
  | error e => exact hr
  | ok fl =>
    cases fl with
    | ret obj =>
      obtain ⟨rfl, rfl⟩ := hr
      have hS : (s.heap.push (noneYet w)).get? s.heap.objs.size = some (noneYet w) := Heap.get?_push_size _ rfl
      have hT : Shared.TypeIs { s with heap := s.heap.push (noneYet w) } (.ref s.heap.objs.size) "set" := ⟨_, hS, rfl⟩
      have m7 := F.called_set.init.lookup
      have m8 := F.called_set.init.bind (.ref s.heap.objs.size)
      (repeat (any_goals (first | assumption | wp_step)))
      refine codeAny_mono (codeAny_call_builtin (R := wants (fun r t => r = .none ∧ ∃ g tk L es ep tb, t = { s with heap := g, toks := tk } ∧ SetTR P w g s.heap.objs.size L es ep tb ∧ Got ks ks.length L ∧ ∀ b o, s.heap.get? b = some o → g.get? b = some o) E) F.called_set.init.plain F.entry_set_init (check_set_init_1 hT ?_)) fun r2 s2 hr2 => ?_
      · obtain ⟨ol, hol, hcl, nl, hdl⟩ := isl
        obtain ⟨oc, od, oda, osl⟩ := ol
        simp only at hcl hdl
        subst hcl; subst hdl
        have at1 : (s.heap.push (noneYet w)).get? l = some { cls := .type "list", dict := od, data := .seq its nl, slots := osl } := Heap.get?_push_of_some _ hol
        have n1 := F.sub_list_set
        have n2 := F.sub_list_frozenset
        have n3 : (Value.type "list" == Value.type "dict") = false := rfl
        have l1 : (s.heap.push (noneYet w)).IsList l its := ⟨_, at1, rfl, nl, rfl⟩
        unfold Builtin.«set.__init__» noKeywords <;> unfold Builtin.Frozenset.updateFrom
        generalize hPI : pyIter = PI
        wp_walk
        subst hPI
        refine wpAny_pyIter_list l1 (wpAny_bind (wpAny_runValue ?_))
        have lS : l < s.heap.objs.size := Heap.lt_size hol
        have nh3 : A.in1.in1.in1.handled = none := by simp [nh]
        have sz1 : (s.heap.push (noneYet w)).objs.size = s.heap.objs.size + 1 := Heap.size_push ..
        have ne1 : l ≠ (s.heap.push (noneYet w)).objs.size := by rw [sz1]; exact Nat.ne_of_lt (Nat.lt_succ_of_lt lS)
        have out1 : s.heap.objs.size ∉ [(s.heap.push (noneYet w)).objs.size, l] := by
          intro z
          rw [sz1] at z
          rcases List.mem_cons.mp z with z | z
          · exact absurd z (Nat.ne_of_lt (Nat.lt_succ_self _))
          · exact absurd (List.mem_singleton.mp z) (Nat.ne_of_gt lS)
        have each : ∀ (i : Nat) (v : Value), its[i]? = some v → ∃ p, ks[i]? = some p ∧ v = .ref p.1 := fun i v hv => by
          have q : its.toList[i]? = some v := by simpa using hv
          rw [iA, List.getElem?_map] at q
          obtain ⟨p, hp, e⟩ := Option.map_eq_some_iff.mp q
          exact ⟨p, hp, e.symm⟩
        have nothing : ∀ b, s.heap.objs.size ≤ b → s.heap.get? b = none := fun b hb => by
          cases q : s.heap.get? b with
          | none => rfl
          | some o => exact absurd (Heap.lt_size q) (Nat.not_lt.mpr hb)
        refine set_loop ((Walks.list nh3 _ l ne1 its).toS) s.heap.objs.size out1 ks isz D small inD each s.heap tups (nothing _ (Nat.le_refl _)) (fun b hb => nothing b (by rw [List.mem_singleton.mp hb, sz1]; omega)) room (its.size - 0) 0 _ (by omega) (Nat.zero_le _) ⟨⟨_, Heap.get?_push_size _ rfl, rfl, rfl⟩, (l1.push _)⟩ (fun b o e => Heap.get?_push_of_some _ (Heap.get?_push_of_some _ e)) ?S0 ?SR
        case S0 =>
          have at2 : ((s.heap.push (noneYet w)).push { cls := .type "list_iterator", data := .fields #[.ref l, .int 0 0] }).get? s.heap.objs.size = some (noneYet w) := Heap.get?_push_of_some _ hS
          exact ⟨[], #[], 0, _, setTR_fresh at2, Got.zero ks⟩
        case SR =>
          intro s' L es ep tb mv hS' hg' old
          obtain ⟨g, g2, d', tk', os'⟩ := s'
          have eg : g2 = s.gens := mv.gens
          have ed : d' = s.drawn := mv.drawn
          have eo : os' = s.os := mv.os
          subst eg; subst ed; subst eo
          show wpAny _ _ _ _ _ _
          refine wpAny_pure ?_
          show wpAny _ _ (ret Value.none) _ _ _
          rw [isz] at hg'
          exact wpAny_pure ⟨rfl, g, tk', L, es, ep, tb, rfl, hS', hg', old⟩
      · cases r2 with
        | error e => exact hr2
        | ok fl2 =>
          cases fl2 with
          | ret r =>
            obtain ⟨rfl, g, tk, L, es, ep, tb, rfl, hS', hc', hk'⟩ := hr2
            (repeat (any_goals (first | assumption | wp_step)))
            exact fin _ _ _ _ _ _ hS' hc' hk'
          | _ => exact hr2.elim
    | _ => exact hr.elim
end
section
variable {X : Cx}
def rSetOfP (K : PySem.W.Frag) (P : Program) (w : World) : List V → Hp → VK → Prop := fun xs H Q => ∃ (l : Addr) (ks : List (Addr × List Int)) (D : List (List Int)), xs = [V.ref l] ∧ SqL K H l (ks.map fun p => V.ref p.1) ∧ (∀ p ∈ ks, SqT K H p.1 (p.2.map V.int)) ∧ D.length + 1 < 64 ∧ (∀ p ∈ ks, p.2 ∈ D) ∧
  ∀ a L, H a = none → (∀ p ∈ L, p ∈ ks) → (∀ p ∈ ks, p.2 ∈ L.map (·.2)) → Q (.ref a) (upd H a (SetTO P w a L))
theorem cr_setOfP (hc : X.calm = true) (hu : X.A.units + 64 < cLine) : CallR X (.type "set") (rSetOfP X.K X.prog X.w) := by
  intro pins s σ H xs us Q I r h
  obtain ⟨l, ks, D, rfl, hl, hk, hf, hD, q⟩ := h
  rw [Vals.ref1 r]
  obtain ⟨its, rv, pl, hz⟩ := I.list hl
  refine set_of_tups (P := X.prog) (w := X.w) ks (I.ok.hd hc) pl.isList (by simpa using refs_of_vals rv) (fun p hp => I.isT (hk p hp)) D hf hD (by omega) fun g tk L es ep t R gt k => ?_
  refine ⟨.ref s.heap.objs.size, upd H s.heap.objs.size (SetTO X.prog X.w s.heap.objs.size L), I.laid (t' := tk) k (Nat.le_refl _) (setTO_new R.t0), rfl, q _ L (I.hok.fresh (Nat.le_refl _)) (fun p hp => ?_) fun p hp => ?_⟩
  · exact List.mem_of_mem_take (gt.sub p hp)
  · exact gt.all p (by rw [List.take_length]; exact hp)
end
/-! ### on data -/
def asPairs : List PyData → Option (List (Int × Int))
  | [] => some []
  | .tuple [.int x, .int y] :: ds => (asPairs ds).map ((x, y) :: ·)
  | _ => none
def prD (p : Int × Int) : PyData := .tuple [.int p.1, .int p.2]
theorem asPairs_map (ps : List (Int × Int)) : asPairs (ps.map prD) = some ps := by
  induction ps with
  | nil => rfl
  | cons p ps ih =>
    show (asPairs (ps.map prD)).map (p :: ·) = _
    rw [ih]
    rfl
theorem asPairs_eq : ∀ {ds : List PyData} {ps : List (Int × Int)}, asPairs ds = some ps → ds = ps.map prD
  | [], ps, h => by cases h; rfl
  | d :: ds, ps, h => by
    unfold asPairs at h
    split at h
    · rename_i heq
      cases heq
    · rename_i x y ds' heq
      cases heq
      obtain ⟨qs, hq, rfl⟩ := Option.map_eq_some_iff.mp h
      rw [asPairs_eq hq]
      rfl
    · cases h
def cdP (p : Int × Int) : Int := p.1 * 64 + p.2
def unP (c : Int) : Int × Int := (c / 64, c % 64)
theorem un_cd {p : Int × Int} (h : 0 ≤ p.2 ∧ p.2 < 64) : unP (cdP p) = p := by
  unfold unP cdP
  refine Prod.ext ?_ ?_
  · show (p.1 * 64 + p.2) / 64 = p.1
    omega
  · show (p.1 * 64 + p.2) % 64 = p.2
    omega
def inB (p : Int × Int) : Bool := decide (0 ≤ p.1 ∧ p.1 < 64 ∧ 0 ≤ p.2 ∧ p.2 < 64)
def setSortedP : PyData → Rs R
  | .list ds => match asPairs ds with
    | some ps => if (ps.all inB = true ∧ (sortU (ps.map cdP)).length < 63) then .ok (.own ((sortU (ps.map cdP)).map fun c => prD (unP c))) else .bad
    | none => .bad
  | _ => .bad
/-- the pairs of a list, where they lie -/
theorem DDs.pairs {F : Hp} : ∀ {ps : List (Int × Int)} {vs : List V}, DDs F vs (ps.map prD) → ∃ ks : List (Addr × List Int), vs = (ks.map fun p => V.ref p.1) ∧ (ks.map fun p => p.2) = (ps.map fun p => [p.1, p.2]) ∧ ∀ p ∈ ks, F p.1 = some (.tup (p.2.map V.int))
  | [], _, .nil => ⟨[], rfl, rfl, fun p hp => by cases hp⟩
  | p :: ps, _, .cons h r => by
    obtain ⟨ks, e1, e2, e3⟩ := DDs.pairs r
    cases h with
    | @tup a xs ds hF hd =>
      cases hd with
      | cons h1 hd =>
        cases hd with
        | cons h2 hd =>
          cases hd
          cases h1
          cases h2
          refine ⟨(a, [p.1, p.2]) :: ks, by rw [e1]; rfl, by rw [List.map_cons, List.map_cons, e2], fun q hq => ?_⟩
          rcases List.mem_cons.mp hq with z | z
          · subst z
            exact hF
          · exact e3 q z
theorem code_cd (x y : Int) : TS.code 64 [x, y] = cdP (x, y) := code_pair x y
section
variable {X : Cx} {W : WX} {a e : Expr} {ta te : TE} {fa : Ev → Rs R} {pos p p2 q : Pos} (K : PySem.W.Frag) (w : World) (PR : Program)
theorem ek_setSortedP (hu : X.A.units + 64 < cLine) (hm : X.mg "sorted" = none) (hm2 : X.mg "set" = none) (ha : EE X W a ta fa) (hg : Gl X "sorted" := by rfl) (hg2 : Gl X "set" := by rfl) (hc : X.calm = true := by rfl)
    (na : starEach [a] X.env = (false, eval a X.env) :: starEach [] X.env := by rfl) (ns : starEach [.Call (.Name "set" p2) [a] [] q] X.env = (false, eval (.Call (.Name "set" p2) [a] [] q) X.env) :: starEach [] X.env := by rfl)
    (hpl : (backTo pos (starEach [] X.env)).any (·.1) = false := by rfl) (hpl2 : (backTo q (starEach [] X.env)).any (·.1) = false := by rfl) (hK : X.K = K := by rfl) (hw : X.w = w := by rfl) (hP : X.prog = PR := by rfl) :
    EE X W (.Call (.Name "sorted" p) [.Call (.Name "set" p2) [a] [] q] [] pos) (tCB (rSortedT K PR w) (tCons (tCB (rSetOfP K PR w) (tCons ta tNil)) tNil)) (fUn setSortedP fa) := by
  subst hK hw hP
  refine ⟨pe_callB (cr_sortedT hc) hg hm (by decide +kernel) (pa_cons (pe_callTy (cr_setOfP hc hu) hg2 hm2 (by decide +kernel) (pa_cons ha.pe pa_nil na) (by decide) (by decide) na hpl2) pa_nil ns) (by decide) (by decide) ns hpl, fun {G H0 ρ σ F H} rel Q P => ?_⟩
  refine ha.sound rel _ (post_data P fun d v F1 H1 e1 r1 P1 => ?_)
  unfold setSortedP at P1
  cases r1 with
  | @lst l xs ds hl r =>
    dsimp only at P1
    split at P1
    · rename_i ps hps
      split at P1
      · rename_i hin
        obtain ⟨hin, hlen⟩ := hin
        have hb : ∀ p ∈ ps, 0 ≤ p.1 ∧ p.1 < 64 ∧ 0 ≤ p.2 ∧ p.2 < 64 := fun p hp => by
          have := List.all_eq_true.mp hin p hp
          simpa [inB] using this
        have := asPairs_eq hps
        subst this
        obtain ⟨ks, rfl, e2, e3⟩ := r.pairs
        have hk : ∀ q ∈ ks, ∃ p ∈ ps, q.2 = [p.1, p.2] := fun q hq => by
          have : q.2 ∈ ks.map fun p => p.2 := List.mem_map.mpr ⟨q, hq, rfl⟩
          rw [e2] at this
          obtain ⟨p, hp, z⟩ := List.mem_map.mp this
          exact ⟨p, hp, z.symm⟩
        refine ⟨l, ks, (sortU (ps.map cdP)).map fun c => [(unP c).1, (unP c).2], rfl, SqL.of (e1.sub _ _ hl), fun q hq => SqT.of (e1.sub _ _ (e3 q hq)), by simp; omega, fun q hq => ?_, fun s L hs hL1 hL2 => ?_⟩
        · obtain ⟨p, hp, z⟩ := hk q hq
          rw [z]
          refine List.mem_map.mpr ⟨cdP p, (mem_sortU _ _).mpr (List.mem_map.mpr ⟨p, hp, rfl⟩), ?_⟩
          rw [un_cd ⟨(hb p hp).2.2.1, (hb p hp).2.2.2⟩]
        · refine ⟨s, L, 2, 64, rfl, upd_same, fun q hq => ?_, by decide, fun q hq => ?_, fun L' p hp hnd h64 hpw hn => ?_⟩
          · have hne : q.1 ≠ s := fun z => by
              have := e1.sub _ _ (e3 q (hL1 q hq))
              rw [z, hs] at this
              cases this
            exact SqT.of (by rw [upd_ne hne]; exact e1.sub _ _ (e3 q (hL1 q hq)))
          · obtain ⟨p, hp, z⟩ := hk q (hL1 q hq)
            rw [z]
            refine ⟨rfl, fun m hm => ?_⟩
            have := hb p hp
            rcases List.mem_cons.mp hm with z | z
            · subst z; exact ⟨this.1, this.2.1⟩
            · rw [List.mem_singleton.mp z]; exact this.2.2
          · have np : H1 p = none := by
              by_cases z : p = s
              · subst z; rw [upd_same] at hn; cases hn
              · rw [upd_ne z] at hn; exact hn
            have hk' : ∀ q ∈ L', ∃ p ∈ ps, q.2 = [p.1, p.2] := fun q hq => hk q (hL1 q (hp.mem_iff.mp hq))
            -- the codes of what is left
            have hcs : (L'.map fun q => TS.code 64 q.2) = sortU (ps.map cdP) := by
              refine lt_unique ?_ (sortU_lt _) fun c => ?_
              · rw [List.pairwise_map]
                have hnd' := List.pairwise_map.mp hnd
                refine (List.Pairwise.and hpw hnd').imp_of_mem fun {q r} hq hr h => ?_
                obtain ⟨a, ha, za⟩ := hk' q hq
                obtain ⟨b, hb', zb⟩ := hk' r hr
                have h1 := h.1
                have h2 : q.2 ≠ r.2 := h.2
                rw [za, zb] at h1 h2 ⊢
                rw [code_cd, code_cd] at h1 ⊢
                have ba := hb a ha
                have bb := hb b hb'
                have : cdP (a.1, a.2) ≠ cdP (b.1, b.2) := fun z => by
                  have e1 := un_cd (p := (a.1, a.2)) ⟨ba.2.2.1, ba.2.2.2⟩
                  have e2 := un_cd (p := (b.1, b.2)) ⟨bb.2.2.1, bb.2.2.2⟩
                  rw [z, e2] at e1
                  simp at e1
                  exact h2 (by rw [e1.1, e1.2])
                omega
              · rw [mem_sortU]
                constructor
                · intro hc
                  obtain ⟨q, hq, rfl⟩ := List.mem_map.mp hc
                  obtain ⟨a, ha, za⟩ := hk' q hq
                  rw [za, code_cd]
                  exact List.mem_map.mpr ⟨a, ha, rfl⟩
                · intro hc
                  obtain ⟨a, ha, rfl⟩ := List.mem_map.mp hc
                  have : [a.1, a.2] ∈ ks.map fun p => p.2 := by rw [e2]; exact List.mem_map.mpr ⟨a, ha, rfl⟩
                  obtain ⟨q, hq, zq⟩ := List.mem_map.mp this
                  have := hL2 q hq
                  obtain ⟨r, hr, zr⟩ := List.mem_map.mp this
                  refine List.mem_map.mpr ⟨r, hp.mem_iff.mpr hr, ?_⟩
                  rw [zr, zq, code_cd]
            have hDD : DDs F1 (L'.map fun q => V.ref q.1) ((sortU (ps.map cdP)).map fun c => prD (unP c)) := by
              rw [← hcs, List.map_map]
              have hk2 : ∀ q ∈ L', (∃ p ∈ ps, q.2 = [p.1, p.2]) ∧ F1 q.1 = some (.tup (q.2.map V.int)) := fun q hq => ⟨hk' q hq, e3 q (hL1 q (hp.mem_iff.mp hq))⟩
              clear hcs hpw hnd h64 hk' hp
              induction L' with
              | nil => exact .nil
              | cons q L' ih =>
                refine .cons ?_ (ih fun q hq => hk2 q (List.mem_cons_of_mem _ hq))
                obtain ⟨⟨a, ha, za⟩, hF⟩ := hk2 q List.mem_cons_self
                have ba := hb a ha
                show DD F1 (V.ref q.1) (prD (unP (TS.code 64 q.2)))
                rw [za] at hF ⊢
                rw [code_cd, un_cd ⟨ba.2.2.1, ba.2.2.2⟩]
                exact .tup hF (.cons (.int _) (.cons (.int _) .nil))
            have ex : Ext F1 H1 F1 (upd (upd H1 s (SetTO X.prog X.w s L)) p (.lst (L'.map fun q => V.ref q.1))) := (Ext.addH e1.sub hs).trans (Ext.addH ((e1.sub).trans (same_new hs)) hn)
            exact P1 _ _ _ ex ⟨⟨p, _, rfl, upd_same, e1.sub.free np, hDD⟩, fun _ q e => by cases e; exact np⟩
      · exact P1.elim
    · exact P1.elim
  | _ => exact P1.elim
end
end DN
/-! Den17: dicts with plain keys; list(range(a, b)); len(set(xs)); stores into lists of ours; zip of three. -/
namespace DN
open PySem PySem.Spec PyProof.Rows L2
section
variable {X : Cx} {W : WX} {a b e f : Expr} {ta tb te tf : TE} {fa fb fe ff : Ev → Rs R} {pos p : Pos}
theorem asKey_ok {F : Hp} {v : V} {d : PyData} {k : Key} (r : DD F v d) (h : asKey d = some k) : v = kV k := by
  cases r with
  | int i => cases h; rfl
  | str x => cases h; rfl
  | _ => cases h
@[simp] def fDnewK : Ev → Rs R := fun _ => .ok (.dck [])
theorem ee_dnewK : EE X W (.Dict [] [] pos) tDNewK fDnewK where
  pe := pe_dnewK
  sound := fun {G H0 ρ σ F H} rel Q P => fun p np => P _ _ _ (Ext.addH rel.sub np) ⟨⟨p, [], rfl, upd_same, rel.sub.free np, .nil⟩, fun _ q e => by cases e; exact np⟩
@[simp] def fDinK (i : Nat) (fa : Ev → Rs R) : Ev → Rs R := fun ρ => (fa ρ).bind fun r => r.d.bind fun x => match ρ[i]?, asKey x with
  | some (some (.dck kvs)), some k => .ok (.val (.bool (valP kvs k).isSome))
  | _, _ => .bad
@[simp] def fDNinK (i : Nat) (fa : Ev → Rs R) : Ev → Rs R := fun ρ => (fa ρ).bind fun r => r.d.bind fun x => match ρ[i]?, asKey x with
  | some (some (.dck kvs)), some k => .ok (.val (.bool (!(valP kvs k).isSome)))
  | _, _ => .bad
section
variable (i : Nat) {x : Str} {p2 : Pos} (hu : X.A.units + 1 < cLine) (ha : EE X W a ta fa)
  (hN : X.N[i]? = some x := by rfl) (hv : Vis X.env.scope x := by first | exact Or.inl rfl | exact Or.inr (Or.inl rfl) | exact Or.inr (Or.inr rfl)) (hd : (x == ("__debug__" : Str)) = false := by decide) (hcd : (x == ("__classdict__" : Str)) = false := by decide)
include hu ha hN hv hd hcd
theorem ee_dinK (hm : behindInMarks .In (.Name x p2) = false := by rfl) : EE X W (.Compare a [.In] [.Name x p2] pos) (tDIn ta (tVar i)) (fDinK i fa) where
  pe := pe_cmp (pc_din hu ha.pe (pe_var hN hv hd hcd)) hm
  sound := fun {G H0 ρ σ F H} rel Q P => ha.sound rel _ (post_data P fun d v F1 H1 e1 r1 P1 => by
    split at P1
    · rename_i kvs k h hk
      obtain ⟨w, hw, p, ws, rfl, q1, q2, q3⟩ := (rel.step e1).at_ i _ h
      have := asKey_ok r1 hk
      subst this
      refine ⟨_, hw, p, _, rfl, DGet.k q1, ?_⟩
      rw [KD.isSome q3]
      exact post_flat e1.sub (.bl _) P1
    · exact P1.elim)
theorem ee_dNinK (hm : behindInMarks .NotIn (.Name x p2) = false := by rfl) : EE X W (.Compare a [.NotIn] [.Name x p2] pos) (tDNotIn ta (tVar i)) (fDNinK i fa) where
  pe := pe_cmp (pc_dnotin hu ha.pe (pe_var hN hv hd hcd)) hm
  sound := fun {G H0 ρ σ F H} rel Q P => ha.sound rel _ (post_data P fun d v F1 H1 e1 r1 P1 => by
    split at P1
    · rename_i kvs k h hk
      obtain ⟨w, hw, p, ws, rfl, q1, q2, q3⟩ := (rel.step e1).at_ i _ h
      have := asKey_ok r1 hk
      subst this
      refine ⟨_, hw, p, _, rfl, DGet.k q1, ?_⟩
      rw [KD.isSome q3]
      exact post_flat e1.sub (.bl _) P1
    · exact P1.elim)
theorem et_dinK (hm : behindInMarks .In (.Name x p2) = false := by rfl) : ET X W (.Compare a [.In] [.Name x p2] pos) (tB (tDIn ta (tVar i))) (fTest (fDinK i fa)) :=
  et_ofB (pt_cmp (pc_din hu ha.pe (pe_var hN hv hd hcd)) hm) (ee_dinK i hu ha hN hv hd hcd hm)
theorem et_dNinK (hm : behindInMarks .NotIn (.Name x p2) = false := by rfl) : ET X W (.Compare a [.NotIn] [.Name x p2] pos) (tB (tDNotIn ta (tVar i))) (fTest (fDNinK i fa)) :=
  et_ofB (pt_cmp (pc_dnotin hu ha.pe (pe_var hN hv hd hcd)) hm) (ee_dNinK i hu ha hN hv hd hcd hm)
@[simp] def fDgetK (i : Nat) (fa : Ev → Rs R) : Ev → Rs R := fun ρ => match ρ[i]? with
  | some (some (.dck kvs)) => (fa ρ).bind fun r => r.d.bind fun x => match asKey x with
    | some k => match valP kvs k with
      | some d => .ok (.val d)
      | none => .bad
    | none => .bad
  | _ => .bad
theorem ee_dgetK (hs : NoSl a := by exact fun _ _ => rfl) : EE X W (.Subscript (.Name x p2) a pos) (tDGet (tVar i) ta) (fDgetK i fa) where
  pe := pe_dget hu (pe_var hN hv hd hcd) ha.pe hs
  sound := fun {G H0 ρ σ F H} rel Q P => by
    unfold fDgetK at P
    split at P
    · rename_i kvs h
      obtain ⟨w, hw, p, ws, rfl, q1, q2, q3⟩ := rel.at_ i _ h
      refine ⟨_, hw, ha.sound rel _ (post_data P fun d v F1 H1 e1 r1 P1 => ?_)⟩
      split at P1
      · rename_i k hk
        have := asKey_ok r1 hk
        subst this
        have q3' := KD.mono e1.ff q3
        rcases KD.val (k := k) q3' with ⟨_, h2⟩ | ⟨u, y, h1, h2, h3⟩
        · rw [h2] at P1; exact P1.elim
        · rw [h2] at P1
          refine ⟨p, u, rfl, ?_, post_flat e1.sub h3 P1⟩
          rw [← h1]
          exact DGet.k (e1.hh _ _ q1)
      · exact P1.elim
    · exact P.elim
@[simp] def fDget2K (i : Nat) (fa fe : Ev → Rs R) : Ev → Rs R := fun ρ => match ρ[i]? with
  | some (some (.dck kvs)) => (fa ρ).bind fun r => r.d.bind fun x => (fe ρ).bind fun r2 => r2.d.bind fun y => match asKey x with
    | some k => .ok (.val ((valP kvs k).getD y))
    | none => .bad
  | _ => .bad
theorem ee_dget2K {apos : Pos} (he : EE X W e te fe) (m : M2 X (.Name x p2) "get" apos a e pos := by exact ⟨rfl, rfl, rfl, rfl⟩) : EE X W (.Call (.Attribute (.Name x p2) "get" apos) [a, e] [] pos) (tDGet2 (tVar i) ta te) (fDget2K i fa fe) where
  pe := pe_dget2 hu (pe_var hN hv hd hcd) ha.pe he.pe m
  sound := fun {G H0 ρ σ F H} rel Q P => by
    unfold fDget2K at P
    split at P
    · rename_i kvs h
      obtain ⟨w, hw, p, ws, rfl, q1, q2, q3⟩ := rel.at_ i _ h
      refine ⟨_, hw, p, rfl, .inl ⟨ws, .inl q1⟩, ha.sound rel _ (post_data P fun d v F1 H1 e1 r1 P1 => ?_)⟩
      refine he.sound (rel.step e1) _ (post_data P1 fun d2 v2 F2 H2 e2 r2 P2 => ?_)
      split at P2
      · rename_i k hk
        have := asKey_ok r1 hk
        subst this
        have q3' := KD.mono (e1.ff.trans e2.ff) q3
        refine ⟨valV ws k, DGet.k (e2.hh _ _ (e1.hh _ _ q1)), ?_⟩
        rcases KD.val (k := k) q3' with ⟨h1, h2⟩ | ⟨u, y, h1, h2, h3⟩
        · rw [h1]; rw [h2] at P2
          exact post_flat e2.sub r2 P2
        · rw [h1]; rw [h2] at P2
          exact post_flat e2.sub h3 P2
      · exact P2.elim
    · exact P.elim
@[simp] def gDputK (i : Nat) (fa fe : Ev → Rs R) : Ev → RO := fun ρ => onR ρ ((fe ρ).bind R.d) fun v => match ρ[i]? with
  | some (some (.dck kvs)) => onR ρ ((fa ρ).bind R.d) fun x => match asKey x with
    | some k => if kvs.length < lim then .nx (ρ.set i (some (.dck (putP kvs k v)))) else .bad
    | none => .bad
  | _ => .bad
theorem es_dputK {tpos : Pos} (he : EE X W e te fe) (hsw : swapsWith e (some (.Subscript (.Name x p2) a tpos)) pos.line X.env = pure false := by rfl) : ES X W (.Assign [.Subscript (.Name x p2) a tpos] e pos) (sDPut (tVar i) ta te) (gDputK i fa fe) where
  ps := ps_dput hu (pe_var hN hv hd hcd) ha.pe he.pe hsw
  sound := fun {G H0 ρ σ F H} rel D P => he.sound rel _ (postS_data rel P fun d v F1 H1 e1 r1 P1 => by
    split at P1
    · rename_i kvs h
      have rel1 := rel.step e1
      obtain ⟨w, hw, p, ws, rfl, q1, q2, q3⟩ := rel1.at_ i _ h
      refine ⟨_, hw, ha.sound rel1 _ (postS_data rel1 P1 fun d2 v2 F2 H2 e2 r2 P2 => ?_)⟩
      split at P2
      · rename_i k hk
        have := asKey_ok r2 hk
        subst this
        split at P2
        · rename_i hl
          have q3' := KD.mono e2.ff q3
          refine ⟨p, _, rfl, DPut.k (e2.hh _ _ q1) (by rw [KD.len q3']; exact Nat.lt_trans hl lim_lt), P2 _ _ _ ((rel1.step e2).mut h rfl hw (e2.own q1 q2) ⟨p, _, rfl, upd_same, e2.own q1 q2, KD.put (DD.mono e2.ff _ _ r1) q3'⟩ rfl)⟩
        · exact P2.elim
      · exact P2.elim
    · exact P1.elim)
end
/-! ### x[i] = e, x a list of ours -/
@[simp] def gOset (i : Nat) (fb fe : Ev → Rs R) : Ev → RO := fun ρ => onR ρ ((fe ρ).bind R.d) fun v => match ρ[i]? with
  | some (some (.own xs)) => onR ρ ((fb ρ).bind R.d) fun y => match y with
    | .int j => match ixN xs.length j with
      | some m => .nx (ρ.set i (some (.own (xs.set m v))))
      | none => .bad
    | _ => .bad
  | _ => .bad
theorem es_oset (i : Nat) {x : Str} {p2 tpos : Pos} (hb : EE X W b tb fb) (he : EE X W e te fe) (hN : X.N[i]? = some x := by rfl) (hv : Vis X.env.scope x := by first | exact Or.inl rfl | exact Or.inr (Or.inl rfl) | exact Or.inr (Or.inr rfl)) (hd : (x == ("__debug__" : Str)) = false := by decide)
    (hcd : (x == ("__classdict__" : Str)) = false := by decide)
    (ha : ∀ v, assign (.Subscript (.Name x p2) b tpos) X.env v = (do
      let o1 ← holding [v] (eval (.Name x p2) X.env)
      let i1 ← holding [v, o1] (eval b X.env)
      standAt tpos
      holding [v, o1, i1] (setItem o1 i1 v)
      release [v, o1, i1] []) := by intro _; rfl)
    (hs : swapsWithSole [.Subscript (.Name x p2) b tpos] e pos.line X.env = pure false := by rfl) (hw : swappedStores [.Subscript (.Name x p2) b tpos] e X.env = pure none := by rfl)
    (h1 : (assignEach [.Subscript (.Name x p2) b tpos] X.env).map (·.2) = [assign (.Subscript (.Name x p2) b tpos) X.env] := by rfl) :
    ES X W (.Assign [.Subscript (.Name x p2) b tpos] e pos) (tAsg te (gSub (tVar i) tb rSetL)) (gOset i fb fe) where
  ps := ps_asg he.pe (pg_sub (pe_var hN hv hd hcd) hb.pe set_list ha) hs hw h1
  sound := fun {G H0 ρ σ F H} rel D P => he.sound rel _ (postS_data rel P fun d v F1 H1 e1 r1 P1 => by
    split at P1
    · rename_i xs h
      have rel1 := rel.step e1
      obtain ⟨w, hw, p, vs, rfl, q1, q2, q3⟩ := rel1.at_ i _ h
      refine ⟨_, hw, hb.sound rel1 _ (postS_data rel1 P1 fun d2 v2 F2 H2 e2 r2 P2 => ?_)⟩
      cases r2 with
      | int j =>
        dsimp only at P2
        split at P2
        · rename_i m hm
          have q3' := DDs.mono e2.ff _ _ q3
          refine ⟨p, vs, j, m, rfl, rfl, e2.hh _ _ q1, by rw [q3'.len]; exact hm, P2 _ _ _ ((rel1.step e2).mut h rfl hw (e2.own q1 q2) ⟨p, _, rfl, upd_same, e2.own q1 q2, q3'.set (DD.mono e2.ff _ _ r1) m⟩ rfl)⟩
        · exact P2.elim
      | _ => exact P2.elim
    · exact P1.elim)
end
/-! ### list(range(a, b)) -/
@[simp] def fListRange2 (fa fb : Ev → Rs R) : Ev → Rs R := fun ρ => (fa ρ).bind fun r => r.d.bind fun x => (fb ρ).bind fun r2 => r2.d.bind fun y => match x, y with
  | .int m, .int n => if m.natAbs ≤ 1000000 ∧ n.natAbs ≤ 1000000 then .ok (.own (rngD m (n - m).toNat)) else .bad
  | _, _ => .bad
theorem ee_listRange2 {X : Cx} {W : WX} {a b : Expr} {ta tb : TE} {fa fb : Ev → Rs R} {pos p q p2 : Pos} (ha : EE X W a ta fa) (hb : EE X W b tb fb) (hm : X.mg "list" = none) (hm2 : X.mg "range" = none) (hg : Gl X "list" := by rfl) (hg2 : Gl X "range" := by rfl) (hc : X.calm = true := by rfl)
    (na : starEach [a, b] X.env = (false, eval a X.env) :: starEach [b] X.env := by rfl) (nb : starEach [b] X.env = (false, eval b X.env) :: starEach [] X.env := by rfl) (hp : (backTo q (starEach [b] X.env)).any (·.1) = false := by rfl) (nr : starEach [.Call (.Name "range" p2) [a, b] [] q] X.env = (false, eval (.Call (.Name "range" p2) [a, b] [] q) X.env) :: starEach [] X.env := by rfl) :
    EE X W (.Call (.Name "list" p) [.Call (.Name "range" p2) [a, b] [] q] [] pos) (tLstRg (tRg2 ta tb)) (fListRange2 fa fb) where
  pe := pe_listRg hc hg hm (prg_2 hg2 hm2 ha.pe hb.pe na nb hp) nr
  sound := fun {G H0 ρ σ F H} rel Q P => ha.sound rel _ (post_data P fun d v F1 H1 e1 r1 P1 => hb.sound (rel.step e1) _ (post_data P1 fun d2 v2 F2 H2 e2 r2 P2 => by
    cases r1 with
    | int m =>
      cases r2 with
      | int n =>
        dsimp only at P2
        split at P2
        · refine ⟨m, n, rfl, rfl, ⟨by omega, by omega, by omega, by omega, by omega⟩, ?_⟩
          exact new_lst e2.sub (rgV_DDs (F := F2) m n) P2
        · exact P2.elim
      | _ => exact P2.elim
    | _ => exact P2.elim))
/-! ### len(set(xs)) -/
section
variable {X : Cx}
def rLenS (w : World) : List V → Hp → VK → Prop := fun vs H Q => ∃ (a : Addr) (S : Int → Bool) (n : Nat), vs = [V.ref a] ∧ H a = some (SetO w a S n) ∧ n ≤ 1000 ∧ Q (.int n) H
theorem cr_lenS : CallR X (.builtin "len") (rLenS X.w) := by
  intro pins s σ H vs us Q I r h
  obtain ⟨a, S, n, rfl, ha, hn, q⟩ := h
  have R := setO_get I ha
  rw [Vals.ref1 r]
  obtain ⟨o, es, ep, t, ho, hex, hdt, g, nd, hm, hb, hf, hes, _⟩ := R
  exact call_len_set ho hex hdt hf (by rw [hes]; omega) ⟨.int n, H, I.tok _, ⟨_, by rw [hes]⟩, q⟩
end
def setLenD : PyData → Rs R
  | .list ds => match asIs ds with
    | some ns => if ns.length ≤ 1000 then .ok (.val (.int (sortU ns).length)) else .bad
    | none => .bad
  | _ => .bad
theorem sortU_len_le (ns : List Int) : (sortU ns).length ≤ ns.length := by
  have nd : (sortU ns).Nodup := (sortU_lt ns).imp fun {a b} h => by omega
  exact List.Nodup.length_le_of_subset nd fun k hk => (mem_sortU ns k).mp hk
section
variable {X : Cx} {W : WX} {a e : Expr} {ta te : TE} {fa : Ev → Rs R} {pos p p2 q : Pos} (K : PySem.W.Frag) (w : World)
theorem ek_setLen (hm : X.mg "len" = none) (hm2 : X.mg "set" = none) (ha : EE X W a ta fa) (hg : Gl X "len" := by rfl) (hg2 : Gl X "set" := by rfl) (hc : X.calm = true := by rfl)
    (na : starEach [a] X.env = (false, eval a X.env) :: starEach [] X.env := by rfl) (ns : starEach [.Call (.Name "set" p2) [a] [] q] X.env = (false, eval (.Call (.Name "set" p2) [a] [] q) X.env) :: starEach [] X.env := by rfl)
    (hpl : (backTo pos (starEach [] X.env)).any (·.1) = false := by rfl) (hpl2 : (backTo q (starEach [] X.env)).any (·.1) = false := by rfl) (hK : X.K = K := by rfl) (hw : X.w = w := by rfl) :
    EE X W (.Call (.Name "len" p) [.Call (.Name "set" p2) [a] [] q] [] pos) (tCB (rLenS w) (tCons (tCB (rSetOfI K w) (tCons ta tNil)) tNil)) (fUn setLenD fa) := by
  subst hK hw
  refine ⟨pe_callB cr_lenS hg hm (by decide +kernel) (pa_cons (pe_callTy (cr_setOfI hc) hg2 hm2 (by decide +kernel) (pa_cons ha.pe pa_nil na) (by decide) (by decide) na hpl2) pa_nil ns) (by decide) (by decide) ns hpl, fun {G H0 ρ σ F H} rel Q P => ?_⟩
  refine ha.sound rel _ (post_data P fun d v F1 H1 e1 r1 P1 => ?_)
  unfold setLenD at P1
  cases r1 with
  | @lst l xs ds hl r =>
    dsimp only at P1
    split at P1
    · rename_i ns hns
      split at P1
      · rename_i h64
        have := asIs_eq hns
        subst this
        have := r.ofInts
        subst this
        refine ⟨l, ns, rfl, SqL.of (e1.sub _ _ hl), h64, fun s hs => ?_⟩
        refine ⟨s, _, _, rfl, upd_same, Nat.le_trans (sortU_len_le ns) h64, ?_⟩
        exact P1 _ _ _ (Ext.addH e1.sub hs) (.val (.int _))
      · exact P1.elim
    · exact P1.elim
  | _ => exact P1.elim
end
end DN
/-! ### zip of three -/
namespace DN
open PySem PySem.Spec PyProof.Rows L2
def It3K (k l m : Bool) (K : PySem.W.Frag) (a b c : Addr) : It :=
  ⟨fun i H => ∃ (xs ys zs : List V) (x y z : V), SqK k K H a xs ∧ SqK l K H b ys ∧ SqK m K H c zs ∧ xs[i]? = some x ∧ ys[i]? = some y ∧ zs[i]? = some z,
    fun i H v H' => ∃ T x y z, v = .ref T ∧ H T = none ∧ H' = upd H T (.tup [x, y, z]) ∧ (∀ xs, SqK k K H a xs → xs[i]? = some x) ∧ (∀ ys, SqK l K H b ys → ys[i]? = some y) ∧ ∀ zs, SqK m K H c zs → zs[i]? = some z,
    fun i H => ∃ xs ys zs : List V, SqK k K H a xs ∧ SqK l K H b ys ∧ SqK m K H c zs ∧ min (min xs.length ys.length) zs.length = i⟩
theorem mem5 {c N : Nat} (h : c ∈ [N + 5, N + 4, N, N + 1, N + 2]) : c ∈ [N + 5, N + 3, N + 4, N, N + 1, N + 2] := by
  have e : c = N + 5 ∨ c = N + 4 ∨ c = N ∨ c = N + 1 ∨ c = N + 2 := by simpa using h
  rcases e with z | z | z | z | z <;> simp [z]
theorem le6 {c N : Nat} (h : c ∈ [N + 5, N + 3, N + 4, N, N + 1, N + 2]) : c ≤ N + 5 := by
  have e : c = N + 5 ∨ c = N + 3 ∨ c = N + 4 ∨ c = N ∨ c = N + 1 ∨ c = N + 2 := by simpa using h
  omega
theorem ge6 {c N : Nat} (h : c ∈ [N + 5, N + 3, N + 4, N, N + 1, N + 2]) : N ≤ c := by
  have e : c = N + 5 ∨ c = N + 3 ∨ c = N + 4 ∨ c = N ∨ c = N + 1 ∨ c = N + 2 := by simpa using h
  omega
theorem turn_zip3K {k l m : Bool} {P : Program} {w : World} {K : PySem.W.Frag} {elts : List Expr} {kk : Nat} {tpos : Pos} {N a b c : Addr} (ha : a < N) (hb : b < N) (hcN : c < N) :
    Turn P w K (.Tuple elts kk tpos) (It3K k l m K a b c) [N + 5, N + 3, N + 4, N, N + 1, N + 2] (N + 5)
      (fun i h => IsZip h (N + 5) (N + 3) (N + 4) .none ∧ IsTupOf3 h (N + 3) (.ref N) (.ref (N + 1)) (.ref (N + 2)) ∧ (∃ x y z, IsTupOf3 h (N + 4) x y z) ∧ IterK k h N a i ∧ IterK l h (N + 1) b i ∧ IterK m h (N + 2) c i) where
  mem := by simp
  obj := fun i h st d hc => by
    obtain ⟨hz, hTI, ⟨x, y, z, hTO⟩, h1, h2, h3⟩ := st
    have e' : d = N + 5 ∨ d = N + 3 ∨ d = N + 4 ∨ d = N ∨ d = N + 1 ∨ d = N + 2 := by simpa using hc
    rcases e' with z | z | z | z | z | z
    · rw [z]; exact ⟨_, hz, fun v q => nomatch q⟩
    · rw [z]; exact ⟨_, hTI, fun v q => nomatch q⟩
    · rw [z]; exact ⟨_, hTO, fun v q => nomatch q⟩
    · rw [z]; exact h1.obj
    · rw [z]; exact h2.obj
    · rw [z]; exact h3.obj
  keep := fun i h h' st kp => by
    obtain ⟨hz, hTI, ⟨x, y, z, hTO⟩, h1, h2, h3⟩ := st
    exact ⟨kp _ (by simp) _ hz, kp _ (by simp) _ hTI, ⟨x, y, z, kp _ (by simp) _ hTO⟩, h1.at fun o q => kp _ (by simp) o q, h2.at fun o q => kp _ (by simp) o q, h3.at fun o q => kp _ (by simp) o q⟩
  item := by
    intro X hP hw hK hc i pins s σ H E I hf st hg
    subst hP hw hK
    obtain ⟨hz, hTI, hTO, h1, h2, h3⟩ := st
    obtain ⟨xs, ys, zs, x, y, z, hq, hq2, hq3, hx, hy, hzz⟩ := hg
    obtain ⟨its, rv, p, _⟩ := seqK_of I hq
    obtain ⟨its2, rv2, p2, _⟩ := seqK_of I hq2
    obtain ⟨its3, rv3, p3, _⟩ := seqK_of I hq3
    obtain ⟨u, hu, ru⟩ := rv.get hx
    obtain ⟨u2, hu2, ru2⟩ := rv2.get hy
    obtain ⟨u3, hu3, ru3⟩ := rv3.get hzz
    have D1 := drawsK (k := k) (prog := X.prog) (w := X.w) (A := X.A.in1) (I.ok.hd hc) N a (Nat.ne_of_lt ha) its.toArray
    have D2 := drawsK (k := l) (prog := X.prog) (w := X.w) (A := X.A.in1) (I.ok.hd hc) (N + 1) b (Nat.ne_of_lt (Nat.lt_succ_of_lt hb)) its2.toArray
    have D3 := drawsK (k := m) (prog := X.prog) (w := X.w) (A := X.A.in1) (I.ok.hd hc) (N + 2) c (Nat.ne_of_lt (Nat.lt_succ_of_lt (Nat.lt_succ_of_lt hcN))) its3.toArray
    have hzl : N + 5 < s.heap.objs.size := Heap.lt_size hz
    have hi1 : i < its.toArray.size := by
      have := (List.getElem?_eq_some_iff.mp hu).1
      simpa using this
    have hi2 : i < its2.toArray.size := by
      have := (List.getElem?_eq_some_iff.mp hu2).1
      simpa using this
    have hi3 : i < its3.toArray.size := by
      have := (List.getElem?_eq_some_iff.mp hu3).1
      simpa using this
    refine (GoesN.zip3 (elts := elts) (x1 := kk) (pos := tpos) (zip_sep3 (N := N) (fp1 := [a]) (fp2 := [b]) (fp3 := [c]) (by simpa using ha) (by simpa using hb) (by simpa using hcN)) D1 D2 D3).goes i s
      (fun u s2 => ∃ x H', Inv X pins σ H' s2 ∧ RelV x u ∧ (It3K k l m X.K a b c).yld i H x H' ∧ (IsZip s2.heap (N + 5) (N + 3) (N + 4) .none ∧ IsTupOf3 s2.heap (N + 3) (.ref N) (.ref (N + 1)) (.ref (N + 2)) ∧ (∃ x y z, IsTupOf3 s2.heap (N + 4) x y z) ∧ IterK k s2.heap N a (i + 1) ∧ IterK l s2.heap (N + 1) b (i + 1) ∧ IterK m s2.heap (N + 2) c (i + 1)) ∧
        ∀ d ∈ [N + 5, N + 3, N + 4, N, N + 1, N + 2], H' d = none)
      E (by omega) ⟨hz, hTI, hTO, ⟨h1, p⟩, ⟨h2, p2⟩, ⟨h3, p3⟩⟩ fun v h' tk hY st' hk htk => ?_
    obtain ⟨T, y1, y2, y3, rfl, hT, hy1, hy2, hy3, hTup⟩ := hY
    have e1 : y1 = u := by
      have : its.toArray[i]? = some u := by simpa using hu
      rw [this] at hy1; exact (Option.some.inj hy1).symm
    have e2 : y2 = u2 := by
      have : its2.toArray[i]? = some u2 := by simpa using hu2
      rw [this] at hy2; exact (Option.some.inj hy2).symm
    have e3 : y3 = u3 := by
      have : its3.toArray[i]? = some u3 := by simpa using hu3
      rw [this] at hy3; exact (Option.some.inj hy3).symm
    subst e1 e2 e3
    have new : ObjOk X.prog X.w (upd H T (.tup [x, y, z])) h' T (.tup [x, y, z]) :=
      ⟨by show 3 ≤ sizeLine; decide, [y1, y2, y3], .cons ru (.cons ru2 (.cons ru3 .nil)), hTup⟩
    have I1 : Inv X pins σ (upd H T (.tup [x, y, z])) { s with heap := h', toks := tk } :=
      I.turnedNew (ch := [N + 5, N + 3, N + 4, N, N + 1, N + 2]) (fun d ob hd q => hk d ob (fun z => hd (mem5 z)) q) hf hT new
    obtain ⟨a1, a2, a3, ⟨a4, _⟩, ⟨a5, _⟩, ⟨a6, _⟩⟩ := st'
    refine ⟨.ref T, _, I1, rfl, ⟨T, x, y, z, rfl, I.hok.fresh hT, rfl, fun ws hw => by rw [seqK_inj I hw hq]; exact hx, fun ws hw => by rw [seqK_inj I hw hq2]; exact hy, fun ws hw => by rw [seqK_inj I hw hq3]; exact hzz⟩, ⟨a1, a2, a3, a4, a5, a6⟩, fun d hd => ?_⟩
    have hc' : d < s.heap.objs.size := Nat.lt_of_le_of_lt (le6 hd) hzl
    rw [upd_ne (Nat.ne_of_lt (Nat.lt_of_lt_of_le hc' hT))]
    exact (hf d hd).1
  done := by
    intro X hP hw hK hc i pins s σ H E I hf st hg
    subst hP hw hK
    obtain ⟨hz, hTI, hTO, h1, h2, h3⟩ := st
    obtain ⟨xs, ys, zs, hq, hq2, hq3, hx⟩ := hg
    obtain ⟨its, rv, p, _⟩ := seqK_of I hq
    obtain ⟨its2, rv2, p2, _⟩ := seqK_of I hq2
    obtain ⟨its3, rv3, p3, _⟩ := seqK_of I hq3
    have D1 := drawsK (k := k) (prog := X.prog) (w := X.w) (A := X.A.in1) (I.ok.hd hc) N a (Nat.ne_of_lt ha) its.toArray
    have D2 := drawsK (k := l) (prog := X.prog) (w := X.w) (A := X.A.in1) (I.ok.hd hc) (N + 1) b (Nat.ne_of_lt (Nat.lt_succ_of_lt hb)) its2.toArray
    have D3 := drawsK (k := m) (prog := X.prog) (w := X.w) (A := X.A.in1) (I.ok.hd hc) (N + 2) c (Nat.ne_of_lt (Nat.lt_succ_of_lt (Nat.lt_succ_of_lt hcN))) its3.toArray
    have hn : min (min its.toArray.size its2.toArray.size) its3.toArray.size = i := by rw [← hx, rv.length, rv2.length, rv3.length]; simp
    refine (GoesN.zip3 (elts := elts) (x1 := kk) (pos := tpos) (zip_sep3 (N := N) (fp1 := [a]) (fp2 := [b]) (fp3 := [c]) (by simpa using ha) (by simpa using hb) (by simpa using hcN)) D1 D2 D3).stops s _ E (by
      rw [hn]; exact ⟨hz, hTI, hTO, ⟨h1, p⟩, ⟨h2, p2⟩, ⟨h3, p3⟩⟩) fun h' tk hk htk => ?_
    exact I.turnedL (ch := [N + 5, N + 3, N + 4, N, N + 1, N + 2]) (fun d o hd q => hk d o (fun z => hd (mem5 z)) q) hf
  self := fun A i s Q E st h => wpAny_pyIter_zip st.1 h
def iZip3K (K : PySem.W.Frag) (ta : TA) : TI := fun σ H R => ta σ H fun vs H1 => ∃ k l m a b c xs ys zs, vs = [.ref a, .ref b, .ref c] ∧ SqK k K H1 a xs ∧ SqK l K H1 b ys ∧ SqK m K H1 c zs ∧ R (It3K k l m K a b c) H1
theorem pi_zip3K {X : Cx} {e e2 e3 : Expr} {ta : TA} {p pos tpos : Pos} {elts : List Expr} {kk : Nat} (hg : Gl X "zip") (hm : X.mg "zip" = none) (ha : PA X [e, e2, e3] ta)
    (hs : starEach [e, e2, e3] X.env = (false, eval e X.env) :: starEach [e2, e3] X.env := by rfl) (hpl : (backTo pos (starEach [e2, e3] X.env)).any (·.1) = false := by rfl) :
    PI X (.Tuple elts kk tpos) (.Call (.Name "zip" p) [e, e2, e3] [] pos) (iZip3K X.K ta) := by
  refine ⟨fun pins s σ H R I h => ?_⟩
  refine Call_ (ld_blt I hg hm PyProof.Rows.boot_zip (PyProof.Rows.callWith_type1 (thn (ha.run pos pins s σ H _ I h) fun us s1 ⟨vs, H1, I1, r1, q1⟩ => ?_) hs hpl))
  obtain ⟨k, l, m, a, b, c, xs, ys, zs, ex, hq, hq2, hq3, q⟩ := q1
  subst ex
  cases r1 with
  | cons r rr =>
    cases rr with
    | cons r' rr =>
      cases rr with
      | cons r'' rr =>
        cases rr
        cases r
        cases r'
        cases r''
        obtain ⟨its, rv, p1, _⟩ := seqK_of I1 hq
        obtain ⟨its2, rv2, p2, _⟩ := seqK_of I1 hq2
        obtain ⟨its3, rv3, p3, _⟩ := seqK_of I1 hq3
        refine zip_begins3 (beginsK k a its.toArray) (beginsK l b its2.toArray) (beginsK m c its3.toArray) p1 p2 p3 fun h' hz hTI hTO h1 h2 h3 hsz hk => wpAny_pyIter_zip hz ?_
        have I2 : Inv X pins σ H1 { s1 with heap := h' } := I1.kept (t' := s1.toks) hk
        refine ⟨s1.heap.objs.size + 5, [s1.heap.objs.size + 5, s1.heap.objs.size + 3, s1.heap.objs.size + 4, s1.heap.objs.size, s1.heap.objs.size + 1, s1.heap.objs.size + 2], _, _, H1, rfl, I2, turn_zip3K (k := k) (l := l) (m := m) (seqK_lt p1) (seqK_lt p2) (seqK_lt p3),
          ⟨hz, hTI, ⟨_, _, _, hTO⟩, iter0 h1, iter0 h2, iter0 h3⟩, fun d hd => ?_, q⟩
        have hle : s1.heap.objs.size ≤ d := ge6 hd
        exact I1.fpOk hle (I1.hok.fresh hle)
def zip3D (ds es fs : List PyData) : List PyData := ((ds.zip es).zip fs).map fun p => PyData.tuple [p.1.1, p.1.2, p.2]
theorem zip3D_get {ds es fs : List PyData} {i : Nat} {d : PyData} (h : (zip3D ds es fs)[i]? = some d) : ∃ x y z, ds[i]? = some x ∧ es[i]? = some y ∧ fs[i]? = some z ∧ d = .tuple [x, y, z] := by
  unfold zip3D at h
  rw [List.getElem?_map, Option.map_eq_some_iff] at h
  obtain ⟨⟨⟨x, y⟩, z⟩, h, rfl⟩ := h
  rw [List.getElem?_zip_eq_some, List.getElem?_zip_eq_some] at h
  exact ⟨x, y, z, h.1.1, h.1.2, h.2, rfl⟩
section
variable {K : PySem.W.Frag} {F : Hp} {k l m : Bool} {a b c : Addr} {xs ys zs : List V} {ds es fs : List PyData}
theorem walk_z3 (h : At k F a xs) (r : DDs F xs ds) (g : At l F b ys) (r' : DDs F ys es) (g2 : At m F c zs) (r2 : DDs F zs fs) : WalkD (It3K k l m K a b c) F (zip3D ds es fs) where
  goes := fun i H hi s => by
    have hi' : i < ds.length ∧ i < es.length ∧ i < fs.length := by simpa [zip3D, Nat.lt_min] using hi
    exact ⟨xs, ys, zs, xs[i]'(by rw [r.len]; exact hi'.1), ys[i]'(by rw [r'.len]; exact hi'.2.1), zs[i]'(by rw [r2.len]; exact hi'.2.2), h.sq s, g.sq s, g2.sq s, List.getElem?_eq_getElem _, List.getElem?_eq_getElem _, List.getElem?_eq_getElem _⟩
  stops := fun H s => ⟨xs, ys, zs, h.sq s, g.sq s, g2.sq s, by rw [r.len, r'.len, r2.len]; simp [zip3D]⟩
  yields := fun i H x H' d F1 hd sF sH y => by
    obtain ⟨T, z, z', z'', rfl, nT, rfl, hy, hy', hy''⟩ := y
    obtain ⟨d1, d2, d3, e1, e2, e2', rfl⟩ := zip3D_get hd
    obtain ⟨d', e3, e4⟩ := r.getV (hy xs (h.sq (sF.trans sH)))
    obtain ⟨d'', e5, e6⟩ := r'.getV (hy' ys (g.sq (sF.trans sH)))
    obtain ⟨d''', e7, e8⟩ := r2.getV (hy'' zs (g2.sq (sF.trans sH)))
    rw [e1] at e3; cases e3
    rw [e2] at e5; cases e5
    rw [e2'] at e7; cases e7
    have sm := sF.trans (same_new (o := .tup [z, z', z'']) (sH.free nT))
    exact ⟨_, Ext.add sH nT, .tup upd_same (.cons (DD.mono sm _ _ e4) (.cons (DD.mono sm _ _ e6) (.cons (DD.mono sm _ _ e8) .nil)))⟩
theorem DD.seq {v : V} {d : PyData} (h : DD F v d) (hs : seqD d = .ok ds) : ∃ k a vs, v = .ref a ∧ At k F a vs ∧ DDs F vs ds := by
  cases h with
  | @lst a vs _ h r => cases hs; exact ⟨false, a, vs, rfl, h, r⟩
  | @tup a vs _ h r => cases hs; exact ⟨true, a, vs, rfl, h, r⟩
  | _ => cases hs
end
@[simp] def fZip3 (f g h : Ev → Rs R) : Ev → Rs (List PyData) := fun ρ => (fCons f (fCons g (fCons h fNil)) ρ).bind fun ds => match ds with
  | [x, y, z] => (seqD x).bind fun xs => (seqD y).bind fun ys => (seqD z).bind fun zs => .ok (zip3D xs ys zs)
  | _ => .bad
theorem seqD_err {d : PyData} : (∃ ds, seqD d = .ok ds) ∨ seqD d = .bad := by
  cases d <;> first
    | exact .inl ⟨_, rfl⟩
    | exact .inr rfl
theorem ik_zip3 {X : Cx} {W : WX} {e e2 e3 : Expr} {te te2 te3 : TE} {f f2 f3 : Ev → Rs R} {p pos tpos : Pos} (K : PySem.W.Frag) {elts : List Expr} {kk : Nat} (h : EE X W e te f) (h2 : EE X W e2 te2 f2) (h3 : EE X W e3 te3 f3) (hm : X.mg "zip" = none) (hg : Gl X "zip" := by rfl)
    (hs : starEach [e, e2, e3] X.env = (false, eval e X.env) :: starEach [e2, e3] X.env := by rfl) (hs2 : starEach [e2, e3] X.env = (false, eval e2 X.env) :: starEach [e3] X.env := by rfl) (hs3 : starEach [e3] X.env = (false, eval e3 X.env) :: starEach [] X.env := by rfl)
    (hpl : (backTo pos (starEach [e2, e3] X.env)).any (·.1) = false := by rfl) (hK : X.K = K := by rfl) :
    EI X W (.Tuple elts kk tpos) (.Call (.Name "zip" p) [e, e2, e3] [] pos) (iZip3K K (tCons te (tCons te2 (tCons te3 tNil)))) (fZip3 f f2 f3) := by
  subst hK
  refine ⟨pi_zip3K hg hm (pa_cons h.pe (pa_cons h2.pe (pa_cons h3.pe pa_nil hs3) hs2) hs) hs hpl, fun {G H0 ρ σ F H} rel R' P => (ed_cons h (ed_cons h2 (ed_cons h3 ed_nil hs3) hs2) hs).sound rel _ (postI_out P fun ds vs F1 H1 e1 r1 P1 => ?_)⟩
  split at P1
  · rename_i x y z
    rcases seqD_err (d := x) with ⟨xs, hx⟩ | hx
    · rcases seqD_err (d := y) with ⟨ys, hy⟩ | hy
      · rcases seqD_err (d := z) with ⟨zs, hz⟩ | hz
        · rw [hx, bind_ok, hy, bind_ok, hz, bind_ok] at P1
          cases r1 with
          | cons a r1 =>
            cases r1 with
            | cons b r1 =>
              cases r1 with
              | cons c r1 =>
                cases r1
                obtain ⟨k, A, us, rfl, a1, a2⟩ := a.seq hx
                obtain ⟨l, B, ws, rfl, b1, b2⟩ := b.seq hy
                obtain ⟨m, C, ts, rfl, c1, c2⟩ := c.seq hz
                exact ⟨k, l, m, A, B, C, us, ws, ts, rfl, a1.sq e1.sub, b1.sq e1.sub, c1.sq e1.sub, P1 _ _ _ (Ext.refl e1.sub) (walk_z3 a1 a2 b1 b2 c1 c2)⟩
        · rw [hx, bind_ok, hy, bind_ok, hz] at P1; exact P1.elim
      · rw [hx, bind_ok, hy] at P1; exact P1.elim
    · rw [hx] at P1; exact P1.elim
  · exact P1.elim
end DN
/-! Den18: len of a list of ours. -/
namespace DN
open PySem PySem.Spec PyProof.Rows L2
section
variable {X : Cx} {W : WX} {pos p : Pos} (K : PySem.W.Frag)
@[simp] def fOlen (i : Nat) : Ev → Rs R := fun ρ => match ρ[i]? with
  | some (some (.own ds)) => .ok (.val (.int ds.length))
  | some (some (.val (.list ds))) => .ok (.val (.int ds.length))
  | _ => .bad
theorem ek_olen (i : Nat) {x : Str} {p2 : Pos} (hm : X.mg "len" = none) (hN : X.N[i]? = some x := by rfl) (hv : Vis X.env.scope x := by first | exact Or.inl rfl | exact Or.inr (Or.inl rfl) | exact Or.inr (Or.inr rfl)) (hd : (x == ("__debug__" : Str)) = false := by decide)
    (hcd : (x == ("__classdict__" : Str)) = false := by decide) (hg : Gl X "len" := by rfl)
    (he : starEach [.Name x p2] X.env = (false, eval (.Name x p2) X.env) :: starEach [] X.env := by rfl) (hpl : (backTo pos (starEach [] X.env)).any (·.1) = false := by rfl) (hK : X.K = K := by rfl) :
    EE X W (.Call (.Name "len" p) [.Name x p2] [] pos) (tCB (fun xs H Q => ∃ x n, xs = [x] ∧ LenV K x H n ∧ Q (.int n) H) (tCons (tVar i) tNil)) (fOlen i) := by
  subst hK
  refine ⟨pe_callB call_len hg hm PySem.boot_len (pa_cons (pe_var hN hv hd hcd) pa_nil he) (by decide) (by decide) he hpl, fun {G H0 ρ σ F H} rel Q P => ?_⟩
  unfold fOlen at P
  split at P
  · rename_i ds h
    obtain ⟨v, hv, a, vs, rfl, q1, q2, q3⟩ := rel.at_ i _ h
    exact ⟨_, hv, _, _, rfl, .inl ⟨_, SqL.of q1, rfl⟩, by rw [q3.len]; exact post_flat rel.sub (.int _) P⟩
  · rename_i ds h
    obtain ⟨v, hv, q⟩ := rel.at_ i _ h
    cases q with
    | @lst a vs _ q1 q3 => exact ⟨_, hv, _, _, rfl, .inl ⟨_, SqL.of (rel.sub _ _ q1), rfl⟩, by rw [q3.len]; exact post_flat rel.sub (.int _) P⟩
  · exact P.elim
end
/-! ### a, b, .. = e1, e2, .. by a tuple, things of ours among them -/
section
variable {X : Cx} {W : WX} {pos : Pos} (K : PySem.W.Frag)
theorem es_unp2 (i j : Nat) (k l : Bool) {x y : Str} {a b : Expr} {ta tb : TE} {fa fb : Ev → Rs R} {px py pt pt2 : Pos} {kt k2 : Nat} (hN : X.N.Nodup) (ha : EE X W a ta fa) (hb : EE X W b tb fb)
    (hi : X.N[i]? = some x := by rfl) (hj : X.N[j]? = some y := by rfl) (hx : Loc X.env.scope x := by first | exact .inl rfl | exact .inr rfl) (hy : Loc X.env.scope y := by first | exact .inl rfl | exact .inr rfl)
    (fx : X.fn x = true ∨ X.env.scope.names.lookup x = some .local := by first | exact .inl rfl | exact .inr rfl | assumption) (fy : X.fn y = true ∨ X.env.scope.names.lookup y = some .local := by first | exact .inl rfl | exact .inr rfl | assumption) (hc : X.calm = true := by rfl)
    (hs1 : starEach [a, b] X.env = (false, eval a X.env) :: starEach [b] X.env := by rfl) (hs2 : starEach [b] X.env = (false, eval b X.env) :: starEach [] X.env := by rfl)
    (hh1 : (assignEach [.Name x px, .Name y py] X.env).map (·.2) = assign (.Name x px) X.env :: (assignEach [.Name y py] X.env).map (·.2) := by rfl) (hh2 : (assignEach [.Name y py] X.env).map (·.2) = assign (.Name y py) X.env :: (assignEach [] X.env).map (·.2) := by rfl)
    (hn : (assignEach [.Name x px, .Name y py] X.env).length = 2 := by rfl) (hst : (assignEach [.Name x px, .Name y py] X.env).findIdx? (·.1) = none := by rfl)
    (hs : swapsWithSole [.Tuple [.Name x px, .Name y py] kt pt] (.Tuple [a, b] k2 pt2) pos.line X.env = pure false := by rfl) (hw : swappedStores [.Tuple [.Name x px, .Name y py] kt pt] (.Tuple [a, b] k2 pt2) X.env = pure none := by rfl)
    (h1 : (assignEach [.Tuple [.Name x px, .Name y py] kt pt] X.env).map (·.2) = [assign (.Tuple [.Name x px, .Name y py] kt pt) X.env] := by rfl) (hK : X.K = K := by rfl) :
    ES X W (.Assign [.Tuple [.Name x px, .Name y py] kt pt] (.Tuple [a, b] k2 pt2) pos) (tAsg (tTup (tCons ta (tCons tb tNil))) (gTup K 2 (gCons (gName i) (gCons (gName j) gNil)))) (gPar i j k l fa fb) := by
  subst hK
  refine ⟨ps_asg (pe_tup (pa_cons ha.pe (pa_cons hb.pe pa_nil hs2) hs1)) (pg_tup hc (pgs_cons (pg_name hN hi hx fx) (pgs_cons (pg_name hN hj hy fy) pgs_nil hh2) hh1) hn hst) hs hw h1, fun {G H0 ρ σ F H} rel D P => ?_⟩
  refine ha.sound rel _ (postS_keep rel P fun r v F1 H1 e1 q1 P1 => hb.sound (rel.step e1) _ (postS_keep (rel.step e1) P1 fun r2 v2 F2 H2 e2 q2 P2 => ?_))
  have R := Rel.setOwn (i := j) (rel.setOwn (i := i) e1 q1) e2 q2
  exact ⟨by show 2 ≤ sizeLine; decide, fun p np => ⟨p, _, rfl, SqT.of upd_same, rfl, v, _, rfl, v2, _, rfl, rfl, P2 _ _ _ (R.step (Ext.addH R.sub np))⟩⟩
theorem es_unp3 (i j m : Nat) (k l n : Bool) {x y z : Str} {a b c : Expr} {ta tb tc : TE} {fa fb fc : Ev → Rs R} {px py pz pt pt2 : Pos} {kt k2 : Nat} (hN : X.N.Nodup) (ha : EE X W a ta fa) (hb : EE X W b tb fb) (hc3 : EE X W c tc fc)
    (hi : X.N[i]? = some x := by rfl) (hj : X.N[j]? = some y := by rfl) (hm : X.N[m]? = some z := by rfl) (hx : Loc X.env.scope x := by first | exact .inl rfl | exact .inr rfl) (hy : Loc X.env.scope y := by first | exact .inl rfl | exact .inr rfl) (hz : Loc X.env.scope z := by first | exact .inl rfl | exact .inr rfl)
    (fx : X.fn x = true ∨ X.env.scope.names.lookup x = some .local := by first | exact .inl rfl | exact .inr rfl | assumption) (fy : X.fn y = true ∨ X.env.scope.names.lookup y = some .local := by first | exact .inl rfl | exact .inr rfl | assumption) (fz : X.fn z = true ∨ X.env.scope.names.lookup z = some .local := by first | exact .inl rfl | exact .inr rfl | assumption) (hc : X.calm = true := by rfl)
    (hs1 : starEach [a, b, c] X.env = (false, eval a X.env) :: starEach [b, c] X.env := by rfl) (hs2 : starEach [b, c] X.env = (false, eval b X.env) :: starEach [c] X.env := by rfl) (hs3 : starEach [c] X.env = (false, eval c X.env) :: starEach [] X.env := by rfl)
    (hh1 : (assignEach [.Name x px, .Name y py, .Name z pz] X.env).map (·.2) = assign (.Name x px) X.env :: (assignEach [.Name y py, .Name z pz] X.env).map (·.2) := by rfl) (hh2 : (assignEach [.Name y py, .Name z pz] X.env).map (·.2) = assign (.Name y py) X.env :: (assignEach [.Name z pz] X.env).map (·.2) := by rfl)
    (hh3 : (assignEach [.Name z pz] X.env).map (·.2) = assign (.Name z pz) X.env :: (assignEach [] X.env).map (·.2) := by rfl)
    (hn : (assignEach [.Name x px, .Name y py, .Name z pz] X.env).length = 3 := by rfl) (hst : (assignEach [.Name x px, .Name y py, .Name z pz] X.env).findIdx? (·.1) = none := by rfl)
    (hs : swapsWithSole [.Tuple [.Name x px, .Name y py, .Name z pz] kt pt] (.Tuple [a, b, c] k2 pt2) pos.line X.env = pure false := by rfl) (hw : swappedStores [.Tuple [.Name x px, .Name y py, .Name z pz] kt pt] (.Tuple [a, b, c] k2 pt2) X.env = pure none := by rfl)
    (h1 : (assignEach [.Tuple [.Name x px, .Name y py, .Name z pz] kt pt] X.env).map (·.2) = [assign (.Tuple [.Name x px, .Name y py, .Name z pz] kt pt) X.env] := by rfl) (hK : X.K = K := by rfl) :
    ES X W (.Assign [.Tuple [.Name x px, .Name y py, .Name z pz] kt pt] (.Tuple [a, b, c] k2 pt2) pos) (tAsg (tTup (tCons ta (tCons tb (tCons tc tNil)))) (gTup K 3 (gCons (gName i) (gCons (gName j) (gCons (gName m) gNil))))) (gPar3 i j m k l n fa fb fc) := by
  subst hK
  refine ⟨ps_asg (pe_tup (pa_cons ha.pe (pa_cons hb.pe (pa_cons hc3.pe pa_nil hs3) hs2) hs1)) (pg_tup hc (pgs_cons (pg_name hN hi hx fx) (pgs_cons (pg_name hN hj hy fy) (pgs_cons (pg_name hN hm hz fz) pgs_nil hh3) hh2) hh1) hn hst) hs hw h1, fun {G H0 ρ σ F H} rel D P => ?_⟩
  refine ha.sound rel _ (postS_keep rel P fun r v F1 H1 e1 q1 P1 => hb.sound (rel.step e1) _ (postS_keep (rel.step e1) P1 fun r2 v2 F2 H2 e2 q2 P2 => hc3.sound ((rel.step e1).step e2) _ (postS_keep ((rel.step e1).step e2) P2 fun r3 v3 F3 H3 e3 q3 P3 => ?_)))
  have R := Rel.setOwn (i := m) (Rel.setOwn (i := j) (rel.setOwn (i := i) e1 q1) e2 q2) e3 q3
  exact ⟨by show 3 ≤ sizeLine; decide, fun p np => ⟨p, _, rfl, SqT.of upd_same, rfl, v, _, rfl, v2, _, rfl, v3, _, rfl, rfl, P3 _ _ _ (R.step (Ext.addH R.sub np))⟩⟩
end
end DN
namespace DN
open PySem PySem.Spec PyProof.Rows L2
/-- a def of which nothing is promised -/
theorem fn_bad {P : Program} {w : World} {K : PySem.W.Frag} {mg : Str → Option Value} {base : Heap} {CX : CXT} {k n : Nat} {f : Addr} {fd : FuncData} {ps : List Str} (hn : ps.length = n) : FnOk P w K mg base CX k f fd ps (spD K mg n fun _ => .bad) :=
  ⟨fun vs H Q E h => by rw [hn]; exact h.1, fun A outer s H args us vs Q E hr he hb hv h => by obtain ⟨_, _, _, _, _, z⟩ := h; exact z.elim⟩
end DN
/-! Den20: try .. except X as n. -/
namespace DN
open PySem PySem.Spec PyProof.Rows L2
def after (i : Nat) : RO → RO
  | .nx ρ => .nx (ρ.set i none)
  | .ret r => .ret r
  | .retk r ρ => .retk r (ρ.set i none)
  | _ => .bad
open Classical in
noncomputable def gTry (known : List Str) (i : Nat) (gb : Ev → RO) (gh : Str → Addr → Ev → RO) : Ev → RO := fun ρ => match gb ρ with
  | .exc c ρ' => if c ∈ known ∧ ∀ a, after i (gh c a (ρ'.set i (some (.raw (.ref a))))) = after i (gh c 0 (ρ'.set i (some (.raw (.ref 0))))) then after i (gh c 0 (ρ'.set i (some (.raw (.ref 0))))) else .bad
  | .nx ρ' => .nx ρ'
  | .ret r => .ret r
  | .bad => .bad
  | .retk r ρ' => .retk r ρ'
theorem gTry_retk {known : List Str} {i : Nat} {gb : Ev → RO} {gh : Str → Addr → Ev → RO} {ρ ρ' : Ev} {r : R} (h : gb ρ = .retk r ρ') : gTry known i gb gh ρ = .retk r ρ' := by
  unfold gTry
  rw [h]
theorem gTry_exck {known : List Str} {i : Nat} {gb : Ev → RO} {gh : Str → Addr → Ev → RO} {ρ ρ' ρ2 : Ev} {c : Str} {r : R} (h : gb ρ = .exc c ρ') (hc : c ∈ known) (hr : ∀ a, gh c a (ρ'.set i (some (.raw (.ref a)))) = .retk r (ρ2.set i (some (.raw (.ref a))))) : gTry known i gb gh ρ = .retk r (ρ2.set i none) := by
  unfold gTry
  rw [h]
  have e : ∀ a, after i (gh c a (ρ'.set i (some (.raw (.ref a))))) = .retk r (ρ2.set i none) := fun a => by
    rw [hr a]
    show RO.retk r ((ρ2.set i (some (.raw (.ref a)))).set i none) = _
    rw [List.set_set]
  simp only [e, hc, true_and, implies_true, if_true]
theorem gTry_nx {known : List Str} {i : Nat} {gb : Ev → RO} {gh : Str → Addr → Ev → RO} {ρ ρ' : Ev} (h : gb ρ = .nx ρ') : gTry known i gb gh ρ = .nx ρ' := by
  unfold gTry
  rw [h]
theorem gTry_ret {known : List Str} {i : Nat} {gb : Ev → RO} {gh : Str → Addr → Ev → RO} {ρ : Ev} {r : R} (h : gb ρ = .ret r) : gTry known i gb gh ρ = .ret r := by
  unfold gTry
  rw [h]
theorem gTry_exc {known : List Str} {i : Nat} {gb : Ev → RO} {gh : Str → Addr → Ev → RO} {ρ ρ' : Ev} {c : Str} {r : R} (h : gb ρ = .exc c ρ') (hc : c ∈ known) (hr : ∀ a, gh c a (ρ'.set i (some (.raw (.ref a)))) = .ret r) : gTry known i gb gh ρ = .ret r := by
  unfold gTry
  rw [h]
  simp only [hr, hc, true_and, implies_true, if_true]
  rfl
theorem pss_when {X : Cx} {sts : List Stmt} {t : TS} {p : Prop} (h : p → PSs X sts t) : PSs X sts (fun D σ H => p ∧ t D σ H) := ⟨fun pins s σ H D I q => (h q.1).run pins s σ H D I q.2⟩
def onRef (ts : Addr → TS) : Value → TS
  | .ref C => ts C
  | _ => fun _ _ _ => False
section
variable {X : Cx} {W : WX}
theorem es_try {x n : Str} {CL : Addr} {i : Nat} {known : List Str} {body suite : List Stmt} {b₀ : Stmt} {np pos pos' : Pos} {tb : WX → TS} {ts : Addr → Addr → TS} {gb : Ev → RO} {gh : Str → Addr → Ev → RO}
    (hs : X.stack = X.env :: X.outer) (hf : X.env.frame = some X.env.locals) (hN : X.N.Nodup) (hcl : X.mg x = some (.ref CL)) (tk : Takes X W)
    (hex : ∀ c C, c ∈ known → X.mg c = some (.ref C) → PySem.W.exmOne X.K (.ref C) (.ref CL) = some true)
    (hb : ∀ (W' : WX) (pn : List (Addr × Obj)) (xe : Value → Shared → Prop), Takes (X.tr pn xe) W' → PassesOwn (model X.prog X.w) X.A X.env xe → EB (X.tr pn xe) W' body (tb W') gb)
    (hsu : ∀ (a : Addr) (oe : Obj) (C : Addr) (c : Str) (pn : List (Addr × Obj)), c ∈ known → X.mg c = some (.ref C) → Zc (.ref C) none oe → (∃ vs, oe.data = .fields vs) → EB (X.suite a ((a, oe) :: pn)) W0 (b₀ :: suite) (ts a C) (gh c a))
    (hi : X.N[i]? = some n := by rfl) (hln : X.env.kindOf n = some .local := by rfl) (hg : Gl X x := by rfl) (hdb : (x == ("__debug__" : Str)) = false := by decide) :
    ES X W (.Try body [.ExceptHandler (some (.Name x np)) (some n) (b₀ :: suite) pos'] [] [] pos)
      (fun D σ H => tb (wAs X.K (.ref CL) i (fun a cls d D σ H => (∃ c C, c ∈ known ∧ X.mg c = some (.ref C) ∧ cls = .ref C ∧ d = none) ∧ onRef (ts a) cls D σ H) W D) D σ H) (gTry known i gb gh) where
  ps := ps_try_as hs hf hN hi hln ⟨hg, hdb, .inl hcl⟩ tk (fun W' pn xe t p => (hb W' pn xe t p).ps) fun a oe cls d pn hz hf => pss_when fun ⟨c, C, hc, hm, e1, e2⟩ => by
    subst e1 e2
    exact (hsu a oe C c pn hc hm hz hf).ps
  sound := fun {G H0 ρ σ F H} rel D P => by
    refine (hb _ [] (fun e s₁ => wpAny (model X.prog X.w) X.A (noteFrame e X.env) (fun _ s₂ => wpAny (model X.prog X.w) X.A (setFlight e none) (fun _ _ => True) (fun _ _ => True) s₂) (fun _ _ => True) s₁) (fun u s' xx => ?_) PassesOwn.looking).sound rel D ?_
    · obtain ⟨a, B, sI, pins', σ', H', cls, d, rfl, J', nb, up, sky, na, os, ag, w⟩ := xx
      have hfr : X.A.frames = some (X.env :: X.outer) := by rw [J'.ok.frames]; exact congrArg some hs
      have sky' : Sky B (X.env :: X.outer) a (Zc cls d) X.env.locals s'.heap := by rw [← hs]; exact sky
      show wpAny (model X.prog X.w) X.A (noteFrame (.ref a) X.env) _ _ _
      exact Sky.land Zc.steady hfr hf sky' fun h3 fl3 up3 => trivial
    unfold gTry at P
    cases h : gb ρ with
    | nx ρ' => rw [h] at P; exact P
    | ret r => rw [h] at P; exact P
    | bad => rw [h] at P; exact P
    | retk r ρ' => rw [h] at P; exact P
    | exc c ρ' =>
      rw [h] at P
      intro C σ' F' H' mC r
      by_cases hc : c ∈ known ∧ ∀ a, after i (gh c a (ρ'.set i (some (.raw (.ref a))))) = after i (gh c 0 (ρ'.set i (some (.raw (.ref 0)))))
      · have P : PostS X.K X.mg W G H0 D (after i (gh c 0 (ρ'.set i (some (.raw (.ref 0)))))) := by
          have := P
          simp only [if_pos hc] at this
          exact this
        refine ⟨true, hex c C hc.1 mC, fun _ a na => ⟨⟨c, C, hc.1, mC, rfl, rfl⟩, ?_⟩, fun z => nomatch z⟩
        have r2 : Rel X.K G H0 (ρ'.set i (some (.raw (.ref a)))) (σ'.set i (some (.ref a))) F' H' := r.setVal (r := .raw (.ref a)) (v := .ref a) rfl rfl
        refine (hsu a ⟨.ref C, none, .fields #[], #[]⟩ C c [] hc.1 mC ⟨rfl, rfl⟩ ⟨_, rfl⟩).sound r2 _ ?_
        rw [← hc.2 a] at P
        cases ho : gh c a (ρ'.set i (some (.raw (.ref a)))) with
        | nx ρ'' =>
          rw [ho] at P
          exact fun σ'' F'' H'' r3 => P _ F'' H'' r3.unset
        | ret r => rw [ho] at P; exact P
        | exc _ _ => rw [ho] at P; exact P.elim
        | bad => rw [ho] at P; exact P.elim
        | retk r ρ'' =>
          rw [ho] at P
          refine fun v σ'' F'' H'' r3 q z => P v _ F'' H'' r3.unset q fun x j y w c e s => ?_
          by_cases hj : i = j
          · subst hj
            rw [List.getElem?_set] at e
            simp at e
          · rw [List.getElem?_set_ne hj] at e s
            exact z x j y w c e s
      · simp only [if_neg hc] at P
        exact P.elim
end
end DN
/-! Den21: what an except suite asks: isinstance(e, C), [..].index(True). -/
namespace DN
open PySem PySem.Spec PyProof.Rows L2
section
variable {X : Cx} {W : WX} {pos p : Pos} (K : PySem.W.Frag)
@[simp] def fIsE (a : Addr) (i : Nat) (b : Bool) : Ev → Rs R := fun ρ => match ρ[i]? with
  | some (some (.raw (.ref a'))) => if a' = a then .ok (.val (.bool b)) else .bad
  | _ => .bad
theorem ek_isE {a C CC : Addr} {oe : Obj} {pn : List (Addr × Obj)} (i : Nat) {b : Bool} {x q : Str} {p1 p2 : Pos} (E : ExcC K C) (hz : Zc (.ref C) none oe) (hf : ∃ vs, oe.data = .fields vs) (hm : X.mg "isinstance" = none) (hq : X.mg q = some (.ref CC)) (hkit : PySem.W.kitOne K (.ref C) (.ref CC) = some b)
    (hN : X.N[i]? = some x := by rfl) (hv : Vis X.env.scope x := by first | exact Or.inl rfl | exact Or.inr (Or.inl rfl) | exact Or.inr (Or.inr rfl)) (hd : (x == ("__debug__" : Str)) = false := by decide) (hcd : (x == ("__classdict__" : Str)) = false := by decide)
    (hg : Gl X "isinstance" := by rfl) (hgq : Gl X q := by rfl) (hdq : (q == ("__debug__" : Str)) = false := by decide)
    (hs1 : starEach [.Name x p1, .Name q p2] X.env = (false, eval (.Name x p1) X.env) :: starEach [.Name q p2] X.env := by rfl) (hs2 : starEach [.Name q p2] X.env = (false, eval (.Name q p2) X.env) :: starEach [] X.env := by rfl) (hpl : (backTo pos (starEach [.Name q p2] X.env)).any (·.1) = false := by rfl) (hK : X.K = K := by rfl) :
    EE (X.suite a ((a, oe) :: pn)) W (.Call (.Name "isinstance" p) [.Name x p1, .Name q p2] [] pos) (tCB (rIsE K C a) (tCons (tVar i) (tCons (tC (.ref CC)) tNil))) (fIsE a i b) := by
  subst hK
  refine ⟨pe_callB (call_isE E hz hf) hg hm (by decide +kernel) (pa_cons (pe_var hN hv hd hcd) (pa_cons (pe_glob hgq hq rfl hdq) pa_nil hs2) hs1) (by decide) (by decide) hs1 hpl, fun {G H0 ρ σ F H} rel Q P => ?_⟩
  unfold fIsE at P
  split at P
  · rename_i a' h
    split at P
    · rename_i e
      subst e
      obtain ⟨v, hv, e⟩ := rel.at_ i _ h
      cases e
      exact ⟨_, hv, .ref CC, .ref CC, b, rfl, fun u r => by cases r; rfl, hkit, post_flat rel.sub (.bl _) P⟩
    · exact P.elim
  · exact P.elim
def idxT : PyData → Rs R
  | .list ds => match asBs ds with
    | some bs => match bs.findIdx? id with
      | some j => .ok (.val (.int (j : Nat)))
      | none => .bad
    | none => .bad
  | _ => .bad
theorem ek_idxT {o : Expr} {te : TE} {f : Ev → Rs R} {apos cpos p2 : Pos} {jj : Nat} (he : EE X W o te f)
    (hbase : attributeBase o "index" X.env (eval o X.env) = eval o X.env := by rfl)
    (hfew : ((backTo cpos (starEach [Expr.Constant (.bool true) jj p2] X.env)).all (fun x => !x.1) && (backToKw cpos (keywordEach [] X.env)).all (fun x => x.1.isSome)
      && decide (([Expr.Constant (.bool true) jj p2] : List Expr).length + ([] : List Keyword).length + (if ([] : List Keyword).isEmpty then 0 else 1) < 30)) = true := by rfl)
    (hline : (apos.endLine == cpos.line) = true := by rfl) (hs : starEach [Expr.Constant (.bool true) jj p2] X.env = (false, eval (.Constant (.bool true) jj p2) X.env) :: starEach [] X.env := by rfl) (hplain : (backTo cpos (starEach [] X.env)).any (·.1) = false := by rfl) (hK : X.K = K := by rfl) :
    EE X W (.Call (.Attribute o "index" apos) [.Constant (.bool true) jj p2] [] cpos) (tBM K "list" (rIndex K) te (tCons (tC (.bl true)) tNil)) (fUn idxT f) := by
  subst hK
  refine ⟨pe_bm PySem.F.plainAttrs_list PySem.F.slot_list_index PySem.F.type_list_index mt_index he.pe (pa_cons (ee_bl (W := W)).pe pa_nil hs) hbase hfew hline hs hplain, fun {G H0 ρ σ F H} rel Q P => ?_⟩
  refine he.sound rel _ (post_data P fun d v F1 H1 e1 r1 P1 => ?_)
  unfold idxT at P1
  cases r1 with
  | @lst b ys ds hb w =>
    dsimp only at P1
    split at P1
    · rename_i bs hbs
      split at P1
      · rename_i k hk
        have hy := DDs.ofBools (asBs_eq hbs ▸ w)
        obtain ⟨hlt, h1, h2⟩ := List.findIdx?_eq_some_iff_getElem.mp hk
        refine ⟨.inl ⟨rfl, ys, SqL.of (e1.sub _ _ hb)⟩, b, ys, .bl true, k, .bl true, rfl, rfl, SqL.of (e1.sub _ _ hb), rfl, ?_, ?_, rfl, fun m z' hm hz' => ?_, post_flat e1.sub (.int _) P1⟩
        · rw [hy]; simp [flatV]
        · rw [hy, List.getElem?_map]
          simp [hlt]
          simpa using h1
        · rw [hy, List.getElem?_map] at hz'
          have := h2 m hm
          have hml : m < bs.length := by omega
          simp [hml] at hz'
          subst hz'
          simp at this
          rw [this]
          rfl
      · exact P1.elim
    · exact P1.elim
  | _ => exact P1.elim
end
end DN
/-! Den22: [f, g, ..][i](..), a def picked from a list of defs. -/
namespace DN
open PySem PySem.Spec PyProof.Rows L2
structure Picked (P : Program) (w : World) (K : PySem.W.Frag) (mg : Str → Option Value) (base : Heap) (k n : Nat) (f : Addr) (den : List R → Rs R) : Prop where
  ex : ∃ (fd : FuncData) (ps : List Str), FnOk P w K mg base (L2.CX P w) k f fd ps (spD K mg n den) ∧ PySem.W.keepIn K (.ref f) = true ∧ Binds K fd ps []
def refs : List Addr → TA
  | [] => tNil
  | f :: fs => tCons (tC (.ref f)) (refs fs)
theorem refs_is : ∀ (fs : List Addr) (σ : L2.St) (H : Hp) (Q : List V → Hp → Prop), refs fs σ H Q ↔ Q (fs.map V.ref) H
  | [], σ, H, Q => Iff.rfl
  | f :: fs, σ, H, Q => refs_is fs σ H fun xs H1 => Q (.ref f :: xs) H1
@[simp] def fPick (m : Nat) (dens : Nat → List R → Rs R) (fb : Ev → Rs R) (fr : Ev → Rs (List R)) : Ev → Rs R := fun ρ => (fb ρ).bind fun r => r.d.bind fun d => match d with
  | .int j => if 0 ≤ j ∧ j < (m : Nat) then (fr ρ).bind fun rs => dens j.toNat rs else .bad
  | _ => .bad
section
variable {X : Cx} {W : WX} {pos lp sp : Pos} (K : PySem.W.Frag)
def tPick (K : PySem.W.Frag) (mg : Str → Option Value) (n : Nat) (fs : List Addr) (dens : Nat → List R → Rs R) (E : L2.St → XK) (tb : TE) (t : TA) : TE := fun σ H Q =>
  tOp (rIxL K) (tLst (refs fs)) tb σ H fun v H1 => ∃ j f, v = .ref f ∧ fs[j]? = some f ∧ t σ H1 fun vs H2 => spD K mg n (dens j) vs H2 Q (E σ)
theorem ek_pick {k n : Nat} {fs : List Addr} {dens : Nat → List R → Rs R} {ns es : List Expr} {b e : Expr} {tb : TE} {fb : Ev → Rs R} {t : TA} {fr : Ev → Rs (List R)} {mg : Str → Option Value}
    (hp : ∀ j f, fs[j]? = some f → Picked X.prog X.w K mg X.base k n f (dens j)) (hr : Room k X.A) (tk : Takes X W) (hn : PA X ns (refs fs)) (hb : EE X W b tb fb) (ha : EA X W (e :: es) t fr) (hfl : fs.length ≤ 100 := by decide) (hl : (e :: es).length = n := by rfl)
    (hs : PlainIx b := by exact fun _ _ => rfl) (ht : eval (.Call (.Subscript (.List ns lp) b sp) (e :: es) [] pos) X.env = (do callWith pos (← eval (.Subscript (.List ns lp) b sp) X.env) [] (backTo pos (starEach (e :: es) X.env)) (backToKw pos (keywordEach [] X.env))) := by rfl)
    (he : starEach (e :: es) X.env = (false, eval e X.env) :: starEach es X.env := by rfl) (hpl : (backTo pos (starEach es X.env)).any (·.1) = false := by rfl) (hK : X.K = K := by rfl) (hmg : X.mg = mg := by rfl) :
    EE X W (.Call (.Subscript (.List ns lp) b sp) (e :: es) [] pos) (tPick K mg n fs dens (WE W) tb t) (fPick fs.length dens fb fr) := by
  subst hK hmg
  refine ⟨⟨fun pins s σ H Q I h => ?_⟩, fun {G H0 ρ σ F H} rel Q P => ?_⟩
  · refine Call_ (thn ((pe_ix ix_list (pe_lst hn) hb.pe hs).run pins s σ H _ I h) fun u s1 ⟨v, H1, I1, rv, j, f, e1, hj, q⟩ => ?_) ht
    subst e1
    obtain rfl : u = Value.ref f := rv
    obtain ⟨fd, ps, F, hk, hbd⟩ := (hp j f hj).ex
    refine PySem.W.callWith_K (h₀ := X.base) I.ok.mod.kin hk (thn (ha.pa.run pos pins s1 σ H1 _ I1 q) fun us s2 ⟨vs, H2, I2, r, q2⟩ => ⟨I2.kIn, ?_⟩) he hpl
    exact run_fnS F hr hbd (passAt tk σ) I2 r q2
  · refine (refs_is fs σ H _).mpr ⟨by simp; exact Nat.le_trans hfl (by decide), fun p np => ?_⟩
    have e0 : Ext F H F (upd H p (.lst (fs.map V.ref))) := Ext.addH rel.sub np
    unfold fPick at P
    refine hb.sound (rel.step e0) _ (post_data (post_step P e0) fun d v F1 H1 e1 r1 P1 => ?_)
    cases r1 with
    | int j =>
      dsimp only at P1
      split at P1
      · rename_i hj
        obtain ⟨f, hf⟩ : ∃ f, fs[j.toNat]? = some f := ⟨_, List.getElem?_eq_getElem (by omega)⟩
        have hat : atI (fs.map V.ref) j = some (.ref f) := by
          obtain ⟨m, rfl⟩ := Int.eq_ofNat_of_zero_le hj.1
          have hf : fs[m]? = some f := by simpa using hf
          exact atI_nat (by rw [List.getElem?_map, hf]; rfl)
        refine ⟨p, _, j, .ref f, rfl, rfl, SqL.of (e1.hh _ _ upd_same), hat, j.toNat, f, rfl, hf, ?_⟩
        refine ha.sound ((rel.step e0).step e1) _ (postA_out P1 fun rs vs F3 H3 q e3 r3 P3 => ⟨by rw [r3.len, ha.len ρ rs q]; exact hl, rs, F3, e3.sub, r3, ?_⟩)
        cases hd : dens j.toNat rs with
        | ok r => rw [hd] at P3; exact P3
        | err c => rw [hd] at P3; exact P3
        | bad => rw [hd] at P3; exact P3
      · exact P1.elim
    | _ => exact P1.elim
end
end DN
/-! Den23: x = [.. for .. for ..] on one line. -/
namespace DN
open PySem PySem.Spec PyProof.Rows L2
theorem lookup_relabel {env : Env} {x : Str} : ∀ {names : List (Str × NameKind)}, names.lookup x = some .cell ∨ names.lookup x = some .free →
    (names.map fun (n, k) => if (k == NameKind.free && env.scope.kind == .function && env.kindOf n == some .cell) then (n, NameKind.cell) else (n, k)).lookup x = some .cell ∨ (names.map fun (n, k) => if (k == NameKind.free && env.scope.kind == .function && env.kindOf n == some .cell) then (n, NameKind.cell) else (n, k)).lookup x = some .free
  | [], h => by rcases h with h | h <;> cases h
  | (n, k) :: r, h => by
    rw [List.map_cons]
    cases hx : x == n with
    | true =>
      have hk : k = .cell ∨ k = .free := by
        rcases h with h | h
        · rw [List.lookup_cons, hx] at h
          injection h with h
          exact .inl h
        · rw [List.lookup_cons, hx] at h
          injection h with h
          exact .inr h
      by_cases hc : (k == NameKind.free && env.scope.kind == .function && env.kindOf n == some .cell) = true
      · left
        simp only [if_pos hc, List.lookup_cons, hx]
      · simp only [if_neg hc, List.lookup_cons, hx]
        rcases hk with rfl | rfl
        · exact .inl rfl
        · exact .inr rfl
    | false =>
      have h' : r.lookup x = some .cell ∨ r.lookup x = some .free := by
        rcases h with h | h
        · rw [List.lookup_cons, hx] at h; exact .inl h
        · rw [List.lookup_cons, hx] at h; exact .inr h
      have ih := lookup_relabel (env := env) h'
      by_cases hc : (k == NameKind.free && env.scope.kind == .function && env.kindOf n == some .cell) = true
      · simp only [if_pos hc, List.lookup_cons, hx]
        exact ih
      · simp only [if_neg hc, List.lookup_cons, hx]
        exact ih
/-- a comprehension within a comprehension -/
theorem blkOk_in {N : List Str} {sc scope : Scope} {env : Env} {own : List (Str × Nat)} (h : blkC N sc scope own = true) : BlkOk N (relabel sc env) scope own where
  kind := (blkOk_by h).kind
  uniq := (blkOk_by h).uniq
  ix := (blkOk_by h).ix
  free := fun y hy e => lookup_relabel ((blkOk_by h).free y hy e)
  own := (blkOk_by h).own
section
variable {X : Cx} {W : WX} {pos : Pos}
theorem es_setLc2F (i : Nat) {y : Str} {py : Pos} {elt tg iter tg1 iter1 : Expr} {ifs ifs1 : List Expr} {scope : Scope} {own : List (Str × Nat)} {spos : Pos} {wi wi1 : TI} {g g1 : TG} {tt tt1 : TT} {te : TE} {i0 : Nat} {is1 : List Nat} {fi fi1 : Ev → Rs (List PyData)} {ft1 : PyData → Ev → Rs Ev} {fc fc1 : Ev → Rs Bool} {fe : Ev → Rs R}
    (hN : X.N.Nodup) (hi : EI X W tg iter wi fi) (ok : BlkOk X.N X.env.scope scope own)
    (hg : ∀ (s : Shared) (H : Hp) (C : Addr) (cl : List (Str × Addr)) (fp : List Addr), EG (X.blk s H scope (compEnvC scope cl C X.env) fp) tg g [i0] (tName i0))
    (ht : ∀ (s : Shared) (H : Hp) (C : Addr) (cl : List (Str × Addr)) (fp : List Addr), ETs (X.blk s H scope (compEnvC scope cl C X.env) fp) W0 ifs tt fc)
    (hi1 : ∀ (s : Shared) (H : Hp) (C : Addr) (cl : List (Str × Addr)) (fp : List Addr), EI (X.blk s H scope (compEnvC scope cl C X.env) fp) W0 tg1 iter1 wi1 fi1)
    (hg1 : ∀ (s : Shared) (H : Hp) (C : Addr) (cl : List (Str × Addr)) (fp : List Addr), EG (X.blk s H scope (compEnvC scope cl C X.env) fp) tg1 g1 is1 ft1)
    (ht1 : ∀ (s : Shared) (H : Hp) (C : Addr) (cl : List (Str × Addr)) (fp : List Addr), ETs (X.blk s H scope (compEnvC scope cl C X.env) fp) W0 ifs1 tt1 fc1)
    (he : ∀ (s : Shared) (H : Hp) (C : Addr) (cl : List (Str × Addr)) (fp : List Addr), EE (X.blk s H scope (compEnvC scope cl C X.env) fp) W0 elt te fe)
    (hsub : ∀ i ∈ [i0], i ∈ own.map (·.2) := by decide) (hv : ∀ i ∈ is1, i ∈ own.map (·.2) := by decide) (hc : X.calm = true := by rfl) (hs : ∀ x, foldedSetIterable iter X.env x = pure x := by intro _; rfl) (hs1 : ∀ env x, foldedSetIterable iter1 env x = pure x := by intro _ _; rfl)
    (hy : X.N[i]? = some y := by rfl) (hyl : X.env.scope.names.lookup y = some .local := by rfl) (hk : X.env.scope.kind = .function := by rfl) (hl : (py.line == pos.line) = true := by rfl)
    (ha : (scope.names.any fun (n, k) => n == y && (k == .local || k == .cell)) = false := by decide +kernel) :
    ES X W (.Assign [.Name y py] (.ListComp elt [⟨tg, iter, ifs, 0⟩, ⟨tg1, iter1, ifs1, 0⟩] scope pos) spos) (tAsg (tLc2 wi g tt wi1 g1 tt1 te (own.map (·.2)) is1) (gName i)) (gAsgF i (fLc2 (own.map (·.2)) is1 fi (tName i0) fc fi1 ft1 fc1 fe)) :=
  es_asgPF (ps_setLc2 hc hN hy hyl (sw_true hk hyl hl ha) hi.pi ok hv (fun s H C cl fp => (hg s H C cl fp).pg) (fun s H C cl fp => (ht s H C cl fp).pts) (fun s H C cl fp => (hi1 s H C cl fp).pi) (fun s H C cl fp => (hg1 s H C cl fp).pg) (fun s H C cl fp => (ht1 s H C cl fp).pts) (fun s H C cl fp => (he s H C cl fp).pe) hs hs1)
    (ee_lc2 (pos := pos) hN hi ok hg ht hi1 hg1 ht1 he hsub hv hc hs hs1)
theorem es_setLc2 (i : Nat) {y : Str} {py : Pos} {elt tg iter tg1 iter1 : Expr} {ifs ifs1 : List Expr} {scope : Scope} {own : List (Str × Nat)} {spos : Pos} {wi wi1 : TI} {g g1 : TG} {tt tt1 : TT} {te : TE} {i0 : Nat} {is1 : List Nat} {fi fi1 : Ev → Rs (List PyData)} {ft1 : PyData → Ev → Rs Ev} {fc fc1 : Ev → Rs Bool} {fe : Ev → Rs R}
    (hN : X.N.Nodup) (hi : EI X W tg iter wi fi) (ok : BlkOk X.N X.env.scope scope own)
    (hg : ∀ (s : Shared) (H : Hp) (C : Addr) (cl : List (Str × Addr)) (fp : List Addr), EG (X.blk s H scope (compEnvC scope cl C X.env) fp) tg g [i0] (tName i0))
    (ht : ∀ (s : Shared) (H : Hp) (C : Addr) (cl : List (Str × Addr)) (fp : List Addr), ETs (X.blk s H scope (compEnvC scope cl C X.env) fp) W0 ifs tt fc)
    (hi1 : ∀ (s : Shared) (H : Hp) (C : Addr) (cl : List (Str × Addr)) (fp : List Addr), EI (X.blk s H scope (compEnvC scope cl C X.env) fp) W0 tg1 iter1 wi1 fi1)
    (hg1 : ∀ (s : Shared) (H : Hp) (C : Addr) (cl : List (Str × Addr)) (fp : List Addr), EG (X.blk s H scope (compEnvC scope cl C X.env) fp) tg1 g1 is1 ft1)
    (ht1 : ∀ (s : Shared) (H : Hp) (C : Addr) (cl : List (Str × Addr)) (fp : List Addr), ETs (X.blk s H scope (compEnvC scope cl C X.env) fp) W0 ifs1 tt1 fc1)
    (he : ∀ (s : Shared) (H : Hp) (C : Addr) (cl : List (Str × Addr)) (fp : List Addr), EE (X.blk s H scope (compEnvC scope cl C X.env) fp) W0 elt te fe)
    (hsub : ∀ i ∈ [i0], i ∈ own.map (·.2) := by decide) (hv : ∀ i ∈ is1, i ∈ own.map (·.2) := by decide) (hc : X.calm = true := by rfl) (hs : ∀ x, foldedSetIterable iter X.env x = pure x := by intro _; rfl) (hs1 : ∀ env x, foldedSetIterable iter1 env x = pure x := by intro _ _; rfl)
    (hy : X.N[i]? = some y := by rfl) (hyl : X.env.scope.names.lookup y = some .local := by rfl) (hk : X.env.scope.kind = .function := by rfl) (hl : (py.line == pos.line) = true := by rfl)
    (ha : (scope.names.any fun (n, k) => n == y && (k == .local || k == .cell)) = false := by decide +kernel) :
    ES X W (.Assign [.Name y py] (.ListComp elt [⟨tg, iter, ifs, 0⟩, ⟨tg1, iter1, ifs1, 0⟩] scope pos) spos) (tAsg (tLc2 wi g tt wi1 g1 tt1 te (own.map (·.2)) is1) (gName i)) (gAsg i (fLc2 (own.map (·.2)) is1 fi (tName i0) fc fi1 ft1 fc1 fe)) :=
  es_asgP (ps_setLc2 hc hN hy hyl (sw_true hk hyl hl ha) hi.pi ok hv (fun s H C cl fp => (hg s H C cl fp).pg) (fun s H C cl fp => (ht s H C cl fp).pts) (fun s H C cl fp => (hi1 s H C cl fp).pi) (fun s H C cl fp => (hg1 s H C cl fp).pg) (fun s H C cl fp => (ht1 s H C cl fp).pts) (fun s H C cl fp => (he s H C cl fp).pe) hs hs1)
    (ee_lc2 (pos := pos) hN hi ok hg ht hi1 hg1 ht1 he hsub hv hc hs hs1)
end
end DN
/-! Den24: dicts with tuple keys that stay: let go, walked, read. -/
namespace DN
open PySem PySem.Spec PyProof.Rows L2
/-- a dict of ours is let go -/
def R.fz : R → Rs R
  | .dct kvs => .ok (.dfz kvs)
  | _ => .bad
@[simp] theorem fz_dct (kvs : List (List Key × PyData)) : (R.dct kvs).fz = .ok (.dfz kvs) := rfl
@[simp] def fFz (f : Ev → Rs R) : Ev → Rs R := fun ρ => (f ρ).bind R.fz
def tLockV (t : TE) : TE := fun σ H Q => t σ H fun v H1 => ∃ p u, v = .ref p ∧ H1 p = some u ∧ Mut (some u) ∧ ∀ od, Q v (upd H1 p (.frz od u))
section
variable {X : Cx} {W : WX}
theorem pe_lockV {e : Expr} {t : TE} (h : PE X e t) : PE X e (tLockV t) := by
  refine ⟨fun pins s σ H Q I hw => ?_⟩
  refine thn (h.run pins s σ H _ I hw) fun u s1 ⟨x, H1, I1, r, p, ho, e, hp, mu, q⟩ => ?_
  obtain ⟨od, I2⟩ := I1.lock hp mu
  exact ⟨x, _, I2, r, q od⟩
theorem ek_fz {e : Expr} {t : TE} {f : Ev → Rs R} (h : EE X W e t f) : EE X W e (tLockV t) (fFz f) where
  pe := pe_lockV h.pe
  sound := fun {G H0 ρ σ F H} rel Q P => by
    unfold fFz at P
    cases hf : f ρ with
    | err c => rw [hf] at P; exact h.sound rel _ (by rw [hf]; exact P)
    | bad => rw [hf] at P; exact P.elim
    | ok r =>
      rw [hf] at P
      cases r with
      | dct kvs =>
        have P : Post X.K X.mg W σ F H Q (.ok (.dfz kvs)) := P
        refine h.sound rel _ ?_
        rw [hf]
        intro v F1 H1 e1 q1
        obtain ⟨⟨p, ws, rfl, hp, hF, kd⟩, fr⟩ := q1
        have np : H p = none := fr rfl p rfl
        refine ⟨p, _, rfl, hp, trivial, fun od => P _ (upd F1 p (.frz od (.dT ws))) _ ⟨e1.old, e1.ff.trans (same_new hF), fun b x e => by rw [upd_ne (ne_of_none e np)]; exact e1.hh _ _ e, same_upd2 e1.sub, fun a q => ?_⟩ ⟨⟨p, od, ws, rfl, upd_same, KD.mono (same_new hF) kd⟩, fun e => nomatch e⟩⟩
        by_cases z : a = p
        · subst z; exact .inr (.none np)
        · rw [upd_ne z] at q; exact e1.new a q
      | _ => exact P.elim
/-! ### a dict in a slot is let go -/
@[simp] def frzD (i : Nat) (ρ : Ev) : Ev := match ρ[i]? with
  | some (some (.dct kvs)) => ρ.set i (some (.dfz kvs))
  | _ => ρ
def tLockI (i : Nat) (t : TS) : TS := fun D σ H => t D σ H ∨ ∃ p u, σ[i]? = some (some (.ref p)) ∧ H p = some u ∧ Mut (some u) ∧ ∀ od, t D σ (upd H p (.frz od u))
theorem ps_lockI {st : Stmt} {t : TS} (i : Nat) (h : PS X st t) : PS X st (tLockI i t) := by
  refine ⟨fun pins s σ H D I hw => ?_⟩
  rcases hw with hw | ⟨p, u, hi, hp, mu, hw⟩
  · exact h.run pins s σ H D I hw
  · obtain ⟨od, I1⟩ := I.lock hp mu
    exact h.run pins s σ _ D I1 (hw od)
theorem Rel.lock {K : PySem.W.Frag} {G H0 F H : Hp} {ρ : Ev} {σ : L2.St} {i : Nat} {kvs : List (List Key × PyData)} {p : Addr} {ws : List (List Key × V)} (rel : Rel K G H0 ρ σ F H) (h : ρ[i]? = some (some (.dct kvs))) (hv : σ[i]? = some (some (.ref p))) (hp : H p = some (.dT ws)) (hF : F p = none) (r : KD F ws kvs) (od : Obj) :
    Rel K G H0 (ρ.set i (some (.dfz kvs))) σ (upd F p (.frz od (.dT ws))) (upd H p (.frz od (.dT ws))) := by
  have np : H0 p = none := rel.frs i _ _ p h hv rfl
  have hl := lt_of_get h
  have sm : Same F (upd F p (.frz od (.dT ws))) := same_new hF
  have mv : ∀ {j : Nat} {y : R} {w : V}, i ≠ j → ρ[j]? = some (some y) → σ[j]? = some (some w) → Rep K F H w y → Rep K (upd F p (.frz od (.dT ws))) (upd H p (.frz od (.dT ws))) w y ∧ ∀ q, Cell (upd H p (.frz od (.dT ws))) w y q → Cell H w y q := fun {j y w} z e s b =>
    b.move sm (fun q hq => upd_ne hq) (fun q hq => upd_ne hq) fun c => z (rel.apart i j _ y _ w p h e hv s rfl c)
  have key : ∀ {j : Nat} {y : R} {w : V} {c : Addr}, (ρ.set i (some (.dfz kvs)))[j]? = some (some y) → σ[j]? = some (some w) → Cell (upd H p (.frz od (.dT ws))) w y c → ρ[j]? = some (some y) ∧ Cell H w y c := fun {j y w c} e s o => by
    by_cases z : i = j
    · subst z
      rw [List.getElem?_set_self hl] at e
      cases e; cases o.own
    · rw [List.getElem?_set_ne z] at e
      obtain ⟨w', a, b⟩ := rel.at_ j y e
      rw [s] at a
      cases a
      exact ⟨e, (mv z e s b).2 c o⟩
  refine ⟨⟨rel.base.keep.trans sm, fun b o q => ?_, same_upd2 rel.base.sub, fun a q => ?_⟩, by simp [rel.len], fun j y e => ?_, fun j y w q e s o => rel.frs j y w q (key e s o).1 s (key e s o).2, fun j k y z w1 w2 q e1 e2 s1 s2 o1 o2 => rel.apart j k y z w1 w2 q (key e1 s1 o1).1 (key e2 s2 o2).1 s1 s2 (key e1 s1 o1).2 (key e2 s2 o2).2⟩
  · rw [upd_ne (ne_of_none q np)]; exact rel.base.hh _ _ q
  · by_cases z : a = p
    · subst z; exact .inr (.none np)
    · rw [upd_ne z] at q; exact rel.base.new a q
  · by_cases z : i = j
    · subst z
      rw [List.getElem?_set_self hl] at e
      cases e
      exact ⟨_, hv, p, od, ws, rfl, upd_same, KD.mono sm r⟩
    · rw [List.getElem?_set_ne z] at e
      obtain ⟨w, a, b⟩ := rel.at_ j y e
      exact ⟨w, a, (mv z e a b).1⟩
theorem es_frzD {st : Stmt} {t : TS} {g : Ev → RO} (i : Nat) (a : ES X W st t g) : ES X W st (tLockI i t) (fun ρ => g (frzD i ρ)) where
  ps := ps_lockI i a.ps
  sound := fun {G H0 ρ σ F H} rel D P => by
    unfold frzD at P
    split at P
    · rename_i kvs h
      obtain ⟨v, hv, p, ws, rfl, hp, hF, r⟩ := rel.at_ i _ h
      exact .inr ⟨p, _, hv, hp, trivial, fun od => a.sound (rel.lock h hv hp hF r od) D P⟩
    · exact .inl (a.sound rel D P)
/-! ### for k in d -/
theorem keyDDs {F : Hp} : ∀ ks : List Key, DDs F (ks.map kV) (ks.map keyD)
  | [] => .nil
  | .inl i :: ks => .cons (.int i) (keyDDs ks)
  | .inr x :: ks => .cons (.str x) (keyDDs ks)
theorem walk_kt {F : Hp} {d : Addr} {o : Obj} {ws : List (List Key × V)} (h : F d = some (.frz o (.dT ws))) : WalkD (Itkt d o ws) F (ws.map fun kv => kTup kv.1) where
  goes := fun i H hi s => ⟨s _ _ h, by simpa using hi⟩
  stops := fun H s => ⟨s _ _ h, by simp⟩
  yields := fun i H x H' d' F1 hd sF sH y => by
    obtain ⟨rfl, k, v, q, hk, rfl, hq⟩ := y
    rw [List.getElem?_map, hk] at hd
    cases hd
    exact ⟨_, addTups_ext sH [q], .tup (addTups_at sH List.mem_cons_self hq) (keyDDs k)⟩
@[simp] def fKeysF (f : Ev → Rs R) : Ev → Rs (List PyData) := fun ρ => (f ρ).bind fun r => match r with
  | .dfz kvs => .ok (kvs.map fun kv => kTup kv.1)
  | _ => .bad
theorem ei_keysF {tg e : Expr} {te : TE} {f : Ev → Rs R} (h : EE X W e te f) : EI X W tg e (iKeys te) (fKeysF f) where
  pi := pi_keys h.pe
  sound := fun {G H0 ρ σ F H} rel R' P => by
    unfold fKeysF at P
    cases hf : f ρ with
    | err c => rw [hf] at P; exact h.sound rel _ (by rw [hf]; exact P)
    | bad => rw [hf] at P; exact P.elim
    | ok r =>
      rw [hf] at P
      cases r with
      | dfz kvs =>
        have P : PostI X.mg W σ F H R' (.ok (kvs.map fun kv => kTup kv.1)) := P
        refine h.sound rel _ ?_
        rw [hf]
        intro v F1 H1 e1 q1
        obtain ⟨⟨p, o, ws, rfl, hp, kd⟩, _⟩ := q1
        have ek : (ws.map fun kv => kTup kv.1) = kvs.map fun kv => kTup kv.1 := by
          have := congrArg (List.map kTup) (KD.keys kd)
          rw [List.map_map, List.map_map] at this
          exact this
        refine ⟨p, o, rfl, .inr ⟨ws, e1.sub _ _ hp, P _ F1 H1 e1 ?_⟩⟩
        rw [← ek]
        exact walk_kt hp
      | _ => exact P.elim
/-! ### d[k] -/
@[simp] def fDgetF (i : Nat) (fa : Ev → Rs R) : Ev → Rs R := fun ρ => match ρ[i]? with
  | some (some (.dfz kvs)) => (fa ρ).bind fun r => r.d.bind fun x => match asTup x with
    | some k => match valP kvs k with
      | some d => .ok (.val d)
      | none => .bad
    | none => .bad
  | _ => .bad
theorem ee_dgetF (i : Nat) {x : Str} {p2 pos : Pos} {a : Expr} {ta : TE} {fa : Ev → Rs R} (hu : X.A.units + 1 < cLine) (ha : EE X W a ta fa)
    (hN : X.N[i]? = some x := by rfl) (hv : Vis X.env.scope x := by first | exact Or.inl rfl | exact Or.inr (Or.inl rfl) | exact Or.inr (Or.inr rfl)) (hd : (x == ("__debug__" : Str)) = false := by decide) (hcd : (x == ("__classdict__" : Str)) = false := by decide)
    (hs : NoSl a := by exact fun _ _ => rfl) : EE X W (.Subscript (.Name x p2) a pos) (tDGet (tVar i) ta) (fDgetF i fa) where
  pe := pe_dget hu (pe_var hN hv hd hcd) ha.pe hs
  sound := fun {G H0 ρ σ F H} rel Q P => by
    unfold fDgetF at P
    split at P
    · rename_i kvs h
      obtain ⟨w, hw, p, o, ws, rfl, q1, q3⟩ := rel.at_ i _ h
      refine ⟨_, hw, ha.sound rel _ (post_data P fun d v F1 H1 e1 r1 P1 => ?_)⟩
      split at P1
      · rename_i k hk
        obtain ⟨b, rfl, hb⟩ := asTup_ok r1 hk
        have q3' := KD.mono e1.ff q3
        rcases KD.val (k := k) q3' with ⟨_, h2⟩ | ⟨u, y, h1, h2, h3⟩
        · rw [h2] at P1; exact P1.elim
        · rw [h2] at P1
          refine ⟨p, u, rfl, ?_, post_flat e1.sub h3 P1⟩
          rw [← h1]
          exact .inr ⟨ws, k, b, .inr ⟨o, e1.hh _ _ (rel.sub _ _ q1)⟩, rfl, e1.sub _ _ hb, rfl⟩
      · exact P1.elim
    · exact P.elim
end
end DN
/-! Den25: data compared: x < y, min(l), min(x, y). -/
namespace PySem
section
variable {s : Shared} {E : Value → Shared → Prop} {A : Around} {w : World} {prog : Program}
/-- min(a, b), the two compared where H stands -/
theorem min_twoH {x y : Value} {R : Value → Shared → Prop}
    (h : wpAny (model prog w) A.in1 (pyIter (.ref s.heap.objs.size)) (fun it s₂ => ∃ I fp wr G n P St H bt, it = .ref I ∧ WalksS prog w A.in1 I fp wr G n P St ∧ St 0 s₂ ∧ (∀ b ∈ fp, b < s₂.heap.objs.size) ∧ 0 < n ∧
        (∀ b o, H.get? b = some o → b ∉ wr) ∧ (∀ b o, H.get? b = some o → s₂.heap.get? b = some o) ∧ CmpIn prog w A.in1 .Lt H P bt ∧ ∀ v s', P (argBest bt (n - 1)) v → Moved wr G s₂ s' → R v s') E
        { s with heap := s.heap.push { cls := .type "tuple", data := .seq #[x, y] } }) : wpAny (model prog w) A (call (.builtin "min") [x, y]) R E s := by
  have nm : (toString "min" ++ toString ".loop" : String) = "min.loop" := by decide
  refine call_function_tree F.kind_min F.plain_min F.entry_min (F.args_min2 x y) (wpAny_bind (wpAny_of_eq (show Builtin.Builtins.bindParams "min" ["key", "default"] 0 ⟨[], []⟩ = pure [none, none] from rfl) ?_))
  refine (show wpAny _ A.in1 (newTuple [x, y] >>= _) _ _ s from wpAny_bind (wpAny_newObj_type (wpAny_bind (wpAny_mono h (fun it s₂ z => ?_) fun _ _ e => e))))
  obtain ⟨I, fp, wr, G, n, P, St, H, bt, rfl, W, st0, low, pos, out, keep, cmp, fin⟩ := z
  have fresh : s₂.heap.objs.size ∉ fp := fun hm => Nat.lt_irrefl _ (low _ hm)
  refine wpAny_bind (wpAny_newObj_type (by rw [nm]; exact wpAny_pure ⟨plainId_quiet F.plain_min_loop _, codeAny_min_loop_firstH W H out bt cmp s₂.heap.objs.size fresh (fresh_in keep) _ pos (fun b o e => Heap.get?_push_of_some _ (keep b o e)) (W.frame 0 s₂ _ s₂.toks st0 (Nat.le_refl _) fun b _ o e => Heap.get?_push_of_some _ e) (Heap.get?_push_size _ rfl) fun v s' hP hm => fin v s' hP (Moved.drop_new (tk := s₂.toks) hm (Nat.le_refl _))⟩))
end
end PySem
namespace DN
open PySem PySem.Spec PyProof.Rows L2
/-- data that can be compared with one another -/
def minOk (ds : List PyData) : Bool := (ds.all fun d => ds.all fun e => PySem.W.alike d e) && ds.all (fun d => match d with | .none => false | _ => true) && ds.all fun d => decide (d.depth ≤ 16)
theorem minOk_ok {ds : List PyData} (h : minOk ds = true) : PySem.W.AlikeAll ds ∧ PyData.depthAll ds ≤ 16 := by
  unfold minOk at h
  simp only [Bool.and_eq_true, List.all_eq_true, decide_eq_true_eq] at h
  refine ⟨⟨h.1.1, fun x hx e => ?_⟩, ?_⟩
  · have := h.1.2 x hx
    rw [e] at this
    cases this
  · have key : ∀ ds : List PyData, (∀ d ∈ ds, d.depth ≤ 16) → PyData.depthAll ds ≤ 16 := by
      intro ds
      induction ds with
      | nil => intro _; simp [PyData.depthAll]
      | cons d ds ih =>
        intro hd
        simp only [PyData.depthAll]
        have := hd d List.mem_cons_self
        have := ih fun x hx => hd x (List.mem_cons_of_mem _ hx)
        omega
    exact key ds h.2
theorem minD_mem : ∀ (xs : List PyData) (x : PyData), PySem.W.minD x xs ∈ x :: xs
  | [], x => List.mem_cons_self
  | y :: ys, x => by
    show PySem.W.minD (if PySem.W.dataLt y x then y else x) ys ∈ _
    have := minD_mem ys (if PySem.W.dataLt y x then y else x)
    rcases List.mem_cons.mp this with z | z
    · rw [z]
      split
      · exact List.mem_cons_of_mem _ List.mem_cons_self
      · exact List.mem_cons_self
    · exact List.mem_cons_of_mem _ (List.mem_cons_of_mem _ z)
theorem each_at {α β : Type} {P : α → β → Prop} : ∀ {us : List α} {bs : List β} {i : Nat} {u : α}, PySem.W.EachIs P us bs → us[i]? = some u → ∃ b ∈ bs, P u b
  | _, _, i, u, .nil, h => by simp at h
  | _, _, 0, u, .cons r t, h => by
    simp at h
    subst h
    exact ⟨_, List.mem_cons_self, r⟩
  | _, _, i + 1, u, .cons r t, h => by
    obtain ⟨b, hb, p⟩ := each_at (i := i) t (by simpa using h)
    exact ⟨b, List.mem_cons_of_mem _ hb, p⟩
theorem dpAll_of {K : PySem.W.Frag} {H : Hp} : ∀ {bs : List (V × PyData)}, (∀ b ∈ bs, Dp K H b.1 b.2) → DpAll K H (bs.map (·.1)) (bs.map (·.2))
  | [], _ => .nil
  | b :: bs, h => .cons (h b List.mem_cons_self) (dpAll_of fun x hx => h x (List.mem_cons_of_mem _ hx))
def rMinD (K : PySem.W.Frag) : List V → Hp → VK → Prop := fun vs H Q => ∃ (a : Addr) (x : V × PyData) (bs : List (V × PyData)), vs = [V.ref a] ∧ SqL K H a ((x :: bs).map (·.1)) ∧ (∀ b ∈ x :: bs, Dp K H b.1 b.2) ∧
  PySem.W.AlikeAll ((x :: bs).map (·.2)) ∧ PyData.depthAll ((x :: bs).map (·.2)) ≤ 16 ∧ ∀ b ∈ x :: bs, b.2 = PySem.W.minD x.2 (bs.map (·.2)) → Q b.1 H
def rMin2D (K : PySem.W.Frag) : List V → Hp → VK → Prop := fun vs H Q => ∃ x y : V × PyData, vs = [x.1, y.1] ∧ (∀ b ∈ [x, y], Dp K H b.1 b.2) ∧
  PySem.W.AlikeAll [x.2, y.2] ∧ PyData.depthAll [x.2, y.2] ≤ 16 ∧ ∀ b ∈ [x, y], b.2 = PySem.W.minD x.2 [y.2] → Q b.1 H
def rLtD (K : PySem.W.Frag) : R2 := fun x y H Q => ∃ d e, Dp K H x d ∧ Dp K H y e ∧ PySem.W.AlikeAll [d, e] ∧ PyData.depthAll [d, e] ≤ 16 ∧ Q (.bl (PySem.W.dataLt d e)) H
section
variable {X : Cx}
theorem cr_minD (hc : X.calm = true) (hu : X.A.units + 64 < cLine) : CallR X (.builtin "min") (rMinD X.K) := by
  intro pins s σ H vs us Q I r h
  obtain ⟨a, x, bs, rfl, hs, hdp, hal, hde, q⟩ := h
  obtain ⟨its, rv, hl, _⟩ := I.list hs
  rw [Vals.ref1 r]
  have e := each_vals rv
  obtain ⟨as, ra⟩ := Dp.readsAll I _ _ _ (dpAll_of hdp) rv
  have hal' : PySem.W.AlikeAll (x.2 :: bs.map (fun b => b.2)) := hal
  refine PySem.W.min_list_data (I.ok.hd hc) hl.isList (x := x.2) (xs := bs.map (fun b => b.2)) (as := as) (by simpa using ra) hal' (by show X.A.units + 1 + PyData.depthAll ((x :: bs).map (·.2)) < cLine; omega) fun i v h' tk cs hv hr hk => ?_
  obtain ⟨b, hb, rb⟩ := each_at e (by simpa using hv)
  obtain ⟨as2, r2⟩ := Dp.reads I _ _ _ (hdp b hb) rb
  have hm := minD_mem (bs.map (·.2)) x.2
  have eq := PySem.W.alike_unique b.2 _ v _ _ (hal.1 _ (List.mem_map.mpr ⟨b, hb, rfl⟩) _ hm) (PySem.W.reads_keeps hk r2) hr
  exact ⟨b.1, H, I.kept hk, rb, q b hb eq⟩
theorem cr_min2D (hc : X.calm = true) (hu : X.A.units + 64 < cLine) : CallR X (.builtin "min") (rMin2D X.K) := by
  intro pins s σ H vs us Q I r h
  obtain ⟨x, y, rfl, hdp, hal, hde, q⟩ := h
  obtain ⟨u, v, rfl, ru, rv⟩ := vals2 r
  obtain ⟨as1, r1⟩ := Dp.reads I _ _ _ (hdp x List.mem_cons_self) ru
  obtain ⟨as2, r2⟩ := Dp.reads I _ _ _ (hdp y (List.mem_cons_of_mem _ List.mem_cons_self)) rv
  have push : ∀ b o, s.heap.get? b = some o → (s.heap.push { cls := .type "tuple", data := .seq #[u, v] }).get? b = some o := fun b o e => Heap.get?_push_of_some _ e
  have hT : (s.heap.push { cls := .type "tuple", data := .seq #[u, v] }).IsTuple s.heap.objs.size #[u, v] := ⟨_, Heap.get?_push_size _ rfl, rfl, 0, rfl⟩
  have hr : ReadsAll (s.heap.push { cls := .type "tuple", data := .seq #[u, v] }) (#[u, v] : Array Value).toList [x.2, y.2] _ := .cons (PySem.W.reads_keeps push r1) (.cons (PySem.W.reads_keeps push r2) .nil)
  refine min_twoH (PySem.W.iter_tupleW (A := X.A.in1) (s := { s with heap := s.heap.push { cls := .type "tuple", data := .seq #[u, v] } }) (I.ok.hd hc) hT fun s₂ e W st hfp hw hk => ?_)
  refine ⟨_, _, _, _, _, _, _, s.heap.push { cls := .type "tuple", data := .seq #[u, v] }, _, rfl, W, st, hfp, Nat.zero_lt_succ _, hw, hk, PySem.W.cmpIn_lt (s := { s with heap := s.heap.push { cls := .type "tuple", data := .seq #[u, v] } }) (A := X.A.in1) hr hal (by show X.A.units + 1 + _ < _; omega), fun z s' hP m => ?_⟩
  obtain ⟨h', tk, rfl, hk'⟩ := PySem.W.moved_old (s := { s with heap := s.heap.push { cls := .type "tuple", data := .seq #[u, v] } }) e rfl m
  obtain ⟨cs, rz, _, _, _⟩ := PySem.W.readsAll_atA hr _ z hP
  have e2 := (PySem.W.argBest_fold PySem.W.dataLt PyData.none x.2 [y.2] 1 (Nat.le_refl _)).2
  have rz' : Reads h' z (PySem.W.minD x.2 [y.2]) cs := PySem.W.reads_keeps hk' (by unfold PySem.W.minD; rw [show ([y.2] : List PyData) = [y.2].take 1 from rfl, ← e2]; exact rz)
  have hm := minD_mem [y.2] x.2
  have kept : ∀ b o, s.heap.get? b = some o → h'.get? b = some o := fun b o e => hk' b o (push b o e)
  have cases_z : z = u ∨ z = v := by
    have : z ∈ ([u, v] : List Value) := by
      have := List.mem_of_getElem? (show ([u, v] : List Value)[_]? = some z by simpa using hP)
      exact this
    simpa using this
  rcases cases_z with rfl | rfl
  · have eq := PySem.W.alike_unique x.2 _ z _ _ (hal.1 _ List.mem_cons_self _ hm) (PySem.W.reads_keeps kept r1) rz'
    exact ⟨x.1, H, I.kept kept, ru, q x List.mem_cons_self eq⟩
  · have eq := PySem.W.alike_unique y.2 _ z _ _ (hal.1 _ (List.mem_cons_of_mem _ List.mem_cons_self) _ hm) (PySem.W.reads_keeps kept r2) rz'
    exact ⟨y.1, H, I.kept kept, rv, q y (List.mem_cons_of_mem _ List.mem_cons_self) eq⟩
theorem op_ltD (hu : X.A.units + 64 < cLine) : OpR X (compareOp .Lt) (rLtD X.K) := by
  intro pins s σ H x y v u Q I rx ry h
  obtain ⟨d, e, hd, he, hal, hde, q⟩ := h
  obtain ⟨as, r1⟩ := Dp.reads I d x v hd rx
  obtain ⟨bs, r2⟩ := Dp.reads I e y u he ry
  have hm := Nat.min_le_left d.depth e.depth
  have h1 : d.depth ≤ PyData.depthAll [d, e] := by simp only [PyData.depthAll]; omega
  exact PySem.W.rcLt_alike d e X.A s v u _ _ r1 r2 (hal.1 _ List.mem_cons_self _ (List.mem_cons_of_mem _ List.mem_cons_self)) (hal.2 _ List.mem_cons_self) (by omega) X.prog X.w _ _ ⟨.bl _, H, I, rfl, q⟩
end
/-! ### denotations -/
def biMinD : List PyData → Rs R
  | [.list (d :: ds)] => if minOk (d :: ds) = true then .ok (.val (PySem.W.minD d ds)) else .bad
  | _ => .bad
def biMin2D : List PyData → Rs R
  | [x, y] => if minOk [x, y] = true then .ok (.val (PySem.W.minD x [y])) else .bad
  | _ => .bad
def opLtD (d e : PyData) : Rs R := if minOk [d, e] = true then .ok (.val (.bool (PySem.W.dataLt d e))) else .bad
section
variable {X : Cx} {W : WX} {a b e : Expr} {ta tb : TE} {fa fb : Ev → Rs R} {es : List Expr} {t : TA} {fr : Ev → Rs (List PyData)} {p pos : Pos} (K : PySem.W.Frag)
theorem ek_minD (hu : X.A.units + 64 < cLine) (hm : X.mg "min" = none) (ha : ED X W (e :: es) t fr) (hg : Gl X "min" := by rfl) (hc : X.calm = true := by rfl)
    (he : starEach (e :: es) X.env = (false, eval e X.env) :: starEach es X.env := by rfl) (hpl : (backTo pos (starEach es X.env)).any (·.1) = false := by rfl) (hK : X.K = K := by rfl) :
    EE X W (.Call (.Name "min" p) (e :: es) [] pos) (tCB (rMinD K) t) (fBi biMinD fr) := by
  subst hK
  refine ee_callB (cr_minD hc hu) (fun {σ F H Q vs ds} s r P => ?_) hm (by decide +kernel) ha hg (by decide) (by decide) he hpl
  match ds, r with
  | [], .nil => exact P.elim
  | [_], .cons h .nil =>
    unfold biMinD at P
    cases h with
    | @lst p xs ds h r =>
      cases r with
      | nil => exact P.elim
      | @cons v vs d ds hv r =>
        dsimp only at P
        split at P
        · rename_i hk
          obtain ⟨a1, a2⟩ := minOk_ok hk
          obtain ⟨z1, z2, z3⟩ := r.zip
          refine ⟨p, (v, d), vs.zip ds, rfl, by rw [List.map_cons, z1]; exact SqL.of (s _ _ h), fun b hb => ?_, by rw [List.map_cons, z2]; exact a1, by rw [List.map_cons, z2]; exact a2, fun b hb eq => ?_⟩
          · rcases List.mem_cons.mp hb with rfl | hb
            · exact DD.dp s _ _ hv
            · exact DD.dp s _ _ (z3 b hb)
          · rw [z2] at eq
            rw [← eq] at P
            rcases List.mem_cons.mp hb with rfl | hb
            · exact post_flat s hv P
            · exact post_flat s (z3 b hb) P
        · exact P.elim
    | _ => exact P.elim
  | x :: y :: zs, .cons h (.cons _ _) =>
    have : biMinD (x :: y :: zs) = .bad := by unfold biMinD; split <;> simp_all
    rw [this] at P
    exact P.elim
theorem ek_min2D (hu : X.A.units + 64 < cLine) (hm : X.mg "min" = none) (ha : ED X W (e :: es) t fr) (hg : Gl X "min" := by rfl) (hc : X.calm = true := by rfl)
    (he : starEach (e :: es) X.env = (false, eval e X.env) :: starEach es X.env := by rfl) (hpl : (backTo pos (starEach es X.env)).any (·.1) = false := by rfl) (hK : X.K = K := by rfl) :
    EE X W (.Call (.Name "min" p) (e :: es) [] pos) (tCB (rMin2D K) t) (fBi biMin2D fr) := by
  subst hK
  refine ee_callB (cr_min2D hc hu) (fun {σ F H Q vs ds} s r P => ?_) hm (by decide +kernel) ha hg (by decide) (by decide) he hpl
  match ds, r with
  | [], .nil => exact P.elim
  | [_], .cons h .nil => exact P.elim
  | [x, y], .cons (v := v) hx (.cons (v := u) hy .nil) =>
    have P : Post X.K X.mg W σ F H Q (if minOk [x, y] = true then .ok (.val (PySem.W.minD x [y])) else .bad) := P
    split at P
    · rename_i hk
      obtain ⟨a1, a2⟩ := minOk_ok hk
      refine ⟨(v, x), (u, y), rfl, fun b hb => ?_, a1, a2, fun b hb eq => ?_⟩
      · rcases List.mem_cons.mp hb with rfl | hb
        · exact DD.dp s _ _ hx
        · rw [List.mem_singleton.mp hb]; exact DD.dp s _ _ hy
      · have eq : b.2 = PySem.W.minD x [y] := eq
        rw [← eq] at P
        rcases List.mem_cons.mp hb with rfl | hb
        · exact post_flat s hx P
        · have := List.mem_singleton.mp hb
          subst this
          exact post_flat s hy P
    · exact P.elim
  | _ :: _ :: _ :: _, .cons h (.cons _ (.cons _ _)) => exact P.elim
theorem od_ltD : OpD X.K X.mg W (rLtD X.K) opLtD := fun {σ F H Q v u x y} s hx hy P => by
  unfold opLtD at P
  split at P
  · rename_i hk
    obtain ⟨a1, a2⟩ := minOk_ok hk
    exact ⟨_, _, DD.dp s _ _ hx, DD.dp s _ _ hy, a1, a2, post_flat s (.bl _) P⟩
  · exact P.elim
theorem ek_ltD (hu : X.A.units + 64 < cLine) (ha : EE X W a ta fa) (hb : EE X W b tb fb) (hK : X.K = K := by rfl) : EE X W (.Compare a [.Lt] [b] pos) (tOp (rLtD K) ta tb) (fOp opLtD fa fb) := by
  subst hK; exact ee_cmp (op_ltD hu) od_ltD ha hb (nomark _)
theorem tk_ltD (hu : X.A.units + 64 < cLine) (ha : EE X W a ta fa) (hb : EE X W b tb fb) (hK : X.K = K := by rfl) : ET X W (.Compare a [.Lt] [b] pos) (tTest (tOp (rLtD K) ta tb)) (fTest (fOp opLtD fa fb)) := by
  subst hK; exact et_cmp (op_ltD hu) od_ltD ha hb (nomark _)
end
end DN
/-! Den26: texts: split, partition, join, endswith, str(int), int(text), text * int. -/
namespace DN
open PySem PySem.Spec PyProof.Rows L2
/-! ### methods of a text with one argument -/
@[simp] def fM1 (op : Str → PyData → Rs R) (fa fb : Ev → Rs R) : Ev → Rs R := fun ρ => (fa ρ).bind fun a => a.d.bind fun x => match x with
  | .str z => (fb ρ).bind fun b => b.d.bind fun y => op z y
  | _ => .bad
def opSplit (a : Str) : PyData → Rs R
  | .str b => if b.length ≠ 0 ∧ a.length ≤ 10000 then .ok (.own ((Txt.split a b).map .str)) else .bad
  | _ => .bad
def opPartition (a : Str) : PyData → Rs R
  | .str b => if b.length ≠ 0 ∧ a.length ≤ 10000 then .ok (.val (.tuple [.str (Txt.partition a b).1, .str (Txt.partition a b).2.1, .str (Txt.partition a b).2.2])) else .bad
  | _ => .bad
def opEndswith (a : Str) : PyData → Rs R
  | .str b => .ok (.val (.bool (Txt.endswith a b)))
  | _ => .bad
def asSs : List PyData → Option (List Str)
  | [] => some []
  | .str z :: ds => (asSs ds).map (z :: ·)
  | _ :: _ => none
theorem asSs_some : ∀ {ds : List PyData} {ys : List Str}, asSs ds = some ys → ds = ys.map .str
  | [], ys, h => by cases h; rfl
  | .str z :: ds, ys, h => by
    simp only [asSs, Option.map_eq_some_iff] at h
    obtain ⟨zs, h1, rfl⟩ := h
    rw [asSs_some h1]; rfl
  | .none :: _, _, h => by cases h
  | .bool _ :: _, _, h => by cases h
  | .int _ :: _, _, h => by cases h
  | .list _ :: _, _, h => by cases h
  | .tuple _ :: _, _, h => by cases h
  | .dict _ :: _, _, h => by cases h
@[simp] theorem asSs_map : ∀ ys : List Str, asSs (ys.map .str) = some ys
  | [] => rfl
  | y :: ys => by simp [asSs, asSs_map ys]
def opJoin (a : Str) : PyData → Rs R
  | .list ds => match asSs ds with
    | some ys => if (ys.map (·.length)).sum + ys.length * a.length ≤ 16777216 then .ok (.val (.str (Txt.join a ys))) else .bad
    | none => .bad
  | _ => .bad
theorem DDs.strs {F : Hp} : ∀ {ys : List Str} {vs : List V}, DDs F vs (ys.map .str) → vs = ys.map V.str
  | [], _, .nil => rfl
  | y :: ys, _, .cons h r => by cases h; rw [DDs.strs r]; rfl
theorem DDs.texts {F : Hp} : ∀ ys : List Str, DDs F (ys.map V.str) (ys.map .str)
  | [] => .nil
  | y :: ys => .cons (.str y) (DDs.texts ys)
def MtD (K : PySem.W.Frag) (mg : Str → Option Value) (W : WX) (r : V → List V → Hp → VK → Prop) (op : Str → PyData → Rs R) : Prop :=
  ∀ {σ : L2.St} {F H : Hp} {Q : VK} {z : Str} {u : V} {y : PyData}, Same F H → DD F u y → Post K mg W σ F H Q (op z y) → r (.str z) [u] H Q
section
variable {X : Cx} {W : WX} {a b c e : Expr} {es : List Expr} {ta tb te : TE} {fa fb f : Ev → Rs R} {pos apos p : Pos}
theorem m1_sound {r : V → List V → Hp → VK → Prop} {op : Str → PyData → Rs R} (hd : MtD X.K X.mg W r op) (ha : EE X W a ta fa) (hb : EE X W b tb fb) {G H0 : Hp} {ρ : Ev} {σ : L2.St} {F H : Hp} (rel : Rel X.K G H0 ρ σ F H) (Q : VK)
    (P : Post X.K X.mg W σ F H Q (fM1 op fa fb ρ)) : tM1 r ta tb σ H Q := by
  refine ha.sound rel _ (post_data P fun d v F1 H1 e1 r1 P1 => ?_)
  cases r1 with
  | str z => exact ⟨⟨z, rfl⟩, hb.sound (rel.step e1) _ (post_data P1 fun d2 v2 F2 H2 e2 r2 P2 => hd e2.sub r2 P2)⟩
  | _ => exact P1.elim
def rSplit : V → List V → Hp → VK → Prop := fun x xs H Q => ∃ a b, x = .str a ∧ xs = [.str b] ∧ (b.length == 0) = false ∧ a.length + 2 ≤ sizeLine ∧ rNewStrs (Txt.split a b) H Q
def rPartition : V → List V → Hp → VK → Prop := fun x xs H Q => ∃ a b, x = .str a ∧ xs = [.str b] ∧ (b.length == 0) = false ∧ a.length ≤ sizeLine ∧
  ∀ l, H l = none → Q (.ref l) (upd H l (.tup [.str (Txt.partition a b).1, .str (Txt.partition a b).2.1, .str (Txt.partition a b).2.2]))
def rEndswith : V → List V → Hp → VK → Prop := fun x xs H Q => ∃ a b, x = .str a ∧ xs = [.str b] ∧ Q (.bl (Txt.endswith a b)) H
def rJoin (K : PySem.W.Frag) : V → List V → Hp → VK → Prop := fun x xs H Q => ∃ a l, ∃ ys : List Str, x = .str a ∧ xs = [.ref l] ∧ (SqL K H l (ys.map V.str) ∨ SqT K H l (ys.map V.str)) ∧
  (ys.map (·.length)).sum + ys.length * a.length ≤ 16777216 ∧ Q (.str (Txt.join a ys)) H
theorem ek_split (ha : EE X W a ta fa) (hb : EE X W b tb fb) (hs : starEach [b] X.env = [(false, eval b X.env)] := by rfl) (hbase : attributeBase a "split" X.env (eval a X.env) = eval a X.env := by rfl) (hl : (apos.endLine == pos.line) = true := by rfl) :
    EE X W (.Call (.Attribute a "split" apos) [b] [] pos) (tM1 rSplit ta tb) (fM1 opSplit fa fb) :=
  ⟨pe_split ha.pe hb.pe hs hbase hl, m1_sound (fun {σ F H Q z u y} s r P => by
    unfold opSplit at P
    cases r with
    | str t =>
      dsimp only at P
      split at P
      · rename_i h
        exact ⟨z, t, rfl, rfl, by simpa using h.1, Nat.le_trans (Nat.add_le_add_right h.2 2) (by decide), new_lst s (DDs.texts _) P⟩
      · exact P.elim
    | _ => exact P.elim) ha hb⟩
theorem ek_partition (ha : EE X W a ta fa) (hb : EE X W b tb fb) (hs : starEach [b] X.env = [(false, eval b X.env)] := by rfl) (hbase : attributeBase a "partition" X.env (eval a X.env) = eval a X.env := by rfl) (hl : (apos.endLine == pos.line) = true := by rfl) :
    EE X W (.Call (.Attribute a "partition" apos) [b] [] pos) (tM1 rPartition ta tb) (fM1 opPartition fa fb) :=
  ⟨pe_partition ha.pe hb.pe hs hbase hl, m1_sound (fun {σ F H Q z u y} s r P => by
    unfold opPartition at P
    cases r with
    | str t =>
      dsimp only at P
      split at P
      · rename_i h
        exact ⟨z, t, rfl, rfl, by simpa using h.1, Nat.le_trans h.2 (by decide), new_tup s (.cons (.str _) (.cons (.str _) (.cons (.str _) .nil))) P⟩
      · exact P.elim
    | _ => exact P.elim) ha hb⟩
theorem ek_endswith (ha : EE X W a ta fa) (hb : EE X W b tb fb) (hs : starEach [b] X.env = [(false, eval b X.env)] := by rfl) (hbase : attributeBase a "endswith" X.env (eval a X.env) = eval a X.env := by rfl) (hl : (apos.endLine == pos.line) = true := by rfl) :
    EE X W (.Call (.Attribute a "endswith" apos) [b] [] pos) (tM1 rEndswith ta tb) (fM1 opEndswith fa fb) :=
  ⟨pe_m1 F.slot_str_endswith F.type_str_endswith mt_endswith ha.pe hb.pe hs hbase hl, m1_sound (fun {σ F H Q z u y} s r P => by
    unfold opEndswith at P
    cases r with
    | str t => exact ⟨z, t, rfl, rfl, post_flat s (.bl _) P⟩
    | _ => exact P.elim) ha hb⟩
theorem ek_join (K : PySem.W.Frag) (ha : EE X W a ta fa) (hb : EE X W b tb fb) (hs : starEach [b] X.env = [(false, eval b X.env)] := by rfl) (hbase : attributeBase a "join" X.env (eval a X.env) = eval a X.env := by rfl) (hl : (apos.endLine == pos.line) = true := by rfl) (hK : X.K = K := by rfl) :
    EE X W (.Call (.Attribute a "join" apos) [b] [] pos) (tM1 (rJoin K) ta tb) (fM1 opJoin fa fb) := by
  subst hK
  exact ⟨pe_join ha.pe hb.pe hs hbase hl, m1_sound (fun {σ F H Q z u y} s r P => by
    unfold opJoin at P
    cases r with
    | @lst p xs ds h r =>
      dsimp only at P
      split at P
      · rename_i ys hy
        have hd := asSs_some hy
        subst hd
        have hx := DDs.strs r
        subst hx
        split at P
        · rename_i hz
          exact ⟨z, p, ys, rfl, rfl, .inl (SqL.of (s _ _ h)), hz, post_flat s (.str _) P⟩
        · exact P.elim
      · exact P.elim
    | _ => exact P.elim) ha hb⟩
/-! ### str(int), int(text) -/
def biStr : List PyData → Rs R
  | [.int i] => if i.natAbs ≤ 1000000 then .ok (.val (.str (toString i))) else .bad
  | _ => .bad
theorem bd_strI : BiD X.K X.mg W (fun xs H Q => ∃ i, xs = [.int i] ∧ i.natAbs.log2 < 1920 ∧ Q (.str (toString i)) H) biStr := fun {σ F H Q vs ds} s r P => by
  match ds, r with
  | [], .nil => exact P.elim
  | [_], .cons h .nil =>
    unfold biStr at P
    cases h with
    | int i =>
      dsimp only at P
      split at P
      · rename_i hz
        refine ⟨i, rfl, ?_, post_flat s (.str _) P⟩
        by_cases z : i.natAbs = 0
        · rw [z]; decide
        · exact Nat.lt_of_lt_of_le ((Nat.log2_lt z).mpr (show i.natAbs < 2 ^ 20 by omega)) (by decide)
      · exact P.elim
    | _ => exact P.elim
  | _ :: _ :: _, .cons h (.cons _ _) => cases h <;> exact P.elim
def biIntS : List PyData → Rs R
  | [.str a] => if a.length ≤ 640 then (match PySem.intText? a with
    | some n => .ok (.val (.int n))
    | none => .bad) else .bad
  | _ => .bad
theorem bd_intS : BiD X.K X.mg W (fun xs H Q => ∃ a n, xs = [.str a] ∧ PySem.intText? a = some n ∧ a.length ≤ 640 ∧ Q (.int n) H) biIntS := fun {σ F H Q vs ds} s r P => by
  match ds, r with
  | [], .nil => exact P.elim
  | [_], .cons h .nil =>
    unfold biIntS at P
    cases h with
    | str z =>
      dsimp only at P
      split at P
      · rename_i hz
        split at P
        · rename_i n hn
          exact ⟨z, n, rfl, hn, hz, post_flat s (.int _) P⟩
        · exact P.elim
      · exact P.elim
    | _ => exact P.elim
  | _ :: _ :: _, .cons h (.cons _ _) => cases h <;> exact P.elim
/-! ### text * int -/
def repS (z : Str) (k : Nat) : Str := ⟨(List.replicate k z.cps).foldl (· ++ ·) #[]⟩
theorem fold_size (a : Array Nat) : ∀ (k : Nat) (acc : Array Nat), ((List.replicate k a).foldl (· ++ ·) acc).size = acc.size + k * a.size
  | 0, acc => by simp
  | k + 1, acc => by
    rw [List.replicate_succ, List.foldl_cons, fold_size a k, Array.size_append, Nat.add_mul]
    omega
theorem repS_len (z : Str) (k : Nat) : (repS z k).length = k * z.length := by
  show ((List.replicate k z.cps).foldl (· ++ ·) #[]).size = _
  rw [fold_size]
  simp [Str.length]
def rRepS : R2 := fun x y H Q => ∃ z k, x = .str z ∧ y = .int k ∧ 2 ≤ k ∧ k ≤ 1000 ∧ 1 ≤ z.length ∧ z.length ≤ 1000 ∧ Q (.str (repS z k.toNat)) H
theorem op_repS : OpR X (binaryOp .Mult) rRepS := by
  intro pins s σ H x y v u Q I rx ry h
  obtain ⟨z, k, rfl, rfl, h1, h2, h3, h4, q⟩ := h
  obtain ⟨t, rfl⟩ := rx
  obtain ⟨t', rfl⟩ := ry
  have e1 : ¬ k < 1 := by omega
  have e2 : (k == 1 || z.length == 0) = false := by
    have a1 : (k == 1) = false := by simpa using (show k ≠ 1 by omega)
    have a2 : (z.length == 0) = false := by simpa using (show z.length ≠ 0 by omega)
    rw [a1, a2]; rfl
  refine P.mul_str (by
    rw [decide_eq_false (show ¬ k < -(2 ^ 63 : Int) by omega), decide_eq_false (show ¬ k ≥ 2 ^ 63 by omega)]; rfl) (fun _ _ => ?_) (fun _ _ => ?_) ?_
  · have : (1000 : Int) ≤ (2 ^ 63 - 1) / k := by
      rw [Int.le_ediv_iff_mul_le (by omega)]; omega
    omega
  · have hm : z.length * k.toNat ≤ 1000000 := by
      have := Nat.mul_le_mul h4 (show k.toNat ≤ 1000 by omega)
      omega
    exact decide_eq_false (show ¬ (z.length * k.toNat > sizeLine) by have := lim_le; unfold lim at this; omega)
  · rw [if_neg e1, e2]
    refine ⟨?_, .str (repS z k.toNat), H, I.tok _, ⟨_, rfl⟩, q⟩
    show (repS z k.toNat).length ≤ sizeLine
    rw [repS_len]
    have := Nat.mul_le_mul (show k.toNat ≤ 1000 by omega) h4
    have l := lim_le
    unfold lim at l
    omega
def opRepS : PyData → PyData → Rs R
  | .str z, .int k => if 2 ≤ k ∧ k ≤ 1000 ∧ 1 ≤ z.length ∧ z.length ≤ 1000 then .ok (.val (.str (repS z k.toNat))) else .bad
  | _, _ => .bad
theorem ek_repS (ha : EE X W a ta fa) (hb : EE X W b tb fb) : EE X W (.BinOp a .Mult b pos) (tOp rRepS ta tb) (fOp opRepS fa fb) := by
  refine ee_op op_repS (fun {σ F H Q v u x y} s a b P => ?_) ha hb
  unfold opRepS at P
  cases a with
  | str z =>
    cases b with
    | int k =>
      dsimp only at P
      split at P
      · rename_i hc
        exact ⟨z, k, rfl, rfl, hc.1, hc.2.1, hc.2.2.1, hc.2.2.2, post_flat s (.str _) P⟩
      · exact P.elim
    | _ => exact P.elim
  | _ => cases b <;> exact P.elim
end
end DN
/-! Den27: instances: what is raised is wished for at the caller's slots; fields read and written. -/
namespace DN
open PySem PySem.Spec PyProof.Rows L2
section
variable {X : Cx} {CX : CXT} {k : Nat} {f C : Addr} {fd : FuncData} {ps : List Str} {sp : Sp} {E : L2.St → XK} {x m : Str} {p pos apos : Pos} {e o : Expr} {es : List Expr} {to : TE} {t : TA}
def tMethZ (C : Addr) (m : Str) (sp : Sp) (E : L2.St → XK) (to : TE) (t : TA) : TE := fun σ H Q => to σ H fun v H1 => ∃ a dx fs, v = .ref a ∧ H1 a = some (.ins C dx fs) ∧ fs.lookup m = none ∧ t σ H1 fun vs H2 => sp (v :: vs) H2 Q (E σ)
/-- o.m(e, ..) -/
theorem pe_methZ {pl : Sem Bool} (ho : PE X o to) (c : Cls X.K C) (hm : Meth X.K C m f) (Fn : FnOk X.prog X.w X.K X.mg X.base CX k f fd ps sp) (hr : Room k X.A) (hb : Binds X.K fd ps []) (hx : ∀ σ, PassesAt CX X σ (E σ)) (ha : PA X (e :: es) t)
    (h1 : starEach (e :: es) X.env = (false, eval e X.env) :: starEach es X.env := by rfl) (h2 : (backTo pos (starEach es X.env)).any (·.1) = false := by rfl)
    (h3 : eval (.Call (.Attribute o m apos) (e :: es) [] pos) X.env = (do
      let u ← eval o X.env
      standAt apos.atName
      let (g, one) ← holding [u] (getMethod u m pl)
      callWith pos g one (backTo pos (starEach (e :: es) X.env)) (backToKw pos (keywordEach [] X.env))) := by rfl) :
    PE X (.Call (.Attribute o m apos) (e :: es) [] pos) (tMethZ C m sp E to t) := by
  constructor
  intro pins s σ H Q I h
  refine PySem.W.methodCall_KW (pl := pl) (thn (ho.run pins s σ H _ I h) ?_) h3
  rintro u s1 ⟨v, H1, I1, rv, a, dx, fs, rfl, ea, l, q⟩
  obtain rfl : u = Value.ref a := rv
  refine getmeth_ok I1 ea c hm l (PySem.W.callWith_K (first := [.ref a]) (h₀ := X.base) I.ok.mod.kin hm.kp (thn (ha.run pos pins s1 σ H1 _ I1 q) ?_) h1 h2)
  rintro us s2 ⟨vs, H2, I2, r, q2⟩
  exact ⟨I2.kIn, run_fnS (us := .ref a :: us) (vs := .ref a :: vs) Fn hr hb (hx σ) I2 (.cons rfl r) q2⟩
/-- o.m() -/
theorem pe_methZ0 {pl : Sem Bool} (ho : PE X o to) (c : Cls X.K C) (hm : Meth X.K C m f) (Fn : FnOk X.prog X.w X.K X.mg X.base CX k f fd ps sp) (hr : Room k X.A) (hb : Binds X.K fd ps []) (hx : ∀ σ, PassesAt CX X σ (E σ))
    (h3 : eval (.Call (.Attribute o m apos) [] [] pos) X.env = (do
      let u ← eval o X.env
      standAt apos.atName
      let (g, one) ← holding [u] (getMethod u m pl)
      callWith pos g one (backTo pos (starEach [] X.env)) (backToKw pos (keywordEach [] X.env))) := by rfl) :
    PE X (.Call (.Attribute o m apos) [] [] pos) (tMethZ C m sp E to tNil) := by
  constructor
  intro pins s σ H Q I h
  refine PySem.W.methodCall_KW (pl := pl) (thn (ho.run pins s σ H _ I h) ?_) h3
  rintro u s1 ⟨v, H1, I1, rv, a, dx, fs, rfl, ea, l, q⟩
  obtain rfl : u = Value.ref a := rv
  exact getmeth_ok I1 ea c hm l (PySem.W.callWith_K0 (first := [.ref a]) I1.kIn hm.kp (run_fnS (us := [.ref a]) (vs := [.ref a]) Fn hr hb (hx σ) I1 (.cons rfl .nil) q))
def tMakeZ (C : Addr) (sp : Sp) (E : L2.St → XK) (t : TA) : TE := fun σ H Q => t σ H fun vs H1 => ∀ a dx, H1 a = none → H1 dx = none → dx ≠ a → sp (.ref a :: vs) (upd (upd H1 dx (.own a)) a (.ins C dx [])) (fun v H2 => v = .non ∧ Q (.ref a) H2) (E σ)
theorem run_makeZ {pins : List (Addr × Obj)} {σ : L2.St} {H : Hp} {s : Shared} {Q : VK} {us : List Value} {vs : List V} (M : Mk X.K C f) (Fn : FnOk X.prog X.w X.K X.mg X.base CX k f fd ps sp) (hr : Room (k + 1) X.A) (hb : Binds X.K fd ps []) (hx : PassesAt CX X σ (E σ)) (I : Inv X pins σ H s) (r : Vals vs us)
    (h : ∀ a dx, H a = none → H dx = none → dx ≠ a → sp (.ref a :: vs) (upd (upd H dx (.own a)) a (.ins C dx [])) (fun v H2 => v = .non ∧ Q (.ref a) H2) (E σ)) : wpAny (model X.prog X.w) X.A (call (.ref C) us) (EP X pins σ Q) X.xe s := by
  have n0 := I.hok.fresh (Nat.le_refl s.heap.objs.size)
  have n1 := I.hok.fresh (Nat.le_succ s.heap.objs.size)
  have q := h _ _ n1 n0 (Nat.ne_of_lt (Nat.lt_succ_self _))
  have J := Inv.made (C := C) I
  have rr : Vals (V.ref (s.heap.objs.size + 1) :: vs) (Value.ref (s.heap.objs.size + 1) :: us) := .cons rfl r
  have hl : (Value.ref (s.heap.objs.size + 1) :: us).length = ps.length := by rw [← rr.length]; exact Fn.len _ _ _ _ q
  have b := hb _ (Value.ref (s.heap.objs.size + 1) :: us) J.kIn (by rw [List.append_nil]; exact hl)
  rw [List.append_nil] at b
  refine wpAny_call (make_map (f := f) I.kIn M.makes M.init (beq_iff_eq.mp M.fn) (codeAny_mono (Fn.run _ X.stack _ _ ⟨Value.ref (s.heap.objs.size + 1) :: us, []⟩ _ _ _ (E σ) (hr.make C us []) (J.env0.make C us []) b rr q) ?_))
  intro w s' hq
  match w, hq with
  | .error z, hq => exact hx pins _ _ z s' J hq
  | .ok (.ret u), hq =>
    obtain ⟨v, H', I3, rv, rfl, q3⟩ := J.after hq
    exact ⟨rv, V.ref (s.heap.objs.size + 1), H', I3, rfl, q3⟩
  | .ok .next, hq => exact hq.elim
  | .ok .brk, hq => exact hq.elim
  | .ok .cont, hq => exact hq.elim
/-- C(e, ..) -/
theorem pe_makeZ (M : Mk X.K C f) (Fn : FnOk X.prog X.w X.K X.mg X.base CX k f fd ps sp) (hr : Room (k + 1) X.A) (hg : Gl X x) (hm : X.mg x = some (.ref C)) (hb : Binds X.K fd ps []) (hx : ∀ σ, PassesAt CX X σ (E σ)) (ha : PA X (e :: es) t)
    (hdb : (x == ("__debug__" : Str)) = false := by decide) (h1 : starEach (e :: es) X.env = (false, eval e X.env) :: starEach es X.env := by rfl) (h2 : (backTo pos (starEach es X.env)).any (·.1) = false := by rfl) :
    PE X (.Call (.Name x p) (e :: es) [] pos) (tMakeZ C sp E t) := by
  constructor
  intro pins s σ H Q I h
  refine wpAny_Call_Name_kw (ld_glob I hg hm (PySem.W.callWith_K (h₀ := X.base) I.ok.mod.kin M.kp (thn (ha.run pos pins s σ H _ I h) ?_) h1 h2) hdb)
  rintro us s1 ⟨vs, H1, I1, r, q⟩
  exact ⟨I1.kIn, run_makeZ M Fn hr hb (hx σ) I1 r q⟩
end
/-! ### a thing of ours changes -/
theorem Rel.alter {K : PySem.W.Frag} {G H0 F H F' H' : Hp} {ρ : Ev} {σ : L2.St} {i : Nat} {r r' : R} {v : V} (rel : Rel K G H0 ρ σ F H) (h : ρ[i]? = some (some r)) (hv : σ[i]? = some (some v)) (ff : Same F F') (sub : Same F' H')
    (new : ∀ a, F' a ≠ none → F a ≠ none ∨ Okn H a ∨ Cell H v r a) (hH : ∀ q o, ¬ Cell H v r q → H q = some o → H' q = some o) (q : Rep K F' H' v r') (hc : ∀ x, Cell H' v r' x → Cell H v r x ∨ H x = none) : Rel K G H0 (ρ.set i (some r')) σ F' H' := by
  have hl := lt_of_get h
  have fr0 : ∀ {p : Addr} {o : HO}, ¬ Cell H v r p → H p = some o → F p = none → (∀ xs, o ≠ .tup xs) → F' p = none := fun {p o} nc hp n ho => by
    cases q : F' p with
    | none => rfl
    | some y =>
      rcases new p (by rw [q]; exact fun z => nomatch z) with h | h | h
      · exact absurd n h
      · obtain ⟨xs, z⟩ := h _ hp
        exact absurd z (ho xs)
      · exact absurd h nc
  have mv : ∀ {j : Nat} {y : R} {w : V}, i ≠ j → ρ[j]? = some (some y) → σ[j]? = some (some w) → Rep K F H w y → Rep K F' H' w y ∧ ∀ q, Cell H' w y q → Cell H w y q := fun {j y w} ne e s b => by
    have nc : ∀ q, Cell H w y q → ¬ Cell H v r q := fun q c z => ne (rel.apart i j r y v w q h e hv s z c)
    have st : ∀ {q : Addr} {o : HO}, Cell H w y q → H q = some o → H' q = some o := fun {q o} c z => hH q o (nc q c) z
    have fr : ∀ {q : Addr} {o : HO}, Cell H w y q → H q = some o → F q = none → (∀ xs, o ≠ .tup xs) → F' q = none := fun {q o} c => fr0 (nc q c)
    cases y with
    | val d => exact ⟨DD.mono ff _ _ b, fun _ z => z⟩
    | own xs =>
      obtain ⟨p, vs, rfl, c, d, e⟩ := b
      exact ⟨⟨p, vs, rfl, st rfl c, fr rfl c d (by intro _ z; cases z), DDs.mono ff _ _ e⟩, fun _ z => z⟩
    | dct xs =>
      obtain ⟨p, vs, rfl, c, d, e⟩ := b
      exact ⟨⟨p, vs, rfl, st rfl c, fr rfl c d (by intro _ z; cases z), KD.mono ff e⟩, fun _ z => z⟩
    | dck xs =>
      obtain ⟨p, vs, rfl, c, d, e⟩ := b
      exact ⟨⟨p, vs, rfl, st rfl c, fr rfl c d (by intro _ z; cases z), KD.mono ff e⟩, fun _ z => z⟩
    | scr ns =>
      obtain ⟨a', rfl, h'⟩ := b
      exact ⟨⟨a', rfl, same_l ff h'⟩, fun _ z => z⟩
    | raw u => exact ⟨b, fun _ z => z⟩
    | dfz _ => obtain ⟨q, o, us, rfl, b1, b2⟩ := b; exact ⟨⟨q, o, us, rfl, ff _ _ b1, KD.mono ff b2⟩, fun _ z => z⟩
    | vie c n d =>
      obtain ⟨tc, a', dx, l1, l2, v1, v2, rfl, h1, h2, h3⟩ := b
      exact ⟨⟨tc, a', dx, l1, l2, v1, v2, rfl, ff _ _ h1, DD.mono ff _ _ h2, DD.mono ff _ _ h3⟩, fun _ z => z⟩
    | obj id c o =>
      obtain ⟨a', dx, l1, l2, rfl, hi, ⟨v1, v2, us1, us2, h1, h2, h3, h4, h5, h6, h7, h8, h9⟩, f1, f2, f3, f4⟩ := b
      have ce : ∀ q, q = a' ∨ q = dx ∨ q = l1 ∨ q = l2 → Cell H (.ref a') (.obj id c o) q := fun q hq => ⟨a', dx, v1, v2, l1, l2, rfl, h1, hq⟩
      refine ⟨⟨a', dx, l1, l2, rfl, hi, ⟨v1, v2, us1, us2, st (ce _ (.inl rfl)) h1, st (ce _ (.inr (.inl rfl))) h2, st (ce _ (.inr (.inr (.inl rfl)))) h3, st (ce _ (.inr (.inr (.inr rfl)))) h4, h5, DD.mono ff _ _ h6, DD.mono ff _ _ h7, DDs.mono ff _ _ h8, DDs.mono ff _ _ h9⟩,
        fr (ce _ (.inl rfl)) h1 f1 (by intro _ z; cases z), fr (ce _ (.inr (.inl rfl))) h2 f2 (by intro _ z; cases z), fr (ce _ (.inr (.inr (.inl rfl)))) h3 f3 (by intro _ z; cases z), fr (ce _ (.inr (.inr (.inr rfl)))) h4 f4 (by intro _ z; cases z)⟩, fun q z => ?_⟩
      obtain ⟨a2, dx', w1, w2, m1, m2, e', g, hq⟩ := z
      cases e'
      rw [st (ce _ (.inl rfl)) h1] at g
      cases g
      exact ce q hq
  have back : ∀ {j : Nat} {y : R} {w : V} {x : Addr}, i ≠ j → ρ[j]? = some (some y) → σ[j]? = some (some w) → Cell H' w y x → Cell H w y x ∧ ∃ o, H x = some o := fun {j y w x} ne e s c => by
    obtain ⟨w', a, b⟩ := rel.at_ j y e
    rw [s] at a
    cases a
    have c' := (mv ne e s b).2 x c
    obtain ⟨_, o, ho, _⟩ := c'.here b
    exact ⟨c', o, ho⟩
  have self : ∀ {y : R}, (ρ.set i (some r'))[i]? = some (some y) → y = r' := fun {y} e => by
    rw [List.getElem?_set_self hl] at e
    cases e
    rfl
  refine ⟨⟨rel.base.keep.trans ff, fun b o e => hH b o (fun z => ?_) (rel.base.hh _ _ e), sub, fun x q => ?_⟩, by simp [rel.len], fun j y e => ?_, fun j y w x e s c => ?_, fun j k y z w1 w2 x e1 e2 s1 s2 c1 c2 => ?_⟩
  · rw [rel.frs i r v b h hv z] at e
    cases e
  · rcases new x q with h' | h' | h'
    · exact rel.base.new x h'
    · exact .inr (h'.back rel.base.hh)
    · exact .inr (.none (rel.frs i r v x h hv h'))
  · by_cases z : i = j
    · subst z
      cases self e
      exact ⟨v, hv, q⟩
    · rw [List.getElem?_set_ne z] at e
      obtain ⟨w, a, b⟩ := rel.at_ j y e
      exact ⟨w, a, (mv z e a b).1⟩
  · by_cases z : i = j
    · subst z
      cases self e
      rw [hv] at s
      cases s
      rcases hc x c with c' | c'
      · exact rel.frs i r v x h hv c'
      · exact rel.base.hh.free c'
    · rw [List.getElem?_set_ne z] at e
      exact rel.frs j y w x e s (back z e s c).1
  · by_cases z1 : i = j
    · by_cases z2 : i = k
      · exact z1.symm.trans z2
      · subst z1
        cases self e1
        rw [hv] at s1
        cases s1
        rw [List.getElem?_set_ne z2] at e2
        obtain ⟨c2', o, ho⟩ := back z2 e2 s2 c2
        rcases hc x c1 with c' | c'
        · exact rel.apart i k r z v w2 x h e2 hv s2 c' c2'
        · rw [c'] at ho
          cases ho
    · rw [List.getElem?_set_ne z1] at e1
      obtain ⟨c1', o, ho⟩ := back z1 e1 s1 c1
      by_cases z2 : i = k
      · subst z2
        cases self e2
        rw [hv] at s2
        cases s2
        rcases hc x c2 with c' | c'
        · exact rel.apart j i y r w1 v x e1 h s1 hv c1' c'
        · rw [c'] at ho
          cases ho
      · rw [List.getElem?_set_ne z2] at e2
        exact rel.apart j k y z w1 w2 x e1 e2 s1 s2 c1' (back z2 e2 s2 c2).1
end DN
/-! Den28: the fields of a trip, read and written. -/
namespace DN
open PySem PySem.Spec PyProof.Rows L2
theorem flds_net (v1 v2 : V) (l1 l2 : Addr) : (flds v1 v2 l1 l2).lookup ("net" : Str) = some v1 := rfl
theorem flds_pre (v1 v2 : V) (l1 l2 : Addr) : (flds v1 v2 l1 l2).lookup ("present" : Str) = some v2 := rfl
theorem flds_don (v1 v2 : V) (l1 l2 : Addr) : (flds v1 v2 l1 l2).lookup ("done" : Str) = some (V.ref l1) := rfl
theorem flds_und (v1 v2 : V) (l1 l2 : Addr) : (flds v1 v2 l1 l2).lookup ("undone" : Str) = some (V.ref l2) := rfl
theorem put_pre (v1 v2 v : V) (l1 l2 : Addr) : putF "present" v (flds v1 v2 l1 l2) = flds v1 v l1 l2 := rfl
theorem put_don (v1 v2 : V) (l1 l2 l : Addr) : putF "done" (.ref l) (flds v1 v2 l1 l2) = flds v1 v2 l l2 := rfl
theorem put_und (v1 v2 : V) (l1 l2 l : Addr) : putF "undone" (.ref l) (flds v1 v2 l1 l2) = flds v1 v2 l1 l := rfl
/-! ### e.net, e.present -/
@[simp] def fNet (i : Nat) : Ev → Rs R := fun ρ => match ρ[i]? with
  | some (some (.obj _ _ o)) => .ok (.val o.n)
  | some (some (.vie _ n _)) => .ok (.val n)
  | _ => .bad
@[simp] def fPre (i : Nat) : Ev → Rs R := fun ρ => match ρ[i]? with
  | some (some (.obj _ _ o)) => .ok (.val o.p)
  | some (some (.vie _ _ d)) => .ok (.val d)
  | _ => .bad
section
variable {X : Cx} {W : WX} (K : PySem.W.Frag) {p2 pos : Pos} {x : Str}
theorem ek_net (i : Nat) (hN : X.N[i]? = some x := by rfl) (hv : Vis X.env.scope x := by first | exact Or.inl rfl | exact Or.inr (Or.inl rfl) | exact Or.inr (Or.inr rfl)) (hd : (x == ("__debug__" : Str)) = false := by decide)
    (hcd : (x == ("__classdict__" : Str)) = false := by decide) (hb : attributeBase (.Name x p2) "net" X.env (eval (.Name x p2) X.env) = eval (.Name x p2) X.env := by rfl) (hK : X.K = K := by rfl) :
    EE X W (.Attribute (.Name x p2) "net" pos) (tFld K (tVar i) "net") (fNet i) := by
  subst hK
  refine ⟨pe_fld (pe_var hN hv hd hcd) hb, fun {G H0 ρ σ F H} rel Q P => ?_⟩
  unfold fNet at P
  split at P
  · rename_i id c o h
    obtain ⟨v, a, a', dx, l1, l2, rfl, hi, ⟨v1, v2, us1, us2, h1, h2, h3, h4, h5, h6, h7, h8, h9⟩, f1, f2, f3, f4⟩ := rel.at_ i _ h
    exact ⟨_, a, a', c, dx, _, v1, rfl, h1, hi.2.cls, hi.2.n, flds_net .., P v1 F H (Ext.refl rel.sub) (.val h6)⟩
  · rename_i c n d h
    obtain ⟨v, a, tc, a', dx, l1, l2, v1, v2, rfl, h1, h2, h3⟩ := rel.at_ i _ h
    exact ⟨_, a, a', c, dx, _, v1, rfl, rel.sub _ _ h1, tc.cls, tc.n, flds_net .., P v1 F H (Ext.refl rel.sub) (.val h2)⟩
  · exact P.elim
theorem ek_pre (i : Nat) (hN : X.N[i]? = some x := by rfl) (hv : Vis X.env.scope x := by first | exact Or.inl rfl | exact Or.inr (Or.inl rfl) | exact Or.inr (Or.inr rfl)) (hd : (x == ("__debug__" : Str)) = false := by decide)
    (hcd : (x == ("__classdict__" : Str)) = false := by decide) (hb : attributeBase (.Name x p2) "present" X.env (eval (.Name x p2) X.env) = eval (.Name x p2) X.env := by rfl) (hK : X.K = K := by rfl) :
    EE X W (.Attribute (.Name x p2) "present" pos) (tFld K (tVar i) "present") (fPre i) := by
  subst hK
  refine ⟨pe_fld (pe_var hN hv hd hcd) hb, fun {G H0 ρ σ F H} rel Q P => ?_⟩
  unfold fPre at P
  split at P
  · rename_i id c o h
    obtain ⟨v, a, a', dx, l1, l2, rfl, hi, ⟨v1, v2, us1, us2, h1, h2, h3, h4, h5, h6, h7, h8, h9⟩, f1, f2, f3, f4⟩ := rel.at_ i _ h
    exact ⟨_, a, a', c, dx, _, v2, rfl, h1, hi.2.cls, hi.2.p, flds_pre .., P v2 F H (Ext.refl rel.sub) (.val h7)⟩
  · rename_i c n d h
    obtain ⟨v, a, tc, a', dx, l1, l2, v1, v2, rfl, h1, h2, h3⟩ := rel.at_ i _ h
    exact ⟨_, a, a', c, dx, _, v2, rfl, rel.sub _ _ h1, tc.cls, tc.p, flds_pre .., P v2 F H (Ext.refl rel.sub) (.val h3)⟩
  · exact P.elim
/-! ### e.present = .. -/
@[simp] def gSetPre (i : Nat) (f : Ev → Rs R) : Ev → RO := fun ρ => match ρ[i]? with
  | some (some (.obj id c o)) => onR ρ ((f ρ).bind R.d) fun d => .nx (ρ.set i (some (.obj id c { o with p := d })))
  | _ => .bad
theorem es_setPre (i : Nat) {e : Expr} {te : TE} {f : Ev → Rs R} {pos' : Pos} (he : EE X W e te f) (hN : X.N[i]? = some x := by rfl) (hv : Vis X.env.scope x := by first | exact Or.inl rfl | exact Or.inr (Or.inl rfl) | exact Or.inr (Or.inr rfl)) (hd : (x == ("__debug__" : Str)) = false := by decide)
    (hcd : (x == ("__classdict__" : Str)) = false := by decide) (hs : swapsWith e (some (.Attribute (.Name x p2) "present" pos')) pos.line X.env = pure false := by rfl) :
    ES X W (.Assign [.Attribute (.Name x p2) "present" pos'] e pos) (sFld X.K (tVar i) te "present") (gSetPre i f) where
  ps := ps_fld (pe_var hN hv hd hcd) he.pe hs
  sound := fun {G H0 ρ σ F H} rel D P => by
    unfold gSetPre at P
    split at P
    · rename_i id c o h
      refine he.sound rel _ (postS_data rel P fun d v F1 H1 e1 q1 P1 => ?_)
      have rel1 := rel.step e1
      obtain ⟨w, a, a', dx, l1, l2, rfl, hi, ⟨v1, v2, us1, us2, h1, h2, h3, h4, h5, h6, h7, h8, h9⟩, f1, f2, f3, f4⟩ := rel1.at_ i _ h
      refine ⟨_, a, a', c, dx, _, rfl, h1, hi.2.cls, hi.2.p, by show 4 < 1000; decide, ?_⟩
      rw [put_pre]
      have n2 : dx ≠ a' := fun z => by rw [z, h1] at h2; cases h2
      have n3 : l1 ≠ a' := fun z => by rw [z, h1] at h3; cases h3
      have n4 : l2 ≠ a' := fun z => by rw [z, h1] at h4; cases h4
      have ca : Cell H1 (.ref a') (.obj id c o) a' := ⟨a', dx, v1, v2, l1, l2, rfl, h1, .inl rfl⟩
      refine P1 σ F1 _ (rel1.alter h a (Same.refl _) (fun b x z => ?_) (fun _ z => .inl z) (fun q x nc z => ?_) ⟨a', dx, l1, l2, rfl, hi, ⟨v1, v, us1, us2, upd_same, by rw [upd_ne n2]; exact h2, by rw [upd_ne n3]; exact h3, by rw [upd_ne n4]; exact h4, h5, h6, q1, h8, h9⟩, f1, f2, f3, f4⟩ fun q z => ?_)
      · rw [upd_ne (ne_of_none z f1)]; exact rel1.sub _ _ z
      · rw [upd_ne (fun y => nc (by rw [y]; exact ca))]; exact z
      · obtain ⟨a2, dx', w1, w2, m1, m2, e', g, hq⟩ := z
        cases e'
        rw [upd_same] at g
        cases g
        exact .inl ⟨a', dx, v1, v2, l1, l2, rfl, h1, hq⟩
    · exact P.elim
/-! ### e.undone = [] -/
@[simp] def gSetUnd (i : Nat) (f : Ev → Rs R) : Ev → RO := fun ρ => match ρ[i]? with
  | some (some (.obj id c o)) => onR ρ (f ρ) fun r => match r with
    | .own xs => .nx (ρ.set i (some (.obj id c { o with U := xs })))
    | _ => .bad
  | _ => .bad
theorem es_setUnd (i : Nat) {e : Expr} {te : TE} {f : Ev → Rs R} {pos' : Pos} (he : EE X W e te f) (hN : X.N[i]? = some x := by rfl) (hv : Vis X.env.scope x := by first | exact Or.inl rfl | exact Or.inr (Or.inl rfl) | exact Or.inr (Or.inr rfl)) (hd : (x == ("__debug__" : Str)) = false := by decide)
    (hcd : (x == ("__classdict__" : Str)) = false := by decide) (hs : swapsWith e (some (.Attribute (.Name x p2) "undone" pos')) pos.line X.env = pure false := by rfl) :
    ES X W (.Assign [.Attribute (.Name x p2) "undone" pos'] e pos) (sFld X.K (tVar i) te "undone") (gSetUnd i f) where
  ps := ps_fld (pe_var hN hv hd hcd) he.pe hs
  sound := fun {G H0 ρ σ F H} rel D P => by
    unfold gSetUnd at P
    split at P
    · rename_i id c o h
      refine he.sound rel _ (postS_on rel P fun r v F1 H1 e1 q1 P1 => ?_)
      cases r with
      | own xs =>
        obtain ⟨⟨l, us, rfl, g1, g2, g3⟩, fr⟩ := q1
        have nl : H l = none := fr rfl l rfl
        obtain ⟨w, a, a', dx, l1, l2, rfl, hi, ⟨v1, v2, us1, us2, h1, h2, h3, h4, h5, h6, h7, h8, h9⟩, f1, f2, f3, f4⟩ := rel.at_ i _ h
        have k1 := e1.hh _ _ h1
        have k2 := e1.hh _ _ h2
        have k3 := e1.hh _ _ h3
        refine ⟨_, a, a', c, dx, _, rfl, k1, hi.2.cls, hi.2.u, by show 4 < 1000; decide, ?_⟩
        rw [put_und]
        have n2 : dx ≠ a' := fun z => by rw [z, h1] at h2; cases h2
        have n3 : l1 ≠ a' := fun z => by rw [z, h1] at h3; cases h3
        have n4 : l ≠ a' := fun z => by rw [z, h1] at nl; cases nl
        have n5 : l1 ≠ l := fun z => by rw [z, nl] at h3; cases h3
        have ca : Cell H (.ref a') (.obj id c o) a' := ⟨a', dx, v1, v2, l1, l2, rfl, h1, .inl rfl⟩
        refine P1 σ F1 _ (rel.alter h a e1.ff (fun b x z => ?_) (fun y z => (e1.new y z).elim .inl fun w => .inr (.inl w)) (fun q x nc z => ?_) ⟨a', dx, l1, l, rfl, hi, ⟨v1, v2, us1, us, upd_same, by rw [upd_ne n2]; exact k2, by rw [upd_ne n3]; exact k3, by rw [upd_ne n4]; exact g1, n5, DD.mono e1.ff _ _ h6, DD.mono e1.ff _ _ h7, DDs.mono e1.ff _ _ h8, g3⟩, e1.own h1 f1, e1.own h2 f2, e1.own h3 f3, g2⟩ fun q z => ?_)
        · rw [upd_ne (ne_of_none z (e1.own h1 f1))]; exact e1.sub _ _ z
        · rw [upd_ne (fun y => nc (by rw [y]; exact ca))]; exact e1.hh _ _ z
        · obtain ⟨a2, dx', w1, w2, m1, m2, e', g, hq⟩ := z
          cases e'
          rw [upd_same] at g
          cases g
          rcases hq with rfl | rfl | rfl | rfl
          · exact .inl ca
          · exact .inl ⟨a', _, v1, v2, _, _, rfl, h1, .inr (.inl rfl)⟩
          · exact .inl ⟨a', _, v1, v2, _, _, rfl, h1, .inr (.inr (.inl rfl))⟩
          · exact .inr nl
      | _ => exact P1.elim
    · exact P.elim
end
end DN
/-! Den29: the lists of a trip: append, pop, compare with []. -/
namespace DN
open PySem PySem.Spec PyProof.Rows L2
section
variable {K : PySem.W.Frag} {G H0 F H : Hp} {ρ : Ev} {σ : L2.St} {i : Nat} {id : Option Addr} {c : Addr} {o : Ob} {a dx l1 l2 : Addr} {v1 v2 : V}
theorem Rel.obD {us : List V} {ds : List PyData} (rel : Rel K G H0 ρ σ F H) (h : ρ[i]? = some (some (.obj id c o))) (hv : σ[i]? = some (some (.ref a))) (h1 : H a = some (.ins c dx (flds v1 v2 l1 l2))) (q : DDs F us ds) :
    Rel K G H0 (ρ.set i (some (.obj id c { o with D := ds }))) σ F (upd H l1 (.lst us)) := by
  obtain ⟨w, a0, a', dx', m1, m2, rfl, hi, ⟨w1, w2, us1, us2, g1, g2, g3, g4, g5, g6, g7, g8, g9⟩, f1, f2, f3, f4⟩ := rel.at_ i _ h
  rw [hv] at a0
  cases a0
  rw [h1] at g1
  cases g1
  have n1 : a ≠ l1 := fun z => by rw [← z, h1] at g3; cases g3
  have n2 : dx ≠ l1 := fun z => by rw [z, g3] at g2; cases g2
  have ca : Cell H (.ref a) (.obj id c o) l1 := ⟨a, dx, v1, v2, l1, l2, rfl, h1, .inr (.inr (.inl rfl))⟩
  refine rel.alter h hv (Same.refl _) (fun b x z => ?_) (fun _ z => .inl z) (fun q x nc z => ?_) ⟨a, dx, l1, l2, rfl, hi, ⟨v1, v2, us, us2, by rw [upd_ne n1]; exact h1, by rw [upd_ne n2]; exact g2, upd_same, by rw [upd_ne (Ne.symm g5)]; exact g4, g5, g6, g7, q, g9⟩, f1, f2, f3, f4⟩ fun q z => ?_
  · rw [upd_ne (ne_of_none z f3)]; exact rel.sub _ _ z
  · rw [upd_ne (fun y => nc (by rw [y]; exact ca))]; exact z
  · obtain ⟨a2, dx2, w1', w2', k1, k2, e', g, hq⟩ := z
    cases e'
    rw [upd_ne n1, h1] at g
    cases g
    exact .inl ⟨a, dx, v1, v2, l1, l2, rfl, h1, hq⟩
theorem Rel.obU {us : List V} {ds : List PyData} (rel : Rel K G H0 ρ σ F H) (h : ρ[i]? = some (some (.obj id c o))) (hv : σ[i]? = some (some (.ref a))) (h1 : H a = some (.ins c dx (flds v1 v2 l1 l2))) (q : DDs F us ds) :
    Rel K G H0 (ρ.set i (some (.obj id c { o with U := ds }))) σ F (upd H l2 (.lst us)) := by
  obtain ⟨w, a0, a', dx', m1, m2, rfl, hi, ⟨w1, w2, us1, us2, g1, g2, g3, g4, g5, g6, g7, g8, g9⟩, f1, f2, f3, f4⟩ := rel.at_ i _ h
  rw [hv] at a0
  cases a0
  rw [h1] at g1
  cases g1
  have n1 : a ≠ l2 := fun z => by rw [← z, h1] at g4; cases g4
  have n2 : dx ≠ l2 := fun z => by rw [z, g4] at g2; cases g2
  have ca : Cell H (.ref a) (.obj id c o) l2 := ⟨a, dx, v1, v2, l1, l2, rfl, h1, .inr (.inr (.inr rfl))⟩
  refine rel.alter h hv (Same.refl _) (fun b x z => ?_) (fun _ z => .inl z) (fun q x nc z => ?_) ⟨a, dx, l1, l2, rfl, hi, ⟨v1, v2, us1, us, by rw [upd_ne n1]; exact h1, by rw [upd_ne n2]; exact g2, by rw [upd_ne g5]; exact g3, upd_same, g5, g6, g7, g8, q⟩, f1, f2, f3, f4⟩ fun q z => ?_
  · rw [upd_ne (ne_of_none z f4)]; exact rel.sub _ _ z
  · rw [upd_ne (fun y => nc (by rw [y]; exact ca))]; exact z
  · obtain ⟨a2, dx2, w1', w2', k1, k2, e', g, hq⟩ := z
    cases e'
    rw [upd_ne n1, h1] at g
    cases g
    exact .inl ⟨a, dx, v1, v2, l1, l2, rfl, h1, hq⟩
/-- the field present alone -/
theorem Rel.obP {w : V} {d : PyData} (rel : Rel K G H0 ρ σ F H) (h : ρ[i]? = some (some (.obj id c o))) (hv : σ[i]? = some (some (.ref a))) (h1 : H a = some (.ins c dx (flds v1 v2 l1 l2))) (q : DD F w d) :
    Rel K G H0 (ρ.set i (some (.obj id c { o with p := d }))) σ F (upd H a (.ins c dx (flds v1 w l1 l2))) := by
  obtain ⟨w0, a0, a', dx', m1, m2, rfl, hi, ⟨w1, w2, us1, us2, g1, g2, g3, g4, g5, g6, g7, g8, g9⟩, f1, f2, f3, f4⟩ := rel.at_ i _ h
  rw [hv] at a0
  cases a0
  rw [h1] at g1
  cases g1
  have n2 : dx ≠ a := fun z => by rw [z, h1] at g2; cases g2
  have n3 : l1 ≠ a := fun z => by rw [z, h1] at g3; cases g3
  have n4 : l2 ≠ a := fun z => by rw [z, h1] at g4; cases g4
  have ca : Cell H (.ref a) (.obj id c o) a := ⟨a, dx, v1, v2, l1, l2, rfl, h1, .inl rfl⟩
  refine rel.alter h hv (Same.refl _) (fun b x z => ?_) (fun _ z => .inl z) (fun q x nc z => ?_) ⟨a, dx, l1, l2, rfl, hi, ⟨v1, w, us1, us2, upd_same, by rw [upd_ne n2]; exact g2, by rw [upd_ne n3]; exact g3, by rw [upd_ne n4]; exact g4, g5, g6, q, g8, g9⟩, f1, f2, f3, f4⟩ fun q z => ?_
  · rw [upd_ne (ne_of_none z f1)]; exact rel.sub _ _ z
  · rw [upd_ne (fun y => nc (by rw [y]; exact ca))]; exact z
  · obtain ⟨a2, dx2, w1', w2', k1, k2, e', g, hq⟩ := z
    cases e'
    rw [upd_same] at g
    cases g
    exact .inl ⟨a, dx, v1, v2, l1, l2, rfl, h1, hq⟩
end
section
variable {X : Cx} {W : WX} {p2 p3 fp fp2 apos cpos pos : Pos} {x : Str}
/-! ### x.done.append(x.present), x.undone.append(x.present) -/
@[simp] def gAppD (i : Nat) : Ev → RO := fun ρ => match ρ[i]? with
  | some (some (.obj id c o)) => if o.D.length < lim then .nx (ρ.set i (some (.obj id c { o with D := o.D ++ [o.p] }))) else .bad
  | _ => .bad
@[simp] def gAppU (i : Nat) : Ev → RO := fun ρ => match ρ[i]? with
  | some (some (.obj id c o)) => if o.U.length < lim then .nx (ρ.set i (some (.obj id c { o with U := o.U ++ [o.p] }))) else .bad
  | _ => .bad
abbrev xFld (x : Str) (p : Pos) (f : Str) (q : Pos) : Expr := .Attribute (.Name x p) f q
theorem es_appD (i : Nat) (hN : X.N[i]? = some x := by rfl) (hv : Vis X.env.scope x := by first | exact Or.inl rfl | exact Or.inr (Or.inl rfl) | exact Or.inr (Or.inr rfl)) (hd : (x == ("__debug__" : Str)) = false := by decide) (hcd : (x == ("__classdict__" : Str)) = false := by decide)
    (hb1 : attributeBase (.Name x p2) "done" X.env (eval (.Name x p2) X.env) = eval (.Name x p2) X.env := by rfl) (hb2 : attributeBase (.Name x p3) "present" X.env (eval (.Name x p3) X.env) = eval (.Name x p3) X.env := by rfl)
    (hbase : attributeBase (xFld x p2 "done" fp) "append" X.env (eval (xFld x p2 "done" fp) X.env) = eval (xFld x p2 "done" fp) X.env := by rfl)
    (hfew : ((backTo cpos (starEach [xFld x p3 "present" fp2] X.env)).all (fun x => !x.1) && (backToKw cpos (keywordEach [] X.env)).all (fun x => x.1.isSome)
      && decide (([xFld x p3 "present" fp2] : List Expr).length + ([] : List Keyword).length + (if ([] : List Keyword).isEmpty then 0 else 1) < 30)) = true := by rfl)
    (hline : (apos.endLine == cpos.line) = true := by rfl) (hs : starEach [xFld x p3 "present" fp2] X.env = (false, eval (xFld x p3 "present" fp2) X.env) :: starEach [] X.env := by rfl) (hplain : (backTo cpos (starEach [] X.env)).any (·.1) = false := by rfl)
    (hsw : swapsWith (.Call (.Attribute (xFld x p2 "done" fp) "append" apos) [xFld x p3 "present" fp2] [] cpos) none pos.line X.env = pure false := by rfl) :
    ES X W (.Expr (.Call (.Attribute (xFld x p2 "done" fp) "append" apos) [xFld x p3 "present" fp2] [] cpos) pos) (tDrop (tBM X.K "list" rAppend (tFld X.K (tVar i) "done") (tCons (tFld X.K (tVar i) "present") tNil))) (gAppD i) where
  ps := ps_expr (pe_bm PySem.F.plainAttrs_list PySem.F.slot_list_append PySem.F.type_list_append mt_append (pe_fld (pe_var hN hv hd hcd) hb1) (pa_cons (pe_fld (pe_var hN hv hd hcd) hb2) pa_nil hs) hbase hfew hline hs hplain) hsw
  sound := fun {G H0 ρ σ F H} rel D P => by
    unfold gAppD at P
    split at P
    · rename_i id c o h
      split at P
      · rename_i hl
        obtain ⟨w, a0, a, dx, l1, l2, rfl, hi, ⟨v1, v2, us1, us2, g1, g2, g3, g4, g5, g6, g7, g8, g9⟩, f1, f2, f3, f4⟩ := rel.at_ i _ h
        refine ⟨_, a0, a, c, dx, _, .ref l1, rfl, g1, hi.2.cls, hi.2.d, flds_don .., .inl ⟨rfl, us1, SqL.of g3⟩, ⟨_, a0, a, c, dx, _, v2, rfl, g1, hi.2.cls, hi.2.p, flds_pre .., ?_⟩⟩
        exact ⟨l1, us1, v2, rfl, rfl, g3, by rw [g8.len]; exact Nat.lt_trans hl lim_lt, P σ F _ (rel.obD h a0 g1 (g8.app (.cons g7 .nil)))⟩
      · exact P.elim
    · exact P.elim
theorem es_appU (i : Nat) (hN : X.N[i]? = some x := by rfl) (hv : Vis X.env.scope x := by first | exact Or.inl rfl | exact Or.inr (Or.inl rfl) | exact Or.inr (Or.inr rfl)) (hd : (x == ("__debug__" : Str)) = false := by decide) (hcd : (x == ("__classdict__" : Str)) = false := by decide)
    (hb1 : attributeBase (.Name x p2) "undone" X.env (eval (.Name x p2) X.env) = eval (.Name x p2) X.env := by rfl) (hb2 : attributeBase (.Name x p3) "present" X.env (eval (.Name x p3) X.env) = eval (.Name x p3) X.env := by rfl)
    (hbase : attributeBase (xFld x p2 "undone" fp) "append" X.env (eval (xFld x p2 "undone" fp) X.env) = eval (xFld x p2 "undone" fp) X.env := by rfl)
    (hfew : ((backTo cpos (starEach [xFld x p3 "present" fp2] X.env)).all (fun x => !x.1) && (backToKw cpos (keywordEach [] X.env)).all (fun x => x.1.isSome)
      && decide (([xFld x p3 "present" fp2] : List Expr).length + ([] : List Keyword).length + (if ([] : List Keyword).isEmpty then 0 else 1) < 30)) = true := by rfl)
    (hline : (apos.endLine == cpos.line) = true := by rfl) (hs : starEach [xFld x p3 "present" fp2] X.env = (false, eval (xFld x p3 "present" fp2) X.env) :: starEach [] X.env := by rfl) (hplain : (backTo cpos (starEach [] X.env)).any (·.1) = false := by rfl)
    (hsw : swapsWith (.Call (.Attribute (xFld x p2 "undone" fp) "append" apos) [xFld x p3 "present" fp2] [] cpos) none pos.line X.env = pure false := by rfl) :
    ES X W (.Expr (.Call (.Attribute (xFld x p2 "undone" fp) "append" apos) [xFld x p3 "present" fp2] [] cpos) pos) (tDrop (tBM X.K "list" rAppend (tFld X.K (tVar i) "undone") (tCons (tFld X.K (tVar i) "present") tNil))) (gAppU i) where
  ps := ps_expr (pe_bm PySem.F.plainAttrs_list PySem.F.slot_list_append PySem.F.type_list_append mt_append (pe_fld (pe_var hN hv hd hcd) hb1) (pa_cons (pe_fld (pe_var hN hv hd hcd) hb2) pa_nil hs) hbase hfew hline hs hplain) hsw
  sound := fun {G H0 ρ σ F H} rel D P => by
    unfold gAppU at P
    split at P
    · rename_i id c o h
      split at P
      · rename_i hl
        obtain ⟨w, a0, a, dx, l1, l2, rfl, hi, ⟨v1, v2, us1, us2, g1, g2, g3, g4, g5, g6, g7, g8, g9⟩, f1, f2, f3, f4⟩ := rel.at_ i _ h
        refine ⟨_, a0, a, c, dx, _, .ref l2, rfl, g1, hi.2.cls, hi.2.u, flds_und .., .inl ⟨rfl, us2, SqL.of g4⟩, ⟨_, a0, a, c, dx, _, v2, rfl, g1, hi.2.cls, hi.2.p, flds_pre .., ?_⟩⟩
        exact ⟨l2, us2, v2, rfl, rfl, g4, by rw [g9.len]; exact Nat.lt_trans hl lim_lt, P σ F _ (rel.obU h a0 g1 (g9.app (.cons g7 .nil)))⟩
      · exact P.elim
    · exact P.elim
/-! ### x.present = x.done.pop(), x.present = x.undone.pop() -/
@[simp] def gPopD (i : Nat) : Ev → RO := fun ρ => match ρ[i]? with
  | some (some (.obj id c o)) => match o.D[o.D.length - 1]? with
    | some d => .nx (ρ.set i (some (.obj id c ⟨o.n, d, o.D.dropLast, o.U⟩)))
    | none => .bad
  | _ => .bad
@[simp] def gPopU (i : Nat) : Ev → RO := fun ρ => match ρ[i]? with
  | some (some (.obj id c o)) => match o.U[o.U.length - 1]? with
    | some d => .nx (ρ.set i (some (.obj id c ⟨o.n, d, o.D, o.U.dropLast⟩)))
    | none => .bad
  | _ => .bad
theorem DDs.dropLast {F : Hp} {ds : List PyData} {vs : List V} (r : DDs F vs ds) : DDs F vs.dropLast ds.dropLast := by
  rw [List.dropLast_eq_take, List.dropLast_eq_take, r.len]
  exact r.take _
theorem es_popD (i : Nat) {pos' : Pos} (hN : X.N[i]? = some x := by rfl) (hv : Vis X.env.scope x := by first | exact Or.inl rfl | exact Or.inr (Or.inl rfl) | exact Or.inr (Or.inr rfl)) (hd : (x == ("__debug__" : Str)) = false := by decide) (hcd : (x == ("__classdict__" : Str)) = false := by decide)
    (hb1 : attributeBase (.Name x p2) "done" X.env (eval (.Name x p2) X.env) = eval (.Name x p2) X.env := by rfl) (hbase : attributeBase (xFld x p2 "done" fp) "pop" X.env (eval (xFld x p2 "done" fp) X.env) = eval (xFld x p2 "done" fp) X.env := by rfl)
    (hline : (apos.endLine == cpos.line) = true := by rfl) (hs : swapsWith (.Call (.Attribute (xFld x p2 "done" fp) "pop" apos) [] [] cpos) (some (.Attribute (.Name x p3) "present" pos')) pos.line X.env = pure false := by rfl) :
    ES X W (.Assign [.Attribute (.Name x p3) "present" pos'] (.Call (.Attribute (xFld x p2 "done" fp) "pop" apos) [] [] cpos) pos) (sFld X.K (tVar i) (tBM0 X.K "list" rPop (tFld X.K (tVar i) "done")) "present") (gPopD i) where
  ps := ps_fld (pe_var hN hv hd hcd) (pe_bm0 PySem.F.plainAttrs_list PySem.F.slot_list_pop PySem.F.type_list_pop mt_pop (pe_fld (pe_var hN hv hd hcd) hb1) hbase hline) hs
  sound := fun {G H0 ρ σ F H} rel D P => by
    unfold gPopD at P
    split at P
    · rename_i id c o h
      split at P
      · rename_i d hd
        obtain ⟨w, a0, a, dx, l1, l2, rfl, hi, ⟨v1, v2, us1, us2, g1, g2, g3, g4, g5, g6, g7, g8, g9⟩, f1, f2, f3, f4⟩ := rel.at_ i _ h
        obtain ⟨y, hy, dy⟩ := g8.get hd
        have n1 : a ≠ l1 := fun z => by rw [← z, g1] at g3; cases g3
        have g1' : upd H l1 (.lst us1.dropLast) a = some (.ins c dx (flds v1 v2 l1 l2)) := by rw [upd_ne n1]; exact g1
        have r1 := rel.obD h a0 g1 g8.dropLast
        have r2 := r1.obP (List.getElem?_set_self (lt_of_get h)) a0 g1' dy
        rw [List.set_set] at r2
        refine ⟨_, a0, a, c, dx, _, .ref l1, rfl, g1, hi.2.cls, hi.2.d, flds_don .., .inl ⟨rfl, us1, SqL.of g3⟩, l1, us1, y, rfl, rfl, g3, by rw [g8.len]; exact hy, _, a0, a, c, dx, _, rfl, g1', hi.2.cls, hi.2.p, by show 4 < 1000; decide, ?_⟩
        rw [put_pre]
        exact P σ F _ r2
      · exact P.elim
    · exact P.elim
theorem es_popU (i : Nat) {pos' : Pos} (hN : X.N[i]? = some x := by rfl) (hv : Vis X.env.scope x := by first | exact Or.inl rfl | exact Or.inr (Or.inl rfl) | exact Or.inr (Or.inr rfl)) (hd : (x == ("__debug__" : Str)) = false := by decide) (hcd : (x == ("__classdict__" : Str)) = false := by decide)
    (hb1 : attributeBase (.Name x p2) "undone" X.env (eval (.Name x p2) X.env) = eval (.Name x p2) X.env := by rfl) (hbase : attributeBase (xFld x p2 "undone" fp) "pop" X.env (eval (xFld x p2 "undone" fp) X.env) = eval (xFld x p2 "undone" fp) X.env := by rfl)
    (hline : (apos.endLine == cpos.line) = true := by rfl) (hs : swapsWith (.Call (.Attribute (xFld x p2 "undone" fp) "pop" apos) [] [] cpos) (some (.Attribute (.Name x p3) "present" pos')) pos.line X.env = pure false := by rfl) :
    ES X W (.Assign [.Attribute (.Name x p3) "present" pos'] (.Call (.Attribute (xFld x p2 "undone" fp) "pop" apos) [] [] cpos) pos) (sFld X.K (tVar i) (tBM0 X.K "list" rPop (tFld X.K (tVar i) "undone")) "present") (gPopU i) where
  ps := ps_fld (pe_var hN hv hd hcd) (pe_bm0 PySem.F.plainAttrs_list PySem.F.slot_list_pop PySem.F.type_list_pop mt_pop (pe_fld (pe_var hN hv hd hcd) hb1) hbase hline) hs
  sound := fun {G H0 ρ σ F H} rel D P => by
    unfold gPopU at P
    split at P
    · rename_i id c o h
      split at P
      · rename_i d hd
        obtain ⟨w, a0, a, dx, l1, l2, rfl, hi, ⟨v1, v2, us1, us2, g1, g2, g3, g4, g5, g6, g7, g8, g9⟩, f1, f2, f3, f4⟩ := rel.at_ i _ h
        obtain ⟨y, hy, dy⟩ := g9.get hd
        have n1 : a ≠ l2 := fun z => by rw [← z, g1] at g4; cases g4
        have g1' : upd H l2 (.lst us2.dropLast) a = some (.ins c dx (flds v1 v2 l1 l2)) := by rw [upd_ne n1]; exact g1
        have r1 := rel.obU h a0 g1 g9.dropLast
        have r2 := r1.obP (List.getElem?_set_self (lt_of_get h)) a0 g1' dy
        rw [List.set_set] at r2
        refine ⟨_, a0, a, c, dx, _, .ref l2, rfl, g1, hi.2.cls, hi.2.u, flds_und .., .inl ⟨rfl, us2, SqL.of g4⟩, l2, us2, y, rfl, rfl, g4, by rw [g9.len]; exact hy, _, a0, a, c, dx, _, rfl, g1', hi.2.cls, hi.2.p, by show 4 < 1000; decide, ?_⟩
        rw [put_pre]
        exact P σ F _ r2
      · exact P.elim
    · exact P.elim
/-! ### x.done == [], x.undone == [] -/
@[simp] def fDonNil (i : Nat) : Ev → Rs R := fun ρ => match ρ[i]? with
  | some (some (.obj _ _ o)) => opEq (.list o.D) (.list [])
  | _ => .bad
@[simp] def fUndNil (i : Nat) : Ev → Rs R := fun ρ => match ρ[i]? with
  | some (some (.obj _ _ o)) => opEq (.list o.U) (.list [])
  | _ => .bad
theorem ek_donNil (K : PySem.W.Frag) (i : Nat) (hu : X.A.units + 64 < cLine) (hN : X.N[i]? = some x := by rfl) (hv : Vis X.env.scope x := by first | exact Or.inl rfl | exact Or.inr (Or.inl rfl) | exact Or.inr (Or.inr rfl)) (hd : (x == ("__debug__" : Str)) = false := by decide) (hcd : (x == ("__classdict__" : Str)) = false := by decide)
    (hb1 : attributeBase (.Name x p2) "done" X.env (eval (.Name x p2) X.env) = eval (.Name x p2) X.env := by rfl) (hK : X.K = K := by rfl) :
    EE X W (.Compare (xFld x p2 "done" fp) [.Eq] [.List [] fp2] pos) (tOp (rEqD K) (tFld K (tVar i) "done") (tLst tNil)) (fDonNil i) := by
  subst hK
  refine ⟨pe_cmpR (op_eqD hu) (pe_fld (pe_var hN hv hd hcd) hb1) (pe_lst pa_nil) (nomark _), fun {G H0 ρ σ F H} rel Q P => ?_⟩
  unfold fDonNil at P
  split at P
  · rename_i id c o h
    obtain ⟨w, a0, a, dx, l1, l2, rfl, hi, ⟨v1, v2, us1, us2, g1, g2, g3, g4, g5, g6, g7, g8, g9⟩, f1, f2, f3, f4⟩ := rel.at_ i _ h
    refine ⟨_, a0, a, c, dx, _, .ref l1, rfl, g1, hi.2.cls, hi.2.d, flds_don .., by decide, fun l nl => ?_⟩
    unfold opEq eqD at P
    split at P
    · rename_i hs
      have hs' := Bool.and_eq_true_iff.mp hs
      have sm : Same H (upd H l (.lst [])) := same_new nl
      refine ⟨.list o.D, .list [], .lst (SqL.of (sm _ _ g3)) (DDs.dp (rel.sub.trans sm) _ _ g8), .lst (SqL.of upd_same) .nil, hs'.1, hs'.2, P _ F _ (Ext.addH rel.sub nl) (.val (.bl _))⟩
    · exact P.elim
  · exact P.elim
theorem ek_undNil (K : PySem.W.Frag) (i : Nat) (hu : X.A.units + 64 < cLine) (hN : X.N[i]? = some x := by rfl) (hv : Vis X.env.scope x := by first | exact Or.inl rfl | exact Or.inr (Or.inl rfl) | exact Or.inr (Or.inr rfl)) (hd : (x == ("__debug__" : Str)) = false := by decide) (hcd : (x == ("__classdict__" : Str)) = false := by decide)
    (hb1 : attributeBase (.Name x p2) "undone" X.env (eval (.Name x p2) X.env) = eval (.Name x p2) X.env := by rfl) (hK : X.K = K := by rfl) :
    EE X W (.Compare (xFld x p2 "undone" fp) [.Eq] [.List [] fp2] pos) (tOp (rEqD K) (tFld K (tVar i) "undone") (tLst tNil)) (fUndNil i) := by
  subst hK
  refine ⟨pe_cmpR (op_eqD hu) (pe_fld (pe_var hN hv hd hcd) hb1) (pe_lst pa_nil) (nomark _), fun {G H0 ρ σ F H} rel Q P => ?_⟩
  unfold fUndNil at P
  split at P
  · rename_i id c o h
    obtain ⟨w, a0, a, dx, l1, l2, rfl, hi, ⟨v1, v2, us1, us2, g1, g2, g3, g4, g5, g6, g7, g8, g9⟩, f1, f2, f3, f4⟩ := rel.at_ i _ h
    refine ⟨_, a0, a, c, dx, _, .ref l2, rfl, g1, hi.2.cls, hi.2.u, flds_und .., by decide, fun l nl => ?_⟩
    unfold opEq eqD at P
    split at P
    · rename_i hs
      have hs' := Bool.and_eq_true_iff.mp hs
      have sm : Same H (upd H l (.lst [])) := same_new nl
      refine ⟨.list o.U, .list [], .lst (SqL.of (sm _ _ g4)) (DDs.dp (rel.sub.trans sm) _ _ g9), .lst (SqL.of upd_same) .nil, hs'.1, hs'.2, P _ F _ (Ext.addH rel.sub nl) (.val (.bl _))⟩
    · exact P.elim
  · exact P.elim
end
end DN
/-! Den30: defs that change an object; expressions with effect. -/
namespace DN
open PySem PySem.Spec PyProof.Rows L2
/-! ### what a def leaves of its object -/
inductive RB where
  | ok (d : PyData) (o : Ob)
  | err (c : Str) (o : Ob)
  | bad
structure Aft (K : PySem.W.Frag) (F H F' H' : Hp) (a c : Addr) (o o' : Ob) : Prop where
  ff : Same F F'
  sub : Same F' H'
  new : ∀ x, F' x ≠ none → F x ≠ none ∨ Okn H x ∨ Cell H (.ref a) (.obj (some a) c o) x
  hH : ∀ q x, ¬ Cell H (.ref a) (.obj (some a) c o) q → H q = some x → H' q = some x
  rep : Rep K F' H' (.ref a) (.obj (some a) c o')
  cel : ∀ x, Cell H' (.ref a) (.obj (some a) c o') x → Cell H (.ref a) (.obj (some a) c o) x ∨ H x = none
/-- the arguments: the object at j, all else stays -/
def ArgsB (K : PySem.W.Frag) (F H : Hp) (j : Nat) (vs : List V) (rs : List R) (a c : Addr) (o : Ob) : Prop :=
  vs.length = rs.length ∧ vs[j]? = some (.ref a) ∧ rs[j]? = some (.obj (some a) c o) ∧ ∀ i v r, vs[i]? = some v → rs[i]? = some r → Rep K F H v r ∧ (i ≠ j → r.isOwn = false)
def spB (K : PySem.W.Frag) (mg : Str → Option Value) (n j : Nat) (den : List R → RB) : Sp := fun vs H Q E => vs.length = n ∧ ∃ rs F a c o, Same F H ∧ ArgsB K F H j vs rs a c o ∧ (match den rs with
  | .ok d o' => ∀ v F' H', Aft K F H F' H' a c o o' → DD F' v d → Q v H'
  | .err e o' => ∀ C F' H', mg e = some (.ref C) → Aft K F H F' H' a c o o' → E (.ref C) none H'
  | .bad => False)
/-- the object at j as it is left -/
def left (j : Nat) (rs : List R) (ρ : Ev) (k : Ob → RB) : RB := match rs[j]?, ρ[j]? with
  | some (.obj id c _), some (some (.obj id' c' o)) => if id' = id ∧ c' = c then k o else .bad
  | _, _ => .bad
def retB (j : Nat) (rs : List R) : RO → RB
  | .nx ρ => left j rs ρ (.ok .none)
  | .retk r ρ => match r.d with
    | .ok d => left j rs ρ (.ok d)
    | _ => .bad
  | .exc c ρ => left j rs ρ (.err c)
  | _ => .bad
def denO (n j : Nat) (g : Ev → RO) (rs : List R) : RB := retB j rs (g (startE n rs))
open Classical in
/-- the heap without the object's cells -/
noncomputable def less (H : Hp) (v : V) (r : R) : Hp := fun b => if Cell H v r b then none else H b
theorem less_sub (H : Hp) (v : V) (r : R) : Same (less H v r) H := fun b x e => by
  unfold less at e
  split at e
  · cases e
  · exact e
theorem less_none {H : Hp} {v : V} {r : R} {b : Addr} (h : less H v r b = none) : Cell H v r b ∨ H b = none := by
  unfold less at h
  split at h
  · rename_i z; exact .inl z
  · exact .inr h
theorem less_cell {H : Hp} {v : V} {r : R} {b : Addr} (h : Cell H v r b) : less H v r b = none := by
  unfold less
  rw [if_pos h]
theorem less_ne {H : Hp} {v : V} {r : R} {b : Addr} (h : ¬ Cell H v r b) : less H v r b = H b := by
  unfold less
  rw [if_neg h]
theorem rel_startB {K : PySem.W.Frag} {F H : Hp} {N : List Str} {j : Nat} {vs : List V} {rs : List R} {a c : Addr} {o : Ob} (s : Same F H) (h : ArgsB K F H j vs rs a c o) : Rel K F (less H (.ref a) (.obj (some a) c o)) (startE N.length rs) (L2.start N vs) F H := by
  obtain ⟨hl, hv, hr, hall⟩ := h
  have at0 : ∀ {i : Nat} {r : R}, (startE N.length rs)[i]? = some (some r) → ∃ v, (L2.start N vs)[i]? = some (some v) ∧ vs[i]? = some v ∧ rs[i]? = some r := fun {i r} e => by
    have e := startE_get e
    have hi : i < vs.length := by rw [hl]; exact lt_of_get e
    refine ⟨vs[i], ?_, List.getElem?_eq_getElem hi, e⟩
    unfold L2.start
    rw [List.getElem?_append_left (by simpa using hi), List.getElem?_map, List.getElem?_eq_getElem hi]
    rfl
  have only : ∀ {i : Nat} {r : R} {v : V} {q : Addr}, (startE N.length rs)[i]? = some (some r) → (L2.start N vs)[i]? = some (some v) → Cell H v r q → i = j ∧ Cell H (.ref a) (.obj (some a) c o) q := fun {i r v q} e e2 z => by
    obtain ⟨w, h1, h2, h3⟩ := at0 e
    rw [e2] at h1
    cases h1
    by_cases hj : i = j
    · subst hj
      rw [hv] at h2
      rw [hr] at h3
      cases h2
      cases h3
      exact ⟨rfl, z⟩
    · have := (hall i v r h2 h3).2 hj
      rw [z.own] at this
      cases this
  refine ⟨⟨Same.refl _, less_sub _ _ _, s, fun _ q => .inl q⟩, by simp [startE, L2.start, hl], fun i r e => ?_, fun i r v q e e2 z => less_cell (only e e2 z).2, fun i k r r' v v' q e1 e2 s1 s2 z1 z2 => (only e1 s1 z1).1.trans (only e2 s2 z2).1.symm⟩
  obtain ⟨w, h1, h2, h3⟩ := at0 e
  exact ⟨w, h1, (hall i w r h2 h3).1⟩
/-- what holds at the end -/
theorem aft_of {K : PySem.W.Frag} {F H F' H' : Hp} {j : Nat} {rs : List R} {a c : Addr} {o : Ob} {ρ : Ev} {σ : L2.St} {k : Ob → RB} {x : RB} (hr : rs[j]? = some (.obj (some a) c o)) (rel : Rel K F (less H (.ref a) (.obj (some a) c o)) ρ σ F' H') (hk : left j rs ρ k = x) (hx : x ≠ .bad) :
    ∃ o', x = k o' ∧ Aft K F H F' H' a c o o' ∧ ρ[j]? = some (some (.obj (some a) c o')) ∧ σ[j]? = some (some (.ref a)) := by
  unfold left at hk
  rw [hr] at hk
  split at hk
  · rename_i id cc oo id' c' o2 e1 e2
    cases e1
    split at hk
    · rename_i q
      obtain ⟨rfl, rfl⟩ := q
      obtain ⟨v, hv, b⟩ := rel.at_ j _ e2
      have hva : v = .ref a := by
        obtain ⟨a', dx, l1, l2, rfl, hi, _⟩ := _root_.id b
        rw [hi.1 a rfl]
      subst hva
      refine ⟨o2, hk.symm, ⟨rel.base.keep, rel.base.sub, fun x q => ?_, fun q x nc e => rel.base.hh _ _ (by rw [less_ne nc]; exact e), b, fun x z => less_none (rel.frs j _ _ x e2 hv z)⟩, e2, hv⟩
      rcases rel.base.new x q with h | h
      · exact .inl h
      · by_cases z : Cell H (.ref a) (.obj (some a) c' o) x
        · exact .inr (.inr z)
        · exact .inr (.inl fun y e => h y (by rw [less_ne z]; exact e))
    · exact absurd hk.symm hx
  · exact absurd hk.symm hx
/-- a value that is let go beside the object -/
theorem aft_val {K : PySem.W.Frag} {F H F' H' : Hp} {j : Nat} {rs : List R} {a c : Addr} {o : Ob} {ρ : Ev} {σ : L2.St} {k : Ob → RB} {x : RB} {r : R} {v : V} {d : PyData} (hr : rs[j]? = some (.obj (some a) c o)) (rel : Rel K F (less H (.ref a) (.obj (some a) c o)) ρ σ F' H')
    (q : RepN K F' H' (less H (.ref a) (.obj (some a) c o)) v r) (z : ∀ (q : Addr) (i : Nat) (y : R) (w : V), Cell H' v r q → ρ[i]? = some (some y) → σ[i]? = some (some w) → ¬ Cell H' w y q) (hd : r.d = .ok d) (hk : left j rs ρ k = x) (hx : x ≠ .bad) :
    ∃ o' F2, x = k o' ∧ Aft K F H F2 H' a c o o' ∧ DD F2 v d := by
  obtain ⟨o', e, A, hj, hs⟩ := aft_of hr rel hk hx
  cases r with
  | val y =>
    cases hd
    exact ⟨o', F', e, A, q.1⟩
  | own ys =>
    cases hd
    obtain ⟨⟨p, vs, rfl, h1, h2, h3⟩, fr⟩ := q
    have np := less_none (fr rfl p rfl)
    have sm : Same F' (upd F' p (.lst vs)) := same_new h2
    refine ⟨o', upd F' p (.lst vs), e, ⟨A.ff.trans sm, fun b x g => ?_, fun b g => ?_, A.hH, (A.rep.move sm (fun _ _ => rfl) (fun b g => upd_ne g) (z p j _ _ rfl hj hs)).1, A.cel⟩, .lst upd_same (DDs.mono sm _ _ h3)⟩
    · by_cases y : b = p
      · subst y; rw [upd_same] at g; rw [h1]; exact g
      · rw [upd_ne y] at g; exact A.sub _ _ g
    · by_cases y : b = p
      · subst y
        rcases np with n | n
        · exact .inr (.inr n)
        · exact .inr (.inl (.none n))
      · rw [upd_ne y] at g; exact A.new _ g
  | _ => cases hd
section
variable {P : Program} {w : World} {K : PySem.W.Frag} {mg : Str → Option Value} {base : Heap}
theorem fn_denO {x qual : Str} {st : Stmt} {f : Addr} {fd : FuncData} {N ps : List Str} {k n : Nat} (j : Nat) {g : Ev → RO} (Fu : Fun K x qual st f fd) (S : FnScope N ps (defScope st)) (hn : ps.length = n)
    (hb : ∀ (cdv : Value) (A : Around) (outer : List Env) (s : Shared) (H : Hp) (E : XK), Room k (A.deeper (envOfC qual (defScope st) s.heap.objs.size f cdv)) →
      Takes (cxOf (L2.CX P w) P w K mg base N qual (defScope st) f cdv A outer s H E) (fun cls d _ H => E cls d H) →
      PassesOwn (model P w) (cxOf (L2.CX P w) P w K mg base N qual (defScope st) f cdv A outer s H E).A (cxOf (L2.CX P w) P w K mg base N qual (defScope st) f cdv A outer s H E).env (cxOf (L2.CX P w) P w K mg base N qual (defScope st) f cdv A outer s H E).xe →
      ∃ t, EB (cxOf (L2.CX P w) P w K mg base N qual (defScope st) f cdv A outer s H E) (fun cls d _ H => E cls d H) (defBody st) t g) :
    FnOk P w K mg base (L2.CX P w) (k + 1) f fd ps (spB K mg n j (denO N.length j g)) := by
  refine Fu.okX S (fun vs H Q E h => by rw [hn]; exact h.1) (fun cdv A outer s H vs Q E hr h => ?_)
  obtain ⟨hl, rs, F, a, c, o, sF, ha, hden⟩ := h
  obtain ⟨t, B⟩ := hb cdv A outer s H E hr (takes_of rfl rfl rfl rfl) (passes_of rfl)
  refine ⟨t, B.ps, B.sound (rel_startB sF ha) _ ?_⟩
  have hrj := ha.2.2.1
  unfold denO at hden
  cases hg : g (startE N.length rs) with
  | nx ρ =>
    rw [hg] at hden
    intro σ' F' H' r
    have hx : left j rs ρ (.ok .none) ≠ .bad := fun z => by
      simp only [retB, z] at hden
    obtain ⟨o', e, A, _⟩ := aft_of hrj r rfl hx
    simp only [retB, e] at hden
    exact hden .non F' H' A .non
  | ret r => rw [hg] at hden; exact hden.elim
  | exc e ρ =>
    rw [hg] at hden
    intro C σ' F' H' m r
    have hx : left j rs ρ (.err e) ≠ .bad := fun z => by
      simp only [retB, z] at hden
    obtain ⟨o', e', A, _⟩ := aft_of hrj r rfl hx
    simp only [retB, e'] at hden
    exact hden C F' H' m A
  | bad => rw [hg] at hden; exact hden.elim
  | retk r ρ =>
    rw [hg] at hden
    intro v σ' F' H' rl q z
    cases hd : r.d with
    | ok d =>
      have hx : left j rs ρ (.ok d) ≠ .bad := fun z => by
        simp only [retB, hd, z] at hden
      obtain ⟨o', F2, e', A, dv⟩ := aft_val hrj rl q z hd rfl hx
      simp only [retB, hd, e'] at hden
      exact hden v F2 H' A dv
    | err _ => simp only [retB, hd] at hden
    | bad => simp only [retB, hd] at hden
end
end DN
/-! Den31: expressions with effect. -/
namespace DN
open PySem PySem.Spec PyProof.Rows L2
inductive RX where
  | ok (d : PyData) (ρ : Ev)
  | err (c : Str) (ρ : Ev)
  | bad
def PostX (K : PySem.W.Frag) (mg : Str → Option Value) (W : WX) (σ : L2.St) (H0 F : Hp) (Q : VK) : RX → Prop
  | .ok d ρ' => ∀ v F' H', Rel K F H0 ρ' σ F' H' → DD F' v d → Q v H'
  | .err c ρ' => ∀ C F' H', mg c = some (.ref C) → Rel K F H0 ρ' σ F' H' → W (.ref C) none σ H'
  | .bad => False
structure EX (X : Cx) (W : WX) (e : Expr) (t : TE) (f : Ev → RX) : Prop where
  pe : PE X e t
  sound : ∀ {G H0 : Hp} {ρ : Ev} {σ : L2.St} {F H : Hp}, Rel X.K G H0 ρ σ F H → ∀ Q : VK, PostX X.K X.mg W σ H0 F Q (f ρ) → t σ H Q
/-- without effect -/
def liftX (ρ : Ev) : Rs PyData → RX
  | .ok d => .ok d ρ
  | .err c => .err c ρ
  | .bad => .bad
@[simp] theorem liftX_ok (ρ : Ev) (d : PyData) : liftX ρ (.ok d) = .ok d ρ := rfl
@[simp] theorem liftX_err (ρ : Ev) (c : Str) : liftX ρ (.err c) = .err c ρ := rfl
@[simp] theorem liftX_bad (ρ : Ev) : liftX ρ .bad = .bad := rfl
@[simp] def xPure (f : Ev → Rs R) : Ev → RX := fun ρ => liftX ρ ((f ρ).bind R.d)
theorem ex_ee {X : Cx} {W : WX} {e : Expr} {t : TE} {f : Ev → Rs R} (he : EE X W e t f) : EX X W e t (xPure f) where
  pe := he.pe
  sound := fun {G H0 ρ σ F H} rel Q P => by
    refine he.sound rel _ ?_
    unfold xPure at P
    cases hf : f ρ with
    | ok r =>
      rw [hf] at P
      intro v F' H' e q
      cases hd : r.d with
      | ok d =>
        obtain ⟨F2, e2, _, q2⟩ := q.data e hd
        have P : PostX X.K X.mg W σ H0 F Q (.ok d ρ) := by
          have : liftX ρ ((Rs.ok r).bind R.d) = .ok d ρ := by simp [hd]
          rw [this] at P; exact P
        exact P v F2 H' (rel.re.step e2) q2
      | err c => exact absurd hd (by cases r <;> simp [R.d])
      | bad =>
        have : liftX ρ ((Rs.ok r).bind R.d) = .bad := by simp [hd]
        rw [this] at P; exact P.elim
    | err c =>
      rw [hf] at P
      exact fun C H' m s => P C F H' m (rel.re.step (Ext.more rel.sub s))
    | bad => rw [hf] at P; exact P.elim
/-! ### a result that does not depend on where the object lies -/
open Classical in
noncomputable def indep (g : Addr → RB) : RB := if ∀ a, g a = g 0 then g 0 else .bad
theorem indep_of {g : Addr → RB} {x : RB} (h : ∀ a, g a = x) : indep g = x := by
  unfold indep
  rw [if_pos fun a => (h a).trans (h 0).symm, h 0]
theorem indep_at {g : Addr → RB} {x : RB} (h : indep g = x) (hx : x ≠ .bad) (a : Addr) : g a = x := by
  unfold indep at h
  split at h
  · rename_i q
    rw [q a, h]
  · exact absurd h.symm hx
def backX (k : Nat) (id : Option Addr) (c : Addr) (ρ : Ev) : RB → RX
  | .ok d o => .ok d (ρ.set k (some (.obj id c o)))
  | .err e o => .err e (ρ.set k (some (.obj id c o)))
  | .bad => .bad
@[simp] theorem backX_ok (k : Nat) (id : Option Addr) (c : Addr) (ρ : Ev) (d : PyData) (o : Ob) : backX k id c ρ (.ok d o) = .ok d (ρ.set k (some (.obj id c o))) := rfl
@[simp] theorem backX_err (k : Nat) (id : Option Addr) (c : Addr) (ρ : Ev) (e : Str) (o : Ob) : backX k id c ρ (.err e o) = .err e (ρ.set k (some (.obj id c o))) := rfl
/-- the caller's slots behind the call -/
theorem Aft.rel {K : PySem.W.Frag} {G H0 F H F' H' : Hp} {ρ : Ev} {σ : L2.St} {k : Nat} {id : Option Addr} {a c : Addr} {o o' : Ob} (A : Aft K F H F' H' a c o o') (rel : Rel K G H0 ρ σ F H) (h : ρ[k]? = some (some (.obj id c o))) (hv : σ[k]? = some (some (.ref a))) : Rel K G H0 (ρ.set k (some (.obj id c o'))) σ F' H' := by
  obtain ⟨w, a0, b⟩ := rel.at_ k _ h
  rw [hv] at a0
  cases a0
  obtain ⟨a1, dx, l1, l2, e1, hi, hb, ff⟩ := b
  cases e1
  obtain ⟨a2, dx', m1, m2, e2, hi2, hb2, ff2⟩ := A.rep
  cases e2
  exact rel.alter h hv A.ff A.sub A.new A.hH ⟨a, dx', m1, m2, rfl, hi, hb2, ff2⟩ A.cel
/-! ### x.m(..), the object in slot k -/
section
variable {X : Cx} {W : WX} {K : PySem.W.Frag} {mg : Str → Option Value} {x m : Str} {e : Expr} {es : List Expr} {p2 apos pos p : Pos} {t : TA}
noncomputable def xMeth (k : Nat) (C : Addr) (den : List R → RB) (fr : Ev → Rs (List R)) : Ev → RX := fun ρ => match ρ[k]? with
  | some (some (.obj id c o)) => if c = C then (match fr ρ with
    | .ok rs => backX k id c ρ (indep fun a => den (.obj (some a) c o :: rs))
    | .err e => .err e ρ
    | .bad => .bad) else .bad
  | _ => .bad
theorem argsB_self {F H : Hp} {a c : Addr} {o : Ob} {id : Option Addr} {vs : List V} {rs : List R} (b : Rep K F H (.ref a) (.obj id c o)) (h : Args K F H vs rs) : ArgsB K F H 0 (.ref a :: vs) (.obj (some a) c o :: rs) a c o := by
  refine ⟨by simp [h.len], rfl, rfl, fun i v r e1 e2 => ?_⟩
  cases i with
  | zero =>
    cases e1
    cases e2
    obtain ⟨a1, dx, l1, l2, e1, hi, hb, ff⟩ := b
    cases e1
    exact ⟨⟨a, dx, l1, l2, rfl, ⟨fun b e => by cases e; rfl, hi.2⟩, hb, ff⟩, fun z => absurd rfl z⟩
  | succ i =>
    obtain ⟨v', h1, h2, h3⟩ := h.get (i := i) (r := r) (by simpa using e2)
    have e1 : vs[i]? = some v := by simpa using e1
    rw [e1] at h1
    cases h1
    exact ⟨h2, fun _ => h3⟩
theorem sp_of {n j : Nat} {den : List R → RB} {vs : List V} {rs : List R} {F H G H0 : Hp} {ρ : Ev} {σ : L2.St} {a c : Addr} {o : Ob} {id : Option Addr} {k : Nat} {Q : VK} (rel : Rel K G H0 ρ σ F H) (h : ρ[k]? = some (some (.obj id c o))) (hv : σ[k]? = some (some (.ref a))) (hn : vs.length = n)
    (ha : ArgsB K F H j vs rs a c o) (P : PostX K mg W σ H0 G Q (backX k id c ρ (den rs))) : spB K mg n j den vs H Q (WE W σ) := by
  refine ⟨hn, rs, F, a, c, o, rel.sub, ha, ?_⟩
  cases hd : den rs with
  | ok d o' =>
    rw [hd] at P
    exact fun v F' H' A dv => P v F' H' (A.rel rel h hv) dv
  | err e o' =>
    rw [hd] at P
    exact fun C F' H' m A => P C F' H' m (A.rel rel h hv)
  | bad => rw [hd] at P; exact P
theorem ex_meth {K : PySem.W.Frag} {mg : Str → Option Value} {n l : Nat} {C f : Addr} {fd : FuncData} {ps : List Str} {den : List R → RB} {fr : Ev → Rs (List R)} (k : Nat) (hm : Meth K C m f) (Fn : FnOk X.prog X.w K mg X.base (L2.CX X.prog X.w) l f fd ps (spB K mg n 0 den)) (hr : Room l X.A) (hb : Binds K fd ps [])
    (hC : TripC K C) (hno : ∀ v1 v2 l1 l2, (flds v1 v2 l1 l2).lookup m = none) (tk : Takes X W) (ha : EA X W (e :: es) t fr) (hn : (e :: es).length + 1 = n := by rfl)
    (hN : X.N[k]? = some x := by rfl) (hv : Vis X.env.scope x := by first | exact Or.inl rfl | exact Or.inr (Or.inl rfl) | exact Or.inr (Or.inr rfl)) (hd : (x == ("__debug__" : Str)) = false := by decide) (hcd : (x == ("__classdict__" : Str)) = false := by decide)
    (h1 : starEach (e :: es) X.env = (false, eval e X.env) :: starEach es X.env := by rfl) (h2 : (backTo pos (starEach es X.env)).any (·.1) = false := by rfl) {pl : Sem Bool}
    (h3 : eval (.Call (.Attribute (.Name x p2) m apos) (e :: es) [] pos) X.env = (do
      let u ← eval (.Name x p2) X.env
      standAt apos.atName
      let (g, one) ← holding [u] (getMethod u m pl)
      callWith pos g one (backTo pos (starEach (e :: es) X.env)) (backToKw pos (keywordEach [] X.env))) := by rfl) (hK : X.K = K := by rfl) (hmg : X.mg = mg := by rfl) :
    EX X W (.Call (.Attribute (.Name x p2) m apos) (e :: es) [] pos) (tMethZ C m (spB K mg n 0 den) (WE W) (tVar k) t) (xMeth k C den fr) := by
  subst hK hmg
  exact ⟨pe_methZ (pl := pl) (pe_var hN hv hd hcd) hC.cls hm Fn hr hb (fun σ => passAt tk σ) ha.pa h1 h2 h3, fun {G H0 ρ σ F H} rel Q P => by
    unfold xMeth at P
    split at P
    · rename_i id c o h
      split at P
      · rename_i hc
        subst hc
        obtain ⟨w, a0, a, dx, l1, l2, rfl, hi, ⟨v1, v2, us1, us2, g1, gr⟩, ff⟩ := rel.at_ k _ h
        refine ⟨_, a0, a, dx, _, rfl, g1, hno .., ha.sound rel _ ?_⟩
        cases hf : fr ρ with
        | ok rs =>
          rw [hf] at P
          have P : PostX X.K X.mg W σ H0 F Q (backX k id c ρ (indep fun a => den (.obj (some a) c o :: rs))) := P
          intro vs F1 H1 e1 r1
          have rel1 := rel.re.step e1
          obtain ⟨w, a1, b1⟩ := rel1.at_ k _ h
          rw [a0] at a1
          cases a1
          have hx : indep (fun a => den (.obj (some a) c o :: rs)) ≠ .bad := fun z => by
            rw [z] at P; exact P
          rw [← indep_at rfl hx a] at P
          exact sp_of rel1 h a0 (by rw [List.length_cons, r1.len, ha.len ρ rs hf]; exact hn) (argsB_self b1 r1) P
        | err e =>
          rw [hf] at P
          exact fun C H' m s => P C F H' m (rel.re.step (Ext.more rel.sub s))
        | bad => rw [hf] at P; exact P.elim
      · exact P.elim
    · exact P.elim⟩
theorem ex_meth0 {K : PySem.W.Frag} {mg : Str → Option Value} {l : Nat} {C f : Addr} {fd : FuncData} {ps : List Str} {den : List R → RB} (k : Nat) (hm : Meth K C m f) (Fn : FnOk X.prog X.w K mg X.base (L2.CX X.prog X.w) l f fd ps (spB K mg 1 0 den)) (hr : Room l X.A) (hb : Binds K fd ps [])
    (hC : TripC K C) (hno : ∀ v1 v2 l1 l2, (flds v1 v2 l1 l2).lookup m = none) (tk : Takes X W)
    (hN : X.N[k]? = some x := by rfl) (hv : Vis X.env.scope x := by first | exact Or.inl rfl | exact Or.inr (Or.inl rfl) | exact Or.inr (Or.inr rfl)) (hd : (x == ("__debug__" : Str)) = false := by decide) (hcd : (x == ("__classdict__" : Str)) = false := by decide) {pl : Sem Bool}
    (h3 : eval (.Call (.Attribute (.Name x p2) m apos) [] [] pos) X.env = (do
      let u ← eval (.Name x p2) X.env
      standAt apos.atName
      let (g, one) ← holding [u] (getMethod u m pl)
      callWith pos g one (backTo pos (starEach [] X.env)) (backToKw pos (keywordEach [] X.env))) := by rfl) (hK : X.K = K := by rfl) (hmg : X.mg = mg := by rfl) :
    EX X W (.Call (.Attribute (.Name x p2) m apos) [] [] pos) (tMethZ C m (spB K mg 1 0 den) (WE W) (tVar k) tNil) (xMeth k C den aNil) := by
  subst hK hmg
  exact ⟨pe_methZ0 (pl := pl) (pe_var hN hv hd hcd) hC.cls hm Fn hr hb (fun σ => passAt tk σ) h3, fun {G H0 ρ σ F H} rel Q P => by
    unfold xMeth at P
    split at P
    · rename_i id c o h
      split at P
      · rename_i hc
        subst hc
        obtain ⟨w, a0, a, dx, l1, l2, rfl, hi, ⟨v1, v2, us1, us2, g1, gr⟩, ff⟩ := rel.at_ k _ h
        refine ⟨_, a0, a, dx, _, rfl, g1, hno .., ?_⟩
        have P : PostX X.K X.mg W σ H0 F Q (backX k id c ρ (indep fun a => den [.obj (some a) c o])) := P
        obtain ⟨w, a1, b1⟩ := rel.re.at_ k _ h
        rw [a0] at a1
        cases a1
        have hx : indep (fun a => den [.obj (some a) c o]) ≠ .bad := fun z => by
          rw [z] at P; exact P
        rw [← indep_at rfl hx a] at P
        exact sp_of rel.re h a0 rfl (argsB_self (rs := []) b1 .nil) P
      · exact P.elim
    · exact P.elim⟩
end
end DN
/-! Den32: statements over expressions with effect. -/
namespace DN
open PySem PySem.Spec PyProof.Rows L2
def onX (m : RX) (k : PyData → Ev → RO) : RO := match m with
  | .ok d ρ => k d ρ
  | .err c ρ => .exc c ρ
  | .bad => .bad
@[simp] theorem onX_ok (d : PyData) (ρ : Ev) (k : PyData → Ev → RO) : onX (.ok d ρ) k = k d ρ := rfl
@[simp] theorem onX_err (c : Str) (ρ : Ev) (k : PyData → Ev → RO) : onX (.err c ρ) k = .exc c ρ := rfl
@[simp] theorem onX_bad (k : PyData → Ev → RO) : onX .bad k = .bad := rfl
section
variable {X : Cx} {W : WX} {e e2 : Expr} {te te2 : TE} {f : Ev → RX} {g : Ev → Rs R} {pos p2 : Pos} {st : Stmt}
theorem postS_onX {K : PySem.W.Frag} {mg : Str → Option Value} {G H0 F H : Hp} {ρ : Ev} {σ : L2.St} {D : Ends} {Q : VK} {m : RX} {k : PyData → Ev → RO} (rel : Rel K G H0 ρ σ F H) (P : PostS K mg W G H0 D (onX m k))
    (h : ∀ d v ρ' F' H', Rel K G H0 ρ' σ F' H' → DD F' v d → PostS K mg W G H0 D (k d ρ') → Q v H') : PostX K mg W σ H0 F Q m := by
  cases m with
  | ok d ρ' => exact fun v F' H' r q => h d v ρ' F' H' (r.back rel.base) q P
  | err c ρ' => exact fun C F' H' m r => P C σ F' H' m (r.back rel.base)
  | bad => exact P
/-- return, the slots kept -/
@[simp] def gRetk (g : Ev → Rs R) : Ev → RO := fun ρ => onR ρ ((g ρ).bind R.d) fun d => .retk (.val d) ρ
theorem es_retk (he : EE X W e te g) : ES X W (.Return (some e) pos) (tRet te) (gRetk g) where
  ps := ps_ret he.pe
  sound := fun {G H0 ρ σ F H} rel D P => he.sound rel _ (postS_data rel P fun d v F' H' e q P' => P' v σ F' H' (rel.step e) (.val q) fun _ _ _ _ c => c.elim)
@[simp] def gRetX (f : Ev → RX) : Ev → RO := fun ρ => onX (f ρ) fun d ρ' => .retk (.val d) ρ'
theorem es_retX (he : EX X W e te f) : ES X W (.Return (some e) pos) (tRet te) (gRetX f) where
  ps := ps_ret he.pe
  sound := fun {G H0 ρ σ F H} rel D P => he.sound rel _ (postS_onX rel P fun d v ρ' F' H' r q P' => P' v σ F' H' r (.val q) fun _ _ _ _ c => c.elim)
theorem es_retNk : ES X W (.Return none pos) tRetN (fun ρ => .retk (.val .none) ρ) := ⟨ps_retN, fun {G H0 ρ σ F H} rel D P => P _ σ F H rel (.val .non) fun _ _ _ _ c => c.elim⟩
/-- a call alone -/
@[simp] def gDropX (f : Ev → RX) : Ev → RO := fun ρ => onX (f ρ) fun _ ρ' => .nx ρ'
theorem es_exprX (he : EX X W e te f) (hs : swapsWith e none pos.line X.env = pure false := by rfl) : ES X W (.Expr e pos) (tDrop te) (gDropX f) where
  ps := ps_expr he.pe hs
  sound := fun {G H0 ρ σ F H} rel D P => he.sound rel _ (postS_onX rel P fun d v ρ' F' H' r q P' => P' _ _ _ r)
/-- x = .. -/
@[simp] def gAsgX (i : Nat) (f : Ev → RX) : Ev → RO := fun ρ => onX (f ρ) fun d ρ' => .nx (ρ'.set i (some (.val d)))
theorem es_asgX (i : Nat) {x : Str} {pos' : Pos} (hN : X.N.Nodup) (he : EX X W e te f) (hi : X.N[i]? = some x := by rfl) (hx : Loc X.env.scope x := by first | exact .inl rfl | exact .inr rfl) (hs : swapsWith e (some (.Name x pos')) pos.line X.env = pure false := by rfl) (hf : X.fn x = true ∨ X.env.scope.names.lookup x = some .local := by first | exact .inl rfl | exact .inr rfl | assumption) :
    ES X W (.Assign [.Name x pos'] e pos) (tAsg te (gName i)) (gAsgX i f) where
  ps := ps_set hN hi hx he.pe hs hf
  sound := fun {G H0 ρ σ F H} rel D P => he.sound rel _ (postS_onX rel P fun d v ρ' F' H' r q P' => P' _ _ _ (r.setVal q rfl))
/-! ### a if c else b -/
def xIf (c : Ev → Rs Bool) (f1 f2 : Ev → RX) : Ev → RX := fun ρ => match c ρ with
  | .ok b => if b = true then f1 ρ else f2 ρ
  | .err e => .err e ρ
  | .bad => .bad
theorem postX_step {K : PySem.W.Frag} {mg : Str → Option Value} {H0 F H F' H' : Hp} {σ : L2.St} {Q : VK} {m : RX} (e : Ext F H F' H') (b : Base F H0 F H) (P : PostX K mg W σ H0 F Q m) : PostX K mg W σ H0 F' Q m := by
  cases m with
  | ok d ρ' => exact fun v F2 H2 r q => P v F2 H2 (r.back (b.step e)) q
  | err c ρ' => exact fun C F2 H2 m r => P C F2 H2 m (r.back (b.step e))
  | bad => exact P
theorem ex_if {c a b : Expr} {tc : TT} {ta tb : TE} {fc : Ev → Rs Bool} {fa fb : Ev → RX} (hc : ET X W c tc fc) (ha : EX X W a ta fa) (hb : EX X W b tb fb) : EX X W (.IfExp c a b pos) (fun σ H Q => tc σ H fun k H1 => if k = true then ta σ H1 Q else tb σ H1 Q) (xIf fc fa fb) where
  pe := pe_ifExp hc.pt ha.pe hb.pe
  sound := fun {G H0 ρ σ F H} rel Q P => by
    refine hc.sound rel _ ?_
    unfold xIf at P
    cases h : fc ρ with
    | ok k =>
      rw [h] at P
      intro F' H' e
      cases k with
      | true =>
        have P : PostX X.K X.mg W σ H0 F Q (fa ρ) := P
        show ta σ H' Q
        exact ha.sound (rel.step e) _ (postX_step e rel.base.self P)
      | false =>
        have P : PostX X.K X.mg W σ H0 F Q (fb ρ) := P
        show tb σ H' Q
        exact hb.sound (rel.step e) _ (postX_step e rel.base.self P)
    | err e =>
      rw [h] at P
      exact fun C H' m s => P C F H' m (rel.re.step (Ext.more rel.sub s))
    | bad => rw [h] at P; exact P.elim
/-! ### if EX != e -/
def gIfNe (f : Ev → RX) (g : Ev → Rs R) (ga gb : Ev → RO) : Ev → RO := fun ρ => onX (f ρ) fun d ρ' => onR ρ' ((g ρ').bind R.d) fun d2 => match eqD d d2 with
  | .ok b => if b = true then gb ρ' else ga ρ'
  | _ => .bad
theorem es_ifNe {a b : List Stmt} {ta tb : TS} {ga gb : Ev → RO} (hu : X.A.units + 64 < cLine) (h1 : EX X W e te f) (h2 : EE X W e2 te2 g) (ha : EB X W a ta ga) (hb : EB X W b tb gb) :
    ES X W (.If (.Compare e [.NotEq] [e2] p2) a b pos) (tIfS (tTest (tOp (rNeD X.K) te te2)) ta tb) (gIfNe f g ga gb) where
  ps := ps_if (pt_cmpR (op_neD hu) h1.pe h2.pe (nomark _)) ha.ps hb.ps
  sound := fun {G H0 ρ σ F H} rel D P => h1.sound rel _ (postS_onX rel P fun d v ρ' F' H' r q P' => h2.sound r _ (postS_data r P' fun d2 v2 F2 H2 e2 q2 P2 => by
    unfold eqD at P2
    split at P2
    · rename_i b hs
      split at hs
      · rename_i hq
        cases hs
        have h' := Bool.and_eq_true_iff.mp hq
        refine ⟨d, d2, DD.dp e2.sub _ _ (DD.mono e2.ff _ _ q), DD.dp e2.sub _ _ q2, h'.1, h'.2, !PyData.eqv d d2, rfl, ?_⟩
        cases hb' : PyData.eqv d d2 with
        | true =>
          rw [hb', if_pos rfl] at P2
          exact hb.sound (r.step e2) D P2
        | false =>
          rw [hb', if_neg (by decide)] at P2
          exact ha.sound (r.step e2) D P2
      · cases hs
    · exact P2.elim))
end
end DN
/-! Den33: f(.., x, ..) where x is an object that f changes; lists of such calls. -/
namespace DN
open PySem PySem.Spec PyProof.Rows L2
def QArg (K : PySem.W.Frag) (σ : L2.St) (k : Nat) (F H : Hp) (v : V) : Option R → Prop
  | some r => Rep K F H v r ∧ r.isOwn = false
  | none => σ[k]? = some (some v)
theorem QArg.step {K : PySem.W.Frag} {σ : L2.St} {k : Nat} {F H F' H' : Hp} {v : V} {m : Option R} (e : Ext F H F' H') (h : QArg K σ k F H v m) : QArg K σ k F' H' v m := by
  cases m with
  | none => exact h
  | some r => exact ⟨h.1.step e, h.2⟩
def PostQ (K : PySem.W.Frag) (mg : Str → Option Value) (W : WX) (σ : L2.St) (k : Nat) (F H : Hp) (Q : List V → Hp → Prop) : Rs (List (Option R)) → Prop
  | .ok ms => ∀ vs F' H', Ext F H F' H' → Paired (QArg K σ k F' H') vs ms → Q vs H'
  | .err c => ∀ C H', mg c = some (.ref C) → Same H H' → W (.ref C) none σ H'
  | .bad => False
structure EQ (X : Cx) (W : WX) (k : Nat) (bs : List Bool) (es : List Expr) (t : TA) (fr : Ev → Rs (List (Option R))) : Prop where
  pa : PA X es t
  fl : ∀ ρ ms, fr ρ = .ok ms → ms.map Option.isNone = bs
  len : bs.length = es.length
  sound : ∀ {G H0 : Hp} {ρ : Ev} {σ : L2.St} {F H : Hp}, Rel X.K G H0 ρ σ F H → ∀ Q : List V → Hp → Prop, PostQ X.K X.mg W σ k F H Q (fr ρ) → t σ H Q
@[simp] def qNil : Ev → Rs (List (Option R)) := fun _ => .ok []
@[simp] def qCons (f : Ev → Rs R) (fr : Ev → Rs (List (Option R))) : Ev → Rs (List (Option R)) := fun ρ => (f ρ).bind fun r => r.a.bind fun x => (fr ρ).bind fun xs => .ok (some x :: xs)
@[simp] def qObj (k : Nat) (fr : Ev → Rs (List (Option R))) : Ev → Rs (List (Option R)) := fun ρ => match ρ[k]? with
  | some (some (.obj _ _ _)) => (fr ρ).bind fun xs => .ok (none :: xs)
  | _ => .bad
section
variable {X : Cx} {W : WX} {k : Nat} {fl : List Bool} {e : Expr} {es : List Expr} {te : TE} {t : TA} {f : Ev → Rs R} {fr : Ev → Rs (List (Option R))} {p pos : Pos} {x : Str}
theorem eq_nil : EQ X W k [] [] tNil qNil := ⟨pa_nil, fun ρ ms h => by cases h; rfl, rfl, fun rel Q P => P [] _ _ (Ext.refl rel.sub) .nil⟩
theorem paired_step {K : PySem.W.Frag} {σ : L2.St} {F H F' H' : Hp} (e : Ext F H F' H') : ∀ {vs : List V} {ms : List (Option R)}, Paired (QArg K σ k F H) vs ms → Paired (QArg K σ k F' H') vs ms
  | _, _, .nil => .nil
  | _, _, .cons r q => .cons (r.step e) (paired_step e q)
theorem eq_cons (he : EE X W e te f) (hr : EQ X W k fl es t fr) (hs : starEach (e :: es) X.env = (false, eval e X.env) :: starEach es X.env := by rfl) : EQ X W k (false :: fl) (e :: es) (tCons te t) (qCons f fr) where
  pa := pa_cons he.pe hr.pa hs
  len := by simp [hr.len]
  fl := fun ρ ms h => by
    unfold qCons at h
    cases h1 : f ρ with
    | ok r =>
      cases h2 : r.a with
      | ok y =>
        cases h3 : fr ρ with
        | ok xs =>
          simp [h1, h2, h3] at h
          subst h
          simp [hr.fl ρ xs h3]
        | err c => simp [h1, h2, h3] at h
        | bad => simp [h1, h2, h3] at h
      | err c => simp [h1, h2] at h
      | bad => simp [h1, h2] at h
    | err c => simp [h1] at h
    | bad => simp [h1] at h
  sound := fun {G H0 ρ σ F H} rel Q P => by
    refine he.sound rel _ ?_
    unfold qCons at P
    cases h1 : f ρ with
    | err c => rw [h1] at P; exact P
    | bad => rw [h1] at P; exact P
    | ok r =>
      rw [h1] at P
      intro v F1 H1 e1 q1
      cases h2 : r.a with
      | err c => exact absurd h2 (by cases r <;> simp [R.a])
      | bad =>
        have : ((Rs.ok r).bind fun r => r.a.bind fun x => (fr ρ).bind fun xs => Rs.ok (some x :: xs)) = .bad := by simp [h2]
        rw [this] at P; exact P.elim
      | ok y =>
        obtain ⟨F2, e2, _, q2, n2⟩ := q1.arg e1 h2
        have : ((Rs.ok r).bind fun r => r.a.bind fun x => (fr ρ).bind fun xs => Rs.ok (some x :: xs)) = (fr ρ).bind fun xs => .ok (some y :: xs) := by simp [h2]
        rw [this] at P
        refine hr.sound (rel.step e2) _ ?_
        cases h3 : fr ρ with
        | ok xs =>
          rw [h3] at P
          exact fun vs F' H' e3 q3 => P (v :: vs) F' H' (e2.trans e3) (.cons ⟨q2.step e3, n2⟩ q3)
        | err c => rw [h3] at P; exact fun C H' m s => P C H' m (e2.hh.trans s)
        | bad => rw [h3] at P; exact P
theorem eq_obj (hr : EQ X W k fl es t fr) (hN : X.N[k]? = some x := by rfl) (hv : Vis X.env.scope x := by first | exact Or.inl rfl | exact Or.inr (Or.inl rfl) | exact Or.inr (Or.inr rfl)) (hd : (x == ("__debug__" : Str)) = false := by decide) (hcd : (x == ("__classdict__" : Str)) = false := by decide)
    (hs : starEach (.Name x p :: es) X.env = (false, eval (.Name x p) X.env) :: starEach es X.env := by rfl) : EQ X W k (true :: fl) (.Name x p :: es) (tCons (tVar k) t) (qObj k fr) where
  pa := pa_cons (pe_var hN hv hd hcd) hr.pa hs
  len := by simp [hr.len]
  fl := fun ρ ms h => by
    unfold qObj at h
    split at h
    · cases h3 : fr ρ with
      | ok xs =>
        rw [h3] at h
        cases h
        simp [hr.fl ρ xs h3]
      | err c => rw [h3] at h; cases h
      | bad => rw [h3] at h; cases h
    · cases h
  sound := fun {G H0 ρ σ F H} rel Q P => by
    unfold qObj at P
    split at P
    · rename_i id c o h
      obtain ⟨v, a0, b⟩ := rel.at_ k _ h
      refine ⟨v, a0, hr.sound rel _ ?_⟩
      cases h3 : fr ρ with
      | ok xs =>
        rw [h3] at P
        exact fun vs F' H' e q => P (v :: vs) F' H' e (.cons a0 q)
      | err c => rw [h3] at P; exact P
      | bad => rw [h3] at P; exact P
    · exact P.elim
end
/-! ### the call -/
section
variable {X : Cx} {W : WX} {e : Expr} {es : List Expr} {t : TA} {p pos : Pos} {x : Str}
noncomputable def xCall (k : Nat) (den : List R → RB) (fr : Ev → Rs (List (Option R))) : Ev → RX := fun ρ => match ρ[k]? with
  | some (some (.obj id c o)) => (match fr ρ with
    | .ok ms => backX k id c ρ (indep fun a => den (ms.map fun m => m.getD (.obj (some a) c o)))
    | .err e => .err e ρ
    | .bad => .bad)
  | _ => .bad
theorem paired_get {α β : Type} {R' : α → β → Prop} : ∀ {xs : List α} {ys : List β} {i : Nat} {a : α} {b : β}, Paired R' xs ys → xs[i]? = some a → ys[i]? = some b → R' a b
  | _, _, _, _, _, .nil, h, _ => by simp at h
  | _, _, 0, _, _, .cons r _, h, g => by simp at h g; subst h; subst g; exact r
  | _, _, i + 1, _, _, .cons _ q, h, g => paired_get (i := i) q (by simpa using h) (by simpa using g)
theorem paired_len {α β : Type} {R' : α → β → Prop} : ∀ {xs : List α} {ys : List β}, Paired R' xs ys → xs.length = ys.length
  | _, _, .nil => rfl
  | _, _, .cons _ q => congrArg (· + 1) (paired_len q)
theorem argsB_of {K : PySem.W.Frag} {σ : L2.St} {F H : Hp} {k j : Nat} {fl : List Bool} {a c : Addr} {o : Ob} {id : Option Addr} {vs : List V} {ms : List (Option R)} (b : Rep K F H (.ref a) (.obj id c o)) (hv : σ[k]? = some (some (.ref a))) (h : Paired (QArg K σ k F H) vs ms) (hf : ms.map Option.isNone = fl)
    (hj : fl[j]? = some true) (ho : ∀ i, fl[i]? = some true → i = j) : ArgsB K F H j vs (ms.map fun m => m.getD (.obj (some a) c o)) a c o := by
  have hl := paired_len h
  have get : ∀ {i : Nat} {m : Option R}, ms[i]? = some m → fl[i]? = some m.isNone := fun {i m} e => by rw [← hf, List.getElem?_map, e]; rfl
  have mj : ms[j]? = some none := by
    rw [← hf, List.getElem?_map] at hj
    cases hm : ms[j]? with
    | none => rw [hm] at hj; cases hj
    | some m =>
      rw [hm] at hj
      cases m with
      | none => rfl
      | some r => cases hj
  have hlt : j < vs.length := by rw [hl]; exact lt_of_get mj
  refine ⟨by simp [hl], ?_, by rw [List.getElem?_map, mj]; rfl, fun i v r e1 e2 => ?_⟩
  · have := paired_get h (List.getElem?_eq_getElem hlt) mj
    have e : σ[k]? = some (some vs[j]) := this
    rw [hv] at e
    rw [List.getElem?_eq_getElem hlt, ← Option.some.inj (Option.some.inj e)]
  · rw [List.getElem?_map] at e2
    cases hm : ms[i]? with
    | none => rw [hm] at e2; cases e2
    | some m =>
      rw [hm] at e2
      have q := paired_get h e1 hm
      cases m with
      | some y =>
        cases e2
        exact ⟨q.1, fun _ => q.2⟩
      | none =>
        cases e2
        have q : σ[k]? = some (some v) := q
        rw [hv] at q
        cases q
        obtain ⟨a1, dx, l1, l2, e1', hi, hb, ff⟩ := b
        cases e1'
        refine ⟨⟨a, dx, l1, l2, rfl, ⟨fun b e => by cases e; rfl, hi.2⟩, hb, ff⟩, fun z => absurd (ho i (get hm)) z⟩
theorem ex_call {K : PySem.W.Frag} {mg : Str → Option Value} {k j l n : Nat} {fl : List Bool} {fn : Addr} {fd : FuncData} {ps : List Str} {den : List R → RB} {fr : Ev → Rs (List (Option R))} (Fn : FnOk X.prog X.w K mg X.base (L2.CX X.prog X.w) l fn fd ps (spB K mg n j den)) (hr : Room l X.A) (hm : mg x = some (.ref fn))
    (hk : PySem.W.keepIn K (.ref fn) = true) (hb : Binds K fd ps []) (tk : Takes X W) (ha : EQ X W k fl (e :: es) t fr) (hj : fl[j]? = some true) (ho : ∀ i, fl[i]? = some true → i = j) (hn : (e :: es).length = n := by rfl) (hg : Gl X x := by rfl)
    (hdb : (x == ("__debug__" : Str)) = false := by decide) (he : starEach (e :: es) X.env = (false, eval e X.env) :: starEach es X.env := by rfl) (hpl : (backTo pos (starEach es X.env)).any (·.1) = false := by rfl) (hK : X.K = K := by rfl) (hmg : X.mg = mg := by rfl) :
    EX X W (.Call (.Name x p) (e :: es) [] pos) (tCallS (spB K mg n j den) (WE W) t) (xCall k den fr) := by
  subst hK hmg
  exact ⟨pe_callS Fn hr hg hm hk hb (fun σ => passAt tk σ) ha.pa hdb he hpl, fun {G H0 ρ σ F H} rel Q P => by
    unfold xCall at P
    split at P
    · rename_i id c o h
      obtain ⟨w, a0, b0⟩ := rel.at_ k _ h
      obtain ⟨a, dx, l1, l2, rfl, _⟩ := _root_.id b0
      refine ha.sound rel _ ?_
      cases hf : fr ρ with
      | ok ms =>
        rw [hf] at P
        have P : PostX X.K X.mg W σ H0 F Q (backX k id c ρ (indep fun a => den (ms.map fun m => m.getD (.obj (some a) c o)))) := P
        intro vs F1 H1 e1 r1
        have rel1 := rel.re.step e1
        obtain ⟨w, a1, b1⟩ := rel1.at_ k _ h
        rw [a0] at a1
        cases a1
        have hx : indep (fun a => den (ms.map fun m => m.getD (.obj (some a) c o))) ≠ .bad := fun z => by
          rw [z] at P; exact P
        rw [← indep_at rfl hx a] at P
        have hlen : vs.length = n := by
          have h1 := congrArg List.length (ha.fl ρ ms hf)
          rw [List.length_map, ha.len] at h1
          rw [paired_len r1, h1]
          exact hn
        exact sp_of rel1 h a0 hlen (argsB_of b1 a0 r1 (ha.fl ρ ms hf) hj ho) P
      | err e =>
        rw [hf] at P
        exact fun C H' m s => P C F H' m (rel.re.step (Ext.more rel.sub s))
      | bad => rw [hf] at P; exact P.elim
    · exact P.elim⟩
end
end DN
/-! Den34: methods that only look at their object. -/
namespace DN
open PySem PySem.Spec PyProof.Rows L2
/-- without the cell a -/
def ers (F : Hp) (a : Addr) : Hp := fun b => if b = a then none else F b
theorem ers_ne {F : Hp} {a b : Addr} (h : b ≠ a) : ers F a b = F b := by
  unfold ers
  rw [if_neg h]
theorem ers_sub (F : Hp) (a : Addr) : Same (ers F a) F := fun b x e => by
  unfold ers at e
  split at e
  · cases e
  · exact e
section
variable {F : Hp} {a c dx : Addr} {fs : List (Str × V)}
mutual
theorem DD.ers (h : F a = some (.ins c dx fs)) : ∀ (d : PyData) (v : V), DD F v d → DD (ers F a) v d
  | .none, _, .non => .non
  | .bool _, _, .bl b => .bl b
  | .int _, _, .int i => .int i
  | .str _, _, .str x => .str x
  | .list ds, _, .lst q r => .lst (by rw [ers_ne (fun z => by rw [z, h] at q; cases q)]; exact q) (DDs.ers h _ _ r)
  | .tuple ds, _, .tup q r => .tup (by rw [ers_ne (fun z => by rw [z, h] at q; cases q)]; exact q) (DDs.ers h _ _ r)
theorem DDs.ers (h : F a = some (.ins c dx fs)) : ∀ (ds : List PyData) (vs : List V), DDs F vs ds → DDs (ers F a) vs ds
  | [], _, .nil => .nil
  | _ :: _, _, .cons q r => .cons (DD.ers h _ _ q) (DDs.ers h _ _ r)
end
end
def plainR : Rs R → Rs R
  | .ok (.val d) => .ok (.val d)
  | .ok (.own xs) => .ok (.own xs)
  | .err c => .err c
  | _ => .bad
@[simp] def fVMeth (k : Nat) (C : Addr) (den : List R → Rs R) : Ev → Rs R := fun ρ => match ρ[k]? with
  | some (some (.obj _ c o)) => if c = C then plainR (den [.vie c o.n o.p]) else .bad
  | _ => .bad
theorem ek_vmeth {X : Cx} {W : WX} {x m : Str} {p2 apos pos : Pos} {l : Nat} {C f : Addr} {fd : FuncData} {ps : List Str} {den : List R → Rs R} (k : Nat) (hm : Meth X.K C m f) (Fn : FnOk X.prog X.w X.K X.mg X.base (L2.CX X.prog X.w) l f fd ps (spD X.K X.mg 1 den)) (hr : Room l X.A) (hb : Binds X.K fd ps [])
    (hC : TripC X.K C) (hno : ∀ v1 v2 l1 l2, (flds v1 v2 l1 l2).lookup m = none) (tk : Takes X W)
    (hN : X.N[k]? = some x := by rfl) (hv : Vis X.env.scope x := by first | exact Or.inl rfl | exact Or.inr (Or.inl rfl) | exact Or.inr (Or.inr rfl)) (hd : (x == ("__debug__" : Str)) = false := by decide) (hcd : (x == ("__classdict__" : Str)) = false := by decide) {pl : Sem Bool}
    (h3 : eval (.Call (.Attribute (.Name x p2) m apos) [] [] pos) X.env = (do
      let u ← eval (.Name x p2) X.env
      standAt apos.atName
      let (g, one) ← holding [u] (getMethod u m pl)
      callWith pos g one (backTo pos (starEach [] X.env)) (backToKw pos (keywordEach [] X.env))) := by rfl) :
    EE X W (.Call (.Attribute (.Name x p2) m apos) [] [] pos) (tMethZ C m (spD X.K X.mg 1 den) (WE W) (tVar k) tNil) (fVMeth k C den) where
  pe := pe_methZ0 (pl := pl) (pe_var hN hv hd hcd) hC.cls hm Fn hr hb (fun σ => passAt tk σ) h3
  sound := fun {G H0 ρ σ F H} rel Q P => by
    unfold fVMeth at P
    split at P
    · rename_i id c o h
      split at P
      · rename_i hc
        subst hc
        obtain ⟨w, a0, a, dx, l1, l2, rfl, hi, ⟨v1, v2, us1, us2, g1, g2, g3, g4, g5, g6, g7, g8, g9⟩, f1, f2, f3, f4⟩ := rel.at_ k _ h
        have sm : Same F (upd F a (.ins c dx (flds v1 v2 l1 l2))) := same_new f1
        have sH : Same (upd F a (.ins c dx (flds v1 v2 l1 l2))) H := fun b x e => by
          by_cases z : b = a
          · subst z; rw [upd_same] at e; rw [g1]; exact e
          · rw [upd_ne z] at e; exact rel.sub _ _ e
        have ex : ∀ {F' H' : Hp}, Ext (upd F a (.ins c dx (flds v1 v2 l1 l2))) H F' H' → F' a = some (.ins c dx (flds v1 v2 l1 l2)) ∧ Ext F H (ers F' a) H' := fun {F' H'} e => by
          refine ⟨e.ff _ _ upd_same, rel.sub, fun b x q => ?_, e.hh, (ers_sub F' a).trans e.sub, fun b q => ?_⟩
          · rw [ers_ne (ne_of_none q f1)]; exact e.ff _ _ (sm _ _ q)
          · have nb : b ≠ a := fun z => by subst z; exact q (by unfold ers; rw [if_pos rfl])
            rw [ers_ne nb] at q
            rcases e.new b q with n | n
            · rw [upd_ne nb] at n; exact .inl n
            · exact .inr n
        refine ⟨_, a0, a, dx, _, rfl, g1, hno .., rfl, [.vie c o.n o.p], _, sH, .cons ⟨⟨hi.2, a, dx, l1, l2, v1, v2, rfl, upd_same, DD.mono sm _ _ g6, DD.mono sm _ _ g7⟩, rfl⟩ .nil, ?_⟩
        cases hdn : den [.vie c o.n o.p] with
        | err e => rw [hdn] at P; exact P
        | bad => rw [hdn] at P; exact P
        | ok r =>
          rw [hdn] at P
          cases r with
          | val d =>
            intro v F' H' e q
            obtain ⟨fa, e2⟩ := ex e
            exact P v _ H' e2 (.val (DD.ers fa _ _ q.1))
          | own xs =>
            intro v F' H' e q
            obtain ⟨fa, e2⟩ := ex e
            obtain ⟨⟨p, us, rfl, b1, b2, b3⟩, fr⟩ := q
            refine P _ _ H' e2 ⟨⟨p, us, rfl, b1, ?_, DDs.ers fa _ _ b3⟩, fr⟩
            unfold ers
            split
            · rfl
            · exact b2
          | _ => exact P.elim
      · exact P.elim
    · exact P.elim
end DN
/-! Den35: len(x) by the class's own __len__. -/
namespace DN
open PySem PySem.Spec PyProof.Rows L2
section
variable {X : Cx} {CX : CXT} {k : Nat} {f C : Addr} {fd : FuncData} {ps : List Str} {sp : Sp} {E : XK}
def rLenO (C : Addr) (sp : Sp) (E : XK) : List V → Hp → VK → Prop := fun xs H Q => ∃ a dx fs, xs = [.ref a] ∧ H a = some (.ins C dx fs) ∧ sp [.ref a] H (fun v H' => ∃ n : Int, v = .int n ∧ 0 ≤ n ∧ n < 2 ^ 63 ∧ Q (.int n) H') E
theorem call_lenO (hm : Meth X.K C "__len__" f) (Fn : FnOk X.prog X.w X.K X.mg X.base CX k f fd ps sp) (hr : Room (k + 1) X.A) (hb : Binds X.K fd ps []) (hx : Passes CX X E) : CallR X (.builtin "len") (rLenO C sp E) := by
  intro pins s σ H xs us Q I rs h
  obtain ⟨a, dx, fs, rfl, ea, q⟩ := h
  cases rs with
  | cons r1 rs =>
    cases rs
    cases r1
    obtain ⟨mA, O, _, _, _, _⟩ := ins_get I.hok ea
    obtain ⟨od, hod, _⟩ := lookIn_ns O.ns
    have J : PySem.W.InstAt s.heap a (PySem.W.instObj C dx) C (some od) := ⟨O.obj, rfl, rfl, hod⟩
    have rr : Vals [V.ref a] [Value.ref a] := .cons rfl .nil
    have b := hb s [.ref a] I.kIn (by rw [List.append_nil, ← rr.length]; exact Fn.len _ _ _ _ q)
    rw [List.append_nil] at b
    have run : wpAny (model X.prog X.w) X.A.in1 (call (.ref f) [.ref a]) (EP X pins σ fun v H' => ∃ n : Int, v = .int n ∧ 0 ≤ n ∧ n < 2 ^ 63 ∧ Q (.int n) H') X.xe s := by
      refine wpAny_call (codeAny_mono (Fn.run X.A.in1 X.stack s H ⟨[.ref a], []⟩ [.ref a] _ _ E hr.in1 I.env0.in1 b rr q) ?_)
      intro w s' hq
      match w, hq with
      | .error z, hq => exact hx pins σ H s z s' I hq
      | .ok (.ret u), hq => exact I.after hq
      | .ok .next, hq => exact hq.elim
      | .ok .brk, hq => exact hq.elim
      | .ok .cont, hq => exact hq.elim
    apply Calls.call_function_entry kind_len plain_len entry_len (args_len1 (Value.ref a))
    unfold Builtin.«len»
    refine wpAny_bind (m := oneArg "len" _) (wpAny_pure (wpAny_bind (m := callSpecial? (.ref a) (Str.ofString "__len__")) (PySem.W.special_fn I.kIn J hm.at_ (beq_iff_eq.mp hm.fn) (wpAny_mono run ?_ fun _ _ y => y))))
    rintro u s' ⟨v, H', I', rv, n, rfl, h0, h1, qq⟩
    obtain ⟨t, rfl⟩ := rv
    refine wpAny_bind (wpAny_holding (wpAny_pure (wpAny_bind (wpAny_letGo ?_))))
    show wpAny _ _ (if n < 0 then _ else if n ≥ 2 ^ 63 then _ else _) _ _ _
    rw [if_neg (show ¬ n < 0 by omega), if_neg (show ¬ n ≥ 2 ^ 63 by omega)]
    exact wpAny_bind (wpAny_mkInt (wpAny_pure ⟨_, rfl, V.int n, H', I'.tok _, ⟨_, rfl⟩, qq⟩))
end
end DN
/-! Den36: lists of expressions with effect. -/
namespace DN
open PySem PySem.Spec PyProof.Rows L2
def RX.then (m : RX) (k : PyData → Ev → RX) : RX := match m with
  | .ok d ρ => k d ρ
  | .err c ρ => .err c ρ
  | .bad => .bad
@[simp] theorem then_ok (d : PyData) (ρ : Ev) (k : PyData → Ev → RX) : (RX.ok d ρ).then k = k d ρ := rfl
@[simp] theorem then_err (c : Str) (ρ : Ev) (k : PyData → Ev → RX) : (RX.err c ρ).then k = .err c ρ := rfl
@[simp] theorem then_bad (k : PyData → Ev → RX) : RX.bad.then k = .bad := rfl
section
variable {X : Cx} {W : WX} {e e2 : Expr} {te te2 : TE} {f f2 : Ev → RX} {g : Ev → Rs R} {pos : Pos}
theorem postX_then {K : PySem.W.Frag} {mg : Str → Option Value} {G H0 F H : Hp} {ρ : Ev} {σ : L2.St} {Q Q1 : VK} {m : RX} {k : PyData → Ev → RX} (rel : Rel K G H0 ρ σ F H) (P : PostX K mg W σ H0 F Q (m.then k))
    (h : ∀ d v ρ' F' H', Rel K F H0 ρ' σ F' H' → DD F' v d → PostX K mg W σ H0 F Q (k d ρ') → Q1 v H') : PostX K mg W σ H0 F Q1 m := by
  cases m with
  | ok d ρ' => exact fun v F' H' r q => h d v ρ' F' H' r q P
  | err c ρ' => exact P
  | bad => exact P
theorem postX_re {K : PySem.W.Frag} {mg : Str → Option Value} {H0 F F' H' : Hp} {σ : L2.St} {Q : VK} {m : RX} (b : Base F H0 F' H') (P : PostX K mg W σ H0 F Q m) : PostX K mg W σ H0 F' Q m := by
  cases m with
  | ok d ρ' => exact fun v F2 H2 r q => P v F2 H2 (r.back b) q
  | err c ρ' => exact fun C F2 H2 m r => P C F2 H2 m (r.back b)
  | bad => exact P
/-- a new list that is let go at once -/
theorem new_lstX {K : PySem.W.Frag} {mg : Str → Option Value} {G H0 F H : Hp} {ρ : Ev} {σ : L2.St} {Q : VK} {vs : List V} {ds : List PyData} (rel : Rel K G H0 ρ σ F H) (r : DDs F vs ds) (P : PostX K mg W σ H0 F Q (.ok (.list ds) ρ)) : ∀ p, H p = none → Q (.ref p) (upd H p (.lst vs)) := fun p np =>
  P _ _ _ (rel.re.step (Ext.add rel.sub np)) (.lst upd_same (DDs.mono (same_new (rel.sub.free np)) _ _ r))
def xLst1 (f : Ev → RX) : Ev → RX := fun ρ => (f ρ).then fun d ρ' => .ok (.list [d]) ρ'
def xLst2 (f f2 : Ev → RX) : Ev → RX := fun ρ => (f ρ).then fun d ρ' => (f2 ρ').then fun d2 ρ2 => .ok (.list [d, d2]) ρ2
theorem ex_lst1 (h : EX X W e te f) (hs : starEach [e] X.env = (false, eval e X.env) :: starEach [] X.env := by rfl) : EX X W (.List [e] pos) (tLst (tCons te tNil)) (xLst1 f) where
  pe := pe_lst (pa_cons h.pe pa_nil hs)
  sound := fun {G H0 ρ σ F H} rel Q P => h.sound rel _ (postX_then rel P fun d v ρ' F' H' r q P' => ⟨by show 1 ≤ sizeLine; decide, new_lstX r (.cons q .nil) (postX_re r.base P')⟩)
theorem ex_lst2 (h : EX X W e te f) (h2 : EX X W e2 te2 f2) (hs : starEach [e, e2] X.env = (false, eval e X.env) :: starEach [e2] X.env := by rfl) (hs2 : starEach [e2] X.env = (false, eval e2 X.env) :: starEach [] X.env := by rfl) :
    EX X W (.List [e, e2] pos) (tLst (tCons te (tCons te2 tNil))) (xLst2 f f2) where
  pe := pe_lst (pa_cons h.pe (pa_cons h2.pe pa_nil hs2) hs)
  sound := fun {G H0 ρ σ F H} rel Q P => h.sound rel _ (postX_then rel P fun d v ρ' F' H' r q P' => h2.sound r _ (postX_then r (postX_re r.base P') fun d2 v2 ρ2 F2 H2 r2 q2 P2 =>
    ⟨by show 2 ≤ sizeLine; decide, new_lstX r2 (.cons (DD.mono r2.base.keep _ _ q) (.cons q2 .nil)) (postX_re r2.base P2)⟩))
/-- a list and what comes with effect -/
def xAdd (g : Ev → Rs R) (f : Ev → RX) : Ev → RX := fun ρ => (liftX ρ ((g ρ).bind R.d)).then fun d ρ0 => (f ρ0).then fun d2 ρ' => match d, d2 with
  | .list xs, .list ys => if xs.length + ys.length ≤ lim then .ok (.list (xs ++ ys)) ρ' else .bad
  | _, _ => .bad
theorem ex_add (h1 : EE X W e te g) (h2 : EX X W e2 te2 f) : EX X W (.BinOp e .Add e2 pos) (tOp (rAddA X.K) te te2) (xAdd g f) where
  pe := pe_op op_addA h1.pe h2.pe
  sound := fun {G H0 ρ σ F H} rel Q P => (ex_ee h1).sound rel _ (postX_then (k := fun d ρ0 => (f ρ0).then fun d2 ρ' => match d, d2 with
      | .list xs, .list ys => if xs.length + ys.length ≤ lim then .ok (.list (xs ++ ys)) ρ' else .bad
      | _, _ => .bad) rel P fun d v ρ' F' H' r q P' => h2.sound r _ (postX_then r (postX_re r.base P') fun d2 v2 ρ2 F2 H2 r2 q2 P2 => by
    have q := DD.mono r2.base.keep _ _ q
    cases q with
    | @lst p xs ds g1 w1 =>
      cases q2 with
      | @lst p2 ys es g2 w2 =>
        dsimp only at P2
        split at P2
        · rename_i hl
          exact .inr (.inr (.inl ⟨_, _, _, _, rfl, rfl, r2.sub _ _ g1, r2.sub _ _ g2, by rw [w1.len, w2.len]; exact Nat.le_trans hl lim_le, new_lstX r2 (w1.app w2) (postX_re r2.base P2)⟩))
        · exact P2.elim
      | _ => exact P2.elim
    | _ => cases q2 <;> exact P2.elim))
end
end DN
/-! Den37: a new trip. -/
namespace DN
open PySem PySem.Spec PyProof.Rows L2
/-- what __init__ leaves -/
structure Mde (F H F' H' : Hp) (a c dx l1 l2 : Addr) (o : Ob) : Prop where
  ff : Same F F'
  sub : Same F' H'
  new : ∀ x, F' x ≠ none → F x ≠ none ∨ Okn H x
  hH : ∀ q x, q ≠ a → H q = some x → H' q = some x
  at_ : ObAt F' H' a c dx l1 l2 o
  n1 : H l1 = none
  n2 : H l2 = none
  f1 : F' a = none
  f2 : F' dx = none
  f3 : F' l1 = none
  f4 : F' l2 = none
def spI (K : PySem.W.Frag) (mg : Str → Option Value) (den : List R → Rs R) : Sp := fun vs H Q E => vs.length = 3 ∧ ∃ a dx c v1 v2 n r F, vs = [.ref a, v1, v2] ∧ H a = some (.ins c dx []) ∧ H dx = some (.own a) ∧ F a = none ∧ F dx = none ∧ Same F H ∧ DD F v1 n ∧ DD F v2 r ∧ TripC K c ∧ (match den [.val n, .val r] with
  | .ok (.val p) => ∀ l1 l2 F' H', Mde F H F' H' a c dx l1 l2 ⟨n, p, [], []⟩ → Q .non H'
  | .err e => ∀ C H', mg e = some (.ref C) → (∀ q x, q ≠ a → H q = some x → H' q = some x) → E (.ref C) none H'
  | _ => False)
@[simp] def fMake (C : Addr) (den : List R → Rs R) (fr : Ev → Rs (List PyData)) : Ev → Rs R := fun ρ => (fr ρ).bind fun ds => match ds with
  | [n, r] => match den [.val n, .val r] with
    | .ok (.val p) => .ok (.obj none C ⟨n, p, [], []⟩)
    | .err e => .err e
    | _ => .bad
  | _ => .bad
theorem ee_make {K : PySem.W.Frag} {mg : Str → Option Value} {X : Cx} {W : WX} {l : Nat} {C f : Addr} {fd : FuncData} {ps : List Str} {den : List R → Rs R} {x : Str} {e1 e2 : Expr} {t : TA} {fr : Ev → Rs (List PyData)} {p pos : Pos} (M : Mk K C f) (Fn : FnOk X.prog X.w K mg X.base (L2.CX X.prog X.w) l f fd ps (spI K mg den)) (hr : Room (l + 1) X.A) (hm : mg x = some (.ref C)) (hb : Binds K fd ps [])
    (hC : TripC K C) (tk : Takes X W) (ha : ED X W [e1, e2] t fr) (hg : Gl X x := by rfl) (hdb : (x == ("__debug__" : Str)) = false := by decide)
    (h1 : starEach [e1, e2] X.env = (false, eval e1 X.env) :: starEach [e2] X.env := by rfl) (h2 : (backTo pos (starEach [e2] X.env)).any (·.1) = false := by rfl) (hK : X.K = K := by rfl) (hmg : X.mg = mg := by rfl) :
    EE X W (.Call (.Name x p) [e1, e2] [] pos) (tMakeZ C (spI K mg den) (WE W) t) (fMake C den fr) := by
  subst hK hmg
  exact ⟨pe_makeZ M Fn hr hg hm hb (fun σ => passAt tk σ) ha.pa hdb h1 h2, fun {G H0 ρ σ F H} rel Q P => ha.sound rel _ (postD_out P fun ds vs F1 H1 ex r1 P1 => by
    match ds, r1 with
    | [], _ => exact P1.elim
    | [_], _ => exact P1.elim
    | _ :: _ :: _ :: _, _ => exact P1.elim
    | [n, r], .cons (v := v1) g1 (.cons (v := v2) g2 .nil) =>
      intro a dx na ndx ne
      have sm : Same H1 (upd (upd H1 dx (.own a)) a (.ins C dx [])) := (same_new ndx).trans (same_new (by rw [upd_ne (Ne.symm ne)]; exact na))
      have hkeep : ∀ {H' : Hp}, (∀ q x, q ≠ a → upd (upd H1 dx (.own a)) a (.ins C dx []) q = some x → H' q = some x) → Same H1 H' := fun {H'} h b y e => h b y (ne_of_none e na) (sm _ _ e)
      refine ⟨rfl, a, dx, C, v1, v2, n, r, F1, rfl, upd_same, by rw [upd_ne ne, upd_same], ex.sub.free na, ex.sub.free ndx, ex.sub.trans sm, g1, g2, hC, ?_⟩
      dsimp only at P1
      split
      · rename_i pd hd
        rw [hd] at P1
        intro l1 l2 F' H' m
        refine ⟨rfl, P1 _ F' H' ⟨ex.sub, m.ff, hkeep m.hH, m.sub, fun y q => ?_⟩ ⟨⟨a, dx, l1, l2, rfl, ⟨fun b z => (nomatch z), hC⟩, m.at_, m.f1, m.f2, m.f3, m.f4⟩, fun _ q z => ?_⟩⟩
        · rcases m.new y q with h | h
          · exact .inl h
          · exact .inr (h.back sm)
        · obtain ⟨a', dx', w1, w2, k1, k2, e', g, hq⟩ := z
          cases e'
          obtain ⟨u1, u2, us1, us2, q1, _⟩ := m.at_
          rw [q1] at g
          cases g
          rcases hq with rfl | rfl | rfl | rfl
          · exact na
          · exact ndx
          · exact sm.free m.n1
          · exact sm.free m.n2
      · rename_i c hd
        rw [hd] at P1
        exact fun C' H' mm h => P1 C' H' mm (hkeep h)
      · rename_i hd1 hd2
        split at P1
        · rename_i pd hd
          exact hd1 _ hd
        · rename_i c hd
          exact hd2 _ hd
        · exact P1)⟩
end DN
/-! Den38: __init__ by its body. -/
namespace DN
open PySem PySem.Spec PyProof.Rows L2
/-- a cell changes that is nobody's -/
theorem Rel.poke {K : PySem.W.Frag} {G H0 F H : Hp} {ρ : Ev} {σ : L2.St} {a : Addr} {o : HO} (rel : Rel K G H0 ρ σ F H) (f : F a = none) (h0 : H0 a = none) (nc : ∀ (i : Nat) (r : R) (v : V), ρ[i]? = some (some r) → σ[i]? = some (some v) → ¬ Cell H v r a) : Rel K G H0 ρ σ F (upd H a o) := by
  have mv : ∀ {j : Nat} {y : R} {w : V}, ρ[j]? = some (some y) → σ[j]? = some (some w) → Rep K F H w y → Rep K F (upd H a o) w y ∧ ∀ q, Cell (upd H a o) w y q → Cell H w y q := fun {j y w} e s b =>
    Rep.move (Same.refl F) (fun q h => upd_ne h) (fun q h => rfl) b (nc j y w e s)
  have back : ∀ {j : Nat} {y : R} {w : V} {q : Addr}, ρ[j]? = some (some y) → σ[j]? = some (some w) → Cell (upd H a o) w y q → Cell H w y q := fun {j y w q} e s c => by
    obtain ⟨w', s', b⟩ := rel.at_ j y e
    rw [s] at s'
    cases s'
    exact (mv e s b).2 q c
  refine ⟨⟨rel.base.keep, fun b x e => ?_, fun b x e => ?_, rel.base.new⟩, rel.len, fun i r e => ?_, fun i r v q e s c => rel.frs i r v q e s (back e s c), fun i j r r' v v' q e1 e2 s1 s2 c1 c2 => rel.apart i j r r' v v' q e1 e2 s1 s2 (back e1 s1 c1) (back e2 s2 c2)⟩
  · rw [upd_ne (ne_of_none e h0)]; exact rel.base.hh _ _ e
  · rw [upd_ne (ne_of_none e f)]; exact rel.sub _ _ e
  · obtain ⟨w, s, b⟩ := rel.at_ i r e
    exact ⟨w, s, (mv e s b).1⟩
/-! ### the body of __init__ -/
abbrev initE (n r : PyData) : Ev := [none, some (.val n), some (.val r)]
def dInit (f1 f2 : Ev → Rs R) : List R → Rs R
  | [.val n, .val r] => (f1 (initE n r)).bind fun _ => (f2 (initE n r)).bind fun x => x.d.bind fun d => .ok (.val d)
  | _ => .bad
def tInit (K : PySem.W.Frag) (t1 t2 : TE) : TS := tSeq (tDrop t1) (tSeq (sFld K (tVar 0) (tVar 1) "net") (tSeq (sFld K (tVar 0) t2 "present") (tSeq (sFld K (tVar 0) (tLst tNil) "done") (sFld K (tVar 0) (tLst tNil) "undone"))))
def fl1 (v : V) : List (Str × V) := [("net", v)]
def fl2 (v u : V) : List (Str × V) := [("net", v), ("present", u)]
def fl3 (v u w : V) : List (Str × V) := [("net", v), ("present", u), ("done", w)]
theorem put0 (v : V) : putF "net" v [] = fl1 v := rfl
theorem put1 (v u : V) : putF "present" u (fl1 v) = fl2 v u := rfl
theorem put2 (v u w : V) : putF "done" w (fl2 v u) = fl3 v u w := rfl
theorem put3 (v u : V) (w z : Addr) : putF "undone" (.ref z) (fl3 v u (.ref w)) = flds v u w z := rfl
section
variable {P : Program} {w : World} {K : PySem.W.Frag} {mg : Str → Option Value} {base : Heap}
structure EInit (X : Cx) (W : WX) (sts : List Stmt) (f1 f2 : Ev → Rs R) : Prop where
  ex : ∃ t1 t2 e1 e2, EE X W e1 t1 f1 ∧ EE X W e2 t2 f2 ∧ PSs X sts (tInit X.K t1 t2)
theorem fn_init {x qual : Str} {st : Stmt} {f : Addr} {fd : FuncData} {ps : List Str} {k : Nat} {f1 f2 : Ev → Rs R} {a1 a2 a3 : Str} (Fu : Fun K x qual st f fd) (S : FnScope [a1, a2, a3] ps (defScope st)) (hn : ps.length = 3)
    (hb : ∀ (cdv : Value) (A : Around) (outer : List Env) (s : Shared) (H : Hp) (E : XK), Room k (A.deeper (envOfC qual (defScope st) s.heap.objs.size f cdv)) →
      Takes (cxOf (L2.CX P w) P w K mg base [a1, a2, a3] qual (defScope st) f cdv A outer s H E) (fun cls d _ H => E cls d H) →
      PassesOwn (model P w) (cxOf (L2.CX P w) P w K mg base [a1, a2, a3] qual (defScope st) f cdv A outer s H E).A (cxOf (L2.CX P w) P w K mg base [a1, a2, a3] qual (defScope st) f cdv A outer s H E).env (cxOf (L2.CX P w) P w K mg base [a1, a2, a3] qual (defScope st) f cdv A outer s H E).xe →
      EInit (cxOf (L2.CX P w) P w K mg base [a1, a2, a3] qual (defScope st) f cdv A outer s H E) (fun cls d _ H => E cls d H) (defBody st) f1 f2) :
    FnOk P w K mg base (L2.CX P w) (k + 1) f fd ps (spI K mg (dInit f1 f2)) := by
  refine Fu.okX S (fun vs H Q E h => by rw [hn]; exact h.1) (fun cdv A outer s H vs Q E hr h => ?_)
  obtain ⟨hl, a, dx, c, v1, v2, n, r, F, rfl, ha, hdx, fa, fdx, sF, g1, g2, tc, hden⟩ := h
  obtain ⟨t1, t2, e1, e2, E1, E2, B⟩ := (hb cdv A outer s H E hr (takes_of rfl rfl rfl rfl) (passes_of rfl)).ex
  refine ⟨_, B, ?_⟩
  have nax : dx ≠ a := fun z => by rw [z, ha] at hdx; cases hdx
  have rel : Rel K F (ers H a) (initE n r) (L2.start [a1, a2, a3] [.ref a, v1, v2]) F H := by
    have nc : ∀ {i : Nat} {r' : R} {v : V} {q : Addr}, (initE n r)[i]? = some (some r') → Cell H v r' q → False := fun {i r' v q} e z => by
      match i, e with
      | 0, e => cases e
      | 1, e => cases e; exact z
      | 2, e => cases e; exact z
      | i + 3, e => cases e
    refine ⟨⟨Same.refl _, ers_sub _ _, sF, fun _ q => .inl q⟩, rfl, fun i r' e => ?_, fun i r' v q e _ z => (nc e z).elim, fun i j r' r'' v v' q e1 e2 _ _ z1 z2 => (nc e1 z1).elim⟩
    match i, e with
    | 0, e => cases e
    | 1, e => cases e; exact ⟨v1, rfl, g1⟩
    | 2, e => cases e; exact ⟨v2, rfl, g2⟩
    | i + 3, e => cases e
  have nc : ∀ {H' : Hp} (i : Nat) (r' : R) (v : V), (initE n r)[i]? = some (some r') → (L2.start [a1, a2, a3] [.ref a, v1, v2])[i]? = some (some v) → ¬ Cell H' v r' a := fun {H'} i r' v e _ z => by
    match i, e with
    | 0, e => cases e
    | 1, e => cases e; exact z
    | 2, e => cases e; exact z
    | i + 3, e => cases e
  have h0a : ers H a a = none := by unfold ers; rw [if_pos rfl]
  refine E1.sound rel _ ?_
  cases h1 : f1 (initE n r) with
  | bad => simp only [dInit, h1, bind_bad] at hden
  | err e =>
    simp only [dInit, h1, bind_err] at hden
    exact fun C H' m sm => hden C H' m fun q y _ hq => sm _ _ hq
  | ok r1 =>
    simp only [dInit, h1, bind_ok] at hden
    intro u1 F1 H1 x1 _
    have a1' : H1 a = some (.ins c dx []) := x1.hh _ _ ha
    have fa1 : F1 a = none := x1.own ha fa
    refine ⟨v1, rfl, .ref a, rfl, a, c, dx, [], rfl, a1', tc.cls, tc.n, by show 0 < 1000; decide, ?_⟩
    rw [put0]
    have rel1 := (rel.step x1).poke (o := .ins c dx (fl1 v1)) fa1 h0a nc
    refine E2.sound rel1 _ ?_
    cases h2 : f2 (initE n r) with
    | bad => simp only [h2, bind_bad] at hden
    | err e =>
      simp only [h2, bind_err] at hden
      exact fun C H' m sm => hden C H' m fun q y nq hq => sm _ _ (by rw [upd_ne nq]; exact x1.hh _ _ hq)
    | ok r2 =>
      simp only [h2, bind_ok] at hden
      cases hd : r2.d with
      | bad => simp only [hd, bind_bad] at hden
      | err e => exact absurd hd (by cases r2 <;> simp [R.d])
      | ok d =>
        simp only [hd, bind_ok] at hden
        intro u2 F2' H2 x2' q2
        obtain ⟨F2, x2, _, q2⟩ := q2.data x2' hd
        have a2' : H2 a = some (.ins c dx (fl1 v1)) := x2.hh _ _ upd_same
        have fa2 : F2 a = none := x2.own upd_same fa1
        have keep2 : ∀ {q : Addr} {y : HO}, q ≠ a → H q = some y → H2 q = some y := fun {q y} nq hq => x2.hh _ _ (by rw [upd_ne nq]; exact x1.hh _ _ hq)
        refine ⟨.ref a, rfl, a, c, dx, _, rfl, a2', tc.cls, tc.p, by show 1 < 1000; decide, ?_⟩
        rw [put1]
        refine ⟨by show 0 ≤ sizeLine; decide, fun l1 nl1 => ?_⟩
        have nl1a : l1 ≠ a := fun z => by rw [z, upd_same] at nl1; cases nl1
        have nl1' : H2 l1 = none := by rw [upd_ne nl1a] at nl1; exact nl1
        refine ⟨.ref a, rfl, a, c, dx, _, rfl, by rw [upd_ne (Ne.symm nl1a), upd_same], tc.cls, tc.d, by show 2 < 1000; decide, ?_⟩
        rw [put2]
        refine ⟨by show 0 ≤ sizeLine; decide, fun l2 nl2 => ?_⟩
        have nl2a : l2 ≠ a := fun z => by rw [z, upd_same] at nl2; cases nl2
        have nl2' : upd (upd H2 a (.ins c dx (fl2 v1 u2))) l1 (.lst []) l2 = none := by rw [upd_ne nl2a] at nl2; exact nl2
        have nl21 : l2 ≠ l1 := fun z => by rw [z, upd_same] at nl2'; cases nl2'
        have nl2'' : H2 l2 = none := by rw [upd_ne nl21, upd_ne nl2a] at nl2'; exact nl2'
        refine ⟨.ref a, rfl, a, c, dx, _, rfl, by rw [upd_ne (Ne.symm nl2a), upd_same], tc.cls, tc.u, by show 3 < 1000; decide, ?_⟩
        rw [put3]
        have hdx2 : H2 dx = some (.own a) := keep2 nax hdx
        have ndl1 : dx ≠ l1 := ne_of_none hdx2 nl1'
        have ndl2 : dx ≠ l2 := ne_of_none hdx2 nl2''
        have hH' : ∀ q, q ≠ a → q ≠ l1 → q ≠ l2 → upd (upd (upd (upd (upd H2 a (.ins c dx (fl2 v1 u2))) l1 (.lst [])) a (.ins c dx (fl3 v1 u2 (.ref l1)))) l2 (.lst [])) a (.ins c dx (flds v1 u2 l1 l2)) q = H2 q := fun q h1 h2 h3 => by
          rw [upd_ne h1, upd_ne h3, upd_ne h1, upd_ne h2, upd_ne h1]
        have nH : ∀ {q : Addr}, H2 q = none → q ≠ a → H q = none := fun {q} hq nq => by
          cases z : H q with
          | none => rfl
          | some y => rw [keep2 nq z] at hq; cases hq
        refine hden l1 l2 F2 _ ⟨x1.ff.trans x2.ff, fun b y e => ?_, fun b q => ?_, fun q y nq hq => ?_, ⟨v1, u2, [], [], upd_same, ?_, ?_, ?_, Ne.symm nl21, DD.mono x2.ff _ _ (DD.mono x1.ff _ _ g1), q2, .nil, .nil⟩, nH nl1' nl1a, nH nl2'' nl2a, fa2, ?_, x2.sub.free nl1', x2.sub.free nl2''⟩
        · have hb := x2.sub _ _ e
          rw [hH' b (ne_of_none e fa2) (ne_of_none hb nl1') (ne_of_none hb nl2'')]
          exact hb
        · rcases x2.new b q with h | h
          · exact (x1.new b h)
          · by_cases z : b = a
            · rw [z] at q; exact absurd fa2 q
            · exact .inr fun y e => h y (by rw [upd_ne z]; exact x1.hh _ _ e)
        · have hb := keep2 nq hq
          rw [hH' q nq (ne_of_none hb nl1') (ne_of_none hb nl2'')]
          exact hb
        · rw [hH' dx nax ndl1 ndl2]; exact hdx2
        · rw [upd_ne nl1a, upd_ne (Ne.symm nl21), upd_ne nl1a, upd_same]
        · rw [upd_ne nl2a, upd_same]
        · have := x2.own (p := dx) (o := .own a) (by rw [upd_ne nax]; exact x1.hh _ _ hdx) (x1.own hdx fdx)
          exact this
end
/-! ### a, b, c, d = e1, e2, e3, e4 -/
@[simp] def gPar4 (i j m o : Nat) (k l n q : Bool) (f1 f2 f3 f4 : Ev → Rs R) : Ev → RO := fun ρ => onR ρ ((f1 ρ).bind (keepR k)) fun a => onR ρ ((f2 ρ).bind (keepR l)) fun b => onR ρ ((f3 ρ).bind (keepR n)) fun c => onR ρ ((f4 ρ).bind (keepR q)) fun d => .nx ((((ρ.set i (some a)).set j (some b)).set m (some c)).set o (some d))
section
variable {X : Cx} {W : WX} {pos : Pos} (K : PySem.W.Frag)
theorem es_unp4 (i j m o : Nat) (k l n q : Bool) {x y z u : Str} {a b c d : Expr} {ta tb tc td : TE} {fa fb fc fd : Ev → Rs R} {px py pz pu pt pt2 : Pos} {kt k2 : Nat} (hN : X.N.Nodup) (ha : EE X W a ta fa) (hb : EE X W b tb fb) (hc3 : EE X W c tc fc) (hd4 : EE X W d td fd)
    (hi : X.N[i]? = some x := by rfl) (hj : X.N[j]? = some y := by rfl) (hm : X.N[m]? = some z := by rfl) (ho : X.N[o]? = some u := by rfl) (hx : Loc X.env.scope x := by first | exact .inl rfl | exact .inr rfl) (hy : Loc X.env.scope y := by first | exact .inl rfl | exact .inr rfl) (hz : Loc X.env.scope z := by first | exact .inl rfl | exact .inr rfl) (hu : Loc X.env.scope u := by first | exact .inl rfl | exact .inr rfl)
    (fx : X.fn x = true ∨ X.env.scope.names.lookup x = some .local := by first | exact .inl rfl | exact .inr rfl | assumption) (fy : X.fn y = true ∨ X.env.scope.names.lookup y = some .local := by first | exact .inl rfl | exact .inr rfl | assumption) (fz : X.fn z = true ∨ X.env.scope.names.lookup z = some .local := by first | exact .inl rfl | exact .inr rfl | assumption) (fu : X.fn u = true ∨ X.env.scope.names.lookup u = some .local := by first | exact .inl rfl | exact .inr rfl | assumption) (hc : X.calm = true := by rfl)
    (hs1 : starEach [a, b, c, d] X.env = (false, eval a X.env) :: starEach [b, c, d] X.env := by rfl) (hs2 : starEach [b, c, d] X.env = (false, eval b X.env) :: starEach [c, d] X.env := by rfl) (hs3 : starEach [c, d] X.env = (false, eval c X.env) :: starEach [d] X.env := by rfl) (hs4 : starEach [d] X.env = (false, eval d X.env) :: starEach [] X.env := by rfl)
    (hh1 : (assignEach [.Name x px, .Name y py, .Name z pz, .Name u pu] X.env).map (·.2) = assign (.Name x px) X.env :: (assignEach [.Name y py, .Name z pz, .Name u pu] X.env).map (·.2) := by rfl) (hh2 : (assignEach [.Name y py, .Name z pz, .Name u pu] X.env).map (·.2) = assign (.Name y py) X.env :: (assignEach [.Name z pz, .Name u pu] X.env).map (·.2) := by rfl)
    (hh3 : (assignEach [.Name z pz, .Name u pu] X.env).map (·.2) = assign (.Name z pz) X.env :: (assignEach [.Name u pu] X.env).map (·.2) := by rfl) (hh4 : (assignEach [.Name u pu] X.env).map (·.2) = assign (.Name u pu) X.env :: (assignEach [] X.env).map (·.2) := by rfl)
    (hn : (assignEach [.Name x px, .Name y py, .Name z pz, .Name u pu] X.env).length = 4 := by rfl) (hst : (assignEach [.Name x px, .Name y py, .Name z pz, .Name u pu] X.env).findIdx? (·.1) = none := by rfl)
    (hs : swapsWithSole [.Tuple [.Name x px, .Name y py, .Name z pz, .Name u pu] kt pt] (.Tuple [a, b, c, d] k2 pt2) pos.line X.env = pure false := by rfl) (hw : swappedStores [.Tuple [.Name x px, .Name y py, .Name z pz, .Name u pu] kt pt] (.Tuple [a, b, c, d] k2 pt2) X.env = pure none := by rfl)
    (h1 : (assignEach [.Tuple [.Name x px, .Name y py, .Name z pz, .Name u pu] kt pt] X.env).map (·.2) = [assign (.Tuple [.Name x px, .Name y py, .Name z pz, .Name u pu] kt pt) X.env] := by rfl) (hK : X.K = K := by rfl) :
    ES X W (.Assign [.Tuple [.Name x px, .Name y py, .Name z pz, .Name u pu] kt pt] (.Tuple [a, b, c, d] k2 pt2) pos) (tAsg (tTup (tCons ta (tCons tb (tCons tc (tCons td tNil))))) (gTup K 4 (gCons (gName i) (gCons (gName j) (gCons (gName m) (gCons (gName o) gNil)))))) (gPar4 i j m o k l n q fa fb fc fd) := by
  subst hK
  refine ⟨ps_asg (pe_tup (pa_cons ha.pe (pa_cons hb.pe (pa_cons hc3.pe (pa_cons hd4.pe pa_nil hs4) hs3) hs2) hs1)) (pg_tup hc (pgs_cons (pg_name hN hi hx fx) (pgs_cons (pg_name hN hj hy fy) (pgs_cons (pg_name hN hm hz fz) (pgs_cons (pg_name hN ho hu fu) pgs_nil hh4) hh3) hh2) hh1) hn hst) hs hw h1, fun {G H0 ρ σ F H} rel D P => ?_⟩
  refine ha.sound rel _ (postS_keep rel P fun r v F1 H1 e1 q1 P1 => hb.sound (rel.step e1) _ (postS_keep (rel.step e1) P1 fun r2 v2 F2 H2 e2 q2 P2 => hc3.sound ((rel.step e1).step e2) _ (postS_keep ((rel.step e1).step e2) P2 fun r3 v3 F3 H3 e3 q3 P3 => hd4.sound (((rel.step e1).step e2).step e3) _ (postS_keep (((rel.step e1).step e2).step e3) P3 fun r4 v4 F4 H4 e4 q4 P4 => ?_))))
  have R := Rel.setOwn (i := o) (Rel.setOwn (i := m) (Rel.setOwn (i := j) (rel.setOwn (i := i) e1 q1) e2 q2) e3 q3) e4 q4
  exact ⟨by show 4 ≤ sizeLine; decide, fun p np => ⟨p, _, rfl, SqT.of upd_same, rfl, v, _, rfl, v2, _, rfl, v3, _, rfl, v4, _, rfl, rfl, P4 _ _ _ (R.step (Ext.addH R.sub np))⟩⟩
end
end DN
/-! Den39: expressions that give an object to look at; its methods that only look, its len. -/
namespace DN
open PySem PySem.Spec PyProof.Rows L2
def PostV (K : PySem.W.Frag) (mg : Str → Option Value) (W : WX) (σ : L2.St) (F H : Hp) (Q : VK) : Rs R → Prop
  | .ok (.vie c n p) => ∀ a dx l1 l2 v1 v2 F' H', Ext F H F' H' → TripC K c → H' a = some (.ins c dx (flds v1 v2 l1 l2)) → DD F' v1 n → DD F' v2 p → Q (.ref a) H'
  | .err c => ∀ C H', mg c = some (.ref C) → Same H H' → W (.ref C) none σ H'
  | _ => False
structure EV (X : Cx) (W : WX) (e : Expr) (t : TE) (f : Ev → Rs R) : Prop where
  pe : PE X e t
  sound : ∀ {G H0 : Hp} {ρ : Ev} {σ : L2.St} {F H : Hp}, Rel X.K G H0 ρ σ F H → ∀ Q : VK, PostV X.K X.mg W σ F H Q (f ρ) → t σ H Q
@[simp] def fView (i : Nat) : Ev → Rs R := fun ρ => match ρ[i]? with
  | some (some (.obj _ c o)) => .ok (.vie c o.n o.p)
  | some (some (.vie c n p)) => .ok (.vie c n p)
  | _ => .bad
section
variable {X : Cx} {W : WX} {e : Expr} {te : TE} {f : Ev → Rs R} {pos p : Pos} {x : Str}
theorem ev_var (i : Nat) (hN : X.N[i]? = some x := by rfl) (hv : Vis X.env.scope x := by first | exact Or.inl rfl | exact Or.inr (Or.inl rfl) | exact Or.inr (Or.inr rfl)) (hd : (x == ("__debug__" : Str)) = false := by decide) (hcd : (x == ("__classdict__" : Str)) = false := by decide) :
    EV X W (.Name x pos) (tVar i) (fView i) where
  pe := pe_var hN hv hd hcd
  sound := fun {G H0 ρ σ F H} rel Q P => by
    unfold fView at P
    split at P
    · rename_i id c o h
      obtain ⟨w, a0, a, dx, l1, l2, rfl, hi, ⟨v1, v2, us1, us2, g1, g2, g3, g4, g5, g6, g7, g8, g9⟩, f1, f2, f3, f4⟩ := rel.at_ i _ h
      exact ⟨_, a0, P a dx l1 l2 v1 v2 F H (Ext.refl rel.sub) hi.2 g1 g6 g7⟩
    · rename_i c n d h
      obtain ⟨w, a0, tc, a, dx, l1, l2, v1, v2, rfl, h1, h2, h3⟩ := rel.at_ i _ h
      exact ⟨_, a0, P a dx l1 l2 v1 v2 F H (Ext.refl rel.sub) tc (rel.sub _ _ h1) h2 h3⟩
    · exact P.elim
/-- a new one -/
@[simp] def fNewV (f : Ev → Rs R) : Ev → Rs R := fun ρ => (f ρ).bind fun r => match r with
  | .obj _ c o => .ok (.vie c o.n o.p)
  | _ => .bad
theorem ev_new (he : EE X W e te f) : EV X W e te (fNewV f) where
  pe := he.pe
  sound := fun {G H0 ρ σ F H} rel Q P => by
    refine he.sound rel _ ?_
    unfold fNewV at P
    cases h : f ρ with
    | err c => rw [h] at P; exact P
    | bad => rw [h] at P; exact P
    | ok r =>
      rw [h] at P
      cases r with
      | obj id c o =>
        intro v F' H' ex q
        obtain ⟨⟨a, dx, l1, l2, rfl, hi, ⟨v1, v2, us1, us2, g1, g2, g3, g4, g5, g6, g7, g8, g9⟩, f1, f2, f3, f4⟩, _⟩ := q
        exact P a dx l1 l2 v1 v2 F' H' ex hi.2 g1 g6 g7
      | _ => exact P.elim
/-! ### the part that stays, with and without the instance -/
theorem view_in {F H : Hp} {a c dx : Addr} {fs : List (Str × V)} (s : Same F H) (h : H a = some (.ins c dx fs)) : Same F (upd F a (.ins c dx fs)) ∧ Same (upd F a (.ins c dx fs)) H := by
  refine ⟨fun b x e => ?_, fun b x e => ?_⟩
  · by_cases z : b = a
    · subst z; rw [upd_same, ← h]; exact s _ _ e
    · rw [upd_ne z]; exact e
  · by_cases z : b = a
    · subst z; rw [upd_same] at e; rw [h]; exact e
    · rw [upd_ne z] at e; exact s _ _ e
theorem view_out {F H F' H' : Hp} {a c dx : Addr} {fs : List (Str × V)} (s : Same F H) (h : H a = some (.ins c dx fs)) (e : Ext (upd F a (.ins c dx fs)) H F' H') :
    ∃ F2, Ext F H F2 H' ∧ (∀ v d, DD F' v d → DD F2 v d) ∧ (∀ vs ds, DDs F' vs ds → DDs F2 vs ds) ∧ ∀ b, F' b = none → F2 b = none := by
  have fa : F' a = some (.ins c dx fs) := e.ff _ _ upd_same
  cases z : F a with
  | none =>
    refine ⟨ers F' a, ⟨s, fun b x q => ?_, e.hh, (ers_sub F' a).trans e.sub, fun b q => ?_⟩, fun v d q => DD.ers fa _ _ q, fun v d q => DDs.ers fa _ _ q, fun b q => ?_⟩
    · rw [ers_ne (ne_of_none q z)]; exact e.ff _ _ ((same_new z) _ _ q)
    · have nb : b ≠ a := fun y => by subst y; exact q (by unfold ers; rw [if_pos rfl])
      rw [ers_ne nb] at q
      rcases e.new b q with n | n
      · rw [upd_ne nb] at n; exact .inl n
      · exact .inr n
    · unfold ers
      split
      · rfl
      · exact q
  | some o =>
    have ho : o = .ins c dx fs := by
      have := s _ _ z
      rw [h] at this
      exact (Option.some.inj this).symm
    subst ho
    have hu : upd F a (.ins c dx fs) = F := by
      funext b
      by_cases y : b = a
      · subst y; rw [upd_same, z]
      · rw [upd_ne y]
    rw [hu] at e
    exact ⟨F', e, fun _ _ q => q, fun _ _ q => q, fun _ q => q⟩
/-- a def asked over an object that it only looks at -/
theorem sp_view {K : PySem.W.Frag} {mg : Str → Option Value} {σ : L2.St} {F H : Hp} {Q : VK} {den : List R → Rs R} {a c dx l1 l2 : Addr} {v1 v2 : V} {n d : PyData} (s : Same F H) (tc : TripC K c) (h : H a = some (.ins c dx (flds v1 v2 l1 l2))) (h1 : DD F v1 n) (h2 : DD F v2 d)
    (P : Post K mg W σ F H Q (plainR (den [.vie c n d]))) : spD K mg 1 den [.ref a] H Q (WE W σ) := by
  obtain ⟨s1, s2⟩ := view_in s h
  refine ⟨rfl, [.vie c n d], _, s2, .cons ⟨⟨tc, a, dx, l1, l2, v1, v2, rfl, upd_same, DD.mono s1 _ _ h1, DD.mono s1 _ _ h2⟩, rfl⟩ .nil, ?_⟩
  cases hdn : den [.vie c n d] with
  | err e => rw [hdn] at P; exact P
  | bad => rw [hdn] at P; exact P
  | ok r =>
    rw [hdn] at P
    cases r with
    | val d =>
      intro v F' H' e q
      obtain ⟨F2, e2, k1, _⟩ := view_out s h e
      exact P v _ H' e2 (.val (k1 _ _ q.1))
    | own xs =>
      intro v F' H' e q
      obtain ⟨F2, e2, k1, k2, k3⟩ := view_out s h e
      obtain ⟨⟨p, us, rfl, b1, b2, b3⟩, fr⟩ := q
      exact P _ _ H' e2 ⟨⟨p, us, rfl, b1, k3 _ b2, k2 _ _ b3⟩, fr⟩
    | _ => exact P.elim
/-! ### e.m() that only looks -/
@[simp] def fVM (fv : Ev → Rs R) (C : Addr) (den : List R → Rs R) : Ev → Rs R := fun ρ => (fv ρ).bind fun r => match r with
  | .vie c n d => if c = C then plainR (den [.vie c n d]) else .bad
  | _ => .bad
theorem ek_vm {K : PySem.W.Frag} {mg : Str → Option Value} {m : Str} {apos : Pos} {l : Nat} {C g : Addr} {fd : FuncData} {ps : List Str} {den : List R → Rs R} {fv : Ev → Rs R} (he : EV X W e te fv) (hm : Meth K C m g) (Fn : FnOk X.prog X.w K mg X.base (L2.CX X.prog X.w) l g fd ps (spD K mg 1 den)) (hr : Room l X.A) (hb : Binds K fd ps [])
    (hC : TripC K C) (hno : ∀ v1 v2 l1 l2, (flds v1 v2 l1 l2).lookup m = none) (tk : Takes X W) {pl : Sem Bool}
    (h3 : eval (.Call (.Attribute e m apos) [] [] pos) X.env = (do
      let u ← eval e X.env
      standAt apos.atName
      let (g, one) ← holding [u] (getMethod u m pl)
      callWith pos g one (backTo pos (starEach [] X.env)) (backToKw pos (keywordEach [] X.env))) := by rfl) (hK : X.K = K := by rfl) (hmg : X.mg = mg := by rfl) :
    EE X W (.Call (.Attribute e m apos) [] [] pos) (tMethZ C m (spD K mg 1 den) (WE W) te tNil) (fVM fv C den) := by
  subst hK hmg
  exact ⟨pe_methZ0 (pl := pl) he.pe hC.cls hm Fn hr hb (fun σ => passAt tk σ) h3, fun {G H0 ρ σ F H} rel Q P => by
    refine he.sound rel _ ?_
    unfold fVM at P
    cases h : fv ρ with
    | err c => rw [h] at P; exact P
    | bad => rw [h] at P; exact P
    | ok r =>
      rw [h] at P
      cases r with
      | vie c n d =>
        replace P : Post X.K X.mg W σ F H Q (if c = C then plainR (den [.vie c n d]) else .bad) := P
        split at P
        · rename_i hc
          subst hc
          intro a dx l1 l2 v1 v2 F' H' ex tc ha h1 h2
          exact ⟨a, dx, _, rfl, ha, hno .., sp_view ex.sub tc ha h1 h2 (post_step P ex)⟩
        · exact P.elim
      | _ => exact P.elim⟩
/-! ### f(e), f only looks -/
@[simp] def fVC (fv : Ev → Rs R) (den : List R → Rs R) : Ev → Rs R := fun ρ => (fv ρ).bind fun r => match r with
  | .vie c n d => plainR (den [.vie c n d])
  | _ => .bad
theorem ek_vc {K : PySem.W.Frag} {mg : Str → Option Value} {l : Nat} {fn : Addr} {fd : FuncData} {ps : List Str} {den : List R → Rs R} {fv : Ev → Rs R} (he : EV X W e te fv) (Fn : FnOk X.prog X.w K mg X.base (L2.CX X.prog X.w) l fn fd ps (spD K mg 1 den)) (hr : Room l X.A) (hm : mg x = some (.ref fn))
    (hk : PySem.W.keepIn K (.ref fn) = true) (hb : Binds K fd ps []) (tk : Takes X W) (hg : Gl X x := by rfl)
    (hdb : (x == ("__debug__" : Str)) = false := by decide) (hs : starEach [e] X.env = (false, eval e X.env) :: starEach [] X.env := by rfl) (hpl : (backTo pos (starEach [] X.env)).any (·.1) = false := by rfl) (hK : X.K = K := by rfl) (hmg : X.mg = mg := by rfl) :
    EE X W (.Call (.Name x p) [e] [] pos) (tCallS (spD K mg 1 den) (WE W) (tCons te tNil)) (fVC fv den) := by
  subst hK hmg
  exact ⟨pe_callS Fn hr hg hm hk hb (fun σ => passAt tk σ) (pa_cons he.pe pa_nil hs) hdb hs hpl, fun {G H0 ρ σ F H} rel Q P => by
    refine he.sound rel _ ?_
    unfold fVC at P
    cases h : fv ρ with
    | err c => rw [h] at P; exact P
    | bad => rw [h] at P; exact P
    | ok r =>
      rw [h] at P
      cases r with
      | vie c n d =>
        replace P : Post X.K X.mg W σ F H Q (plainR (den [.vie c n d])) := P
        intro a dx l1 l2 v1 v2 F' H' ex tc ha h1 h2
        exact sp_view ex.sub tc ha h1 h2 (post_step P ex)
      | _ => exact P.elim⟩
/-! ### len(e) -/
theorem pass0X : Passes (L2.CX X.prog X.w) X (fun _ _ _ => False) := fun pins σ H s z s' I h => by
  obtain ⟨_, _, _, _, _, _, _, _, _, _, _, _, q⟩ := h
  exact q.elim
@[simp] def fVLen (fv : Ev → Rs R) (C : Addr) (den : List R → Rs R) : Ev → Rs R := fun ρ => (fv ρ).bind fun r => match r with
  | .vie c n d => if c = C then (match den [.vie c n d] with
    | .ok (.val (.int k)) => if 0 ≤ k ∧ k ≤ 1000000 then .ok (.val (.int k)) else .bad
    | _ => .bad) else .bad
  | _ => .bad
theorem ek_vlen {K : PySem.W.Frag} {mg : Str → Option Value} {l : Nat} {C g : Addr} {fd : FuncData} {ps : List Str} {den : List R → Rs R} {fv : Ev → Rs R} (he : EV X W e te fv) (hm : Meth K C "__len__" g) (Fn : FnOk X.prog X.w K mg X.base (L2.CX X.prog X.w) l g fd ps (spD K mg 1 den)) (hr : Room (l + 1) X.A) (hb : Binds K fd ps []) (hml : mg "len" = none) (hg : Gl X "len" := by rfl)
    (hs : starEach [e] X.env = (false, eval e X.env) :: starEach [] X.env := by rfl) (hpl : (backTo pos (starEach [] X.env)).any (·.1) = false := by rfl) (hK : X.K = K := by rfl) (hmg : X.mg = mg := by rfl) :
    EE X W (.Call (.Name "len" p) [e] [] pos) (tCB (rLenO C (spD K mg 1 den) (fun _ _ _ => False)) (tCons te tNil)) (fVLen fv C den) := by
  subst hK hmg
  exact ⟨pe_callB (call_lenO hm Fn hr hb pass0X) hg hml PySem.boot_len (pa_cons he.pe pa_nil hs) (by decide) (by decide) hs hpl, fun {G H0 ρ σ F H} rel Q P => by
    refine he.sound rel _ ?_
    unfold fVLen at P
    cases h : fv ρ with
    | err c => rw [h] at P; exact P
    | bad => rw [h] at P; exact P
    | ok r =>
      rw [h] at P
      cases r with
      | vie c n d =>
        replace P : Post X.K X.mg W σ F H Q (if c = C then (match den [.vie c n d] with
          | .ok (.val (.int k)) => if 0 ≤ k ∧ k ≤ 1000000 then .ok (.val (.int k)) else .bad
          | _ => .bad) else .bad) := P
        split at P
        · rename_i hc
          subst hc
          split at P
          · rename_i k hdn
            split at P
            · rename_i hk
              intro a dx l1 l2 v1 v2 F' H' ex tc ha h1 h2
              obtain ⟨s1, s2⟩ := view_in ex.sub ha
              refine ⟨a, dx, _, rfl, ha, rfl, [.vie c n d], _, s2, .cons ⟨⟨tc, a, dx, l1, l2, v1, v2, rfl, upd_same, DD.mono s1 _ _ h1, DD.mono s1 _ _ h2⟩, rfl⟩ .nil, ?_⟩
              rw [hdn]
              intro v F2 H2 e2 q
              obtain ⟨q, _⟩ := q
              cases q
              exact ⟨k, rfl, hk.1, by omega, P _ F' H2 (ex.trans (Ext.more ex.sub e2.hh)) (.val (.int _))⟩
            · exact P.elim
          · exact P.elim
        · exact P.elim
      | _ => exact P.elim⟩
end
end DN
/-! Den40: tests with effect. -/
namespace DN
open PySem PySem.Spec PyProof.Rows L2
inductive RT where
  | ok (b : Bool) (ρ : Ev)
  | err (c : Str) (ρ : Ev)
  | bad
def RT.then (m : RT) (k : Bool → Ev → RT) : RT := match m with
  | .ok b ρ => k b ρ
  | .err c ρ => .err c ρ
  | .bad => .bad
@[simp] theorem thenT_ok (d : Bool) (ρ : Ev) (k : Bool → Ev → RT) : (RT.ok d ρ).then k = k d ρ := rfl
@[simp] theorem thenT_err (c : Str) (ρ : Ev) (k : Bool → Ev → RT) : (RT.err c ρ).then k = .err c ρ := rfl
@[simp] theorem thenT_bad (k : Bool → Ev → RT) : RT.bad.then k = .bad := rfl
def PostT (K : PySem.W.Frag) (mg : Str → Option Value) (W : WX) (σ : L2.St) (H0 F : Hp) (Q : Bool → Hp → Prop) : RT → Prop
  | .ok b ρ' => ∀ F' H', Rel K F H0 ρ' σ F' H' → Q b H'
  | .err c ρ' => ∀ C F' H', mg c = some (.ref C) → Rel K F H0 ρ' σ F' H' → W (.ref C) none σ H'
  | .bad => False
structure TX (X : Cx) (W : WX) (e : Expr) (t : TT) (f : Ev → RT) : Prop where
  pt : PT X e t
  sound : ∀ {G H0 : Hp} {ρ : Ev} {σ : L2.St} {F H : Hp}, Rel X.K G H0 ρ σ F H → ∀ Q : Bool → Hp → Prop, PostT X.K X.mg W σ H0 F Q (f ρ) → t σ H Q
structure TW (X : Cx) (W : WX) (e : Expr) (t : TT) (f : Ev → RT) : Prop where
  pw : PW X e t
  sound : ∀ {G H0 : Hp} {ρ : Ev} {σ : L2.St} {F H : Hp}, Rel X.K G H0 ρ σ F H → ∀ Q : Bool → Hp → Prop, PostT X.K X.mg W σ H0 F Q (f ρ) → t σ H Q
def liftT (ρ : Ev) : Rs Bool → RT
  | .ok b => .ok b ρ
  | .err c => .err c ρ
  | .bad => .bad
@[simp] theorem liftT_ok (ρ : Ev) (d : Bool) : liftT ρ (.ok d) = .ok d ρ := rfl
@[simp] theorem liftT_err (ρ : Ev) (c : Str) : liftT ρ (.err c) = .err c ρ := rfl
@[simp] theorem liftT_bad (ρ : Ev) : liftT ρ .bad = .bad := rfl
@[simp] def tPure (f : Ev → Rs Bool) : Ev → RT := fun ρ => liftT ρ (f ρ)
@[simp] def tNeX (f : Ev → RX) (g : Ev → Rs R) : Ev → RT := fun ρ => match f ρ with
  | .ok d ρ' => match (g ρ').bind R.d with
    | .ok d2 => match eqD d d2 with
      | .ok b => .ok (!b) ρ'
      | _ => .bad
    | .err c => .err c ρ'
    | .bad => .bad
  | .err c ρ' => .err c ρ'
  | .bad => .bad
@[simp] def tOrX (f g : Ev → RT) : Ev → RT := fun ρ => (f ρ).then fun b ρ' => if b = true then .ok true ρ' else g ρ'
@[simp] def tAndX (f g : Ev → RT) : Ev → RT := fun ρ => (f ρ).then fun b ρ' => if b = true then g ρ' else .ok false ρ'
@[simp] def gIfX (f : Ev → RT) (ga gb : Ev → RO) : Ev → RO := fun ρ => match f ρ with
  | .ok b ρ' => if b = true then ga ρ' else gb ρ'
  | .err c ρ' => .exc c ρ'
  | .bad => .bad
section
variable {X : Cx} {W : WX} {a b c e e2 : Expr} {te te2 : TE} {tA tB' : TT} {fA fB : Ev → RT} {f : Ev → RX} {g : Ev → Rs R} {pos : Pos} {rest : List Expr}
theorem tx_et {fb : Ev → Rs Bool} (h : ET X W a tA fb) : TX X W a tA (tPure fb) where
  pt := h.pt
  sound := fun {G H0 ρ σ F H} rel Q P => by
    refine h.sound rel _ ?_
    unfold tPure at P
    cases hf : fb ρ with
    | ok r => rw [hf] at P; exact fun F' H' e => P F' H' (rel.re.step e)
    | err c => rw [hf] at P; exact fun C H' m s => P C F H' m (rel.re.step (Ext.more rel.sub s))
    | bad => rw [hf] at P; exact P
theorem postT_re {K : PySem.W.Frag} {mg : Str → Option Value} {H0 F F' H' : Hp} {σ : L2.St} {Q : Bool → Hp → Prop} {m : RT} (b : Base F H0 F' H') (P : PostT K mg W σ H0 F Q m) : PostT K mg W σ H0 F' Q m := by
  cases m with
  | ok d ρ' => exact fun F2 H2 r => P F2 H2 (r.back b)
  | err c ρ' => exact fun C F2 H2 m r => P C F2 H2 m (r.back b)
  | bad => exact P
theorem postT_then {K : PySem.W.Frag} {mg : Str → Option Value} {H0 F : Hp} {σ : L2.St} {Q Q1 : Bool → Hp → Prop} {m : RT} {k : Bool → Ev → RT} (P : PostT K mg W σ H0 F Q (m.then k))
    (h : ∀ b ρ' F' H', Rel K F H0 ρ' σ F' H' → PostT K mg W σ H0 F' Q (k b ρ') → Q1 b H') : PostT K mg W σ H0 F Q1 m := by
  cases m with
  | ok d ρ' => exact fun F' H' r => h d ρ' F' H' r (postT_re r.base P)
  | err c ρ' => exact P
  | bad => exact P
theorem tx_ne (hu : X.A.units + 64 < cLine) (h1 : EX X W e te f) (h2 : EE X W e2 te2 g) : TX X W (.Compare e [.NotEq] [e2] pos) (tTest (tOp (rNeD X.K) te te2)) (tNeX f g) where
  pt := pt_cmpR (op_neD hu) h1.pe h2.pe (nomark _)
  sound := fun {G H0 ρ σ F H} rel Q P => by
    refine h1.sound rel _ ?_
    unfold tNeX at P
    cases hf : f ρ with
    | err c ρ' => rw [hf] at P; exact P
    | bad => rw [hf] at P; exact P
    | ok d ρ' =>
      rw [hf] at P
      intro v F' H' r q
      refine h2.sound r _ ?_
      cases hg : g ρ' with
      | err c => simp only [hg, bind_err] at P; exact fun C H2 m s => P C F' H2 m (r.step (Ext.more r.sub s))
      | bad => simp only [hg, bind_bad] at P; exact P
      | ok y =>
        intro v2 F2 H2 e2 q2
        cases hd : y.d with
        | err c => exact absurd hd (by cases y <;> simp [R.d])
        | bad => simp only [hg, bind_ok, hd] at P; exact P.elim
        | ok d2 =>
          simp only [hg, bind_ok, hd] at P
          obtain ⟨F3, e3, _, q3⟩ := q2.data e2 hd
          unfold eqD at P
          by_cases hq : (SeqAt.shaped d && SeqAt.shaped d2) = true
          · rw [if_pos hq] at P
            have h' := Bool.and_eq_true_iff.mp hq
            exact ⟨d, d2, DD.dp e3.sub _ _ (DD.mono e3.ff _ _ q), DD.dp e3.sub _ _ q3, h'.1, h'.2, !PyData.eqv d d2, rfl, P F3 H2 (r.step e3)⟩
          · rw [if_neg hq] at P; exact P.elim
theorem tw_or1 (h : TX X W a tA fA) : TW X W (.BoolOp .Or [a] pos) tA fA := ⟨pw_or1 h.pt, h.sound⟩
theorem tw_and1 (h : TX X W a tA fA) : TW X W (.BoolOp .And [a] pos) tA fA := ⟨pw_and1 h.pt, h.sound⟩
theorem tw_or (h : TX X W a tA fA) (g : TW X W (.BoolOp .Or (b :: rest) pos) tB' fB) : TW X W (.BoolOp .Or (a :: b :: rest) pos) (tOr tA tB') (tOrX fA fB) where
  pw := pw_or h.pt g.pw
  sound := fun {G H0 ρ σ F H} rel Q P => h.sound rel _ (postT_then P fun b ρ' F1 H1 r P1 => by
    cases b with
    | true =>
      rw [if_pos rfl] at P1 ⊢
      exact P1 _ _ r.re
    | false =>
      rw [if_neg (by decide)] at P1 ⊢
      exact g.sound r _ P1)
theorem tw_and (h : TX X W a tA fA) (g : TW X W (.BoolOp .And (b :: rest) pos) tB' fB) : TW X W (.BoolOp .And (a :: b :: rest) pos) (tAnd tA tB') (tAndX fA fB) where
  pw := pw_and h.pt g.pw
  sound := fun {G H0 ρ σ F H} rel Q P => h.sound rel _ (postT_then P fun b ρ' F1 H1 r P1 => by
    cases b with
    | true =>
      rw [if_pos rfl] at P1 ⊢
      exact g.sound r _ P1
    | false =>
      rw [if_neg (by decide)] at P1 ⊢
      exact P1 _ _ r.re)
theorem TW.tx (h : TW X W e tA fA) : TX X W e tA fA := ⟨h.pw.pt, h.sound⟩
theorem es_ifX {as bs : List Stmt} {ta tb : TS} {ga gb : Ev → RO} (hc : TX X W c tA fA) (ha : EB X W as ta ga) (hb : EB X W bs tb gb) : ES X W (.If c as bs pos) (tIfS tA ta tb) (gIfX fA ga gb) where
  ps := ps_if hc.pt ha.ps hb.ps
  sound := fun {G H0 ρ σ F H} rel D P => by
    refine hc.sound rel _ ?_
    unfold gIfX at P
    cases hf : fA ρ with
    | err c ρ' => rw [hf] at P; exact fun C F' H' m r => P C σ F' H' m (r.back rel.base)
    | bad => rw [hf] at P; exact P
    | ok b ρ' =>
      rw [hf] at P
      intro F' H' r
      cases b with
      | true =>
        simp only [if_true] at P
        rw [if_pos rfl]
        exact ha.sound (r.back rel.base) D P
      | false =>
        simp only [Bool.false_eq_true, if_false] at P
        rw [if_neg (by decide)]
        exact hb.sound (r.back rel.base) D P
end
end DN
/-! Den41: lists of ours under a second name: used, kept = (done, undone) if .. else (undone, done), and what is done with them. -/
namespace DN
open PySem PySem.Spec PyProof.Rows L2
/-- a slot of which nothing is known -/
theorem Rel.blank {K : PySem.W.Frag} {G H0 F H : Hp} {ρ : Ev} {σ : L2.St} {i : Nat} {x : Option V} (h : Rel K G H0 ρ σ F H) : Rel K G H0 (ρ.set i none) (σ.set i x) F H where
  base := h.base
  len := by simp [h.len]
  at_ := fun j x e => by
    by_cases hj : i = j
    · subst hj
      rw [List.getElem?_set] at e
      simp at e
    · rw [List.getElem?_set_ne hj] at e
      obtain ⟨w, a, b⟩ := h.at_ j x e
      exact ⟨w, by rw [List.getElem?_set_ne hj]; exact a, b⟩
  frs := fun j x w p e s o => by
    by_cases hj : i = j
    · subst hj
      rw [List.getElem?_set] at e
      simp at e
    · rw [List.getElem?_set_ne hj] at e s
      exact h.frs j x w p e s o
  apart := fun j k x y w1 w2 p e1 e2 s1 s2 o1 o2 => by
    have key : ∀ {m : Nat} {z : R}, (ρ.set i none)[m]? = some (some z) → i ≠ m := fun {m z} e hm => by
      subst hm
      rw [List.getElem?_set] at e
      simp at e
    have k1 := key e1
    have k2 := key e2
    rw [List.getElem?_set_ne k1] at e1 s1
    rw [List.getElem?_set_ne k2] at e2 s2
    exact h.apart j k x y w1 w2 p e1 e2 s1 s2 o1 o2
def gAlias2 (iN j m : Nat) (f : Ev → RX) (fT fN : Ev → Rs R) (ρ1 : Ev) : RO := match f ρ1 with
  | .ok d ρ2 => (match ρ2[j]?, ρ2[m]?, ρ2[iN]? with
    | some (some (.own xs)), some (some (.own ys)), some (some (.val y)) => (match eqD (.list xs) (.list []) with
      | .ok b => (match (if b = true then fT ρ2 else fN ρ2) with
        | .ok (.val d2) => (match eqD d d2 with
          | .ok b2 => if b2 = true then (if b = true then .nx ρ2 else (match xs[xs.length - 1]? with
              | some z => if ys.length < lim then .nx (((ρ2.set m (some (.own (ys ++ [y])))).set j (some (.own xs.dropLast))).set iN (some (.val z))) else .bad
              | none => .bad)) else .ret (.val (.bool false))
          | _ => .bad)
        | _ => .bad)
      | _ => .bad)
    | _, _, _ => .bad)
  | .err c ρ2 => .exc c ρ2
  | .bad => .bad
def gAlias (iD iU iu ik iN : Nat) (ft : Ev → Rs Bool) (f : Ev → RX) (fT fN : Ev → Rs R) : Ev → RO := fun ρ => match ρ[iD]?, ρ[iU]? with
  | some (some (.own _)), some (some (.own _)) => (match ft ρ with
    | .ok b => if iu < ρ.length ∧ ik < ρ.length then (if b = true then gAlias2 iN iD iU f fT fN ((ρ.set iu none).set ik none) else gAlias2 iN iU iD f fT fN ((ρ.set iu none).set ik none)) else .bad
    | _ => .bad)
  | _, _ => .bad
section
variable {X : Cx} {W : WX} {K : PySem.W.Frag} {mg : Str → Option Value}
def tAlias2 (K : PySem.W.Frag) (iu ik iN : Nat) (te tT tN : TE) : TS :=
  tSeq (tIfS (tTest (tOp (rNeD K) te (tIf (tTest (tOp (rEqD K) (tVar iu) (tLst tNil))) tT tN))) (tRet (tC (.bl false))) tNext)
    (tIfS (tTest (tOp (rNeD K) (tVar iu) (tLst tNil))) (tSeq (tDrop (tBM K "list" rAppend (tVar ik) (tCons (tVar iN) tNil))) (tAsg (tBM0 K "list" rPop (tVar iu)) (gName iN))) tNext)
theorem alias2 {G H0 F H : Hp} {ρ : Ev} {σ : L2.St} {iu ik iN j m : Nat} {e eT eN : Expr} {te tT tN : TE} {f : Ev → RX} {fT fN : Ev → Rs R} {D : Ends} (hx : EX X W e te f) (hT : EE X W eT tT fT) (hN : EE X W eN tN fN) (hu : σ[iu]? = σ[j]?) (hk : σ[ik]? = σ[m]?)
    (njm : j ≠ m) (njN : j ≠ iN) (nmN : m ≠ iN) (rel : Rel X.K G H0 ρ σ F H) (P : PostS X.K X.mg W G H0 D (gAlias2 iN j m f fT fN ρ)) : tAlias2 X.K iu ik iN te tT tN D σ H := by
  unfold gAlias2 at P
  refine hx.sound rel _ ?_
  cases hf : f ρ with
  | bad => rw [hf] at P; exact P
  | err c ρ2 => rw [hf] at P; exact fun C F' H' mm r => P C σ F' H' mm (r.back rel.base)
  | ok d ρ2 =>
    rw [hf] at P
    dsimp only at P
    intro v F1 H1 r1 q1
    have rel1 : Rel X.K G H0 ρ2 σ F1 H1 := r1.back rel.base
    split at P
    · rename_i xs ys y hj hm hy
      split at P
      · rename_i b hb
        obtain ⟨vj, sj, lj, us, rfl, gj, fj, dj⟩ := rel1.at_ j _ hj
        obtain ⟨vm, sm, lm, ws, rfl, gm, fm, dm⟩ := rel1.at_ m _ hm
        have hb' : (SeqAt.shaped (.list xs) && SeqAt.shaped (.list [])) = true ∧ PyData.eqv (.list xs) (.list []) = b := by
          unfold eqD at hb
          split at hb
          · rename_i z; exact ⟨z, Rs.ok.inj hb⟩
          · cases hb
        have sh := Bool.and_eq_true_iff.mp hb'.1
        refine ⟨.ref lj, hu.trans sj, by show 0 ≤ sizeLine; decide, fun p np => ?_⟩
        have xp : Ext F1 H1 F1 (upd H1 p (.lst [])) := Ext.addH rel1.sub np
        have smp : Same H1 (upd H1 p (.lst [])) := xp.hh
        refine ⟨.list xs, .list [], .lst (SqL.of (smp _ _ gj)) (DDs.dp (rel1.sub.trans smp) _ _ dj), .lst (SqL.of upd_same) .nil, sh.1, sh.2, b, by rw [hb'.2], ?_⟩
        have rel2 := rel1.step xp
        have step : ∀ {d2 : PyData} {v2 : V} {F2 H2 : Hp}, Ext F1 (upd H1 p (.lst [])) F2 H2 → DD F2 v2 d2 → PostS X.K X.mg W G H0 D (match eqD d d2 with
            | .ok b2 => if b2 = true then (if b = true then .nx ρ2 else (match xs[xs.length - 1]? with
                | some z => if ys.length < lim then .nx (((ρ2.set m (some (.own (ys ++ [y])))).set j (some (.own xs.dropLast))).set iN (some (.val z))) else .bad
                | none => .bad)) else .ret (.val (.bool false))
            | _ => .bad) → rNeD X.K v v2 H2 fun r H3 => ∃ c, r = .bl c ∧ (if c = true then tRet (tC (.bl false)) { D with nx := fun σ H => tIfS (tTest (tOp (rNeD X.K) (tVar iu) (tLst tNil))) (tSeq (tDrop (tBM X.K "list" rAppend (tVar ik) (tCons (tVar iN) tNil))) (tAsg (tBM0 X.K "list" rPop (tVar iu)) (gName iN))) tNext D σ H } σ H3 else tNext { D with nx := fun σ H => tIfS (tTest (tOp (rNeD X.K) (tVar iu) (tLst tNil))) (tSeq (tDrop (tBM X.K "list" rAppend (tVar ik) (tCons (tVar iN) tNil))) (tAsg (tBM0 X.K "list" rPop (tVar iu)) (gName iN))) tNext D σ H } σ H3) := fun {d2 v2 F2 H2} x2 q2 P2 => by
          split at P2
          · rename_i b2 hb2
            unfold eqD at hb2
            split at hb2
            · rename_i hsh
              have s2 := Bool.and_eq_true_iff.mp hsh
              cases hb2
              refine ⟨d, d2, DD.dp x2.sub _ _ (DD.mono x2.ff _ _ q1), DD.dp x2.sub _ _ q2, s2.1, s2.2, !PyData.eqv d d2, rfl, ?_⟩
              have rel3 := rel2.step x2
              cases hq : PyData.eqv d d2 with
              | false =>
                rw [hq] at P2
                simp only [Bool.false_eq_true, if_false] at P2
                exact P2 _ F2 H2 rel3.base (.val (.bl false))
              | true =>
                rw [hq] at P2
                simp only [if_true] at P2
                have gj3 : H2 lj = some (.lst us) := x2.hh _ _ (smp _ _ gj)
                have gm3 : H2 lm = some (.lst ws) := x2.hh _ _ (smp _ _ gm)
                refine ⟨.ref lj, hu.trans sj, by show 0 ≤ sizeLine; decide, fun p3 np3 => ?_⟩
                have x3 : Ext F2 H2 F2 (upd H2 p3 (.lst [])) := Ext.addH rel3.sub np3
                have rel4 := rel3.step x3
                have dj3 := DDs.mono x2.ff _ _ dj
                have dm3 := DDs.mono x2.ff _ _ dm
                refine ⟨.list xs, .list [], .lst (SqL.of (x3.hh _ _ gj3)) (DDs.dp x3.sub _ _ dj3), .lst (SqL.of upd_same) .nil, sh.1, sh.2, !b, by rw [hb'.2], ?_⟩
                cases b with
                | true =>
                  simp only [if_true] at P2
                  exact P2 σ F2 _ rel4
                | false =>
                  simp only [Bool.false_eq_true, if_false] at P2
                  split at P2
                  · rename_i z hz
                    split at P2
                    · rename_i hlim
                      obtain ⟨vy, sy, qy⟩ := rel4.at_ iN _ hy
                      obtain ⟨vz, hvz, qz⟩ := dj3.get hz
                      have hgm := x3.hh _ _ gm3
                      have hgj := x3.hh _ _ gj3
                      obtain ⟨vj', sj', lj', us', e1, _, fj', _⟩ := rel4.at_ j _ hj
                      rw [sj] at sj'; cases sj'; cases e1
                      obtain ⟨vm', sm', lm', ws', e1, _, fm', _⟩ := rel4.at_ m _ hm
                      rw [sm] at sm'; cases sm'; cases e1
                      have nl : lj ≠ lm := fun z => njm (rel4.apart j m _ _ _ _ lj hj hm sj sm rfl (by rw [z]; rfl))
                      have rel5 := rel4.mut (r' := .own (ys ++ [y])) (o := .lst (ws ++ [vy])) hm rfl sm fm' ⟨lm, _, rfl, upd_same, fm', dm3.app (.cons qy .nil)⟩ rfl
                      have hj5 : (ρ2.set m (some (.own (ys ++ [y]))))[j]? = some (some (.own xs)) := by rw [List.getElem?_set_ne (Ne.symm njm)]; exact hj
                      have gj5 : upd (upd H2 p3 (.lst [])) lm (.lst (ws ++ [vy])) lj = some (.lst us) := by rw [upd_ne nl]; exact hgj
                      have rel6 := rel5.mut (r' := .own xs.dropLast) (o := .lst us.dropLast) hj5 rfl sj fj' ⟨lj, _, rfl, upd_same, fj', dj3.dropLast⟩ rfl
                      refine ⟨.ref lm, hk.trans sm, .inl ⟨rfl, ws, SqL.of hgm⟩, ⟨vy, sy, lm, ws, vy, rfl, rfl, hgm, by rw [dm3.len]; exact Nat.lt_trans hlim lim_lt, ?_⟩⟩
                      refine ⟨.ref lj, hu.trans sj, .inl ⟨rfl, us, SqL.of gj5⟩, lj, us, vz, rfl, rfl, gj5, by rw [dj3.len]; exact hvz, ?_⟩
                      exact P2 _ F2 _ (rel6.setVal (i := iN) (r := .val z) qz rfl)
                    · exact P2.elim
                  · exact P2.elim
            · cases hb2
          · exact P2.elim
        cases b with
        | true =>
          simp only [if_true] at P ⊢
          refine hT.sound rel2 _ ?_
          split at P
          · rename_i d2 hd2
            rw [hd2]
            exact fun v2 F2 H2 x2 q2 => step x2 q2.1 P
          · exact P.elim
        | false =>
          simp only [Bool.false_eq_true, if_false] at P ⊢
          refine hN.sound rel2 _ ?_
          split at P
          · rename_i d2 hd2
            rw [hd2]
            exact fun v2 F2 H2 x2 q2 => step x2 q2.1 P
          · exact P.elim
      · exact P.elim
    · exact P.elim
theorem eb_alias (iD iU iu ik iN : Nat) {xD xU xu xk xN : Str} {c e eT eN : Expr} {tA : TT} {te tT tN : TE} {ft : Ev → Rs Bool} {f : Ev → RX} {fT fN : Ev → Rs R} {d1 d2 d3 d4 p1 p2 p3 p4 p5 p6 p7 p8 p9 p10 p11 p12 p13 p14 p15 p16 p17 p18 pk pn a1 a2 c1 c2 s1 s2 s3 s4 s5 : Pos} {k1 k2 k3 k4 : Nat} (hNd : X.N.Nodup) (hu : X.A.units + 64 < cLine)
    (hc : ET X W c tA ft) (hx : EX X W e te f) (hT : EE X W eT tT fT) (hN : EE X W eN tN fN)
    (nD : X.N[iD]? = some xD := by rfl) (nU : X.N[iU]? = some xU := by rfl) (nu : X.N[iu]? = some xu := by rfl) (nk : X.N[ik]? = some xk := by rfl) (nN : X.N[iN]? = some xN := by rfl)
    (vD : Vis X.env.scope xD := by first | exact Or.inl rfl | exact Or.inr (Or.inl rfl) | exact Or.inr (Or.inr rfl)) (vU : Vis X.env.scope xU := by first | exact Or.inl rfl | exact Or.inr (Or.inl rfl) | exact Or.inr (Or.inr rfl)) (vu : Vis X.env.scope xu := by first | exact Or.inl rfl | exact Or.inr (Or.inl rfl) | exact Or.inr (Or.inr rfl)) (vk : Vis X.env.scope xk := by first | exact Or.inl rfl | exact Or.inr (Or.inl rfl) | exact Or.inr (Or.inr rfl)) (vN : Vis X.env.scope xN := by first | exact Or.inl rfl | exact Or.inr (Or.inl rfl) | exact Or.inr (Or.inr rfl))
    (bD : (xD == ("__debug__" : Str)) = false := by decide) (bU : (xU == ("__debug__" : Str)) = false := by decide) (bu : (xu == ("__debug__" : Str)) = false := by decide) (bk : (xk == ("__debug__" : Str)) = false := by decide) (bN : (xN == ("__debug__" : Str)) = false := by decide)
    (cD : (xD == ("__classdict__" : Str)) = false := by decide) (cU : (xU == ("__classdict__" : Str)) = false := by decide) (cu : (xu == ("__classdict__" : Str)) = false := by decide) (ck : (xk == ("__classdict__" : Str)) = false := by decide) (cN : (xN == ("__classdict__" : Str)) = false := by decide)
    (lu : Loc X.env.scope xu := by first | exact .inl rfl | exact .inr rfl) (lk : Loc X.env.scope xk := by first | exact .inl rfl | exact .inr rfl) (lN : Loc X.env.scope xN := by first | exact .inl rfl | exact .inr rfl)
    (fu : X.fn xu = true ∨ X.env.scope.names.lookup xu = some .local := by first | exact .inl rfl | exact .inr rfl | assumption) (fk : X.fn xk = true ∨ X.env.scope.names.lookup xk = some .local := by first | exact .inl rfl | exact .inr rfl | assumption) (fN' : X.fn xN = true ∨ X.env.scope.names.lookup xN = some .local := by first | exact .inl rfl | exact .inr rfl | assumption) (hcm : X.calm = true := by rfl)
    (hs1 : starEach [.Name xD p1, .Name xU p2] X.env = (false, eval (.Name xD p1) X.env) :: starEach [.Name xU p2] X.env := by rfl) (hs2 : starEach [.Name xU p2] X.env = (false, eval (.Name xU p2) X.env) :: starEach [] X.env := by rfl)
    (hs3 : starEach [.Name xU p3, .Name xD p4] X.env = (false, eval (.Name xU p3) X.env) :: starEach [.Name xD p4] X.env := by rfl) (hs4 : starEach [.Name xD p4] X.env = (false, eval (.Name xD p4) X.env) :: starEach [] X.env := by rfl)
    (hh1 : (assignEach [.Name xu p5, .Name xk p6] X.env).map (·.2) = assign (.Name xu p5) X.env :: (assignEach [.Name xk p6] X.env).map (·.2) := by rfl) (hh2 : (assignEach [.Name xk p6] X.env).map (·.2) = assign (.Name xk p6) X.env :: (assignEach [] X.env).map (·.2) := by rfl)
    (hn : (assignEach [.Name xu p5, .Name xk p6] X.env).length = 2 := by rfl) (hst : (assignEach [.Name xu p5, .Name xk p6] X.env).findIdx? (·.1) = none := by rfl)
    (hsw : swapsWithSole [.Tuple [.Name xu p5, .Name xk p6] k1 p7] (.IfExp c (.Tuple [.Name xD p1, .Name xU p2] k2 p8) (.Tuple [.Name xU p3, .Name xD p4] k3 p9) p10) s1.line X.env = pure false := by rfl)
    (hw : swappedStores [.Tuple [.Name xu p5, .Name xk p6] k1 p7] (.IfExp c (.Tuple [.Name xD p1, .Name xU p2] k2 p8) (.Tuple [.Name xU p3, .Name xD p4] k3 p9) p10) X.env = pure none := by rfl)
    (h1 : (assignEach [.Tuple [.Name xu p5, .Name xk p6] k1 p7] X.env).map (·.2) = [assign (.Tuple [.Name xu p5, .Name xk p6] k1 p7) X.env] := by rfl)
    (hbk : attributeBase (.Name xk pk) "append" X.env (eval (.Name xk pk) X.env) = eval (.Name xk pk) X.env := by rfl)
    (hfew : ((backTo c1 (starEach [.Name xN pn] X.env)).all (fun x => !x.1) && (backToKw c1 (keywordEach [] X.env)).all (fun x => x.1.isSome) && decide (([.Name xN pn] : List Expr).length + ([] : List Keyword).length + (if ([] : List Keyword).isEmpty then 0 else 1) < 30)) = true := by rfl)
    (hline : (a1.endLine == c1.line) = true := by rfl) (hs5 : starEach [.Name xN pn] X.env = (false, eval (.Name xN pn) X.env) :: starEach [] X.env := by rfl) (hpl : (backTo c1 (starEach [] X.env)).any (·.1) = false := by rfl)
    (hsw2 : swapsWith (.Call (.Attribute (.Name xk pk) "append" a1) [.Name xN pn] [] c1) none s2.line X.env = pure false := by rfl)
    (hbu : attributeBase (.Name xu p11) "pop" X.env (eval (.Name xu p11) X.env) = eval (.Name xu p11) X.env := by rfl) (hline2 : (a2.endLine == c2.line) = true := by rfl)
    (hsw3 : swapsWith (.Call (.Attribute (.Name xu p11) "pop" a2) [] [] c2) (some (.Name xN p12)) s3.line X.env = pure false := by rfl)
    (n1 : iu ≠ ik := by decide) (n2 : iu ≠ iD := by decide) (n3 : iu ≠ iU := by decide) (n4 : ik ≠ iD := by decide) (n5 : ik ≠ iU := by decide) (n6 : iD ≠ iU := by decide) (n7 : iD ≠ iN := by decide) (n8 : iU ≠ iN := by decide) :
    EB X W [.Assign [.Tuple [.Name xu p5, .Name xk p6] k1 p7] (.IfExp c (.Tuple [.Name xD p1, .Name xU p2] k2 p8) (.Tuple [.Name xU p3, .Name xD p4] k3 p9) p10) s1,
        .If (.Compare e [.NotEq] [.IfExp (.Compare (.Name xu p13) [.Eq] [.List [] p14] p15) eT eN p16] p17) [.Return (some (.Constant (.bool false) k4 d1)) d2] [] s4,
        .If (.Compare (.Name xu p18) [.NotEq] [.List [] d3] d4) [.Expr (.Call (.Attribute (.Name xk pk) "append" a1) [.Name xN pn] [] c1) s2, .Assign [.Name xN p12] (.Call (.Attribute (.Name xu p11) "pop" a2) [] [] c2) s3] [] s5]
      (tSeq (tAsg (tIf tA (tTup (tCons (tVar iD) (tCons (tVar iU) tNil))) (tTup (tCons (tVar iU) (tCons (tVar iD) tNil)))) (gTup X.K 2 (gCons (gName iu) (gCons (gName ik) gNil)))) (tAlias2 X.K iu ik iN te tT tN))
      (gAlias iD iU iu ik iN ft f fT fN) where
  ps := pss_cons (ps_asg (pe_ifExp hc.pt (pe_tup (pa_cons (pe_var nD vD bD cD) (pa_cons (pe_var nU vU bU cU) pa_nil hs2) hs1)) (pe_tup (pa_cons (pe_var nU vU bU cU) (pa_cons (pe_var nD vD bD cD) pa_nil hs4) hs3))) (pg_tup hcm (pgs_cons (pg_name hNd nu lu fu) (pgs_cons (pg_name hNd nk lk fk) pgs_nil hh2) hh1) hn hst) hsw hw h1)
    (pss_cons (ps_if (pt_cmpR (op_neD hu) hx.pe (pe_ifExp (pt_cmpR (op_eqD hu) (pe_var nu vu bu cu) (pe_lst pa_nil) (nomark _)) hT.pe hN.pe) (nomark _)) (pss_one (ps_ret pe_bl)) pss_nil)
      (pss_one (ps_if (pt_cmpR (op_neD hu) (pe_var nu vu bu cu) (pe_lst pa_nil) (nomark _)) (pss_cons (ps_expr (pe_bm PySem.F.plainAttrs_list PySem.F.slot_list_append PySem.F.type_list_append mt_append (pe_var nk vk bk ck) (pa_cons (pe_var nN vN bN cN) pa_nil hs5) hbk hfew hline hs5 hpl) hsw2)
        (pss_one (ps_set hNd nN lN (pe_bm0 PySem.F.plainAttrs_list PySem.F.slot_list_pop PySem.F.type_list_pop mt_pop (pe_var nu vu bu cu) hbu hline2) hsw3 fN'))) pss_nil)))
  sound := fun {G H0 ρ σ F H} rel D P => by
    unfold gAlias at P
    split at P
    · rename_i xs ys hD hU
      refine hc.sound rel _ ?_
      cases hft : ft ρ with
      | err c => rw [hft] at P; exact P.elim
      | bad => rw [hft] at P; exact P
      | ok b =>
        rw [hft] at P
        dsimp only at P
        intro F1 H1 x1
        have rel1 := rel.step x1
        obtain ⟨w1, sD, _⟩ := rel1.at_ iD _ hD
        obtain ⟨w2, sU, _⟩ := rel1.at_ iU _ hU
        split at P
        · rename_i hb
          have b1 : iu < σ.length := by rw [← rel.len]; exact hb.1
          have b2 : ik < σ.length := by rw [← rel.len]; exact hb.2
          have fin : ∀ {v1 v2 : V} {p : Addr}, H1 p = none → Rel X.K G H0 ((ρ.set iu none).set ik none) ((σ.set iu (some v1)).set ik (some v2)) F1 (upd H1 p (.tup [v1, v2])) := fun {v1 v2 p} np =>
            ((rel1.blank (i := iu) (x := some v1)).blank (i := ik) (x := some v2)).step (Ext.addH rel1.sub np)
          have hget : ∀ {v1 v2 : V} {q : Nat}, iu ≠ q → ik ≠ q → ((σ.set iu (some v1)).set ik (some v2))[q]? = σ[q]? := fun {v1 v2 q} h1 h2 => by rw [List.getElem?_set_ne h2, List.getElem?_set_ne h1]
          have g1 : ∀ {v1 v2 : V}, ((σ.set iu (some v1)).set ik (some v2))[iu]? = some (some v1) := fun {v1 v2} => by rw [List.getElem?_set_ne (Ne.symm n1), List.getElem?_set_self b1]
          have g2 : ∀ {v1 v2 : V}, ((σ.set iu (some v1)).set ik (some v2))[ik]? = some (some v2) := fun {v1 v2} => by rw [List.getElem?_set_self (by simpa using b2)]
          cases b with
          | true =>
            rw [if_pos rfl] at P ⊢
            refine ⟨w1, sD, w2, sU, by show 2 ≤ sizeLine; decide, fun p np => ⟨p, _, rfl, SqT.of upd_same, rfl, w1, _, rfl, w2, _, rfl, rfl, ?_⟩⟩
            exact alias2 (j := iD) (m := iU) hx hT hN (by rw [g1, hget n2 n4, sD]) (by rw [g2, hget n3 n5, sU]) n6 n7 n8 (fin np) P
          | false =>
            rw [if_neg (by decide)] at P ⊢
            refine ⟨w2, sU, w1, sD, by show 2 ≤ sizeLine; decide, fun p np => ⟨p, _, rfl, SqT.of upd_same, rfl, w2, _, rfl, w1, _, rfl, rfl, ?_⟩⟩
            exact alias2 (j := iU) (m := iD) hx hT hN (by rw [g1, hget n3 n5, sU]) (by rw [g2, hget n2 n4, sD]) (Ne.symm n6) n8 n7 (fin np) P
        · exact P.elim
    · exact P.elim
end
end DN
/-! Den42: small things for what gen.py prints. -/
namespace DN
open PySem PySem.Spec PyProof.Rows L2
theorem ho_of {fl : List Bool} {j : Nat} (h : (List.range fl.length).all (fun i => !(fl.getD i false) || i == j) = true) : ∀ i, fl[i]? = some true → i = j := fun i e => by
  have hi := lt_of_get e
  have := List.all_eq_true.mp h i (List.mem_range.mpr hi)
  rw [List.getD_eq_getElem?_getD, e] at this
  simpa using this
theorem et_ofE {X : Cx} {W : WX} {e : Expr} {te : TE} {f : Ev → Rs R} (h : EE X W e te f) (pt : PT X e (tTest te)) : ET X W e (tTest te) (fTest f) where
  pt := pt
  sound := fun rel Q P => h.sound rel _ (postB_data P fun d v F1 H1 e1 r1 P1 => by
    cases r1 <;> first
      | exact ⟨_, rfl, P1 _ _ (Ext.refl e1.sub)⟩
      | exact P1.elim)
section
variable {X : Cx} {W : WX} {p2 fp fp2 pos : Pos} {x : Str}
theorem tk_donNil (K : PySem.W.Frag) (i : Nat) (hu : X.A.units + 64 < cLine) (hN : X.N[i]? = some x := by rfl) (hv : Vis X.env.scope x := by first | exact Or.inl rfl | exact Or.inr (Or.inl rfl) | exact Or.inr (Or.inr rfl)) (hd : (x == ("__debug__" : Str)) = false := by decide) (hcd : (x == ("__classdict__" : Str)) = false := by decide)
    (hb1 : attributeBase (.Name x p2) "done" X.env (eval (.Name x p2) X.env) = eval (.Name x p2) X.env := by rfl) (hK : X.K = K := by rfl) :
    ET X W (.Compare (xFld x p2 "done" fp) [.Eq] [.List [] fp2] pos) (tTest (tOp (rEqD K) (tFld K (tVar i) "done") (tLst tNil))) (fTest (fDonNil i)) := by
  subst hK
  exact et_ofE (ek_donNil _ i hu hN hv hd hcd hb1) (pt_cmpR (op_eqD hu) (pe_fld (pe_var hN hv hd hcd) hb1) (pe_lst pa_nil) (nomark _))
theorem tk_undNil (K : PySem.W.Frag) (i : Nat) (hu : X.A.units + 64 < cLine) (hN : X.N[i]? = some x := by rfl) (hv : Vis X.env.scope x := by first | exact Or.inl rfl | exact Or.inr (Or.inl rfl) | exact Or.inr (Or.inr rfl)) (hd : (x == ("__debug__" : Str)) = false := by decide) (hcd : (x == ("__classdict__" : Str)) = false := by decide)
    (hb1 : attributeBase (.Name x p2) "undone" X.env (eval (.Name x p2) X.env) = eval (.Name x p2) X.env := by rfl) (hK : X.K = K := by rfl) :
    ET X W (.Compare (xFld x p2 "undone" fp) [.Eq] [.List [] fp2] pos) (tTest (tOp (rEqD K) (tFld K (tVar i) "undone") (tLst tNil))) (fTest (fUndNil i)) := by
  subst hK
  exact et_ofE (ek_undNil _ i hu hN hv hd hcd hb1) (pt_cmpR (op_eqD hu) (pe_fld (pe_var hN hv hd hcd) hb1) (pe_lst pa_nil) (nomark _))
end
theorem einit {X : Cx} {W : WX} {e1 e2 : Expr} {t1 t2 : TE} {f1 f2 : Ev → Rs R} {x0 x1 : Str} {p1 p2 p3 p4 p5 p6 p7 p8 p9 p10 p11 p12 p13 p14 p15 p16 : Pos} (E1 : EE X W e1 t1 f1) (E2 : EE X W e2 t2 f2)
    (h0 : X.N[0]? = some x0 := by rfl) (h1 : X.N[1]? = some x1 := by rfl) (v0 : Vis X.env.scope x0 := by first | exact Or.inl rfl | exact Or.inr (Or.inl rfl) | exact Or.inr (Or.inr rfl)) (v1 : Vis X.env.scope x1 := by first | exact Or.inl rfl | exact Or.inr (Or.inl rfl) | exact Or.inr (Or.inr rfl))
    (d0 : (x0 == ("__debug__" : Str)) = false := by decide) (d1 : (x1 == ("__debug__" : Str)) = false := by decide) (c0 : (x0 == ("__classdict__" : Str)) = false := by decide) (c1 : (x1 == ("__classdict__" : Str)) = false := by decide)
    (s1 : swapsWith e1 none p1.line X.env = pure false := by rfl) (s2 : swapsWith (.Name x1 p2) (some (.Attribute (.Name x0 p3) "net" p4)) p5.line X.env = pure false := by rfl) (s3 : swapsWith e2 (some (.Attribute (.Name x0 p6) "present" p7)) p8.line X.env = pure false := by rfl)
    (s4 : swapsWith (.List [] p9) (some (.Attribute (.Name x0 p10) "done" p11)) p12.line X.env = pure false := by rfl) (s5 : swapsWith (.List [] p13) (some (.Attribute (.Name x0 p14) "undone" p15)) p16.line X.env = pure false := by rfl) :
    EInit X W [.Expr e1 p1, .Assign [.Attribute (.Name x0 p3) "net" p4] (.Name x1 p2) p5, .Assign [.Attribute (.Name x0 p6) "present" p7] e2 p8, .Assign [.Attribute (.Name x0 p10) "done" p11] (.List [] p9) p12, .Assign [.Attribute (.Name x0 p14) "undone" p15] (.List [] p13) p16] f1 f2 :=
  ⟨t1, t2, e1, e2, E1, E2, pss_cons (ps_expr E1.pe s1) (pss_cons (ps_fld (pe_var h0 v0 d0 c0) (pe_var h1 v1 d1 c1) s2) (pss_cons (ps_fld (pe_var h0 v0 d0 c0) E2.pe s3) (pss_cons (ps_fld (pe_var h0 v0 d0 c0) (pe_lst pa_nil) s4) (pss_one (ps_fld (pe_var h0 v0 d0 c0) (pe_lst pa_nil) s5)))))⟩
end DN
/-! DenL: how denotations are reckoned. -/
namespace DN
open PySem PySem.Spec PyProof.Rows L2

/-! ### what the operations give, by the form of their operands -/
section
variable (g : Int → Int → PyData) (i j : Int) (a b : Str) (xs ys : List PyData) (d e : PyData) (ρ : Ev) (t : PyData → Ev → Rs Ev) (ts : List PyData → Ev → Rs Ev)
@[simp] theorem oI_ii : oI g (.int i) (.int j) = .ok (.val (g i j)) := rfl
@[simp] theorem oIc_ii (C : Int → Int → Prop) [∀ i j, Decidable (C i j)] : oIc C g (.int i) (.int j) = if C i j then .ok (.val (g i j)) else .bad := rfl
@[simp] theorem opAdd_ii : opAdd (.int i) (.int j) = .ok (.val (.int (i + j))) := rfl
@[simp] theorem opAdd_ss : opAdd (.str a) (.str b) = if a.length + b.length ≤ lim then .ok (.val (.str (a ++ b))) else .bad := rfl
@[simp] theorem opAdd_ll : opAdd (.list xs) (.list ys) = if xs.length + ys.length ≤ lim then .ok (.own (xs ++ ys)) else .bad := rfl
@[simp] theorem opAdd_tt : opAdd (.tuple xs) (.tuple ys) = if xs.length + ys.length ≤ lim then .ok (.val (.tuple (xs ++ ys))) else .bad := rfl
@[simp] theorem opIs_n : opIs .none .none = .ok (.val (.bool true)) := rfl
@[simp] theorem opIs_in : opIs (.int i) .none = .ok (.val (.bool false)) := rfl
@[simp] theorem opIs_tn : opIs (.tuple xs) .none = .ok (.val (.bool false)) := rfl
@[simp] theorem opIs_sn : opIs (.str a) .none = .ok (.val (.bool false)) := rfl
@[simp] theorem opIs_bb (x y : Bool) : opIs (.bool x) (.bool y) = .ok (.val (.bool (decide (x = y)))) := rfl
@[simp] theorem opIsNot_n : opIsNot .none .none = .ok (.val (.bool false)) := rfl
@[simp] theorem opIsNot_in : opIsNot (.int i) .none = .ok (.val (.bool true)) := rfl
@[simp] theorem opIsNot_tn : opIsNot (.tuple xs) .none = .ok (.val (.bool true)) := rfl
@[simp] theorem opIsNot_sn : opIsNot (.str a) .none = .ok (.val (.bool true)) := rfl
@[simp] theorem opIsNot_bb (x y : Bool) : opIsNot (.bool x) (.bool y) = .ok (.val (.bool (!decide (x = y)))) := rfl
@[simp] theorem opNeg_i : opNeg (.int i) = .ok (.val (.int (-i))) := rfl
@[simp] theorem opIx_l : opIx (.list xs) (.int i) = match atI xs i with | some d => .ok (.val d) | none => .bad := rfl
@[simp] theorem opIx_t : opIx (.tuple xs) (.int i) = match atI xs i with | some d => .ok (.val d) | none => .bad := rfl
@[simp] theorem asI_i : asI (.int i) = .ok (some i) := rfl
@[simp] theorem opSl_l (lo hi : Option Int) : opSl (.list xs) lo hi = .ok (.own (cut xs lo hi)) := rfl
@[simp] theorem opSl_t (lo hi : Option Int) : opSl (.tuple xs) lo hi = .ok (.val (.tuple (cut xs lo hi))) := rfl
@[simp] theorem opSl_s (lo hi : Option Int) : opSl (.str a) lo hi = if a.length ≤ lim then .ok (.val (.str (cutS a lo hi))) else .bad := rfl
@[simp] theorem biLen_l : biLen [.list xs] = .ok (.val (.int xs.length)) := rfl
@[simp] theorem biLen_t : biLen [.tuple xs] = .ok (.val (.int xs.length)) := rfl
@[simp] theorem biLen_s : biLen [.str a] = if a.length ≤ lim then .ok (.val (.int a.length)) else .bad := rfl
@[simp] theorem biAll_l : biAll [.list xs] = match asBs xs with | some bs => .ok (.val (.bool (bs.all id))) | none => .bad := rfl
@[simp] theorem biAny_l : biAny [.list xs] = match asBs xs with | some bs => .ok (.val (.bool (bs.any id))) | none => .bad := rfl
@[simp] theorem biList_l : biList [.list xs] = .ok (.own xs) := rfl
@[simp] theorem biList_t : biList [.tuple xs] = .ok (.own xs) := rfl
@[simp] theorem biTuple_l : biTuple [.list xs] = .ok (.val (.tuple xs)) := rfl
@[simp] theorem biTuple_t : biTuple [.tuple xs] = .ok (.val (.tuple xs)) := rfl
@[simp] theorem biMax2_i : biMax2 [.int i, .int j] = .ok (.val (.int (if j > i then j else i))) := rfl
@[simp] theorem biMin2_i : biMin2 [.int i, .int j] = .ok (.val (.int (if j < i then j else i))) := rfl
@[simp] theorem biInt_i : biInt [.int i] = .ok (.val (.int i)) := rfl
@[simp] theorem rg1_i : rg1 [.int j] = if j.natAbs ≤ 1000000 then .ok (rngD 0 j.toNat) else .bad := rfl
@[simp] theorem rg2_i : rg2 [.int i, .int j] = if i.natAbs ≤ 1000000 ∧ j.natAbs ≤ 1000000 then .ok (rngD i (j - i).toNat) else .bad := rfl
@[simp] theorem tsNil_n : tsNil [] ρ = .ok ρ := rfl
@[simp] theorem tsCons_c : tsCons t ts (d :: xs) ρ = (t d ρ).bind (ts xs) := rfl
@[simp] theorem tTupl_t : tTupl ts (.tuple xs) ρ = ts xs ρ := rfl
@[simp] theorem opRepT_ti : opRepT (.tuple xs) (.int i) = if xs ≠ [] ∧ 2 ≤ i ∧ i ≤ 1000 ∧ xs.length ≤ 1000 then .ok (.val (.tuple (List.replicate i.toNat xs).flatten)) else .bad := rfl
@[simp] theorem opRepL_li : opRepL (.list xs) (.int i) = if i.natAbs ≤ 1000000 ∧ xs.length * i.toNat ≤ lim then .ok (.own (List.replicate i.toNat xs).flatten) else .bad := rfl
@[simp] theorem biSum_l : biSum [.list xs] = match asIs xs with | some bs => .ok (.val (.int bs.sum)) | none => .bad := rfl
@[simp] theorem biMax_l : biMax [.list xs] = match asIs xs with | some bs => if bs = [] then .bad else .ok (.val (.int (maxOf bs))) | none => .bad := rfl
@[simp] theorem biMin_l : biMin [.list xs] = match asIs xs with | some bs => if bs = [] then .bad else .ok (.val (.int (minOf bs))) | none => .bad := rfl
end
theorem rngD_eq (n : Nat) : rngD 0 n = (List.range n).map fun i => PyData.int (i : Nat) := by
  unfold rngD
  apply List.map_congr_left
  intro i _
  simp
theorem rg1_nat {n : Nat} (h : n ≤ 1000000) : rg1 [.int (n : Nat)] = .ok ((List.range n).map fun i => PyData.int (i : Nat)) := by
  rw [rg1_i, if_pos (by omega), rngD_eq]
  rfl
theorem range_get {α : Type} {n i : Nat} {f : Nat → α} {d : α} (h : ((List.range n).map f)[i]? = some d) : i < n ∧ d = f i := by
  rw [List.getElem?_map, Option.map_eq_some_iff] at h
  obtain ⟨j, hj, rfl⟩ := h
  rw [List.getElem?_eq_some_iff] at hj
  obtain ⟨hj, hj3⟩ := hj
  rw [List.length_range] at hj
  rw [List.getElem_range] at hj3
  subst hj3
  exact ⟨hj, rfl⟩
theorem list_get {α : Type} {xs : List α} {f : α → PyData} {i : Nat} {d : PyData} (h : (xs.map f)[i]? = some d) : ∃ x, xs[i]? = some x ∧ d = f x ∧ xs.take (i + 1) = xs.take i ++ [x] := by
  rw [List.getElem?_map, Option.map_eq_some_iff] at h
  obtain ⟨x, hx, rfl⟩ := h
  refine ⟨x, hx, rfl, ?_⟩
  rw [List.take_succ, hx]
  rfl
/-! ### comprehensions over typed items -/
theorem lcGo_typed {α : Type} {ft : PyData → Ev → Rs Ev} {fc : Ev → Rs Bool} {fe : Ev → Rs R} {ρ : Ev} (enc : α → PyData) (en : α → Ev) (c : α → Bool) (h : α → PyData) :
    ∀ (xs : List α), (∀ x ∈ xs, ft (enc x) ρ = .ok (en x)) → (∀ x ∈ xs, fc (en x) = .ok (c x)) → (∀ x ∈ xs, c x = true → (fe (en x)).bind R.d = .ok (h x)) →
      lcGo ft fc fe ρ (xs.map enc) = .ok ((xs.filter c).map h)
  | [], _, _, _ => rfl
  | x :: xs, h1, h2, h3 => by
    have ih := lcGo_typed enc en c h xs (fun y hy => h1 y (List.mem_cons_of_mem _ hy)) (fun y hy => h2 y (List.mem_cons_of_mem _ hy)) (fun y hy => h3 y (List.mem_cons_of_mem _ hy))
    rw [List.map_cons]
    unfold lcGo
    rw [h1 x List.mem_cons_self, bind_ok, h2 x List.mem_cons_self, bind_ok]
    cases hc : c x with
    | true =>
      rw [if_pos rfl]
      have e := h3 x List.mem_cons_self hc
      rw [List.filter_cons_of_pos hc, List.map_cons]
      cases hf : fe (en x) with
      | ok r =>
        rw [hf, bind_ok] at e
        rw [bind_ok, e, bind_ok, ih, bind_ok]
      | err c => rw [hf] at e; cases e
      | bad => rw [hf] at e; cases e
    | false =>
      rw [if_neg (by decide), ih, List.filter_cons_of_neg (by simp [hc])]
theorem lcGo_map {α : Type} {ft : PyData → Ev → Rs Ev} {fe : Ev → Rs R} {ρ : Ev} (enc : α → PyData) (en : α → Ev) (h : α → PyData) (xs : List α) (h1 : ∀ x ∈ xs, ft (enc x) ρ = .ok (en x)) (h3 : ∀ x ∈ xs, (fe (en x)).bind R.d = .ok (h x)) :
    lcGo ft fYes fe ρ (xs.map enc) = .ok (xs.map h) := by
  rw [lcGo_typed enc en (fun _ => true) h xs h1 (fun _ _ => rfl) (fun x hx _ => h3 x hx)]
  rw [List.filter_eq_self.mpr (fun _ _ => rfl)]
theorem fLc_of {vs : List Nat} {fi : Ev → Rs (List PyData)} {ft : PyData → Ev → Rs Ev} {fc : Ev → Rs Bool} {fe : Ev → Rs R} {ρ : Ev} {ds xs : List PyData} (h : fi ρ = .ok ds) (hl : ds.length ≤ lim) (hg : lcGo ft fc fe (wipeE ρ vs) ds = .ok xs) :
    fLc vs fi ft fc fe ρ = .ok (.own xs) := by
  unfold fLc
  rw [h, bind_ok, if_pos hl, hg]
  rfl
@[simp] theorem capL_short (ds : List PyData) (r : R) (h : ds.length ≤ 1000) : capL ds r = .ok r := by
  unfold capL
  rw [if_pos (Nat.le_trans h (by decide))]
/-! ### loops -/
theorem loop_rel {ft : PyData → Ev → Rs Ev} {gb : Ev → RO} (I : Nat → Ev → Prop) : ∀ (ds : List PyData) (k : Nat) (ρ : Ev), I k ρ →
    (∀ (i : Nat) (d : PyData) (ρ : Ev), ds[i]? = some d → I (k + i) ρ → ∃ ρ1 ρ2, ft d ρ = .ok ρ1 ∧ gb ρ1 = .nx ρ2 ∧ I (k + i + 1) ρ2) → ∃ ρ', loop ft gb ds ρ = .nx ρ' ∧ I (k + ds.length) ρ'
  | [], k, ρ, h, _ => ⟨ρ, rfl, h⟩
  | d :: ds, k, ρ, h, hs => by
    obtain ⟨ρ1, ρ2, e1, e2, h2⟩ := hs 0 d ρ rfl h
    obtain ⟨ρ', e3, h3⟩ := loop_rel I ds (k + 1) ρ2 (by simpa using h2) (fun i d' ρ' hd hI => by
      have := hs (i + 1) d' ρ' (by simpa using hd) (by rw [show k + (i + 1) = k + 1 + i by omega]; exact hI)
      rw [show k + (i + 1) + 1 = k + 1 + i + 1 by omega] at this
      exact this)
    refine ⟨ρ', ?_, by rw [List.length_cons, show k + (ds.length + 1) = k + 1 + ds.length by omega]; exact h3⟩
    unfold loop
    rw [e1]
    show (gb ρ1).seq _ = _
    rw [e2]
    exact e3
/-- a loop whose turns leave the environment as a function of the turn -/
theorem loop_env {ft : PyData → Ev → Rs Ev} {gb : Ev → RO} {ds : List PyData} (I : Nat → Ev → Prop) {ρ : Ev} (h0 : I 0 ρ)
    (hs : ∀ (i : Nat) (d : PyData) (ρ : Ev), ds[i]? = some d → I i ρ → ∃ ρ1 ρ2, ft d ρ = .ok ρ1 ∧ gb ρ1 = .nx ρ2 ∧ I (i + 1) ρ2) : ∃ ρ', loop ft gb ds ρ = .nx ρ' ∧ I ds.length ρ' := by
  have := loop_rel (ft := ft) (gb := gb) I ds 0 ρ h0 (fun i d ρ hd hI => by simpa using hs i d ρ hd (by simpa using hI))
  simpa using this
theorem gFor_env {fi : Ev → Rs (List PyData)} {ft : PyData → Ev → Rs Ev} {gb : Ev → RO} {ds : List PyData} (I : Nat → Ev → Prop) {ρ : Ev} (hf : fi ρ = .ok ds) (h0 : I 0 ρ)
    (hs : ∀ (i : Nat) (d : PyData) (ρ : Ev), ds[i]? = some d → I i ρ → ∃ ρ1 ρ2, ft d ρ = .ok ρ1 ∧ gb ρ1 = .nx ρ2 ∧ I (i + 1) ρ2) : ∃ ρ', gFor fi ft gb ρ = .nx ρ' ∧ I ds.length ρ' := by
  unfold gFor
  rw [hf]
  exact loop_env I h0 hs
/-- a while by a measure -/
theorem whileN_rel {fc : Ev → Rs Bool} {gb : Ev → RO} (I : Ev → Prop) (μ : Ev → Nat) (hs : ∀ ρ, I ρ → ∃ b, fc ρ = .ok b ∧ (b = true → ∃ ρ', gb ρ = .nx ρ' ∧ I ρ' ∧ μ ρ' < μ ρ)) :
    ∀ (n : Nat) (ρ : Ev), I ρ → μ ρ < n → ∃ ρ', whileN fc gb n ρ = .nx ρ' ∧ I ρ' ∧ fc ρ' = .ok false
  | 0, ρ, _, h => by omega
  | n + 1, ρ, hI, h => by
    obtain ⟨b, e, hb⟩ := hs ρ hI
    unfold whileN
    rw [e, onR_ok]
    cases b with
    | true =>
      obtain ⟨ρ1, e1, h1, h2⟩ := hb rfl
      rw [if_pos rfl, e1]
      exact whileN_rel I μ hs n ρ1 h1 (by omega)
    | false =>
      rw [if_neg (by decide)]
      exact ⟨ρ, rfl, hI, e⟩
theorem gWhile_rel {fc : Ev → Rs Bool} {gb : Ev → RO} (I : Ev → Prop) (μ : Ev → Nat) {ρ : Ev} (h0 : I ρ) (hμ : μ ρ < 1000000) (hs : ∀ ρ, I ρ → ∃ b, fc ρ = .ok b ∧ (b = true → ∃ ρ', gb ρ = .nx ρ' ∧ I ρ' ∧ μ ρ' < μ ρ)) :
    ∃ ρ', gWhile fc gb ρ = .nx ρ' ∧ I ρ' ∧ fc ρ' = .ok false := whileN_rel I μ hs _ ρ h0 hμ

/-- the whole number in a slot -/
def natAt (i : Nat) (ρ : Ev) : Nat := match ρ[i]? with
  | some (some (R.val (PyData.int a))) => a.toNat
  | _ => 0
/-! ### isinstance -/
def isI : PyData → Bool
  | .int _ => true
  | .bool _ => true
  | _ => false
def isB : PyData → Bool
  | .bool _ => true
  | _ => false
def isT : PyData → Bool
  | .tuple _ => true
  | _ => false
def isL : PyData → Bool
  | .list _ => true
  | _ => false
def isS : PyData → Bool
  | .str _ => true
  | _ => false
theorem kit_facts : kitB "NoneType" "int" = some false ∧ kitB "bool" "int" = some true ∧ kitB "int" "int" = some true ∧ kitB "str" "int" = some false ∧ kitB "list" "int" = some false ∧ kitB "tuple" "int" = some false ∧ kitB "dict" "int" = some false ∧
    kitB "NoneType" "bool" = some false ∧ kitB "bool" "bool" = some true ∧ kitB "int" "bool" = some false ∧ kitB "str" "bool" = some false ∧ kitB "list" "bool" = some false ∧ kitB "tuple" "bool" = some false ∧ kitB "dict" "bool" = some false ∧
    kitB "NoneType" "tuple" = some false ∧ kitB "bool" "tuple" = some false ∧ kitB "int" "tuple" = some false ∧ kitB "str" "tuple" = some false ∧ kitB "list" "tuple" = some false ∧ kitB "tuple" "tuple" = some true ∧ kitB "dict" "tuple" = some false ∧
    kitB "NoneType" "list" = some false ∧ kitB "bool" "list" = some false ∧ kitB "int" "list" = some false ∧ kitB "str" "list" = some false ∧ kitB "list" "list" = some true ∧ kitB "tuple" "list" = some false ∧ kitB "dict" "list" = some false ∧
    kitB "NoneType" "str" = some false ∧ kitB "bool" "str" = some false ∧ kitB "int" "str" = some false ∧ kitB "str" "str" = some true ∧ kitB "list" "str" = some false ∧ kitB "tuple" "str" = some false ∧ kitB "dict" "str" = some false := by decide +kernel
@[simp] theorem isi_int (d : PyData) : isiD "int" d = .ok (.val (.bool (isI d))) := by
  obtain ⟨a1, a2, a3, a4, a5, a6, a7, _⟩ := kit_facts
  cases d <;> simp [isiD, tyD, isI, *]
@[simp] theorem isi_bool (d : PyData) : isiD "bool" d = .ok (.val (.bool (isB d))) := by
  obtain ⟨_, _, _, _, _, _, _, a1, a2, a3, a4, a5, a6, a7, _⟩ := kit_facts
  cases d <;> simp [isiD, tyD, isB, *]
@[simp] theorem isi_tuple (d : PyData) : isiD "tuple" d = .ok (.val (.bool (isT d))) := by
  obtain ⟨_, _, _, _, _, _, _, _, _, _, _, _, _, _, a1, a2, a3, a4, a5, a6, a7, _⟩ := kit_facts
  cases d <;> simp [isiD, tyD, isT, *]
@[simp] theorem isi_list (d : PyData) : isiD "list" d = .ok (.val (.bool (isL d))) := by
  obtain ⟨_, _, _, _, _, _, _, _, _, _, _, _, _, _, _, _, _, _, _, _, _, a1, a2, a3, a4, a5, a6, a7, _⟩ := kit_facts
  cases d <;> simp [isiD, tyD, isL, *]
@[simp] theorem isi_str (d : PyData) : isiD "str" d = .ok (.val (.bool (isS d))) := by
  obtain ⟨_, _, _, _, _, _, _, _, _, _, _, _, _, _, _, _, _, _, _, _, _, _, _, _, _, _, _, _, a1, a2, a3, a4, a5, a6, a7⟩ := kit_facts
  cases d <;> simp [isiD, tyD, isS, *]
/-! ### sizes and == -/
@[simp] theorem asB_bool (b : Bool) : asB (.bool b) = .ok b := rfl
theorem lay_int (i : Int) : PyData.canLay0 (.int i) = true := by simp [PyData.canLay0]
/-! how deep data lie, at most -/
mutual
def dOk : Nat → PyData → Bool
  | _, .none => true
  | _, .bool _ => true
  | _, .int _ => true
  | _, .str x => PyData.strOk x
  | n + 1, .list xs => dOks n xs
  | n + 1, .tuple xs => dOks n xs
  | _, _ => false
def dOks : Nat → List PyData → Bool
  | _, [] => true
  | n, x :: xs => dOk n x && dOks n xs
end
mutual
theorem dOk_lay : ∀ (n : Nat) (d : PyData), dOk n d = true → d.canLay0 = true ∧ d.depth ≤ n
  | _, .none, _ => by simp [PyData.canLay0, PyData.depth]
  | _, .bool _, _ => by simp [PyData.canLay0, PyData.depth]
  | _, .int _, _ => by simp [PyData.canLay0, PyData.depth]
  | _, .str x, h => by
    have h' : PyData.strOk x = true := by simpa [dOk] using h
    simp [PyData.canLay0, PyData.depth, h']
  | n + 1, .list xs, h => by
    have h' : dOks n xs = true := by simpa [dOk] using h
    have := dOks_lay n xs h'
    simp [PyData.canLay0, PyData.depth, this.1]
    omega
  | n + 1, .tuple xs, h => by
    have h' : dOks n xs = true := by simpa [dOk] using h
    have := dOks_lay n xs h'
    simp [PyData.canLay0, PyData.depth, this.1]
    omega
  | 0, .list _, h => by simp [dOk] at h
  | 0, .tuple _, h => by simp [dOk] at h
  | _, .dict _, h => by simp [dOk] at h
theorem dOks_lay : ∀ (n : Nat) (ds : List PyData), dOks n ds = true → PyData.canLayAll0 ds = true ∧ PyData.depthAll ds ≤ n
  | _, [], _ => by simp [PyData.canLayAll0, PyData.depthAll]
  | n, d :: ds, h => by
    have h' : dOk n d = true ∧ dOks n ds = true := by simpa [dOks] using h
    have a := dOk_lay n d h'.1
    have b := dOks_lay n ds h'.2
    simp [PyData.canLayAll0, PyData.depthAll, a.1, b.1]
    omega
end
theorem shaped_of {n : Nat} {d : PyData} (h : dOk n d = true) (hn : n ≤ 64) : SeqAt.shaped d = true := by
  have := dOk_lay n d h
  unfold SeqAt.shaped
  simp [this.1]
  omega
theorem dOks_all {n : Nat} : ∀ {ds : List PyData}, (∀ d ∈ ds, dOk n d = true) → dOks n ds = true
  | [], _ => by simp [dOks]
  | d :: ds, h => by
    simp [dOks, h d List.mem_cons_self]
    exact dOks_all fun x hx => h x (List.mem_cons_of_mem _ hx)
theorem dOks_map {α : Type} {n : Nat} {xs : List α} {f : α → PyData} (h : ∀ x ∈ xs, dOk n (f x) = true) : dOks n (xs.map f) = true := dOks_all fun d hd => by
  obtain ⟨x, hx, rfl⟩ := List.mem_map.mp hd
  exact h x hx
theorem eqD_of {n m : Nat} {d e : PyData} (h : dOk n d = true) (g : dOk m e = true) (hn : n ≤ 64) (hm : m ≤ 64) : eqD d e = .ok (PyData.eqv d e) := by
  unfold eqD
  rw [shaped_of h hn, shaped_of g hm]
  rfl
@[simp] theorem eqD_int (i j : Int) : eqD (.int i) (.int j) = .ok (decide (i = j)) := by
  rw [eqD_of (n := 0) (m := 0) (by simp [dOk]) (by simp [dOk]) (by decide) (by decide)]
  simp [PyData.eqv]
  by_cases h : i = j <;> simp [h]
/-! ### positions -/
@[simp] theorem atI_nat' {α : Type} (xs : List α) (j : Nat) : atI xs (j : Int) = xs[j]? := by
  unfold atI ixN
  rw [if_pos (Int.natCast_nonneg j)]
  by_cases h : j < xs.length
  · rw [if_pos (by omega)]; simp
  · rw [if_neg (by omega)]; simp; omega
theorem atI_pos {α : Type} (xs : List α) {i : Int} (h : 0 ≤ i) : atI xs i = xs[i.toNat]? := by
  obtain ⟨j, rfl⟩ := Int.eq_ofNat_of_zero_le h
  simp
theorem atI_m1 {α : Type} (xs : List α) : atI xs (-1) = xs.getLast? := by
  unfold atI ixN
  rw [if_neg (by decide)]
  by_cases h : xs = []
  · subst h; rfl
  · have hl : 0 < xs.length := List.length_pos_iff.mpr h
    rw [if_pos (by omega), List.getLast?_eq_getElem?]
    show xs[(-1 + (xs.length : Int)).toNat]? = _
    congr 1
    all_goals omega
@[simp] theorem atI_zero {α : Type} (xs : List α) : atI xs 0 = xs[0]? := atI_nat' xs 0
@[simp] theorem atI_one {α : Type} (xs : List α) : atI xs 1 = xs[1]? := atI_nat' xs 1
@[simp] theorem atI_2 {α : Type} (xs : List α) : atI xs 2 = xs[2]? := atI_nat' xs 2
@[simp] theorem atI_3 {α : Type} (xs : List α) : atI xs 3 = xs[3]? := atI_nat' xs 3
@[simp] theorem atI_4 {α : Type} (xs : List α) : atI xs 4 = xs[4]? := atI_nat' xs 4
@[simp] theorem atI_5 {α : Type} (xs : List α) : atI xs 5 = xs[5]? := atI_nat' xs 5
@[simp] theorem atI_6 {α : Type} (xs : List α) : atI xs 6 = xs[6]? := atI_nat' xs 6
@[simp] theorem atI_7 {α : Type} (xs : List α) : atI xs 7 = xs[7]? := atI_nat' xs 7
@[simp] theorem atI_8 {α : Type} (xs : List α) : atI xs 8 = xs[8]? := atI_nat' xs 8
@[simp] theorem atI_9 {α : Type} (xs : List α) : atI xs 9 = xs[9]? := atI_nat' xs 9
theorem sIx_none' (n d : Nat) : HT.sIx n d none = d := rfl
theorem cut_all {α : Type} (xs : List α) : cut xs none none = xs := by simp [cut, HT.sIx]
theorem cut_from {α : Type} (xs : List α) (k : Nat) : cut xs (some (k : Int)) none = xs.drop k := by
  unfold cut
  rw [HT.sIx_nat, HT.sIx_none]
  by_cases h : k ≤ xs.length
  · rw [Nat.min_eq_left h]
    exact List.take_of_length_le (by simp)
  · rw [Nat.min_eq_right (by omega)]
    simp
    omega
theorem cut_to {α : Type} (xs : List α) (k : Nat) : cut xs none (some (k : Int)) = xs.take k := by
  unfold cut
  rw [HT.sIx_nat, HT.sIx_none]
  simp
end DN
/-! DenM: more on ==, in. -/
namespace DN
open PySem PySem.Spec PyProof.Rows L2
theorem eqD_same {n : Nat} {d : PyData} (h : dOk n d = true) (hn : n ≤ 64) : eqD d d = .ok true := by
  rw [eqD_of h h hn hn, SeqAt.eqv_refl d (dOk_lay n d h).1]
@[simp] theorem dOk_int (n : Nat) (i : Int) : dOk n (.int i) = true := by cases n <;> simp [dOk]
@[simp] theorem dOk_none (n : Nat) : dOk n .none = true := by cases n <;> simp [dOk]
@[simp] theorem dOk_bool (n : Nat) (b : Bool) : dOk n (.bool b) = true := by cases n <;> simp [dOk]
theorem dOk_list {n : Nat} {xs : List PyData} (h : dOks n xs = true) : dOk (n + 1) (.list xs) = true := by simpa [dOk] using h
theorem dOk_tuple {n : Nat} {xs : List PyData} (h : dOks n xs = true) : dOk (n + 1) (.tuple xs) = true := by simpa [dOk] using h
theorem eqF_int (i j : Int) : eqF (.int i) (.int j) = decide (i = j) := by
  show (i == j) = _
  by_cases h : i = j <;> simp [h]
theorem inD_ints (x : Int) (xs : List Int) : inD (.int x) (.list (xs.map .int)) = .ok (decide (x ∈ xs)) := by
  have h : (flatD (.int x) && (xs.map PyData.int).all flatD) = true := by simp [flatD]
  show (if (flatD (.int x) && (xs.map PyData.int).all flatD) = true then Rs.ok ((xs.map PyData.int).any fun y => eqF y (.int x)) else _) = _
  rw [if_pos h]
  congr 1
  rw [List.any_map]
  by_cases hx : x ∈ xs
  · simp [hx, eqF_int]
  · simp [hx, eqF_int]
    intro y hy e
    exact hx (e ▸ hy)
end DN
namespace DN
open PySem PySem.Spec PyProof.Rows L2
theorem lc2Go_map {α : Type} {ft : PyData → Ev → Rs Ev} {vs1 : List Nat} {fi1 : Ev → Rs (List PyData)} {ft1 : PyData → Ev → Rs Ev} {fc1 : Ev → Rs Bool} {fe : Ev → Rs R} {ρ : Ev} (enc : α → PyData) (en : α → Ev) (ds1 h : α → List PyData) :
    ∀ (xs : List α), (∀ x ∈ xs, ft (enc x) ρ = .ok (en x)) → (∀ x ∈ xs, fi1 (en x) = .ok (ds1 x)) → (∀ x ∈ xs, lcGo ft1 fc1 fe (wipeE (en x) vs1) (ds1 x) = .ok (h x)) → lc2Go ft fYes vs1 fi1 ft1 fc1 fe ρ (xs.map enc) = .ok (xs.flatMap h)
  | [], _, _, _ => rfl
  | x :: xs, h1, h2, h3 => by
    have ih := lc2Go_map (ft := ft) (vs1 := vs1) (fi1 := fi1) (ft1 := ft1) (fc1 := fc1) (fe := fe) (ρ := ρ) enc en ds1 h xs (fun y hy => h1 y (List.mem_cons_of_mem _ hy)) (fun y hy => h2 y (List.mem_cons_of_mem _ hy)) (fun y hy => h3 y (List.mem_cons_of_mem _ hy))
    rw [List.map_cons]
    unfold lc2Go
    rw [h1 x List.mem_cons_self, bind_ok]
    rw [show fYes (en x) = .ok true from rfl, bind_ok, if_pos rfl, h2 x List.mem_cons_self, bind_ok, h3 x List.mem_cons_self, bind_ok, ih, bind_ok, List.flatMap_cons]
theorem fLc2_of {vs vs1 : List Nat} {fi : Ev → Rs (List PyData)} {ft : PyData → Ev → Rs Ev} {fc : Ev → Rs Bool} {fi1 : Ev → Rs (List PyData)} {ft1 : PyData → Ev → Rs Ev} {fc1 : Ev → Rs Bool} {fe : Ev → Rs R} {ρ : Ev} {ds xs : List PyData} (h : fi ρ = .ok ds) (hl : xs.length ≤ lim)
    (hg : lc2Go ft fc vs1 fi1 ft1 fc1 fe (wipeE ρ vs) ds = .ok xs) : fLc2 vs vs1 fi ft fc fi1 ft1 fc1 fe ρ = .ok (.own xs) := by
  unfold fLc2
  rw [h, bind_ok, hg]
  show (if xs.length ≤ lim then Rs.ok (R.own xs) else Rs.bad) = _
  rw [if_pos hl]
theorem range_get2 {n i : Nat} {d : PyData} (h : ((List.range n).map fun j => PyData.int (j : Nat))[i]? = some d) : i < n ∧ d = .int (i : Nat) := range_get h
/-- range(1, n) -/
theorem rg2_one {n : Nat} (h : n ≤ 1000000) : rg2 [.int 1, .int (n : Nat)] = .ok ((List.range (n - 1)).map fun i => PyData.int (((i + 1 : Nat)) : Int)) := by
  rw [rg2_i, if_pos ⟨by decide, by omega⟩]
  congr 1
  unfold rngD
  rw [show ((n : Int) - 1).toNat = n - 1 by omega]
  apply List.map_congr_left
  intro i _
  congr 1
  omega
end DN
namespace DN
open PySem PySem.Spec PyProof.Rows L2
/-- goes on, with P -/
def Nx (o : RO) (P : Ev → Prop) : Prop := ∃ ρ, o = .nx ρ ∧ P ρ
@[simp] theorem Nx_nx (ρ : Ev) (P : Ev → Prop) : Nx (.nx ρ) P ↔ P ρ := ⟨fun ⟨_, e, h⟩ => by cases e; exact h, fun h => ⟨_, rfl, h⟩⟩
theorem Nx.imp {o : RO} {P Q : Ev → Prop} (h : Nx o P) (k : ∀ ρ, P ρ → Q ρ) : Nx o Q := by
  obtain ⟨ρ, e, p⟩ := h
  exact ⟨ρ, e, k ρ p⟩
theorem Nx.seq {o : RO} {g : Ev → RO} {P Q : Ev → Prop} (h : Nx o P) (k : ∀ ρ, P ρ → Nx (g ρ) Q) : Nx (o.seq g) Q := by
  obtain ⟨ρ, e, p⟩ := h
  rw [e, seq_nx]
  exact k ρ p
/-- one turn of a loop -/
def bdy (ft : PyData → Ev → Rs Ev) (gb : Ev → RO) (d : PyData) (ρ : Ev) : RO := match ft d ρ with
  | .ok ρ1 => gb ρ1
  | _ => .bad
@[simp] theorem bdy_name (i : Nat) (gb : Ev → RO) (d : PyData) (ρ : Ev) : bdy (tName i) gb d ρ = gb (ρ.set i (some (.val d))) := rfl
@[simp] theorem bdy_tup (ts : List PyData → Ev → Rs Ev) (gb : Ev → RO) (ds : List PyData) (ρ : Ev) : bdy (tTupl ts) gb (.tuple ds) ρ = match ts ds ρ with
  | .ok ρ1 => gb ρ1
  | _ => .bad := rfl
theorem gFor_sat {fi : Ev → Rs (List PyData)} {ft : PyData → Ev → Rs Ev} {gb : Ev → RO} {ds : List PyData} (I : Nat → Ev → Prop) {ρ : Ev} (hf : fi ρ = .ok ds) (h0 : I 0 ρ)
    (hs : ∀ (i : Nat) (d : PyData) (ρ : Ev), ds[i]? = some d → I i ρ → Nx (bdy ft gb d ρ) (I (i + 1))) : Nx (gFor fi ft gb ρ) (I ds.length) := by
  refine gFor_env I hf h0 fun i d ρ hd hI => ?_
  obtain ⟨ρ2, e, h⟩ := hs i d ρ hd hI
  unfold bdy at e
  split at e
  · rename_i ρ1 h1
    exact ⟨ρ1, ρ2, h1, e, h⟩
  · cases e
/-- the loop over the items of a typed list -/
theorem gFor_list {α : Type} {fi : Ev → Rs (List PyData)} {ft : PyData → Ev → Rs Ev} {gb : Ev → RO} {enc : α → PyData} {xs : List α} (I : List α → Ev → Prop) {ρ : Ev} (hf : fi ρ = .ok (xs.map enc)) (h0 : I [] ρ)
    (hs : ∀ (ys : List α) (x : α) (zs : List α) (ρ : Ev), xs = ys ++ x :: zs → I ys ρ → Nx (bdy ft gb (enc x) ρ) (I (ys ++ [x]))) : Nx (gFor fi ft gb ρ) (I xs) := by
  have := gFor_sat (ft := ft) (gb := gb) (fun i => I (xs.take i)) hf (by simpa using h0) (fun i d ρ hd hI => by
    obtain ⟨x, hx, rfl, e⟩ := list_get hd
    rw [e]
    refine hs (xs.take i) x (xs.drop (i + 1)) ρ ?_ hI
    obtain ⟨hl, rfl⟩ := List.getElem?_eq_some_iff.mp hx
    simp)
  simpa using this
/-- the loop over range(n) -/
theorem gFor_range {fi : Ev → Rs (List PyData)} {ft : PyData → Ev → Rs Ev} {gb : Ev → RO} {n : Nat} (I : Nat → Ev → Prop) {ρ : Ev} (hf : fi ρ = .ok ((List.range n).map fun i => PyData.int (i : Nat))) (h0 : I 0 ρ)
    (hs : ∀ (i : Nat) (ρ : Ev), i < n → I i ρ → Nx (bdy ft gb (.int (i : Nat)) ρ) (I (i + 1))) : Nx (gFor fi ft gb ρ) (I n) := by
  have := gFor_sat (ft := ft) (gb := gb) I hf h0 (fun i d ρ hd hI => by
    obtain ⟨hi, rfl⟩ := range_get hd
    exact hs i ρ hi hI)
  simpa using this
end DN
namespace DN
open PySem PySem.Spec PyProof.Rows L2
theorem eqD_nil {n : Nat} {xs : List PyData} (h : dOks n xs = true) (hn : n < 64) : eqD (.list xs) (.list []) = .ok xs.isEmpty := by
  rw [eqD_of (dOk_list h) (m := 1) (by simp [dOk, dOks]) (by omega) (by decide)]
  cases xs <;> simp [PyData.eqv, PyData.eqvAll]
theorem eqD_tnil {n : Nat} {xs : List PyData} (h : dOks n xs = true) (hn : n < 64) : eqD (.tuple xs) (.tuple []) = .ok xs.isEmpty := by
  rw [eqD_of (dOk_tuple h) (m := 1) (by simp [dOk, dOks]) (by omega) (by decide)]
  cases xs <;> simp [PyData.eqv, PyData.eqvAll]
end DN
namespace DN
theorem opAdd_tup {xs ys : List PySem.PyData} (h : xs.length + ys.length ≤ 1000) : opAdd (.tuple xs) (.tuple ys) = .ok (.val (.tuple (xs ++ ys))) := by
  rw [opAdd_tt, if_pos (Nat.le_trans h (by decide))]
theorem opAdd_lst {xs ys : List PySem.PyData} (h : xs.length + ys.length ≤ 1000) : opAdd (.list xs) (.list ys) = .ok (.own (xs ++ ys)) := by
  rw [opAdd_ll, if_pos (Nat.le_trans h (by decide))]
end DN
namespace LW
open PySem PySem.Spec PyProof.Rows L2 DN

def topS (i : Nat) : Stmt := PySem.Challenge.pw_limitsigns_k64_trip.main.body.getD i (.Pass ⟨0, 0, 0, 0⟩)

abbrev s_is_int : Stmt := topS 14
theorem sc_is_int : FnScope ["value", "least", "most"] ["value", "least", "most"] (defScope s_is_int) := ⟨rfl, rfl, rfl, by decide +kernel, rfl, by decide +kernel, by decide +kernel⟩
abbrev s_are_signs : Stmt := topS 15
theorem sc_are_signs : FnScope ["value", "sign"] ["value"] (defScope s_are_signs) := ⟨rfl, rfl, rfl, by decide +kernel, rfl, by decide +kernel, by decide +kernel⟩
abbrev s_is_road : Stmt := topS 16
theorem sc_is_road : FnScope ["value"] ["value"] (defScope s_is_road) := ⟨rfl, rfl, rfl, by decide +kernel, rfl, by decide +kernel, by decide +kernel⟩
abbrev s_is_net : Stmt := topS 17
theorem sc_is_net : FnScope ["candidate", "fast", "slow", "keeps", "roads", "road"] ["candidate"] (defScope s_is_net) := ⟨rfl, rfl, rfl, by decide +kernel, rfl, by decide +kernel, by decide +kernel⟩
abbrev s_check_net : Stmt := topS 18
theorem sc_check_net : FnScope ["value"] ["value"] (defScope s_check_net) := ⟨rfl, rfl, rfl, by decide +kernel, rfl, by decide +kernel, by decide +kernel⟩
abbrev s_check_road : Stmt := topS 19
theorem sc_check_road : FnScope ["net", "value"] ["net", "value"] (defScope s_check_road) := ⟨rfl, rfl, rfl, by decide +kernel, rfl, by decide +kernel, by decide +kernel⟩
abbrev s_find_followers : Stmt := topS 20
theorem sc_find_followers : FnScope ["net", "road", "number", "other"] ["net", "road"] (defScope s_find_followers) := ⟨rfl, rfl, rfl, by decide +kernel, rfl, by decide +kernel, by decide +kernel⟩
abbrev s_find_standing : Stmt := topS 21
theorem sc_find_standing : FnScope ["net", "road"] ["net", "road"] (defScope s_find_standing) := ⟨rfl, rfl, rfl, by decide +kernel, rfl, by decide +kernel, by decide +kernel⟩
abbrev s_pieces : Stmt := topS 23
theorem sc_pieces : FnScope ["net", "road", "state", "rest", "one"] ["net", "road", "state"] (defScope s_pieces) := ⟨rfl, rfl, rfl, by decide +kernel, rfl, by decide +kernel, by decide +kernel⟩
abbrev s_go_over : Stmt := topS 24
theorem sc_go_over : FnScope ["net", "state"] ["net", "state"] (defScope s_go_over) := ⟨rfl, rfl, rfl, by decide +kernel, rfl, by decide +kernel, by decide +kernel⟩
abbrev s_T_init : Stmt := inClass (topS 26) 0
theorem sc_T_init : FnScope ["self", "net", "road"] ["self", "net", "road"] (defScope s_T_init) := ⟨rfl, rfl, rfl, by decide +kernel, rfl, by decide +kernel, by decide +kernel⟩
abbrev s_T_len : Stmt := inClass (topS 26) 1
theorem sc_T_len : FnScope ["self"] ["self"] (defScope s_T_len) := ⟨rfl, rfl, rfl, by decide +kernel, rfl, by decide +kernel, by decide +kernel⟩
abbrev s_T_place : Stmt := inClass (topS 26) 3
theorem sc_T_place : FnScope ["self"] ["self"] (defScope s_T_place) := ⟨rfl, rfl, rfl, by decide +kernel, rfl, by decide +kernel, by decide +kernel⟩
abbrev s_T_limit : Stmt := inClass (topS 26) 4
theorem sc_T_limit : FnScope ["self"] ["self"] (defScope s_T_limit) := ⟨rfl, rfl, rfl, by decide +kernel, rfl, by decide +kernel, by decide +kernel⟩
abbrev s_T_seen : Stmt := inClass (topS 26) 5
theorem sc_T_seen : FnScope ["self"] ["self"] (defScope s_T_seen) := ⟨rfl, rfl, rfl, by decide +kernel, rfl, by decide +kernel, by decide +kernel⟩
abbrev s_T_change : Stmt := inClass (topS 26) 6
theorem sc_T_change : FnScope ["self", "state"] ["self", "state"] (defScope s_T_change) := ⟨rfl, rfl, rfl, by decide +kernel, rfl, by decide +kernel, by decide +kernel⟩
abbrev s_T_go : Stmt := inClass (topS 26) 7
theorem sc_T_go : FnScope ["self", "road", "piece", "state", "seen", "signs", "limit"] ["self"] (defScope s_T_go) := ⟨rfl, rfl, rfl, by decide +kernel, rfl, by decide +kernel, by decide +kernel⟩
abbrev s_T_turn : Stmt := inClass (topS 26) 8
theorem sc_T_turn : FnScope ["self", "road", "here", "piece", "state", "seen", "limit"] ["self", "road"] (defScope s_T_turn) := ⟨rfl, rfl, rfl, by decide +kernel, rfl, by decide +kernel, by decide +kernel⟩
abbrev s_T_undo : Stmt := inClass (topS 26) 9
theorem sc_T_undo : FnScope ["self"] ["self"] (defScope s_T_undo) := ⟨rfl, rfl, rfl, by decide +kernel, rfl, by decide +kernel, by decide +kernel⟩
abbrev s_T_redo : Stmt := inClass (topS 26) 10
theorem sc_T_redo : FnScope ["self"] ["self"] (defScope s_T_redo) := ⟨rfl, rfl, rfl, by decide +kernel, rfl, by decide +kernel, by decide +kernel⟩
abbrev s_l_drawn : Stmt := topS 28
theorem sc_l_drawn : FnScope ["script", "k", "many", "cell", "turn", "rest"] ["script", "k", "many"] (defScope s_l_drawn) := ⟨rfl, rfl, rfl, by decide +kernel, rfl, by decide +kernel, by decide +kernel⟩
abbrev s_l_net : Stmt := topS 29
theorem sc_l_net : FnScope ["script", "at", "most", "fast", "slow", "keeps", "roads", "k", "spot", "some", "many", "signs", "town", "n"] ["script", "at", "most"] (defScope s_l_net) := ⟨rfl, rfl, rfl, by decide +kernel, rfl, by decide +kernel, by decide +kernel⟩
abbrev s_l_pieces : Stmt := topS 30
theorem sc_l_pieces : FnScope ["net", "road", "state", "start", "end", "town", "signs", "one"] ["net", "road", "state"] (defScope s_l_pieces) := ⟨rfl, rfl, rfl, by decide +kernel, rfl, by decide +kernel, by decide +kernel⟩
abbrev s_l_next : Stmt := topS 31
theorem sc_l_next : FnScope ["net", "road", "k"] ["net", "road"] (defScope s_l_next) := ⟨rfl, rfl, rfl, by decide +kernel, rfl, by decide +kernel, by decide +kernel⟩
abbrev s_l_badnet : Stmt := topS 32
theorem sc_l_badnet : FnScope ["script", "at", "road", "bad", "odd"] ["script", "at"] (defScope s_l_badnet) := ⟨rfl, rfl, rfl, by decide +kernel, rfl, by decide +kernel, by decide +kernel⟩
abbrev s_l_told : Stmt := topS 33
theorem sc_l_told : FnScope ["way", "trip", "one", "two", "e", "flags"] ["way", "trip", "one", "two"] (defScope s_l_told) := ⟨rfl, rfl, rfl, by decide +kernel, rfl, by decide +kernel, by decide +kernel⟩
abbrev s_l_due : Stmt := topS 34
theorem sc_l_due : FnScope ["net", "now", "way", "one", "road", "piece", "state", "seen", "signs", "limit"] ["net", "now", "way", "one"] (defScope s_l_due) := ⟨rfl, rfl, rfl, by decide +kernel, rfl, by decide +kernel, by decide +kernel⟩
abbrev s_law : Stmt := topS 35
theorem sc_law : FnScope ["script", "net", "road", "trip", "now", "done", "undone", "k", "at", "way", "near", "one", "due", "new", "used", "kept", "bad", "told"] ["script"] (defScope s_law) := ⟨rfl, rfl, rfl, by decide +kernel, rfl, by decide +kernel, by decide +kernel⟩

abbrev knownX : List Str := ["AtEnd", "InvalidNet", "InvalidRoad", "NotThere", "NothingToUndo"]
noncomputable section

structure Fx (K : PySem.W.Frag) (mg : Str → Option Value) where
  C_Trip : Addr
  gc_Trip : mg "Trip" = some (.ref C_Trip)
  tc : TripC K C_Trip
  f_is_int : Addr
  fd_is_int : FuncData
  F_is_int : Fun K "is_int" "is_int" s_is_int f_is_int fd_is_int
  b_is_int : Binds K fd_is_int ["value", "least", "most"] []
  g_is_int : mg "is_int" = some (.ref f_is_int)
  f_are_signs : Addr
  fd_are_signs : FuncData
  F_are_signs : Fun K "are_signs" "are_signs" s_are_signs f_are_signs fd_are_signs
  b_are_signs : Binds K fd_are_signs ["value"] []
  g_are_signs : mg "are_signs" = some (.ref f_are_signs)
  f_is_road : Addr
  fd_is_road : FuncData
  F_is_road : Fun K "is_road" "is_road" s_is_road f_is_road fd_is_road
  b_is_road : Binds K fd_is_road ["value"] []
  g_is_road : mg "is_road" = some (.ref f_is_road)
  f_is_net : Addr
  fd_is_net : FuncData
  F_is_net : Fun K "is_net" "is_net" s_is_net f_is_net fd_is_net
  b_is_net : Binds K fd_is_net ["candidate"] []
  g_is_net : mg "is_net" = some (.ref f_is_net)
  f_check_net : Addr
  fd_check_net : FuncData
  F_check_net : Fun K "check_net" "check_net" s_check_net f_check_net fd_check_net
  b_check_net : Binds K fd_check_net ["value"] []
  g_check_net : mg "check_net" = some (.ref f_check_net)
  f_check_road : Addr
  fd_check_road : FuncData
  F_check_road : Fun K "check_road" "check_road" s_check_road f_check_road fd_check_road
  b_check_road : Binds K fd_check_road ["net", "value"] []
  g_check_road : mg "check_road" = some (.ref f_check_road)
  f_find_followers : Addr
  fd_find_followers : FuncData
  F_find_followers : Fun K "find_followers" "find_followers" s_find_followers f_find_followers fd_find_followers
  b_find_followers : Binds K fd_find_followers ["net", "road"] []
  g_find_followers : mg "find_followers" = some (.ref f_find_followers)
  f_find_standing : Addr
  fd_find_standing : FuncData
  F_find_standing : Fun K "find_standing" "find_standing" s_find_standing f_find_standing fd_find_standing
  b_find_standing : Binds K fd_find_standing ["net", "road"] []
  g_find_standing : mg "find_standing" = some (.ref f_find_standing)
  f_pieces : Addr
  fd_pieces : FuncData
  F_pieces : Fun K "pieces" "pieces" s_pieces f_pieces fd_pieces
  b_pieces : Binds K fd_pieces ["net", "road", "state"] []
  g_pieces : mg "pieces" = some (.ref f_pieces)
  f_go_over : Addr
  fd_go_over : FuncData
  F_go_over : Fun K "go_over" "go_over" s_go_over f_go_over fd_go_over
  b_go_over : Binds K fd_go_over ["net", "state"] []
  g_go_over : mg "go_over" = some (.ref f_go_over)
  f_T_init : Addr
  fd_T_init : FuncData
  F_T_init : Fun K "__init__" "Trip.__init__" s_T_init f_T_init fd_T_init
  b_T_init : Binds K fd_T_init ["self", "net", "road"] []
  mkT : Mk K C_Trip f_T_init
  f_T_len : Addr
  fd_T_len : FuncData
  F_T_len : Fun K "__len__" "Trip.__len__" s_T_len f_T_len fd_T_len
  b_T_len : Binds K fd_T_len ["self"] []
  me_T_len : Meth K C_Trip "__len__" f_T_len
  f_T_place : Addr
  fd_T_place : FuncData
  F_T_place : Fun K "place" "Trip.place" s_T_place f_T_place fd_T_place
  b_T_place : Binds K fd_T_place ["self"] []
  me_T_place : Meth K C_Trip "place" f_T_place
  f_T_limit : Addr
  fd_T_limit : FuncData
  F_T_limit : Fun K "limit" "Trip.limit" s_T_limit f_T_limit fd_T_limit
  b_T_limit : Binds K fd_T_limit ["self"] []
  me_T_limit : Meth K C_Trip "limit" f_T_limit
  f_T_seen : Addr
  fd_T_seen : FuncData
  F_T_seen : Fun K "seen" "Trip.seen" s_T_seen f_T_seen fd_T_seen
  b_T_seen : Binds K fd_T_seen ["self"] []
  me_T_seen : Meth K C_Trip "seen" f_T_seen
  f_T_change : Addr
  fd_T_change : FuncData
  F_T_change : Fun K "change" "Trip.change" s_T_change f_T_change fd_T_change
  b_T_change : Binds K fd_T_change ["self", "state"] []
  me_T_change : Meth K C_Trip "change" f_T_change
  f_T_go : Addr
  fd_T_go : FuncData
  F_T_go : Fun K "go" "Trip.go" s_T_go f_T_go fd_T_go
  b_T_go : Binds K fd_T_go ["self"] []
  me_T_go : Meth K C_Trip "go" f_T_go
  f_T_turn : Addr
  fd_T_turn : FuncData
  F_T_turn : Fun K "turn" "Trip.turn" s_T_turn f_T_turn fd_T_turn
  b_T_turn : Binds K fd_T_turn ["self", "road"] []
  me_T_turn : Meth K C_Trip "turn" f_T_turn
  f_T_undo : Addr
  fd_T_undo : FuncData
  F_T_undo : Fun K "undo" "Trip.undo" s_T_undo f_T_undo fd_T_undo
  b_T_undo : Binds K fd_T_undo ["self"] []
  me_T_undo : Meth K C_Trip "undo" f_T_undo
  f_T_redo : Addr
  fd_T_redo : FuncData
  F_T_redo : Fun K "redo" "Trip.redo" s_T_redo f_T_redo fd_T_redo
  b_T_redo : Binds K fd_T_redo ["self"] []
  me_T_redo : Meth K C_Trip "redo" f_T_redo
  f_l_drawn : Addr
  fd_l_drawn : FuncData
  F_l_drawn : Fun K "_law_drawn" "_law_drawn" s_l_drawn f_l_drawn fd_l_drawn
  b_l_drawn : Binds K fd_l_drawn ["script", "k", "many"] []
  g_l_drawn : mg "_law_drawn" = some (.ref f_l_drawn)
  f_l_net : Addr
  fd_l_net : FuncData
  F_l_net : Fun K "_law_net" "_law_net" s_l_net f_l_net fd_l_net
  b_l_net : Binds K fd_l_net ["script", "at", "most"] []
  g_l_net : mg "_law_net" = some (.ref f_l_net)
  f_l_pieces : Addr
  fd_l_pieces : FuncData
  F_l_pieces : Fun K "_law_pieces" "_law_pieces" s_l_pieces f_l_pieces fd_l_pieces
  b_l_pieces : Binds K fd_l_pieces ["net", "road", "state"] []
  g_l_pieces : mg "_law_pieces" = some (.ref f_l_pieces)
  f_l_next : Addr
  fd_l_next : FuncData
  F_l_next : Fun K "_law_next" "_law_next" s_l_next f_l_next fd_l_next
  b_l_next : Binds K fd_l_next ["net", "road"] []
  g_l_next : mg "_law_next" = some (.ref f_l_next)
  f_l_badnet : Addr
  fd_l_badnet : FuncData
  F_l_badnet : Fun K "_law_badnet" "_law_badnet" s_l_badnet f_l_badnet fd_l_badnet
  b_l_badnet : Binds K fd_l_badnet ["script", "at"] []
  g_l_badnet : mg "_law_badnet" = some (.ref f_l_badnet)
  f_l_told : Addr
  fd_l_told : FuncData
  F_l_told : Fun K "_law_told" "_law_told" s_l_told f_l_told fd_l_told
  b_l_told : Binds K fd_l_told ["way", "trip", "one", "two"] []
  g_l_told : mg "_law_told" = some (.ref f_l_told)
  f_l_due : Addr
  fd_l_due : FuncData
  F_l_due : Fun K "_law_due" "_law_due" s_l_due f_l_due fd_l_due
  b_l_due : Binds K fd_l_due ["net", "now", "way", "one"] []
  g_l_due : mg "_law_due" = some (.ref f_l_due)
  f_law : Addr
  fd_law : FuncData
  F_law : Fun K "law" "law" s_law f_law fd_law
  b_law : Binds K fd_law ["script"] []
  g_law : mg "law" = some (.ref f_law)
  m_all : mg "all" = none
  m_bool : mg "bool" = none
  m_enumerate : mg "enumerate" = none
  m_int : mg "int" = none
  m_isinstance : mg "isinstance" = none
  m_len : mg "len" = none
  m_list : mg "list" = none
  m_range : mg "range" = none
  m_tuple : mg "tuple" = none
  c_MAX_JUNCTION : ∃ u, mg "MAX_JUNCTION" = some (.int 5 u)
  c_MAX_LIMIT : ∃ u, mg "MAX_LIMIT" = some (.int 13 u)
  c_MAX_ROADS : ∃ u, mg "MAX_ROADS" = some (.int 8 u)
  c_MAX_SIGNS : ∃ u, mg "MAX_SIGNS" = some (.int 3 u)
  c_MIN_FAST : ∃ u, mg "MIN_FAST" = some (.int 5 u)
  C_AtEnd : Addr
  gc_AtEnd : mg "AtEnd" = some (.ref C_AtEnd)
  x_AtEnd : PySem.W.excIn K C_AtEnd [.type "ValueError", .type "Exception", .type "BaseException", .type "object"] "ValueError.__new__" = true
  k_AtEnd : PySem.W.keepIn K (.ref C_AtEnd) = true
  sb_AtEnd : PySem.W.subIn K (.ref C_AtEnd) (.type "BaseException") = some true
  ty_AtEnd : PySem.W.typeIn K (.ref C_AtEnd) = some (.type "type")
  C_InvalidNet : Addr
  gc_InvalidNet : mg "InvalidNet" = some (.ref C_InvalidNet)
  x_InvalidNet : PySem.W.excIn K C_InvalidNet [.type "ValueError", .type "Exception", .type "BaseException", .type "object"] "ValueError.__new__" = true
  k_InvalidNet : PySem.W.keepIn K (.ref C_InvalidNet) = true
  sb_InvalidNet : PySem.W.subIn K (.ref C_InvalidNet) (.type "BaseException") = some true
  ty_InvalidNet : PySem.W.typeIn K (.ref C_InvalidNet) = some (.type "type")
  C_InvalidRoad : Addr
  gc_InvalidRoad : mg "InvalidRoad" = some (.ref C_InvalidRoad)
  x_InvalidRoad : PySem.W.excIn K C_InvalidRoad [.type "ValueError", .type "Exception", .type "BaseException", .type "object"] "ValueError.__new__" = true
  k_InvalidRoad : PySem.W.keepIn K (.ref C_InvalidRoad) = true
  sb_InvalidRoad : PySem.W.subIn K (.ref C_InvalidRoad) (.type "BaseException") = some true
  ty_InvalidRoad : PySem.W.typeIn K (.ref C_InvalidRoad) = some (.type "type")
  C_NotThere : Addr
  gc_NotThere : mg "NotThere" = some (.ref C_NotThere)
  x_NotThere : PySem.W.excIn K C_NotThere [.type "ValueError", .type "Exception", .type "BaseException", .type "object"] "ValueError.__new__" = true
  k_NotThere : PySem.W.keepIn K (.ref C_NotThere) = true
  sb_NotThere : PySem.W.subIn K (.ref C_NotThere) (.type "BaseException") = some true
  ty_NotThere : PySem.W.typeIn K (.ref C_NotThere) = some (.type "type")
  C_NothingToUndo : Addr
  gc_NothingToUndo : mg "NothingToUndo" = some (.ref C_NothingToUndo)
  x_NothingToUndo : PySem.W.excIn K C_NothingToUndo [.type "ValueError", .type "Exception", .type "BaseException", .type "object"] "ValueError.__new__" = true
  k_NothingToUndo : PySem.W.keepIn K (.ref C_NothingToUndo) = true
  sb_NothingToUndo : PySem.W.subIn K (.ref C_NothingToUndo) (.type "BaseException") = some true
  ty_NothingToUndo : PySem.W.typeIn K (.ref C_NothingToUndo) = some (.type "type")
  C_LimitError : Addr
  gc_LimitError : mg "LimitError" = some (.ref C_LimitError)
  ex_LimitError : ∀ c C, c ∈ knownX → mg c = some (.ref C) → PySem.W.exmOne K (.ref C) (.ref C_LimitError) = some true
  ec : ∀ c C, c ∈ knownX → mg c = some (.ref C) → ExcC K C
  kt_AtEnd : ∀ c C, c ∈ knownX → mg c = some (.ref C) → PySem.W.kitOne K (.ref C) (.ref C_AtEnd) = some (decide (c = ("AtEnd" : Str)))
  kt_InvalidNet : ∀ c C, c ∈ knownX → mg c = some (.ref C) → PySem.W.kitOne K (.ref C) (.ref C_InvalidNet) = some (decide (c = ("InvalidNet" : Str)))
  kt_InvalidRoad : ∀ c C, c ∈ knownX → mg c = some (.ref C) → PySem.W.kitOne K (.ref C) (.ref C_InvalidRoad) = some (decide (c = ("InvalidRoad" : Str)))
  kt_NotThere : ∀ c C, c ∈ knownX → mg c = some (.ref C) → PySem.W.kitOne K (.ref C) (.ref C_NotThere) = some (decide (c = ("NotThere" : Str)))
  kt_NothingToUndo : ∀ c C, c ∈ knownX → mg c = some (.ref C) → PySem.W.kitOne K (.ref C) (.ref C_NothingToUndo) = some (decide (c = ("NothingToUndo" : Str)))

def g_is_int : Ev → RO := (gRet (fAndV (fUn (isiD "int") (fVar 0)) (fAndV (fNotV (fUn (isiD "bool") (fVar 0))) (fChain opLe opLe (fVar 1) (fVar 0) (fVar 2)))))
abbrev d_is_int : List R → Rs R := denB 3 g_is_int

def are_signs_c1 : Ev → Rs R := fLc [1] (fSeq (fVar 0)) (tName 1) fYes (fCall d_is_int (aCons (fVar 1) (aCons (fC (.int 0)) (aCons (fC (.int 13)) aNil))))
def g_are_signs : Ev → RO := (gSeq (gIf (fOr (fNot (fTest (fUn (isiD "tuple") (fVar 0)))) (fTest (fOp opGt (fBi biLen (fCons (fVar 0) fNil)) (fC (.int 3))))) (gRet (fC (.bool false))) gNext)
  (gRet (fBi biAll (fCons are_signs_c1 fNil))))
abbrev d_are_signs : List R → Rs R := denB 2 g_are_signs

def g_is_road : Ev → RO := (gSeq (gIf (fOr (fNot (fTest (fUn (isiD "tuple") (fVar 0)))) (fOr (fTest (fOp opNe (fBi biLen (fCons (fVar 0) fNil)) (fC (.int 4)))) (fNot (fTest (fCall d_are_signs (aCons (fOp opIx (fVar 0) (fC (.int 3))) aNil)))))) (gRet (fC (.bool false))) gNext)
  (gRet (fAndV (fCall d_is_int (aCons (fOp opIx (fVar 0) (fC (.int 0))) (aCons (fC (.int 0)) (aCons (fC (.int 5)) aNil)))) (fAndV (fCall d_is_int (aCons (fOp opIx (fVar 0) (fC (.int 1))) (aCons (fC (.int 0)) (aCons (fC (.int 5)) aNil)))) (fCall d_is_int (aCons (fOp opIx (fVar 0) (fC (.int 2))) (aCons (fC (.int 0)) (aCons (fC (.int 1)) aNil))))))))
abbrev d_is_road : List R → Rs R := denB 1 g_is_road

def is_net_c1 : Ev → Rs R := fLc [5] (fSeq (fVar 4)) (tName 5) fYes (fCall d_is_road (aCons (fVar 5) aNil))
def g_is_net : Ev → RO := (gSeq (gIf (fOr (fNot (fTest (fUn (isiD "tuple") (fVar 0)))) (fOr (fTest (fOp opNe (fBi biLen (fCons (fVar 0) fNil)) (fC (.int 4)))) (fNot (fTest (fCall d_is_int (aCons (fOp opIx (fVar 0) (fC (.int 0))) (aCons (fC (.int 5)) (aCons (fC (.int 13)) aNil)))))))) (gRet (fC (.bool false))) gNext)
  (gSeq (gAsgT (tTupl (tsCons (tName 1) (tsCons (tName 2) (tsCons (tName 3) (tsCons (tName 4) tsNil))))) (fVar 0))
  (gSeq (gIf (fOr (fNot (fTest (fCall d_is_int (aCons (fVar 2) (aCons (fC (.int 1)) (aCons (fVar 1) aNil)))))) (fNot (fTest (fCall d_is_int (aCons (fVar 3) (aCons (fC (.int 0)) (aCons (fC (.int 1)) aNil))))))) (gRet (fC (.bool false))) gNext)
  (gRet (fAndV (fUn (isiD "tuple") (fVar 4)) (fAndV (fChain opLe opLe (fC (.int 1)) (fBi biLen (fCons (fVar 4) fNil)) (fC (.int 8))) (fBi biAll (fCons is_net_c1 fNil))))))))
abbrev d_is_net : List R → Rs R := denB 6 g_is_net

def g_check_net : Ev → RO := (gIf (fNot (fTest (fCall d_is_net (aCons (fVar 0) aNil)))) (fun ρ => .exc "InvalidNet" ρ) gNext)
abbrev d_check_net : List R → Rs R := denB 1 g_check_net

def g_check_road : Ev → RO := (gSeq (gDrop (fCall d_check_net (aCons (fVar 0) aNil)))
  (gIf (fNot (fTest (fCall d_is_int (aCons (fVar 1) (aCons (fC (.int 0)) (aCons (fOp opSub (fBi biLen (fCons (fOp opIx (fVar 0) (fC (.int 3))) fNil)) (fC (.int 1))) aNil)))))) (fun ρ => .exc "InvalidRoad" ρ) gNext))
abbrev d_check_road : List R → Rs R := denB 2 g_check_road

def find_followers_c1 : Ev → Rs R := fLc [2, 3] (fEnum (fOp opIx (fVar 0) (fC (.int 3)))) (tTupl (tsCons (tName 2) (tsCons (tName 3) tsNil))) (fTest (fOp opEq (fOp opIx (fVar 3) (fC (.int 0))) (fOp opIx (fOp opIx (fOp opIx (fVar 0) (fC (.int 3))) (fVar 1)) (fC (.int 1))))) (fVar 2)
def g_find_followers : Ev → RO := (gRet find_followers_c1)
abbrev d_find_followers : List R → Rs R := denB 4 g_find_followers

def g_find_standing : Ev → RO := (gRet (fIf (fTest (fOp opEq (fOp opIx (fOp opIx (fOp opIx (fVar 0) (fC (.int 3))) (fVar 1)) (fC (.int 2))) (fC (.int 1)))) (fOp opIx (fVar 0) (fC (.int 1))) (fOp opIx (fVar 0) (fC (.int 0)))))
abbrev d_find_standing : List R → Rs R := denB 2 g_find_standing

def pieces_c1 : Ev → Rs R := fLc [4] (fSeq (fOp opAdd (fTup (fCons (fVar 2) fNil)) (fOp opIx (fOp opIx (fOp opIx (fVar 0) (fC (.int 3))) (fVar 1)) (fC (.int 3))))) (tName 4) fYes (fIf (fTest (fOp opGt (fVar 4) (fC (.int 0)))) (fVar 4) (fVar 3))
def g_pieces : Ev → RO := (gSeq (gAsgF 3 (fCall d_find_standing (aCons (fVar 0) (aCons (fVar 1) aNil))))
  (gRet pieces_c1))
abbrev d_pieces : List R → Rs R := denB 5 g_pieces

def g_go_over : Ev → RO := (gRet (fIf (fTest (fOp opEq (fOp opIx (fVar 0) (fC (.int 2))) (fC (.int 1)))) (fVar 1) (fC (.int 0))))
abbrev d_go_over : List R → Rs R := denB 2 g_go_over

def T_init1 : Ev → Rs R := (fCall d_check_road (aCons (fVar 1) (aCons (fVar 2) aNil)))
def T_init2 : Ev → Rs R := (fTup (fCons (fVar 2) (fCons (fC (.int 0)) (fCons (fC (.int 0)) (fCons (fTup (fCons (fOp opIx (fCall d_pieces (aCons (fVar 1) (aCons (fVar 2) (aCons (fC (.int 0)) aNil)))) (fC (.int 0))) fNil)) fNil)))))
abbrev d_T_init : List R → Rs R := dInit T_init1 T_init2

def g_T_len : Ev → RO := (gRet (fBi biLen (fCons (fOp opIx (fPre 0) (fC (.int 3))) fNil)))
abbrev d_T_len : List R → Rs R := denB 1 g_T_len

def g_T_place : Ev → RO := (gRet (fSl (fPre 0) fNo (fPart (fC (.int 2)))))
abbrev d_T_place : List R → Rs R := denB 1 g_T_place

def g_T_limit : Ev → RO := (gRet (fOp opIx (fOp opIx (fPre 0) (fC (.int 3))) (fUn opNeg (fC (.int 1)))))
abbrev d_T_limit : List R → Rs R := denB 1 g_T_limit

def g_T_seen : Ev → RO := (gRet (fBi biList (fCons (fOp opIx (fPre 0) (fC (.int 3))) fNil)))
abbrev d_T_seen : List R → Rs R := denB 1 g_T_seen

def g_T_change : Ev → RO := (gSeq (gAppD 0)
  (gSeq (gSetPre 0 (fVar 1))
  (gSetUnd 0 (fLst fNil))))
abbrev d_T_change : List R → RB := denO 2 0 g_T_change

def g_T_go (cT : Addr) : Ev → RO := (gSeq (gAsgT (tTupl (tsCons (tName 1) (tsCons (tName 2) (tsCons (tName 3) (tsCons (tName 4) tsNil))))) (fPre 0))
  (gSeq (gAsgF 5 (fOp opIx (fOp opIx (fOp opIx (fNet 0) (fC (.int 3))) (fVar 1)) (fC (.int 3))))
  (gSeq (gIf (fTest (fOp opGe (fVar 2) (fBi biLen (fCons (fVar 5) fNil)))) (fun ρ => .exc "AtEnd" ρ) gNext)
  (gSeq (gAsgF 6 (fOp opIx (fCall d_pieces (aCons (fNet 0) (aCons (fVar 1) (aCons (fVar 3) aNil)))) (fOp opAdd (fVar 2) (fC (.int 1)))))
  (gSeq (gDropX (xMeth 0 cT d_T_change (aCons (fTup (fCons (fVar 1) (fCons (fOp opAdd (fVar 2) (fC (.int 1))) (fCons (fOp opIx (fVar 5) (fVar 2)) (fCons (fOp opAdd (fVar 4) (fTup (fCons (fVar 6) fNil))) fNil))))) aNil)))
  (gRetk (fVar 6)))))))
abbrev d_T_go (cT : Addr) : List R → RB := denO 7 0 (g_T_go cT)

def g_T_turn (cT : Addr) : Ev → RO := (gSeq (gIf (fNot (fTest (fCall d_is_int (aCons (fVar 1) (aCons (fC (.int 0)) (aCons (fOp opSub (fBi biLen (fCons (fOp opIx (fNet 0) (fC (.int 3))) fNil)) (fC (.int 1))) aNil)))))) (fun ρ => .exc "InvalidRoad" ρ) gNext)
  (gSeq (gAsgT (tTupl (tsCons (tName 2) (tsCons (tName 3) (tsCons (tName 4) (tsCons (tName 5) tsNil))))) (fPre 0))
  (gSeq (gIf (fOr (fTest (fOp opLt (fVar 3) (fBi biLen (fCons (fOp opIx (fOp opIx (fOp opIx (fNet 0) (fC (.int 3))) (fVar 2)) (fC (.int 3))) fNil)))) (fTest (fOp opNotIn (fVar 1) (fCall d_find_followers (aCons (fNet 0) (aCons (fVar 2) aNil)))))) (fun ρ => .exc "NotThere" ρ) gNext)
  (gSeq (gAsgF 4 (fCall d_go_over (aCons (fNet 0) (aCons (fVar 4) aNil))))
  (gSeq (gAsgF 6 (fOp opIx (fCall d_pieces (aCons (fNet 0) (aCons (fVar 1) (aCons (fVar 4) aNil)))) (fC (.int 0))))
  (gSeq (gDropX (xMeth 0 cT d_T_change (aCons (fTup (fCons (fVar 1) (fCons (fC (.int 0)) (fCons (fVar 4) (fCons (fOp opAdd (fVar 5) (fTup (fCons (fVar 6) fNil))) fNil))))) aNil)))
  (gRetk (fVar 6))))))))
abbrev d_T_turn (cT : Addr) : List R → RB := denO 7 0 (g_T_turn cT)

def g_T_undo : Ev → RO := (gSeq (gIf (fTest (fDonNil 0)) (fun ρ => .exc "NothingToUndo" ρ) gNext)
  (gSeq (gAppU 0)
  (gPopD 0)))
abbrev d_T_undo : List R → RB := denO 1 0 g_T_undo

def g_T_redo : Ev → RO := (gSeq (gIf (fTest (fUndNil 0)) (fun ρ => .exc "NothingToUndo" ρ) gNext)
  (gSeq (gAppD 0)
  (gPopU 0)))
abbrev d_T_redo : List R → RB := denO 1 0 g_T_redo

def l_drawn_b1 : Ev → RO := (gSeq (gAsgF 5 (fOp opDiv (fVar 5) (fC (.int 1000000))))
  (gAsgF 4 (fOp opSub (fVar 4) (fC (.int 1)))))
def l_drawn_t1 : Ev → Rs Bool := (fAnd (fTest (fOp opGt (fVar 5) (fC (.int 0)))) (fTest (fOp opGt (fVar 4) (fC (.int 0)))))
def g_l_drawn : Ev → RO := (gSeq (gAsgF 3 (fOp opMulI (fC (.int 7)) (fVar 1)))
  (gSeq (gIf (fSne 0) (gSeq (gAsgF 3 (fSix 0 (fOp opMod (fVar 1) (fSlen 0))))
  (gSeq (gAsgF 4 (fOp opDiv (fVar 1) (fSlen 0)))
  (gSeq (gIf (fAnd (fTest (fOp opGe (fVar 3) (fOp opPow (fC (.int 10)) (fC (.int 18))))) (fTest (fOp opLt (fVar 4) (fC (.int 60))))) (gSeq (gAsgF 5 (fOp opDiv (fVar 3) (fOp opPow (fC (.int 10)) (fC (.int 18)))))
  (gSeq (gWhile l_drawn_t1 l_drawn_b1)
  (gIf (fTest (fOp opGt (fVar 5) (fC (.int 0)))) (gRet (fOp opMod (fOp opMod (fVar 5) (fC (.int 1000000))) (fVar 2))) gNext))) gNext)
  (gAsgF 3 (fOp opAdd (fVar 3) (fOp opMulI (fC (.int 6553)) (fOp opDiv (fVar 1) (fSlen 0)))))))) gNext)
  (gSeq (gAsgF 3 (fOp opMod (fOp opAdd (fOp opMulI (fOp opMod (fVar 3) (fC (.int 2147483563))) (fC (.int 69069))) (fOp opMulI (fC (.int 104723)) (fOp opAdd (fVar 1) (fC (.int 1))))) (fC (.int 2147483563))))
  (gSeq (gAsgF 3 (fOp opMod (fOp opAdd (fOp opMulI (fVar 3) (fVar 3)) (fOp opDiv (fVar 3) (fC (.int 3)))) (fC (.int 2147483399))))
  (gRet (fOp opMod (fOp opDiv (fOp opMod (fOp opAdd (fOp opMulI (fVar 3) (fVar 3)) (fOp opDiv (fVar 3) (fC (.int 7)))) (fC (.int 2147483647))) (fC (.int 11))) (fVar 2)))))))
abbrev d_l_drawn : List R → Rs R := denB 6 g_l_drawn

def l_net_c1 : Ev → Rs R := fLc [13] (fRg1 (fC (.int 3))) (tName 13) fYes (fLst (fCons (fC (.int 0)) (fCons (fC (.int 0)) (fCons (fVar 3) (fCons (fVar 4) (fCons (fC (.int 7)) (fCons (fCall d_l_drawn (aCons (fVar 0) (aCons (fOp opAdd (fOp opAdd (fVar 8) (fC (.int 3))) (fVar 13)) (aCons (fC (.int 14)) aNil)))) fNil)))))))
def l_net_c2 : Ev → Rs R := fLc [13] (fRg1 (fVar 10)) (tName 13) fYes (fOp opIx (fOp opIx (fVar 9) (fVar 13)) (fCall d_l_drawn (aCons (fVar 0) (aCons (fOp opAdd (fOp opAdd (fVar 8) (fC (.int 2))) (fVar 13)) (aCons (fC (.int 6)) aNil)))))
def l_net_b1 : Ev → RO := (gSeq (gAsgF 8 (fOp opAdd (fOp opAdd (fVar 1) (fC (.int 4))) (fOp opMulI (fC (.int 7)) (fVar 7))))
  (gSeq (gAsgF 9 l_net_c1)
  (gSeq (gAsgF 10 (fOp opIx (fLst (fCons (fC (.int 0)) (fCons (fC (.int 1)) (fCons (fC (.int 0)) (fCons (fC (.int 2)) (fCons (fC (.int 3)) fNil)))))) (fCall d_l_drawn (aCons (fVar 0) (aCons (fOp opAdd (fVar 8) (fC (.int 6))) (aCons (fC (.int 5)) aNil))))))
  (gSeq (gAsgF 11 (fBi biTuple (fCons l_net_c2 fNil)))
  (gSeq (gAsgF 12 (fOp opIx (fLst (fCons (fC (.int 0)) (fCons (fC (.int 0)) (fCons (fC (.int 1)) fNil)))) (fCall d_l_drawn (aCons (fVar 0) (aCons (fOp opAdd (fVar 8) (fC (.int 5))) (aCons (fC (.int 3)) aNil))))))
  (gApp 6 (fTup (fCons (fCall d_l_drawn (aCons (fVar 0) (aCons (fVar 8) (aCons (fC (.int 4)) aNil)))) (fCons (fCall d_l_drawn (aCons (fVar 0) (aCons (fOp opAdd (fVar 8) (fC (.int 1))) (aCons (fC (.int 4)) aNil)))) (fCons (fVar 12) (fCons (fVar 11) fNil)))))))))))
def g_l_net : Ev → RO := (gSeq (gAsgF 3 (fOp opAdd (fC (.int 5)) (fCall d_l_drawn (aCons (fVar 0) (aCons (fVar 1) (aCons (fC (.int 9)) aNil))))))
  (gSeq (gPar3 4 5 6 false false true (fOp opAdd (fC (.int 1)) (fCall d_l_drawn (aCons (fVar 0) (aCons (fOp opAdd (fVar 1) (fC (.int 1))) (aCons (fVar 3) aNil))))) (fOp opIx (fLst (fCons (fC (.int 1)) (fCons (fC (.int 1)) (fCons (fC (.int 0)) fNil)))) (fCall d_l_drawn (aCons (fVar 0) (aCons (fOp opAdd (fVar 1) (fC (.int 2))) (aCons (fC (.int 3)) aNil))))) (fLst fNil))
  (gSeq (gFor (fRg1 (fOp opAdd (fC (.int 1)) (fCall d_l_drawn (aCons (fVar 0) (aCons (fOp opAdd (fVar 1) (fC (.int 3))) (aCons (fVar 2) aNil)))))) (tName 7) l_net_b1)
  (fun ρ => (gRet (fTup (fCons (fVar 3) (fCons (fVar 4) (fCons (fVar 5) (fCons (fBi biTuple (fCons (fVar 6) fNil)) fNil)))))) (frzAt 6 ρ)))))
abbrev d_l_net : List R → Rs R := denB 14 g_l_net

def l_pieces_c1 : Ev → Rs R := fLc [7] (fSeq (fOp opAdd (fTup (fCons (fVar 2) fNil)) (fVar 6))) (tName 7) fYes (fIf (fTest (fOp opGt (fVar 7) (fC (.int 0)))) (fVar 7) (fIf (fTest (fOp opEq (fVar 5) (fC (.int 1)))) (fOp opIx (fVar 0) (fC (.int 1))) (fOp opIx (fVar 0) (fC (.int 0)))))
def g_l_pieces : Ev → RO := (gSeq (gAsgT (tTupl (tsCons (tName 3) (tsCons (tName 4) (tsCons (tName 5) (tsCons (tName 6) tsNil))))) (fOp opIx (fOp opIx (fVar 0) (fC (.int 3))) (fVar 1)))
  (gRet l_pieces_c1))
abbrev d_l_pieces : List R → Rs R := denB 8 g_l_pieces

def l_next_c1 : Ev → Rs R := fLc [2] (fRg1 (fBi biLen (fCons (fOp opIx (fVar 0) (fC (.int 3))) fNil))) (tName 2) (fTest (fOp opEq (fOp opIx (fOp opIx (fOp opIx (fVar 0) (fC (.int 3))) (fVar 2)) (fC (.int 0))) (fOp opIx (fOp opIx (fOp opIx (fVar 0) (fC (.int 3))) (fVar 1)) (fC (.int 1))))) (fVar 2)
def g_l_next : Ev → RO := (gRet l_next_c1)
abbrev d_l_next : List R → Rs R := denB 3 g_l_next

def l_badnet_b1 : Ev → RO := (gApp 3 (fTup (fCons (fC (.int 10)) (fCons (fC (.int 5)) (fCons (fC (.int 1)) (fCons (fTup (fCons (fVar 4) fNil)) fNil))))))
def g_l_badnet : Ev → RO := (gSeq (gAsgF 2 (fTup (fCons (fC (.int 0)) (fCons (fC (.int 1)) (fCons (fC (.int 0)) (fCons (fTup fNil) fNil))))))
  (gSeq (gAsg 3 (fLst (fCons (fC .none) (fCons (fTup fNil) (fCons (fTup (fCons (fC (.int 10)) (fCons (fC (.int 5)) (fCons (fC (.int 1)) (fCons (fTup fNil) fNil))))) (fCons (fTup (fCons (fC (.int 4)) (fCons (fC (.int 3)) (fCons (fC (.int 1)) (fCons (fTup (fCons (fVar 2) fNil)) fNil))))) (fCons (fTup (fCons (fC (.int 10)) (fCons (fC (.int 11)) (fCons (fC (.int 1)) (fCons (fTup (fCons (fVar 2) fNil)) fNil))))) fNil)))))))
  (gSeq (fun ρ => (gAsg 3 (fOp opAdd (fVar 3) (fLst (fCons (fTup (fCons (fC (.int 10)) (fCons (fC (.int 5)) (fCons (fC (.int 2)) (fCons (fTup (fCons (fVar 2) fNil)) fNil))))) (fCons (fTup (fCons (fC (.int 10)) (fCons (fC (.int 5)) (fCons (fC (.int 1)) (fCons (fOp opRepT (fTup (fCons (fVar 2) fNil)) (fC (.int 9))) fNil))))) fNil))))) (frzAt 3 ρ))
  (gSeq (fun ρ => (gAsg 3 (fOp opAdd (fVar 3) (fLst (fCons (fLst (fCons (fC (.int 10)) (fCons (fC (.int 5)) (fCons (fC (.int 1)) (fCons (fTup (fCons (fVar 2) fNil)) fNil))))) (fCons (fTup (fCons (fC (.int 10)) (fCons (fC (.int 5)) (fCons (fC (.int 1)) (fCons (fLst (fCons (fVar 2) fNil)) fNil))))) (fCons (fTup (fCons (fC (.bool true)) (fCons (fC (.int 1)) (fCons (fC (.int 1)) (fCons (fTup (fCons (fVar 2) fNil)) fNil))))) fNil)))))) (frzAt 3 ρ))
  (gSeq (fun ρ => (gAsg 3 (fOp opAdd (fVar 3) (fLst (fCons (fTup (fCons (fC (.int 10)) (fCons (fC (.int 5)) (fCons (fC (.int 1)) (fCons (fTup (fCons (fTup (fCons (fC (.int 0)) (fCons (fC (.int 1)) (fCons (fC (.int 0)) fNil)))) fNil)) fNil))))) fNil)))) (frzAt 3 ρ))
  (gSeq (gFor (fSeq (fTup (fCons (fTup (fCons (fC (.int 6)) (fCons (fC (.int 1)) (fCons (fC (.int 0)) (fCons (fTup fNil) fNil))))) (fCons (fTup (fCons (fC (.int 0)) (fCons (fC (.int 1)) (fCons (fC (.int 2)) (fCons (fTup fNil) fNil))))) (fCons (fTup (fCons (fC (.int 0)) (fCons (fC (.int 1)) (fCons (fC (.int 0)) (fCons (fTup (fCons (fC (.int 14)) fNil)) fNil))))) (fCons (fTup (fCons (fC (.int 0)) (fCons (fC (.int 1)) (fCons (fC (.int 0)) (fCons (fTup (fCons (fC (.int 1)) (fCons (fC (.int 2)) (fCons (fC (.int 3)) (fCons (fC (.int 4)) fNil))))) fNil))))) (fCons (fTup (fCons (fC (.int 0)) (fCons (fC (.int 1)) (fCons (fC (.int 0)) (fCons (fLst (fCons (fC (.int 1)) fNil)) fNil))))) fNil))))))) (tName 4) l_badnet_b1)
  (gRet (fOix 3 (fCall d_l_drawn (aCons (fVar 0) (aCons (fVar 1) (aCons (fC (.int 16)) aNil))))))))))))
abbrev d_l_badnet : List R → Rs R := denB 5 g_l_badnet

def l_told_b1 (cT : Addr) : Ev → RO := (gSeq (gIf (fTest (fOp opLt (fVar 0) (fC (.int 2)))) (gRetX (xIf (fTest (fOp opEq (fVar 0) (fC (.int 0)))) (xMeth 1 cT (d_T_go cT) aNil) (xMeth 1 cT (d_T_turn cT) (aCons (fVar 2) aNil)))) gNext)
  (gSeq (gIf (fTest (fOp opLt (fVar 0) (fC (.int 4)))) (gRetX (xIf (fTest (fOp opEq (fVar 0) (fC (.int 2)))) (xMeth 1 cT d_T_undo aNil) (xMeth 1 cT d_T_redo aNil))) gNext)
  (gRetk (fOp opLt (fVLen (fNewV (fMake cT d_T_init (fCons (fVar 2) (fCons (fVar 3) fNil)))) cT d_T_len) (fC (.int 0))))))
def l_told_h1 (cT : Addr) : Str → Addr → Ev → RO := fun c a => (gSeq (gAsgF 5 (fLst (fCons (fIsE a 4 (decide (c = ("InvalidNet" : Str)))) (fCons (fIsE a 4 (decide (c = ("InvalidRoad" : Str)))) (fCons (fIsE a 4 (decide (c = ("AtEnd" : Str)))) fNil)))))
  (gRetk (fTup (fCons (fC (.str "raised")) (fCons (fUn idxT (fOp opAdd (fVar 5) (fLst (fCons (fIsE a 4 (decide (c = ("NotThere" : Str)))) (fCons (fIsE a 4 (decide (c = ("NothingToUndo" : Str)))) fNil))))) fNil)))))
def g_l_told (cT : Addr) : Ev → RO := (gTry knownX 4 (l_told_b1 cT) (l_told_h1 cT))
abbrev d_l_told (cT : Addr) : List R → RB := denO 6 1 (g_l_told cT)

def g_l_due : Ev → RO := (gSeq (gAsgT (tTupl (tsCons (tName 4) (tsCons (tName 5) (tsCons (tName 6) (tsCons (tName 7) tsNil))))) (fVar 1))
  (gSeq (gAsgF 8 (fOp opIx (fOp opIx (fOp opIx (fVar 0) (fC (.int 3))) (fVar 4)) (fC (.int 3))))
  (gSeq (gIf (fTest (fOp opEq (fVar 2) (fC (.int 0)))) (gSeq (gIf (fTest (fOp opEq (fVar 5) (fBi biLen (fCons (fVar 8) fNil)))) (gRet (fTup (fCons (fTup (fCons (fC (.str "raised")) (fCons (fC (.int 2)) fNil))) (fCons (fC .none) fNil)))) gNext)
  (gSeq (gAsgF 9 (fOp opIx (fCall d_l_pieces (aCons (fVar 0) (aCons (fVar 4) (aCons (fVar 6) aNil)))) (fOp opAdd (fVar 5) (fC (.int 1)))))
  (gRet (fTup (fCons (fVar 9) (fCons (fTup (fCons (fVar 4) (fCons (fOp opAdd (fVar 5) (fC (.int 1))) (fCons (fOp opIx (fVar 8) (fVar 5)) (fCons (fOp opAdd (fVar 7) (fLst (fCons (fVar 9) fNil))) fNil))))) fNil)))))) gNext)
  (gSeq (gIf (fTest (fOp opGe (fVar 3) (fBi biLen (fCons (fOp opIx (fVar 0) (fC (.int 3))) fNil)))) (gRet (fTup (fCons (fTup (fCons (fC (.str "raised")) (fCons (fC (.int 1)) fNil))) (fCons (fC .none) fNil)))) gNext)
  (gSeq (gIf (fOr (fTest (fOp opLt (fVar 5) (fBi biLen (fCons (fVar 8) fNil)))) (fTest (fOp opNotIn (fVar 3) (fCall d_l_next (aCons (fVar 0) (aCons (fVar 4) aNil)))))) (gRet (fTup (fCons (fTup (fCons (fC (.str "raised")) (fCons (fC (.int 3)) fNil))) (fCons (fC .none) fNil)))) gNext)
  (gSeq (gAsgF 6 (fOp opMulI (fVar 6) (fOp opIx (fVar 0) (fC (.int 2)))))
  (gSeq (gAsgF 9 (fOp opIx (fCall d_l_pieces (aCons (fVar 0) (aCons (fVar 3) (aCons (fVar 6) aNil)))) (fC (.int 0))))
  (gRet (fTup (fCons (fVar 9) (fCons (fTup (fCons (fVar 3) (fCons (fC (.int 0)) (fCons (fVar 6) (fCons (fOp opAdd (fVar 7) (fLst (fCons (fVar 9) fNil))) fNil))))) fNil)))))))))))
abbrev d_l_due : List R → Rs R := denB 10 g_l_due

def law_b1 (cT : Addr) : Ev → RO := (gSeq (gAsgF 8 (fOp opAdd (fC (.int 60)) (fOp opMulI (fC (.int 3)) (fVar 7))))
  (gSeq (gAsgF 9 (fOp opIx (fLst (fCons (fC (.int 0)) (fCons (fC (.int 0)) (fCons (fC (.int 1)) (fCons (fC (.int 1)) (fCons (fC (.int 1)) (fCons (fC (.int 2)) (fCons (fC (.int 3)) fNil)))))))) (fCall d_l_drawn (aCons (fVar 0) (aCons (fVar 8) (aCons (fC (.int 7)) aNil))))))
  (gSeq (gIf (fTest (fOp opLt (fVar 9) (fC (.int 2)))) (gSeq (gAsgF 10 (fOp opAdd (fCall d_l_next (aCons (fVar 1) (aCons (fOp opIx (fVar 4) (fC (.int 0))) aNil))) (fLst (fCons (fCall d_l_drawn (aCons (fVar 0) (aCons (fOp opAdd (fVar 8) (fC (.int 1))) (aCons (fC (.int 6)) aNil)))) fNil))))
  (gSeq (gAsgF 11 (fOp opIx (fVar 10) (fCall d_l_drawn (aCons (fVar 0) (aCons (fOp opAdd (fVar 8) (fC (.int 2))) (aCons (fBi biLen (fCons (fVar 10) fNil)) aNil))))))
  (gSeq (gAsgT (tTupl (tsCons (tName 12) (tsCons (tName 13) tsNil))) (fCall d_l_due (aCons (fVar 1) (aCons (fVar 4) (aCons (fVar 9) (aCons (fVar 11) aNil))))))
  (gSeq (gIfX (tNeX (xCall 3 (d_l_told cT) (qCons (fVar 9) (qObj 3 (qCons (fVar 11) (qCons (fC (.int 0)) qNil))))) (fVar 12)) (gRet (fC (.bool false))) gNext)
  (gIf (fTest (fOp opIsNot (fVar 13) (fC .none))) (gSeq (gApp 5 (fVar 4))
  (gPar 4 6 false true (fVar 13) (fLst fNil))) gNext))))) (gAlias 5 6 14 15 4 (fTest (fOp opEq (fVar 9) (fC (.int 2)))) (xCall 3 (d_l_told cT) (qCons (fVar 9) (qObj 3 (qCons (fC (.int 0)) (qCons (fC (.int 0)) qNil))))) (fTup (fCons (fC (.str "raised")) (fCons (fC (.int 4)) fNil))) (fC .none)))
  (gSeq (gIf (fOr (fTest (fOp opNe (fVM (fView 3) cT d_T_place) (fSl (fVar 4) fNo (fPart (fC (.int 2)))))) (fTest (fOp opNe (fVM (fView 3) cT d_T_seen) (fOp opIx (fVar 4) (fC (.int 3)))))) (gRet (fC (.bool false))) gNext)
  (gIf (fOr (fTest (fOp opNe (fVM (fView 3) cT d_T_limit) (fOp opIx (fOp opIx (fVar 4) (fC (.int 3))) (fUn opNeg (fC (.int 1)))))) (fTest (fOp opNe (fVLen (fView 3) cT d_T_len) (fBi biLen (fCons (fOp opIx (fVar 4) (fC (.int 3))) fNil))))) (gRet (fC (.bool false))) gNext)))))
def g_law (cT : Addr) : Ev → RO := (gSeq (gAsgF 1 (fCall d_l_net (aCons (fVar 0) (aCons (fC (.int 10)) (aCons (fC (.int 5)) aNil)))))
  (gSeq (gAsgF 2 (fCall d_l_drawn (aCons (fVar 0) (aCons (fC (.int 1)) (aCons (fBi biLen (fCons (fOp opIx (fVar 1) (fC (.int 3))) fNil)) aNil)))))
  (gSeq (gPar4 3 4 5 6 true false true true (fMake cT d_T_init (fCons (fVar 1) (fCons (fVar 2) fNil))) (fTup (fCons (fVar 2) (fCons (fC (.int 0)) (fCons (fC (.int 0)) (fCons (fLst (fCons (fOp opIx (fCall d_l_pieces (aCons (fVar 1) (aCons (fVar 2) (aCons (fC (.int 0)) aNil)))) (fC (.int 0))) fNil)) fNil))))) (fLst fNil) (fLst fNil))
  (gSeq (gFor (fRg1 (fOp opAdd (fC (.int 8)) (fCall d_l_drawn (aCons (fVar 0) (aCons (fC (.int 0)) (aCons (fC (.int 14)) aNil)))))) (tName 7) (law_b1 cT))
  (gSeq (gAsgF 16 (fOp opIx (fLst (fCons (fC .none) (fCons (fUn opNeg (fC (.int 1))) (fCons (fBi biLen (fCons (fOp opIx (fVar 1) (fC (.int 3))) fNil)) (fCons (fC (.bool true)) (fCons (fC (.str "0")) fNil)))))) (fCall d_l_drawn (aCons (fVar 0) (aCons (fC (.int 2)) (aCons (fC (.int 5)) aNil))))))
  (gSeq (gAsgX 17 (xLst2 (xCall 3 (d_l_told cT) (qCons (fC (.int 1)) (qObj 3 (qCons (fVar 16) (qCons (fC (.int 0)) qNil))))) (xCall 3 (d_l_told cT) (qCons (fC (.int 4)) (qObj 3 (qCons (fCall d_l_badnet (aCons (fVar 0) (aCons (fC (.int 3)) aNil))) (qCons (fVar 16) qNil)))))))
  (gSeq (gAsgX 17 (xAdd (fVar 17) (xLst1 (xCall 3 (d_l_told cT) (qCons (fC (.int 4)) (qObj 3 (qCons (fVar 1) (qCons (fVar 16) qNil))))))))
  (gSeq (gIf (fTest (fOp opNe (fVar 17) (fLst (fCons (fTup (fCons (fC (.str "raised")) (fCons (fC (.int 1)) fNil))) (fCons (fTup (fCons (fC (.str "raised")) (fCons (fC (.int 0)) fNil))) (fCons (fTup (fCons (fC (.str "raised")) (fCons (fC (.int 1)) fNil))) fNil)))))) (gRet (fC (.bool false))) gNext)
  (gRet (fAndV (fOp opEq (fVM (fView 3) cT d_T_place) (fSl (fVar 4) fNo (fPart (fC (.int 2))))) (fOp opEq (fVM (fView 3) cT d_T_seen) (fOp opIx (fVar 4) (fC (.int 3))))))))))))))
abbrev d_law (cT : Addr) : List R → Rs R := denB 18 (g_law cT)

section
variable {P : Program} {w : World} {K : PySem.W.Frag} {mg : Str → Option Value} {base : Heap}

theorem ok_is_int (T : Fx K mg) : FnOk P w K mg base (L2.CX P w) 1 T.f_is_int T.fd_is_int ["value", "least", "most"] (spD K mg 3 d_is_int) :=
  fn_den (N := ["value", "least", "most"]) (k := 0) T.F_is_int sc_is_int rfl fun cdv A outer s H E hr tk po => ⟨_, (eb_one (es_ret (ee_and (ek_isi K (ee_var 0) T.m_isinstance T.m_int (by decide +kernel)) (ee_and (ee_not (ek_isi K (ee_var 0) T.m_isinstance T.m_bool (by decide +kernel))) (ee_one (ee_chain op_le op_le od_le od_le (ee_var 1) (ee_var 0) (ee_var 2)))))))⟩

theorem ok_are_signs (T : Fx K mg) : FnOk P w K mg base (L2.CX P w) 2 T.f_are_signs T.fd_are_signs ["value"] (spD K mg 1 d_are_signs) :=
  fn_den (N := ["value", "sign"]) (k := 1) T.F_are_signs sc_are_signs rfl fun cdv A outer s H E hr tk po => ⟨_, (eb_cons (es_if (EW.et (ew_or (et_not (et_val (ek_isi K (ee_var 0) T.m_isinstance T.m_tuple (by decide +kernel)))) (ew_or1 (et_cmp op_gt od_gt (ek_len K T.m_len (ed_cons (ee_var 0) ed_nil)) (ee_globI (by rfl) T.c_MAX_SIGNS.choose_spec) (nomark _))))) (eb_one (es_ret ee_bl)) eb_nil)
      (eb_one (es_ret (ek_all K T.m_all (ed_cons (ee_lc (own := [("sign", 1)]) sc_are_signs.nd (ik_seq K (ee_var 0)) (blkOk_by (N := ["value", "sign"]) (sc := defScope s_are_signs) (by decide +kernel)) (fun _ _ _ _ _ => (eg_name 1 sc_are_signs.nd)) (fun _ _ _ _ _ => ets_nil) (fun _ _ _ _ _ => (ek_call K (ok_is_int T) (hr.mono (by decide)) T.g_is_int T.F_is_int.kp T.b_is_int takes0 (ea_cons (ee_var 1) (ea_cons ee_int (ea_cons (ee_globI (by rfl) T.c_MAX_LIMIT.choose_spec) ea_nil)))))) ed_nil)))))⟩

theorem ok_is_road (T : Fx K mg) : FnOk P w K mg base (L2.CX P w) 3 T.f_is_road T.fd_is_road ["value"] (spD K mg 1 d_is_road) :=
  fn_den (N := ["value"]) (k := 2) T.F_is_road sc_is_road rfl fun cdv A outer s H E hr tk po => ⟨_, (eb_cons (es_if (EW.et (ew_or (et_not (et_val (ek_isi K (ee_var 0) T.m_isinstance T.m_tuple (by decide +kernel)))) (ew_or (tk_ne K hr.units (ek_len K T.m_len (ed_cons (ee_var 0) ed_nil)) ee_int) (ew_or1 (et_not (et_val (ek_call K (ok_are_signs T) (hr.mono (by decide)) T.g_are_signs T.F_are_signs.kp T.b_are_signs tk (ea_cons (ek_ix K (ee_var 0) ee_int) ea_nil)))))))) (eb_one (es_ret ee_bl)) eb_nil)
      (eb_one (es_ret (ee_and (ek_call K (ok_is_int T) (hr.mono (by decide)) T.g_is_int T.F_is_int.kp T.b_is_int tk (ea_cons (ek_ix K (ee_var 0) ee_int) (ea_cons ee_int (ea_cons (ee_globI (by rfl) T.c_MAX_JUNCTION.choose_spec) ea_nil)))) (ee_and (ek_call K (ok_is_int T) (hr.mono (by decide)) T.g_is_int T.F_is_int.kp T.b_is_int tk (ea_cons (ek_ix K (ee_var 0) ee_int) (ea_cons ee_int (ea_cons (ee_globI (by rfl) T.c_MAX_JUNCTION.choose_spec) ea_nil)))) (ee_one (ek_call K (ok_is_int T) (hr.mono (by decide)) T.g_is_int T.F_is_int.kp T.b_is_int tk (ea_cons (ek_ix K (ee_var 0) ee_int) (ea_cons ee_int (ea_cons ee_int ea_nil))))))))))⟩

theorem ok_is_net (T : Fx K mg) : FnOk P w K mg base (L2.CX P w) 4 T.f_is_net T.fd_is_net ["candidate"] (spD K mg 1 d_is_net) :=
  fn_den (N := ["candidate", "fast", "slow", "keeps", "roads", "road"]) (k := 3) T.F_is_net sc_is_net rfl fun cdv A outer s H E hr tk po => ⟨_, (eb_cons (es_if (EW.et (ew_or (et_not (et_val (ek_isi K (ee_var 0) T.m_isinstance T.m_tuple (by decide +kernel)))) (ew_or (tk_ne K hr.units (ek_len K T.m_len (ed_cons (ee_var 0) ed_nil)) ee_int) (ew_or1 (et_not (et_val (ek_call K (ok_is_int T) (hr.mono (by decide)) T.g_is_int T.F_is_int.kp T.b_is_int tk (ea_cons (ek_ix K (ee_var 0) ee_int) (ea_cons (ee_globI (by rfl) T.c_MIN_FAST.choose_spec) (ea_cons (ee_globI (by rfl) T.c_MAX_LIMIT.choose_spec) ea_nil)))))))))) (eb_one (es_ret ee_bl)) eb_nil)
      (eb_cons (es_asgT (ee_var 0) (gk_tup K (egs_cons (eg_name 1 sc_is_net.nd) (egs_cons (eg_name 2 sc_is_net.nd) (egs_cons (eg_name 3 sc_is_net.nd) (egs_cons (eg_name 4 sc_is_net.nd) egs_nil))))))
      (eb_cons (es_if (EW.et (ew_or (et_not (et_val (ek_call K (ok_is_int T) (hr.mono (by decide)) T.g_is_int T.F_is_int.kp T.b_is_int tk (ea_cons (ee_var 2) (ea_cons ee_int (ea_cons (ee_var 1) ea_nil)))))) (ew_or1 (et_not (et_val (ek_call K (ok_is_int T) (hr.mono (by decide)) T.g_is_int T.F_is_int.kp T.b_is_int tk (ea_cons (ee_var 3) (ea_cons ee_int (ea_cons ee_int ea_nil))))))))) (eb_one (es_ret ee_bl)) eb_nil)
      (eb_one (es_ret (ee_and (ek_isi K (ee_var 4) T.m_isinstance T.m_tuple (by decide +kernel)) (ee_and (ee_chain op_le op_le od_le od_le ee_int (ek_len K T.m_len (ed_cons (ee_var 4) ed_nil)) (ee_globI (by rfl) T.c_MAX_ROADS.choose_spec)) (ee_one (ek_all K T.m_all (ed_cons (ee_lc (own := [("road", 5)]) sc_is_net.nd (ik_seq K (ee_var 4)) (blkOk_by (N := ["candidate", "fast", "slow", "keeps", "roads", "road"]) (sc := defScope s_is_net) (by decide +kernel)) (fun _ _ _ _ _ => (eg_name 5 sc_is_net.nd)) (fun _ _ _ _ _ => ets_nil) (fun _ _ _ _ _ => (ek_call K (ok_is_road T) (hr.mono (by decide)) T.g_is_road T.F_is_road.kp T.b_is_road takes0 (ea_cons (ee_var 5) ea_nil)))) ed_nil))))))))))⟩

theorem ok_check_net (T : Fx K mg) : FnOk P w K mg base (L2.CX P w) 5 T.f_check_net T.fd_check_net ["value"] (spD K mg 1 d_check_net) :=
  fn_den (N := ["value"]) (k := 4) T.F_check_net sc_check_net rfl fun cdv A outer s H E hr tk po => ⟨_, (eb_one (es_if (et_not (et_val (ek_call K (ok_is_net T) (hr.mono (by decide)) T.g_is_net T.F_is_net.kp T.b_is_net tk (ea_cons (ee_var 0) ea_nil)))) (eb_one (es_raise tk PySem.F.excBase_ValueError T.x_InvalidNet T.gc_InvalidNet T.k_InvalidNet (raises_own T.sb_InvalidNet T.ty_InvalidNet))) eb_nil))⟩

theorem ok_check_road (T : Fx K mg) : FnOk P w K mg base (L2.CX P w) 6 T.f_check_road T.fd_check_road ["net", "value"] (spD K mg 2 d_check_road) :=
  fn_den (N := ["net", "value"]) (k := 5) T.F_check_road sc_check_road rfl fun cdv A outer s H E hr tk po => ⟨_, (eb_cons (es_expr (ek_call K (ok_check_net T) (hr.mono (by decide)) T.g_check_net T.F_check_net.kp T.b_check_net tk (ea_cons (ee_var 0) ea_nil)))
      (eb_one (es_if (et_not (et_val (ek_call K (ok_is_int T) (hr.mono (by decide)) T.g_is_int T.F_is_int.kp T.b_is_int tk (ea_cons (ee_var 1) (ea_cons ee_int (ea_cons (ee_op op_sub od_sub (ek_len K T.m_len (ed_cons (ek_ix K (ee_var 0) ee_int) ed_nil)) ee_int) ea_nil)))))) (eb_one (es_raise tk PySem.F.excBase_ValueError T.x_InvalidRoad T.gc_InvalidRoad T.k_InvalidRoad (raises_own T.sb_InvalidRoad T.ty_InvalidRoad))) eb_nil)))⟩

theorem ok_find_followers (T : Fx K mg) : FnOk P w K mg base (L2.CX P w) 1 T.f_find_followers T.fd_find_followers ["net", "road"] (spD K mg 2 d_find_followers) :=
  fn_den (N := ["net", "road", "number", "other"]) (k := 0) T.F_find_followers sc_find_followers rfl fun cdv A outer s H E hr tk po => ⟨_, (eb_one (es_ret (ee_lc (own := [("number", 2), ("other", 3)]) sc_find_followers.nd (ik_enum K (ek_ix K (ee_var 0) ee_int) T.m_enumerate) (blkOk_by (N := ["net", "road", "number", "other"]) (sc := defScope s_find_followers) (by decide +kernel)) (fun _ _ _ _ _ => (gk_tup K (egs_cons (eg_name 2 sc_find_followers.nd) (egs_cons (eg_name 3 sc_find_followers.nd) egs_nil)))) (fun _ _ _ _ _ => (ets_one (tk_eq K hr.units (ek_ix K (ee_var 3) ee_int) (ek_ix K (ek_ix K (ek_ix K (ee_var 0) ee_int) (ee_var 1)) ee_int)))) (fun _ _ _ _ _ => (ee_var 2)))))⟩

theorem ok_find_standing (T : Fx K mg) : FnOk P w K mg base (L2.CX P w) 1 T.f_find_standing T.fd_find_standing ["net", "road"] (spD K mg 2 d_find_standing) :=
  fn_den (N := ["net", "road"]) (k := 0) T.F_find_standing sc_find_standing rfl fun cdv A outer s H E hr tk po => ⟨_, (eb_one (es_ret (ee_if (tk_eq K hr.units (ek_ix K (ek_ix K (ek_ix K (ee_var 0) ee_int) (ee_var 1)) ee_int) ee_int) (ek_ix K (ee_var 0) ee_int) (ek_ix K (ee_var 0) ee_int))))⟩

theorem ok_pieces (T : Fx K mg) : FnOk P w K mg base (L2.CX P w) 2 T.f_pieces T.fd_pieces ["net", "road", "state"] (spD K mg 3 d_pieces) :=
  fn_den (N := ["net", "road", "state", "rest", "one"]) (k := 1) T.F_pieces sc_pieces rfl fun cdv A outer s H E hr tk po => ⟨_, (eb_cons (es_asgF 3 sc_pieces.nd (ek_call K (ok_find_standing T) (hr.mono (by decide)) T.g_find_standing T.F_find_standing.kp T.b_find_standing tk (ea_cons (ee_var 0) (ea_cons (ee_var 1) ea_nil))))
      (eb_one (es_ret (ee_lc (own := [("one", 4)]) sc_pieces.nd (ik_seq K (ek_add K (ee_tup (ed_cons (ee_var 2) ed_nil)) (ek_ix K (ek_ix K (ek_ix K (ee_var 0) ee_int) (ee_var 1)) ee_int))) (blkOk_by (N := ["net", "road", "state", "rest", "one"]) (sc := defScope s_pieces) (by decide +kernel)) (fun _ _ _ _ _ => (eg_name 4 sc_pieces.nd)) (fun _ _ _ _ _ => ets_nil) (fun _ _ _ _ _ => (ee_if (et_cmp op_gt od_gt (ee_var 4) ee_int (nomark _)) (ee_var 4) (ee_var 3)))))))⟩

theorem ok_go_over (T : Fx K mg) : FnOk P w K mg base (L2.CX P w) 1 T.f_go_over T.fd_go_over ["net", "state"] (spD K mg 2 d_go_over) :=
  fn_den (N := ["net", "state"]) (k := 0) T.F_go_over sc_go_over rfl fun cdv A outer s H E hr tk po => ⟨_, (eb_one (es_ret (ee_if (tk_eq K hr.units (ek_ix K (ee_var 0) ee_int) ee_int) (ee_var 1) ee_int)))⟩

theorem ok_T_init (T : Fx K mg) : FnOk P w K mg base (L2.CX P w) 7 T.f_T_init T.fd_T_init ["self", "net", "road"] (spI K mg d_T_init) :=
  fn_init (k := 6) T.F_T_init sc_T_init rfl fun cdv A outer s H E hr tk po => einit (ek_call K (ok_check_road T) (hr.mono (by decide)) T.g_check_road T.F_check_road.kp T.b_check_road tk (ea_cons (ee_var 1) (ea_cons (ee_var 2) ea_nil))) (ee_tup (ed_cons (ee_var 2) (ed_cons ee_int (ed_cons ee_int (ed_cons (ee_tup (ed_cons (ek_ix K (ek_call K (ok_pieces T) (hr.mono (by decide)) T.g_pieces T.F_pieces.kp T.b_pieces tk (ea_cons (ee_var 1) (ea_cons (ee_var 2) (ea_cons ee_int ea_nil)))) ee_int) ed_nil)) ed_nil)))))

theorem ok_T_len (T : Fx K mg) : FnOk P w K mg base (L2.CX P w) 1 T.f_T_len T.fd_T_len ["self"] (spD K mg 1 d_T_len) :=
  fn_den (N := ["self"]) (k := 0) T.F_T_len sc_T_len rfl fun cdv A outer s H E hr tk po => ⟨_, (eb_one (es_ret (ek_len K T.m_len (ed_cons (ek_ix K (ek_pre K 0) ee_int) ed_nil))))⟩

theorem ok_T_place (T : Fx K mg) : FnOk P w K mg base (L2.CX P w) 1 T.f_T_place T.fd_T_place ["self"] (spD K mg 1 d_T_place) :=
  fn_den (N := ["self"]) (k := 0) T.F_T_place sc_T_place rfl fun cdv A outer s H E hr tk po => ⟨_, (eb_one (es_ret (ek_sl K (ek_pre K 0) eo_none (eo_some ee_int))))⟩

theorem ok_T_limit (T : Fx K mg) : FnOk P w K mg base (L2.CX P w) 1 T.f_T_limit T.fd_T_limit ["self"] (spD K mg 1 d_T_limit) :=
  fn_den (N := ["self"]) (k := 0) T.F_T_limit sc_T_limit rfl fun cdv A outer s H E hr tk po => ⟨_, (eb_one (es_ret (ek_ix K (ek_ix K (ek_pre K 0) ee_int) (ee_un un_neg ud_neg ee_int))))⟩

theorem ok_T_seen (T : Fx K mg) : FnOk P w K mg base (L2.CX P w) 1 T.f_T_seen T.fd_T_seen ["self"] (spD K mg 1 d_T_seen) :=
  fn_den (N := ["self"]) (k := 0) T.F_T_seen sc_T_seen rfl fun cdv A outer s H E hr tk po => ⟨_, (eb_one (es_ret (ek_list K T.m_list (ed_cons (ek_ix K (ek_pre K 0) ee_int) ed_nil))))⟩

theorem ok_T_change (T : Fx K mg) : FnOk P w K mg base (L2.CX P w) 1 T.f_T_change T.fd_T_change ["self", "state"] (spB K mg 2 0 d_T_change) :=
  fn_denO (N := ["self", "state"]) (k := 0) 0 T.F_T_change sc_T_change rfl fun cdv A outer s H E hr tk po => ⟨_, (eb_cons (es_appD 0)
      (eb_cons (es_setPre 0 (ee_var 1))
      (eb_one (es_setUnd 0 (ee_lst ed_nil)))))⟩

theorem ok_T_go (T : Fx K mg) : FnOk P w K mg base (L2.CX P w) 3 T.f_T_go T.fd_T_go ["self"] (spB K mg 1 0 (d_T_go T.C_Trip)) :=
  fn_denO (N := ["self", "road", "piece", "state", "seen", "signs", "limit"]) (k := 2) 0 T.F_T_go sc_T_go rfl fun cdv A outer s H E hr tk po => ⟨_, (eb_cons (es_asgT (ek_pre K 0) (gk_tup K (egs_cons (eg_name 1 sc_T_go.nd) (egs_cons (eg_name 2 sc_T_go.nd) (egs_cons (eg_name 3 sc_T_go.nd) (egs_cons (eg_name 4 sc_T_go.nd) egs_nil))))))
      (eb_cons (es_asgF 5 sc_T_go.nd (ek_ix K (ek_ix K (ek_ix K (ek_net K 0) ee_int) (ee_var 1)) ee_int))
      (eb_cons (es_if (et_cmp op_ge od_ge (ee_var 2) (ek_len K T.m_len (ed_cons (ee_var 5) ed_nil)) (nomark _)) (eb_one (es_raise tk PySem.F.excBase_ValueError T.x_AtEnd T.gc_AtEnd T.k_AtEnd (raises_own T.sb_AtEnd T.ty_AtEnd))) eb_nil)
      (eb_cons (es_asgF 6 sc_T_go.nd (ek_ix K (ek_call K (ok_pieces T) (hr.mono (by decide)) T.g_pieces T.F_pieces.kp T.b_pieces tk (ea_cons (ek_net K 0) (ea_cons (ee_var 1) (ea_cons (ee_var 3) ea_nil)))) (ek_add K (ee_var 2) ee_int)))
      (eb_cons (es_exprX (ex_meth 0 T.me_T_change (ok_T_change T) (hr.mono (by decide)) T.b_T_change T.tc (fun _ _ _ _ => rfl) tk (ea_cons (ee_tup (ed_cons (ee_var 1) (ed_cons (ek_add K (ee_var 2) ee_int) (ed_cons (ek_ix K (ee_var 5) (ee_var 2)) (ed_cons (ek_add K (ee_var 4) (ee_tup (ed_cons (ee_var 6) ed_nil))) ed_nil))))) ea_nil)))
      (eb_one (es_retk (ee_var 6))))))))⟩

theorem ok_T_turn (T : Fx K mg) : FnOk P w K mg base (L2.CX P w) 3 T.f_T_turn T.fd_T_turn ["self", "road"] (spB K mg 2 0 (d_T_turn T.C_Trip)) :=
  fn_denO (N := ["self", "road", "here", "piece", "state", "seen", "limit"]) (k := 2) 0 T.F_T_turn sc_T_turn rfl fun cdv A outer s H E hr tk po => ⟨_, (eb_cons (es_if (et_not (et_val (ek_call K (ok_is_int T) (hr.mono (by decide)) T.g_is_int T.F_is_int.kp T.b_is_int tk (ea_cons (ee_var 1) (ea_cons ee_int (ea_cons (ee_op op_sub od_sub (ek_len K T.m_len (ed_cons (ek_ix K (ek_net K 0) ee_int) ed_nil)) ee_int) ea_nil)))))) (eb_one (es_raise tk PySem.F.excBase_ValueError T.x_InvalidRoad T.gc_InvalidRoad T.k_InvalidRoad (raises_own T.sb_InvalidRoad T.ty_InvalidRoad))) eb_nil)
      (eb_cons (es_asgT (ek_pre K 0) (gk_tup K (egs_cons (eg_name 2 sc_T_turn.nd) (egs_cons (eg_name 3 sc_T_turn.nd) (egs_cons (eg_name 4 sc_T_turn.nd) (egs_cons (eg_name 5 sc_T_turn.nd) egs_nil))))))
      (eb_cons (es_if (EW.et (ew_or (et_cmp op_lt od_lt (ee_var 3) (ek_len K T.m_len (ed_cons (ek_ix K (ek_ix K (ek_ix K (ek_net K 0) ee_int) (ee_var 2)) ee_int) ed_nil)) (nomark _)) (ew_or1 (tk_notIn K (hu65_of hr) (ee_var 1) (ek_call K (ok_find_followers T) (hr.mono (by decide)) T.g_find_followers T.F_find_followers.kp T.b_find_followers tk (ea_cons (ek_net K 0) (ea_cons (ee_var 2) ea_nil))))))) (eb_one (es_raise tk PySem.F.excBase_ValueError T.x_NotThere T.gc_NotThere T.k_NotThere (raises_own T.sb_NotThere T.ty_NotThere))) eb_nil)
      (eb_cons (es_asgF 4 sc_T_turn.nd (ek_call K (ok_go_over T) (hr.mono (by decide)) T.g_go_over T.F_go_over.kp T.b_go_over tk (ea_cons (ek_net K 0) (ea_cons (ee_var 4) ea_nil))))
      (eb_cons (es_asgF 6 sc_T_turn.nd (ek_ix K (ek_call K (ok_pieces T) (hr.mono (by decide)) T.g_pieces T.F_pieces.kp T.b_pieces tk (ea_cons (ek_net K 0) (ea_cons (ee_var 1) (ea_cons (ee_var 4) ea_nil)))) ee_int))
      (eb_cons (es_exprX (ex_meth 0 T.me_T_change (ok_T_change T) (hr.mono (by decide)) T.b_T_change T.tc (fun _ _ _ _ => rfl) tk (ea_cons (ee_tup (ed_cons (ee_var 1) (ed_cons ee_int (ed_cons (ee_var 4) (ed_cons (ek_add K (ee_var 5) (ee_tup (ed_cons (ee_var 6) ed_nil))) ed_nil))))) ea_nil)))
      (eb_one (es_retk (ee_var 6)))))))))⟩

theorem ok_T_undo (T : Fx K mg) : FnOk P w K mg base (L2.CX P w) 1 T.f_T_undo T.fd_T_undo ["self"] (spB K mg 1 0 d_T_undo) :=
  fn_denO (N := ["self"]) (k := 0) 0 T.F_T_undo sc_T_undo rfl fun cdv A outer s H E hr tk po => ⟨_, (eb_cons (es_if (tk_donNil K 0 hr.units) (eb_one (es_raise tk PySem.F.excBase_ValueError T.x_NothingToUndo T.gc_NothingToUndo T.k_NothingToUndo (raises_own T.sb_NothingToUndo T.ty_NothingToUndo))) eb_nil)
      (eb_cons (es_appU 0)
      (eb_one (es_popD 0))))⟩

theorem ok_T_redo (T : Fx K mg) : FnOk P w K mg base (L2.CX P w) 1 T.f_T_redo T.fd_T_redo ["self"] (spB K mg 1 0 d_T_redo) :=
  fn_denO (N := ["self"]) (k := 0) 0 T.F_T_redo sc_T_redo rfl fun cdv A outer s H E hr tk po => ⟨_, (eb_cons (es_if (tk_undNil K 0 hr.units) (eb_one (es_raise tk PySem.F.excBase_ValueError T.x_NothingToUndo T.gc_NothingToUndo T.k_NothingToUndo (raises_own T.sb_NothingToUndo T.ty_NothingToUndo))) eb_nil)
      (eb_cons (es_appD 0)
      (eb_one (es_popU 0))))⟩

theorem ok_l_drawn (T : Fx K mg) : FnOk P w K mg base (L2.CX P w) 1 T.f_l_drawn T.fd_l_drawn ["script", "k", "many"] (spD K mg 3 d_l_drawn) :=
  fn_den (N := ["script", "k", "many", "cell", "turn", "rest"]) (k := 0) T.F_l_drawn sc_l_drawn rfl fun cdv A outer s H E hr tk po => ⟨_, (eb_cons (es_asgF 3 sc_l_drawn.nd (ee_op op_mul od_mul ee_int (ee_var 1)))
      (eb_cons (es_if (tk_sne K 0 hr.units) (eb_cons (es_asgF 3 sc_l_drawn.nd (ek_six K 0 (ee_op op_mod od_mod (ee_var 1) (ek_slen K 0 T.m_len))))
      (eb_cons (es_asgF 4 sc_l_drawn.nd (ee_op op_fdivW od_div (ee_var 1) (ek_slen K 0 T.m_len)))
      (eb_cons (es_if (EW.et (ew_and (et_cmp op_ge od_ge (ee_var 3) (ee_op op_pow od_pow ee_int ee_int) (nomark _)) (ew_and1 (et_cmp op_lt od_lt (ee_var 4) ee_int (nomark _))))) (eb_cons (es_asgF 5 sc_l_drawn.nd (ee_op op_fdivW od_div (ee_var 3) (ee_op op_pow od_pow ee_int ee_int)))
      (eb_cons (es_while po (EW.et (ew_and (et_cmp op_gt od_gt (ee_var 5) ee_int (nomark _)) (ew_and1 (et_cmp op_gt od_gt (ee_var 4) ee_int (nomark _))))) (eb_cons (es_asgF 5 sc_l_drawn.nd (ee_op op_fdivW od_div (ee_var 5) ee_int))
      (eb_one (es_asgF 4 sc_l_drawn.nd (ee_op op_sub od_sub (ee_var 4) ee_int)))))
      (eb_one (es_if (et_cmp op_gt od_gt (ee_var 5) ee_int (nomark _)) (eb_one (es_ret (ee_op op_mod od_mod (ee_op op_mod od_mod (ee_var 5) ee_int) (ee_var 2)))) eb_nil)))) eb_nil)
      (eb_one (es_asgF 3 sc_l_drawn.nd (ek_add K (ee_var 3) (ee_op op_mul od_mul ee_int (ee_op op_fdivW od_div (ee_var 1) (ek_slen K 0 T.m_len))))))))) eb_nil)
      (eb_cons (es_asgF 3 sc_l_drawn.nd (ee_op op_mod od_mod (ek_add K (ee_op op_mul od_mul (ee_op op_mod od_mod (ee_var 3) ee_int) ee_int) (ee_op op_mul od_mul ee_int (ek_add K (ee_var 1) ee_int))) ee_int))
      (eb_cons (es_asgF 3 sc_l_drawn.nd (ee_op op_mod od_mod (ek_add K (ee_op op_mul od_mul (ee_var 3) (ee_var 3)) (ee_op op_fdivW od_div (ee_var 3) ee_int)) ee_int))
      (eb_one (es_ret (ee_op op_mod od_mod (ee_op op_fdivW od_div (ee_op op_mod od_mod (ek_add K (ee_op op_mul od_mul (ee_var 3) (ee_var 3)) (ee_op op_fdivW od_div (ee_var 3) ee_int)) ee_int) ee_int) (ee_var 2))))))))⟩

theorem ok_l_net (T : Fx K mg) : FnOk P w K mg base (L2.CX P w) 2 T.f_l_net T.fd_l_net ["script", "at", "most"] (spD K mg 3 d_l_net) :=
  fn_den (N := ["script", "at", "most", "fast", "slow", "keeps", "roads", "k", "spot", "some", "many", "signs", "town", "n"]) (k := 1) T.F_l_net sc_l_net rfl fun cdv A outer s H E hr tk po => ⟨_, (eb_cons (es_asgF 3 sc_l_net.nd (ek_add K ee_int (ek_call K (ok_l_drawn T) (hr.mono (by decide)) T.g_l_drawn T.F_l_drawn.kp T.b_l_drawn tk (ea_cons (ee_var 0) (ea_cons (ee_var 1) (ea_cons ee_int ea_nil))))))
      (eb_cons (es_unp3 K 4 5 6 false false true sc_l_net.nd (ek_add K ee_int (ek_call K (ok_l_drawn T) (hr.mono (by decide)) T.g_l_drawn T.F_l_drawn.kp T.b_l_drawn tk (ea_cons (ee_var 0) (ea_cons (ek_add K (ee_var 1) ee_int) (ea_cons (ee_var 3) ea_nil))))) (ek_ix K (ee_lst (ed_cons ee_int (ed_cons ee_int (ed_cons ee_int ed_nil)))) (ek_call K (ok_l_drawn T) (hr.mono (by decide)) T.g_l_drawn T.F_l_drawn.kp T.b_l_drawn tk (ea_cons (ee_var 0) (ea_cons (ek_add K (ee_var 1) ee_int) (ea_cons ee_int ea_nil))))) (ee_lst ed_nil))
      (eb_cons (es_for po (ei_range1 (ek_add K ee_int (ek_call K (ok_l_drawn T) (hr.mono (by decide)) T.g_l_drawn T.F_l_drawn.kp T.b_l_drawn tk (ea_cons (ee_var 0) (ea_cons (ek_add K (ee_var 1) ee_int) (ea_cons (ee_var 2) ea_nil))))) T.m_range) (eg_name 7 sc_l_net.nd) (eb_cons (es_asgF 8 sc_l_net.nd (ek_add K (ek_add K (ee_var 1) ee_int) (ee_op op_mul od_mul ee_int (ee_var 7))))
      (eb_cons (es_asgF 9 sc_l_net.nd (ee_lc (own := [("n", 13)]) sc_l_net.nd (ei_range1 ee_int T.m_range) (blkOk_by (N := ["script", "at", "most", "fast", "slow", "keeps", "roads", "k", "spot", "some", "many", "signs", "town", "n"]) (sc := defScope s_l_net) (by decide +kernel)) (fun _ _ _ _ _ => (eg_name 13 sc_l_net.nd)) (fun _ _ _ _ _ => ets_nil) (fun _ _ _ _ _ => (ee_lst (ed_cons ee_int (ed_cons ee_int (ed_cons (ee_var 3) (ed_cons (ee_var 4) (ed_cons ee_int (ed_cons (ek_call K (ok_l_drawn T) (hr.mono (by decide)) T.g_l_drawn T.F_l_drawn.kp T.b_l_drawn takes0 (ea_cons (ee_var 0) (ea_cons (ek_add K (ek_add K (ee_var 8) ee_int) (ee_var 13)) (ea_cons ee_int ea_nil)))) ed_nil))))))))))
      (eb_cons (es_asgF 10 sc_l_net.nd (ek_ix K (ee_lst (ed_cons ee_int (ed_cons ee_int (ed_cons ee_int (ed_cons ee_int (ed_cons ee_int ed_nil)))))) (ek_call K (ok_l_drawn T) (hr.mono (by decide)) T.g_l_drawn T.F_l_drawn.kp T.b_l_drawn tk (ea_cons (ee_var 0) (ea_cons (ek_add K (ee_var 8) ee_int) (ea_cons ee_int ea_nil))))))
      (eb_cons (es_asgF 11 sc_l_net.nd (ek_tuple K T.m_tuple (ed_cons (ee_lc (own := [("n", 13)]) sc_l_net.nd (ei_range1 (ee_var 10) T.m_range) (blkOk_by (N := ["script", "at", "most", "fast", "slow", "keeps", "roads", "k", "spot", "some", "many", "signs", "town", "n"]) (sc := defScope s_l_net) (by decide +kernel)) (fun _ _ _ _ _ => (eg_name 13 sc_l_net.nd)) (fun _ _ _ _ _ => ets_nil) (fun _ _ _ _ _ => (ek_ix K (ek_ix K (ee_var 9) (ee_var 13)) (ek_call K (ok_l_drawn T) (hr.mono (by decide)) T.g_l_drawn T.F_l_drawn.kp T.b_l_drawn takes0 (ea_cons (ee_var 0) (ea_cons (ek_add K (ek_add K (ee_var 8) ee_int) (ee_var 13)) (ea_cons ee_int ea_nil))))))) ed_nil)))
      (eb_cons (es_asgF 12 sc_l_net.nd (ek_ix K (ee_lst (ed_cons ee_int (ed_cons ee_int (ed_cons ee_int ed_nil)))) (ek_call K (ok_l_drawn T) (hr.mono (by decide)) T.g_l_drawn T.F_l_drawn.kp T.b_l_drawn tk (ea_cons (ee_var 0) (ea_cons (ek_add K (ee_var 8) ee_int) (ea_cons ee_int ea_nil))))))
      (eb_one (es_app 6 (ee_tup (ed_cons (ek_call K (ok_l_drawn T) (hr.mono (by decide)) T.g_l_drawn T.F_l_drawn.kp T.b_l_drawn tk (ea_cons (ee_var 0) (ea_cons (ee_var 8) (ea_cons ee_int ea_nil)))) (ed_cons (ek_call K (ok_l_drawn T) (hr.mono (by decide)) T.g_l_drawn T.F_l_drawn.kp T.b_l_drawn tk (ea_cons (ee_var 0) (ea_cons (ek_add K (ee_var 8) ee_int) (ea_cons ee_int ea_nil)))) (ed_cons (ee_var 12) (ed_cons (ee_var 11) ed_nil)))))))))))))
      (eb_one (es_frz 6 (es_ret (ee_tup (ed_cons (ee_var 3) (ed_cons (ee_var 4) (ed_cons (ee_var 5) (ed_cons (ek_tuple K T.m_tuple (ed_cons (ee_var 6) ed_nil)) ed_nil)))))))))))⟩

theorem ok_l_pieces (T : Fx K mg) : FnOk P w K mg base (L2.CX P w) 1 T.f_l_pieces T.fd_l_pieces ["net", "road", "state"] (spD K mg 3 d_l_pieces) :=
  fn_den (N := ["net", "road", "state", "start", "end", "town", "signs", "one"]) (k := 0) T.F_l_pieces sc_l_pieces rfl fun cdv A outer s H E hr tk po => ⟨_, (eb_cons (es_asgT (ek_ix K (ek_ix K (ee_var 0) ee_int) (ee_var 1)) (gk_tup K (egs_cons (eg_name 3 sc_l_pieces.nd) (egs_cons (eg_name 4 sc_l_pieces.nd) (egs_cons (eg_name 5 sc_l_pieces.nd) (egs_cons (eg_name 6 sc_l_pieces.nd) egs_nil))))))
      (eb_one (es_ret (ee_lc (own := [("one", 7)]) sc_l_pieces.nd (ik_seq K (ek_add K (ee_tup (ed_cons (ee_var 2) ed_nil)) (ee_var 6))) (blkOk_by (N := ["net", "road", "state", "start", "end", "town", "signs", "one"]) (sc := defScope s_l_pieces) (by decide +kernel)) (fun _ _ _ _ _ => (eg_name 7 sc_l_pieces.nd)) (fun _ _ _ _ _ => ets_nil) (fun _ _ _ _ _ => (ee_if (et_cmp op_gt od_gt (ee_var 7) ee_int (nomark _)) (ee_var 7) (ee_if (tk_eq K hr.units (ee_var 5) ee_int) (ek_ix K (ee_var 0) ee_int) (ek_ix K (ee_var 0) ee_int))))))))⟩

theorem ok_l_next (T : Fx K mg) : FnOk P w K mg base (L2.CX P w) 1 T.f_l_next T.fd_l_next ["net", "road"] (spD K mg 2 d_l_next) :=
  fn_den (N := ["net", "road", "k"]) (k := 0) T.F_l_next sc_l_next rfl fun cdv A outer s H E hr tk po => ⟨_, (eb_one (es_ret (ee_lc (own := [("k", 2)]) sc_l_next.nd (ei_range1 (ek_len K T.m_len (ed_cons (ek_ix K (ee_var 0) ee_int) ed_nil)) T.m_range) (blkOk_by (N := ["net", "road", "k"]) (sc := defScope s_l_next) (by decide +kernel)) (fun _ _ _ _ _ => (eg_name 2 sc_l_next.nd)) (fun _ _ _ _ _ => (ets_one (tk_eq K hr.units (ek_ix K (ek_ix K (ek_ix K (ee_var 0) ee_int) (ee_var 2)) ee_int) (ek_ix K (ek_ix K (ek_ix K (ee_var 0) ee_int) (ee_var 1)) ee_int)))) (fun _ _ _ _ _ => (ee_var 2)))))⟩

theorem ok_l_badnet (T : Fx K mg) : FnOk P w K mg base (L2.CX P w) 2 T.f_l_badnet T.fd_l_badnet ["script", "at"] (spD K mg 2 d_l_badnet) :=
  fn_den (N := ["script", "at", "road", "bad", "odd"]) (k := 1) T.F_l_badnet sc_l_badnet rfl fun cdv A outer s H E hr tk po => ⟨_, (eb_cons (es_asgF 2 sc_l_badnet.nd (ee_tup (ed_cons ee_int (ed_cons ee_int (ed_cons ee_int (ed_cons (ee_tup ed_nil) ed_nil))))))
      (eb_cons (es_asg 3 sc_l_badnet.nd (ee_lst (ed_cons ee_non (ed_cons (ee_tup ed_nil) (ed_cons (ee_tup (ed_cons ee_int (ed_cons ee_int (ed_cons ee_int (ed_cons (ee_tup ed_nil) ed_nil))))) (ed_cons (ee_tup (ed_cons ee_int (ed_cons ee_int (ed_cons ee_int (ed_cons (ee_tup (ed_cons (ee_var 2) ed_nil)) ed_nil))))) (ed_cons (ee_tup (ed_cons ee_int (ed_cons ee_int (ed_cons ee_int (ed_cons (ee_tup (ed_cons (ee_var 2) ed_nil)) ed_nil))))) ed_nil)))))))
      (eb_cons (es_frz 3 (es_asg 3 sc_l_badnet.nd (ek_add K (ee_var 3) (ee_lst (ed_cons (ee_tup (ed_cons ee_int (ed_cons ee_int (ed_cons ee_int (ed_cons (ee_tup (ed_cons (ee_var 2) ed_nil)) ed_nil))))) (ed_cons (ee_tup (ed_cons ee_int (ed_cons ee_int (ed_cons ee_int (ed_cons (ek_repT K (ee_tup (ed_cons (ee_var 2) ed_nil)) ee_int) ed_nil))))) ed_nil))))))
      (eb_cons (es_frz 3 (es_asg 3 sc_l_badnet.nd (ek_add K (ee_var 3) (ee_lst (ed_cons (ee_lst (ed_cons ee_int (ed_cons ee_int (ed_cons ee_int (ed_cons (ee_tup (ed_cons (ee_var 2) ed_nil)) ed_nil))))) (ed_cons (ee_tup (ed_cons ee_int (ed_cons ee_int (ed_cons ee_int (ed_cons (ee_lst (ed_cons (ee_var 2) ed_nil)) ed_nil))))) (ed_cons (ee_tup (ed_cons ee_bl (ed_cons ee_int (ed_cons ee_int (ed_cons (ee_tup (ed_cons (ee_var 2) ed_nil)) ed_nil))))) ed_nil)))))))
      (eb_cons (es_frz 3 (es_asg 3 sc_l_badnet.nd (ek_add K (ee_var 3) (ee_lst (ed_cons (ee_tup (ed_cons ee_int (ed_cons ee_int (ed_cons ee_int (ed_cons (ee_tup (ed_cons (ee_tup (ed_cons ee_int (ed_cons ee_int (ed_cons ee_int ed_nil)))) ed_nil)) ed_nil))))) ed_nil)))))
      (eb_cons (es_for po (ik_seq K (ee_tup (ed_cons (ee_tup (ed_cons ee_int (ed_cons ee_int (ed_cons ee_int (ed_cons (ee_tup ed_nil) ed_nil))))) (ed_cons (ee_tup (ed_cons ee_int (ed_cons ee_int (ed_cons ee_int (ed_cons (ee_tup ed_nil) ed_nil))))) (ed_cons (ee_tup (ed_cons ee_int (ed_cons ee_int (ed_cons ee_int (ed_cons (ee_tup (ed_cons ee_int ed_nil)) ed_nil))))) (ed_cons (ee_tup (ed_cons ee_int (ed_cons ee_int (ed_cons ee_int (ed_cons (ee_tup (ed_cons ee_int (ed_cons ee_int (ed_cons ee_int (ed_cons ee_int ed_nil))))) ed_nil))))) (ed_cons (ee_tup (ed_cons ee_int (ed_cons ee_int (ed_cons ee_int (ed_cons (ee_lst (ed_cons ee_int ed_nil)) ed_nil))))) ed_nil))))))) (eg_name 4 sc_l_badnet.nd) (eb_one (es_app 3 (ee_tup (ed_cons ee_int (ed_cons ee_int (ed_cons ee_int (ed_cons (ee_tup (ed_cons (ee_var 4) ed_nil)) ed_nil))))))))
      (eb_one (es_ret (ek_oix K 3 (ek_call K (ok_l_drawn T) (hr.mono (by decide)) T.g_l_drawn T.F_l_drawn.kp T.b_l_drawn tk (ea_cons (ee_var 0) (ea_cons (ee_var 1) (ea_cons ee_int ea_nil)))))))))))))⟩

theorem ok_l_told (T : Fx K mg) : FnOk P w K mg base (L2.CX P w) 9 T.f_l_told T.fd_l_told ["way", "trip", "one", "two"] (spB K mg 4 1 (d_l_told T.C_Trip)) :=
  fn_denO (N := ["way", "trip", "one", "two", "e", "flags"]) (k := 8) 1 T.F_l_told sc_l_told rfl fun cdv A outer s H E hr tk po => ⟨_, (eb_one (es_try (known := knownX) (i := 4) rfl rfl sc_l_told.nd T.gc_LimitError tk T.ex_LimitError (fun W pn xe tk po => (eb_cons (es_if (et_cmp op_lt od_lt (ee_var 0) ee_int (nomark _)) (eb_one (es_retX (ex_if (tk_eq K hr.units (ee_var 0) ee_int) (ex_meth0 1 T.me_T_go (ok_T_go T) (hr.mono (by decide)) T.b_T_go T.tc (fun _ _ _ _ => rfl) tk) (ex_meth 1 T.me_T_turn (ok_T_turn T) (hr.mono (by decide)) T.b_T_turn T.tc (fun _ _ _ _ => rfl) tk (ea_cons (ee_var 2) ea_nil))))) eb_nil)
      (eb_cons (es_if (et_cmp op_lt od_lt (ee_var 0) ee_int (nomark _)) (eb_one (es_retX (ex_if (tk_eq K hr.units (ee_var 0) ee_int) (ex_meth0 1 T.me_T_undo (ok_T_undo T) (hr.mono (by decide)) T.b_T_undo T.tc (fun _ _ _ _ => rfl) tk) (ex_meth0 1 T.me_T_redo (ok_T_redo T) (hr.mono (by decide)) T.b_T_redo T.tc (fun _ _ _ _ => rfl) tk)))) eb_nil)
      (eb_one (es_retk (ee_cmp op_lt od_lt (ek_vlen (ev_new (ee_make T.mkT (ok_T_init T) (hr.mono (by decide)) T.gc_Trip T.b_T_init T.tc tk (ed_cons (ee_var 2) (ed_cons (ee_var 3) ed_nil)))) T.me_T_len (ok_T_len T) (hr.mono (by decide)) T.b_T_len T.m_len) ee_int (nomark _))))))) (fun a oe C c pn hc hm hz hf => (eb_cons (es_asgF 5 sc_l_told.nd (ee_lst (ed_cons (ek_isE K 4 (T.ec c C hc hm) hz hf T.m_isinstance T.gc_InvalidNet (T.kt_InvalidNet c C hc hm)) (ed_cons (ek_isE K 4 (T.ec c C hc hm) hz hf T.m_isinstance T.gc_InvalidRoad (T.kt_InvalidRoad c C hc hm)) (ed_cons (ek_isE K 4 (T.ec c C hc hm) hz hf T.m_isinstance T.gc_AtEnd (T.kt_AtEnd c C hc hm)) ed_nil)))))
      (eb_one (es_retk (ee_tup (ed_cons ee_str (ed_cons (ek_idxT K (ek_add K (ee_var 5) (ee_lst (ed_cons (ek_isE K 4 (T.ec c C hc hm) hz hf T.m_isinstance T.gc_NotThere (T.kt_NotThere c C hc hm)) (ed_cons (ek_isE K 4 (T.ec c C hc hm) hz hf T.m_isinstance T.gc_NothingToUndo (T.kt_NothingToUndo c C hc hm)) ed_nil))))) ed_nil)))))))))⟩

theorem ok_l_due (T : Fx K mg) : FnOk P w K mg base (L2.CX P w) 2 T.f_l_due T.fd_l_due ["net", "now", "way", "one"] (spD K mg 4 d_l_due) :=
  fn_den (N := ["net", "now", "way", "one", "road", "piece", "state", "seen", "signs", "limit"]) (k := 1) T.F_l_due sc_l_due rfl fun cdv A outer s H E hr tk po => ⟨_, (eb_cons (es_asgT (ee_var 1) (gk_tup K (egs_cons (eg_name 4 sc_l_due.nd) (egs_cons (eg_name 5 sc_l_due.nd) (egs_cons (eg_name 6 sc_l_due.nd) (egs_cons (eg_name 7 sc_l_due.nd) egs_nil))))))
      (eb_cons (es_asgF 8 sc_l_due.nd (ek_ix K (ek_ix K (ek_ix K (ee_var 0) ee_int) (ee_var 4)) ee_int))
      (eb_cons (es_if (tk_eq K hr.units (ee_var 2) ee_int) (eb_cons (es_if (tk_eq K hr.units (ee_var 5) (ek_len K T.m_len (ed_cons (ee_var 8) ed_nil))) (eb_one (es_ret (ee_tup (ed_cons (ee_tup (ed_cons ee_str (ed_cons ee_int ed_nil))) (ed_cons ee_non ed_nil))))) eb_nil)
      (eb_cons (es_asgF 9 sc_l_due.nd (ek_ix K (ek_call K (ok_l_pieces T) (hr.mono (by decide)) T.g_l_pieces T.F_l_pieces.kp T.b_l_pieces tk (ea_cons (ee_var 0) (ea_cons (ee_var 4) (ea_cons (ee_var 6) ea_nil)))) (ek_add K (ee_var 5) ee_int)))
      (eb_one (es_ret (ee_tup (ed_cons (ee_var 9) (ed_cons (ee_tup (ed_cons (ee_var 4) (ed_cons (ek_add K (ee_var 5) ee_int) (ed_cons (ek_ix K (ee_var 8) (ee_var 5)) (ed_cons (ek_add K (ee_var 7) (ee_lst (ed_cons (ee_var 9) ed_nil))) ed_nil))))) ed_nil))))))) eb_nil)
      (eb_cons (es_if (et_cmp op_ge od_ge (ee_var 3) (ek_len K T.m_len (ed_cons (ek_ix K (ee_var 0) ee_int) ed_nil)) (nomark _)) (eb_one (es_ret (ee_tup (ed_cons (ee_tup (ed_cons ee_str (ed_cons ee_int ed_nil))) (ed_cons ee_non ed_nil))))) eb_nil)
      (eb_cons (es_if (EW.et (ew_or (et_cmp op_lt od_lt (ee_var 5) (ek_len K T.m_len (ed_cons (ee_var 8) ed_nil)) (nomark _)) (ew_or1 (tk_notIn K (hu65_of hr) (ee_var 3) (ek_call K (ok_l_next T) (hr.mono (by decide)) T.g_l_next T.F_l_next.kp T.b_l_next tk (ea_cons (ee_var 0) (ea_cons (ee_var 4) ea_nil))))))) (eb_one (es_ret (ee_tup (ed_cons (ee_tup (ed_cons ee_str (ed_cons ee_int ed_nil))) (ed_cons ee_non ed_nil))))) eb_nil)
      (eb_cons (es_asgF 6 sc_l_due.nd (ee_op op_mul od_mul (ee_var 6) (ek_ix K (ee_var 0) ee_int)))
      (eb_cons (es_asgF 9 sc_l_due.nd (ek_ix K (ek_call K (ok_l_pieces T) (hr.mono (by decide)) T.g_l_pieces T.F_l_pieces.kp T.b_l_pieces tk (ea_cons (ee_var 0) (ea_cons (ee_var 3) (ea_cons (ee_var 6) ea_nil)))) ee_int))
      (eb_one (es_ret (ee_tup (ed_cons (ee_var 9) (ed_cons (ee_tup (ed_cons (ee_var 3) (ed_cons ee_int (ed_cons (ee_var 6) (ed_cons (ek_add K (ee_var 7) (ee_lst (ed_cons (ee_var 9) ed_nil))) ed_nil))))) ed_nil))))))))))))⟩

theorem ok_law (T : Fx K mg) : FnOk P w K mg base (L2.CX P w) 10 T.f_law T.fd_law ["script"] (spD K mg 1 (d_law T.C_Trip)) :=
  fn_den (N := ["script", "net", "road", "trip", "now", "done", "undone", "k", "at", "way", "near", "one", "due", "new", "used", "kept", "bad", "told"]) (k := 9) T.F_law sc_law rfl fun cdv A outer s H E hr tk po => ⟨_, (eb_cons (es_asgF 1 sc_law.nd (ek_call K (ok_l_net T) (hr.mono (by decide)) T.g_l_net T.F_l_net.kp T.b_l_net tk (ea_cons (ee_var 0) (ea_cons ee_int (ea_cons ee_int ea_nil)))))
      (eb_cons (es_asgF 2 sc_law.nd (ek_call K (ok_l_drawn T) (hr.mono (by decide)) T.g_l_drawn T.F_l_drawn.kp T.b_l_drawn tk (ea_cons (ee_var 0) (ea_cons ee_int (ea_cons (ek_len K T.m_len (ed_cons (ek_ix K (ee_var 1) ee_int) ed_nil)) ea_nil)))))
      (eb_cons (es_unp4 K 3 4 5 6 true false true true sc_law.nd (ee_make T.mkT (ok_T_init T) (hr.mono (by decide)) T.gc_Trip T.b_T_init T.tc tk (ed_cons (ee_var 1) (ed_cons (ee_var 2) ed_nil))) (ee_tup (ed_cons (ee_var 2) (ed_cons ee_int (ed_cons ee_int (ed_cons (ee_lst (ed_cons (ek_ix K (ek_call K (ok_l_pieces T) (hr.mono (by decide)) T.g_l_pieces T.F_l_pieces.kp T.b_l_pieces tk (ea_cons (ee_var 1) (ea_cons (ee_var 2) (ea_cons ee_int ea_nil)))) ee_int) ed_nil)) ed_nil))))) (ee_lst ed_nil) (ee_lst ed_nil))
      (eb_cons (es_for po (ei_range1 (ek_add K ee_int (ek_call K (ok_l_drawn T) (hr.mono (by decide)) T.g_l_drawn T.F_l_drawn.kp T.b_l_drawn tk (ea_cons (ee_var 0) (ea_cons ee_int (ea_cons ee_int ea_nil))))) T.m_range) (eg_name 7 sc_law.nd) (eb_cons (es_asgF 8 sc_law.nd (ek_add K ee_int (ee_op op_mul od_mul ee_int (ee_var 7))))
      (eb_cons (es_asgF 9 sc_law.nd (ek_ix K (ee_lst (ed_cons ee_int (ed_cons ee_int (ed_cons ee_int (ed_cons ee_int (ed_cons ee_int (ed_cons ee_int (ed_cons ee_int ed_nil)))))))) (ek_call K (ok_l_drawn T) (hr.mono (by decide)) T.g_l_drawn T.F_l_drawn.kp T.b_l_drawn tk (ea_cons (ee_var 0) (ea_cons (ee_var 8) (ea_cons ee_int ea_nil))))))
      (eb_cons (es_if (et_cmp op_lt od_lt (ee_var 9) ee_int (nomark _)) (eb_cons (es_asgF 10 sc_law.nd (ek_add K (ek_call K (ok_l_next T) (hr.mono (by decide)) T.g_l_next T.F_l_next.kp T.b_l_next tk (ea_cons (ee_var 1) (ea_cons (ek_ix K (ee_var 4) ee_int) ea_nil))) (ee_lst (ed_cons (ek_call K (ok_l_drawn T) (hr.mono (by decide)) T.g_l_drawn T.F_l_drawn.kp T.b_l_drawn tk (ea_cons (ee_var 0) (ea_cons (ek_add K (ee_var 8) ee_int) (ea_cons ee_int ea_nil)))) ed_nil))))
      (eb_cons (es_asgF 11 sc_law.nd (ek_ix K (ee_var 10) (ek_call K (ok_l_drawn T) (hr.mono (by decide)) T.g_l_drawn T.F_l_drawn.kp T.b_l_drawn tk (ea_cons (ee_var 0) (ea_cons (ek_add K (ee_var 8) ee_int) (ea_cons (ek_len K T.m_len (ed_cons (ee_var 10) ed_nil)) ea_nil))))))
      (eb_cons (es_asgT (ek_call K (ok_l_due T) (hr.mono (by decide)) T.g_l_due T.F_l_due.kp T.b_l_due tk (ea_cons (ee_var 1) (ea_cons (ee_var 4) (ea_cons (ee_var 9) (ea_cons (ee_var 11) ea_nil))))) (gk_tup K (egs_cons (eg_name 12 sc_law.nd) (egs_cons (eg_name 13 sc_law.nd) egs_nil))))
      (eb_cons (es_ifX (tx_ne hr.units (ex_call (k := 3) (j := 1) (ok_l_told T) (hr.mono (by decide)) T.g_l_told T.F_l_told.kp T.b_l_told tk (eq_cons (ee_var 9) (eq_obj (eq_cons (ee_var 11) (eq_cons ee_int eq_nil)))) rfl (ho_of (by decide))) (ee_var 12)) (eb_one (es_ret ee_bl)) eb_nil)
      (eb_one (es_if (et_cmp op_isNotA od_isNot (ee_var 13) ee_non (nomark _)) (eb_cons (es_app 5 (ee_var 4))
      (eb_one (es_par 4 6 false true sc_law.nd (ee_var 13) (ee_lst ed_nil)))) eb_nil)))))) (eb_alias 5 6 14 15 4 sc_law.nd hr.units (tk_eq K hr.units (ee_var 9) ee_int) (ex_call (k := 3) (j := 1) (ok_l_told T) (hr.mono (by decide)) T.g_l_told T.F_l_told.kp T.b_l_told tk (eq_cons (ee_var 9) (eq_obj (eq_cons ee_int (eq_cons ee_int eq_nil)))) rfl (ho_of (by decide))) (ee_tup (ed_cons ee_str (ed_cons ee_int ed_nil))) ee_non))
      (eb_cons (es_if (EW.et (ew_or (tk_ne K hr.units (ek_vm (ev_var 3) T.me_T_place (ok_T_place T) (hr.mono (by decide)) T.b_T_place T.tc (fun _ _ _ _ => rfl) tk) (ek_sl K (ee_var 4) eo_none (eo_some ee_int))) (ew_or1 (tk_ne K hr.units (ek_vm (ev_var 3) T.me_T_seen (ok_T_seen T) (hr.mono (by decide)) T.b_T_seen T.tc (fun _ _ _ _ => rfl) tk) (ek_ix K (ee_var 4) ee_int))))) (eb_one (es_ret ee_bl)) eb_nil)
      (eb_one (es_if (EW.et (ew_or (tk_ne K hr.units (ek_vm (ev_var 3) T.me_T_limit (ok_T_limit T) (hr.mono (by decide)) T.b_T_limit T.tc (fun _ _ _ _ => rfl) tk) (ek_ix K (ek_ix K (ee_var 4) ee_int) (ee_un un_neg ud_neg ee_int))) (ew_or1 (tk_ne K hr.units (ek_vlen (ev_var 3) T.me_T_len (ok_T_len T) (hr.mono (by decide)) T.b_T_len T.m_len) (ek_len K T.m_len (ed_cons (ek_ix K (ee_var 4) ee_int) ed_nil)))))) (eb_one (es_ret ee_bl)) eb_nil)))))))
      (eb_cons (es_asgF 16 sc_law.nd (ek_ix K (ee_lst (ed_cons ee_non (ed_cons (ee_un un_neg ud_neg ee_int) (ed_cons (ek_len K T.m_len (ed_cons (ek_ix K (ee_var 1) ee_int) ed_nil)) (ed_cons ee_bl (ed_cons ee_str ed_nil)))))) (ek_call K (ok_l_drawn T) (hr.mono (by decide)) T.g_l_drawn T.F_l_drawn.kp T.b_l_drawn tk (ea_cons (ee_var 0) (ea_cons ee_int (ea_cons ee_int ea_nil))))))
      (eb_cons (es_asgX 17 sc_law.nd (ex_lst2 (ex_call (k := 3) (j := 1) (ok_l_told T) (hr.mono (by decide)) T.g_l_told T.F_l_told.kp T.b_l_told tk (eq_cons ee_int (eq_obj (eq_cons (ee_var 16) (eq_cons ee_int eq_nil)))) rfl (ho_of (by decide))) (ex_call (k := 3) (j := 1) (ok_l_told T) (hr.mono (by decide)) T.g_l_told T.F_l_told.kp T.b_l_told tk (eq_cons ee_int (eq_obj (eq_cons (ek_call K (ok_l_badnet T) (hr.mono (by decide)) T.g_l_badnet T.F_l_badnet.kp T.b_l_badnet tk (ea_cons (ee_var 0) (ea_cons ee_int ea_nil))) (eq_cons (ee_var 16) eq_nil)))) rfl (ho_of (by decide)))))
      (eb_cons (es_asgX 17 sc_law.nd (ex_add (ee_var 17) (ex_lst1 (ex_call (k := 3) (j := 1) (ok_l_told T) (hr.mono (by decide)) T.g_l_told T.F_l_told.kp T.b_l_told tk (eq_cons ee_int (eq_obj (eq_cons (ee_var 1) (eq_cons (ee_var 16) eq_nil)))) rfl (ho_of (by decide))))))
      (eb_cons (es_if (tk_ne K hr.units (ee_var 17) (ee_lst (ed_cons (ee_tup (ed_cons ee_str (ed_cons ee_int ed_nil))) (ed_cons (ee_tup (ed_cons ee_str (ed_cons ee_int ed_nil))) (ed_cons (ee_tup (ed_cons ee_str (ed_cons ee_int ed_nil))) ed_nil))))) (eb_one (es_ret ee_bl)) eb_nil)
      (eb_one (es_ret (ee_and (ek_eq K hr.units (ek_vm (ev_var 3) T.me_T_place (ok_T_place T) (hr.mono (by decide)) T.b_T_place T.tc (fun _ _ _ _ => rfl) tk) (ek_sl K (ee_var 4) eo_none (eo_some ee_int))) (ee_one (ek_eq K hr.units (ek_vm (ev_var 3) T.me_T_seen (ok_T_seen T) (hr.mono (by decide)) T.b_T_seen T.tc (fun _ _ _ _ => rfl) tk) (ek_ix K (ee_var 4) ee_int))))))))))))))⟩

end
end
end LW
namespace LW
open PySem PySem.Spec PyProof.Rows L2 DN

/-! ### nets -/
structure Road where
  s : Int
  e : Int
  t : Int
  g : List Int
structure Net where
  fast : Int
  slow : Int
  keeps : Int
  roads : List Road
def tI (xs : List Int) : PyData := .tuple (xs.map .int)
def Road.d (r : Road) : PyData := .tuple [.int r.s, .int r.e, .int r.t, tI r.g]
def Net.d (n : Net) : PyData := .tuple [.int n.fast, .int n.slow, .int n.keeps, .tuple (n.roads.map Road.d)]
@[simp] theorem nx0 (n : Net) : opIx n.d (.int 0) = .ok (.val (.int n.fast)) := rfl
@[simp] theorem nx1 (n : Net) : opIx n.d (.int 1) = .ok (.val (.int n.slow)) := rfl
@[simp] theorem nx2 (n : Net) : opIx n.d (.int 2) = .ok (.val (.int n.keeps)) := rfl
@[simp] theorem nx3 (n : Net) : opIx n.d (.int 3) = .ok (.val (.tuple (n.roads.map Road.d))) := rfl
@[simp] theorem rx0 (n : Road) : opIx n.d (.int 0) = .ok (.val (.int n.s)) := rfl
@[simp] theorem rx1 (n : Road) : opIx n.d (.int 1) = .ok (.val (.int n.e)) := rfl
@[simp] theorem rx2 (n : Road) : opIx n.d (.int 2) = .ok (.val (.int n.t)) := rfl
@[simp] theorem rx3 (n : Road) : opIx n.d (.int 3) = .ok (.val (tI n.g)) := rfl
@[simp] theorem n_tupl (n : Net) (ts : List PyData → Ev → Rs Ev) (ρ : Ev) : tTupl ts n.d ρ = ts [.int n.fast, .int n.slow, .int n.keeps, .tuple (n.roads.map Road.d)] ρ := rfl
@[simp] theorem r_tupl (n : Road) (ts : List PyData → Ev → Rs Ev) (ρ : Ev) : tTupl ts n.d ρ = ts [.int n.s, .int n.e, .int n.t, tI n.g] ρ := rfl
@[simp] theorem tI_len (xs : List Int) : biLen [tI xs] = .ok (.val (.int xs.length)) := by simp [tI]
@[simp] theorem tI_seq (xs : List Int) : seqD (tI xs) = .ok (xs.map .int) := rfl
structure Road.Ok (r : Road) : Prop where
  s0 : 0 ≤ r.s
  s5 : r.s ≤ 5
  e0 : 0 ≤ r.e
  e5 : r.e ≤ 5
  t : r.t = 0 ∨ r.t = 1
  gl : r.g.length ≤ 3
  g : ∀ x ∈ r.g, 0 ≤ x ∧ x ≤ 13
structure Net.Ok (n : Net) : Prop where
  f5 : 5 ≤ n.fast
  f13 : n.fast ≤ 13
  s1 : 1 ≤ n.slow
  sf : n.slow ≤ n.fast
  k : n.keeps = 0 ∨ n.keeps = 1
  r1 : 1 ≤ n.roads.length
  r8 : n.roads.length ≤ 8
  r : ∀ r ∈ n.roads, r.Ok

/-! ### the judging functions, at any data -/
def isIntB (d : PyData) (a b : Int) : Bool := match d with
  | .int i => decide (a ≤ i) && decide (i ≤ b)
  | _ => false
@[simp] theorem is_int_den (d : PyData) (a b : Int) : d_is_int [.val d, .val (.int a), .val (.int b)] = .ok (.val (.bool (isIntB d a b))) := by
  unfold d_is_int denB g_is_int
  cases d <;> simp [startE, isI, isB, isIntB]
  rename_i i
  by_cases h : a ≤ i <;> simp [h]
def areSignsB (d : PyData) : Bool := match d with
  | .tuple ds => decide (ds.length ≤ 3) && ds.all fun x => isIntB x 0 13
  | _ => false
theorem asBs_of (ds : List PyData) (f : PyData → Bool) : asBs (ds.map fun x => PyData.bool (f x)) = some (ds.map f) := by
  rw [show (ds.map fun x => PyData.bool (f x)) = (ds.map f).map PyData.bool by simp]
  exact asBs_map _
theorem lim_of {n : Nat} (h : n ≤ 1000) : n ≤ lim := Nat.le_trans h (by decide)
/-- a comprehension of truth values over the items of a tuple -/
theorem all_lc {i : Nat} {fe : Ev → Rs R} {ρ : Ev} {ds : List PyData} (f : PyData → Bool) (h : ∀ x ∈ ds, fe ((wipeE ρ [i]).set i (some (.val x))) = .ok (.val (.bool (f x)))) :
    lcGo (tName i) fYes fe (wipeE ρ [i]) ds = .ok (ds.map fun x => .bool (f x)) := by
  have := lcGo_map (ft := tName i) (fe := fe) (ρ := wipeE ρ [i]) id (fun x => (wipeE ρ [i]).set i (some (.val x))) (fun x => .bool (f x)) ds (fun _ _ => rfl) (fun x hx => by rw [h x hx]; rfl)
  simpa using this
@[simp] theorem are_signs_den (d : PyData) : d_are_signs [.val d] = .ok (.val (.bool (areSignsB d))) := by
  unfold d_are_signs denB g_are_signs
  cases d <;> simp [startE, isT, areSignsB]
  rename_i ds
  by_cases h : 3 < (ds.length : Int)
  · have h3 : ¬ ds.length ≤ 3 := by omega
    simp [h, h3]
  · have h3 : ds.length ≤ 3 := by omega
    have e : are_signs_c1 [some (.val (.tuple ds)), none] = .ok (.own (ds.map fun x => .bool (isIntB x 0 13))) :=
      fLc_of (ds := ds) (by simp) (lim_of (by omega)) (all_lc _ fun x hx => by simp)
    simp [h, h3, e, asBs_of]
def isRoadB (d : PyData) : Bool := match d with
  | .tuple [a, b, c, s] => areSignsB s && isIntB a 0 5 && isIntB b 0 5 && isIntB c 0 1
  | _ => false
theorem four {ds : List PyData} (h : ds.length = 4) : ∃ a b c d, ds = [a, b, c, d] := by
  match ds, h with
  | [a, b, c, d], _ => exact ⟨a, b, c, d, rfl⟩
@[simp] theorem is_road_den (d : PyData) : d_is_road [.val d] = .ok (.val (.bool (isRoadB d))) := by
  unfold d_is_road denB g_is_road
  cases d <;> simp [startE, isT, isRoadB]
  rename_i ds
  by_cases h : (ds.length : Int) = 4
  · obtain ⟨a, b, c, e, rfl⟩ := four (ds := ds) (by omega)
    simp
    cases h1 : areSignsB e <;> cases h2 : isIntB a 0 5 <;> cases h3 : isIntB b 0 5 <;> cases h4 : isIntB c 0 1 <;> simp [h1, h2, h3, h4]
  · simp [h]
    split
    · rename_i heq
      cases heq
      simp at h
    · rfl
theorem isIntB_true {d : PyData} {a b : Int} (h : isIntB d a b = true) : ∃ i, d = .int i ∧ a ≤ i ∧ i ≤ b := by
  cases d <;> simp [isIntB] at h
  exact ⟨_, rfl, h⟩
def intOf : PyData → Int
  | .int i => i
  | _ => 0
def roadsB : PyData → Bool
  | .tuple ds => decide (1 ≤ ds.length) && decide (ds.length ≤ 8) && ds.all isRoadB
  | _ => false
def isNetB (d : PyData) : Bool := match d with
  | .tuple [f, s, k, r] => isIntB f 5 13 && isIntB s 1 (intOf f) && isIntB k 0 1 && roadsB r
  | _ => false
@[simp] theorem is_net_den (d : PyData) : d_is_net [.val d] = .ok (.val (.bool (isNetB d))) := by
  unfold d_is_net denB g_is_net
  cases d <;> simp [startE, isT, isNetB]
  rename_i ds
  by_cases h : (ds.length : Int) = 4
  · obtain ⟨a, b, c, e, rfl⟩ := four (ds := ds) (by omega)
    simp
    cases h1 : isIntB a 5 13 with
    | false => simp
    | true =>
      obtain ⟨i, rfl, _, _⟩ := isIntB_true h1
      simp [intOf]
      cases h2 : isIntB b 1 i with
      | false => simp
      | true =>
        cases h3 : isIntB c 0 1 with
        | false => simp
        | true =>
          simp
          cases e with
          | tuple rs =>
            simp [isT, roadsB]
            by_cases h4 : 1 ≤ (rs.length : Int)
            · have h4' : 1 ≤ rs.length := by omega
              by_cases h5 : (rs.length : Int) ≤ 8
              · have h5' : rs.length ≤ 8 := by omega
                have e : is_net_c1 [some (.val (.tuple [.int i, b, c, .tuple rs])), some (.val (.int i)), some (.val b), some (.val c), some (.val (.tuple rs)), none] = .ok (.own (rs.map fun x => .bool (isRoadB x))) :=
                  fLc_of (ds := rs) (by simp) (lim_of (by omega)) (all_lc _ fun x hx => by simp)
                simp [h4, h5, h4', h5', e, asBs_of]
              · have h5' : ¬ rs.length ≤ 8 := by omega
                simp [h4, h5, h4', h5']
            · have h4' : ¬ 1 ≤ rs.length := by omega
              simp [h4, h4']
          | none => simp [isT, roadsB]
          | bool _ => simp [isT, roadsB]
          | int _ => simp [isT, roadsB]
          | str _ => simp [isT, roadsB]
          | list _ => simp [isT, roadsB]
          | dict _ => simp [isT, roadsB]
  · simp [h]
    split
    · rename_i heq
      cases heq
      simp at h
    · rfl
@[simp] theorem check_net_den (d : PyData) : d_check_net [.val d] = if isNetB d = true then .ok (.val .none) else .err "InvalidNet" := by
  unfold d_check_net denB g_check_net
  simp [startE]
  cases h : isNetB d <;> simp
@[simp] theorem isIntB_int (i a b : Int) : isIntB (.int i) a b = (decide (a ≤ i) && decide (i ≤ b)) := rfl
theorem Road.Ok.b {r : Road} (h : r.Ok) : isRoadB r.d = true := by
  unfold Road.d isRoadB areSignsB tI
  have h1 := h.t
  have h2 := h.g
  simp [h.s0, h.s5, h.e0, h.e5, h.gl]
  refine ⟨fun x hx => ?_, by omega, by omega⟩
  exact h2 x hx
@[simp] theorem Net.Ok.b {n : Net} (h : n.Ok) : isNetB n.d = true := by
  unfold Net.d isNetB roadsB
  have h1 := h.k
  simp [intOf, h.f5, h.f13, h.s1, h.sf, h.r1, h.r8]
  exact ⟨⟨by omega, by omega⟩, fun r hr => (h.r r hr).b⟩
end LW
namespace LW
open PySem PySem.Spec PyProof.Rows L2 DN

def Net.rd (n : Net) (k : Nat) : Road := n.roads.getD k ⟨0, 0, 0, []⟩
theorem rd_get {n : Net} {k : Nat} (hk : k < n.roads.length) : (n.roads.map Road.d)[k]? = some (n.rd k).d := by
  simp [Net.rd, hk]
theorem rd_mem {n : Net} {k : Nat} (hk : k < n.roads.length) : n.rd k ∈ n.roads := by
  simp [Net.rd, hk]
theorem Net.Ok.rd {n : Net} (h : n.Ok) {k : Nat} (hk : k < n.roads.length) : (n.rd k).Ok := h.r _ (rd_mem hk)
theorem roads_range (n : Net) : n.roads = (List.range n.roads.length).map n.rd := by
  apply List.ext_getElem?
  intro i
  by_cases h : i < n.roads.length
  · simp [Net.rd, h]
  · simp [h]
def nI (ks : List Nat) : List PyData := ks.map fun k => .int (k : Nat)
/-- the roads that can follow -/
def Net.aft (n : Net) (k : Nat) : List Nat := (List.range n.roads.length).filter fun i => decide ((n.rd i).s = (n.rd k).e)
theorem aft_lt {n : Net} {k i : Nat} (h : i ∈ n.aft k) : i < n.roads.length := by
  have := (List.mem_filter.mp h).1
  simpa using this
theorem aft_len (n : Net) (k : Nat) : (n.aft k).length ≤ n.roads.length := by
  have := List.length_filter_le (fun i => decide ((n.rd i).s = (n.rd k).e)) (List.range n.roads.length)
  simpa [Net.aft] using this
def Net.st (n : Net) (k : Nat) : Int := if (n.rd k).t = 1 then n.slow else n.fast
theorem enumD_map {α : Type} (f : α → PyData) (xs : List α) (dflt : α) : enumD (xs.map f) = (List.range xs.length).map fun i => PyData.tuple [.int (i : Nat), f (xs.getD i dflt)] := by
  unfold enumD
  apply List.ext_getElem?
  intro i
  by_cases h : i < xs.length
  · simp [h]
  · simp [h]
@[simp] theorem check_road_den {n : Net} (h : n.Ok) (v : PyData) : d_check_road [.val n.d, .val v] = if isIntB v 0 (n.roads.length - 1) = true then .ok (.val .none) else .err "InvalidRoad" := by
  unfold d_check_road denB g_check_road
  simp [startE, h.b]
  cases isIntB v 0 (n.roads.length - 1) <;> simp
theorem road_in {n : Net} {k : Nat} (hk : k < n.roads.length) : isIntB (.int (k : Nat)) 0 (n.roads.length - 1) = true := by
  simp
  omega
@[simp] theorem find_followers_den {n : Net} {k : Nat} (hk : k < n.roads.length) (h8 : n.roads.length ≤ 1000) : d_find_followers [.val n.d, .val (.int (k : Nat))] = .ok (.own (nI (n.aft k))) := by
  unfold d_find_followers denB g_find_followers
  have e : find_followers_c1 [some (.val n.d), some (.val (.int (k : Nat))), none, none] = .ok (.own (nI (n.aft k))) := by
    refine fLc_of (ds := enumD (n.roads.map Road.d)) (by simp) (lim_of (by simp [enumD]; omega)) ?_
    rw [enumD_map Road.d n.roads ⟨0, 0, 0, []⟩]
    refine lcGo_typed (fun i => PyData.tuple [.int (i : Nat), (n.rd i).d]) (fun i => [some (.val n.d), some (.val (.int k)), some (.val (.int (i : Nat))), some (.val (n.rd i).d)]) (fun i => decide ((n.rd i).s = (n.rd k).e)) (fun i => .int (i : Nat)) (List.range n.roads.length)
      (fun i hi => by simp) (fun i hi => ?_) (fun i hi _ => by simp)
    simp [rd_get hk]
  simp [startE, e]
@[simp] theorem find_standing_den {n : Net} {k : Nat} (hk : k < n.roads.length) : d_find_standing [.val n.d, .val (.int (k : Nat))] = .ok (.val (.int (n.st k))) := by
  unfold d_find_standing denB g_find_standing
  simp [startE, rd_get hk, Net.st]
  by_cases h : (n.rd k).t = 1 <;> simp [h]
/-! ### ways -/
def linkB (n : Net) : List Int → Bool
  | a :: b :: r => decide ((n.rd a.toNat).e = (n.rd b.toNat).s) && linkB n (b :: r)
  | _ => true
def hasWayB (n : Net) : PyData → Bool
  | .tuple ds => decide (1 ≤ ds.length) && decide (ds.length ≤ 20) && ds.all (fun x => isIntB x 0 (n.roads.length - 1)) && linkB n (ds.map intOf)
  | _ => false
theorem allInts {a b : Int} : ∀ {ds : List PyData}, (ds.all fun x => isIntB x a b) = true → ∃ ks : List Int, ds = ks.map .int ∧ ∀ k ∈ ks, a ≤ k ∧ k ≤ b
  | [], _ => ⟨[], rfl, by simp⟩
  | d :: ds, h => by
    rw [List.all_cons, Bool.and_eq_true_iff] at h
    obtain ⟨i, rfl, h1, h2⟩ := isIntB_true h.1
    obtain ⟨ks, rfl, hk⟩ := allInts h.2
    exact ⟨i :: ks, rfl, fun k hk' => by
      rcases List.mem_cons.mp hk' with rfl | h'
      · exact ⟨h1, h2⟩
      · exact hk k h'⟩
theorem linkB_zip (n : Net) : ∀ ks : List Int, linkB n ks = (ks.zip (ks.drop 1)).all fun p => decide ((n.rd p.1.toNat).e = (n.rd p.2.toNat).s)
  | [] => rfl
  | [_] => rfl
  | a :: b :: r => by
    have ih := linkB_zip n (b :: r)
    show (decide _ && linkB n (b :: r)) = _
    rw [ih]
    rfl
theorem zipD_ints (xs ys : List Int) : zipD (xs.map .int) (ys.map .int) = (xs.zip ys).map fun p => PyData.tuple [.int p.1, .int p.2] := by
  unfold zipD
  rw [List.zip_map, List.map_map]
  rfl
end LW
namespace LW
open PySem PySem.Spec PyProof.Rows L2 DN

end LW
namespace LW
open PySem PySem.Spec PyProof.Rows L2 DN

/-! ### ways, by length -/
def Net.ext (n : Net) (r : List Nat) : List (List Nat) := (n.aft (r.getLastD 0)).map fun k => r ++ [k]
def Net.lev (n : Net) : Nat → List (List Nat)
  | 0 => (List.range n.roads.length).map fun k => [k]
  | t + 1 => (n.lev t).flatMap n.ext
def Net.routes (n : Net) (m : Nat) : List (List Nat) := (List.range m).flatMap n.lev
def wD (r : List Nat) : PyData := .tuple (nI r)
structure Net.Way (n : Net) (r : List Nat) : Prop where
  ne : r ≠ []
  lt : ∀ k ∈ r, k < n.roads.length
  link : ∀ (i a b : Nat), r[i]? = some a → r[i + 1]? = some b → (n.rd a).e = (n.rd b).s
theorem last_lt {n : Net} {r : List Nat} (h : n.Way r) : r.getLastD 0 < n.roads.length := by
  apply h.lt
  rw [List.getLastD_eq_getLast?, List.getLast?_eq_some_getLast h.ne]
  exact List.getLast_mem h.ne
theorem ext_way {n : Net} {r r' : List Nat} (h : n.Way r) (hr : r' ∈ n.ext r) : n.Way r' := by
  unfold Net.ext at hr
  obtain ⟨k, hk, rfl⟩ := List.mem_map.mp hr
  have hk2 := List.mem_filter.mp hk
  have hk3 : (n.rd k).s = (n.rd (r.getLastD 0)).e := by simpa using hk2.2
  refine ⟨by simp, fun x hx => ?_, fun i a b ha hb => ?_⟩
  · rcases List.mem_append.mp hx with hx | hx
    · exact h.lt x hx
    · simp at hx
      subst hx
      exact aft_lt hk
  · by_cases h1 : i + 1 < r.length
    · rw [List.getElem?_append_left (by omega)] at ha hb
      exact h.link i a b ha hb
    · by_cases h2 : i + 1 = r.length
      · rw [List.getElem?_append_right (by omega)] at hb
        rw [List.getElem?_append_left (by omega)] at ha
        simp [h2] at hb
        subst hb
        have : r.getLastD 0 = a := by
          rw [List.getLastD_eq_getLast?, List.getLast?_eq_getElem?, show r.length - 1 = i by omega, ha]
          rfl
        rw [hk3, this]
      · rw [List.getElem?_append_right (by omega)] at hb
        have : ([k] : List Nat).length ≤ i + 1 - r.length := by simp; omega
        rw [List.getElem?_eq_none this] at hb
        cases hb
theorem lev_way {n : Net} : ∀ {t : Nat} {r : List Nat}, r ∈ n.lev t → n.Way r ∧ r.length = t + 1
  | 0, r, h => by
    obtain ⟨k, hk, rfl⟩ := List.mem_map.mp h
    have hk' : k < n.roads.length := by simpa using hk
    refine ⟨⟨by simp, fun x hx => by simp at hx; omega, fun i a b ha hb => ?_⟩, rfl⟩
    simp at hb
  | t + 1, r, h => by
    obtain ⟨r0, h0, h1⟩ := List.mem_flatMap.mp h
    have ih := lev_way h0
    refine ⟨ext_way ih.1 h1, ?_⟩
    obtain ⟨k, _, rfl⟩ := List.mem_map.mp h1
    simp [ih.2]
theorem flat_len {α β : Type} {f : α → List β} {c : Nat} : ∀ {xs : List α}, (∀ x ∈ xs, (f x).length ≤ c) → (xs.flatMap f).length ≤ xs.length * c
  | [], _ => by simp
  | x :: xs, h => by
    have ih := flat_len (xs := xs) fun y hy => h y (List.mem_cons_of_mem _ hy)
    have := h x List.mem_cons_self
    simp only [List.flatMap_cons, List.length_append, List.length_cons, Nat.succ_mul]
    omega
theorem ext_len (n : Net) (r : List Nat) : (n.ext r).length ≤ n.roads.length := by
  unfold Net.ext
  rw [List.length_map]
  exact aft_len n _
theorem lev_len (n : Net) : ∀ t : Nat, (n.lev t).length ≤ n.roads.length ^ (t + 1)
  | 0 => by simp [Net.lev]
  | t + 1 => by
    have := flat_len (f := n.ext) (xs := n.lev t) (fun r _ => ext_len n r)
    have ih := lev_len n t
    unfold Net.lev
    refine Nat.le_trans this ?_
    rw [Nat.pow_succ]
    exact Nat.mul_le_mul_right _ ih
theorem lev_len8 {n : Net} (h : n.roads.length ≤ 8) {t : Nat} (ht : t ≤ 5) : (n.lev t).length ≤ 262144 := by
  refine Nat.le_trans (lev_len n t) (Nat.le_trans (Nat.pow_le_pow_left h _) ?_)
  exact Nat.le_trans (Nat.pow_le_pow_right (by decide) (show t + 1 ≤ 6 by omega)) (by decide)
theorem routes_succ (n : Net) (m : Nat) : n.routes (m + 1) = n.routes m ++ n.lev m := by
  unfold Net.routes
  rw [List.range_succ]
  simp
theorem routes_len8 {n : Net} (h : n.roads.length ≤ 8) : ∀ {m : Nat}, m ≤ 6 → (n.routes m).length ≤ (8 ^ (m + 1) - 1) / 7
  | 0, _ => by simp [Net.routes]
  | m + 1, hm => by
    have ih := routes_len8 h (m := m) (by omega)
    have hl : (n.lev m).length ≤ 8 ^ (m + 1) := Nat.le_trans (lev_len n m) (Nat.pow_le_pow_left h _)
    rw [routes_succ, List.length_append]
    have e : 8 ^ (m + 1 + 1) = 8 ^ (m + 1) * 8 := Nat.pow_succ ..
    generalize 8 ^ (m + 1) = p at *
    omega
theorem routes_lim {n : Net} (h : n.roads.length ≤ 8) {m : Nat} (hm : m ≤ 6) : (n.routes m).length ≤ 299593 := by
  refine Nat.le_trans (routes_len8 h hm) ?_
  have : 8 ^ (m + 1) ≤ 8 ^ 7 := Nat.pow_le_pow_right (by decide) (by omega)
  have : (8 : Nat) ^ 7 = 2097152 := by decide
  omega
theorem nI_last {r : List Nat} (h : r ≠ []) : (nI r).getLast? = some (.int ((r.getLastD 0 : Nat) : Int)) := by
  unfold nI
  rw [List.getLast?_map, List.getLastD_eq_getLast?, List.getLast?_eq_some_getLast h]
  rfl
theorem dOks_nI (n : Nat) (ks : List Nat) : dOks n (nI ks) = true := dOks_map fun k _ => dOk_int n _
theorem eq_nI (ks : List Nat) : eqD (.list (nI ks)) (.list (nI ks)) = .ok true := eqD_same (n := 1) (dOk_list (dOks_nI 0 ks)) (by decide)
theorem eq_ints {α : Type} (f : α → Int) (xs : List α) : eqD (.list (xs.map fun x => .int (f x))) (.list (xs.map fun x => .int (f x))) = .ok true := eqD_same (n := 1) (dOk_list (dOks_map fun x _ => dOk_int 0 _)) (by decide)
theorem in_nI (k : Nat) (ks : List Nat) : inD (.int (k : Nat)) (.list (nI ks)) = .ok (decide (k ∈ ks)) := by
  have e : nI ks = (ks.map fun k => ((k : Nat) : Int)).map PyData.int := by simp [nI]
  rw [e, inD_ints]
  congr 1
  by_cases h : k ∈ ks
  · simp [h]
    exact ⟨k, h, rfl⟩
  · simp [h]
    intro x hx e
    have : x = k := by omega
    exact h (this ▸ hx)
theorem link_way {n : Net} : ∀ {r : List Nat}, (∀ (i a b : Nat), r[i]? = some a → r[i + 1]? = some b → (n.rd a).e = (n.rd b).s) → linkB n (r.map fun k => ((k : Nat) : Int)) = true
  | [], _ => rfl
  | [_], _ => rfl
  | a :: b :: r, h => by
    have h0 := h 0 a b rfl rfl
    have ih := link_way (n := n) (r := b :: r) (fun i x y hx hy => h (i + 1) x y (by simpa using hx) (by simpa using hy))
    show (decide _ && linkB n ((b :: r).map _)) = true
    rw [ih]
    simp [h0]
theorem nI_intOf (r : List Nat) : (nI r).map intOf = r.map fun k => ((k : Nat) : Int) := by simp [nI, intOf]
theorem hasWay_way {n : Net} {r : List Nat} (h : n.Way r) (hl : r.length ≤ 20) : hasWayB n (wD r) = true := by
  unfold wD hasWayB
  dsimp only
  rw [nI_intOf, link_way h.link]
  have h1 : 0 < r.length := List.length_pos_iff.mpr h.ne
  have : (nI r).length = r.length := by simp [nI]
  rw [this]
  have h2 : ((nI r).all fun x => isIntB x 0 (n.roads.length - 1)) = true := by
    rw [List.all_eq_true]
    intro x hx
    obtain ⟨k, hk, rfl⟩ := List.mem_map.mp hx
    have := h.lt k hk
    simp
    omega
  rw [h2]
  simp
  omega
theorem hasWay_two {n : Net} {a b : Nat} (ha : a < n.roads.length) (hb : b < n.roads.length) : hasWayB n (.tuple [.int (a : Nat), .int (b : Nat)]) = decide (b ∈ n.aft a) := by
  simp [hasWayB, linkB, intOf, Net.aft, hb]
  have h1 : (a : Int) ≤ n.roads.length - 1 := by omega
  have h2 : (b : Int) ≤ n.roads.length - 1 := by omega
  simp [h1, h2]
  by_cases h : (n.rd a).e = (n.rd b).s
  · simp [h]
  · have : ¬ (n.rd b).s = (n.rd a).e := fun z => h z.symm
    simp [h, this]

end LW
namespace LW
open PySem PySem.Spec PyProof.Rows L2 DN

/-! ### limits along ways -/
/-- the i-th road of a way -/
def wk (r : List Nat) (i : Nat) : Nat := r.getD i 0
def iL (xs : List Int) : PyData := .list (xs.map .int)
def lmt (rest one : Int) : Int := if one > 0 then one else rest
def Net.pcs (n : Net) (k : Nat) (s : Int) : List Int := (s :: (n.rd k).g).map (lmt (n.st k))
def Net.lv (n : Net) (k : Nat) (s : Int) : Int := (n.rd k).g.getLastD s
def Net.ov (n : Net) (s : Int) : Int := if n.keeps = 1 then s else 0
/-- the state onto the i-th road of a way; at its end -/
def Net.sB (n : Net) (r : List Nat) : Nat → Int
  | 0 => 0
  | i + 1 => n.ov (n.lv (wk r i) (n.sB r i))
def Net.sA (n : Net) (r : List Nat) : Nat → Int
  | 0 => 0
  | i + 1 => n.lv (wk r i) (n.sB r i)
theorem sB_succ (n : Net) (r : List Nat) {i : Nat} : n.sB r (i + 1) = n.ov (n.sA r (i + 1)) := rfl
def Net.rows (n : Net) (r : List Nat) : List (List Int) := (List.range r.length).map fun i => n.pcs (wk r i) (n.sB r i)
def Net.fin (n : Net) (r : List Nat) : Int := n.sA r r.length
theorem pcs_len (n : Net) (k : Nat) (s : Int) : (n.pcs k s).length = (n.rd k).g.length + 1 := by simp [Net.pcs]
theorem nI_get {r : List Nat} {i : Nat} (h : i < r.length) : (nI r)[i]? = some (.int ((wk r i : Nat) : Int)) := by
  simp [nI, h, wk]
theorem getD_mem {r : List Nat} {i : Nat} (h : i < r.length) : wk r i ∈ r := by
  simp [h, wk]
theorem enum_nI (r : List Nat) : enumD (nI r) = (List.range r.length).map fun i => PyData.tuple [.int (i : Nat), .int ((wk r i : Nat) : Int)] := enumD_map (fun k : Nat => PyData.int (k : Nat)) r 0
theorem r_ix {n : Net} {k : Nat} (hk : k < n.roads.length) : opIx (.tuple (n.roads.map Road.d)) (.int (k : Nat)) = .ok (.val (n.rd k).d) := by
  simp [rd_get hk]
theorem pieces_den {n : Net} (h : n.Ok) {k : Nat} (hk : k < n.roads.length) (s : Int) : d_pieces [.val n.d, .val (.int (k : Nat)), .val (.int s)] = .ok (.own ((n.pcs k s).map .int)) := by
  have h3 := (h.rd hk).gl
  have c1 : pieces_c1 [some (.val n.d), some (.val (.int (k : Nat))), some (.val (.int s)), some (.val (.int (n.st k))), none] = .ok (.own ((n.pcs k s).map .int)) := by
    refine fLc_of (ds := (s :: (n.rd k).g).map .int) ?_ (lim_of (by simp; omega)) ?_
    · have : (1 : Nat) + ((n.rd k).g.map PyData.int).length ≤ lim := lim_of (by simp; omega)
      simp [rd_get hk, tI]
      rw [if_pos (by simpa using this)]
      rfl
    · rw [show (n.pcs k s).map PyData.int = (s :: (n.rd k).g).map (fun x => PyData.int (lmt (n.st k) x)) by simp [Net.pcs]]
      refine lcGo_map (fun x : Int => PyData.int x) (fun x => [some (.val n.d), some (.val (.int (k : Nat))), some (.val (.int s)), some (.val (.int (n.st k))), some (.val (.int x))]) _ _ (fun x _ => by simp) (fun x _ => ?_)
      by_cases hx : 0 < x <;> simp [hx, lmt]
  unfold d_pieces denB g_pieces
  simp only [gSeq, startE]
  simp [find_standing_den hk, c1]
theorem go_over_den (n : Net) (s : Int) : d_go_over [.val n.d, .val (.int s)] = .ok (.val (.int (n.ov s))) := by
  unfold d_go_over denB g_go_over
  simp only [startE]
  by_cases h : n.keeps = 1 <;> simp [h, Net.ov]
def Net.flt (n : Net) (r : List Nat) : List Int := (n.rows r).flatten
theorem rows_mem_len {n : Net} (h : n.Ok) {r : List Nat} (hr : n.Way r) {x : List Int} (hx : x ∈ n.rows r) : 1 ≤ x.length ∧ x.length ≤ 4 := by
  obtain ⟨i, hi, rfl⟩ := List.mem_map.mp hx
  have hi' : i < r.length := by simpa using hi
  have := (h.rd (hr.lt _ (getD_mem hi'))).gl
  rw [pcs_len]
  omega
theorem flt_len {n : Net} (h : n.Ok) {r : List Nat} (hr : n.Way r) : (n.flt r).length ≤ r.length * 4 := by
  have := flat_len (f := id) (xs := n.rows r) (c := 4) (fun x hx => (rows_mem_len h hr hx).2)
  unfold Net.flt
  rw [List.flatMap_id] at this
  have e : (n.rows r).length = r.length := by simp [Net.rows]
  omega
theorem flt_pos {n : Net} (h : n.Ok) {r : List Nat} (hr : n.Way r) : n.flt r ≠ [] := by
  intro e
  unfold Net.flt at e
  rw [List.flatten_eq_nil_iff] at e
  have hp : 0 < r.length := List.length_pos_iff.mpr hr.ne
  have hm : n.pcs (wk r 0) (n.sB r 0) ∈ n.rows r := List.mem_map.mpr ⟨0, by simpa using hp, rfl⟩
  have := (rows_mem_len h hr hm).1
  rw [e _ hm] at this
  simp at this
def chg (row : List Int) : Nat := ((row.zip row.tail).filter fun p => decide (p.1 ≠ p.2)).length
end LW
namespace LW
open PySem PySem.Spec PyProof.Rows L2 DN

/-! ### places: a road with a state onto it -/
/-- drivers can come onto the road k with the state s -/
inductive Net.Reach (n : Net) : Nat → Int → Prop
  | start {k : Nat} : k < n.roads.length → Net.Reach n k 0
  | go {k j : Nat} {s : Int} : Net.Reach n k s → j ∈ n.aft k → Net.Reach n j (n.ov (n.lv k s))
def Net.nxt (n : Net) (p : Nat × Int) : Int := n.ov (n.lv p.1 p.2)
def plD (p : Nat × Int) : PyData := .tuple [.int (p.1 : Nat), .int p.2]
theorem lv_bd {n : Net} (h : n.Ok) {k : Nat} (hk : k < n.roads.length) {s : Int} (h0 : 0 ≤ s) (h13 : s ≤ 13) : 0 ≤ n.lv k s ∧ n.lv k s ≤ 13 := by
  unfold Net.lv
  rw [List.getLastD_eq_getLast?]
  cases hg : (n.rd k).g.getLast? with
  | none => exact ⟨h0, h13⟩
  | some x => exact (h.rd hk).g x (List.mem_of_getLast? hg)
theorem ov_bd (n : Net) {s : Int} (h0 : 0 ≤ s) (h13 : s ≤ 13) : 0 ≤ n.ov s ∧ n.ov s ≤ 13 := by
  unfold Net.ov
  split
  · exact ⟨h0, h13⟩
  · omega
theorem reach_bd {n : Net} (h : n.Ok) {k : Nat} {s : Int} (r : n.Reach k s) : k < n.roads.length ∧ 0 ≤ s ∧ s ≤ 13 := by
  induction r with
  | start hk => exact ⟨hk, by omega, by omega⟩
  | go r hj ih =>
    have a := lv_bd h ih.1 ih.2.1 ih.2.2
    exact ⟨aft_lt hj, ov_bd n a.1 a.2⟩
/-- all places that there may be, in order -/
def Net.grid (n : Net) : List (Nat × Int) := (List.range n.roads.length).flatMap fun k => (List.range 14).map fun s => (k, ((s : Nat) : Int))
theorem mem_grid {n : Net} {p : Nat × Int} : p ∈ n.grid ↔ p.1 < n.roads.length ∧ 0 ≤ p.2 ∧ p.2 ≤ 13 := by
  unfold Net.grid
  simp only [List.mem_flatMap, List.mem_range, List.mem_map]
  constructor
  · rintro ⟨k, hk, s, hs, rfl⟩
    exact ⟨hk, by simp, by simp; omega⟩
  · rintro ⟨h1, h2, h3⟩
    exact ⟨p.1, h1, p.2.toNat, by omega, by ext <;> simp; omega⟩
theorem grid_len (n : Net) : n.grid.length = n.roads.length * 14 := by
  unfold Net.grid
  rw [List.length_flatMap]
  simp [List.map_const', List.sum_replicate_nat]
/-- the order of places -/
def ltP (p q : Nat × Int) : Prop := p.1 < q.1 ∨ (p.1 = q.1 ∧ p.2 < q.2)
theorem pairs_lt : ∀ (xs : List Nat), xs.Pairwise (· < ·) → (xs.flatMap fun k => (List.range 14).map fun s => (k, ((s : Nat) : Int))).Pairwise ltP
  | [], _ => .nil
  | x :: xs, h => by
    rw [List.pairwise_cons] at h
    rw [List.flatMap_cons, List.pairwise_append]
    refine ⟨?_, pairs_lt xs h.2, fun a ha b hb => ?_⟩
    · rw [List.pairwise_map]
      have : (List.range 14).Pairwise (· < ·) := List.pairwise_lt_range
      exact this.imp fun {a b} hab => .inr ⟨rfl, by omega⟩
    · obtain ⟨s, _, rfl⟩ := List.mem_map.mp ha
      obtain ⟨k, hk, hb⟩ := List.mem_flatMap.mp hb
      obtain ⟨t, _, rfl⟩ := List.mem_map.mp hb
      exact .inl (h.1 k hk)
theorem grid_lt (n : Net) : n.grid.Pairwise ltP := pairs_lt _ List.pairwise_lt_range
open Classical in
/-- the places, in order -/
noncomputable def Net.plc (n : Net) : List (Nat × Int) := n.grid.filter fun p => decide (n.Reach p.1 p.2)
theorem mem_plc {n : Net} (h : n.Ok) {p : Nat × Int} : p ∈ n.plc ↔ n.Reach p.1 p.2 := by
  unfold Net.plc
  rw [List.mem_filter, mem_grid]
  constructor
  · intro q
    simpa using q.2
  · intro q
    exact ⟨reach_bd h q, by simpa using q⟩
theorem plc_lt (n : Net) : n.plc.Pairwise ltP := (grid_lt n).filter _
theorem plc_len {n : Net} (h : n.Ok) : n.plc.length ≤ 112 := by
  have a := List.length_filter_le (p := fun p => @decide (n.Reach p.1 p.2) (Classical.propDecidable _)) (l := n.grid)
  have b := grid_len n
  have c := h.r8
  have : n.plc.length ≤ n.grid.length := a
  omega
theorem ltP_unique : ∀ {xs ys : List (Nat × Int)}, xs.Pairwise ltP → ys.Pairwise ltP → (∀ k, k ∈ xs ↔ k ∈ ys) → xs = ys
  | [], [], _, _, _ => rfl
  | [], y :: ys, _, _, h => by have := (h y).mpr List.mem_cons_self; cases this
  | x :: xs, [], _, _, h => by have := (h x).mp List.mem_cons_self; cases this
  | x :: xs, y :: ys, h1, h2, h => by
    rw [List.pairwise_cons] at h1 h2
    have asym : ∀ {a b : Nat × Int}, ltP a b → ltP b a → False := fun {a b} p q => by
      unfold ltP at p q
      omega
    have e : x = y := by
      rcases List.mem_cons.mp ((h x).mp List.mem_cons_self) with e | e
      · exact e
      · rcases List.mem_cons.mp ((h y).mpr List.mem_cons_self) with e2 | e2
        · exact e2.symm
        · exact (asym (h2.1 x e) (h1.1 y e2)).elim
    subst e
    congr 1
    refine ltP_unique h1.2 h2.2 fun k => ⟨fun hk => ?_, fun hk => ?_⟩
    · rcases List.mem_cons.mp ((h k).mp (List.mem_cons_of_mem _ hk)) with e | e
      · subst e
        exact (asym (h1.1 k hk) (h1.1 k hk)).elim
      · exact e
    · rcases List.mem_cons.mp ((h k).mpr (List.mem_cons_of_mem _ hk)) with e | e
      · subst e
        exact (asym (h2.1 k hk) (h2.1 k hk)).elim
      · exact e
/-! sorting places -/
def leP (p q : Nat × Int) : Bool := decide (((p.1 : Nat) : Int) < (q.1 : Nat) ∨ (((p.1 : Nat) : Int) = (q.1 : Nat) ∧ p.2 ≤ q.2))
theorem sortD_places (ps : List (Nat × Int)) : sortD (ps.map plD) = (ps.mergeSort leP).map plD := by
  unfold sortD
  rw [List.map_mergeSort (r := leP) (s := fun a b => PySem.W.dataLe false (fun d : PyData => d) a b)]
  intro a _ b _
  have := congrFun (congrFun (PySem.W.dataLe_ii (fun p : Nat × Int => ((p.1 : Nat) : Int)) (fun p => p.2)) a) b
  exact this.symm
theorem sort_places {ps : List (Nat × Int)} (hn : ps.Nodup) : (ps.mergeSort leP).Pairwise ltP ∧ ∀ p, p ∈ ps.mergeSort leP ↔ p ∈ ps := by
  refine ⟨?_, fun p => List.mem_mergeSort⟩
  have h1 := List.pairwise_mergeSort (le := leP) (fun a b c h1 h2 => by unfold leP at *; simp at *; omega) (fun a b => by unfold leP; simp; omega) ps
  have h2 : (ps.mergeSort leP).Nodup := (List.mergeSort_perm ps leP).nodup_iff.mpr hn
  refine (List.Pairwise.and h1 h2).imp fun {a b} h => ?_
  have h3 : leP a b = true := h.1
  have h4 : a ≠ b := h.2
  unfold leP at h3
  simp at h3
  unfold ltP
  by_cases e : a.1 = b.1
  · have : a.2 ≠ b.2 := fun z => h4 (Prod.ext e z)
    omega
  · omega
theorem sortable_places (ps : List (Nat × Int)) : sortable (ps.map plD) = true := by
  unfold sortable
  simp only [Bool.and_eq_true, Bool.or_eq_true]
  refine ⟨⟨?_, .inl ?_⟩, ?_⟩
  · simp [List.all_map, plD, PySem.W.alike, PySem.W.alikeAll]
  · simp [List.all_map, plD]
  · simp [List.all_map, plD, PyData.depth, PyData.depthAll]
/-! the dict of what was found -/
def plK (p : Nat × Int) : List Key × PyData := ([.inl (p.1 : Nat), .inl p.2], .bool true)
theorem plK_keys (ps : List (Nat × Int)) : ((ps.map plK).map fun kv => DN.kTup kv.1) = ps.map plD := by
  rw [List.map_map]
  rfl
theorem key_eq (p q : Nat × Int) : (plK p).1 = [Sum.inl ((q.1 : Nat) : Int), Sum.inl q.2] ↔ p = q := by
  constructor
  · intro h
    have h : [Sum.inl ((p.1 : Nat) : Int), Sum.inl p.2] = ([Sum.inl ((q.1 : Nat) : Int), Sum.inl q.2] : List Key) := h
    simp at h
    exact Prod.ext (by omega) h.2
  · rintro rfl
    rfl
theorem plK_val (ps : List (Nat × Int)) (p : Nat × Int) : (valP (ps.map plK) [.inl ((p.1 : Nat) : Int), .inl p.2]).isSome = decide (p ∈ ps) := by
  unfold valP
  rw [Option.isSome_map, List.find?_map, Option.isSome_map]
  by_cases h : p ∈ ps
  · rw [List.find?_isSome.mpr ⟨p, h, by simp [Function.comp, key_eq]⟩]
    simp [h]
  · have : ps.find? ((fun kv => decide (kv.1 = [Sum.inl ((p.1 : Nat) : Int), Sum.inl p.2])) ∘ plK) = none := by
      rw [List.find?_eq_none]
      intro q hq
      simp only [Function.comp, decide_eq_true_eq, key_eq]
      rintro rfl
      exact h hq
    rw [this]
    simp [h]
theorem plK_put (ps : List (Nat × Int)) (p : Nat × Int) (h : p ∉ ps) : putP (ps.map plK) [.inl ((p.1 : Nat) : Int), .inl p.2] (.bool true) = (ps ++ [p]).map plK := by
  unfold putP
  have : ((ps.map plK).any fun kv => decide (kv.1 = [Sum.inl ((p.1 : Nat) : Int), Sum.inl p.2])) = false := by
    rw [List.any_eq_false]
    intro kv hkv
    obtain ⟨q, hq, rfl⟩ := List.mem_map.mp hkv
    simp only [decide_eq_true_eq, key_eq]
    rintro rfl
    exact h hq
  rw [this, if_neg (by decide), List.map_append]
  rfl
theorem asTup_pl (k : Nat) (s : Int) : asTup (.tuple [.int (k : Nat), .int s]) = some [.inl ((k : Nat) : Int), .inl s] := rfl
/-- what one turn over the level gives -/
structure Net.Lv (n : Net) (done : List (Nat × Int)) (ys done' later : List (Nat × Int)) : Prop where
  nd : done'.Nodup
  old : ∀ p ∈ done, p ∈ done'
  seen : ∀ p ∈ ys, p ∈ done'
  from_ : ∀ p ∈ done', p ∈ done ∨ p ∈ ys
  next : ∀ p ∈ done', p ∉ done → ∀ j ∈ n.aft p.1, (j, n.nxt p) ∈ later
  late : ∀ q ∈ later, ∃ p ∈ ys, ∃ j ∈ n.aft p.1, q = (j, n.nxt p)
  grow : done.length ≤ done'.length
  few : later.length ≤ 8 * (done'.length - done.length)
/-- what holds between the levels -/
structure Net.WI (n : Net) (L done : List (Nat × Int)) : Prop where
  nd : done.Nodup
  ok : ∀ p ∈ done, n.Reach p.1 p.2
  okL : ∀ p ∈ L, n.Reach p.1 p.2
  start : ∀ k, k < n.roads.length → (k, (0 : Int)) ∈ done ∨ (k, (0 : Int)) ∈ L
  step : ∀ p ∈ done, ∀ j ∈ n.aft p.1, (j, n.nxt p) ∈ done ∨ (j, n.nxt p) ∈ L
theorem Net.WI.turn {n : Net} {L done done' later : List (Nat × Int)} (w : n.WI L done) (lv : n.Lv done L done' later) : n.WI later done' where
  nd := lv.nd
  ok := fun p hp => (lv.from_ p hp).elim (w.ok p) (w.okL p)
  okL := fun q hq => by
    obtain ⟨p, hp, j, hj, rfl⟩ := lv.late q hq
    exact .go (w.okL p hp) hj
  start := fun k hk => .inl ((w.start k hk).elim (lv.old _) (lv.seen _))
  step := fun p hp j hj => by
    by_cases hd : p ∈ done
    · exact .inl ((w.step p hd j hj).elim (lv.old _) (lv.seen _))
    · exact .inr (lv.next p hp hd j hj)
theorem Net.WI.done {n : Net} {done : List (Nat × Int)} (w : n.WI [] done) (p : Nat × Int) : p ∈ done ↔ n.Reach p.1 p.2 := by
  have key : ∀ {k : Nat} {s : Int}, n.Reach k s → (k, s) ∈ done := fun {k s} r => by
    induction r with
    | start hk => exact (w.start _ hk).elim id (fun z => by cases z)
    | @go k j s r hj ih => exact (w.step (k, s) ih j hj).elim id (fun z => by cases z)
  exact ⟨w.ok p, fun r => key r⟩
def muP (ρ : Ev) : Nat := match ρ[1]?, ρ[2]? with
  | some (some (R.val (PyData.list l))), some (some (R.dct d)) => 2 * (200 - d.length) + (if l.isEmpty then 0 else 1)
  | _, _ => 0
theorem nodup_grid {n : Net} {ps : List (Nat × Int)} (hn : ps.Nodup) (hb : ∀ p ∈ ps, p.1 < n.roads.length ∧ 0 ≤ p.2 ∧ p.2 ≤ 13) : ps.length ≤ n.roads.length * 14 := by
  have := List.Nodup.length_le_of_subset hn (l₂ := n.grid) (fun p hp => mem_grid.mpr (hb p hp))
  rw [grid_len] at this
  exact this
end LW
namespace LW
open PySem PySem.Spec PyProof.Rows L2 DN

/-! ### sorted sets of small numbers -/
theorem sortU_of {ns ms : List Int} (h : ms.Pairwise (· < ·)) (hm : ∀ k, k ∈ ms ↔ k ∈ ns) : sortU ns = ms := lt_unique (sortU_lt ns) h fun k => by rw [mem_sortU, hm k]
theorem sortU_nat_len {ns : List Int} {b : Nat} (h : ∀ x ∈ ns, 0 ≤ x ∧ x < (b : Nat)) : (sortU ns).length ≤ b := by
  have nd : (sortU ns).Nodup := (sortU_lt ns).imp fun {a b} h => by omega
  have := List.Nodup.length_le_of_subset nd (l₂ := (List.range b).map fun i => ((i : Nat) : Int)) fun k hk => by
    have := h k ((mem_sortU ns k).mp hk)
    exact List.mem_map.mpr ⟨k.toNat, by simp; omega, by omega⟩
  simpa using this
open Classical in
/-- the roads that some driver leaves with a limit that is set -/
noncomputable def Net.lvg (n : Net) : List Nat := (List.range n.roads.length).filter fun k => decide (∃ s, n.Reach k s ∧ 0 < n.lv k s)
theorem mem_lvg {n : Net} (h : n.Ok) {k : Nat} : k ∈ n.lvg ↔ ∃ s, n.Reach k s ∧ 0 < n.lv k s := by
  unfold Net.lvg
  rw [List.mem_filter]
  constructor
  · intro q
    simpa using q.2
  · rintro ⟨s, r, hs⟩
    exact ⟨by simpa using (reach_bd h r).1, by simpa using ⟨s, r, hs⟩⟩
theorem filter_range_lt (n : Nat) (f : Nat → Bool) : (((List.range n).filter f).map fun i => ((i : Nat) : Int)).Pairwise (· < ·) := by
  rw [List.pairwise_map]
  have : ((List.range n).filter f).Pairwise (· < ·) := List.pairwise_lt_range.filter _
  exact this.imp fun {a b} h => by omega
theorem lvg_set {n : Net} (h : n.Ok) : setSortedD (.list (((n.plc.filter fun p => decide (0 < n.lv p.1 p.2)).map fun p => ((p.1 : Nat) : Int)).map .int)) = .ok (.own (nI n.lvg)) := by
  have hpl := plc_len h
  have hmem : ∀ x ∈ (n.plc.filter fun p => decide (0 < n.lv p.1 p.2)).map fun p => ((p.1 : Nat) : Int), 0 ≤ x ∧ x < ((8 : Nat) : Int) := fun x hx => by
    obtain ⟨p, hp, rfl⟩ := List.mem_map.mp hx
    have hb := reach_bd h ((mem_plc h).mp (List.mem_filter.mp hp).1)
    have := h.r8
    omega
  have hl := sortU_nat_len hmem
  have hlen : ((n.plc.filter fun p => decide (0 < n.lv p.1 p.2)).map fun p => ((p.1 : Nat) : Int)).length ≤ 1000 := by
    rw [List.length_map]
    have := List.length_filter_le (fun p => decide (0 < n.lv p.1 p.2)) n.plc
    omega
  have hs : sortU ((n.plc.filter fun p => decide (0 < n.lv p.1 p.2)).map fun p => ((p.1 : Nat) : Int)) = n.lvg.map fun i => ((i : Nat) : Int) := by
    refine sortU_of (filter_range_lt _ _) fun k => ?_
    constructor
    · intro hk
      obtain ⟨i, hi, rfl⟩ := List.mem_map.mp hk
      obtain ⟨s, r, hp⟩ := (mem_lvg h).mp hi
      exact List.mem_map.mpr ⟨(i, s), List.mem_filter.mpr ⟨(mem_plc h).mpr r, by simpa using hp⟩, rfl⟩
    · intro hk
      obtain ⟨p, hp, rfl⟩ := List.mem_map.mp hk
      have hp' := List.mem_filter.mp hp
      exact List.mem_map.mpr ⟨p.1, (mem_lvg h).mpr ⟨p.2, (mem_plc h).mp hp'.1, by simpa using hp'.2⟩, rfl⟩
  generalize ((n.plc.filter fun p => decide (0 < n.lv p.1 p.2)).map fun p => ((p.1 : Nat) : Int)) = ns at *
  unfold setSortedD
  simp only [asIs_map]
  rw [if_pos ⟨hlen, by omega⟩, hs]
  simp [nI]
/-! ### other signs -/
def Net.put (n : Net) (k : Nat) (g : List Int) : Net := { n with roads := n.roads.set k { n.rd k with g := g } }
@[simp] theorem put_len (n : Net) (k : Nat) (g : List Int) : (n.put k g).roads.length = n.roads.length := by simp [Net.put]
theorem put_rd (n : Net) (k : Nat) (g : List Int) (i : Nat) (hk : k < n.roads.length) : (n.put k g).rd i = if i = k then { n.rd k with g := g } else n.rd i := by
  unfold Net.put Net.rd
  by_cases h : i = k
  · subst h
    simp [hk]
  · simp [h, List.getElem?_set_ne (Ne.symm h)]
theorem put_ok {n : Net} (h : n.Ok) {k : Nat} (hk : k < n.roads.length) {g : List Int} (hl : g.length ≤ 3) (hg : ∀ x ∈ g, 0 ≤ x ∧ x ≤ 13) : (n.put k g).Ok where
  f5 := h.f5
  f13 := h.f13
  s1 := h.s1
  sf := h.sf
  k := h.k
  r1 := by rw [put_len]; exact h.r1
  r8 := by rw [put_len]; exact h.r8
  r := fun r hr => by
    have hr : r ∈ n.roads.set k { n.rd k with g := g } := hr
    rcases List.mem_or_eq_of_mem_set hr with z | z
    · exact h.r r z
    · subst z
      have o := h.rd hk
      exact ⟨o.s0, o.s5, o.e0, o.e5, o.t, hl, hg⟩
theorem set_split {α : Type} (xs : List α) (k : Nat) (x : α) (h : k < xs.length) : xs.set k x = xs.take k ++ [x] ++ xs.drop (k + 1) := by
  rw [List.set_eq_take_append_cons_drop, if_pos h]
  simp
end LW
namespace LW
open PySem PySem.Spec PyProof.Rows L2 DN

/-! ### states onto a road, limits on a piece -/
open Classical in
noncomputable def Net.sts (n : Net) (k : Nat) : List Int := ((List.range 14).map fun s => ((s : Nat) : Int)).filter fun s => decide (n.Reach k s)
theorem mem_sts {n : Net} (h : n.Ok) {k : Nat} {s : Int} : s ∈ n.sts k ↔ n.Reach k s := by
  unfold Net.sts
  rw [List.mem_filter]
  constructor
  · intro q
    simpa using q.2
  · intro q
    have b := reach_bd h q
    exact ⟨List.mem_map.mpr ⟨s.toNat, by simp; omega, by omega⟩, by simpa using q⟩
theorem sts_lt (n : Net) (k : Nat) : (n.sts k).Pairwise (· < ·) := by
  refine List.Pairwise.filter _ ?_
  rw [List.pairwise_map]
  have : (List.range 14).Pairwise (· < ·) := List.pairwise_lt_range
  exact this.imp fun {a b} h => by omega
theorem sts_zero {n : Net} (h : n.Ok) {k : Nat} (hk : k < n.roads.length) : (0 : Int) ∈ n.sts k := (mem_sts h).mpr (.start hk)
theorem sts_ne {n : Net} (h : n.Ok) {k : Nat} (hk : k < n.roads.length) : n.sts k ≠ [] := fun e => by
  have := sts_zero h hk
  rw [e] at this
  cases this
theorem sts_len (n : Net) (k : Nat) : (n.sts k).length ≤ 14 := by
  have := List.length_filter_le (p := fun s => @decide (n.Reach k s) (Classical.propDecidable _)) (l := (List.range 14).map fun s => ((s : Nat) : Int))
  unfold Net.sts
  simpa using this
/-- the places with a road, in order, are the states onto it -/
theorem plc_sts {n : Net} (h : n.Ok) (k : Nat) : ((n.plc.filter fun p => decide (p.1 = k)).map fun p => p.2) = n.sts k := by
  refine lt_unique ?_ (sts_lt n k) fun s => ?_
  · rw [List.pairwise_map]
    refine ((plc_lt n).filter _).imp_of_mem fun {p q} hp hq hlt => ?_
    have h1 : p.1 = k := by simpa using (List.mem_filter.mp hp).2
    have h2 : q.1 = k := by simpa using (List.mem_filter.mp hq).2
    unfold ltP at hlt
    omega
  · rw [mem_sts h, List.mem_map]
    constructor
    · rintro ⟨p, hp, rfl⟩
      have hp := List.mem_filter.mp hp
      have h1 : p.1 = k := by simpa using hp.2
      rw [← h1]
      exact (mem_plc h).mp hp.1
    · intro r
      exact ⟨(k, s), List.mem_filter.mpr ⟨(mem_plc h).mpr r, by simp⟩, rfl⟩
/-- the limit on a piece of a road, coming with a state -/
def Net.lim_ (n : Net) (k p : Nat) (s : Int) : Int := (n.pcs k s).getD p 0
theorem pcs_get {n : Net} {k p : Nat} (hp : p ≤ (n.rd k).g.length) (s : Int) : (n.pcs k s)[p]? = some (n.lim_ k p s) := by
  unfold Net.lim_
  rw [List.getD_eq_getElem?_getD, List.getElem?_eq_getElem (by rw [pcs_len]; omega)]
  rfl
theorem lim_zero (n : Net) (k : Nat) (s : Int) : n.lim_ k 0 s = lmt (n.st k) s := rfl
theorem lim_succ {n : Net} {k p : Nat} (hp : p < (n.rd k).g.length) (s : Int) : n.lim_ k (p + 1) s = lmt (n.st k) ((n.rd k).g.getD p 0) := by
  simp [Net.lim_, Net.pcs, hp]
theorem st_bd {n : Net} (h : n.Ok) (k : Nat) : 1 ≤ n.st k ∧ n.st k ≤ 13 := by
  have := h.f5; have := h.f13; have := h.s1; have := h.sf
  unfold Net.st
  split <;> omega
theorem lmt_bd {n : Net} (h : n.Ok) (k : Nat) {s : Int} (h0 : 0 ≤ s) (h13 : s ≤ 13) : 1 ≤ lmt (n.st k) s ∧ lmt (n.st k) s ≤ 13 := by
  have := st_bd h k
  unfold lmt
  split <;> omega
theorem lim_bd {n : Net} (h : n.Ok) {k p : Nat} (hk : k < n.roads.length) (hp : p ≤ (n.rd k).g.length) {s : Int} (h0 : 0 ≤ s) (h13 : s ≤ 13) : 1 ≤ n.lim_ k p s ∧ n.lim_ k p s ≤ 13 := by
  cases p with
  | zero => exact lmt_bd h k h0 h13
  | succ p =>
    rw [lim_succ (by omega)]
    have hg := (h.rd hk).g ((n.rd k).g.getD p 0) (by
      rw [List.getD_eq_getElem?_getD, List.getElem?_eq_getElem (by omega)]
      exact List.getElem_mem _)
    exact lmt_bd h k hg.1 hg.2
/-- the limits that drivers can have on a piece -/
noncomputable def Net.pos (n : Net) (k p : Nat) : List Int := sortU ((n.sts k).map (n.lim_ k p))
theorem pos_lt (n : Net) (k p : Nat) : (n.pos k p).Pairwise (· < ·) := sortU_lt _
theorem mem_pos {n : Net} (h : n.Ok) {k p : Nat} {l : Int} : l ∈ n.pos k p ↔ ∃ s, n.Reach k s ∧ n.lim_ k p s = l := by
  unfold Net.pos
  rw [mem_sortU, List.mem_map]
  constructor
  · rintro ⟨s, hs, e⟩
    exact ⟨s, (mem_sts h).mp hs, e⟩
  · rintro ⟨s, hs, e⟩
    exact ⟨s, (mem_sts h).mpr hs, e⟩
theorem pos_len {n : Net} (h : n.Ok) {k p : Nat} (hk : k < n.roads.length) (hp : p ≤ (n.rd k).g.length) : (n.pos k p).length ≤ 14 := by
  refine sortU_nat_len (b := 14) fun x hx => ?_
  obtain ⟨s, hs, rfl⟩ := List.mem_map.mp hx
  have b := reach_bd h ((mem_sts h).mp hs)
  have := lim_bd h hk hp b.2.1 b.2.2
  omega
theorem pos_ne {n : Net} (h : n.Ok) {k p : Nat} (hk : k < n.roads.length) : n.pos k p ≠ [] := fun e => by
  have := (mem_pos h (k := k) (p := p)).mpr ⟨0, .start hk, rfl⟩
  rw [e] at this
  cases this
/-- behind a sign there is one limit -/
theorem pos_succ {n : Net} (h : n.Ok) {k p : Nat} (hk : k < n.roads.length) (hp : p < (n.rd k).g.length) : n.pos k (p + 1) = [lmt (n.st k) ((n.rd k).g.getD p 0)] := by
  refine sortU_of (by simp) fun l => ?_
  rw [List.mem_singleton, List.mem_map]
  constructor
  · rintro rfl
    exact ⟨0, sts_zero h hk, lim_succ hp 0⟩
  · rintro ⟨s, _, rfl⟩
    exact lim_succ hp s
/-- the unclear roads -/
noncomputable def Net.unc (n : Net) : List Nat := (List.range n.roads.length).filter fun k => decide (1 < (n.pos k 0).length)
/-! ### reached within so many roads -/
def Net.RN (n : Net) : Nat → Nat → Int → Prop
  | 0, k, s => k < n.roads.length ∧ s = 0
  | t + 1, k, s => n.RN t k s ∨ ∃ j s', n.RN t j s' ∧ k ∈ n.aft j ∧ s = n.ov (n.lv j s')
theorem RN_mono {n : Net} {k : Nat} {s : Int} {t : Nat} : ∀ {u : Nat}, t ≤ u → n.RN t k s → n.RN u k s
  | 0, h, q => by
    have : t = 0 := by omega
    subst this
    exact q
  | u + 1, h, q => by
    by_cases e : t = u + 1
    · subst e
      exact q
    · exact .inl (RN_mono (u := u) (by omega) q)
theorem RN_reach {n : Net} : ∀ {t k : Nat} {s : Int}, n.RN t k s → n.Reach k s
  | 0, k, s, ⟨h, e⟩ => by
    subst e
    exact .start h
  | t + 1, k, s, h => by
    rcases h with h | ⟨j, s', h, hj, rfl⟩
    · exact RN_reach h
    · exact .go (RN_reach h) hj
theorem ov_ne {n : Net} {s : Int} (h : n.ov s ≠ 0) : n.ov s = s := by
  unfold Net.ov at *
  split
  · rfl
  · rename_i z
    rw [if_neg z] at h
    exact absurd rfl h
/-- if nothing new comes with a state, nothing new comes later -/
theorem RN_stable {n : Net} {t : Nat} {s0 : Int} (h0 : s0 ≠ 0) (hs : ∀ j, n.RN (t + 1) j s0 → n.RN t j s0) {k : Nat} {s : Int} (r : n.Reach k s) : s = s0 → n.RN t k s0 := by
  induction r with
  | start hk => intro e; exact absurd e.symm h0
  | @go j k s r hj ih =>
    intro e
    have hne : n.ov (n.lv j s) ≠ 0 := by rw [e]; exact h0
    have e2 := ov_ne hne
    refine hs k ?_
    by_cases hg : (n.rd j).g = []
    · have e3 : n.lv j s = s := by simp [Net.lv, hg]
      have := ih (by rw [← e, e2, e3])
      exact .inr ⟨j, s0, this, hj, by
        have e4 : n.lv j s0 = s0 := by simp [Net.lv, hg]
        rw [e4]
        rw [e2, e3] at e
        subst e
        rw [e3] at e2
        exact e2.symm⟩
    · have e3 : n.lv j s = n.lv j 0 := by
        unfold Net.lv
        rw [List.getLastD_eq_getLast?, List.getLastD_eq_getLast?, List.getLast?_eq_some_getLast hg]
        rfl
      rw [← e, e3]
      have hj0 : n.RN 0 j 0 := ⟨by
        have := RN_reach_lt r
        exact this, rfl⟩
      exact .inr ⟨j, 0, RN_mono (Nat.zero_le t) hj0, hj, rfl⟩
where
  RN_reach_lt {j : Nat} {s : Int} (r : n.Reach j s) : j < n.roads.length := by
    cases r with
    | start h => exact h
    | go r h => exact aft_lt h
open Classical in
noncomputable def Net.cnt (n : Net) (s : Int) (t : Nat) : List Nat := (List.range n.roads.length).filter fun k => decide (n.RN t k s)
theorem mem_cnt {n : Net} {s : Int} {t k : Nat} : k ∈ n.cnt s t ↔ k < n.roads.length ∧ n.RN t k s := by
  unfold Net.cnt
  rw [List.mem_filter]
  simp
theorem reach_lt {n : Net} {j : Nat} {s : Int} (r : n.Reach j s) : j < n.roads.length := by
  cases r with
  | start h => exact h
  | go r h => exact aft_lt h
theorem cnt_grow {n : Net} {s : Int} (hs : s ≠ 0) : ∀ t : Nat, (∃ u, u < t ∧ ∀ j, n.RN (u + 1) j s → n.RN u j s) ∨ t ≤ (n.cnt s t).length
  | 0 => .inr (Nat.zero_le _)
  | t + 1 => by
    rcases cnt_grow hs t with ⟨u, hu, q⟩ | h
    · exact .inl ⟨u, by omega, q⟩
    · by_cases st : ∀ j, n.RN (t + 1) j s → n.RN t j s
      · exact .inl ⟨t, by omega, st⟩
      · refine .inr ?_
        obtain ⟨j, hj⟩ := Classical.not_forall.mp st
        have hj1 : n.RN (t + 1) j s := Classical.byContradiction fun z => hj fun q => absurd q z
        have hj2 : ¬ n.RN t j s := fun z => hj fun _ => z
        have nd : (j :: n.cnt s t).Nodup := List.nodup_cons.mpr ⟨fun z => hj2 (mem_cnt.mp z).2, List.nodup_range.filter _⟩
        have := List.Nodup.length_le_of_subset nd (l₂ := n.cnt s (t + 1)) fun k hk => by
          rcases List.mem_cons.mp hk with z | z
          · subst z
            exact mem_cnt.mpr ⟨reach_lt (RN_reach hj1), hj1⟩
          · exact mem_cnt.mpr ⟨(mem_cnt.mp z).1, .inl (mem_cnt.mp z).2⟩
        simp at this
        omega
/-- as many turns as there are roads are enough -/
theorem reach_RN {n : Net} {k : Nat} {s : Int} (r : n.Reach k s) : n.RN n.roads.length k s := by
  by_cases hs : s = 0
  · subst hs
    exact RN_mono (Nat.zero_le _) ⟨reach_lt r, rfl⟩
  · rcases cnt_grow (n := n) hs n.roads.length with ⟨u, hu, q⟩ | h
    · exact RN_mono (by omega) (RN_stable hs q r rfl)
    · have hl : (n.cnt s n.roads.length).length ≤ n.roads.length := by
        have := List.length_filter_le (p := fun k => @decide (n.RN n.roads.length k s) (Classical.propDecidable _)) (l := List.range n.roads.length)
        unfold Net.cnt
        simpa using this
      have : n.cnt s n.roads.length = List.range n.roads.length := by
        unfold Net.cnt at h ⊢
        exact List.Sublist.eq_of_length_le List.filter_sublist (by simpa using h)
      exact (mem_cnt.mp (by rw [this]; simpa using reach_lt r)).2
theorem RN_iff {n : Net} {t k : Nat} {s : Int} (ht : n.roads.length ≤ t) : n.RN t k s ↔ n.Reach k s := ⟨RN_reach, fun r => RN_mono ht (reach_RN r)⟩
open Classical in
noncomputable def Net.plN (n : Net) (t : Nat) : List (Nat × Int) := n.grid.filter fun p => decide (n.RN t p.1 p.2)
theorem mem_plN {n : Net} (h : n.Ok) {t : Nat} {p : Nat × Int} : p ∈ n.plN t ↔ n.RN t p.1 p.2 := by
  unfold Net.plN
  rw [List.mem_filter, mem_grid]
  constructor
  · intro q
    simpa using q.2
  · intro q
    exact ⟨reach_bd h (RN_reach q), by simpa using q⟩
theorem plN_lt (n : Net) (t : Nat) : (n.plN t).Pairwise ltP := (grid_lt n).filter _
theorem plN_all {n : Net} (h : n.Ok) {t : Nat} (ht : n.roads.length ≤ t) : n.plN t = n.plc := ltP_unique (plN_lt n t) (plc_lt n) fun p => by rw [mem_plN h, mem_plc h, RN_iff ht]
/-! few states there are: none, or a road's last sign -/
def Net.few (n : Net) : List Int := 0 :: (List.range n.roads.length).map fun k => n.lv k 0
theorem reach_few {n : Net} {k : Nat} {s : Int} (r : n.Reach k s) : s ∈ n.few := by
  induction r with
  | start hk => exact List.mem_cons_self
  | @go j k s r hj ih =>
    by_cases hz : n.ov (n.lv j s) = 0
    · rw [hz]; exact List.mem_cons_self
    · rw [ov_ne hz]
      by_cases hg : (n.rd j).g = []
      · have e3 : n.lv j s = s := by simp [Net.lv, hg]
        rw [e3]
        exact ih
      · have e3 : n.lv j s = n.lv j 0 := by
          unfold Net.lv
          rw [List.getLastD_eq_getLast?, List.getLastD_eq_getLast?, List.getLast?_eq_some_getLast hg]
          rfl
        rw [e3]
        exact List.mem_cons_of_mem _ (List.mem_map.mpr ⟨j, by simpa using reach_lt r, rfl⟩)
theorem places_few {n : Net} {ps : List (Nat × Int)} (hn : ps.Nodup) (hr : ∀ p ∈ ps, n.Reach p.1 p.2) : ps.length ≤ n.roads.length * (n.roads.length + 1) := by
  have := List.Nodup.length_le_of_subset hn (l₂ := (List.range n.roads.length).flatMap fun k => n.few.map fun s => (k, s)) fun p hp => by
    have r := hr p hp
    exact List.mem_flatMap.mpr ⟨p.1, by simpa using reach_lt r, List.mem_map.mpr ⟨p.2, reach_few r, rfl⟩⟩
  refine Nat.le_trans this ?_
  rw [List.length_flatMap]
  simp [Net.few, List.map_const', List.sum_replicate_nat]
theorem ltP_nodup {ps : List (Nat × Int)} (h : ps.Pairwise ltP) : ps.Nodup := h.imp fun {a b} h e => by
  subst e
  unfold ltP at h
  omega
def toP (p : Nat × Int) : Int × Int := (((p.1 : Nat) : Int), p.2)
theorem plD_pr (p : Nat × Int) : plD p = DN.prD (toP p) := rfl
/-- sorted(set(..)) of places -/
theorem sorted_places {n : Net} (h : n.Ok) (h5 : n.roads.length ≤ 6) {ps qs : List (Nat × Int)} (hq : qs.Pairwise ltP) (hm : ∀ p, p ∈ qs ↔ p ∈ ps) (hr : ∀ p ∈ ps, n.Reach p.1 p.2) : setSortedP (.list (ps.map plD)) = .ok (.own (qs.map plD)) := by
  have e1 : asPairs (ps.map plD) = some (ps.map toP) := by
    rw [show ps.map plD = (ps.map toP).map DN.prD by rw [List.map_map]; rfl]
    exact asPairs_map _
  have hb : ∀ p ∈ ps, p.1 < 8 ∧ 0 ≤ p.2 ∧ p.2 ≤ 13 := fun p hp => by
    have := reach_bd h (hr p hp)
    have := h.r8
    omega
  have e2 : sortU ((ps.map toP).map cdP) = qs.map fun p => cdP (toP p) := by
    refine sortU_of ?_ fun c => ?_
    · rw [List.pairwise_map]
      refine hq.imp_of_mem fun {a b} ha hb' hlt => ?_
      have b1 := hb a ((hm a).mp ha)
      have b2 := hb b ((hm b).mp hb')
      unfold ltP at hlt
      unfold cdP toP
      simp only
      omega
    · rw [List.map_map, List.mem_map, List.mem_map]
      constructor
      · rintro ⟨p, hp, rfl⟩
        exact ⟨p, (hm p).mp hp, rfl⟩
      · rintro ⟨p, hp, rfl⟩
        exact ⟨p, (hm p).mpr hp, rfl⟩
  have hlen : qs.length ≤ 42 := by
    refine Nat.le_trans (places_few (n := n) (ltP_nodup hq) fun p hp => hr p ((hm p).mp hp)) ?_
    exact Nat.le_trans (Nat.mul_le_mul h5 (show n.roads.length + 1 ≤ 7 by omega)) (by decide)
  unfold setSortedP
  simp only [e1]
  rw [if_pos, e2, List.map_map]
  · congr 2
    apply List.map_congr_left
    intro p hp
    have b1 := hb p ((hm p).mp hp)
    show DN.prD (unP (cdP (toP p))) = _
    rw [un_cd (p := toP p) ⟨b1.2.1, by show p.2 < 64; omega⟩]
    rfl
  · refine ⟨?_, by rw [e2]; simp; omega⟩
    rw [List.all_eq_true]
    intro q hq'
    obtain ⟨p, hp, rfl⟩ := List.mem_map.mp hq'
    have b1 := hb p hp
    simp [inB, toP]
    omega
end LW
namespace DN
open PySem PySem.Spec PyProof.Rows L2
/-! ### goes on, or returns -/
def NR (o : RO) (P : Ev → Prop) (Q : R → Prop) : Prop := match o with
  | .nx ρ => P ρ
  | .ret r => Q r
  | _ => False
@[simp] theorem NR_nx (ρ : Ev) (P : Ev → Prop) (Q : R → Prop) : NR (.nx ρ) P Q ↔ P ρ := Iff.rfl
@[simp] theorem NR_ret (r : R) (P : Ev → Prop) (Q : R → Prop) : NR (.ret r) P Q ↔ Q r := Iff.rfl
theorem NR.seq {o : RO} {g : Ev → RO} {P P' : Ev → Prop} {Q : R → Prop} (h : NR o P Q) (k : ∀ ρ, P ρ → NR (g ρ) P' Q) : NR (o.seq g) P' Q := by
  cases o with
  | nx ρ => exact k ρ h
  | ret r => exact h
  | exc _ _ => exact h.elim
  | bad => exact h.elim
  | retk _ _ => exact h.elim
theorem NR.imp {o : RO} {P P' : Ev → Prop} {Q Q' : R → Prop} (h : NR o P Q) (k : ∀ ρ, P ρ → P' ρ) (k' : ∀ r, Q r → Q' r) : NR o P' Q' := by
  cases o with
  | nx ρ => exact k ρ h
  | ret r => exact k' r h
  | exc _ _ => exact h.elim
  | bad => exact h.elim
  | retk _ _ => exact h.elim
theorem Nx.nr {o : RO} {P : Ev → Prop} {Q : R → Prop} (h : Nx o P) : NR o P Q := by
  obtain ⟨ρ, rfl, p⟩ := h
  exact p
theorem gFor_listR {α : Type} {fi : Ev → Rs (List PyData)} {ft : PyData → Ev → Rs Ev} {gb : Ev → RO} {enc : α → PyData} {xs : List α} (I : List α → Ev → Prop) {Q : R → Prop} {ρ : Ev} (hf : fi ρ = .ok (xs.map enc)) (h0 : I [] ρ)
    (hs : ∀ (ys : List α) (x : α) (zs : List α) (ρ : Ev), xs = ys ++ x :: zs → I ys ρ → NR (bdy ft gb (enc x) ρ) (I (ys ++ [x])) Q) : NR (gFor fi ft gb ρ) (I xs) Q := by
  unfold gFor
  rw [hf, onR_ok]
  have key : ∀ (zs ys : List α) (ρ : Ev), xs = ys ++ zs → I ys ρ → NR (loop ft gb (zs.map enc) ρ) (I xs) Q := by
    intro zs
    induction zs with
    | nil =>
      intro ys ρ e h
      rw [List.append_nil] at e
      subst e
      exact h
    | cons z zs ih =>
      intro ys ρ e h
      have h1 := hs ys z zs ρ e h
      rw [List.map_cons]
      unfold loop
      unfold bdy at h1
      cases ef : ft (enc z) ρ with
      | ok ρ1 =>
        rw [ef] at h1
        exact NR.seq h1 fun ρ2 h2 => ih (ys ++ [z]) ρ2 (by rw [e]; simp) h2
      | err c => rw [ef] at h1; exact h1.elim
      | bad => rw [ef] at h1; exact h1.elim
  exact key xs [] ρ rfl h0
theorem gWhile_R {fc : Ev → Rs Bool} {gb : Ev → RO} (I : Ev → Prop) (μ : Ev → Nat) {Q : R → Prop} {ρ : Ev} (h0 : I ρ) (hμ : μ ρ < 1000000)
    (hs : ∀ ρ, I ρ → ∃ b, fc ρ = .ok b ∧ (b = true → NR (gb ρ) (fun ρ' => I ρ' ∧ μ ρ' < μ ρ) Q)) : NR (gWhile fc gb ρ) (fun ρ' => I ρ' ∧ fc ρ' = .ok false) Q := by
  have key : ∀ (n : Nat) (ρ : Ev), I ρ → μ ρ < n → NR (whileN fc gb n ρ) (fun ρ' => I ρ' ∧ fc ρ' = .ok false) Q := by
    intro n
    induction n with
    | zero => intro ρ _ h; omega
    | succ n ih =>
      intro ρ hI h
      obtain ⟨b, e, hb⟩ := hs ρ hI
      unfold whileN
      rw [e, onR_ok]
      cases b with
      | true =>
        rw [if_pos rfl]
        exact NR.seq (hb rfl) fun ρ1 h1 => ih ρ1 h1.1 (by omega)
      | false =>
        rw [if_neg (by decide)]
        exact ⟨hI, e⟩
  exact key _ ρ h0 hμ
end DN
namespace LW
open PySem PySem.Spec PyProof.Rows L2 DN
/-! ### a search by levels that goes on from each key once -/
section
variable {α κ : Type} [DecidableEq κ] (key : α → κ) (ext : α → List α)
/-- those whose keys are new -/
def frs (seen : List κ) : List α → List α
  | [] => []
  | x :: xs => if key x ∈ seen then frs seen xs else x :: frs (seen ++ [key x]) xs
theorem frs_pos {x : α} {xs : List α} {seen : List κ} (h : key x ∈ seen) : frs key seen (x :: xs) = frs key seen xs := by
  show (if key x ∈ seen then _ else _) = _
  rw [if_pos h]
theorem frs_neg {x : α} {xs : List α} {seen : List κ} (h : key x ∉ seen) : frs key seen (x :: xs) = x :: frs key (seen ++ [key x]) xs := by
  show (if key x ∈ seen then _ else _) = _
  rw [if_neg h]
theorem frs_old {x : α} : ∀ {xs : List α} {seen : List κ}, key x ∈ seen ++ (frs key seen xs).map key → frs key seen (xs ++ [x]) = frs key seen xs
  | [], seen, h => by
    rw [List.nil_append, frs_pos key (by simpa [frs] using h)]
  | y :: ys, seen, h => by
    rw [List.cons_append]
    by_cases hy : key y ∈ seen
    · rw [frs_pos key hy] at h ⊢
      rw [frs_pos key hy]
      exact frs_old h
    · rw [frs_neg key hy] at h ⊢
      rw [frs_neg key hy, frs_old (by simpa [List.append_assoc] using h)]
theorem frs_new {x : α} : ∀ {xs : List α} {seen : List κ}, key x ∉ seen ++ (frs key seen xs).map key → frs key seen (xs ++ [x]) = frs key seen xs ++ [x]
  | [], seen, h => by
    rw [List.nil_append, frs_neg key (by simpa [frs] using h)]
    rfl
  | y :: ys, seen, h => by
    rw [List.cons_append]
    by_cases hy : key y ∈ seen
    · rw [frs_pos key hy] at h ⊢
      rw [frs_pos key hy]
      exact frs_new h
    · rw [frs_neg key hy] at h ⊢
      rw [frs_neg key hy, frs_new (by simpa [List.append_assoc] using h)]
      rfl
theorem frs_sub : ∀ (xs : List α) (seen : List κ) (x : α), x ∈ frs key seen xs → x ∈ xs
  | [], _, _, h => by cases h
  | y :: ys, seen, x, h => by
    unfold frs at h
    split at h
    · exact List.mem_cons_of_mem _ (frs_sub ys _ x h)
    · rcases List.mem_cons.mp h with e | e
      · rw [e]; exact List.mem_cons_self
      · exact List.mem_cons_of_mem _ (frs_sub ys _ x e)
theorem frs_nodup : ∀ (xs : List α) (seen : List κ), seen.Nodup → (seen ++ (frs key seen xs).map key).Nodup
  | [], seen, h => by simpa [frs] using h
  | y :: ys, seen, h => by
    unfold frs
    split
    · exact frs_nodup ys seen h
    · rename_i hn
      have := frs_nodup ys (seen ++ [key y]) (by
        rw [List.nodup_append]
        exact ⟨h, by simp, fun a ha b hb e => by
          rw [List.mem_singleton.mp hb] at e
          exact hn (e ▸ ha)⟩)
      simpa [List.append_assoc] using this
theorem frs_keys : ∀ (xs : List α) (seen : List κ) (k : κ), k ∈ seen ++ (frs key seen xs).map key ↔ k ∈ seen ∨ k ∈ xs.map key
  | [], seen, k => by simp [frs]
  | y :: ys, seen, k => by
    unfold frs
    split
    · rename_i hy
      rw [frs_keys ys seen k]
      simp only [List.map_cons, List.mem_cons]
      constructor
      · rintro (h | h)
        · exact .inl h
        · exact .inr (.inr h)
      · rintro (h | h | h)
        · exact .inl h
        · exact .inl (h ▸ hy)
        · exact .inr h
    · have := frs_keys ys (seen ++ [key y]) k
      simp only [List.append_assoc, List.singleton_append, List.map_cons] at this ⊢
      rw [this]
      simp only [List.mem_append, List.mem_cons, List.not_mem_nil, or_false]
      constructor
      · rintro ((h | h) | h)
        · exact .inl h
        · exact .inr (.inl h)
        · exact .inr (.inr h)
      · rintro (h | h | h)
        · exact .inl (.inl h)
        · exact .inl (.inr h)
        · exact .inr h
/-- a list with some left out, whose keys were met before -/
inductive Pr : (κ → Prop) → List α → List α → Prop
  | nil {S : κ → Prop} : Pr S [] []
  | keep {S : κ → Prop} {x : α} {P U : List α} : Pr (fun k => S k ∨ k = key x) P U → Pr S (x :: P) (x :: U)
  | drop {S : κ → Prop} {x : α} {P U : List α} : S (key x) → Pr S P U → Pr S P (x :: U)
theorem Pr.more {S S' : κ → Prop} {P U : List α} (h : Pr key S P U) (hs : ∀ k, S k → S' k) : Pr key S' P U := by
  induction h generalizing S' with
  | nil => exact .nil
  | keep h ih => exact .keep (ih fun k hk => hk.elim (fun q => .inl (hs k q)) .inr)
  | drop hx h ih => exact .drop (hs _ hx) (ih hs)
theorem Pr.refl : ∀ (U : List α) (S : κ → Prop), Pr key S U U
  | [], _ => .nil
  | _ :: U, _ => .keep (Pr.refl U _)
theorem Pr.keeps {P U : List α} : ∀ (l : List α) {S : κ → Prop}, Pr key (fun k => S k ∨ k ∈ l.map key) P U → Pr key S (l ++ P) (l ++ U)
  | [], S, h => h.more key fun k q => q.elim id fun z => by cases z
  | x :: l, S, h => .keep (Pr.keeps l (h.more key fun k q => by
    rcases q with q | q
    · exact .inl (.inl q)
    · rcases List.mem_cons.mp (show k ∈ key x :: l.map key from q) with e | e
      · exact .inl (.inr e)
      · exact .inr e))
theorem Pr.drops {P U : List α} : ∀ (l : List α) {S : κ → Prop}, (∀ x ∈ l, S (key x)) → Pr key S P U → Pr key S P (l ++ U)
  | [], S, _, h => h
  | x :: l, S, hl, h => .drop (hl x List.mem_cons_self) (Pr.drops l (fun y hy => hl y (List.mem_cons_of_mem _ hy)) h)
variable {key ext}
/-- what is kept has all the keys -/
theorem Pr.keys {S : κ → Prop} {P U : List α} (h : Pr key S P U) (k : κ) : (S k ∨ k ∈ P.map key) ↔ (S k ∨ k ∈ U.map key) := by
  induction h with
  | nil => rfl
  | keep h ih =>
    simp only [List.map_cons, List.mem_cons]
    constructor
    · rintro (q | q | q)
      · exact .inl q
      · exact .inr (.inl q)
      · rcases ih.mp (.inr q) with (z | z) | z
        · exact .inl z
        · exact .inr (.inl z)
        · exact .inr (.inr z)
    · rintro (q | q | q)
      · exact .inl q
      · exact .inr (.inl q)
      · rcases ih.mpr (.inr q) with (z | z) | z
        · exact .inl z
        · exact .inr (.inl z)
        · exact .inr (.inr z)
  | drop hx h ih =>
    simp only [List.map_cons, List.mem_cons]
    constructor
    · intro q
      rcases ih.mp q with z | z
      · exact .inl z
      · exact .inr (.inr z)
    · rintro (q | q | q)
      · exact .inl q
      · exact .inl (q ▸ hx)
      · exact ih.mpr (.inr q)
theorem Pr.find {hit : α → Bool} (hk : ∀ x y, key x = key y → hit x = hit y) {S : κ → Prop} {P U : List α} (h : Pr key S P U) : (∀ x, S (key x) → hit x = false) → P.find? hit = U.find? hit := by
  induction h with
  | nil => intro _; rfl
  | @keep S x P U h ih =>
    intro hS
    by_cases hx : hit x = true
    · rw [List.find?_cons_of_pos hx, List.find?_cons_of_pos hx]
    · rw [List.find?_cons_of_neg hx, List.find?_cons_of_neg hx]
      refine ih fun y hy => ?_
      rcases hy with q | q
      · exact hS y q
      · rw [hk y x q]; simpa using hx
  | drop hx h ih =>
    intro hS
    rw [List.find?_cons_of_neg (by rw [hS _ hx]; decide)]
    exact ih hS
/-- one level on -/
theorem Pr.step {G : α → Prop} (hx : ∀ x y, G x → G y → key x = key y → (ext x).map key = (ext y).map key) {S T : κ → Prop} {P U : List α} (h : Pr key S P U) : (∀ x ∈ U, G x) → (∀ v, G v → S (key v) → ∀ y ∈ ext v, T (key y)) → ∀ seen : List κ, (∀ k, k ∈ seen ↔ S k) →
    Pr key T ((frs key seen P).flatMap ext) (U.flatMap ext) := by
  induction h generalizing T with
  | nil => intro _ _ _ _; exact .nil
  | @keep S x P U h ih =>
    intro hG hS seen hs
    have hGx := hG x List.mem_cons_self
    have hG' : ∀ x ∈ U, G x := fun y hy => hG y (List.mem_cons_of_mem _ hy)
    by_cases hi : key x ∈ seen
    · rw [frs_pos key hi, List.flatMap_cons]
      have hSx := (hs _).mp hi
      refine Pr.drops key _ (hS x hGx hSx) (ih hG' (fun v hv hvs y hy => ?_) seen fun k => ?_)
      · rcases hvs with q | q
        · exact hS v hv q y hy
        · exact hS v hv (by rw [q]; exact hSx) y hy
      · rw [hs k]
        exact ⟨.inl, fun q => q.elim id fun e => e ▸ hSx⟩
    · rw [frs_neg key hi, List.flatMap_cons, List.flatMap_cons]
      refine Pr.keeps key _ (ih hG' (fun v hv hvs y hy => ?_) (seen ++ [key x]) fun k => ?_)
      · rcases hvs with q | q
        · exact .inl (hS v hv q y hy)
        · refine .inr ?_
          rw [← hx v x hv hGx q]
          exact List.mem_map.mpr ⟨y, hy, rfl⟩
      · simp [hs k]
  | @drop S x P U hSx h ih =>
    intro hG hS seen hs
    rw [List.flatMap_cons]
    exact Pr.drops key _ (hS x (hG x List.mem_cons_self) hSx) (ih (fun y hy => hG y (List.mem_cons_of_mem _ hy)) hS seen hs)
/-- the levels as they are searched, and the keys met -/
def prn (L0 : List α) : Nat → List α × List κ
  | 0 => (L0, [])
  | t + 1 => ((frs key (prn L0 t).2 (prn L0 t).1).flatMap ext, (prn L0 t).2 ++ (frs key (prn L0 t).2 (prn L0 t).1).map key)
/-- all levels -/
def alv (L0 : List α) : Nat → List α
  | 0 => L0
  | t + 1 => (alv L0 t).flatMap ext
theorem prn_ok {G : α → Prop} {L0 : List α} (hx : ∀ x y, G x → G y → key x = key y → (ext x).map key = (ext y).map key) (hG : ∀ t, ∀ x ∈ alv (ext := ext) L0 t, G x) : ∀ t : Nat,
    Pr key (fun k => ∃ u, u < t ∧ k ∈ (alv (ext := ext) L0 u).map key) (prn (key := key) (ext := ext) L0 t).1 (alv (ext := ext) L0 t) ∧ ∀ k, k ∈ (prn (key := key) (ext := ext) L0 t).2 ↔ ∃ u, u < t ∧ k ∈ (alv (ext := ext) L0 u).map key
  | 0 => ⟨Pr.refl key _ _, fun k => ⟨fun h => (by cases h), fun ⟨u, hu, _⟩ => absurd hu (Nat.not_lt_zero _)⟩⟩
  | t + 1 => by
    obtain ⟨h1, h2⟩ := prn_ok hx hG t
    have hcl : ∀ v, G v → (∃ u, u < t ∧ key v ∈ (alv (ext := ext) L0 u).map key) → ∀ y ∈ ext v, ∃ u, u < t + 1 ∧ key y ∈ (alv (ext := ext) L0 u).map key := by
      intro v hv hu y hy
      obtain ⟨u, hu, hk⟩ := hu
      obtain ⟨z, hz, e⟩ := List.mem_map.mp hk
      have e2 := hx v z hv (hG u z hz) e.symm
      have : key y ∈ (ext z).map key := by rw [← e2]; exact List.mem_map.mpr ⟨y, hy, rfl⟩
      obtain ⟨y', hy', e3⟩ := List.mem_map.mp this
      exact ⟨u + 1, by omega, List.mem_map.mpr ⟨y', List.mem_flatMap.mpr ⟨z, hz, hy'⟩, e3⟩⟩
    refine ⟨Pr.step hx h1 (hG t) hcl _ h2, fun k => ?_⟩
    · show k ∈ _ ++ List.map key _ ↔ _
      rw [frs_keys, h2 k]
      have := h1.keys k
      rw [this]
      constructor
      · rintro (⟨u, hu, h⟩ | h)
        · exact ⟨u, by omega, h⟩
        · exact ⟨t, by omega, h⟩
      · rintro ⟨u, hu, h⟩
        by_cases e : u = t
        · subst e; exact .inr h
        · exact .inl ⟨u, by omega, h⟩
/-- the first that is hit, level by level -/
theorem prn_find {G : α → Prop} {L0 : List α} (hx : ∀ x y, G x → G y → key x = key y → (ext x).map key = (ext y).map key) (hG : ∀ t, ∀ x ∈ alv (ext := ext) L0 t, G x) {hit : α → Bool} (hk : ∀ x y, key x = key y → hit x = hit y) {t : Nat} (hn : ∀ u, u < t → ∀ x ∈ alv (ext := ext) L0 u, hit x = false) :
    (prn (key := key) (ext := ext) L0 t).1.find? hit = (alv (ext := ext) L0 t).find? hit :=
  Pr.find hk (prn_ok hx hG t).1 fun x ⟨u, hu, h⟩ => by
    obtain ⟨y, hy, e⟩ := List.mem_map.mp h
    rw [hk x y e.symm]
    exact hn u hu y hy
theorem prn_nil {L0 : List α} {t : Nat} (h : (prn (key := key) (ext := ext) L0 t).1 = []) : ∀ d, (prn (key := key) (ext := ext) L0 (t + d)).1 = []
  | 0 => h
  | d + 1 => by
    have := prn_nil h d
    show (frs key _ (prn (key := key) (ext := ext) L0 (t + d)).1).flatMap ext = []
    rw [this]
    rfl
/-- if the search ends there is nothing to be hit -/
theorem prn_end {G : α → Prop} {L0 : List α} (hx : ∀ x y, G x → G y → key x = key y → (ext x).map key = (ext y).map key) (hG : ∀ t, ∀ x ∈ alv (ext := ext) L0 t, G x) {hit : α → Bool} (hk : ∀ x y, key x = key y → hit x = hit y) {t : Nat} (hn : ∀ u, u < t → ∀ x ∈ alv (ext := ext) L0 u, hit x = false)
    (he : (prn (key := key) (ext := ext) L0 t).1 = []) : ∀ d, ∀ u, u < t + d → ∀ x ∈ alv (ext := ext) L0 u, hit x = false
  | 0, u, hu, x, hx' => hn u hu x hx'
  | d + 1, u, hu, x, hx' => by
    have ih := prn_end hx hG hk hn he d
    by_cases e : u = t + d
    · subst e
      have := prn_find hx hG hk ih
      rw [prn_nil he d] at this
      have := List.find?_eq_none.mp this.symm x hx'
      simpa using this
    · exact ih u (by omega) x hx'
theorem prn_nodup {L0 : List α} : ∀ t, (prn (key := key) (ext := ext) L0 t).2.Nodup
  | 0 => List.nodup_nil
  | t + 1 => frs_nodup key _ _ (prn_nodup t)
theorem prn_sub {L0 : List α} : ∀ t x, x ∈ (prn (key := key) (ext := ext) L0 t).1 → x ∈ alv (ext := ext) L0 t
  | 0, x, h => h
  | t + 1, x, h => by
    obtain ⟨y, hy, hx⟩ := List.mem_flatMap.mp (show x ∈ (frs key _ _).flatMap ext from h)
    exact List.mem_flatMap.mpr ⟨y, prn_sub t y (frs_sub key _ _ _ hy), hx⟩
end
/-! ### levels of ways -/
/-- the state onto the last road of a way -/
def Net.onto (n : Net) (w : List Nat) : Int := n.sB w (w.length - 1)
def Net.key (n : Net) (w : List Nat) : Nat × Int := (w.getLastD 0, n.onto w)
theorem wk_app {w : List Nat} {k i : Nat} (h : i < w.length) : wk (w ++ [k]) i = wk w i := by
  unfold wk
  rw [List.getD_eq_getElem?_getD, List.getD_eq_getElem?_getD, List.getElem?_append_left h]
theorem sB_app (n : Net) {w : List Nat} {k : Nat} : ∀ {i : Nat}, i ≤ w.length → n.sB (w ++ [k]) i = n.sB w i
  | 0, _ => rfl
  | i + 1, h => by
    show n.ov (n.lv (wk (w ++ [k]) i) (n.sB (w ++ [k]) i)) = n.ov (n.lv (wk w i) (n.sB w i))
    rw [wk_app (by omega), sB_app n (by omega)]
theorem wk_last {w : List Nat} (h : w ≠ []) : wk w (w.length - 1) = w.getLastD 0 := by
  unfold wk
  rw [List.getLastD_eq_getLast?, List.getLast?_eq_getElem?, List.getD_eq_getElem?_getD]
theorem onto_app (n : Net) {w : List Nat} (h : w ≠ []) (k : Nat) : n.onto (w ++ [k]) = n.nxt (n.key w) := by
  have hp : 0 < w.length := List.length_pos_iff.mpr h
  unfold Net.onto
  rw [show (w ++ [k]).length - 1 = (w.length - 1) + 1 by simp; omega]
  show n.ov (n.lv (wk (w ++ [k]) (w.length - 1)) (n.sB (w ++ [k]) (w.length - 1))) = _
  rw [wk_app (by omega), sB_app n (by omega), wk_last h]
  rfl
theorem last_app (w : List Nat) (k : Nat) : (w ++ [k]).getLastD 0 = k := by
  rw [List.getLastD_eq_getLast?, List.getLast?_append]
  rfl
theorem key_app (n : Net) {w : List Nat} (h : w ≠ []) (k : Nat) : n.key (w ++ [k]) = (k, n.nxt (n.key w)) := by
  unfold Net.key
  rw [last_app, onto_app n h]
  rfl
theorem key_reach {n : Net} {w : List Nat} (h : n.Way w) : n.Reach (n.key w).1 (n.key w).2 := by
  have hp : 0 < w.length := List.length_pos_iff.mpr h.ne
  have := way_reach' h (i := w.length - 1) (by omega)
  rw [wk_last h.ne] at this
  exact this
where
  way_reach' {n : Net} {r : List Nat} (hr : n.Way r) : ∀ {i : Nat}, i < r.length → n.Reach (wk r i) (n.sB r i)
  | 0, hi => .start (hr.lt _ (getD_mem hi))
  | i + 1, hi => by
    refine .go (way_reach' hr (i := i) (by omega)) ?_
    have hl := hr.link i (wk r i) (wk r (i + 1)) (by simp [wk, show i < r.length by omega]) (by simp [wk, hi])
    exact List.mem_filter.mpr ⟨by simpa using hr.lt _ (getD_mem hi), by simpa using hl.symm⟩
theorem ext_keys {n : Net} {v w : List Nat} (hv : v ≠ []) (hw : w ≠ []) (h : n.key v = n.key w) : (n.ext v).map n.key = (n.ext w).map n.key := by
  have hl : v.getLastD 0 = w.getLastD 0 := congrArg Prod.fst h
  unfold Net.ext
  rw [List.map_map, List.map_map, hl]
  apply List.map_congr_left
  intro k _
  show n.key (v ++ [k]) = n.key (w ++ [k])
  rw [key_app n hv, key_app n hw, h]
/-- every place has a way to it -/
theorem reach_lev {n : Net} {k : Nat} {s : Int} (r : n.Reach k s) : ∃ t, ∃ w ∈ n.lev t, n.key w = (k, s) := by
  induction r with
  | @start k hk => exact ⟨0, [k], List.mem_map.mpr ⟨k, by simpa using hk, rfl⟩, rfl⟩
  | @go k j s r hj ih =>
    obtain ⟨t, w, hw, e⟩ := ih
    have hne := (lev_way hw).1.ne
    refine ⟨t + 1, w ++ [j], List.mem_flatMap.mpr ⟨w, hw, List.mem_map.mpr ⟨j, ?_, rfl⟩⟩, ?_⟩
    · have : w.getLastD 0 = k := congrArg Prod.fst e
      rw [this]
      exact hj
    · rw [key_app n hne, e]
      rfl
theorem alv_lev (n : Net) : ∀ t, alv (ext := n.ext) (n.lev 0) t = n.lev t
  | 0 => rfl
  | t + 1 => by
    show (alv (ext := n.ext) (n.lev 0) t).flatMap n.ext = (n.lev t).flatMap n.ext
    rw [alv_lev n t]
end LW
namespace DN
open PySem PySem.Spec PyProof.Rows L2
theorem gWhile_RI {β : Type} {fc : Ev → Rs Bool} {gb : Ev → RO} (I : β → Ev → Prop) (μ : β → Nat) {Q : R → Prop} {ρ : Ev} {b0 : β} (h0 : I b0 ρ) (hμ : μ b0 < 1000000)
    (hs : ∀ b ρ, I b ρ → ∃ c, fc ρ = .ok c ∧ (c = true → NR (gb ρ) (fun ρ' => ∃ b', I b' ρ' ∧ μ b' < μ b) Q)) : NR (gWhile fc gb ρ) (fun ρ' => (∃ b, I b ρ') ∧ fc ρ' = .ok false) Q := by
  have key : ∀ (n : Nat) (b : β) (ρ : Ev), I b ρ → μ b < n → NR (whileN fc gb n ρ) (fun ρ' => (∃ b, I b ρ') ∧ fc ρ' = .ok false) Q := by
    intro n
    induction n with
    | zero => intro b ρ _ h; omega
    | succ n ih =>
      intro b ρ hI h
      obtain ⟨c, e, hb⟩ := hs b ρ hI
      unfold whileN
      rw [e, onR_ok]
      cases c with
      | true =>
        rw [if_pos rfl]
        exact NR.seq (hb rfl) fun ρ1 ⟨b1, h1, h2⟩ => ih b1 ρ1 h1 (by omega)
      | false =>
        rw [if_neg (by decide)]
        exact ⟨⟨b, hI⟩, e⟩
  exact key _ b0 ρ h0 hμ
end DN
namespace LW
open PySem PySem.Spec PyProof.Rows L2 DN
/-! ### what a search by levels finds -/
section
variable {κ : Type} [DecidableEq κ] {ext : κ → List κ} {L0 : List κ}
def Lvd (ext : κ → List κ) (L0 : List κ) (x : κ) : Prop := ∃ t, x ∈ alv (ext := ext) L0 t
theorem lvd_start {x : κ} (h : x ∈ L0) : Lvd ext L0 x := ⟨0, h⟩
theorem lvd_step {x y : κ} (h : Lvd ext L0 x) (hy : y ∈ ext x) : Lvd ext L0 y := by
  obtain ⟨t, ht⟩ := h
  exact ⟨t + 1, List.mem_flatMap.mpr ⟨x, ht, hy⟩⟩
theorem lvd_ind {P : κ → Prop} (h0 : ∀ x ∈ L0, P x) (hs : ∀ x, Lvd ext L0 x → P x → ∀ y ∈ ext x, P y) {x : κ} (h : Lvd ext L0 x) : P x := by
  obtain ⟨t, ht⟩ := h
  induction t generalizing x with
  | zero => exact h0 x ht
  | succ t ih =>
    obtain ⟨y, hy, hx⟩ := List.mem_flatMap.mp ht
    exact hs y ⟨t, hy⟩ (ih hy) x hx
theorem bfsL {X : Type} (lt : List PyData → R) (enc : κ → PyData) (U : List κ) (hU : ∀ x, Lvd ext L0 x → x ∈ U) (hB : U.length ≤ 1600) (hx8 : ∀ x, (ext x).length ≤ 8) (hit : κ → Bool) (mk : List κ → List κ → Option R → X → Ev)
    {fc : Ev → Rs Bool} {s1 s3 : Ev → RO} {fi : Ev → Rs (List PyData)} {ft : PyData → Ev → Rs Ev} {gb : Ev → RO}
    (hfc : ∀ L D o x, fc (mk L D o x) = .ok (!L.isEmpty)) (h1 : ∀ L D o x, s1 (mk L D o x) = .nx (mk L D (some (lt [])) x)) (hfi : ∀ L D o x, fi (mk L D o x) = .ok (L.map enc))
    (h3 : ∀ L D later x, s3 (mk L D (some (lt (later.map enc))) x) = .nx (mk later D (some (.val (.list (later.map enc)))) x))
    (hb : ∀ L D later x p, Lvd ext L0 p → D.length ≤ 1600 → later.length ≤ 12800 → (∀ q ∈ D, Lvd ext L0 q) →
      (p ∈ D → NR (bdy ft gb (enc p) (mk L D (some (lt (later.map enc))) x)) (fun ρ => ∃ x', ρ = mk L D (some (lt (later.map enc))) x') (fun _ => False)) ∧
      (p ∉ D → NR (bdy ft gb (enc p) (mk L D (some (lt (later.map enc))) x)) (fun ρ => hit p = false ∧ ∃ x', ρ = mk L (D ++ [p]) (some (lt ((later ++ ext p).map enc))) x') (fun r => hit p = true ∧ r = .val (.bool false))))
    (o0 : Option R) (x0 : X) :
    NR (gWhile fc (gSeq s1 (gSeq (gFor fi ft gb) s3)) (mk L0 [] o0 x0)) (fun ρ => (∃ D o x, ρ = mk [] D o x ∧ D.Nodup ∧ ∀ p, p ∈ D ↔ Lvd ext L0 p) ∧ ∀ p, Lvd ext L0 p → hit p = false) (fun r => r = .val (.bool false) ∧ ∃ p, Lvd ext L0 p ∧ hit p = true) := by
  have hx : ∀ x y : κ, True → True → id x = id y → (ext x).map id = (ext y).map id := fun x y _ _ e => by rw [show x = y from e]
  have hG : ∀ t, ∀ x ∈ alv (ext := ext) L0 t, True := fun _ _ _ => trivial
  let pl : Nat → List κ := fun t => (prn (key := id) (ext := ext) L0 t).1
  let sn : Nat → List κ := fun t => (prn (key := id) (ext := ext) L0 t).2
  have plv : ∀ t x, x ∈ pl t → Lvd ext L0 x := fun t x h => ⟨t, prn_sub t x h⟩
  have snv : ∀ t x, x ∈ sn t → Lvd ext L0 x := fun t x h => by
    obtain ⟨u, _, hu⟩ := ((prn_ok hx hG t).2 x).mp h
    rw [List.map_id] at hu
    exact ⟨u, hu⟩
  have few : ∀ D : List κ, D.Nodup → (∀ q ∈ D, Lvd ext L0 q) → D.length ≤ 1600 := fun D hn hq => Nat.le_trans (List.Nodup.length_le_of_subset hn fun q h => hU q (hq q h)) hB
  have main := gWhile_RI (fc := fc) (gb := gSeq s1 (gSeq (gFor fi ft gb) s3)) (Q := fun r => r = .val (.bool false) ∧ ∃ p, Lvd ext L0 p ∧ hit p = true)
    (fun (t : Nat) ρ => (∀ q ∈ sn t, hit q = false) ∧ ∃ o x, ρ = mk (pl t) (sn t) o x) (fun t => 2 * (1600 - (sn t).length) + if (pl t).isEmpty then 0 else 1) (ρ := mk L0 [] o0 x0) (b0 := 0)
    ⟨fun q hq => (by cases hq), o0, x0, rfl⟩ (by show 2 * (1600 - 0) + _ < _; split <;> omega) (fun t ρ hI => by
      obtain ⟨hno, o, x, rfl⟩ := hI
      refine ⟨_, hfc _ _ _ _, fun hne => ?_⟩
      have hne : (pl t).isEmpty = false := by simpa using hne
      show NR ((s1 _).seq _) _ _
      rw [h1, seq_nx]
      show NR ((gFor fi ft gb _).seq _) _ _
      have hfr : ∀ ys : List κ, (∀ y ∈ ys, y ∈ pl t) → (sn t ++ (frs id (sn t) ys).map id).Nodup ∧ ∀ q ∈ sn t ++ (frs id (sn t) ys).map id, Lvd ext L0 q := fun ys hy => by
        refine ⟨frs_nodup id ys (sn t) (prn_nodup t), fun q hq => ?_⟩
        rcases List.mem_append.mp hq with z | z
        · exact snv t q z
        · rw [List.map_id] at z
          exact plv t q (hy q (frs_sub id _ _ _ z))
      refine NR.seq (P := fun ρ => (∀ q ∈ frs id (sn t) (pl t), hit q = false) ∧ ∃ x', ρ = mk (pl t) (sn t ++ (frs id (sn t) (pl t)).map id) (some (lt (((frs id (sn t) (pl t)).flatMap ext).map enc))) x') ?_ ?_
      · refine gFor_listR (enc := enc) (xs := pl t) (fun ys ρ => (∀ q ∈ frs id (sn t) ys, hit q = false) ∧ ∃ x', ρ = mk (pl t) (sn t ++ (frs id (sn t) ys).map id) (some (lt (((frs id (sn t) ys).flatMap ext).map enc))) x') (hfi _ _ _ _)
          ⟨fun q hq => (by cases hq), x, by simp [frs]⟩ (fun ys p zs ρ hxs hI => ?_)
        obtain ⟨hnh, x', rfl⟩ := hI
        have hyp : ∀ y ∈ ys, y ∈ pl t := fun y hy => by
          show y ∈ pl t
          rw [hxs]; simp [hy]
        have hp : p ∈ pl t := by
          show p ∈ pl t
          rw [hxs]; simp
        have hD := hfr ys hyp
        have hDl := few _ hD.1 hD.2
        have hfl : ((frs id (sn t) ys).flatMap ext).length ≤ (frs id (sn t) ys).length * 8 := flat_len fun v _ => hx8 v
        have hfl2 : (frs id (sn t) ys).length ≤ 1600 := by
          have : (sn t ++ (frs id (sn t) ys).map id).length = (sn t).length + (frs id (sn t) ys).length := by simp
          omega
        have hbb := hb (pl t) (sn t ++ (frs id (sn t) ys).map id) ((frs id (sn t) ys).flatMap ext) x' p (plv t p hp) hDl (by omega) hD.2
        by_cases hin : id p ∈ sn t ++ (frs id (sn t) ys).map id
        · rw [frs_old id hin]
          refine (hbb.1 hin).imp (fun ρ q => ⟨hnh, q⟩) (fun _ z => z.elim)
        · rw [frs_new id hin]
          refine (hbb.2 hin).imp (fun ρ q => ?_) (fun r q => ⟨q.2, p, plv t p hp, q.1⟩)
          obtain ⟨hhp, x'', rfl⟩ := q
          refine ⟨fun q hq => ?_, x'', by simp⟩
          rcases List.mem_append.mp hq with z | z
          · exact hnh q z
          · rw [List.mem_singleton.mp z]; exact hhp
      · rintro _ ⟨hnh, x', rfl⟩
        rw [h3]
        have hsn : sn (t + 1) = sn t ++ (frs id (sn t) (pl t)).map id := rfl
        have hpl : pl (t + 1) = (frs id (sn t) (pl t)).flatMap ext := rfl
        refine (NR_nx _ _ _).mpr ⟨t + 1, ⟨fun q hq => ?_, _, x', rfl⟩, ?_⟩
        · rw [hsn] at hq
          rcases List.mem_append.mp hq with z | z
          · exact hno q z
          · rw [List.map_id] at z
            exact hnh q z
        · have hD := hfr (pl t) fun y hy => hy
          have hDl := few _ hD.1 hD.2
          have hl : (sn (t + 1)).length = (sn t).length + (frs id (sn t) (pl t)).length := by rw [hsn]; simp
          rw [← hsn] at hDl
          rw [hne]
          by_cases z : frs id (sn t) (pl t) = []
          · have e1 : pl (t + 1) = [] := by rw [hpl, z]; rfl
            rw [e1, hl, z]
            simp
          · have : 0 < (frs id (sn t) (pl t)).length := List.length_pos_iff.mpr z
            have e2 : (if (pl (t + 1)).isEmpty = true then 0 else 1) ≤ 1 := by split <;> omega
            simp only [Bool.false_eq_true, if_false]
            omega)
  refine main.imp (fun ρ q => ?_) (fun r q => q)
  obtain ⟨⟨t, hno, o, x, rfl⟩, ht⟩ := q
  rw [hfc] at ht
  have hpl : pl t = [] := by
    cases e : pl t with
    | nil => rfl
    | cons a b => rw [e] at ht; cases ht
  -- all that can be come to was met
  have hall : ∀ p, Lvd ext L0 p → p ∈ sn t := fun p ⟨u, hu⟩ => by
    have := prn_end hx hG (hit := fun q => decide (q ∉ sn t)) (fun a b e => by rw [show a = b from e]) (t := t) (fun u hu q hq => by
      have : q ∈ sn t := ((prn_ok hx hG t).2 q).mpr ⟨u, hu, by rw [List.map_id]; exact hq⟩
      simp [this]) hpl (u + 1) u (by omega) p hu
    simpa using this
  refine ⟨⟨sn t, o, x, by rw [hpl], prn_nodup t, fun p => ⟨snv t p, hall p⟩⟩, fun p hp => hno p (hall p hp)⟩
theorem bfs {X : Type} (enc : κ → PyData) (U : List κ) (hU : ∀ x, Lvd ext L0 x → x ∈ U) (hB : U.length ≤ 1600) (hx8 : ∀ x, (ext x).length ≤ 8) (hit : κ → Bool) (mk : List κ → List κ → Option R → X → Ev)
    {fc : Ev → Rs Bool} {s1 s3 : Ev → RO} {fi : Ev → Rs (List PyData)} {ft : PyData → Ev → Rs Ev} {gb : Ev → RO}
    (hfc : ∀ L D o x, fc (mk L D o x) = .ok (!L.isEmpty)) (h1 : ∀ L D o x, s1 (mk L D o x) = .nx (mk L D (some (.own [])) x)) (hfi : ∀ L D o x, fi (mk L D o x) = .ok (L.map enc))
    (h3 : ∀ L D later x, s3 (mk L D (some (.own (later.map enc))) x) = .nx (mk later D (some (.val (.list (later.map enc)))) x))
    (hb : ∀ L D later x p, Lvd ext L0 p → D.length ≤ 1600 → later.length ≤ 12800 → (∀ q ∈ D, Lvd ext L0 q) →
      (p ∈ D → NR (bdy ft gb (enc p) (mk L D (some (.own (later.map enc))) x)) (fun ρ => ∃ x', ρ = mk L D (some (.own (later.map enc))) x') (fun _ => False)) ∧
      (p ∉ D → NR (bdy ft gb (enc p) (mk L D (some (.own (later.map enc))) x)) (fun ρ => hit p = false ∧ ∃ x', ρ = mk L (D ++ [p]) (some (.own ((later ++ ext p).map enc))) x') (fun r => hit p = true ∧ r = .val (.bool false))))
    (o0 : Option R) (x0 : X) :
    NR (gWhile fc (gSeq s1 (gSeq (gFor fi ft gb) s3)) (mk L0 [] o0 x0)) (fun ρ => (∃ D o x, ρ = mk [] D o x ∧ D.Nodup ∧ ∀ p, p ∈ D ↔ Lvd ext L0 p) ∧ ∀ p, Lvd ext L0 p → hit p = false) (fun r => r = .val (.bool false) ∧ ∃ p, Lvd ext L0 p ∧ hit p = true) :=
  bfsL R.own enc U hU hB hx8 hit mk hfc h1 hfi h3 hb o0 x0
end
/-! ### pairs of states in two nets -/
abbrev Tr := Nat × Int × Int
def Net.ex2 (n m : Net) (p : Tr) : List Tr := (n.aft p.1).map fun j => (j, n.ov (n.lv p.1 p.2.1), m.ov (m.lv p.1 p.2.2))
def Net.l2 (n : Net) : List Tr := (List.range n.roads.length).map fun k => (k, 0, 0)
/-- drivers in two nets can come onto a road with a pair of states -/
abbrev Net.R2 (n m : Net) (p : Tr) : Prop := Lvd (n.ex2 m) n.l2 p
theorem R2_bd {n m : Net} (hn : n.Ok) (hm : m.Ok) (hl : m.roads.length = n.roads.length) {p : Tr} (h : n.R2 m p) : p.1 < n.roads.length ∧ (0 ≤ p.2.1 ∧ p.2.1 ≤ 13) ∧ (0 ≤ p.2.2 ∧ p.2.2 ≤ 13) := by
  refine lvd_ind (P := fun p => p.1 < n.roads.length ∧ (0 ≤ p.2.1 ∧ p.2.1 ≤ 13) ∧ (0 ≤ p.2.2 ∧ p.2.2 ≤ 13)) (fun x hx => ?_) (fun x _ hx y hy => ?_) h
  · obtain ⟨k, hk, rfl⟩ := List.mem_map.mp hx
    exact ⟨by simpa using hk, ⟨Int.le_refl 0, show (0 : Int) ≤ 13 by decide⟩, Int.le_refl 0, show (0 : Int) ≤ 13 by decide⟩
  · obtain ⟨j, hj, rfl⟩ := List.mem_map.mp hy
    have a := lv_bd hn hx.1 hx.2.1.1 hx.2.1.2
    have b := lv_bd hm (by rw [hl]; exact hx.1) hx.2.2.1 hx.2.2.2
    exact ⟨aft_lt hj, ov_bd n a.1 a.2, ov_bd m b.1 b.2⟩
def Net.all2 (n : Net) : List Tr := n.grid.flatMap fun p => (List.range 14).map fun s => (p.1, p.2, ((s : Nat) : Int))
theorem all2_len {n : Net} (h : n.Ok) : n.all2.length ≤ 1600 := by
  have h8 := h.r8
  have h1 := grid_len n
  have : n.all2.length ≤ n.grid.length * 14 := flat_len fun p _ => by simp
  omega
theorem R2_all {n m : Net} (hn : n.Ok) (hm : m.Ok) (hl : m.roads.length = n.roads.length) {p : Tr} (h : n.R2 m p) : p ∈ n.all2 := by
  obtain ⟨h1, h2, h3⟩ := R2_bd hn hm hl h
  exact List.mem_flatMap.mpr ⟨(p.1, p.2.1), mem_grid.mpr ⟨h1, h2.1, h2.2⟩, List.mem_map.mpr ⟨p.2.2.toNat, by simp; omega, by
    refine Prod.ext rfl (Prod.ext rfl ?_)
    show ((p.2.2.toNat : Nat) : Int) = p.2.2
    omega⟩⟩
theorem ex2_len {n : Net} (h : n.Ok) (m : Net) (p : Tr) : (n.ex2 m p).length ≤ 8 := by
  unfold Net.ex2
  rw [List.length_map]
  exact Nat.le_trans (aft_len n _) h.r8
def tpD (p : Tr) : PyData := .tuple [.int (p.1 : Nat), .int p.2.1, .int p.2.2]
def tpK (p : Tr) : List Key × PyData := ([.inl (p.1 : Nat), .inl p.2.1, .inl p.2.2], .bool true)
theorem asTup_tp (k : Nat) (a b : Int) : asTup (.tuple [.int (k : Nat), .int a, .int b]) = some [.inl ((k : Nat) : Int), .inl a, .inl b] := rfl
theorem key_tp (p q : Tr) : (tpK p).1 = [Sum.inl ((q.1 : Nat) : Int), Sum.inl q.2.1, Sum.inl q.2.2] ↔ p = q := by
  constructor
  · intro h
    have h : [Sum.inl ((p.1 : Nat) : Int), Sum.inl p.2.1, Sum.inl p.2.2] = ([Sum.inl ((q.1 : Nat) : Int), Sum.inl q.2.1, Sum.inl q.2.2] : List Key) := h
    simp at h
    exact Prod.ext (by omega) (Prod.ext h.2.1 h.2.2)
  · rintro rfl
    rfl
theorem tpK_val (ps : List Tr) (p : Tr) : (valP (ps.map tpK) [.inl ((p.1 : Nat) : Int), .inl p.2.1, .inl p.2.2]).isSome = decide (p ∈ ps) := by
  unfold valP
  rw [Option.isSome_map, List.find?_map, Option.isSome_map]
  by_cases h : p ∈ ps
  · rw [List.find?_isSome.mpr ⟨p, h, by simp [Function.comp, key_tp]⟩]
    simp [h]
  · have : ps.find? ((fun kv => decide (kv.1 = [Sum.inl ((p.1 : Nat) : Int), Sum.inl p.2.1, Sum.inl p.2.2])) ∘ tpK) = none := by
      rw [List.find?_eq_none]
      intro q hq
      simp only [Function.comp, decide_eq_true_eq, key_tp]
      rintro rfl
      exact h hq
    rw [this]
    simp [h]
theorem tpK_put (ps : List Tr) (p : Tr) (h : p ∉ ps) : putP (ps.map tpK) [.inl ((p.1 : Nat) : Int), .inl p.2.1, .inl p.2.2] (.bool true) = (ps ++ [p]).map tpK := by
  unfold putP
  have : ((ps.map tpK).any fun kv => decide (kv.1 = [Sum.inl ((p.1 : Nat) : Int), Sum.inl p.2.1, Sum.inl p.2.2])) = false := by
    rw [List.any_eq_false]
    intro kv hkv
    obtain ⟨q, hq, rfl⟩ := List.mem_map.mp hkv
    simp only [decide_eq_true_eq, key_tp]
    rintro rfl
    exact h hq
  rw [this, if_neg (by decide), List.map_append]
  rfl
theorem sortD_tp (ps : List Tr) : ∃ qs : List Tr, sortD (ps.map tpD) = qs.map tpD ∧ ∀ p, p ∈ qs ↔ p ∈ ps := by
  refine ⟨ps.mergeSort (fun a b => PySem.W.dataLe false (fun d : PyData => d) (tpD a) (tpD b)), ?_, fun p => List.mem_mergeSort⟩
  unfold sortD
  rw [List.map_mergeSort (r := fun a b => PySem.W.dataLe false (fun d : PyData => d) (tpD a) (tpD b)) (s := fun a b => PySem.W.dataLe false (fun d : PyData => d) a b)]
  intro a _ b _
  rfl
theorem sortable_tp (ps : List Tr) : sortable (ps.map tpD) = true := by
  unfold sortable
  simp only [Bool.and_eq_true, Bool.or_eq_true]
  refine ⟨⟨?_, .inl ?_⟩, ?_⟩
  · simp [List.all_map, tpD, PySem.W.alike, PySem.W.alikeAll]
  · simp [List.all_map, tpD]
  · simp [List.all_map, tpD, PyData.depth, PyData.depthAll]
theorem dOks_tp (ps : List Tr) : dOks 1 (ps.map tpD) = true := dOks_map fun x _ => dOk_tuple (by simp [dOks])
theorem capDK {ps : List Tr} (h : ps.length ≤ 1600) : (ps.map tpK).length < lim := Nat.lt_of_lt_of_le (show _ < 2000 by rw [List.length_map]; omega) (by decide)
theorem capLT {ps qs : List Tr} (h : ps.length ≤ 12800) (h2 : qs.length ≤ 8) : (ps.map tpD).length + (qs.map tpD).length ≤ lim := Nat.le_trans (show _ ≤ 20000 by rw [List.length_map, List.length_map]; omega) (by decide)
end LW
namespace LW
open PySem PySem.Spec PyProof.Rows L2 DN
/-! ### a sign left out -/
def Net.drp (n : Net) (k i : Nat) : Net := n.put k ((n.rd k).g.eraseIdx i)
theorem drp_len (n : Net) (k i : Nat) : (n.drp k i).roads.length = n.roads.length := put_len n k _
theorem drp_ok {n : Net} (h : n.Ok) {k : Nat} (hk : k < n.roads.length) (i : Nat) : (n.drp k i).Ok :=
  put_ok h hk (Nat.le_trans (List.length_eraseIdx_le _ _) (h.rd hk).gl) fun x hx => (h.rd hk).g x (List.mem_of_mem_eraseIdx hx)
theorem erase_cut (g : List Int) (i : Nat) : g.eraseIdx i = g.take i ++ g.drop (i + 1) := List.eraseIdx_eq_take_drop_succ g i
/-! ### signs that change nothing -/
/-- a limit changes for a pair of drivers, if the sign i of the road k is left out -/
def Net.bad2 (n m : Net) (k i : Nat) (p : Tr) : Bool :=
  (decide (p.1 = k) && !decide (n.lim_ p.1 i p.2.1 = n.lim_ p.1 (i + 1) p.2.1)) || !decide ((if p.1 = k then (n.pcs p.1 p.2.1).eraseIdx i else n.pcs p.1 p.2.1) = m.pcs p.1 p.2.2)
open Classical in
noncomputable def Net.idl (n : Net) (k i : Nat) : Bool := decide (∀ p, n.R2 (n.drp k i) p → n.bad2 (n.drp k i) k i p = false)
theorem eqI (xs ys : List Int) : eqD (.list (xs.map .int)) (.list (ys.map .int)) = .ok (decide (xs = ys)) := by
  rw [eqD_of (n := 1) (m := 1) (dOk_list (dOks_map fun x _ => dOk_int 0 _)) (dOk_list (dOks_map fun x _ => dOk_int 0 _)) (by decide) (by decide)]
  congr 1
  have key : ∀ xs ys : List Int, PyData.eqvAll (xs.map .int) (ys.map .int) = decide (xs = ys) := by
    intro xs
    induction xs with
    | nil => intro ys; cases ys <;> simp [PyData.eqvAll]
    | cons x xs ih =>
      intro ys
      cases ys with
      | nil => simp [PyData.eqvAll]
      | cons y ys =>
        simp only [List.map_cons, PyData.eqvAll, ih]
        by_cases h : x = y
        · subst h; simp [PyData.eqv]
        · simp [PyData.eqv, h]
  show PyData.eqvAll _ _ = _
  exact key xs ys
/-- the idle signs -/
noncomputable def Net.idles (n : Net) : List (Nat × Nat) := (List.range n.roads.length).flatMap fun k => ((List.range (n.rd k).g.length).filter fun i => n.idl k i).map fun i => (k, i)
def idD (p : Nat × Nat) : PyData := .tuple [.int (p.1 : Nat), .int (p.2 : Nat)]
end LW
namespace LW
open PySem PySem.Spec PyProof.Rows L2 DN
/-! ### == of data without truth values -/
mutual
def pur : PyData → Bool
  | .none => true
  | .int _ => true
  | .list xs => purs xs
  | .tuple xs => purs xs
  | _ => false
def purs : List PyData → Bool
  | [] => true
  | x :: xs => pur x && purs xs
end
mutual
theorem eqv_pur : ∀ d e : PyData, pur d = true → pur e = true → (PyData.eqv d e = true ↔ d = e)
  | .none, e, _, h => by cases e <;> simp [PyData.eqv, pur] at *
  | .int i, e, _, h => by cases e <;> simp [PyData.eqv, pur] at *
  | .bool _, _, h, _ => by simp [pur] at h
  | .str _, _, h, _ => by simp [pur] at h
  | .dict _, _, h, _ => by simp [pur] at h
  | .list xs, e, h, g => by
    cases e with
    | list ys =>
      have := eqv_purs xs ys (by simpa [pur] using h) (by simpa [pur] using g)
      simpa [PyData.eqv] using this
    | _ => simp [PyData.eqv, pur] at *
  | .tuple xs, e, h, g => by
    cases e with
    | tuple ys =>
      have := eqv_purs xs ys (by simpa [pur] using h) (by simpa [pur] using g)
      simpa [PyData.eqv] using this
    | _ => simp [PyData.eqv, pur] at *
theorem eqv_purs : ∀ ds es : List PyData, purs ds = true → purs es = true → (PyData.eqvAll ds es = true ↔ ds = es)
  | [], [], _, _ => by simp [PyData.eqvAll]
  | [], _ :: _, _, _ => by simp [PyData.eqvAll]
  | _ :: _, [], _, _ => by simp [PyData.eqvAll]
  | d :: ds, e :: es, h, g => by
    have h' := Bool.and_eq_true_iff.mp (show (pur d && purs ds) = true by simpa [purs] using h)
    have g' := Bool.and_eq_true_iff.mp (show (pur e && purs es) = true by simpa [purs] using g)
    have a := eqv_pur d e h'.1 g'.1
    have b := eqv_purs ds es h'.2 g'.2
    simp [PyData.eqvAll, a, b]
end
theorem purs_map {α : Type} {f : α → PyData} {xs : List α} (h : ∀ x ∈ xs, pur (f x) = true) : purs (xs.map f) = true := by
  induction xs with
  | nil => rfl
  | cons x xs ih =>
    show (pur (f x) && purs (xs.map f)) = true
    rw [h x List.mem_cons_self, ih fun y hy => h y (List.mem_cons_of_mem _ hy)]
    rfl
theorem eqD_pur {n m : Nat} {d e : PyData} {b : Bool} (hd : dOk n d = true) (he : dOk m e = true) (hn : n ≤ 64) (hm : m ≤ 64) (pd : pur d = true) (pe : pur e = true) (hb : b = true ↔ d = e) : eqD d e = .ok b := by
  rw [eqD_of hd he hn hm]
  congr 1
  rw [Bool.eq_iff_iff, eqv_pur d e pd pe, hb]
theorem pur_tI (g : List Int) : pur (tI g) = true := purs_map fun _ _ => rfl
theorem pur_wD (w : List Nat) : pur (wD w) = true := purs_map fun _ _ => rfl
theorem pur_net (n : Net) : pur n.d = true := by
  unfold Net.d
  simp only [pur, purs, Bool.true_and, Bool.and_true]
  refine purs_map fun r _ => ?_
  unfold Road.d
  simp only [pur, purs, Bool.true_and, Bool.and_true]
  exact purs_map fun _ _ => rfl
theorem dOk_net (n : Net) : dOk 4 n.d = true := by
  unfold Net.d
  refine dOk_tuple ?_
  simp only [dOks, dOk_int, Bool.true_and, Bool.and_true]
  refine dOk_tuple (dOks_map fun r _ => ?_)
  unfold Road.d
  refine dOk_tuple ?_
  simp only [dOks, dOk_int, Bool.true_and, Bool.and_true]
  exact dOk_tuple (dOks_map fun x _ => dOk_int 0 _)
theorem map_inj {α β : Type} {f : α → β} (hf : ∀ x y, f x = f y → x = y) : ∀ {xs ys : List α}, xs.map f = ys.map f → xs = ys
  | [], [], _ => rfl
  | [], _ :: _, h => by cases h
  | _ :: _, [], h => by cases h
  | x :: xs, y :: ys, h => by
    rw [List.map_cons, List.map_cons] at h
    injection h with h1 h2
    rw [hf x y h1, map_inj hf h2]
theorem tI_inj {g h : List Int} (e : tI g = tI h) : g = h := by
  unfold tI at e
  injection e with e
  exact map_inj (fun x y z => by injection z) e
theorem road_inj {r q : Road} (e : r.d = q.d) : r = q := by
  unfold Road.d at e
  injection e with e
  injection e with e1 e
  injection e with e2 e
  injection e with e3 e
  injection e with e4 e
  injection e1 with e1
  injection e2 with e2
  injection e3 with e3
  cases r; cases q
  simp only at *
  subst e1 e2 e3
  rw [tI_inj e4]
theorem net_inj {n m : Net} (e : n.d = m.d) : n = m := by
  unfold Net.d at e
  injection e with e
  injection e with e1 e
  injection e with e2 e
  injection e with e3 e
  injection e with e4 e
  injection e1 with e1
  injection e2 with e2
  injection e3 with e3
  injection e4 with e4
  cases n; cases m
  simp only at *
  subst e1 e2 e3
  rw [map_inj (fun x y z => road_inj z) e4]
theorem eqD_net (n m : Net) {b : Bool} (hb : b = true ↔ n = m) : eqD n.d m.d = .ok b :=
  eqD_pur (dOk_net n) (dOk_net m) (by decide) (by decide) (pur_net n) (pur_net m) (by rw [hb]; exact ⟨fun e => by rw [e], net_inj⟩)
theorem wD_inj {v w : List Nat} (e : wD v = wD w) : v = w := by
  unfold wD nI at e
  injection e with e
  exact map_inj (fun x y z => by injection z with z; omega) e
/-! ### a search that tells a way -/
section
variable {α κ X : Type} [DecidableEq κ] {key : α → κ} {ext : α → List α} {L0 : List α}
theorem bfsW {G : α → Prop} (hx : ∀ x y, G x → G y → key x = key y → (ext x).map key = (ext y).map key) (hG : ∀ t, ∀ x ∈ alv (ext := ext) L0 t, G x) (enc encW : α → PyData) (U : List κ) (hU : ∀ t, ∀ x ∈ alv (ext := ext) L0 t, key x ∈ U) (hB : U.length ≤ 1600) (hx8 : ∀ x, (ext x).length ≤ 8)
    (hit : α → Bool) (hk : ∀ x y, key x = key y → hit x = hit y) (mk : List α → List κ → Option R → X → Ev)
    {fc : Ev → Rs Bool} {s1 s3 : Ev → RO} {fi : Ev → Rs (List PyData)} {ft : PyData → Ev → Rs Ev} {gb : Ev → RO}
    (hfc : ∀ L D o x, fc (mk L D o x) = .ok (!L.isEmpty)) (h1 : ∀ L D o x, s1 (mk L D o x) = .nx (mk L D (some (.own [])) x)) (hfi : ∀ L D o x, fi (mk L D o x) = .ok (L.map enc))
    (h3 : ∀ L D later x, s3 (mk L D (some (.own (later.map enc))) x) = .nx (mk later D (some (.val (.list (later.map enc)))) x))
    (hb : ∀ L D later x t p, p ∈ alv (ext := ext) L0 t → t ≤ 1600 → D.length ≤ 1600 → later.length ≤ 12800 →
      (hit p = true → NR (bdy ft gb (enc p) (mk L D (some (.own (later.map enc))) x)) (fun _ => False) (fun r => r = .val (encW p))) ∧
      (hit p = false → key p ∈ D → NR (bdy ft gb (enc p) (mk L D (some (.own (later.map enc))) x)) (fun ρ => ∃ x', ρ = mk L D (some (.own (later.map enc))) x') (fun _ => False)) ∧
      (hit p = false → key p ∉ D → NR (bdy ft gb (enc p) (mk L D (some (.own (later.map enc))) x)) (fun ρ => ∃ x', ρ = mk L (D ++ [key p]) (some (.own ((later ++ ext p).map enc))) x') (fun _ => False)))
    (o0 : Option R) (x0 : X) :
    NR (gWhile fc (gSeq s1 (gSeq (gFor fi ft gb) s3)) (mk L0 [] o0 x0)) (fun _ => ∀ t, ∀ x ∈ alv (ext := ext) L0 t, hit x = false)
      (fun r => ∃ t w, t ≤ 1600 ∧ (∀ u, u < t → ∀ x ∈ alv (ext := ext) L0 u, hit x = false) ∧ (alv (ext := ext) L0 t).find? hit = some w ∧ r = .val (encW w)) := by
  let pl : Nat → List α := fun t => (prn (key := key) (ext := ext) L0 t).1
  let sn : Nat → List κ := fun t => (prn (key := key) (ext := ext) L0 t).2
  have plv : ∀ t x, x ∈ pl t → x ∈ alv (ext := ext) L0 t := fun t x h => prn_sub t x h
  have snU : ∀ t k, k ∈ sn t → k ∈ U := fun t k h => by
    obtain ⟨u, _, hu⟩ := ((prn_ok hx hG t).2 k).mp h
    obtain ⟨y, hy, rfl⟩ := List.mem_map.mp hu
    exact hU u y hy
  have few : ∀ D : List κ, D.Nodup → (∀ q ∈ D, q ∈ U) → D.length ≤ 1600 := fun D hn hq => Nat.le_trans (List.Nodup.length_le_of_subset hn fun q h => hq q h) hB
  have main := gWhile_RI (fc := fc) (gb := gSeq s1 (gSeq (gFor fi ft gb) s3)) (Q := fun r => ∃ t w, t ≤ 1600 ∧ (∀ u, u < t → ∀ x ∈ alv (ext := ext) L0 u, hit x = false) ∧ (alv (ext := ext) L0 t).find? hit = some w ∧ r = .val (encW w))
    (fun (t : Nat) ρ => (∀ u, u < t → ∀ x ∈ alv (ext := ext) L0 u, hit x = false) ∧ (pl t = [] ∨ t ≤ (sn t).length) ∧ ∃ o x, ρ = mk (pl t) (sn t) o x) (fun t => 2 * (1600 - (sn t).length) + if (pl t).isEmpty then 0 else 1) (ρ := mk L0 [] o0 x0) (b0 := 0)
    ⟨fun u hu => absurd hu (Nat.not_lt_zero _), .inr (Nat.zero_le _), o0, x0, rfl⟩ (by show 2 * (1600 - 0) + _ < _; split <;> omega) (fun t ρ hI => by
      obtain ⟨hno, htl, o, x, rfl⟩ := hI
      refine ⟨_, hfc _ _ _ _, fun hne => ?_⟩
      have hne : (pl t).isEmpty = false := by simpa using hne
      have hpne : pl t ≠ [] := fun z => by rw [z] at hne; cases hne
      have htl := htl.resolve_left hpne
      have hsn0 := few (sn t) (prn_nodup t) (snU t)
      have hfind : (pl t).find? hit = (alv (ext := ext) L0 t).find? hit := prn_find hx hG hk hno
      show NR ((s1 _).seq _) _ _
      rw [h1, seq_nx]
      show NR ((gFor fi ft gb _).seq _) _ _
      have hfr : ∀ ys : List α, (∀ y ∈ ys, y ∈ pl t) → (sn t ++ (frs key (sn t) ys).map key).Nodup ∧ ∀ q ∈ sn t ++ (frs key (sn t) ys).map key, q ∈ U := fun ys hy => by
        refine ⟨frs_nodup key ys (sn t) (prn_nodup t), fun q hq => ?_⟩
        rcases List.mem_append.mp hq with z | z
        · exact snU t q z
        · obtain ⟨y, hy', rfl⟩ := List.mem_map.mp z
          exact hU t y (plv t y (hy y (frs_sub key _ _ _ hy')))
      refine NR.seq (P := fun ρ => (∀ q ∈ pl t, hit q = false) ∧ ∃ x', ρ = mk (pl t) (sn t ++ (frs key (sn t) (pl t)).map key) (some (.own (((frs key (sn t) (pl t)).flatMap ext).map enc))) x') ?_ ?_
      · refine gFor_listR (enc := enc) (xs := pl t) (fun ys ρ => (∀ q ∈ ys, hit q = false) ∧ ∃ x', ρ = mk (pl t) (sn t ++ (frs key (sn t) ys).map key) (some (.own (((frs key (sn t) ys).flatMap ext).map enc))) x') (hfi _ _ _ _)
          ⟨fun q hq => (by cases hq), x, by simp [frs]⟩ (fun ys p zs ρ hxs hI => ?_)
        obtain ⟨hnh, x', rfl⟩ := hI
        have hyp : ∀ y ∈ ys, y ∈ pl t := fun y hy => by
          show y ∈ pl t
          rw [hxs]; simp [hy]
        have hp : p ∈ pl t := by
          show p ∈ pl t
          rw [hxs]; simp
        have hD := hfr ys hyp
        have hDl := few _ hD.1 hD.2
        have hfl : ((frs key (sn t) ys).flatMap ext).length ≤ (frs key (sn t) ys).length * 8 := flat_len fun v _ => hx8 v
        have hfl2 : (frs key (sn t) ys).length ≤ 1600 := by
          have : (sn t ++ (frs key (sn t) ys).map key).length = (sn t).length + (frs key (sn t) ys).length := by simp
          omega
        have hbb := hb (pl t) (sn t ++ (frs key (sn t) ys).map key) ((frs key (sn t) ys).flatMap ext) x' t p (plv t p hp) (by omega) hDl (by omega)
        cases hh : hit p with
        | true =>
          refine (hbb.1 hh).imp (fun ρ z => z.elim) (fun r q => ⟨t, p, by omega, hno, ?_, q⟩)
          rw [← hfind, hxs, List.find?_append, List.find?_eq_none.mpr (fun y hy => by rw [hnh y hy]; decide)]
          simp [hh]
        | false =>
          have hyz : ∀ q ∈ ys ++ [p], hit q = false := fun q hq => by
            rcases List.mem_append.mp hq with z | z
            · exact hnh q z
            · rw [List.mem_singleton.mp z]; exact hh
          by_cases hin : key p ∈ sn t ++ (frs key (sn t) ys).map key
          · rw [frs_old key hin]
            exact (hbb.2.1 hh hin).imp (fun ρ q => ⟨hyz, q⟩) (fun _ z => z.elim)
          · rw [frs_new key hin]
            refine (hbb.2.2 hh hin).imp (fun ρ q => ?_) (fun _ z => z.elim)
            obtain ⟨x'', rfl⟩ := q
            exact ⟨hyz, x'', by simp⟩
      · rintro _ ⟨hnh, x', rfl⟩
        rw [h3]
        have hsn : sn (t + 1) = sn t ++ (frs key (sn t) (pl t)).map key := rfl
        have hpl : pl (t + 1) = (frs key (sn t) (pl t)).flatMap ext := rfl
        have hD := hfr (pl t) fun y hy => hy
        have hDl := few _ hD.1 hD.2
        have hl : (sn (t + 1)).length = (sn t).length + (frs key (sn t) (pl t)).length := by rw [hsn]; simp
        rw [← hsn] at hDl
        have hfr2 : pl (t + 1) = [] ∨ 0 < (frs key (sn t) (pl t)).length := by
          by_cases z : frs key (sn t) (pl t) = []
          · exact .inl (by rw [hpl, z]; rfl)
          · exact .inr (List.length_pos_iff.mpr z)
        refine (NR_nx _ _ _).mpr ⟨t + 1, ⟨fun u hu v hv => ?_, ?_, _, x', rfl⟩, ?_⟩
        · by_cases e : u = t
          · subst e
            have : (alv (ext := ext) L0 u).find? hit = none := by
              rw [← hfind, List.find?_eq_none]
              intro y hy
              rw [hnh y hy]
              decide
            have := List.find?_eq_none.mp this v hv
            simpa using this
          · exact hno u (by omega) v hv
        · rcases hfr2 with z | z
          · exact .inl z
          · exact .inr (by omega)
        · rw [hne]
          rcases hfr2 with z | z
          · rw [z, hl]
            simp
            omega
          · have e2 : (if (pl (t + 1)).isEmpty = true then 0 else 1) ≤ 1 := by split <;> omega
            simp only [Bool.false_eq_true, if_false]
            omega)
  refine main.imp (fun ρ q => ?_) (fun r q => q)
  obtain ⟨⟨t, hno, _, o, x, rfl⟩, ht⟩ := q
  rw [hfc] at ht
  have hpl : pl t = [] := by
    cases e : pl t with
    | nil => rfl
    | cons a b => rw [e] at ht; cases ht
  intro u v hv
  exact prn_end hx hG hk hno hpl (u + 1) u (by omega) v hv
end
/-! ### shapes -/
def Net.shp (n : Net) : List (Int × Int × Int) := n.roads.map fun r => (r.s, r.e, ((r.g.length : Nat) : Int))
def shD (t : Int × Int × Int) : PyData := .tuple [.int t.1, .int t.2.1, .int t.2.2]
theorem shp_len (n : Net) : n.shp.length = n.roads.length := by simp [Net.shp]
theorem eqD_shp (n m : Net) : eqD (.list (n.shp.map shD)) (.list (m.shp.map shD)) = .ok (decide (n.shp = m.shp)) := by
  have h1 : ∀ n : Net, dOk 2 (.list (n.shp.map shD)) = true := fun n => dOk_list (dOks_map fun x _ => dOk_tuple (by simp [dOks]))
  have h2 : ∀ n : Net, pur (.list (n.shp.map shD)) = true := fun n => purs_map fun _ _ => rfl
  refine eqD_pur (h1 n) (h1 m) (by decide) (by decide) (h2 n) (h2 m) ?_
  rw [decide_eq_true_iff]
  refine ⟨fun e => by rw [e], fun e => ?_⟩
  injection e with e
  refine map_inj (fun x y z => ?_) e
  unfold shD at z
  injection z with z
  injection z with z1 z
  injection z with z2 z
  injection z with z3 z
  injection z1 with z1
  injection z2 with z2
  injection z3 with z3
  exact Prod.ext z1 (Prod.ext z2 z3)
/-- nets of the same shape -/
structure Net.Twn (n m : Net) : Prop where
  len : m.roads.length = n.roads.length
  s : ∀ j, (m.rd j).s = (n.rd j).s
  e : ∀ j, (m.rd j).e = (n.rd j).e
  g : ∀ j, (m.rd j).g.length = (n.rd j).g.length
theorem twn_of {n m : Net} (h : n.shp = m.shp) : n.Twn m := by
  have hl : m.roads.length = n.roads.length := by rw [← shp_len, ← shp_len, h]
  have key : ∀ j, ((m.rd j).s, (m.rd j).e, (((m.rd j).g.length : Nat) : Int)) = ((n.rd j).s, (n.rd j).e, (((n.rd j).g.length : Nat) : Int)) := fun j => by
    by_cases hj : j < n.roads.length
    · have hj' : j < m.roads.length := by rw [hl]; exact hj
      have e1 : n.shp[j]? = some ((n.rd j).s, (n.rd j).e, (((n.rd j).g.length : Nat) : Int)) := by simp [Net.shp, Net.rd, hj]
      have e2 : m.shp[j]? = some ((m.rd j).s, (m.rd j).e, (((m.rd j).g.length : Nat) : Int)) := by simp [Net.shp, Net.rd, hj']
      rw [h, e2] at e1
      injection e1
    · have hj' : ¬ j < m.roads.length := by rw [hl]; exact hj
      simp [Net.rd, hj, hj']
  refine ⟨hl, fun j => congrArg Prod.fst (key j), fun j => congrArg (fun p => p.2.1) (key j), fun j => ?_⟩
  have := congrArg (fun p => p.2.2) (key j)
  simp only at this
  omega
theorem shp_of {n m : Net} (h : n.Twn m) : n.shp = m.shp := by
  unfold Net.shp
  rw [roads_range n, roads_range m, List.map_map, List.map_map, h.len]
  apply List.map_congr_left
  intro j _
  show ((n.rd j).s, (n.rd j).e, _) = ((m.rd j).s, (m.rd j).e, _)
  rw [h.s, h.e, h.g]
theorem Net.Twn.symm {n m : Net} (h : n.Twn m) : m.Twn n := ⟨h.len.symm, fun j => (h.s j).symm, fun j => (h.e j).symm, fun j => (h.g j).symm⟩
theorem twn_aft {n m : Net} (h : n.Twn m) (k : Nat) : m.aft k = n.aft k := by
  unfold Net.aft
  rw [h.len]
  apply List.filter_congr
  intro j _
  rw [h.s, h.e]
theorem twn_lev {n m : Net} (h : n.Twn m) : ∀ t, m.lev t = n.lev t
  | 0 => by simp [Net.lev, h.len]
  | t + 1 => by
    show (m.lev t).flatMap m.ext = (n.lev t).flatMap n.ext
    rw [twn_lev h t]
    congr 1
    funext w
    unfold Net.ext
    rw [twn_aft h]
theorem twn_way {n m : Net} (h : n.Twn m) {r : List Nat} (hr : n.Way r) : m.Way r := ⟨hr.ne, fun k hk => by rw [h.len]; exact hr.lt k hk, fun i a b ha hb => by rw [h.e, h.s]; exact hr.link i a b ha hb⟩
/-! ### ways on two nets -/
def Net.k2 (n m : Net) (w : List Nat) : Tr := (w.getLastD 0, n.onto w, m.onto w)
theorem k2_app (n m : Net) {w : List Nat} (h : w ≠ []) (k : Nat) : n.k2 m (w ++ [k]) = (k, n.nxt (n.key w), m.nxt (m.key w)) := by
  unfold Net.k2
  rw [last_app, onto_app n h, onto_app m h]
theorem ext_k2 {n m : Net} {v w : List Nat} (hv : v ≠ []) (hw : w ≠ []) (h : n.k2 m v = n.k2 m w) : (n.ext v).map (n.k2 m) = (n.ext w).map (n.k2 m) := by
  have hl : v.getLastD 0 = w.getLastD 0 := congrArg Prod.fst h
  have h1 : n.key v = n.key w := Prod.ext hl (congrArg (fun p => p.2.1) h)
  have h2 : m.key v = m.key w := Prod.ext hl (congrArg (fun p => p.2.2) h)
  unfold Net.ext
  rw [List.map_map, List.map_map, hl]
  apply List.map_congr_left
  intro k _
  show n.k2 m (v ++ [k]) = n.k2 m (w ++ [k])
  rw [k2_app n m hv, k2_app n m hw, h1, h2]
theorem k2_R2 {n m : Net} : ∀ {t : Nat} {w : List Nat}, w ∈ n.lev t → n.R2 m (n.k2 m w)
  | 0, w, h => by
    obtain ⟨k, hk, rfl⟩ := List.mem_map.mp h
    exact lvd_start (List.mem_map.mpr ⟨k, hk, rfl⟩)
  | t + 1, w, h => by
    obtain ⟨v, hv, h⟩ := List.mem_flatMap.mp h
    obtain ⟨k, hk, rfl⟩ := List.mem_map.mp h
    rw [k2_app n m (lev_way hv).1.ne]
    exact lvd_step (k2_R2 hv) (List.mem_map.mpr ⟨k, hk, rfl⟩)
/-- every pair of states has a way to it -/
theorem R2_lev {n m : Net} {p : Tr} (h : n.R2 m p) : ∃ t, ∃ w ∈ n.lev t, n.k2 m w = p := by
  refine lvd_ind (P := fun p => ∃ t, ∃ w ∈ n.lev t, n.k2 m w = p) (fun x hx => ?_) (fun x _ hx y hy => ?_) h
  · obtain ⟨k, hk, rfl⟩ := List.mem_map.mp hx
    exact ⟨0, [k], List.mem_map.mpr ⟨k, hk, rfl⟩, rfl⟩
  · obtain ⟨t, w, hw, e⟩ := hx
    obtain ⟨j, hj, rfl⟩ := List.mem_map.mp hy
    have hne := (lev_way hw).1.ne
    subst e
    exact ⟨t + 1, w ++ [j], List.mem_flatMap.mpr ⟨w, hw, List.mem_map.mpr ⟨j, hj, rfl⟩⟩, k2_app n m hne j⟩
/-- the limits on the last road differ -/
def Net.hit2 (n m : Net) (w : List Nat) : Bool := !decide (n.pcs (w.getLastD 0) (n.onto w) = m.pcs (w.getLastD 0) (m.onto w))
theorem hit2_key {n m : Net} {v w : List Nat} (h : n.k2 m v = n.k2 m w) : n.hit2 m v = n.hit2 m w := by
  have h0 : v.getLastD 0 = w.getLastD 0 := congrArg Prod.fst h
  have h1 : n.onto v = n.onto w := congrArg (fun p => p.2.1) h
  have h2 : m.onto v = m.onto w := congrArg (fun p => p.2.2) h
  unfold Net.hit2
  rw [h0, h1, h2]
theorem hit2_symm (n m : Net) (w : List Nat) : m.hit2 n w = n.hit2 m w := by
  unfold Net.hit2
  congr 1
  exact decide_eq_decide.mpr ⟨Eq.symm, Eq.symm⟩
def Net.ws2 (n m : Net) (w : List Nat) : PyData := .tuple [wD w, .int (n.onto w), .int (m.onto w)]
def ownW : Option (List Nat) → PyData
  | some w => wD w
  | none => .none
theorem eq_rowsD (xs ys : List (List Int)) : eqD (.list (xs.map iL)) (.list (ys.map iL)) = .ok (decide (xs = ys)) := by
  have h1 : ∀ xs : List (List Int), dOk 2 (.list (xs.map iL)) = true := fun xs => dOk_list (dOks_map fun x _ => dOk_list (dOks_map fun x _ => dOk_int 0 _))
  have h2 : ∀ xs : List (List Int), pur (.list (xs.map iL)) = true := fun xs => purs_map fun _ _ => purs_map fun _ _ => rfl
  refine eqD_pur (h1 xs) (h1 ys) (by decide) (by decide) (h2 xs) (h2 ys) ?_
  rw [decide_eq_true_iff]
  refine ⟨fun e => by rw [e], fun e => ?_⟩
  injection e with e
  refine map_inj (fun x y z => ?_) e
  unfold iL at z
  injection z with z
  exact map_inj (fun a b q => by injection q) z
theorem eq_ownW (o : Option (List Nat)) : eqD (ownW o) (ownW o) = .ok true := by
  cases o with
  | none => exact eqD_same (n := 0) rfl (by decide)
  | some w => exact eqD_same (n := 1) (dOk_tuple (dOks_nI 0 w)) (by decide)
theorem is_ownW (o : Option (List Nat)) : opIs (ownW o) .none = .ok (.val (.bool o.isNone)) ∧ opIsNot (ownW o) .none = .ok (.val (.bool o.isSome)) := by
  cases o <;> exact ⟨rfl, rfl⟩
end LW
namespace LW
open PySem PySem.Spec PyProof.Rows L2 DN
/-! ### drawn numbers -/
theorem mulR {i j : Int} (h : -(2 : Int) ^ 64 < j ∧ j < 2 ^ 64) : CMul i j := .inr h
theorem mulL {i j : Int} (h : -(2 : Int) ^ 64 < i ∧ i < 2 ^ 64) : CMul i j := .inl h
theorem divC (i : Int) {c : Int} (h : 0 < c ∧ c < 1073741824) : CDivW i c := by
  unfold CDivW
  refine ⟨by omega, ?_⟩
  have h1 : c.natAbs < 2 ^ 30 := by omega
  have := Nat.log2_lt (n := c.natAbs) (k := 30) (by omega)
  have := this.mpr h1
  omega
theorem div18 (i : Int) : CDivW i 1000000000000000000 := by unfold CDivW; decide
theorem pow18' : CPow 10 18 := by unfold CPow; decide
theorem drawn_den (ns : List Int) (hl : ns.length ≤ 63) (k many : Int) (hk : 0 ≤ k) (hk2 : k < 100000) (hm : 0 < many) : ∃ m, d_l_drawn [.scr ns, .val (.int k), .val (.int many)] = .ok (.val (.int m)) ∧ 0 ≤ m ∧ m < many := by
  have fin : ∀ (cell : Int) (o4 o5 : Option R), ∃ m, retOf ((gSeq (gAsgF 3 (fOp opMod (fOp opAdd (fOp opMulI (fOp opMod (fVar 3) (fC (.int 2147483563))) (fC (.int 69069))) (fOp opMulI (fC (.int 104723)) (fOp opAdd (fVar 1) (fC (.int 1))))) (fC (.int 2147483563))))
  (gSeq (gAsgF 3 (fOp opMod (fOp opAdd (fOp opMulI (fVar 3) (fVar 3)) (fOp opDiv (fVar 3) (fC (.int 3)))) (fC (.int 2147483399))))
  (gRet (fOp opMod (fOp opDiv (fOp opMod (fOp opAdd (fOp opMulI (fVar 3) (fVar 3)) (fOp opDiv (fVar 3) (fC (.int 7)))) (fC (.int 2147483647))) (fC (.int 11))) (fVar 2))))) [some (.scr ns), some (.val (.int k)), some (.val (.int many)), some (.val (.int cell)), o4, o5]) = .ok (.val (.int m)) ∧ 0 ≤ m ∧ m < many := by
    intro cell o4 o5
    have a1 := Int.emod_nonneg (cell % 2147483563 * 69069 + 104723 * (k + 1)) (b := 2147483563) (by decide)
    have a2 := Int.emod_lt_of_pos (cell % 2147483563 * 69069 + 104723 * (k + 1)) (b := 2147483563) (by decide)
    have m1 : CMul (cell % 2147483563) 69069 := mulR (by decide)
    have m2 : CMul 104723 (k + 1) := mulL (by decide)
    have d3 := fun i => divC i (c := 3) (by decide)
    have d7 := fun i => divC i (c := 7) (by decide)
    have d11 := fun i => divC i (c := 11) (by decide)
    generalize hc1 : (cell % 2147483563 * 69069 + 104723 * (k + 1)) % 2147483563 = c1 at a1 a2
    have m3 : CMul c1 c1 := mulL (by omega)
    have b1 := Int.emod_nonneg (c1 * c1 + c1 / 3) (b := 2147483399) (by decide)
    have b2 := Int.emod_lt_of_pos (c1 * c1 + c1 / 3) (b := 2147483399) (by decide)
    generalize hc2 : (c1 * c1 + c1 / 3) % 2147483399 = c2 at b1 b2
    have m4 : CMul c2 c2 := mulL (by omega)
    have hmod : 0 < many := hm
    refine ⟨(c2 * c2 + c2 / 7) % 2147483647 / 11 % many, ?_, Int.emod_nonneg _ (by omega), Int.emod_lt_of_pos _ hm⟩
    simp only [gSeq]
    simp [oIc, m1, m2, hc1, m3, d3, hc2, m4, d7, d11, hmod]
  have loop : ∀ (cell rest turn : Int), turn < 100000 → ∃ rest' turn', gWhile l_drawn_t1 l_drawn_b1
      [some (.scr ns), some (.val (.int k)), some (.val (.int many)), some (.val (.int cell)), some (.val (.int turn)), some (.val (.int rest))] =
      .nx [some (.scr ns), some (.val (.int k)), some (.val (.int many)), some (.val (.int cell)), some (.val (.int turn')), some (.val (.int rest'))] := by
    intro cell rest turn ha
    obtain ⟨ρ', e, ⟨r', a', rfl⟩, _⟩ := gWhile_rel (fc := l_drawn_t1) (gb := l_drawn_b1)
      (fun ρ => ∃ r a : Int, ρ = [some (.scr ns), some (.val (.int k)), some (.val (.int many)), some (.val (.int cell)), some (.val (.int a)), some (.val (.int r))])
      (natAt 4) (ρ := [some (.scr ns), some (.val (.int k)), some (.val (.int many)), some (.val (.int cell)), some (.val (.int turn)), some (.val (.int rest))])
      ⟨rest, turn, rfl⟩ (by simp [natAt]; omega) (fun ρ hI => by
        obtain ⟨r, a, rfl⟩ := hI
        have dm := divC r (c := 1000000) (by decide)
        by_cases h1 : 0 < r
        · by_cases h2 : 0 < a
          · exact ⟨true, by simp [l_drawn_t1, h1, h2], fun _ => ⟨[some (.scr ns), some (.val (.int k)), some (.val (.int many)), some (.val (.int cell)), some (.val (.int (a - 1))), some (.val (.int (r / 1000000)))], by simp [l_drawn_b1, oIc, dm], ⟨_, _, rfl⟩, by simp [natAt]; omega⟩⟩
          · exact ⟨false, by simp [l_drawn_t1, h1, h2], fun z => by cases z⟩
        · exact ⟨false, by simp [l_drawn_t1, h1], fun z => by cases z⟩)
    exact ⟨r', a', e⟩
  unfold d_l_drawn denB g_l_drawn
  have m7 : CMul 7 k := mulL (by decide)
  cases ns with
  | nil =>
    obtain ⟨m, e, h1, h2⟩ := fin (7 * k) none none
    refine ⟨m, ?_, h1, h2⟩
    simp only [gSeq, startE] at e ⊢
    simp [oIc, m7]
    simpa using e
  | cons c cs =>
    have hlenN : 0 < (c :: cs).length := by simp
    have hlen : 0 < ((c :: cs).length : Int) := by omega
    have hk3 := Int.emod_nonneg k (b := ((c :: cs).length : Int)) (by omega)
    have hk4 := Int.emod_lt_of_pos k hlen
    obtain ⟨x, hx⟩ : ∃ x, (c :: cs)[(k % ((c :: cs).length : Int)).toNat]? = some x := by
      rw [List.getElem?_eq_getElem (by omega)]
      exact ⟨_, rfl⟩
    have hq : k / ((c :: cs).length : Int) < 100000 := Int.lt_of_le_of_lt (Int.ediv_le_self _ hk) hk2
    have hq0 : 0 ≤ k / ((c :: cs).length : Int) := Int.ediv_nonneg hk (by omega)
    have hd : CDivW k ((c :: cs).length : Int) := divC k (by omega)
    have hne : (c :: cs).isEmpty = false := rfl
    have hat : atI (c :: cs) (k % ((c :: cs).length : Int)) = some x := by rw [atI_pos _ hk3]; exact hx
    generalize (c :: cs) = ns at *
    have m65 : CMul 6553 (k / (ns.length : Int)) := mulL (by decide)
    have p18 := pow18'
    by_cases hbig : (1000000000000000000 : Int) ≤ x ∧ k / (ns.length : Int) < 60
    · obtain ⟨r', a', e'⟩ := loop x (x / 1000000000000000000) (k / (ns.length : Int)) hq
      by_cases hr : 0 < r'
      · refine ⟨r' % 1000000 % many, ?_, Int.emod_nonneg _ (by omega), Int.emod_lt_of_pos _ hm⟩
        have hmod : 0 < many := hm
        simp only [gSeq, startE]
        simp [oIc, m7, hne, hat, hlenN, hd, p18, hbig.1, hbig.2, div18, e', hr, hmod]
      · obtain ⟨m, e, h1, h2⟩ := fin (x + 6553 * (k / (ns.length : Int))) (some (.val (.int a'))) (some (.val (.int r')))
        refine ⟨m, ?_, h1, h2⟩
        simp only [gSeq, startE] at e ⊢
        simp [oIc, m7, hne, hat, hlenN, hd, p18, hbig.1, hbig.2, div18, e', hr, m65]
        simpa using e
    · obtain ⟨m, e, h1, h2⟩ := fin (x + 6553 * (k / (ns.length : Int))) (some (.val (.int (k / (ns.length : Int))))) none
      refine ⟨m, ?_, h1, h2⟩
      simp only [gSeq, startE] at e ⊢
      by_cases hb1 : (1000000000000000000 : Int) ≤ x
      · have hb2 : ¬ k / (ns.length : Int) < 60 := fun z => hbig ⟨hb1, z⟩
        simp [oIc, m7, hne, hat, hlenN, hd, p18, hb1, hb2, m65]
        simpa using e
      · simp [oIc, m7, hne, hat, hlenN, hd, p18, hb1, m65]
        simpa using e
def drawV (ns : List Int) (k many : Int) : Int := match d_l_drawn [.scr ns, .val (.int k), .val (.int many)] with
  | .ok (.val (.int m)) => m
  | _ => 0
theorem draw_eq (ns : List Int) (hl : ns.length ≤ 63) (k many : Int) (hk : 0 ≤ k) (hk2 : k < 100000) (hm : 0 < many) :
    d_l_drawn [.scr ns, .val (.int k), .val (.int many)] = .ok (.val (.int (drawV ns k many))) ∧ 0 ≤ drawV ns k many ∧ drawV ns k many < many := by
  obtain ⟨m, e, h1, h2⟩ := drawn_den ns hl k many hk hk2 hm
  have : drawV ns k many = m := by unfold drawV; rw [e]
  rw [this]
  exact ⟨e, h1, h2⟩
theorem draw_nat (ns : List Int) (hl : ns.length ≤ 63) {k : Int} {many : Nat} (hk : 0 ≤ k) (hk2 : k < 100000) (hm : 0 < many) :
    ∃ j : Nat, j < many ∧ d_l_drawn [.scr ns, .val (.int k), .val (.int (many : Nat))] = .ok (.val (.int (j : Nat))) := by
  have p := draw_eq ns hl k (many : Nat) hk hk2 (by omega)
  obtain ⟨j, hj⟩ := Int.eq_ofNat_of_zero_le p.2.1
  refine ⟨j, by omega, ?_⟩
  rw [p.1, hj]
theorem pick3 (xs : List Int) {j : Nat} (h : j < xs.length) : opIx (.list (xs.map .int)) (.int (j : Nat)) = .ok (.val (.int (xs.getD j 0))) := by
  rw [opIx_l, atI_nat', List.getElem?_map, List.getElem?_eq_getElem h]
  simp [h]
/-- a net as it is drawn -/
theorem net_den (ns : List Int) (hl : ns.length ≤ 63) {at_ : Int} {most : Nat} (h0 : 0 ≤ at_) (h1 : at_ < 80000) (hm : 1 ≤ most) (hm8 : most ≤ 8) : ∃ n : Net, n.Ok ∧ n.roads.length ≤ most ∧ (∀ r ∈ n.roads, r.s < 4 ∧ r.e < 4) ∧ d_l_net [.scr ns, .val (.int at_), .val (.int (most : Nat))] = .ok (.val n.d) := by
  obtain ⟨f9, hf9, ef⟩ := draw_nat ns hl (k := at_) (many := 9) (by omega) (by omega) (by decide)
  obtain ⟨s9, hs9, es⟩ := draw_nat ns hl (k := at_ + 1) (many := 5 + f9) (by omega) (by omega) (by omega)
  obtain ⟨k3, hk3, ek⟩ := draw_nat ns hl (k := at_ + 2) (many := 3) (by omega) (by omega) (by decide)
  obtain ⟨r9, hr9, er⟩ := draw_nat ns hl (k := at_ + 3) (many := most) (by omega) (by omega) (by omega)
  have e5 : (((5 + f9 : Nat)) : Int) = 5 + (f9 : Nat) := by omega
  rw [e5] at es
  simp only [show (((9 : Nat)) : Int) = 9 from rfl, show (((3 : Nat)) : Int) = 3 from rfl] at ef ek
  have hkp : ∃ kp : Int, (kp = 0 ∨ kp = 1) ∧ opIx (.list [.int 1, .int 1, .int 0]) (.int (k3 : Nat)) = .ok (.val (.int kp)) := by
    have := pick3 [1, 1, 0] (j := k3) (by simpa using hk3)
    have h3 : k3 = 0 ∨ k3 = 1 ∨ k3 = 2 := by omega
    rcases h3 with rfl | rfl | rfl
    · exact ⟨1, .inr rfl, this⟩
    · exact ⟨1, .inr rfl, this⟩
    · exact ⟨0, .inl rfl, this⟩
  obtain ⟨kp, hkp, ekp⟩ := hkp
  have hrg : rg1 [.int (1 + (r9 : Nat))] = .ok ((List.range (1 + r9)).map fun i => PyData.int (i : Nat)) := by
    have := rg1_nat (show 1 + r9 ≤ 1000000 by omega)
    rw [show (((1 + r9 : Nat)) : Int) = 1 + (r9 : Nat) by omega] at this
    exact this
  have body : ∀ (j : Nat), j < 1 + r9 → ∀ (rs : List Road), (∀ r ∈ rs, r.Ok ∧ r.s < 4 ∧ r.e < 4) → rs.length = j → ∀ o8 o9 o10 o11 o12,
      Nx (l_net_b1 [some (.scr ns), some (.val (.int at_)), some (.val (.int (most : Nat))), some (.val (.int (5 + (f9 : Nat)))), some (.val (.int (1 + (s9 : Nat)))), some (.val (.int kp)), some (.own (rs.map Road.d)), some (.val (.int (j : Nat))), o8, o9, o10, o11, o12, none])
        fun ρ => ∃ r o8 o9 o10 o11 o12, (r.Ok ∧ r.s < 4 ∧ r.e < 4) ∧ ρ = [some (.scr ns), some (.val (.int at_)), some (.val (.int (most : Nat))), some (.val (.int (5 + (f9 : Nat)))), some (.val (.int (1 + (s9 : Nat)))), some (.val (.int kp)), some (.own ((rs ++ [r]).map Road.d)), some (.val (.int (j : Nat))), o8, o9, o10, o11, o12, none] := by
    intro j hj rs hrs hlen o8 o9 o10 o11 o12
    have hmu : CMul 7 (j : Nat) := mulL (by decide)
    generalize hspot : at_ + 4 + 7 * (j : Int) = spot
    have hsp : 0 ≤ spot ∧ spot < 90000 := by omega
    unfold l_net_b1
    simp only [gSeq]
    refine Nx.seq (P := fun ρ => ρ = [some (.scr ns), some (.val (.int at_)), some (.val (.int (most : Nat))), some (.val (.int (5 + (f9 : Nat)))), some (.val (.int (1 + (s9 : Nat)))), some (.val (.int kp)), some (.own (rs.map Road.d)), some (.val (.int (j : Nat))), some (.val (.int spot)), o9, o10, o11, o12, none]) (by simp [oIc, hmu, hspot]) ?_
    rintro _ rfl
    let rowI : Nat → List Int := fun q => [0, 0, 5 + (f9 : Nat), 1 + (s9 : Nat), 7, drawV ns (spot + 3 + (q : Nat)) 14]
    have rowB : ∀ q x, q < 3 → x ∈ rowI q → 0 ≤ x ∧ x ≤ 13 := fun q x hq hx => by
      have := draw_eq ns hl (spot + 3 + (q : Nat)) 14 (by omega) (by omega) (by decide)
      simp [rowI] at hx
      omega
    have c1 : l_net_c1 [some (.scr ns), some (.val (.int at_)), some (.val (.int (most : Nat))), some (.val (.int (5 + (f9 : Nat)))), some (.val (.int (1 + (s9 : Nat)))), some (.val (.int kp)), some (.own (rs.map Road.d)), some (.val (.int (j : Nat))), some (.val (.int spot)), o9, o10, o11, o12, none] = .ok (.own ((List.range 3).map fun q => .list ((rowI q).map .int))) := by
      refine fLc_of (ds := (List.range 3).map fun i => PyData.int (i : Nat)) (by simp [rngD_eq]) (lim_of (by simp)) ?_
      refine lcGo_map (fun i : Nat => PyData.int (i : Nat)) (fun q => [some (.scr ns), some (.val (.int at_)), some (.val (.int (most : Nat))), some (.val (.int (5 + (f9 : Nat)))), some (.val (.int (1 + (s9 : Nat)))), some (.val (.int kp)), some (.own (rs.map Road.d)), some (.val (.int (j : Nat))), some (.val (.int spot)), o9, o10, o11, o12, some (.val (.int (q : Nat)))]) _ _ (fun i _ => by simp) (fun q hq => ?_)
      have hq : q < 3 := by simpa using hq
      have dq := (draw_eq ns hl (spot + 3 + (q : Nat)) 14 (by omega) (by omega) (by decide)).1
      simp [dq, rowI]
    refine Nx.seq (P := fun ρ => ρ = [some (.scr ns), some (.val (.int at_)), some (.val (.int (most : Nat))), some (.val (.int (5 + (f9 : Nat)))), some (.val (.int (1 + (s9 : Nat)))), some (.val (.int kp)), some (.own (rs.map Road.d)), some (.val (.int (j : Nat))), some (.val (.int spot)), some (.val (.list ((List.range 3).map fun q => .list ((rowI q).map .int)))), o10, o11, o12, none]) (by
      generalize ((List.range 3).map fun q => PyData.list ((rowI q).map .int)) = RW at *
      simp [c1]) ?_
    rintro _ rfl
    obtain ⟨m5, hm5, em⟩ := draw_nat ns hl (k := spot + 6) (many := 5) (by omega) (by omega) (by decide)
    simp only [show (((5 : Nat)) : Int) = 5 from rfl] at em
    have hmany : ∃ mn : Nat, mn ≤ 3 ∧ opIx (.list [.int 0, .int 1, .int 0, .int 2, .int 3]) (.int (m5 : Nat)) = .ok (.val (.int (mn : Nat))) := by
      have := pick3 [0, 1, 0, 2, 3] (j := m5) (by simpa using hm5)
      have h5 : m5 = 0 ∨ m5 = 1 ∨ m5 = 2 ∨ m5 = 3 ∨ m5 = 4 := by omega
      rcases h5 with rfl | rfl | rfl | rfl | rfl
      · exact ⟨0, by omega, this⟩
      · exact ⟨1, by omega, this⟩
      · exact ⟨0, by omega, this⟩
      · exact ⟨2, by omega, this⟩
      · exact ⟨3, by omega, this⟩
    obtain ⟨mn, hmn, emn⟩ := hmany
    refine Nx.seq (P := fun ρ => ρ = [some (.scr ns), some (.val (.int at_)), some (.val (.int (most : Nat))), some (.val (.int (5 + (f9 : Nat)))), some (.val (.int (1 + (s9 : Nat)))), some (.val (.int kp)), some (.own (rs.map Road.d)), some (.val (.int (j : Nat))), some (.val (.int spot)), some (.val (.list ((List.range 3).map fun q => .list ((rowI q).map .int)))), some (.val (.int (mn : Nat))), o11, o12, none]) (by
      generalize ((List.range 3).map fun q => PyData.list ((rowI q).map .int)) = RW at *
      simp [em, emn, -opIx_l]) ?_
    rintro _ rfl
    let sg : Nat → Int := fun q => (rowI q).getD (drawV ns (spot + 2 + (q : Nat)) 6).toNat 0
    have sgB : ∀ q, q < 3 → 0 ≤ sg q ∧ sg q ≤ 13 := fun q hq => by
      have d := draw_eq ns hl (spot + 2 + (q : Nat)) 6 (by omega) (by omega) (by decide)
      have hlt : (drawV ns (spot + 2 + (q : Nat)) 6).toNat < (rowI q).length := by simp [rowI]; omega
      refine rowB q _ hq ?_
      show (rowI q).getD _ 0 ∈ rowI q
      rw [List.getD_eq_getElem?_getD, List.getElem?_eq_getElem hlt]
      exact List.getElem_mem _
    have c2 : l_net_c2 [some (.scr ns), some (.val (.int at_)), some (.val (.int (most : Nat))), some (.val (.int (5 + (f9 : Nat)))), some (.val (.int (1 + (s9 : Nat)))), some (.val (.int kp)), some (.own (rs.map Road.d)), some (.val (.int (j : Nat))), some (.val (.int spot)), some (.val (.list ((List.range 3).map fun q => .list ((rowI q).map .int)))), some (.val (.int (mn : Nat))), o11, o12, none] = .ok (.own ((List.range mn).map fun q => .int (sg q))) := by
      refine fLc_of (ds := (List.range mn).map fun i => PyData.int (i : Nat)) (by simp [rg1_nat (show mn ≤ 1000000 by omega), -rg1_i]) (lim_of (by simp; omega)) ?_
      refine lcGo_map (fun i : Nat => PyData.int (i : Nat)) (fun q => [some (.scr ns), some (.val (.int at_)), some (.val (.int (most : Nat))), some (.val (.int (5 + (f9 : Nat)))), some (.val (.int (1 + (s9 : Nat)))), some (.val (.int kp)), some (.own (rs.map Road.d)), some (.val (.int (j : Nat))), some (.val (.int spot)), some (.val (.list ((List.range 3).map fun q => .list ((rowI q).map .int)))), some (.val (.int (mn : Nat))), o11, o12, some (.val (.int (q : Nat)))]) _ _ (fun i _ => by simp) (fun q hq => ?_)
      have hq : q < mn := by simpa using hq
      have d := draw_eq ns hl (spot + 2 + (q : Nat)) 6 (by omega) (by omega) (by decide)
      have i1 : opIx (.list ((List.range 3).map fun q => .list ((rowI q).map .int))) (.int (q : Nat)) = .ok (.val (.list ((rowI q).map .int))) := by
        rw [opIx_l, atI_nat', List.getElem?_map, List.getElem?_range (by omega)]
        rfl
      have i2 : opIx (.list ((rowI q).map .int)) (.int (drawV ns (spot + 2 + (q : Nat)) 6)) = .ok (.val (.int (sg q))) := by
        have hlt : (drawV ns (spot + 2 + (q : Nat)) 6).toNat < (rowI q).length := by simp [rowI]; omega
        have := pick3 (rowI q) hlt
        rw [show (((drawV ns (spot + 2 + (q : Nat)) 6).toNat : Nat) : Int) = drawV ns (spot + 2 + (q : Nat)) 6 by omega] at this
        exact this
      generalize ((List.range 3).map fun q => PyData.list ((rowI q).map .int)) = RW at *
      generalize (rowI q).map PyData.int = RQ at *
      simp [i1, d.1, i2, -opIx_l]
    have hsg : ((List.range mn).map fun q => PyData.int (sg q)) = ((List.range mn).map sg).map .int := by rw [List.map_map]; rfl
    rw [hsg] at c2
    refine Nx.seq (P := fun ρ => ∃ o9, ρ = [some (.scr ns), some (.val (.int at_)), some (.val (.int (most : Nat))), some (.val (.int (5 + (f9 : Nat)))), some (.val (.int (1 + (s9 : Nat)))), some (.val (.int kp)), some (.own (rs.map Road.d)), some (.val (.int (j : Nat))), some (.val (.int spot)), o9, some (.val (.int (mn : Nat))), some (.val (tI ((List.range mn).map sg))), o12, none]) (by
      generalize ((List.range 3).map fun q => PyData.list ((rowI q).map .int)) = RW at *
      generalize (List.range mn).map sg = SG at *
      simp [c2, tI]) ?_
    rintro _ ⟨p9, rfl⟩
    obtain ⟨t3, ht3, et⟩ := draw_nat ns hl (k := spot + 5) (many := 3) (by omega) (by omega) (by decide)
    simp only [show (((3 : Nat)) : Int) = 3 from rfl] at et
    have htw : ∃ tw : Int, (tw = 0 ∨ tw = 1) ∧ opIx (.list [.int 0, .int 0, .int 1]) (.int (t3 : Nat)) = .ok (.val (.int tw)) := by
      have := pick3 [0, 0, 1] (j := t3) (by simpa using ht3)
      have h3 : t3 = 0 ∨ t3 = 1 ∨ t3 = 2 := by omega
      rcases h3 with rfl | rfl | rfl
      · exact ⟨0, .inl rfl, this⟩
      · exact ⟨0, .inl rfl, this⟩
      · exact ⟨1, .inr rfl, this⟩
    obtain ⟨tw, htw, etw⟩ := htw
    refine Nx.seq (P := fun ρ => ρ = [some (.scr ns), some (.val (.int at_)), some (.val (.int (most : Nat))), some (.val (.int (5 + (f9 : Nat)))), some (.val (.int (1 + (s9 : Nat)))), some (.val (.int kp)), some (.own (rs.map Road.d)), some (.val (.int (j : Nat))), some (.val (.int spot)), p9, some (.val (.int (mn : Nat))), some (.val (tI ((List.range mn).map sg))), some (.val (.int tw)), none]) (by
      generalize (List.range mn).map sg = SG at *
      simp [et, etw, -opIx_l]) ?_
    rintro _ rfl
    obtain ⟨a4, ha4, ea⟩ := draw_nat ns hl (k := spot) (many := 4) (by omega) (by omega) (by decide)
    obtain ⟨b4, hb4, eb⟩ := draw_nat ns hl (k := spot + 1) (many := 4) (by omega) (by omega) (by decide)
    simp only [show (((4 : Nat)) : Int) = 4 from rfl] at ea eb
    have hcap : (rs.map Road.d).length < lim := Nat.lt_of_lt_of_le (show _ < 1000 by rw [List.length_map]; omega) (by decide)
    refine ⟨_, ?_, ⟨(a4 : Nat), (b4 : Nat), tw, (List.range mn).map sg⟩, some (.val (.int spot)), p9, some (.val (.int (mn : Nat))), some (.val (tI ((List.range mn).map sg))), some (.val (.int tw)), ⟨⟨Int.natCast_nonneg _, ?_, Int.natCast_nonneg _, ?_, htw, ?_, fun x hx => ?_⟩, ?_, ?_⟩, rfl⟩
    · rw [List.map_append]
      generalize (List.range mn).map sg = SG at *
      generalize rs.map Road.d = RS at *
      simp [ea, eb, hcap, Road.d]
    · show ((a4 : Nat) : Int) ≤ 5; omega
    · show ((b4 : Nat) : Int) ≤ 5; omega
    · simp; omega
    · obtain ⟨q, hq, rfl⟩ := List.mem_map.mp hx
      exact sgB q (by simp at hq; omega)
    · show ((a4 : Nat) : Int) < 4; omega
    · show ((b4 : Nat) : Int) < 4; omega
  unfold d_l_net denB g_l_net
  simp only [gSeq, startE]
  obtain ⟨ρ1, e1, rs, p7, p8, p9, p10, p11, p12, hrs, hlen, rfl⟩ := gFor_range (fi := fRg1 (fOp opAdd (fC (.int 1)) (fCall d_l_drawn (aCons (fVar 0) (aCons (fOp opAdd (fVar 1) (fC (.int 3))) (aCons (fVar 2) aNil)))))) (ft := tName 7) (gb := l_net_b1) (n := 1 + r9)
    (fun j ρ => ∃ (rs : List Road) (o7 o8 o9 o10 o11 o12 : Option R), (∀ r ∈ rs, r.Ok ∧ r.s < 4 ∧ r.e < 4) ∧ rs.length = j ∧ ρ = [some (.scr ns), some (.val (.int at_)), some (.val (.int (most : Nat))), some (.val (.int (5 + (f9 : Nat)))), some (.val (.int (1 + (s9 : Nat)))), some (.val (.int kp)), some (.own (rs.map Road.d)), o7, o8, o9, o10, o11, o12, none])
    (ρ := [some (.scr ns), some (.val (.int at_)), some (.val (.int (most : Nat))), some (.val (.int (5 + (f9 : Nat)))), some (.val (.int (1 + (s9 : Nat)))), some (.val (.int kp)), some (.own []), none, none, none, none, none, none, none])
    (by simp [er, hrg, -rg1_i]) ⟨[], _, _, _, _, _, _, fun _ z => (by cases z), rfl, rfl⟩ (fun j ρ hj hI => by
      obtain ⟨rs, o7, o8, o9, o10, o11, o12, hrs, hlen, rfl⟩ := hI
      rw [bdy_name]
      refine (body j hj rs hrs hlen _ _ _ _ _).imp fun ρ hρ => ?_
      obtain ⟨r, o8, o9, o10, o11, o12, hr, rfl⟩ := hρ
      refine ⟨rs ++ [r], some (.val (.int (j : Nat))), o8, o9, o10, o11, o12, fun q hq => ?_, by simp [hlen], rfl⟩
      rcases List.mem_append.mp hq with z | z
      · exact hrs q z
      · rw [List.mem_singleton.mp z]; exact hr)
  refine ⟨⟨5 + (f9 : Nat), 1 + (s9 : Nat), kp, rs⟩, ⟨by show (5 : Int) ≤ 5 + (f9 : Nat); omega, by show 5 + ((f9 : Nat) : Int) ≤ 13; omega, by show (1 : Int) ≤ 1 + (s9 : Nat); omega, by show 1 + ((s9 : Nat) : Int) ≤ 5 + (f9 : Nat); omega, hkp, by show 1 ≤ rs.length; omega, by show rs.length ≤ 8; omega, fun r hr => (hrs r hr).1⟩, by show rs.length ≤ most; omega, fun r hr => (hrs r hr).2, ?_⟩
  have hd : (⟨5 + (f9 : Nat), 1 + (s9 : Nat), kp, rs⟩ : Net).d = .tuple [.int (5 + (f9 : Nat)), .int (1 + (s9 : Nat)), .int kp, .tuple (rs.map Road.d)] := rfl
  rw [hd]
  simp [ef, es, ek, ekp, e1, frzAt, -opIx_l]
@[simp] theorem l_next_den {n : Net} {k : Nat} (hk : k < n.roads.length) (h8 : n.roads.length ≤ 1000) : d_l_next [.val n.d, .val (.int (k : Nat))] = .ok (.own (nI (n.aft k))) := by
  unfold d_l_next denB g_l_next
  have e : l_next_c1 [some (.val n.d), some (.val (.int (k : Nat))), none] = .ok (.own (nI (n.aft k))) := by
    refine fLc_of (ds := (List.range n.roads.length).map fun i => PyData.int (i : Nat)) (by simp [rg1_nat (show n.roads.length ≤ 1000000 by omega), -rg1_i]) (lim_of (by simp; omega)) ?_
    unfold Net.aft nI
    refine lcGo_typed (fun i : Nat => PyData.int (i : Nat)) (fun i => [some (.val n.d), some (.val (.int k)), some (.val (.int (i : Nat)))]) _ _ (List.range n.roads.length)
      (fun i hi => by simp) (fun i hi => ?_) (fun i hi _ => by simp)
    have hi : i < n.roads.length := by simpa using hi
    simp [rd_get hk, rd_get hi]
  simp [startE, e]
end LW
namespace LW
open PySem PySem.Spec PyProof.Rows L2 DN
/-! ### pairs of numbers in lists -/
theorem idD_inj {p q : Nat × Nat} (e : idD p = idD q) : p = q := by
  unfold idD at e
  injection e with e
  injection e with e1 e
  injection e with e2 e
  injection e1 with e1
  injection e2 with e2
  exact Prod.ext (by omega) (by omega)
theorem dOk_idD (p : Nat × Nat) : dOk 1 (idD p) = true := dOk_tuple (by simp [dOks])
theorem pur_idD (p : Nat × Nat) : pur (idD p) = true := rfl
theorem in_idD (p : Nat × Nat) (ps : List (Nat × Nat)) : inD (idD p) (.list (ps.map idD)) = .ok (decide (p ∈ ps)) := by
  have h1 : (flatD (idD p) && (ps.map idD).all flatD) = false := rfl
  have h2 : (SeqAt.shaped (idD p) && SeqAt.shaped (.list (ps.map idD))) = true := by
    rw [shaped_of (dOk_idD p) (by decide), shaped_of (n := 2) (dOk_list (dOks_map fun x _ => dOk_idD x)) (by decide)]
    rfl
  show (if (flatD (idD p) && (ps.map idD).all flatD) = true then Rs.ok ((ps.map idD).any fun y => eqF y (idD p)) else if (SeqAt.shaped (idD p) && SeqAt.shaped (.list (ps.map idD))) = true then Rs.ok ((ps.map idD).any fun z => PyData.eqv z (idD p)) else Rs.bad) = _
  rw [h1, if_neg (by decide), h2, if_pos rfl]
  congr 1
  rw [Bool.eq_iff_iff, List.any_eq_true, decide_eq_true_iff]
  constructor
  · rintro ⟨d, hd, e⟩
    obtain ⟨q, hq, rfl⟩ := List.mem_map.mp hd
    have := (eqv_pur _ _ (pur_idD q) (pur_idD p)).mp e
    rw [← idD_inj this]
    exact hq
  · intro hp
    exact ⟨idD p, List.mem_map.mpr ⟨p, hp, rfl⟩, (eqv_pur _ _ (pur_idD p) (pur_idD p)).mpr rfl⟩
/-! ### caps -/
def lss (cap l : Int) : Int := if cap < l then cap else l
noncomputable def Net.top (n : Net) (k p : Nat) : Int := (n.pos k p).getLastD 0
theorem top_mem {n : Net} (h : n.Ok) {k p : Nat} (hk : k < n.roads.length) : n.top k p ∈ n.pos k p := by
  have hne := pos_ne h (k := k) (p := p) hk
  unfold Net.top
  rw [List.getLastD_eq_getLast?, List.getLast?_eq_some_getLast hne]
  exact List.getLast_mem hne
theorem last_max {xs : List Int} (h : xs.Pairwise (· < ·)) : ∀ x ∈ xs, x ≤ xs.getLastD 0 := by
  intro x hx
  have hne : xs ≠ [] := List.ne_nil_of_mem hx
  rw [List.getLastD_eq_getLast?, List.getLast?_eq_some_getLast hne]
  obtain ⟨i, hi, rfl⟩ := List.getElem_of_mem hx
  show xs[i] ≤ xs.getLast hne
  rw [List.getLast_eq_getElem]
  by_cases e : i = xs.length - 1
  · subst e; exact Int.le_refl _
  · have := List.pairwise_iff_getElem.mp h i (xs.length - 1) hi (by omega) (by omega)
    omega
theorem top_max {n : Net} {k p : Nat} {l : Int} (hl : l ∈ n.pos k p) : l ≤ n.top k p := last_max (pos_lt n k p) l hl
theorem pos_bd {n : Net} (h : n.Ok) {k p : Nat} (hk : k < n.roads.length) (hp : p ≤ (n.rd k).g.length) {l : Int} (hl : l ∈ n.pos k p) : 1 ≤ l ∧ l ≤ 13 := by
  obtain ⟨s, r, e⟩ := (mem_pos h).mp hl
  have b := reach_bd h r
  rw [← e]
  exact lim_bd h hk hp b.2.1 b.2.2
theorem top_bd {n : Net} (h : n.Ok) {k p : Nat} (hk : k < n.roads.length) (hp : p ≤ (n.rd k).g.length) : 1 ≤ n.top k p ∧ n.top k p ≤ 13 := pos_bd h hk hp (top_mem h hk)
theorem pos_last {n : Net} (h : n.Ok) {k p : Nat} (hk : k < n.roads.length) : opIx (.list ((n.pos k p).map .int)) (.int (-1)) = .ok (.val (.int (n.top k p))) := by
  have hne := pos_ne h (k := k) (p := p) hk
  rw [opIx_l, atI_m1, List.getLast?_map, List.getLast?_eq_some_getLast hne]
  unfold Net.top
  rw [List.getLastD_eq_getLast?, List.getLast?_eq_some_getLast hne]
  rfl
/-- all pieces, in order -/
def Net.apc (n : Net) : List (Nat × Nat) := (List.range n.roads.length).flatMap fun k => (List.range ((n.rd k).g.length + 1)).map fun p => (k, p)
theorem mem_apc {n : Net} {q : Nat × Nat} : q ∈ n.apc ↔ q.1 < n.roads.length ∧ q.2 ≤ (n.rd q.1).g.length := by
  unfold Net.apc
  simp only [List.mem_flatMap, List.mem_range, List.mem_map]
  constructor
  · rintro ⟨k, hk, p, hp, rfl⟩
    exact ⟨hk, show p ≤ (n.rd k).g.length by omega⟩
  · rintro ⟨h1, h2⟩
    exact ⟨q.1, h1, q.2, by omega, rfl⟩
theorem apc_len {n : Net} (h : n.Ok) : n.apc.length ≤ n.roads.length * 4 := by
  have := flat_len (f := fun k => (List.range ((n.rd k).g.length + 1)).map fun p => (k, p)) (c := 4) (xs := List.range n.roads.length) fun k hk => by
    have hk : k < n.roads.length := by simpa using hk
    have := (h.rd hk).gl
    simp
    omega
  rw [List.length_range] at this
  exact this
def ltN (p q : Nat × Nat) : Prop := p.1 < q.1 ∨ (p.1 = q.1 ∧ p.2 < q.2)
theorem apc_lt (n : Net) : n.apc.Pairwise ltN := by
  unfold Net.apc
  have key : ∀ ks : List Nat, ks.Pairwise (· < ·) → (ks.flatMap fun k => (List.range ((n.rd k).g.length + 1)).map fun p => (k, p)).Pairwise ltN := by
    intro ks
    induction ks with
    | nil => intro _; exact .nil
    | cons k ks ih =>
      intro h
      rw [List.pairwise_cons] at h
      rw [List.flatMap_cons, List.pairwise_append]
      refine ⟨?_, ih h.2, fun a ha b hb => ?_⟩
      · rw [List.pairwise_map]
        have : (List.range ((n.rd k).g.length + 1)).Pairwise (· < ·) := List.pairwise_lt_range
        exact this.imp fun {a b} hab => .inr ⟨rfl, hab⟩
      · obtain ⟨s, _, rfl⟩ := List.mem_map.mp ha
        obtain ⟨j, hj, hb⟩ := List.mem_flatMap.mp hb
        obtain ⟨t, _, rfl⟩ := List.mem_map.mp hb
        exact .inl (h.1 j hj)
  exact key _ List.pairwise_lt_range
noncomputable def Net.slw (n : Net) (cap : Int) : List (Nat × Nat) := n.apc.filter fun q => decide (cap < n.top q.1 q.2)
noncomputable def Net.lcap (n : Net) : Int := maxOf (n.apc.map fun q => n.top q.1 q.2)
theorem apc_ne {n : Net} (h : n.Ok) : n.apc ≠ [] := fun e => by
  have := (mem_apc (n := n) (q := (0, 0))).mpr ⟨by have := h.r1; omega, Nat.zero_le _⟩
  rw [e] at this
  cases this
theorem lcap_spec {n : Net} (h : n.Ok) : (∃ q ∈ n.apc, n.top q.1 q.2 = n.lcap) ∧ ∀ q ∈ n.apc, n.top q.1 q.2 ≤ n.lcap := by
  have := maxOf_spec (n.apc.map fun q => n.top q.1 q.2) (by simpa using apc_ne h)
  refine ⟨?_, fun q hq => this.2 _ (List.mem_map.mpr ⟨q, hq, rfl⟩)⟩
  obtain ⟨q, hq, e⟩ := List.mem_map.mp this.1
  exact ⟨q, hq, e⟩
/-! ### the same speeds -/
def Net.spb (n m : Net) (cap : Int) (p : Tr) : Bool := !decide ((n.pcs p.1 p.2.1).map (lss cap) = (m.pcs p.1 p.2.2).map (lss cap))
open Classical in
noncomputable def Net.spd (n m : Net) (cap : Int) : Bool := decide (∀ p, n.R2 m p → n.spb m cap p = false)
theorem spd_iff {n m : Net} {cap : Int} : n.spd m cap = true ↔ ∀ p, n.R2 m p → (n.pcs p.1 p.2.1).map (lss cap) = (m.pcs p.1 p.2.2).map (lss cap) := by
  unfold Net.spd Net.spb
  simp
end LW
namespace LW
open PySem PySem.Spec PyProof.Rows L2 DN
theorem retOf_seq' {o : RO} {g : Ev → RO} {P : Ev → Prop} {X : Rs R} (h : Nx o P) (k : ∀ ρ, P ρ → retOf (g ρ) = X) : retOf (o.seq g) = X := by
  obtain ⟨ρ, rfl, p⟩ := h
  exact k ρ p
/-! ### fewer states -/
theorem ov_zero (n : Net) : n.ov 0 = 0 := by unfold Net.ov; split <;> rfl
theorem reach_sub {a b : Net} (hl : a.roads.length = b.roads.length) (ha : ∀ k, a.aft k = b.aft k) (ho : a.keeps = b.keeps) (hv : ∀ k s, b.Reach k s → a.lv k s = b.lv k s ∨ a.lv k s = 0) {k : Nat} {s : Int} (r : a.Reach k s) : b.Reach k s := by
  induction r with
  | start h => exact .start (hl ▸ h)
  | @go k j s r hj ih =>
    have hj' : j ∈ b.aft k := by rw [← ha]; exact hj
    have e : ∀ x, a.ov x = b.ov x := fun x => by unfold Net.ov; rw [ho]
    rcases hv k s ih with z | z
    · rw [z, e]; exact .go ih hj'
    · rw [z, ov_zero]
      exact .start (aft_lt hj')
theorem mem_unc {n : Net} (h : n.Ok) {k : Nat} : k ∈ n.unc ↔ ∃ s, n.Reach k s ∧ 0 < s ∧ s ≠ n.st k := by
  have hz : ∀ {k : Nat}, k < n.roads.length → n.st k ∈ n.pos k 0 := fun {k} hk => (mem_pos h).mpr ⟨0, .start hk, by rw [lim_zero]; unfold lmt; rw [if_neg (by decide)]⟩
  unfold Net.unc
  rw [List.mem_filter, decide_eq_true_iff]
  constructor
  · rintro ⟨hk, hl⟩
    have hk : k < n.roads.length := by simpa using hk
    have key : ∃ l ∈ n.pos k 0, l ≠ n.st k := by
      have hp := pos_lt n k 0
      revert hl hp
      generalize n.pos k 0 = ps
      intro hl hp
      match ps, hl with
      | x :: y :: _, _ =>
        have hxy := (List.pairwise_cons.mp hp).1 y List.mem_cons_self
        by_cases e : x = n.st k
        · exact ⟨y, by simp, by omega⟩
        · exact ⟨x, by simp, e⟩
    obtain ⟨l, hl, hne⟩ := key
    obtain ⟨s, r, e⟩ := (mem_pos h).mp hl
    rw [lim_zero] at e
    unfold lmt at e
    by_cases hs : s > 0
    · rw [if_pos hs] at e
      exact ⟨s, r, hs, by omega⟩
    · rw [if_neg hs] at e
      exact absurd e.symm hne
  · rintro ⟨s, r, hs, hne⟩
    have hk := (reach_bd h r).1
    refine ⟨by simpa using hk, ?_⟩
    have h1 := hz hk
    have h2 : s ∈ n.pos k 0 := (mem_pos h).mpr ⟨s, r, by rw [lim_zero]; unfold lmt; rw [if_pos hs]⟩
    revert h1 h2
    generalize n.pos k 0 = ps
    intro h1 h2
    match ps, h1, h2 with
    | [x], h1, h2 =>
      have := List.mem_singleton.mp h1
      have := List.mem_singleton.mp h2
      omega
    | x :: y :: _, _, _ => simp
theorem unc_sub {a b : Net} (ha : a.Ok) (hb : b.Ok) (hs : ∀ k, a.st k = b.st k) (hr : ∀ k s, a.Reach k s → b.Reach k s) : ∀ k ∈ a.unc, k ∈ b.unc := fun k hk => by
  obtain ⟨s, r, h1, h2⟩ := (mem_unc ha).mp hk
  exact (mem_unc hb).mpr ⟨s, hr _ _ r, h1, by rw [← hs]; exact h2⟩
theorem lvg_lt (n : Net) : n.lvg.Pairwise (· < ·) := List.pairwise_lt_range.filter _
theorem clear_of_lvg {n : Net} (h : n.Ok) (e : n.lvg = []) : n.unc = [] := by
  apply List.eq_nil_iff_forall_not_mem.mpr
  intro k hk
  obtain ⟨s, r, h1, _⟩ := (mem_unc h).mp hk
  cases r with
  | start => omega
  | @go j _ s' r' hj =>
    have h2 : n.ov (n.lv j s') = n.lv j s' := ov_ne (by omega)
    have : j ∈ n.lvg := (mem_lvg h).mpr ⟨s', r', by omega⟩
    rw [e] at this
    exact List.not_mem_nil this
theorem clear_of_keeps {n : Net} (h : n.Ok) (e : n.keeps = 0) : n.unc = [] := by
  apply List.eq_nil_iff_forall_not_mem.mpr
  intro k hk
  obtain ⟨s, r, h1, _⟩ := (mem_unc h).mp hk
  cases r with
  | start => omega
  | @go j _ s' r' hj =>
    unfold Net.ov at h1
    rw [if_neg (by omega)] at h1
    omega
end LW
namespace LW
open PySem PySem.Spec PyProof.Rows L2 DN
/-! ### places in lists -/
theorem plD_inj {p q : Nat × Int} (e : plD p = plD q) : p = q := by
  unfold plD at e
  injection e with e
  injection e with e1 e
  injection e with e2 e
  injection e1 with e1
  injection e2 with e2
  exact Prod.ext (by omega) e2
theorem dOk_plD (p : Nat × Int) : dOk 1 (plD p) = true := dOk_tuple (by simp [dOks])
theorem pur_plD (p : Nat × Int) : pur (plD p) = true := rfl
theorem in_plD (p : Nat × Int) (ps : List (Nat × Int)) : inD (plD p) (.list (ps.map plD)) = .ok (decide (p ∈ ps)) := by
  have h1 : (flatD (plD p) && (ps.map plD).all flatD) = false := rfl
  have h2 : (SeqAt.shaped (plD p) && SeqAt.shaped (.list (ps.map plD))) = true := by
    rw [shaped_of (dOk_plD p) (by decide), shaped_of (n := 2) (dOk_list (dOks_map fun x _ => dOk_plD x)) (by decide)]
    rfl
  show (if (flatD (plD p) && (ps.map plD).all flatD) = true then Rs.ok ((ps.map plD).any fun y => eqF y (plD p)) else if (SeqAt.shaped (plD p) && SeqAt.shaped (.list (ps.map plD))) = true then Rs.ok ((ps.map plD).any fun z => PyData.eqv z (plD p)) else Rs.bad) = _
  rw [h1, if_neg (by decide), h2, if_pos rfl]
  congr 1
  rw [Bool.eq_iff_iff, List.any_eq_true, decide_eq_true_iff]
  constructor
  · rintro ⟨d, hd, e⟩
    obtain ⟨q, hq, rfl⟩ := List.mem_map.mp hd
    have := (eqv_pur _ _ (pur_plD q) (pur_plD p)).mp e
    rw [← plD_inj this]
    exact hq
  · intro hp
    exact ⟨plD p, List.mem_map.mpr ⟨p, hp, rfl⟩, (eqv_pur _ _ (pur_plD p) (pur_plD p)).mpr rfl⟩
theorem signs_nil (g : List Int) : eqD (tI g) (.tuple []) = .ok (decide (g = [])) := by
  unfold tI
  rw [eqD_tnil (n := 0) (dOks_map fun x _ => dOk_int 0 x) (by decide)]
  cases g <;> rfl
theorem signs_last {g : List Int} (hg : g ≠ []) (s : Int) : opIx (tI g) (.int (-1)) = .ok (.val (.int (g.getLastD s))) := by
  obtain ⟨x, hx⟩ : ∃ x, g.getLast? = some x := ⟨_, List.getLast?_eq_some_getLast hg⟩
  unfold tI
  rw [opIx_t, atI_m1, List.getLastD_eq_getLast?, hx, List.getLast?_map, hx]
  rfl
theorem l_pieces_den {n : Net} (h : n.Ok) {k : Nat} (hk : k < n.roads.length) (s : Int) : d_l_pieces [.val n.d, .val (.int (k : Nat)), .val (.int s)] = .ok (.own ((n.pcs k s).map .int)) := by
  have h3 := (h.rd hk).gl
  have c1 : l_pieces_c1 [some (.val n.d), some (.val (.int (k : Nat))), some (.val (.int s)), some (.val (.int (n.rd k).s)), some (.val (.int (n.rd k).e)), some (.val (.int (n.rd k).t)), some (.val (tI (n.rd k).g)), none] = .ok (.own ((n.pcs k s).map .int)) := by
    refine fLc_of (ds := (s :: (n.rd k).g).map .int) ?_ (lim_of (by simp; omega)) ?_
    · have a : opAdd (.tuple [.int s]) (tI (n.rd k).g) = .ok (.val (.tuple ((s :: (n.rd k).g).map .int))) := by
        unfold tI
        rw [opAdd_tup (by simp; omega)]
        simp
      simp [a, -opAdd_tt, -List.map_cons]
    · unfold Net.pcs
      rw [List.map_map]
      refine lcGo_map PyData.int (fun x => [some (.val n.d), some (.val (.int (k : Nat))), some (.val (.int s)), some (.val (.int (n.rd k).s)), some (.val (.int (n.rd k).e)), some (.val (.int (n.rd k).t)), some (.val (tI (n.rd k).g)), some (.val (.int x))]) _ _ (fun x _ => by simp) (fun x hx => ?_)
      have k1 : opIx n.d (.int 1) = .ok (.val (.int n.slow)) := rfl
      have k0 : opIx n.d (.int 0) = .ok (.val (.int n.fast)) := rfl
      by_cases hp : 0 < x
      · simp [hp, lmt]
      · by_cases ht : (n.rd k).t = 1
        · simp [hp, ht, k1, lmt, Net.st]
        · simp [hp, ht, k0, lmt, Net.st]
  unfold d_l_pieces denB g_l_pieces
  simp only [gSeq, startE]
  have hd : (n.rd k).d = .tuple [.int (n.rd k).s, .int (n.rd k).e, .int (n.rd k).t, tI (n.rd k).g] := rfl
  simp [rd_get hk, hd, c1]
end LW
namespace LW
open PySem PySem.Spec PyProof.Rows L2 DN
/-! ### values that are no nets -/
def rdD : PyData := .tuple [.int 0, .int 1, .int 0, .tuple []]
def bads : List PyData := [.none, .tuple [], .tuple [.int 10, .int 5, .int 1, .tuple []], .tuple [.int 4, .int 3, .int 1, .tuple [rdD]], .tuple [.int 10, .int 11, .int 1, .tuple [rdD]],
  .tuple [.int 10, .int 5, .int 2, .tuple [rdD]], .tuple [.int 10, .int 5, .int 1, .tuple [rdD, rdD, rdD, rdD, rdD, rdD, rdD, rdD, rdD]],
  .list [.int 10, .int 5, .int 1, .tuple [rdD]], .tuple [.int 10, .int 5, .int 1, .list [rdD]], .tuple [.bool true, .int 1, .int 1, .tuple [rdD]],
  .tuple [.int 10, .int 5, .int 1, .tuple [.tuple [.int 0, .int 1, .int 0]]],
  .tuple [.int 10, .int 5, .int 1, .tuple [.tuple [.int 6, .int 1, .int 0, .tuple []]]], .tuple [.int 10, .int 5, .int 1, .tuple [.tuple [.int 0, .int 1, .int 2, .tuple []]]],
  .tuple [.int 10, .int 5, .int 1, .tuple [.tuple [.int 0, .int 1, .int 0, .tuple [.int 14]]]], .tuple [.int 10, .int 5, .int 1, .tuple [.tuple [.int 0, .int 1, .int 0, .tuple [.int 1, .int 2, .int 3, .int 4]]]],
  .tuple [.int 10, .int 5, .int 1, .tuple [.tuple [.int 0, .int 1, .int 0, .list [.int 1]]]]]
theorem bads_no : ∀ d ∈ bads, isNetB d = false := by
  have : bads.all (fun d => !isNetB d) = true := by decide
  intro d hd
  simpa using List.all_eq_true.mp this d hd
theorem bads_ix {j : Nat} (hj : j < 16) : ∃ d, bads[j]? = some d ∧ isNetB d = false := by
  have h : j < bads.length := hj
  exact ⟨bads[j], List.getElem?_eq_getElem h, bads_no _ (List.getElem_mem h)⟩
theorem badnet_den (ns : List Int) (hl : ns.length ≤ 63) {at_ : Int} (h0 : 0 ≤ at_) (h1 : at_ < 80000) : ∃ d, d_l_badnet [.scr ns, .val (.int at_)] = .ok (.val d) ∧ isNetB d = false := by
  obtain ⟨j, hj, e⟩ := draw_nat ns hl (k := at_) (many := 16) h0 (by omega) (by decide)
  obtain ⟨d, hd, hb⟩ := bads_ix hj
  refine ⟨d, ?_, hb⟩
  have e' : d_l_drawn [.scr ns, .val (.int at_), .val (.int 16)] = .ok (.val (.int (j : Nat))) := e
  unfold bads rdD at hd
  unfold d_l_badnet denB g_l_badnet l_badnet_b1
  simp only [gSeq, startE]
  simp [gFor, loop, seqD, lim, List.replicate]
  simp [e', hd, -List.getElem?_cons_succ]
theorem in_wD2 (k : Nat) (ks : List Nat) : inD (.int (k : Nat)) (wD ks) = .ok (decide (k ∈ ks)) := by
  have h : (flatD (.int ((k : Nat) : Int)) && (nI ks).all flatD) = true := by simp [nI, flatD]
  have b : inD (.int (k : Nat)) (.list (nI ks)) = .ok ((nI ks).any fun y => eqF y (.int ((k : Nat) : Int))) := if_pos h
  have c : inD (.int (k : Nat)) (wD ks) = .ok ((nI ks).any fun y => eqF y (.int ((k : Nat) : Int))) := if_pos h
  rw [c, ← b, in_nI]
theorem last_ix2 {r : List Nat} (h : r ≠ []) : opIx (wD r) (.int (-1)) = .ok (.val (.int ((r.getLastD 0 : Nat) : Int))) := by
  unfold wD
  rw [opIx_t, atI_m1, nI_last h]
end LW
namespace LW
open PySem PySem.Spec PyProof.Rows L2 DN
/-! ### lengths -/
def rowB (r : Road) : PyData → Bool
  | .tuple xs => decide (xs.length = r.g.length + 1) && xs.all fun x => isIntB x 1 9
  | _ => false
def lenB (n : Net) : PyData → Bool
  | .list ds => decide (ds.length = n.roads.length) && (n.roads.zip ds).all fun p => rowB p.1 p.2
  | _ => false
/-- the lengths on a road's pieces -/
def lrow (L : List (List Int)) (k : Nat) : List Int := L.getD k []
def lD (L : List (List Int)) : PyData := .list (L.map tI)
structure LOk (n : Net) (L : List (List Int)) : Prop where
  len : L.length = n.roads.length
  row : ∀ k, k < n.roads.length → (lrow L k).length = (n.rd k).g.length + 1
  bd : ∀ k, k < n.roads.length → ∀ x ∈ lrow L k, 1 ≤ x ∧ x ≤ 9
theorem lrow_ix {n : Net} {L : List (List Int)} (h : LOk n L) {k : Nat} (hk : k < n.roads.length) : opIx (lD L) (.int (k : Nat)) = .ok (.val (tI (lrow L k))) := by
  have : k < L.length := by rw [h.len]; exact hk
  unfold lD
  rw [opIx_l, atI_nat', List.getElem?_map]
  simp [lrow, this]
theorem lenB_ok {n : Net} {L : List (List Int)} (h : LOk n L) : lenB n (lD L) = true := by
  unfold lenB lD
  simp only [List.length_map, h.len, decide_true, Bool.true_and]
  rw [List.all_eq_true]
  intro p hp
  obtain ⟨k, hk, e⟩ := List.getElem_of_mem hp
  have hk1 : k < n.roads.length := by simp at hk; omega
  have hk2 : k < L.length := by rw [h.len]; exact hk1
  have e1 : p.1 = n.rd k := by rw [← e]; simp [Net.rd, hk1]
  have e2 : p.2 = tI (lrow L k) := by rw [← e]; simp [lrow, hk2]
  rw [e1, e2]
  have h1 := h.row k hk1
  have h2 := h.bd k hk1
  simp only [rowB, tI, List.length_map, h1, decide_true, Bool.true_and]
  rw [List.all_eq_true]
  intro x hx
  obtain ⟨i, hi, rfl⟩ := List.mem_map.mp hx
  have := h2 i hi
  simp [this]
/-! ### times in parts -/
def prts (row lims : List Int) : Int := ((row.zip lims).map fun p => p.1 * (360360 / p.2)).sum
def Net.pt (n : Net) (L : List (List Int)) (k : Nat) (s : Int) : Int := prts (lrow L k) (n.pcs k s)
theorem pcs_bd {n : Net} (h : n.Ok) {k : Nat} (hk : k < n.roads.length) {s : Int} (h0 : 0 ≤ s) (h13 : s ≤ 13) : ∀ x ∈ n.pcs k s, 1 ≤ x ∧ x ≤ 13 := fun x hx => by
  obtain ⟨y, hy, rfl⟩ := List.mem_map.mp hx
  rcases List.mem_cons.mp hy with rfl | hy
  · exact lmt_bd h k h0 h13
  · have := (h.rd hk).g y hy
    exact lmt_bd h k this.1 this.2
/-! ### fractions -/
def frac (p : Int) : PyData := .tuple [.int (p / (Int.gcd p 360360 : Nat)), .int (360360 / (Int.gcd p 360360 : Nat))]
theorem gcd_step (a b : Int) (hb : 0 < b) (ha : 0 ≤ a) : Int.gcd b (a % b) = Int.gcd a b := by
  obtain ⟨m, rfl⟩ := Int.eq_ofNat_of_zero_le ha
  obtain ⟨k, rfl⟩ := Int.eq_ofNat_of_zero_le (Int.le_of_lt hb)
  show Nat.gcd k (m % k) = Nat.gcd m k
  rw [Nat.gcd_comm m k, Nat.gcd_rec k m, Nat.gcd_comm]
theorem gcd_end (a : Int) (ha : 0 ≤ a) : ((Int.gcd a 0 : Nat) : Int) = a := by
  rw [Int.gcd_zero_right]
  omega
def muG (j : Nat) (ρ : Ev) : Nat := match ρ[j]? with
  | some (some (R.val (.int i))) => i.toNat
  | _ => 0
end LW
namespace LW
open PySem PySem.Spec PyProof.Rows L2 DN
/-! ### the best ways by road and state -/
abbrev Ent := (Nat × Int) × (Int × List Nat)
def vlD (v : Int × List Nat) : PyData := .tuple [.int v.1, wD v.2]
def kyE (p : Nat × Int) : List Key := [.inl ((p.1 : Nat) : Int), .inl p.2]
def enE (e : Ent) : List Key × PyData := (kyE e.1, vlD e.2)
theorem kyE_inj {p q : Nat × Int} (e : kyE p = kyE q) : p = q := by
  unfold kyE at e
  injection e with e1 e
  injection e with e2 e
  injection e1 with e1
  injection e2 with e2
  exact Prod.ext (by omega) e2
theorem kyE_asTup (k : Nat) (s : Int) : asTup (.tuple [.int (k : Nat), .int s]) = some (kyE (k, s)) := rfl
theorem kTup_ky (p : Nat × Int) : kTup (kyE p) = plD p := rfl
def mnV (new old : Int × List Nat) : Int × List Nat := if PySem.W.dataLt (vlD old) (vlD new) then old else new
def putM (lv : List Ent) (e : Ent) : List Ent := if (lv.any fun x => decide (x.1 = e.1)) = true then lv.map (fun x => if x.1 = e.1 then (x.1, mnV e.2 x.2) else x) else lv ++ [e]
theorem val_in {lv : List Ent} (hn : (lv.map (·.1)).Nodup) {e : Ent} (h : e ∈ lv) : valP (lv.map enE) (kyE e.1) = some (vlD e.2) := by
  induction lv with
  | nil => cases h
  | cons x xs ih =>
    rw [List.map_cons, List.nodup_cons] at hn
    unfold valP
    rw [List.map_cons]
    rcases List.mem_cons.mp h with rfl | h
    · rw [List.find?_cons_of_pos (by simp [enE])]
      rfl
    · have : x.1 ≠ e.1 := fun z => hn.1 (by rw [z]; exact List.mem_map.mpr ⟨e, h, rfl⟩)
      rw [List.find?_cons_of_neg (by
        exact fun z => this (kyE_inj (of_decide_eq_true z)))]
      exact ih hn.2 h
theorem val_out {lv : List Ent} {p : Nat × Int} (h : p ∉ lv.map (·.1)) : valP (lv.map enE) (kyE p) = none := by
  unfold valP
  rw [List.find?_eq_none.mpr]
  · rfl
  · intro kv hkv
    obtain ⟨e, he, rfl⟩ := List.mem_map.mp hkv
    exact fun z => h (List.mem_map.mpr ⟨e, he, kyE_inj (of_decide_eq_true z)⟩)
theorem any_key (lv : List Ent) (p : Nat × Int) : ((lv.map enE).any fun kv => decide (kv.1 = kyE p)) = lv.any fun x => decide (x.1 = p) := by
  rw [List.any_map]
  congr 1
  funext x
  have : decide (kyE x.1 = kyE p) = decide (x.1 = p) := by
    rw [decide_eq_decide]
    exact ⟨kyE_inj, fun z => by rw [z]⟩
  exact this
theorem any_mem (lv : List Ent) (p : Nat × Int) : (lv.any fun x => decide (x.1 = p)) = true ↔ p ∈ lv.map (·.1) := by
  rw [List.any_eq_true, List.mem_map]
  simp
theorem put_enc {lv : List Ent} (hn : (lv.map (·.1)).Nodup) (e : Ent) : putP (lv.map enE) (kyE e.1) (PySem.W.minD (vlD e.2) [(valP (lv.map enE) (kyE e.1)).getD (vlD e.2)]) = (putM lv e).map enE := by
  unfold putP putM
  rw [any_key]
  by_cases h : (lv.any fun x => decide (x.1 = e.1)) = true
  · rw [if_pos h, if_pos h]
    obtain ⟨y, hy, ey⟩ := List.mem_map.mp ((any_mem lv e.1).mp h)
    have hv := val_in hn hy
    rw [ey] at hv
    rw [hv, List.map_map, List.map_map]
    apply List.map_congr_left
    intro x hx
    show (if (enE x).1 = kyE e.1 then ((enE x).1, _) else enE x) = enE (if x.1 = e.1 then (x.1, mnV e.2 x.2) else x)
    by_cases hk : x.1 = e.1
    · have hxy : x = y := by
        have h1 := val_in hn hx
        rw [hk] at h1
        have : x.1 = y.1 := by rw [hk, ey]
        exact hn_inj hn hx hy this
      rw [if_pos (show (enE x).1 = kyE e.1 from by show kyE x.1 = _; rw [hk]), if_pos hk, hxy]
      unfold mnV
      show (kyE y.1, PySem.W.minD (vlD e.2) [vlD y.2]) = (kyE y.1, vlD _)
      congr 1
      show (if PySem.W.dataLt (vlD y.2) (vlD e.2) then vlD y.2 else vlD e.2) = _
      split <;> rfl
    · rw [if_neg (show ¬ (enE x).1 = kyE e.1 from fun z => hk (kyE_inj z)), if_neg hk]
  · rw [if_neg h, if_neg h]
    have ho := val_out (lv := lv) (p := e.1) fun z => h ((any_mem lv e.1).mpr z)
    rw [ho, List.map_append]
    have : PySem.W.minD (vlD e.2) [vlD e.2] = vlD e.2 := by
      show (if PySem.W.dataLt (vlD e.2) (vlD e.2) then vlD e.2 else vlD e.2) = _
      split <;> rfl
    show _ = lv.map enE ++ [enE e]
    rw [show (Option.getD none (vlD e.2)) = vlD e.2 from rfl, this]
    rfl
where
  hn_inj {lv : List Ent} (hn : (lv.map (·.1)).Nodup) {x y : Ent} (hx : x ∈ lv) (hy : y ∈ lv) (e : x.1 = y.1) : x = y := by
    induction lv with
    | nil => cases hx
    | cons z zs ih =>
      rw [List.map_cons, List.nodup_cons] at hn
      rcases List.mem_cons.mp hx with hx1 | hx1
      · rcases List.mem_cons.mp hy with hy1 | hy1
        · rw [hx1, hy1]
        · exact absurd (List.mem_map.mpr ⟨y, hy1, by rw [← e, hx1]⟩) hn.1
      · rcases List.mem_cons.mp hy with hy1 | hy1
        · exact absurd (List.mem_map.mpr ⟨x, hx1, by rw [e, hy1]⟩) hn.1
        · exact ih hn.2 hx1 hy1
theorem putM_keys (lv : List Ent) (e : Ent) : (putM lv e).map (·.1) = if e.1 ∈ lv.map (·.1) then lv.map (·.1) else lv.map (·.1) ++ [e.1] := by
  unfold putM
  by_cases h : (lv.any fun x => decide (x.1 = e.1)) = true
  · rw [if_pos h, if_pos ((any_mem lv e.1).mp h), List.map_map]
    apply List.map_congr_left
    intro x _
    show (if x.1 = e.1 then (x.1, mnV e.2 x.2) else x).1 = x.1
    split <;> rfl
  · rw [if_neg h, if_neg (fun z => h ((any_mem lv e.1).mpr z)), List.map_append]
    rfl
theorem putM_nodup {lv : List Ent} (hn : (lv.map (·.1)).Nodup) (e : Ent) : ((putM lv e).map (·.1)).Nodup := by
  rw [putM_keys]
  by_cases h : e.1 ∈ lv.map (·.1)
  · rw [if_pos h]; exact hn
  · rw [if_neg h, List.nodup_append]
    refine ⟨hn, by simp, fun a ha b hb => ?_⟩
    rw [List.mem_singleton.mp hb]
    rintro rfl
    exact h ha
theorem putM_mem {lv : List Ent} {e x : Ent} (h : x ∈ putM lv e) : (x ∈ lv ∨ x = e) ∨ (∃ y ∈ lv, x.1 = y.1 ∧ x.1 = e.1 ∧ (x.2 = y.2 ∨ x.2 = e.2)) := by
  unfold putM at h
  by_cases ha : (lv.any fun x => decide (x.1 = e.1)) = true
  · rw [if_pos ha] at h
    obtain ⟨y, hy, rfl⟩ := List.mem_map.mp h
    by_cases hk : y.1 = e.1
    · rw [if_pos hk]
      refine .inr ⟨y, hy, rfl, hk, ?_⟩
      unfold mnV
      split
      · exact .inl rfl
      · exact .inr rfl
    · rw [if_neg hk]
      exact .inl (.inl hy)
  · rw [if_neg ha] at h
    rcases List.mem_append.mp h with z | z
    · exact .inl (.inl z)
    · exact .inl (.inr (List.mem_singleton.mp z))
/-- a level in order -/
structure LvOk (n : Net) (m : Nat) (lv : List Ent) : Prop where
  nd : (lv.map (·.1)).Nodup
  bd : ∀ e ∈ lv, e.1.1 < n.roads.length ∧ 0 ≤ e.1.2 ∧ e.1.2 ≤ 13
  wl : ∀ e ∈ lv, e.2.2.length ≤ m
theorem LvOk.put {n : Net} {m : Nat} {lv : List Ent} (h : LvOk n m lv) {e : Ent} (hb : e.1.1 < n.roads.length ∧ 0 ≤ e.1.2 ∧ e.1.2 ≤ 13) (hw : e.2.2.length ≤ m) : LvOk n m (putM lv e) where
  nd := putM_nodup h.nd e
  bd := fun x hx => by
    rcases putM_mem hx with (z | rfl) | ⟨y, hy, e1, _, _⟩
    · exact h.bd x z
    · exact hb
    · rw [e1]; exact h.bd y hy
  wl := fun x hx => by
    rcases putM_mem hx with (z | rfl) | ⟨y, hy, _, _, z | z⟩
    · exact h.wl x z
    · exact hw
    · rw [z]; exact h.wl y hy
    · rw [z]; exact hw
theorem LvOk.nil (n : Net) (m : Nat) : LvOk n m [] := ⟨List.nodup_nil, fun _ h => (by cases h), fun _ h => (by cases h)⟩
theorem LvOk.len {n : Net} (h : n.Ok) {m : Nat} {lv : List Ent} (hl : LvOk n m lv) : lv.length ≤ 112 := by
  have := nodup_grid hl.nd (fun p hp => by
    obtain ⟨e, he, rfl⟩ := List.mem_map.mp hp
    exact hl.bd e he)
  rw [List.length_map] at this
  have := h.r8
  omega
def Net.stp (n : Net) (L : List (List Int)) (e : Ent) (j : Nat) : Ent := ((j, n.nxt (j, e.1.2)), (e.2.1 + n.pt L j e.1.2, e.2.2 ++ [j]))
def Net.ons (n : Net) (L : List (List Int)) (e : Ent) : List Ent := (n.aft e.1.1).map (n.stp L e)
def Net.go1 (n : Net) (L : List (List Int)) (lv : List Ent) : List Ent := (lv.flatMap (n.ons L)).foldl putM []
theorem nxt_bd {n : Net} (h : n.Ok) {j : Nat} (hj : j < n.roads.length) {s : Int} (h0 : 0 ≤ s) (h13 : s ≤ 13) : 0 ≤ n.nxt (j, s) ∧ n.nxt (j, s) ≤ 13 := by
  have := lv_bd h hj h0 h13
  exact ov_bd n this.1 this.2
theorem fold_ok {n : Net} {m : Nat} : ∀ {es : List Ent} {lv : List Ent}, LvOk n m lv → (∀ e ∈ es, (e.1.1 < n.roads.length ∧ 0 ≤ e.1.2 ∧ e.1.2 ≤ 13) ∧ e.2.2.length ≤ m) → LvOk n m (es.foldl putM lv)
  | [], lv, h, _ => h
  | e :: es, lv, h, he => fold_ok (es := es) (lv := putM lv e) (h.put (he e List.mem_cons_self).1 (he e List.mem_cons_self).2) fun x hx => he x (List.mem_cons_of_mem _ hx)
theorem ons_ok {n : Net} (h : n.Ok) (L : List (List Int)) {m : Nat} {lv : List Ent} (hl : LvOk n m lv) : ∀ e ∈ lv.flatMap (n.ons L), (e.1.1 < n.roads.length ∧ 0 ≤ e.1.2 ∧ e.1.2 ≤ 13) ∧ e.2.2.length ≤ m + 1 := fun x hx => by
  obtain ⟨e, he, hx⟩ := List.mem_flatMap.mp hx
  obtain ⟨j, hj, rfl⟩ := List.mem_map.mp hx
  have hb := hl.bd e he
  have hjl := aft_lt hj
  refine ⟨⟨hjl, nxt_bd h hjl hb.2.1 hb.2.2⟩, ?_⟩
  have := hl.wl e he
  show (e.2.2 ++ [j]).length ≤ m + 1
  simp
  omega
theorem go1_ok {n : Net} (h : n.Ok) (L : List (List Int)) {m : Nat} {lv : List Ent} (hl : LvOk n m lv) : LvOk n (m + 1) (n.go1 L lv) := fold_ok (LvOk.nil n _) (ons_ok h L hl)
theorem vl_ok (v w : Int × List Nat) : minOk [vlD v, vlD w] = true := by
  have key : ∀ v w : List Nat, PySem.W.alikeAll (nI v) (nI w) = true := fun v => by
    induction v with
    | nil => intro w; cases w <;> simp [nI, PySem.W.alikeAll]
    | cons a v ih =>
      intro w
      cases w with
      | nil => simp [nI, PySem.W.alikeAll]
      | cons b w =>
        have := ih w
        simp only [nI, List.map_cons, PySem.W.alikeAll, PySem.W.alike, Bool.true_and] at this ⊢
        exact this
  have al : ∀ v w : Int × List Nat, PySem.W.alike (vlD v) (vlD w) = true := fun v w => by
    have := key v.2 w.2
    simp [vlD, wD, PySem.W.alike, PySem.W.alikeAll, this]
  have de : ∀ v : Int × List Nat, (vlD v).depth ≤ 16 := fun v => by
    have : dOk 2 (vlD v) = true := dOk_tuple (by simp [dOks, wD, dOk, dOks_nI])
    have := (dOk_lay 2 _ this).2
    omega
  unfold minOk
  simp [al, de]
  exact ⟨rfl, rfl⟩
/-! ### the first level -/
def Net.bgE (n : Net) (L : List (List Int)) (k : Nat) : Ent := ((k, n.nxt (k, 0)), (n.pt L k 0, [k]))
def Net.bg (n : Net) (L : List (List Int)) (st : Int) : List Ent := ((List.range n.roads.length).filter fun k => decide ((n.rd k).s = st)).map (n.bgE L)
theorem bg_ok' {n : Net} (h : n.Ok) (L : List (List Int)) {ks : List Nat} (hk : ∀ k ∈ ks, k < n.roads.length) (hn : ks.Nodup) : LvOk n 1 (ks.map (n.bgE L)) where
  nd := by
    rw [List.map_map]
    unfold List.Nodup
    rw [List.pairwise_map]
    exact hn.imp fun {a b} h e => h (congrArg Prod.fst e)
  bd := fun e he => by
    obtain ⟨k, hk', rfl⟩ := List.mem_map.mp he
    exact ⟨hk k hk', nxt_bd h (hk k hk') (by decide) (by decide)⟩
  wl := fun e he => by
    obtain ⟨k, hk', rfl⟩ := List.mem_map.mp he
    exact Nat.le_refl _
theorem bg_ok {n : Net} (h : n.Ok) (L : List (List Int)) (st : Int) : LvOk n 1 (n.bg L st) :=
  bg_ok' h L (fun k hk => by simpa using (List.mem_filter.mp hk).1) (List.nodup_range.filter _)
theorem put_new {lv : List Ent} {e : Ent} (h : e.1 ∉ lv.map (·.1)) : putP (lv.map enE) (kyE e.1) (vlD e.2) = (lv ++ [e]).map enE := by
  unfold putP
  rw [any_key, if_neg (fun z => h ((any_mem lv e.1).mp z)), List.map_append]
  rfl
/-! ### all levels, and what is found -/
def Net.lvl (n : Net) (L : List (List Int)) (st : Int) : Nat → List Ent
  | 0 => n.bg L st
  | m + 1 => n.go1 L (n.lvl L st m)
theorem lvl_ok {n : Net} (h : n.Ok) (L : List (List Int)) (st : Int) : ∀ m, LvOk n (m + 1) (n.lvl L st m)
  | 0 => bg_ok h L st
  | m + 1 => go1_ok h L (lvl_ok h L st m)
abbrev Fnd := Int × Int × List Nat
def ftD (t : Fnd) : PyData := .tuple [.int t.1, .int t.2.1, wD t.2.2]
def Net.fnL (n : Net) (L : List (List Int)) (st en : Int) (i : Nat) : List Fnd := ((n.lvl L st i).filter fun e => decide ((n.rd e.1.1).e = en)).map fun e => (e.2.1, ((i + 1 : Nat) : Int), e.2.2)
def Net.fnd (n : Net) (L : List (List Int)) (st en : Int) (m : Nat) : List Fnd := (List.range m).flatMap (n.fnL L st en)
def minT (x : Fnd) (xs : List Fnd) : Fnd := xs.foldl (fun a y => if PySem.W.dataLt (ftD y) (ftD a) then y else a) x
theorem minT_enc : ∀ (xs : List Fnd) (x : Fnd), PySem.W.minD (ftD x) (xs.map ftD) = ftD (minT x xs)
  | [], x => rfl
  | y :: ys, x => by
    show PySem.W.minD (if PySem.W.dataLt (ftD y) (ftD x) then ftD y else ftD x) (ys.map ftD) = ftD (minT (if PySem.W.dataLt (ftD y) (ftD x) then y else x) ys)
    rw [← minT_enc ys]
    split <;> rfl
def minF : List Fnd → Option Fnd
  | [] => none
  | x :: xs => some (minT x xs)
def Net.qk (n : Net) (L : List (List Int)) (st en : Int) : Option Fnd := minF (n.fnd L st en 20)
def qkD : Option Fnd → PyData
  | none => .none
  | some t => ftD t
theorem ft_ok (ts : List Fnd) : minOk (ts.map ftD) = true := by
  have key : ∀ v w : List Nat, PySem.W.alikeAll (nI v) (nI w) = true := fun v => by
    induction v with
    | nil => intro w; cases w <;> simp [nI, PySem.W.alikeAll]
    | cons a v ih =>
      intro w
      cases w with
      | nil => simp [nI, PySem.W.alikeAll]
      | cons b w =>
        have := ih w
        simp only [nI, List.map_cons, PySem.W.alikeAll, PySem.W.alike, Bool.true_and] at this ⊢
        exact this
  have al : ∀ v w : Fnd, PySem.W.alike (ftD v) (ftD w) = true := fun v w => by
    have := key v.2.2 w.2.2
    simp [ftD, wD, PySem.W.alike, PySem.W.alikeAll, this]
  have de : ∀ v : Fnd, (ftD v).depth ≤ 16 := fun v => by
    have : dOk 2 (ftD v) = true := dOk_tuple (by simp [dOks, wD, dOk, dOks_nI])
    have := (dOk_lay 2 _ this).2
    omega
  unfold minOk
  simp only [List.all_map, Bool.and_eq_true, List.all_eq_true]
  refine ⟨⟨fun x _ => ?_, fun x _ => rfl⟩, fun x _ => ?_⟩
  · show ts.all (fun e => PySem.W.alike (ftD x) (ftD e)) = true
    exact List.all_eq_true.mpr fun y _ => al x y
  · exact decide_eq_true (de x)
theorem fnL_len {n : Net} (h : n.Ok) (L : List (List Int)) (st en : Int) (i : Nat) : (n.fnL L st en i).length ≤ 112 := by
  unfold Net.fnL
  rw [List.length_map]
  exact Nat.le_trans (List.length_filter_le _ _) ((lvl_ok h L st i).len h)
theorem fnd_len {n : Net} (h : n.Ok) (L : List (List Int)) (st en : Int) (m : Nat) : (n.fnd L st en m).length ≤ m * 112 := by
  have := flat_len (f := n.fnL L st en) (xs := List.range m) (c := 112) (fun i _ => fnL_len h L st en i)
  rw [List.length_range] at this
  exact this
theorem dOks_ft (ts : List Fnd) : dOks 2 (ts.map ftD) = true := dOks_map fun t _ => dOk_tuple (by simp [dOks, wD, dOk, dOks_nI])
/-- range(1, 21) -/
theorem rg20 : rg2 [.int 1, .int 21] = .ok ((List.range 20).map fun i => PyData.int (((i + 1 : Nat)) : Int)) := rg2_one (n := 21) (by decide)
end LW
namespace LW
open PySem PySem.Spec PyProof.Rows L2 DN
/-! ### the order of times and ways -/
def ltW : List Nat → List Nat → Bool
  | [], [] => false
  | [], _ :: _ => true
  | _ :: _, [] => false
  | a :: v, b :: w => if a = b then ltW v w else decide (a < b)
theorem ltW_irrefl : ∀ v : List Nat, ltW v v = false
  | [] => rfl
  | a :: v => by simp [ltW, ltW_irrefl v]
theorem ltW_trans : ∀ {u v w : List Nat}, ltW u v = true → ltW v w = true → ltW u w = true
  | [], [], _, h, _ => by cases h
  | [], b :: v, [], _, g => by cases g
  | [], b :: v, c :: w, _, _ => rfl
  | a :: u, [], _, h, _ => by cases h
  | a :: u, b :: v, [], _, g => by cases g
  | a :: u, b :: v, c :: w, h, g => by
    unfold ltW at h g ⊢
    by_cases e1 : a = b
    · subst e1
      rw [if_pos rfl] at h
      by_cases e2 : a = c
      · subst e2
        rw [if_pos rfl] at g ⊢
        exact ltW_trans h g
      · rw [if_neg e2] at g ⊢
        exact g
    · rw [if_neg e1] at h
      have h := of_decide_eq_true h
      by_cases e2 : b = c
      · subst e2
        rw [if_neg e1]
        exact decide_eq_true h
      · rw [if_neg e2] at g
        have g := of_decide_eq_true g
        rw [if_neg (by omega)]
        exact decide_eq_true (by omega)
theorem ltW_tri : ∀ {v w : List Nat}, ltW v w = false → ltW w v = false → v = w
  | [], [], _, _ => rfl
  | [], b :: w, h, _ => by cases h
  | a :: v, [], _, g => by cases g
  | a :: v, b :: w, h, g => by
    unfold ltW at h g
    by_cases e : a = b
    · subst e
      rw [if_pos rfl] at h g
      rw [ltW_tri h g]
    · rw [if_neg e] at h
      rw [if_neg (Ne.symm e)] at g
      have h := of_decide_eq_false h
      have g := of_decide_eq_false g
      omega
theorem lt_wD : ∀ v w : List Nat, PySem.W.dataLt (wD v) (wD w) = ltW v w := by
  have base : PyProof.Rows.lexLt PyProof.Rows.itemOrd (PySem.W.keyToksAll []) (PySem.W.keyToksAll []) = false := PyProof.Rows.lex_irrefl (O := PyProof.Rows.itemOrd) _
  intro v
  induction v with
  | nil =>
    intro w
    cases w with
    | nil =>
      show PySem.W.dataLt (.tuple []) (.tuple []) = false
      rw [PySem.W.dataLt_tuple]
      exact base
    | cons b w =>
      show PySem.W.dataLt (.tuple []) (.tuple (.int (b : Nat) :: nI w)) = true
      rw [PySem.W.dataLt_tuple, PySem.W.toks_all_cons, PySem.W.keyToksAll, PyProof.Rows.lex_diff (O := PyProof.Rows.itemOrd) (by intro z; injection z with z; cases z)]
      rfl
  | cons a v ih =>
    intro w
    cases w with
    | nil =>
      show PySem.W.dataLt (.tuple (.int (a : Nat) :: nI v)) (.tuple []) = false
      rw [PySem.W.dataLt_tuple, PySem.W.toks_all_cons, PySem.W.keyToksAll, PyProof.Rows.lex_diff (O := PyProof.Rows.itemOrd) (by intro z; injection z with z; cases z)]
      rfl
    | cons b w =>
      show PySem.W.dataLt (.tuple (.int (a : Nat) :: nI v)) (.tuple (.int (b : Nat) :: nI w)) = ltW (a :: v) (b :: w)
      have ih := ih w
      unfold wD at ih
      rw [PySem.W.dataLt_tuple] at ih ⊢
      unfold ltW
      by_cases e : a = b
      · subst e
        rw [if_pos rfl, PySem.W.dataLt_all_yes (by simp [PySem.W.alike]) (by simp [PyData.eqv])]
        exact ih
      · rw [if_neg e, PySem.W.dataLt_all_no (by simp [PySem.W.alike]) (by simp [PyData.eqv]; omega), PySem.W.dataLt_int]
        rw [decide_eq_decide]
        omega
theorem wD_alike (v w : List Nat) : PySem.W.alike (wD v) (wD w) = true := by
  have key : ∀ v w : List Nat, PySem.W.alikeAll (nI v) (nI w) = true := fun v => by
    induction v with
    | nil => intro w; cases w <;> simp [nI, PySem.W.alikeAll]
    | cons a v ih =>
      intro w
      cases w with
      | nil => simp [nI, PySem.W.alikeAll]
      | cons b w =>
        have := ih w
        simp only [nI, List.map_cons, PySem.W.alikeAll, PySem.W.alike, Bool.true_and] at this ⊢
        exact this
  have := key v w
  simp [wD, PySem.W.alike, this]
theorem lt_last (v w : List Nat) : PyProof.Rows.lexLt PyProof.Rows.itemOrd (PySem.W.keyToksAll [wD v]) (PySem.W.keyToksAll [wD w]) = ltW v w := by
  by_cases e : v = w
  · subst e
    rw [ltW_irrefl]
    exact PyProof.Rows.lex_irrefl (O := PyProof.Rows.itemOrd) _
  · have : PyData.eqv (wD v) (wD w) = false := by
      cases h : PyData.eqv (wD v) (wD w) with
      | false => rfl
      | true => exact absurd (wD_inj ((eqv_pur _ _ (pur_wD v) (pur_wD w)).mp h)) e
    rw [PySem.W.dataLt_all_no (wD_alike v w) this, lt_wD]
def ltV (a b : Int × List Nat) : Bool := if a.1 = b.1 then ltW a.2 b.2 else decide (a.1 < b.1)
theorem lt_vl (a b : Int × List Nat) : PySem.W.dataLt (vlD a) (vlD b) = ltV a b := by
  unfold vlD ltV
  rw [PySem.W.dataLt_tuple]
  by_cases e : a.1 = b.1
  · rw [if_pos e, e, PySem.W.dataLt_all_yes (by simp [PySem.W.alike]) (by simp [PyData.eqv]), lt_last]
  · rw [if_neg e, PySem.W.dataLt_all_no (by simp [PySem.W.alike]) (by simpa [PyData.eqv] using e), PySem.W.dataLt_int]
def ltF (a b : Fnd) : Bool := if a.1 = b.1 then (if a.2.1 = b.2.1 then ltW a.2.2 b.2.2 else decide (a.2.1 < b.2.1)) else decide (a.1 < b.1)
theorem lt_ft (a b : Fnd) : PySem.W.dataLt (ftD a) (ftD b) = ltF a b := by
  unfold ftD ltF
  rw [PySem.W.dataLt_tuple]
  by_cases e : a.1 = b.1
  · rw [if_pos e, e, PySem.W.dataLt_all_yes (by simp [PySem.W.alike]) (by simp [PyData.eqv])]
    by_cases e2 : a.2.1 = b.2.1
    · rw [if_pos e2, e2, PySem.W.dataLt_all_yes (by simp [PySem.W.alike]) (by simp [PyData.eqv]), lt_last]
    · rw [if_neg e2, PySem.W.dataLt_all_no (by simp [PySem.W.alike]) (by simpa [PyData.eqv] using e2), PySem.W.dataLt_int]
  · rw [if_neg e, PySem.W.dataLt_all_no (by simp [PySem.W.alike]) (by simpa [PyData.eqv] using e), PySem.W.dataLt_int]
/-! ### the same, reckoned -/
def mnV' (new old : Int × List Nat) : Int × List Nat := if ltV old new = true then old else new
theorem mnV_eq : mnV = mnV' := by
  funext a b
  unfold mnV mnV'
  rw [lt_vl]
def putM' (lv : List Ent) (e : Ent) : List Ent := if (lv.any fun x => decide (x.1 = e.1)) = true then lv.map (fun x => if x.1 = e.1 then (x.1, mnV' e.2 x.2) else x) else lv ++ [e]
theorem putM_eq : putM = putM' := by
  funext lv e
  unfold putM putM'
  rw [mnV_eq]
def Net.lvl' (n : Net) (L : List (List Int)) (st : Int) : Nat → List Ent
  | 0 => n.bg L st
  | m + 1 => ((n.lvl' L st m).flatMap (n.ons L)).foldl putM' []
theorem lvl_eq (n : Net) (L : List (List Int)) (st : Int) : ∀ m, n.lvl L st m = n.lvl' L st m
  | 0 => rfl
  | m + 1 => by
    show ((n.lvl L st m).flatMap (n.ons L)).foldl putM [] = _
    rw [lvl_eq n L st m, putM_eq]
    rfl
def minT' (x : Fnd) (xs : List Fnd) : Fnd := xs.foldl (fun a y => if ltF y a = true then y else a) x
theorem minT_eq : minT = minT' := by
  funext x xs
  unfold minT minT'
  congr 1
  funext a y
  rw [lt_ft]
def minF' : List Fnd → Option Fnd
  | [] => none
  | x :: xs => some (minT' x xs)
theorem minF_eq : minF = minF' := by
  funext xs
  cases xs with
  | nil => rfl
  | cons x xs => simp only [minF, minF', minT_eq]
def Net.qk' (n : Net) (L : List (List Int)) (st en : Int) : Option Fnd := minF' ((List.range 20).flatMap fun i => ((n.lvl' L st i).filter fun e => decide ((n.rd e.1.1).e = en)).map fun e => (e.2.1, ((i + 1 : Nat) : Int), e.2.2))
theorem qk_eq (n : Net) (L : List (List Int)) (st en : Int) : n.qk L st en = n.qk' L st en := by
  unfold Net.qk Net.qk' Net.fnd Net.fnL
  rw [minF_eq]
  congr 1
  congr 1
  funext i
  rw [lvl_eq]
/-! ### the time of a way -/
def Net.tm (n : Net) (L : List (List Int)) (r : List Nat) : Int := ((List.range r.length).map fun i => n.pt L (wk r i) (n.sB r i)).sum
theorem sum_nonneg : ∀ {xs : List Int}, (∀ x ∈ xs, 0 ≤ x) → 0 ≤ xs.sum
  | [], _ => Int.le_refl _
  | x :: xs, h => by
    have := h x List.mem_cons_self
    have := sum_nonneg (xs := xs) fun y hy => h y (List.mem_cons_of_mem _ hy)
    rw [List.sum_cons]
    omega
theorem pt_pos {n : Net} (h : n.Ok) {L : List (List Int)} (hL : LOk n L) {k : Nat} (hk : k < n.roads.length) {s : Int} (h0 : 0 ≤ s) (h13 : s ≤ 13) : 0 < n.pt L k s := by
  have hb := pcs_bd h hk h0 h13
  have hr := hL.bd k hk
  have hl := hL.row k hk
  have hp := pcs_len n k s
  unfold Net.pt prts
  have pos : ∀ p ∈ (lrow L k).zip (n.pcs k s), 0 < p.1 * (360360 / p.2) := fun p hp => by
    have hm := List.of_mem_zip hp
    have h1 := hr _ hm.1
    have h2 := hb _ hm.2
    have : (360360 : Int) / 13 ≤ 360360 / p.2 := by
      have hc : p.2 = 1 ∨ p.2 = 2 ∨ p.2 = 3 ∨ p.2 = 4 ∨ p.2 = 5 ∨ p.2 = 6 ∨ p.2 = 7 ∨ p.2 = 8 ∨ p.2 = 9 ∨ p.2 = 10 ∨ p.2 = 11 ∨ p.2 = 12 ∨ p.2 = 13 := by omega
      rcases hc with e | e | e | e | e | e | e | e | e | e | e | e | e <;> rw [e] <;> decide
    exact Int.mul_pos (by omega) (by omega)
  cases hz : (lrow L k).zip (n.pcs k s) with
  | nil =>
    exfalso
    have := congrArg List.length hz
    rw [List.length_zip, hl, hp] at this
    simp at this
  | cons p ps =>
    rw [hz] at pos
    rw [List.map_cons, List.sum_cons]
    have h1 := pos p List.mem_cons_self
    have h2 : 0 ≤ (ps.map fun p => p.1 * (360360 / p.2)).sum := sum_nonneg fun x hx => by
      obtain ⟨q, hq, rfl⟩ := List.mem_map.mp hx
      exact Int.le_of_lt (pos q (List.mem_cons_of_mem _ hq))
    omega
theorem sB_bd {n : Net} (h : n.Ok) {r : List Nat} (hr : n.Way r) : ∀ {i : Nat}, i ≤ r.length → 0 ≤ n.sB r i ∧ n.sB r i ≤ 13
  | 0, _ => ⟨Int.le_refl _, by show (0 : Int) ≤ 13; decide⟩
  | i + 1, hi => by
    have ih := sB_bd h hr (i := i) (by omega)
    exact nxt_bd h (hr.lt _ (getD_mem (by omega))) ih.1 ih.2
theorem tm_nonneg {n : Net} (h : n.Ok) {L : List (List Int)} (hL : LOk n L) {r : List Nat} (hr : n.Way r) : 0 ≤ n.tm L r := sum_nonneg fun x hx => by
  obtain ⟨i, hi, rfl⟩ := List.mem_map.mp hx
  have hi : i < r.length := by simpa using hi
  have hb := sB_bd h hr (i := i) (by omega)
  exact Int.le_of_lt (pt_pos h hL (hr.lt _ (getD_mem hi)) hb.1 hb.2)
theorem fold_val {P : Ent → Prop} (hP : ∀ x y : Ent, x.1 = y.1 → P y → P (x.1, y.2)) : ∀ {es lv : List Ent}, (∀ e ∈ lv, P e) → (∀ e ∈ es, P e) → ∀ e ∈ es.foldl putM lv, P e
  | [], lv, h, _ => h
  | e :: es, lv, h, he => fold_val hP (es := es) (lv := putM lv e) (fun x hx => by
      rcases putM_mem hx with (z | rfl) | ⟨y, hy, e1, e2, z | z⟩
      · exact h x z
      · exact he _ List.mem_cons_self
      · have := hP x y e1 (h y hy)
        rw [← z] at this
        exact this
      · have := hP x e e2 (he _ List.mem_cons_self)
        rw [← z] at this
        exact this) fun x hx => he x (List.mem_cons_of_mem _ hx)
theorem lvl_nonneg {n : Net} (h : n.Ok) {L : List (List Int)} (hL : LOk n L) (st : Int) : ∀ (m : Nat), ∀ e ∈ n.lvl L st m, 0 ≤ e.2.1
  | 0, e, he => by
    obtain ⟨k, hk, rfl⟩ := List.mem_map.mp he
    have hk : k < n.roads.length := by simpa using (List.mem_filter.mp hk).1
    exact Int.le_of_lt (pt_pos h hL hk (by decide) (by decide))
  | m + 1, e, he => by
    refine fold_val (P := fun e => 0 ≤ e.2.1) (fun x y _ q => q) (fun _ z => (by cases z)) (fun x hx => ?_) e he
    obtain ⟨y, hy, hx⟩ := List.mem_flatMap.mp hx
    obtain ⟨j, hj, rfl⟩ := List.mem_map.mp hx
    have hb := (lvl_ok h L st m).bd y hy
    have := lvl_nonneg h hL st m y hy
    have := pt_pos h hL (aft_lt hj) hb.2.1 hb.2.2
    show 0 ≤ y.2.1 + n.pt L j y.1.2
    omega
theorem minT_mem : ∀ (xs : List Fnd) (x : Fnd), minT x xs ∈ x :: xs
  | [], x => List.mem_cons_self
  | y :: ys, x => by
    show minT (if PySem.W.dataLt (ftD y) (ftD x) then y else x) ys ∈ _
    have := minT_mem ys (if PySem.W.dataLt (ftD y) (ftD x) then y else x)
    rcases List.mem_cons.mp this with z | z
    · rw [z]
      split
      · exact List.mem_cons_of_mem _ List.mem_cons_self
      · exact List.mem_cons_self
    · exact List.mem_cons_of_mem _ (List.mem_cons_of_mem _ z)
theorem qk_mem {n : Net} {L : List (List Int)} {st en : Int} {t : Fnd} (h : n.qk L st en = some t) : t ∈ n.fnd L st en 20 := by
  unfold Net.qk at h
  cases hf : n.fnd L st en 20 with
  | nil => rw [hf] at h; cases h
  | cons x xs =>
    rw [hf] at h
    injection h with h
    rw [← h]
    exact minT_mem xs x
theorem qk_nonneg {n : Net} (h : n.Ok) {L : List (List Int)} (hL : LOk n L) {st en : Int} {t : Fnd} (ht : n.qk L st en = some t) : 0 ≤ t.1 := by
  obtain ⟨i, hi, hx⟩ := List.mem_flatMap.mp (qk_mem ht)
  obtain ⟨e, he, rfl⟩ := List.mem_map.mp hx
  exact lvl_nonneg h hL st i e (List.mem_filter.mp he).1
end LW
namespace LW
open PySem PySem.Spec PyProof.Rows L2 DN
/-! ### orders -/
theorem ltV_irrefl (a : Int × List Nat) : ltV a a = false := by
  unfold ltV
  rw [if_pos rfl]
  exact ltW_irrefl _
theorem ltV_trans {a b c : Int × List Nat} (h : ltV a b = true) (g : ltV b c = true) : ltV a c = true := by
  unfold ltV at *
  by_cases e1 : a.1 = b.1
  · rw [if_pos e1] at h
    by_cases e2 : b.1 = c.1
    · rw [if_pos e2] at g
      rw [if_pos (e1.trans e2)]
      exact ltW_trans h g
    · rw [if_neg e2] at g
      rw [if_neg (by omega)]
      have := of_decide_eq_true g
      exact decide_eq_true (by omega)
  · rw [if_neg e1] at h
    have h := of_decide_eq_true h
    by_cases e2 : b.1 = c.1
    · rw [if_neg (by omega)]
      exact decide_eq_true (by omega)
    · rw [if_neg e2] at g
      have g := of_decide_eq_true g
      rw [if_neg (by omega)]
      exact decide_eq_true (by omega)
theorem ltV_tri {a b : Int × List Nat} (h : ltV a b = false) (g : ltV b a = false) : a = b := by
  unfold ltV at *
  by_cases e : a.1 = b.1
  · rw [if_pos e] at h
    rw [if_pos e.symm] at g
    exact Prod.ext e (ltW_tri h g)
  · rw [if_neg e] at h
    rw [if_neg (Ne.symm e)] at g
    have := of_decide_eq_false h
    have := of_decide_eq_false g
    omega
/-- not greater -/
def leV (a b : Int × List Nat) : Prop := ltV b a = false
theorem leV_refl (a : Int × List Nat) : leV a a := ltV_irrefl a
theorem leV_trans {a b c : Int × List Nat} (h : leV a b) (g : leV b c) : leV a c := by
  unfold leV at *
  cases hc : ltV c a with
  | false => rfl
  | true =>
    cases hb : ltV b c with
    | true =>
      have := ltV_trans hb hc
      rw [h] at this
      cases this
    | false =>
      have := ltV_tri hb g
      rw [this, hc] at h
      cases h
theorem mnV_le (new old : Int × List Nat) : leV (mnV new old) new ∧ leV (mnV new old) old := by
  rw [mnV_eq]
  unfold mnV' leV
  cases h : ltV old new with
  | true =>
    rw [if_pos rfl]
    refine ⟨?_, ltV_irrefl _⟩
    cases g : ltV new old with
    | false => rfl
    | true =>
      have := ltV_trans g h
      rw [ltV_irrefl] at this
      cases this
  | false =>
    rw [if_neg (by decide)]
    exact ⟨ltV_irrefl _, h⟩
theorem ltW_app : ∀ {v w : List Nat} (j : Nat), v.length = w.length → ltW v w = false → ltW (v ++ [j]) (w ++ [j]) = false
  | [], [], j, _, _ => by simp [ltW]
  | [], b :: w, j, h, _ => by simp at h
  | a :: v, [], j, h, _ => by simp at h
  | a :: v, b :: w, j, h, g => by
    unfold ltW at g
    show (if a = b then ltW (v ++ [j]) (w ++ [j]) else decide (a < b)) = false
    by_cases e : a = b
    · rw [if_pos e] at g ⊢
      exact ltW_app j (by simpa using h) g
    · rw [if_neg e] at g ⊢
      exact g
theorem leV_app {a b : Int × List Nat} (h : leV a b) (hl : a.2.length = b.2.length) (x : Int) (j : Nat) : leV (a.1 + x, a.2 ++ [j]) (b.1 + x, b.2 ++ [j]) := by
  unfold leV ltV at *
  by_cases e : b.1 = a.1
  · rw [if_pos e] at h
    rw [if_pos (by show b.1 + x = a.1 + x; omega)]
    exact ltW_app j hl.symm h
  · rw [if_neg e] at h
    have := of_decide_eq_false h
    rw [if_neg (by show ¬ b.1 + x = a.1 + x; omega)]
    exact decide_eq_false (by show ¬ b.1 + x < a.1 + x; omega)
/-! ### entries only fall -/
theorem putM_old {lv : List Ent} {x : Ent} (h : x ∈ lv) (e : Ent) : ∃ y ∈ putM lv e, y.1 = x.1 ∧ leV y.2 x.2 := by
  unfold putM
  by_cases ha : (lv.any fun x => decide (x.1 = e.1)) = true
  · rw [if_pos ha]
    refine ⟨_, List.mem_map.mpr ⟨x, h, rfl⟩, ?_⟩
    by_cases hk : x.1 = e.1
    · rw [if_pos hk]
      exact ⟨rfl, (mnV_le e.2 x.2).2⟩
    · rw [if_neg hk]
      exact ⟨rfl, leV_refl _⟩
  · rw [if_neg ha]
    exact ⟨x, List.mem_append_left _ h, rfl, leV_refl _⟩
theorem putM_new (lv : List Ent) (e : Ent) : ∃ y ∈ putM lv e, y.1 = e.1 ∧ leV y.2 e.2 := by
  unfold putM
  by_cases ha : (lv.any fun x => decide (x.1 = e.1)) = true
  · rw [if_pos ha]
    obtain ⟨x, hx, ex⟩ := List.mem_map.mp ((any_mem lv e.1).mp ha)
    refine ⟨_, List.mem_map.mpr ⟨x, hx, rfl⟩, ?_⟩
    rw [if_pos ex]
    exact ⟨ex, (mnV_le e.2 x.2).1⟩
  · rw [if_neg ha]
    exact ⟨e, List.mem_append_right _ List.mem_cons_self, rfl, leV_refl _⟩
theorem fold_old : ∀ {es lv : List Ent} {x : Ent}, x ∈ lv → ∃ y ∈ es.foldl putM lv, y.1 = x.1 ∧ leV y.2 x.2
  | [], lv, x, h => ⟨x, h, rfl, leV_refl _⟩
  | e :: es, lv, x, h => by
    obtain ⟨y, hy, e1, l1⟩ := putM_old h e
    obtain ⟨z, hz, e2, l2⟩ := fold_old (es := es) hy
    exact ⟨z, hz, e2.trans e1, leV_trans l2 l1⟩
theorem fold_new : ∀ {es lv : List Ent} {e : Ent}, e ∈ es → ∃ y ∈ es.foldl putM lv, y.1 = e.1 ∧ leV y.2 e.2
  | d :: es, lv, e, h => by
    rcases List.mem_cons.mp h with rfl | h
    · obtain ⟨y, hy, e1, l1⟩ := putM_new lv e
      obtain ⟨z, hz, e2, l2⟩ := fold_old (es := es) hy
      exact ⟨z, hz, e2.trans e1, leV_trans l2 l1⟩
    · exact fold_new (es := es) h
/-! ### ways and levels -/
theorem tm_app {n : Net} {L : List (List Int)} {w : List Nat} (hw : w ≠ []) (j : Nat) : n.tm L (w ++ [j]) = n.tm L w + n.pt L j (n.nxt (n.key w)) := by
  have hp : 0 < w.length := List.length_pos_iff.mpr hw
  unfold Net.tm
  rw [List.length_append, List.length_singleton, List.range_succ, List.map_append, List.sum_append]
  congr 1
  · congr 1
    apply List.map_congr_left
    intro i hi
    have hi : i < w.length := by simpa using hi
    rw [wk_app hi, sB_app n (by omega)]
  · rw [List.map_cons, List.map_nil, List.sum_cons, List.sum_nil, Int.add_zero]
    have e1 : wk (w ++ [j]) w.length = j := by simp [wk]
    have e2 : n.sB (w ++ [j]) w.length = n.nxt (n.key w) := by
      rw [sB_app n (Nat.le_refl _)]
      obtain ⟨m, hm⟩ : ∃ m, w.length = m + 1 := ⟨w.length - 1, by omega⟩
      have : n.sB w w.length = n.ov (n.lv (wk w (w.length - 1)) (n.sB w (w.length - 1))) := by
        rw [hm]
        rfl
      rw [this, wk_last hw]
      rfl
    rw [e1, e2]
theorem tm_one (n : Net) (L : List (List Int)) (k : Nat) : n.tm L [k] = n.pt L k 0 := by
  unfold Net.tm
  simp [wk, Net.sB]
/-- begins at the junction -/
def Net.Fro (n : Net) (st : Int) (w : List Nat) : Prop := n.Way w ∧ (n.rd (w.headD 0)).s = st
theorem way_app {n : Net} {w : List Nat} (h : n.Way w) {j : Nat} (hj : j ∈ n.aft (w.getLastD 0)) : n.Way (w ++ [j]) := ext_way h (List.mem_map.mpr ⟨j, hj, rfl⟩)
theorem way_one {n : Net} {k : Nat} (hk : k < n.roads.length) : n.Way [k] := (lev_way (t := 0) (List.mem_map.mpr ⟨k, by simpa using hk, rfl⟩)).1
/-- all but the last road of a way -/
theorem way_drop {n : Net} {w : List Nat} {j : Nat} (h : n.Way (w ++ [j])) (hw : w ≠ []) : n.Way w ∧ j ∈ n.aft (w.getLastD 0) := by
  have hp : 0 < w.length := List.length_pos_iff.mpr hw
  refine ⟨⟨hw, fun k hk => h.lt k (List.mem_append_left _ hk), fun i a b ha hb => h.link i a b ?_ ?_⟩, ?_⟩
  · rw [List.getElem?_append_left (List.getElem?_eq_some_iff.mp ha).1]; exact ha
  · rw [List.getElem?_append_left (List.getElem?_eq_some_iff.mp hb).1]; exact hb
  · refine List.mem_filter.mpr ⟨by simpa using h.lt j (by simp), ?_⟩
    have := h.link (w.length - 1) (w.getLastD 0) j (by
      rw [List.getElem?_append_left (by omega), List.getLastD_eq_getLast?, List.getLast?_eq_getElem?]
      rw [List.getElem?_eq_getElem (by omega)]
      rfl) (by
      rw [show w.length - 1 + 1 = w.length by omega]
      simp)
    exact decide_eq_true this.symm
structure LvIs (n : Net) (L : List (List Int)) (st : Int) (m : Nat) (lv : List Ent) : Prop where
  is_ : ∀ e ∈ lv, n.Fro st e.2.2 ∧ e.2.2.length = m + 1 ∧ e.1 = (e.2.2.getLastD 0, n.nxt (n.key e.2.2)) ∧ e.2.1 = n.tm L e.2.2
  all_ : ∀ w, n.Fro st w → w.length = m + 1 → ∃ e ∈ lv, e.1 = (w.getLastD 0, n.nxt (n.key w)) ∧ leV e.2 (n.tm L w, w)
theorem lvl_is {n : Net} (L : List (List Int)) (st : Int) : ∀ m, LvIs n L st m (n.lvl L st m)
  | 0 => by
    refine ⟨fun e he => ?_, fun w hw hl => ?_⟩
    · obtain ⟨k, hk, rfl⟩ := List.mem_map.mp he
      obtain ⟨h1, h2⟩ := List.mem_filter.mp hk
      have h1 : k < n.roads.length := by simpa using h1
      exact ⟨⟨way_one h1, of_decide_eq_true h2⟩, rfl, rfl, (tm_one n L k).symm⟩
    · obtain ⟨k, rfl⟩ : ∃ k, w = [k] := List.length_eq_one_iff.mp hl
      have hk : k < n.roads.length := hw.1.lt k List.mem_cons_self
      refine ⟨n.bgE L k, List.mem_map.mpr ⟨k, List.mem_filter.mpr ⟨by simpa using hk, by simpa using hw.2⟩, rfl⟩, rfl, ?_⟩
      rw [tm_one]
      exact leV_refl _
  | m + 1 => by
    have ih := lvl_is (n := n) L st m
    refine ⟨fun e he => ?_, fun w hw hl => ?_⟩
    · refine fold_val (P := fun e => n.Fro st e.2.2 ∧ e.2.2.length = m + 1 + 1 ∧ e.1 = (e.2.2.getLastD 0, n.nxt (n.key e.2.2)) ∧ e.2.1 = n.tm L e.2.2) (fun x y hxy hy => by
        show n.Fro st y.2.2 ∧ _ ∧ x.1 = _ ∧ _
        rw [hxy]
        exact hy) (fun _ z => (by cases z)) (fun x hx => ?_) e he
      obtain ⟨y, hy, hx⟩ := List.mem_flatMap.mp hx
      obtain ⟨j, hj, rfl⟩ := List.mem_map.mp hx
      obtain ⟨⟨h1, h2⟩, h3, h4, h5⟩ := ih.is_ y hy
      have hne := h1.ne
      have ek : y.1.1 = y.2.2.getLastD 0 := by rw [h4]
      have es : y.1.2 = n.nxt (n.key y.2.2) := by rw [h4]
      rw [ek] at hj
      refine ⟨⟨way_app h1 hj, ?_⟩, by show (y.2.2 ++ [j]).length = _; simp [h3], ?_, ?_⟩
      · show (n.rd ((y.2.2 ++ [j]).headD 0)).s = st
        cases hy2 : y.2.2 with
        | nil => exact absurd hy2 hne
        | cons a b => rw [hy2] at h2; exact h2
      · show (j, n.nxt (j, y.1.2)) = ((y.2.2 ++ [j]).getLastD 0, n.nxt (n.key (y.2.2 ++ [j])))
        rw [last_app, key_app n hne, es]
      · show y.2.1 + n.pt L j y.1.2 = n.tm L (y.2.2 ++ [j])
        rw [tm_app hne, h5, es]
    · have hne : w ≠ [] := hw.1.ne
      obtain ⟨v, j, rfl⟩ : ∃ v j, w = v ++ [j] := ⟨w.dropLast, w.getLast hne, (List.dropLast_concat_getLast hne).symm⟩
      have hvl : v.length = m + 1 := by simpa using hl
      have hvne : v ≠ [] := fun z => by rw [z] at hvl; simp at hvl
      obtain ⟨hv, hj⟩ := way_drop hw.1 hvne
      have hvs : n.Fro st v := ⟨hv, by
        have := hw.2
        cases hv2 : v with
        | nil => exact absurd hv2 hvne
        | cons a b => rw [hv2] at this; exact this⟩
      obtain ⟨e, he, ek, el⟩ := ih.all_ v hvs hvl
      obtain ⟨⟨h1, h2⟩, h3, h4, h5⟩ := ih.is_ e he
      have ek1 : e.1.1 = v.getLastD 0 := by rw [ek]
      have ek2 : e.1.2 = n.nxt (n.key v) := by rw [ek]
      obtain ⟨y, hy, ey, ly⟩ := fold_new (es := (n.lvl L st m).flatMap (n.ons L)) (lv := []) (e := n.stp L e j) (List.mem_flatMap.mpr ⟨e, he, List.mem_map.mpr ⟨j, by rw [ek1]; exact hj, rfl⟩⟩)
      refine ⟨y, hy, ?_, leV_trans ly ?_⟩
      · rw [ey]
        show (j, n.nxt (j, e.1.2)) = _
        rw [last_app, key_app n hvne, ek2]
      · show leV (e.2.1 + n.pt L j e.1.2, e.2.2 ++ [j]) (n.tm L (v ++ [j]), v ++ [j])
        rw [tm_app hvne, ek2]
        exact leV_app el (by show e.2.2.length = v.length; omega) _ j
/-! ### the quickest -/
theorem ltF_irrefl (a : Fnd) : ltF a a = false := by
  unfold ltF
  rw [if_pos rfl, if_pos rfl]
  exact ltW_irrefl _
theorem ltF_trans {a b c : Fnd} (h : ltF a b = true) (g : ltF b c = true) : ltF a c = true := by
  have key : ∀ x y : Fnd, ltF x y = true ↔ x.1 < y.1 ∨ (x.1 = y.1 ∧ ltV (x.2.1, x.2.2) (y.2.1, y.2.2) = true) := fun x y => by
    unfold ltF ltV
    by_cases e : x.1 = y.1
    · rw [if_pos e]
      exact ⟨fun z => .inr ⟨e, z⟩, fun z => z.elim (fun z => by omega) fun z => z.2⟩
    · rw [if_neg e]
      exact ⟨fun z => .inl (of_decide_eq_true z), fun z => z.elim (fun z => decide_eq_true z) fun z => absurd z.1 e⟩
  rw [key] at *
  rcases h with h | ⟨h, h'⟩
  · rcases g with g | ⟨g, _⟩
    · exact .inl (by omega)
    · exact .inl (by omega)
  · rcases g with g | ⟨g, g'⟩
    · exact .inl (by omega)
    · exact .inr ⟨by omega, ltV_trans h' g'⟩
theorem minT_le : ∀ (xs : List Fnd) (x : Fnd), ∀ y ∈ x :: xs, ltF y (minT x xs) = false := by
  rw [minT_eq]
  have key : ∀ (xs : List Fnd) (x : Fnd) (seen : List Fnd), (∀ y ∈ seen, ltF y x = false) → ∀ y ∈ seen ++ xs, ltF y (minT' x xs) = false := by
    intro xs
    induction xs with
    | nil =>
      intro x seen hs y hy
      rw [List.append_nil] at hy
      exact hs y hy
    | cons z zs ih =>
      intro x seen hs y hy
      show ltF y (minT' (if ltF z x = true then z else x) zs) = false
      refine ih (if ltF z x = true then z else x) (seen ++ [z]) (fun u hu => ?_) y (by simpa using hy)
      cases hz : ltF z x with
      | true =>
        rw [if_pos rfl]
        rcases List.mem_append.mp hu with hu | hu
        · cases h : ltF u z with
          | false => rfl
          | true =>
            have := ltF_trans h hz
            rw [hs u hu] at this
            cases this
        · rw [List.mem_singleton.mp hu]
          exact ltF_irrefl z
      | false =>
        rw [if_neg (by decide)]
        rcases List.mem_append.mp hu with hu | hu
        · exact hs u hu
        · rw [List.mem_singleton.mp hu]
          exact hz
  intro xs x y hy
  exact key xs x [x] (fun u hu => by rw [List.mem_singleton.mp hu]; exact ltF_irrefl x) y hy
theorem last_key (n : Net) (w : List Nat) : (n.key w).1 = w.getLastD 0 := rfl
/-- what the quickest way is -/
theorem qk_is {n : Net} {L : List (List Int)} {st en : Int} {t : Fnd} (h : n.qk L st en = some t) : n.Fro st t.2.2 ∧ (n.rd (t.2.2.getLastD 0)).e = en ∧ t.2.2.length ≤ 20 ∧ t.2.1 = ((t.2.2.length : Nat) : Int) ∧ t.1 = n.tm L t.2.2 := by
  obtain ⟨i, hi, hx⟩ := List.mem_flatMap.mp (qk_mem h)
  have hi : i < 20 := by simpa using hi
  obtain ⟨e, he, rfl⟩ := List.mem_map.mp hx
  obtain ⟨he, hen⟩ := List.mem_filter.mp he
  obtain ⟨h1, h2, h3, h4⟩ := (lvl_is L st i).is_ e he
  refine ⟨h1, ?_, by show e.2.2.length ≤ 20; omega, by show ((i + 1 : Nat) : Int) = _; rw [h2], h4⟩
  have : e.1.1 = e.2.2.getLastD 0 := by rw [h3]
  show (n.rd (e.2.2.getLastD 0)).e = en
  rw [← this]
  simpa using hen
/-- no way is quicker -/
theorem qk_least {n : Net} {L : List (List Int)} {st en : Int} {w : List Nat} (hw : n.Fro st w) (hl : w.length ≤ 20) (he : (n.rd (w.getLastD 0)).e = en) : ∃ t, n.qk L st en = some t ∧ ltF (n.tm L w, ((w.length : Nat) : Int), w) t = false := by
  have hp : 0 < w.length := List.length_pos_iff.mpr hw.1.ne
  obtain ⟨e, he1, ek, el⟩ := (lvl_is L st (w.length - 1)).all_ w hw (by omega)
  have hwl : w.length - 1 + 1 = w.length := by omega
  have hmem : (e.2.1, ((w.length - 1 + 1 : Nat) : Int), e.2.2) ∈ n.fnd L st en 20 := by
    refine List.mem_flatMap.mpr ⟨w.length - 1, by simp; omega, List.mem_map.mpr ⟨e, List.mem_filter.mpr ⟨he1, ?_⟩, rfl⟩⟩
    have : e.1.1 = w.getLastD 0 := by rw [ek]
    rw [this]
    exact decide_eq_true he
  rw [hwl] at hmem
  unfold Net.qk
  cases hf : n.fnd L st en 20 with
  | nil => rw [hf] at hmem; cases hmem
  | cons x xs =>
    rw [hf] at hmem
    refine ⟨_, rfl, ?_⟩
    have hmin := minT_le xs x _ hmem
    cases hlt : ltF (n.tm L w, ((w.length : Nat) : Int), w) (minT x xs) with
    | false => rfl
    | true =>
      exfalso
      have hle : ltV (n.tm L w, w) e.2 = true ∨ (n.tm L w, w) = e.2 ∨ ltV e.2 (n.tm L w, w) = true := by
        cases h1 : ltV (n.tm L w, w) e.2 with
        | true => exact .inl rfl
        | false =>
          cases h2 : ltV e.2 (n.tm L w, w) with
          | true => exact .inr (.inr rfl)
          | false => exact .inr (.inl (ltV_tri h1 h2))
      have hEl : ltF (e.2.1, ((w.length : Nat) : Int), e.2.2) (minT x xs) = true := by
        rcases hle with z | z | z
        · unfold leV at el
          rw [el] at z
          cases z
        · rw [← z]
          exact hlt
        · have : ltF (e.2.1, ((w.length : Nat) : Int), e.2.2) (n.tm L w, ((w.length : Nat) : Int), w) = true := by
            unfold ltF
            unfold ltV at z
            simp only at z ⊢
            by_cases e1 : e.2.1 = n.tm L w
            · rw [if_pos e1] at z ⊢
              simpa using z
            · rw [if_neg e1] at z ⊢
              exact z
          exact ltF_trans this hlt
      rw [hmin] at hEl
      cases hEl
theorem qk_none {n : Net} {L : List (List Int)} {st en : Int} (h : ∀ k, k < n.roads.length → (n.rd k).s ≠ st) : n.qk L st en = none := by
  cases hq : n.qk L st en with
  | none => rfl
  | some t =>
    obtain ⟨⟨hw, hs⟩, _⟩ := qk_is hq
    have hne := hw.ne
    exact absurd hs (h _ (hw.lt _ (by
      cases hc : t.2.2 with
      | nil => exact absurd hc hne
      | cons a b => exact List.mem_cons_self)))
end LW
namespace LW
open PySem PySem.Spec PyProof.Rows L2 DN TL
/-! ### texts of numbers -/
def num (i : Int) : Str := Str.ofString (toString i)
theorem tl_numI {i : Int} (h : 0 ≤ i) : tl (num i) = numL i.toNat := by
  obtain ⟨m, rfl⟩ := Int.eq_ofNat_of_zero_le h
  exact tl_num m
theorem num_len {i : Int} (h : 0 ≤ i) (h2 : i < 100) : (num i).length ≤ 2 := by
  rw [len_tl, tl_numI h]
  exact numL_len (by decide) (by omega)
theorem biStr_i {i : Int} (h : 0 ≤ i) (h2 : i ≤ 1000) : biStr [.int i] = .ok (.val (.str (num i))) := by
  unfold biStr
  dsimp only
  rw [if_pos (by omega)]
  rfl
@[simp] theorem app_len (x y : Str) : (x ++ y).length = x.length + y.length := by
  rw [len_tl, tl_append, List.length_append, len_tl x, len_tl y]
theorem add_ss {x y : Str} (h : x.length + y.length ≤ 100000) : opAdd (.str x) (.str y) = .ok (.val (.str (x ++ y))) := by
  unfold opAdd
  dsimp only
  rw [if_pos (Nat.le_trans h (by decide))]
theorem len_joinL (S : List Nat) : ∀ ps : List (List Nat), (joinL S ps).length ≤ (ps.map List.length).sum + ps.length * S.length
  | [] => by simp [joinL]
  | [p] => by simp [joinL]
  | p :: q :: r => by
    have := len_joinL S (q :: r)
    simp only [joinL, List.length_append, List.map_cons, List.sum_cons, List.length_cons, Nat.add_mul, Nat.one_mul] at *
    omega
theorem tl_joinT (y : Str) (ps : List Str) : tl (Txt.join y ps) = joinL (tl y) (ps.map tl) := by rw [join_eq, tl_join]
theorem join_len {y : Str} {ps : List Str} {m : Nat} (h : ∀ p ∈ ps, p.length ≤ m) : (Txt.join y ps).length ≤ ps.length * (m + y.length) := by
  rw [len_tl, tl_joinT]
  refine Nat.le_trans (len_joinL _ _) ?_
  rw [List.length_map, Nat.mul_add, ← len_tl]
  refine Nat.add_le_add_right ?_ _
  clear y
  induction ps with
  | nil => simp
  | cons p ps ih =>
    have h1 := h p List.mem_cons_self
    have h2 := ih fun q hq => h q (List.mem_cons_of_mem _ hq)
    simp only [List.map_cons, List.sum_cons, List.length_cons, Nat.add_mul, Nat.one_mul] at *
    rw [← len_tl p]
    omega
theorem sum_len {ps : List Str} {m : Nat} (h : ∀ p ∈ ps, p.length ≤ m) : (ps.map (·.length)).sum ≤ ps.length * m := by
  induction ps with
  | nil => simp
  | cons p ps ih =>
    have h1 := h p List.mem_cons_self
    have h2 := ih fun q hq => h q (List.mem_cons_of_mem _ hq)
    simp only [List.map_cons, List.sum_cons, List.length_cons, Nat.add_mul, Nat.one_mul] at *
    omega
theorem opJoin_ok {y : Str} {ps : List Str} {m : Nat} (h : ∀ p ∈ ps, p.length ≤ m) (hm : ps.length * m + ps.length * y.length ≤ 16777216) : opJoin y (.list (ps.map .str)) = .ok (.val (.str (Txt.join y ps))) := by
  unfold opJoin
  dsimp only
  rw [asSs_map]
  dsimp only
  rw [if_pos (Nat.le_trans (Nat.add_le_add_right (sum_len h) _) hm)]
end LW
namespace LW
open PySem PySem.Spec PyProof.Rows L2 DN
/-! ### a trip -/
structure Sta where
  r : Nat
  p : Nat
  s : Int
  v : List Int
def Sta.t (x : Sta) : PyData := .tuple [.int (x.r : Nat), .int (x.p : Nat), .int x.s, tI x.v]
structure Net.At (n : Net) (x : Sta) : Prop where
  r : x.r < n.roads.length
  p : x.p ≤ (n.rd x.r).g.length
  v : x.v ≠ []
  vl : x.v.length ≤ 500
def Net.gon (n : Net) (x : Sta) : Sta := ⟨x.r, x.p + 1, (n.rd x.r).g.getD x.p 0, x.v ++ [n.lim_ x.r (x.p + 1) x.s]⟩
def Net.trn (n : Net) (x : Sta) (k : Nat) : Sta := ⟨k, 0, n.ov x.s, x.v ++ [n.lim_ k 0 (n.ov x.s)]⟩
def Net.sta (n : Net) (k : Nat) : Sta := ⟨k, 0, 0, [n.lim_ k 0 0]⟩
@[simp] theorem Sta.tupl (x : Sta) (ts : List PyData → Ev → Rs Ev) (ρ : Ev) : tTupl ts x.t ρ = ts [.int (x.r : Nat), .int (x.p : Nat), .int x.s, tI x.v] ρ := rfl
theorem tI_add {xs : List Int} (h : xs.length ≤ 900) (l : Int) : opAdd (tI xs) (.tuple [.int l]) = .ok (.val (tI (xs ++ [l]))) := by
  unfold tI
  rw [opAdd_tup (by simp; omega)]
  simp
@[simp] theorem indep_const (x : RB) : indep (fun _ => x) = x := indep_of fun _ => rfl
theorem pcs_len' (n : Net) (k : Nat) (s : Int) : (n.pcs k s).length = (n.rd k).g.length + 1 := by simp [Net.pcs]
theorem pcs_ix (n : Net) {k p : Nat} (s : Int) (hp : p ≤ (n.rd k).g.length) : opIx (.list ((n.pcs k s).map .int)) (.int (p : Nat)) = .ok (.val (.int (n.lim_ k p s))) := by
  have := pcs_len' n k s
  rw [opIx_l, atI_nat', List.getElem?_map, List.getElem?_eq_getElem (by omega)]
  have hp' : p < (n.pcs k s).length := by omega
  simp [Net.lim_, hp']
theorem g_ix (n : Net) {k p : Nat} (hp : p < (n.rd k).g.length) : opIx (tI (n.rd k).g) (.int (p : Nat)) = .ok (.val (.int ((n.rd k).g.getD p 0))) := by
  unfold tI
  rw [opIx_t, atI_nat', List.getElem?_map, List.getElem?_eq_getElem hp]
  simp [hp]
theorem T_init_den {n : Net} (h : n.Ok) {k : Nat} (hk : k < n.roads.length) : d_T_init [.val n.d, .val (.int (k : Nat))] = .ok (.val (n.sta k).t) := by
  have h0 := pcs_ix n (k := k) (p := 0) 0 (by omega)
  unfold d_T_init dInit T_init1 T_init2
  simp [check_road_den h, road_in hk, pieces_den h hk] at h0 ⊢
  rw [h0]
  simp [Sta.t, Net.sta, tI]
theorem T_init_road {n : Net} (h : n.Ok) {v : PyData} (hv : isIntB v 0 (n.roads.length - 1) = false) : d_T_init [.val n.d, .val v] = .err "InvalidRoad" := by
  unfold d_T_init dInit T_init1 T_init2
  simp [check_road_den h, hv]
theorem T_init_net {d v : PyData} (hd : isNetB d = false) : d_T_init [.val d, .val v] = .err "InvalidNet" := by
  have e : d_check_road [.val d, .val v] = .err "InvalidNet" := by
    unfold d_check_road denB g_check_road
    simp [startE, hd]
  unfold d_T_init dInit T_init1 T_init2
  simp [e]
theorem T_len_den (c : Addr) (n : PyData) (x : Sta) : d_T_len [.vie c n x.t] = .ok (.val (.int x.v.length)) := by
  unfold d_T_len denB g_T_len
  simp [startE, Sta.t]
theorem T_place_den (c : Addr) (n : PyData) (x : Sta) : d_T_place [.vie c n x.t] = .ok (.val (.tuple [.int (x.r : Nat), .int (x.p : Nat)])) := by
  unfold d_T_place denB g_T_place
  simp only [gRet, startE]
  simp [Sta.t]
  exact cut_to _ 2
theorem T_limit_den (c : Addr) (n : PyData) (x : Sta) (hv : x.v ≠ []) : d_T_limit [.vie c n x.t] = .ok (.val (.int (x.v.getLastD 0))) := by
  have e := signs_last hv 0
  unfold d_T_limit denB g_T_limit
  simp only [gRet, startE]
  simp [Sta.t, e]
theorem T_seen_den (c : Addr) (n : PyData) (x : Sta) : d_T_seen [.vie c n x.t] = .ok (.own (x.v.map .int)) := by
  unfold d_T_seen denB g_T_seen
  simp [startE, Sta.t, tI]
theorem T_change_den (id : Option Addr) (c : Addr) (o : Ob) (d : PyData) (h : o.D.length < lim) : d_T_change [.obj id c o, .val d] = .ok .none ⟨o.n, d, o.D ++ [o.p], []⟩ := by
  unfold d_T_change denO g_T_change
  simp [startE, retB, left, h]
theorem T_go_den (cT : Addr) {n : Net} (h : n.Ok) {x : Sta} (hx : n.At x) (hp : x.p < (n.rd x.r).g.length) (id : Option Addr) {D U : List PyData} (hD : D.length < lim) :
    d_T_go cT [.obj id cT ⟨n.d, x.t, D, U⟩] = .ok (.int (n.lim_ x.r (x.p + 1) x.s)) ⟨n.d, (n.gon x).t, D ++ [x.t], []⟩ := by
  have e1 := pcs_ix n (k := x.r) (p := x.p + 1) x.s (by omega)
  have e2 := g_ix n hp
  have e3 := tI_add (xs := x.v) (by have := hx.vl; omega) (n.lim_ x.r (x.p + 1) x.s)
  have e4 : ¬ ((n.rd x.r).g.length : Int) ≤ (x.p : Int) := by omega
  have ch : ∀ (a : Addr) (d : PyData), d_T_change [.obj (some a) cT ⟨n.d, x.t, D, U⟩, .val d] = .ok .none ⟨n.d, d, D ++ [x.t], []⟩ := fun a d => T_change_den _ _ _ d hD
  unfold d_T_go denO g_T_go
  simp only [gSeq, startE]
  simp [rd_get hx.r, e4, pieces_den h hx.r] at e1 ⊢
  simp [e1, e2, e3, xMeth, ch, retB, left]
  rfl
theorem T_go_end (cT : Addr) {n : Net} (h : n.Ok) {x : Sta} (hx : n.At x) (hp : x.p = (n.rd x.r).g.length) (id : Option Addr) {D U : List PyData} :
    d_T_go cT [.obj id cT ⟨n.d, x.t, D, U⟩] = .err "AtEnd" ⟨n.d, x.t, D, U⟩ := by
  have e4 : ((n.rd x.r).g.length : Int) ≤ (x.p : Int) := by omega
  unfold d_T_go denO g_T_go
  simp only [gSeq, startE]
  simp [rd_get hx.r, e4, retB, left]
theorem inD_nI (k : Nat) (xs : List Nat) : inD (.int (k : Nat)) (.list (nI xs)) = .ok (decide (k ∈ xs)) := by
  have := inD_ints (k : Nat) (xs.map fun i => ((i : Nat) : Int))
  rw [List.map_map] at this
  rw [show (nI xs) = xs.map (PyData.int ∘ fun i => ((i : Nat) : Int)) from rfl, this]
  congr 1
  rw [decide_eq_decide, List.mem_map]
  constructor
  · rintro ⟨a, ha, e⟩
    have : a = k := by omega
    exact this ▸ ha
  · exact fun h => ⟨k, h, rfl⟩
theorem T_turn_den (cT : Addr) {n : Net} (h : n.Ok) {x : Sta} (hx : n.At x) (hp : x.p = (n.rd x.r).g.length) {k : Nat} (hk : k ∈ n.aft x.r) (id : Option Addr) {D U : List PyData} (hD : D.length < lim) :
    d_T_turn cT [.obj id cT ⟨n.d, x.t, D, U⟩, .val (.int (k : Nat))] = .ok (.int (n.lim_ k 0 (n.ov x.s))) ⟨n.d, (n.trn x k).t, D ++ [x.t], []⟩ := by
  have hkl := aft_lt hk
  have h8 := h.r8
  have e1 := pcs_ix n (k := k) (p := 0) (n.ov x.s) (by omega)
  have e3 := tI_add (xs := x.v) (by have := hx.vl; omega) (n.lim_ k 0 (n.ov x.s))
  have e4 : ¬ (x.p : Int) < ((n.rd x.r).g.length : Int) := by omega
  have e5 : inD (.int (k : Nat)) (.list (nI (n.aft x.r))) = .ok true := by rw [inD_nI, decide_eq_true hk]
  have ch : ∀ (a : Addr) (d : PyData), d_T_change [.obj (some a) cT ⟨n.d, x.t, D, U⟩, .val d] = .ok .none ⟨n.d, d, D ++ [x.t], []⟩ := fun a d => T_change_den _ _ _ d hD
  have e6 := road_in hkl
  unfold d_T_turn denO g_T_turn
  simp only [gSeq, startE]
  simp [rd_get hx.r, e4, e6, pieces_den h hkl, find_followers_den hx.r (show n.roads.length ≤ 1000 by omega), e5, go_over_den, -isIntB_int] at e1 ⊢
  simp [e1, e3, xMeth, ch, retB, left]
  rfl
theorem T_turn_road (cT : Addr) {n : Net} {x : Sta} {v : PyData} (hv : isIntB v 0 (n.roads.length - 1) = false) (id : Option Addr) {D U : List PyData} :
    d_T_turn cT [.obj id cT ⟨n.d, x.t, D, U⟩, .val v] = .err "InvalidRoad" ⟨n.d, x.t, D, U⟩ := by
  unfold d_T_turn denO g_T_turn
  simp only [gSeq, startE]
  simp [hv, retB, left]
theorem T_turn_not (cT : Addr) {n : Net} (h : n.Ok) {x : Sta} (hx : n.At x) {k : Nat} (hkl : k < n.roads.length) (hno : x.p < (n.rd x.r).g.length ∨ k ∉ n.aft x.r) (id : Option Addr) {D U : List PyData} :
    d_T_turn cT [.obj id cT ⟨n.d, x.t, D, U⟩, .val (.int (k : Nat))] = .err "NotThere" ⟨n.d, x.t, D, U⟩ := by
  have h8 := h.r8
  have e6 := road_in hkl
  unfold d_T_turn denO g_T_turn
  simp only [gSeq, startE]
  by_cases hp : x.p < (n.rd x.r).g.length
  · have e4 : (x.p : Int) < ((n.rd x.r).g.length : Int) := by omega
    simp [rd_get hx.r, e4, e6, retB, left, -isIntB_int]
  · have e4 : ¬ (x.p : Int) < ((n.rd x.r).g.length : Int) := by omega
    have hk : k ∉ n.aft x.r := hno.elim (fun z => absurd z hp) fun z => z
    have e5 : inD (.int (k : Nat)) (.list (nI (n.aft x.r))) = .ok false := by rw [inD_nI, decide_eq_false hk]
    simp [rd_get hx.r, e4, e6, find_followers_den hx.r (show n.roads.length ≤ 1000 by omega), e5, retB, left, -isIntB_int]
theorem dOks_sta (D : List Sta) : dOks 2 (D.map Sta.t) = true := dOks_map fun x _ => dOk_tuple (by simp [dOks, tI]; exact dOk_tuple (dOks_map fun y _ => dOk_int 0 y))
theorem T_undo_den (id : Option Addr) (c : Addr) (n : PyData) (x y : Sta) (D U : List Sta) (hU : U.length < 1000) :
    d_T_undo [.obj id c ⟨n, x.t, (D ++ [y]).map Sta.t, U.map Sta.t⟩] = .ok .none ⟨n, y.t, D.map Sta.t, (U ++ [x]).map Sta.t⟩ := by
  have e := eqD_nil (dOks_sta (D ++ [y])) (by decide)
  have hl : (U.map Sta.t).length < lim := by rw [List.length_map]; exact Nat.lt_of_lt_of_le hU (by decide)
  have e' : eqD (.list ((D ++ [y]).map Sta.t)) (.list []) = .ok false := by rw [e]; simp
  unfold d_T_undo denO g_T_undo
  simp only [gSeq, startE]
  simp at e' hl
  simp [e', hl, retB, left]
theorem T_undo_end (id : Option Addr) (c : Addr) (n p : PyData) (U : List PyData) : d_T_undo [.obj id c ⟨n, p, [], U⟩] = .err "NothingToUndo" ⟨n, p, [], U⟩ := by
  have e := eqD_nil (n := 0) (xs := []) rfl (by decide)
  have e' : eqD (.list []) (.list []) = .ok true := e
  unfold d_T_undo denO g_T_undo
  simp only [gSeq, startE]
  simp [e', retB, left]
theorem T_redo_den (id : Option Addr) (c : Addr) (n : PyData) (x y : Sta) (D U : List Sta) (hD : D.length < 1000) :
    d_T_redo [.obj id c ⟨n, x.t, D.map Sta.t, (U ++ [y]).map Sta.t⟩] = .ok .none ⟨n, y.t, (D ++ [x]).map Sta.t, U.map Sta.t⟩ := by
  have e := eqD_nil (dOks_sta (U ++ [y])) (by decide)
  have hl : (D.map Sta.t).length < lim := by rw [List.length_map]; exact Nat.lt_of_lt_of_le hD (by decide)
  have e' : eqD (.list ((U ++ [y]).map Sta.t)) (.list []) = .ok false := by rw [e]; simp
  unfold d_T_redo denO g_T_redo
  simp only [gSeq, startE]
  simp at e' hl
  simp [e', hl, retB, left]
theorem T_redo_end (id : Option Addr) (c : Addr) (n p : PyData) (D : List PyData) : d_T_redo [.obj id c ⟨n, p, D, []⟩] = .err "NothingToUndo" ⟨n, p, D, []⟩ := by
  have e := eqD_nil (n := 0) (xs := []) rfl (by decide)
  have e' : eqD (.list []) (.list []) = .ok true := e
  unfold d_T_redo denO g_T_redo
  simp only [gSeq, startE]
  simp [e', retB, left]
end LW
namespace LW
open PySem PySem.Spec PyProof.Rows L2 DN
/-! ### what a call tells -/
def rz (i : Int) : PyData := .tuple [.str "raised", .int i]
theorem dOk_rz (i : Int) : dOk 1 (rz i) = true := by
  unfold rz
  refine dOk_tuple ?_
  have h : PyData.strOk ("raised" : Str) = true := by decide +kernel
  simp [dOks, dOk, h]
/-- the place of a class -/
def cix (c : Str) : Option Int := if c = ("InvalidNet" : Str) then some 0 else if c = ("InvalidRoad" : Str) then some 1 else if c = ("AtEnd" : Str) then some 2 else if c = ("NotThere" : Str) then some 3 else if c = ("NothingToUndo" : Str) then some 4 else none
theorem cix_known {c : Str} {i : Int} (h : cix c = some i) : c ∈ knownX := by
  unfold cix at h
  split at h
  · rename_i e; subst e; decide
  split at h
  · rename_i e; subst e; decide
  split at h
  · rename_i e; subst e; decide
  split at h
  · rename_i e; subst e; decide
  split at h
  · rename_i e; subst e; decide
  · cases h
def flg (c : Str) : List PyData := [.bool (decide (c = ("InvalidNet" : Str))), .bool (decide (c = ("InvalidRoad" : Str))), .bool (decide (c = ("AtEnd" : Str)))]
theorem idx_of {c : Str} {i : Int} (h : cix c = some i) : idxT (.list (flg c ++ [.bool (decide (c = ("NotThere" : Str))), .bool (decide (c = ("NothingToUndo" : Str)))])) = .ok (.val (.int i)) := by
  unfold cix at h
  split at h
  · rename_i e; subst e; cases h; rfl
  split at h
  · rename_i e; subst e; cases h; rfl
  split at h
  · rename_i e; subst e; cases h; rfl
  split at h
  · rename_i e; subst e; cases h; rfl
  split at h
  · rename_i e; subst e; cases h; rfl
  · cases h
theorem told_h (cT : Addr) {c : Str} {i : Int} (h : cix c = some i) (w o x y : Option R) (a : Addr) : l_told_h1 cT c a [w, o, x, y, some (.raw (.ref a)), none] = .retk (.val (rz i)) [w, o, x, y, some (.raw (.ref a)), some (.val (.list (flg c)))] := by
  have e := idx_of h
  unfold l_told_h1
  simp only [gSeq]
  have e0 : gAsgF 5 (fLst (fCons (fIsE a 4 (decide (c = ("InvalidNet" : Str)))) (fCons (fIsE a 4 (decide (c = ("InvalidRoad" : Str)))) (fCons (fIsE a 4 (decide (c = ("AtEnd" : Str)))) fNil)))) [w, o, x, y, some (.raw (.ref a)), none] = .nx [w, o, x, y, some (.raw (.ref a)), some (.val (.list (flg c)))] := by
    simp [flg]
  rw [e0, seq_nx]
  have hl : (flg c).length = 3 := rfl
  generalize hn1 : decide (c = ("NotThere" : Str)) = b1 at *
  generalize hn2 : decide (c = ("NothingToUndo" : Str)) = b2 at *
  generalize flg c = fl at *
  have ea : opAdd (.list fl) (.list [.bool b1, .bool b2]) = .ok (.own (fl ++ [.bool b1, .bool b2])) := by rw [opAdd_lst (by rw [hl]; show 3 + 2 ≤ 1000; decide)]
  simp [ea, e, rz, -opAdd_ll]
section
variable (cT : Addr) {one two : PyData} {id : Option Addr} {o o' : Ob} {d : PyData} {c : Str} {i w : Int}
theorem told_ok {ρ' : Ev} (h : l_told_b1 cT [some (.val (.int w)), some (.obj id cT o), some (.val one), some (.val two), none, none] = .retk (.val d) [some (.val (.int w)), some (.obj id cT o'), some (.val one), some (.val two), none, none]) :
    d_l_told cT [.val (.int w), .obj id cT o, .val one, .val two] = .ok d o' := by
  unfold d_l_told denO g_l_told
  have e : startE 6 [.val (.int w), .obj id cT o, .val one, .val two] = [some (.val (.int w)), some (.obj id cT o), some (.val one), some (.val two), none, none] := rfl
  rw [e, gTry_retk h]
  simp [retB, left]
theorem told_exc (hc : cix c = some i) (h : l_told_b1 cT [some (.val (.int w)), some (.obj id cT o), some (.val one), some (.val two), none, none] = .exc c [some (.val (.int w)), some (.obj id cT o'), some (.val one), some (.val two), none, none]) :
    d_l_told cT [.val (.int w), .obj id cT o, .val one, .val two] = .ok (rz i) o' := by
  unfold d_l_told denO g_l_told
  have e : startE 6 [.val (.int w), .obj id cT o, .val one, .val two] = [some (.val (.int w)), some (.obj id cT o), some (.val one), some (.val two), none, none] := rfl
  rw [e, gTry_exck (ρ2 := [some (.val (.int w)), some (.obj id cT o'), some (.val one), some (.val two), none, some (.val (.list (flg c)))]) h (cix_known hc) (fun a => told_h cT hc _ _ _ _ a)]
  simp [retB, left]
theorem told_go (h : ∀ a, d_T_go cT [.obj (some a) cT o] = .ok d o') : d_l_told cT [.val (.int 0), .obj id cT o, .val one, .val two] = .ok d o' := by
  refine told_ok (ρ' := []) cT ?_
  unfold l_told_b1
  simp [xIf, xMeth, h]
theorem told_goE (hc : cix c = some i) (h : ∀ a, d_T_go cT [.obj (some a) cT o] = .err c o') : d_l_told cT [.val (.int 0), .obj id cT o, .val one, .val two] = .ok (rz i) o' := by
  refine told_exc cT hc ?_
  unfold l_told_b1
  simp [xIf, xMeth, h]
theorem told_turn (h : ∀ a, d_T_turn cT [.obj (some a) cT o, .val one] = .ok d o') : d_l_told cT [.val (.int 1), .obj id cT o, .val one, .val two] = .ok d o' := by
  refine told_ok (ρ' := []) cT ?_
  unfold l_told_b1
  simp [xIf, xMeth, h]
theorem told_turnE (hc : cix c = some i) (h : ∀ a, d_T_turn cT [.obj (some a) cT o, .val one] = .err c o') : d_l_told cT [.val (.int 1), .obj id cT o, .val one, .val two] = .ok (rz i) o' := by
  refine told_exc cT hc ?_
  unfold l_told_b1
  simp [xIf, xMeth, h]
theorem told_undo (h : ∀ a, d_T_undo [.obj (some a) cT o] = .ok d o') : d_l_told cT [.val (.int 2), .obj id cT o, .val one, .val two] = .ok d o' := by
  refine told_ok (ρ' := []) cT ?_
  unfold l_told_b1
  simp [xIf, xMeth, h]
theorem told_undoE (hc : cix c = some i) (h : ∀ a, d_T_undo [.obj (some a) cT o] = .err c o') : d_l_told cT [.val (.int 2), .obj id cT o, .val one, .val two] = .ok (rz i) o' := by
  refine told_exc cT hc ?_
  unfold l_told_b1
  simp [xIf, xMeth, h]
theorem told_redo (h : ∀ a, d_T_redo [.obj (some a) cT o] = .ok d o') : d_l_told cT [.val (.int 3), .obj id cT o, .val one, .val two] = .ok d o' := by
  refine told_ok (ρ' := []) cT ?_
  unfold l_told_b1
  simp [xIf, xMeth, h]
theorem told_redoE (hc : cix c = some i) (h : ∀ a, d_T_redo [.obj (some a) cT o] = .err c o') : d_l_told cT [.val (.int 3), .obj id cT o, .val one, .val two] = .ok (rz i) o' := by
  refine told_exc cT hc ?_
  unfold l_told_b1
  simp [xIf, xMeth, h]
theorem told_makeE (hc : cix c = some i) (h : d_T_init [.val one, .val two] = .err c) : d_l_told cT [.val (.int 4), .obj id cT o, .val one, .val two] = .ok (rz i) o := by
  refine told_exc cT hc ?_
  unfold l_told_b1
  simp [h]
end
/-! ### what it must tell -/
def Sta.l (x : Sta) : PyData := .tuple [.int (x.r : Nat), .int (x.p : Nat), .int x.s, .list (x.v.map .int)]
@[simp] theorem Sta.tupll (x : Sta) (ts : List PyData → Ev → Rs Ev) (ρ : Ev) : tTupl ts x.l ρ = ts [.int (x.r : Nat), .int (x.p : Nat), .int x.s, .list (x.v.map .int)] ρ := rfl
theorem lI_add {xs : List Int} (h : xs.length ≤ 900) (l : Int) : opAdd (.list (xs.map .int)) (.list [.int l]) = .ok (.own ((xs ++ [l]).map .int)) := by
  rw [opAdd_lst (by simp; omega)]
  simp
theorem due_go {n : Net} (h : n.Ok) {x : Sta} (hx : n.At x) (hp : x.p < (n.rd x.r).g.length) (one : PyData) : d_l_due [.val n.d, .val x.l, .val (.int 0), .val one] = .ok (.val (.tuple [.int (n.lim_ x.r (x.p + 1) x.s), (n.gon x).l])) := by
  have e1 := pcs_ix n (k := x.r) (p := x.p + 1) x.s (by omega)
  have e2 := g_ix n hp
  have e3 := lI_add (xs := x.v) (by have := hx.vl; omega) (n.lim_ x.r (x.p + 1) x.s)
  have e4 : ¬ (x.p : Int) = ((n.rd x.r).g.length : Int) := by omega
  have e5 := l_pieces_den h hx.r x.s
  have e1 : opIx (.list ((n.pcs x.r x.s).map .int)) (.int ((x.p : Int) + 1)) = .ok (.val (.int (n.lim_ x.r (x.p + 1) x.s))) := e1
  unfold d_l_due denB g_l_due
  simp only [gSeq, startE]
  simp [rd_get hx.r, e4, e5, e1, e2, e3, -opAdd_ll, -opIx_l, -List.map_append]
  rfl
theorem due_end {n : Net} (h : n.Ok) {x : Sta} (hx : n.At x) (hp : x.p = (n.rd x.r).g.length) (one : PyData) : d_l_due [.val n.d, .val x.l, .val (.int 0), .val one] = .ok (.val (.tuple [rz 2, .none])) := by
  have e4 : (x.p : Int) = ((n.rd x.r).g.length : Int) := by omega
  unfold d_l_due denB g_l_due
  simp only [gSeq, startE]
  simp [rd_get hx.r, e4, rz]
theorem due_road {n : Net} {x : Sta} (hx : n.At x) {q : Nat} (hq : n.roads.length ≤ q) : d_l_due [.val n.d, .val x.l, .val (.int 1), .val (.int (q : Nat))] = .ok (.val (.tuple [rz 1, .none])) := by
  have e4 : (n.roads.length : Int) ≤ (q : Int) := by omega
  unfold d_l_due denB g_l_due
  simp only [gSeq, startE]
  simp [rd_get hx.r, e4, rz]
theorem due_not {n : Net} (h : n.Ok) {x : Sta} (hx : n.At x) {q : Nat} (hq : q < n.roads.length) (hno : x.p < (n.rd x.r).g.length ∨ q ∉ n.aft x.r) : d_l_due [.val n.d, .val x.l, .val (.int 1), .val (.int (q : Nat))] = .ok (.val (.tuple [rz 3, .none])) := by
  have h8 := h.r8
  have e4 : ¬ (n.roads.length : Int) ≤ (q : Int) := by omega
  unfold d_l_due denB g_l_due
  simp only [gSeq, startE]
  by_cases hp : x.p < (n.rd x.r).g.length
  · have e5 : (x.p : Int) < ((n.rd x.r).g.length : Int) := by omega
    simp [rd_get hx.r, e4, e5, rz]
  · have e5 : ¬ (x.p : Int) < ((n.rd x.r).g.length : Int) := by omega
    have hk : q ∉ n.aft x.r := hno.elim (fun z => absurd z hp) fun z => z
    have e6 : inD (.int (q : Nat)) (.list (nI (n.aft x.r))) = .ok false := by rw [inD_nI, decide_eq_false hk]
    simp [rd_get hx.r, e4, e5, l_next_den hx.r (show n.roads.length ≤ 1000 by omega), e6, rz]
theorem due_turn {n : Net} (h : n.Ok) {x : Sta} (hx : n.At x) (hp : x.p = (n.rd x.r).g.length) {q : Nat} (hq : q ∈ n.aft x.r) : d_l_due [.val n.d, .val x.l, .val (.int 1), .val (.int (q : Nat))] = .ok (.val (.tuple [.int (n.lim_ q 0 (n.ov x.s)), (n.trn x q).l])) := by
  have h8 := h.r8
  have hql := aft_lt hq
  have e4 : ¬ (n.roads.length : Int) ≤ (q : Int) := by omega
  have e5 : ¬ (x.p : Int) < ((n.rd x.r).g.length : Int) := by omega
  have e6 : inD (.int (q : Nat)) (.list (nI (n.aft x.r))) = .ok true := by rw [inD_nI, decide_eq_true hq]
  have e1 := pcs_ix n (k := q) (p := 0) (n.ov x.s) (by omega)
  have e1 : opIx (.list ((n.pcs q (n.ov x.s)).map .int)) (.int 0) = .ok (.val (.int (n.lim_ q 0 (n.ov x.s)))) := e1
  have e3 := lI_add (xs := x.v) (by have := hx.vl; omega) (n.lim_ q 0 (n.ov x.s))
  have e7 := l_pieces_den h hql (n.ov x.s)
  have kp : opIx n.d (.int 2) = .ok (.val (.int n.keeps)) := rfl
  have hm : opMulI (.int x.s) (.int n.keeps) = .ok (.val (.int (n.ov x.s))) := by
    have c : CMul x.s n.keeps := .inr (by rcases h.k with z | z <;> rw [z] <;> decide)
    have e : x.s * n.keeps = n.ov x.s := by
      unfold Net.ov
      rcases h.k with z | z <;> simp [z]
    simp [c, e]
  unfold d_l_due denB g_l_due
  simp only [gSeq, startE]
  simp [rd_get hx.r, e4, e5, l_next_den hx.r (show n.roads.length ≤ 1000 by omega), e6, kp, hm, e7, e1, e3, -opAdd_ll, -opIx_l, -oIc_ii, -List.map_append]
  rfl
end LW
namespace LW
open PySem PySem.Spec PyProof.Rows L2 DN
def Sta.o (n : Net) (x : Sta) (D U : List Sta) : Ob := ⟨n.d, x.t, D.map Sta.t, U.map Sta.t⟩
/-- the slots of the law in its loop -/
def en (ns : List Int) (n : Net) (q : Nat) (cT : Addr) (x : Sta) (D U : List Sta) (o7 o8 o9 o10 o11 o12 o13 o14 o15 : Option R) : Ev :=
  [some (.scr ns), some (.val n.d), some (.val (.int (q : Nat))), some (.obj none cT (Sta.o n x D U)), some (.val x.l), some (.own (D.map Sta.l)), some (.own (U.map Sta.l)), o7, o8, o9, o10, o11, o12, o13, o14, o15, none, none]
structure Good (n : Net) (x : Sta) (D U : List Sta) (k : Nat) : Prop where
  at_ : ∀ y, (y = x ∨ y ∈ D ∨ y ∈ U) → y.r < n.roads.length ∧ y.p ≤ (n.rd y.r).g.length ∧ y.v ≠ [] ∧ y.v.length ≤ k + 1
  few : D.length + U.length ≤ k
theorem Good.a {n : Net} {x y : Sta} {D U : List Sta} {k : Nat} (g : Good n x D U k) (hk : k ≤ 400) (h : y = x ∨ y ∈ D ∨ y ∈ U) : n.At y := by
  obtain ⟨a, b, c, d⟩ := g.at_ y h
  exact ⟨a, b, c, by omega⟩
theorem Good.more {n : Net} {x : Sta} {D U : List Sta} {k : Nat} (g : Good n x D U k) : Good n x D U (k + 1) :=
  ⟨fun y h => by obtain ⟨a, b, c, d⟩ := g.at_ y h; exact ⟨a, b, c, by omega⟩, by have := g.few; omega⟩
theorem Good.on {n : Net} {x y : Sta} {D U : List Sta} {k : Nat} (g : Good n x D U k) (h1 : y.r < n.roads.length) (h2 : y.p ≤ (n.rd y.r).g.length) (h3 : y.v ≠ []) (h4 : y.v.length ≤ k + 2) : Good n y (D ++ [x]) [] (k + 1) :=
  ⟨fun z hz => by
    rcases hz with rfl | hz | hz
    · exact ⟨h1, h2, h3, by omega⟩
    · rcases List.mem_append.mp hz with hz | hz
      · obtain ⟨a, b, c, d⟩ := g.at_ z (.inr (.inl hz)); exact ⟨a, b, c, by omega⟩
      · obtain ⟨a, b, c, d⟩ := g.at_ z (.inl (by simpa using hz)); exact ⟨a, b, c, by omega⟩
    · exact absurd hz (by simp), by have := g.few; simp; omega⟩
theorem Good.back {n : Net} {x y : Sta} {D U : List Sta} {k : Nat} (g : Good n x (D ++ [y]) U k) : Good n y D (U ++ [x]) (k + 1) :=
  ⟨fun z hz => by
    have : z = x ∨ z ∈ D ++ [y] ∨ z ∈ U := by
      rcases hz with rfl | hz | hz
      · exact .inr (.inl (by simp))
      · exact .inr (.inl (by simp [hz]))
      · rcases List.mem_append.mp hz with hz | hz
        · exact .inr (.inr hz)
        · exact .inl (by simpa using hz)
    obtain ⟨a, b, c, d⟩ := g.at_ z this; exact ⟨a, b, c, by omega⟩, by have := g.few; simp at this ⊢; omega⟩
theorem Good.fwd {n : Net} {x y : Sta} {D U : List Sta} {k : Nat} (g : Good n x D (U ++ [y]) k) : Good n y (D ++ [x]) U (k + 1) :=
  ⟨fun z hz => by
    have : z = x ∨ z ∈ D ∨ z ∈ U ++ [y] := by
      rcases hz with rfl | hz | hz
      · exact .inr (.inr (by simp))
      · rcases List.mem_append.mp hz with hz | hz
        · exact .inr (.inl hz)
        · exact .inl (by simpa using hz)
      · exact .inr (.inr (by simp [hz]))
    obtain ⟨a, b, c, d⟩ := g.at_ z this; exact ⟨a, b, c, by omega⟩, by have := g.few; simp at this ⊢; omega⟩
theorem dOk_l (x : Sta) : dOk 2 x.l = true := dOk_tuple (by
  have : dOk 1 (.list (x.v.map .int)) = true := dOk_list (dOks_map fun y _ => dOk_int 0 y)
  simp [dOks, this])
theorem l_nil (D : List Sta) : eqD (.list (D.map Sta.l)) (.list []) = .ok D.isEmpty := by
  rw [eqD_nil (dOks_map fun x _ => dOk_l x) (by decide)]
  cases D <;> rfl
/-! ### the checks at the end of a turn -/
def chk1 (cT : Addr) : Ev → RO := (gIf (fOr (fTest (fOp opNe (fVM (fView 3) cT d_T_place) (fSl (fVar 4) fNo (fPart (fC (.int 2)))))) (fTest (fOp opNe (fVM (fView 3) cT d_T_seen) (fOp opIx (fVar 4) (fC (.int 3)))))) (gRet (fC (.bool false))) gNext)
def chk2 (cT : Addr) : Ev → RO := (gIf (fOr (fTest (fOp opNe (fVM (fView 3) cT d_T_limit) (fOp opIx (fOp opIx (fVar 4) (fC (.int 3))) (fUn opNeg (fC (.int 1)))))) (fTest (fOp opNe (fVLen (fView 3) cT d_T_len) (fBi biLen (fCons (fOp opIx (fVar 4) (fC (.int 3))) fNil))))) (gRet (fC (.bool false))) gNext)
section
variable (ns : List Int) (n : Net) (q : Nat) (cT : Addr) (x : Sta) (D U : List Sta) (o7 o8 o9 o10 o11 o12 o13 o14 o15 : Option R)
theorem l_sl (x : Sta) : opSl x.l none (some 2) = .ok (.val (.tuple [.int (x.r : Nat), .int (x.p : Nat)])) := by
  unfold Sta.l
  rw [opSl_t]
  exact congrArg (fun z => Rs.ok (R.val (PyData.tuple z))) (cut_to _ 2)
theorem l_ix3 (x : Sta) : opIx x.l (.int 3) = .ok (.val (.list (x.v.map .int))) := rfl
theorem eq_pl (x : Sta) : eqD (.tuple [.int (x.r : Nat), .int (x.p : Nat)]) (.tuple [.int (x.r : Nat), .int (x.p : Nat)]) = .ok true := eqD_same (n := 1) (dOk_tuple (by simp [dOks])) (by decide)
theorem eq_vs (x : Sta) : eqD (.list (x.v.map .int)) (.list (x.v.map .int)) = .ok true := eqD_same (n := 1) (dOk_list (dOks_map fun y _ => dOk_int 0 y)) (by decide)
theorem chk1_den : chk1 cT (en ns n q cT x D U o7 o8 o9 o10 o11 o12 o13 o14 o15) = .nx (en ns n q cT x D U o7 o8 o9 o10 o11 o12 o13 o14 o15) := by
  have e1 := T_place_den cT n.d x
  have e2 := T_seen_den cT n.d x
  have e3 := l_sl x
  have e4 := l_ix3 x
  have e5 := eq_pl x
  have e6 := eq_vs x
  unfold chk1 en
  generalize x.v.map PyData.int = xv at *
  simp [Sta.o, e1, e2, e3, e4, e5, e6, plainR]
theorem chk2_den (hv : x.v ≠ []) (hl : x.v.length ≤ 500) : chk2 cT (en ns n q cT x D U o7 o8 o9 o10 o11 o12 o13 o14 o15) = .nx (en ns n q cT x D U o7 o8 o9 o10 o11 o12 o13 o14 o15) := by
  have e1 := T_limit_den cT n.d x hv
  have e2 := T_len_den cT n.d x
  have e4 := l_ix3 x
  have e5 : opIx (.list (x.v.map .int)) (.int (-1)) = .ok (.val (.int (x.v.getLastD 0))) := by
    obtain ⟨z, hz⟩ : ∃ z, x.v.getLast? = some z := ⟨_, List.getLast?_eq_some_getLast hv⟩
    rw [opIx_l, atI_m1, List.getLastD_eq_getLast?, hz, List.getLast?_map, hz]
    rfl
  have e6 : biLen [.list (x.v.map .int)] = .ok (.val (.int x.v.length)) := by rw [biLen_l, List.length_map]
  have e7 : 0 ≤ (x.v.length : Int) ∧ (x.v.length : Int) ≤ 1000000 := ⟨by omega, by omega⟩
  generalize (x.v.length : Int) = xn at *
  unfold chk2 en
  generalize x.v.map PyData.int = xv at *
  generalize x.v.getLastD 0 = xl at *
  simp only [gIf, fOr, fTest, fOp, fVM, fView, fVar, fUn, fC, fBi, fCons, fNil, fVLen]
  simp [Sta.o, e1, e2, e4, e5, e6, e7, plainR, -opIx_l]
end
end LW
namespace LW
open PySem PySem.Spec PyProof.Rows L2 DN
noncomputable def brA (cT : Addr) : Ev → RO := (gSeq (gAsgF 10 (fOp opAdd (fCall d_l_next (aCons (fVar 1) (aCons (fOp opIx (fVar 4) (fC (.int 0))) aNil))) (fLst (fCons (fCall d_l_drawn (aCons (fVar 0) (aCons (fOp opAdd (fVar 8) (fC (.int 1))) (aCons (fC (.int 6)) aNil)))) fNil))))
  (gSeq (gAsgF 11 (fOp opIx (fVar 10) (fCall d_l_drawn (aCons (fVar 0) (aCons (fOp opAdd (fVar 8) (fC (.int 2))) (aCons (fBi biLen (fCons (fVar 10) fNil)) aNil))))))
  (gSeq (gAsgT (tTupl (tsCons (tName 12) (tsCons (tName 13) tsNil))) (fCall d_l_due (aCons (fVar 1) (aCons (fVar 4) (aCons (fVar 9) (aCons (fVar 11) aNil))))))
  (gSeq (gIfX (tNeX (xCall 3 (d_l_told cT) (qCons (fVar 9) (qObj 3 (qCons (fVar 11) (qCons (fC (.int 0)) qNil))))) (fVar 12)) (gRet (fC (.bool false))) gNext)
  (gIf (fTest (fOp opIsNot (fVar 13) (fC .none))) (gSeq (gApp 5 (fVar 4))
  (gPar 4 6 false true (fVar 13) (fLst fNil))) gNext)))))
noncomputable def brB (cT : Addr) : Ev → RO := (gAlias 5 6 14 15 4 (fTest (fOp opEq (fVar 9) (fC (.int 2)))) (xCall 3 (d_l_told cT) (qCons (fVar 9) (qObj 3 (qCons (fC (.int 0)) (qCons (fC (.int 0)) qNil))))) (fTup (fCons (fC (.str "raised")) (fCons (fC (.int 4)) fNil))) (fC .none))
theorem law_b1_eq (cT : Addr) : law_b1 cT = gSeq (gAsgF 8 (fOp opAdd (fC (.int 60)) (fOp opMulI (fC (.int 3)) (fVar 7)))) (gSeq (gAsgF 9 (fOp opIx (fLst (fCons (fC (.int 0)) (fCons (fC (.int 0)) (fCons (fC (.int 1)) (fCons (fC (.int 1)) (fCons (fC (.int 1)) (fCons (fC (.int 2)) (fCons (fC (.int 3)) fNil)))))))) (fCall d_l_drawn (aCons (fVar 0) (aCons (fVar 8) (aCons (fC (.int 7)) aNil))))))
  (gSeq (gIf (fTest (fOp opLt (fVar 9) (fC (.int 2)))) (brA cT) (brB cT)) (gSeq (chk1 cT) (chk2 cT)))) := rfl
section
variable (ns : List Int) (n : Net) (q : Nat) (cT : Addr) (x : Sta) (D U : List Sta) (o7 o8 o9 o10 o11 o12 o13 o14 o15 : Option R)
/-- what near is, which road is asked for -/
theorem near_den (hl : ns.length ≤ 63) (h : n.Ok) (hr : x.r < n.roads.length) {at_ : Int} (h0 : 0 ≤ at_) (h1 : at_ < 80000) (w : Int) :
    ∃ (m : Nat) (nr : PyData), ∀ g : Ev → RO, ((gAsgF 10 (fOp opAdd (fCall d_l_next (aCons (fVar 1) (aCons (fOp opIx (fVar 4) (fC (.int 0))) aNil))) (fLst (fCons (fCall d_l_drawn (aCons (fVar 0) (aCons (fOp opAdd (fVar 8) (fC (.int 1))) (aCons (fC (.int 6)) aNil)))) fNil))) (en ns n q cT x D U o7 (some (.val (.int at_))) (some (.val (.int w))) o10 o11 o12 o13 o14 o15)).seq
      (gSeq (gAsgF 11 (fOp opIx (fVar 10) (fCall d_l_drawn (aCons (fVar 0) (aCons (fOp opAdd (fVar 8) (fC (.int 2))) (aCons (fBi biLen (fCons (fVar 10) fNil)) aNil)))))) g)) = g (en ns n q cT x D U o7 (some (.val (.int at_))) (some (.val (.int w))) (some (.val nr)) (some (.val (.int (m : Nat)))) o12 o13 o14 o15) := by
  have h8 := h.r8
  obtain ⟨j, hj, ej⟩ := draw_nat ns hl (k := at_ + 1) (many := 6) (by omega) (by omega) (by decide)
  obtain ⟨i, hi, ei⟩ := draw_nat ns hl (k := at_ + 2) (many := (n.aft x.r ++ [j]).length) (by omega) (by omega) (by simp)
  have ej : d_l_drawn [.scr ns, .val (.int (at_ + 1)), .val (.int 6)] = .ok (.val (.int (j : Nat))) := ej
  have hal := aft_len n x.r
  have e1 := l_next_den hr (show n.roads.length ≤ 1000 by omega)
  have e2 : opAdd (.list (nI (n.aft x.r))) (.list [.int (j : Nat)]) = .ok (.own (nI (n.aft x.r ++ [j]))) := by
    rw [opAdd_lst (by simp [nI]; omega)]
    simp [nI]
  have e3 : opIx (.list (nI (n.aft x.r ++ [j]))) (.int (i : Nat)) = .ok (.val (.int (((n.aft x.r ++ [j]).getD i 0 : Nat) : Int))) := by
    rw [opIx_l, atI_nat']
    unfold nI
    rw [List.getElem?_map, List.getD_eq_getElem?_getD, List.getElem?_eq_getElem hi]
    rfl
  have e4 : opIx x.l (.int 0) = .ok (.val (.int (x.r : Nat))) := rfl
  have e5 : biLen [.list (nI (n.aft x.r ++ [j]))] = .ok (.val (.int ((n.aft x.r ++ [j]).length : Nat))) := by rw [biLen_l]; simp [nI]
  refine ⟨(n.aft x.r ++ [j]).getD i 0, .list (nI (n.aft x.r ++ [j])), fun g => ?_⟩
  unfold en
  generalize (n.aft x.r ++ [j]).getD i 0 = m at *
  generalize nI (n.aft x.r ++ [j]) = NR' at *
  generalize ((n.aft x.r ++ [j]).length : Nat) = NL at *
  generalize nI (n.aft x.r) = NA at *
  simp [e1, ej, e2, ei, e3, e4, e5, -opIx_l, -opAdd_ll, -biLen_l]
theorem rest_none {w : Int} {m : Nat} {d1 : PyData} {a b : Option R} (hdue : d_l_due [.val n.d, .val x.l, .val (.int w), .val (.int (m : Nat))] = .ok (.val (.tuple [d1, .none])))
    (htold : ∀ a, d_l_told cT [.val (.int w), .obj (some a) cT (Sta.o n x D U), .val (.int (m : Nat)), .val (.int 0)] = .ok d1 (Sta.o n x D U)) (heq : eqD d1 d1 = .ok true) :
    (gSeq (gAsgT (tTupl (tsCons (tName 12) (tsCons (tName 13) tsNil))) (fCall d_l_due (aCons (fVar 1) (aCons (fVar 4) (aCons (fVar 9) (aCons (fVar 11) aNil))))))
  (gSeq (gIfX (tNeX (xCall 3 (d_l_told cT) (qCons (fVar 9) (qObj 3 (qCons (fVar 11) (qCons (fC (.int 0)) qNil))))) (fVar 12)) (gRet (fC (.bool false))) gNext)
  (gIf (fTest (fOp opIsNot (fVar 13) (fC .none))) (gSeq (gApp 5 (fVar 4))
  (gPar 4 6 false true (fVar 13) (fLst fNil))) gNext))) (en ns n q cT x D U o7 a (some (.val (.int w))) b (some (.val (.int (m : Nat)))) o12 o13 o14 o15) =
    .nx (en ns n q cT x D U o7 a (some (.val (.int w))) b (some (.val (.int (m : Nat)))) (some (.val d1)) (some (.val .none)) o14 o15) := by
  unfold en
  simp only [gSeq]
  simp [hdue, xCall, htold, heq]
theorem rest_some {w : Int} {m : Nat} {d1 : PyData} {y : Sta} {a b : Option R} (hdue : d_l_due [.val n.d, .val x.l, .val (.int w), .val (.int (m : Nat))] = .ok (.val (.tuple [d1, y.l])))
    (htold : ∀ a, d_l_told cT [.val (.int w), .obj (some a) cT (Sta.o n x D U), .val (.int (m : Nat)), .val (.int 0)] = .ok d1 (Sta.o n y (D ++ [x]) [])) (heq : eqD d1 d1 = .ok true) (hD : D.length < 1000) :
    (gSeq (gAsgT (tTupl (tsCons (tName 12) (tsCons (tName 13) tsNil))) (fCall d_l_due (aCons (fVar 1) (aCons (fVar 4) (aCons (fVar 9) (aCons (fVar 11) aNil))))))
  (gSeq (gIfX (tNeX (xCall 3 (d_l_told cT) (qCons (fVar 9) (qObj 3 (qCons (fVar 11) (qCons (fC (.int 0)) qNil))))) (fVar 12)) (gRet (fC (.bool false))) gNext)
  (gIf (fTest (fOp opIsNot (fVar 13) (fC .none))) (gSeq (gApp 5 (fVar 4))
  (gPar 4 6 false true (fVar 13) (fLst fNil))) gNext))) (en ns n q cT x D U o7 a (some (.val (.int w))) b (some (.val (.int (m : Nat)))) o12 o13 o14 o15) =
    .nx (en ns n q cT y (D ++ [x]) [] o7 a (some (.val (.int w))) b (some (.val (.int (m : Nat)))) (some (.val d1)) (some (.val y.l)) o14 o15) := by
  have hl : (D.map Sta.l).length < lim := by rw [List.length_map]; exact Nat.lt_of_lt_of_le hD (by decide)
  have e1 : opIsNot y.l .none = .ok (.val (.bool true)) := rfl
  have e2 : (D ++ [x]).map Sta.l = D.map Sta.l ++ [x.l] := by simp
  unfold en
  rw [e2]
  simp only [gSeq]
  generalize D.map Sta.l = DL at *
  simp [hdue, xCall, htold, heq, e1, hl]
/-- the first branch -/
theorem brA_den (hl : ns.length ≤ 63) (h : n.Ok) {k : Nat} (g : Good n x D U k) (hk : k ≤ 400) {at_ : Int} (h0 : 0 ≤ at_) (h1 : at_ < 80000) {w : Int} (hw : w = 0 ∨ w = 1) :
    Nx (brA cT (en ns n q cT x D U o7 (some (.val (.int at_))) (some (.val (.int w))) o10 o11 o12 o13 o14 o15)) fun ρ => ∃ x D U o7 o8 o9 o10 o11 o12 o13 o14 o15, Good n x D U (k + 1) ∧ ρ = en ns n q cT x D U o7 o8 o9 o10 o11 o12 o13 o14 o15 := by
  have ax := g.a hk (y := x) (.inl rfl)
  have hDl : D.length < 1000 := by have := g.few; omega
  have hDm : (D.map Sta.t).length < lim := by rw [List.length_map]; exact Nat.lt_of_lt_of_le hDl (by decide)
  obtain ⟨m, nr, e⟩ := near_den ns n q cT x D U o7 o10 o11 o12 o13 o14 o15 hl h ax.r h0 h1 w
  unfold brA
  rw [gSeq, e]
  have i1 : ∀ i : Int, eqD (.int i) (.int i) = .ok true := fun i => by simp
  have i2 : ∀ i : Int, eqD (rz i) (rz i) = .ok true := fun i => eqD_same (dOk_rz i) (by decide)
  rcases hw with rfl | rfl
  · by_cases hp : x.p < (n.rd x.r).g.length
    · rw [rest_some (y := n.gon x) ns n q cT x D U o7 o12 o13 o14 o15 (due_go h ax hp _) (fun a => told_go cT fun b => by
        have := T_go_den cT h ax hp (some b) (D := D.map Sta.t) (U := U.map Sta.t) hDm
        rw [show Sta.o n x D U = ⟨n.d, x.t, D.map Sta.t, U.map Sta.t⟩ from rfl, this]
        simp [Sta.o]) (i1 _) hDl]
      rw [Nx_nx]
      refine ⟨_, _, _, _, _, _, _, _, _, _, _, _, g.on (y := n.gon x) ax.r (by show x.p + 1 ≤ (n.rd x.r).g.length; omega) (by simp [Net.gon]) ?_, rfl⟩
      have := (g.at_ x (.inl rfl)).2.2.2
      simp [Net.gon]; omega
    · have hp : x.p = (n.rd x.r).g.length := by have := ax.p; omega
      rw [rest_none ns n q cT x D U o7 o12 o13 o14 o15 (due_end h ax hp _) (fun a => told_goE cT (c := "AtEnd") rfl fun b => T_go_end cT h ax hp (some b)) (i2 _), Nx_nx]
      exact ⟨_, _, _, _, _, _, _, _, _, _, _, _, g.more, rfl⟩
  · by_cases hm : m < n.roads.length
    · by_cases hp : x.p < (n.rd x.r).g.length ∨ m ∉ n.aft x.r
      · rw [rest_none ns n q cT x D U o7 o12 o13 o14 o15 (due_not h ax hm hp) (fun a => told_turnE cT (c := "NotThere") rfl fun b => T_turn_not cT h ax hm hp (some b)) (i2 _), Nx_nx]
        exact ⟨_, _, _, _, _, _, _, _, _, _, _, _, g.more, rfl⟩
      · have hp' : x.p = (n.rd x.r).g.length := by
          have := ax.p
          have : ¬ x.p < (n.rd x.r).g.length := fun z => hp (.inl z)
          omega
        have hin : m ∈ n.aft x.r := Classical.byContradiction fun z => hp (.inr z)
        rw [rest_some (y := n.trn x m) ns n q cT x D U o7 o12 o13 o14 o15 (due_turn h ax hp' hin) (fun a => told_turn cT fun b => by
          have := T_turn_den cT h ax hp' hin (some b) (D := D.map Sta.t) (U := U.map Sta.t) hDm
          rw [show Sta.o n x D U = ⟨n.d, x.t, D.map Sta.t, U.map Sta.t⟩ from rfl, this]
          simp [Sta.o]) (i1 _) hDl]
        rw [Nx_nx]
        refine ⟨_, _, _, _, _, _, _, _, _, _, _, _, g.on (y := n.trn x m) hm (Nat.zero_le _) (by simp [Net.trn]) ?_, rfl⟩
        have := (g.at_ x (.inl rfl)).2.2.2
        simp [Net.trn]; omega
    · have hm : n.roads.length ≤ m := by omega
      have hv : isIntB (.int (m : Nat)) 0 (n.roads.length - 1) = false := by simp; omega
      rw [rest_none ns n q cT x D U o7 o12 o13 o14 o15 (due_road ax hm) (fun a => told_turnE cT (c := "InvalidRoad") rfl fun b => T_turn_road cT hv (some b)) (i2 _), Nx_nx]
      exact ⟨_, _, _, _, _, _, _, _, _, _, _, _, g.more, rfl⟩
end
end LW
namespace LW
open PySem PySem.Spec PyProof.Rows L2 DN
section
variable (ns : List Int) (n : Net) (q : Nat) (cT : Addr) (x : Sta) (D U : List Sta) (o7 o8 o9 o10 o11 o12 o13 o14 o15 : Option R)
theorem l_last (D : List Sta) (y : Sta) : ((D ++ [y]).map Sta.l)[((D ++ [y]).map Sta.l).length - 1]? = some y.l ∧ ((D ++ [y]).map Sta.l).dropLast = D.map Sta.l := by
  constructor
  · rw [← List.getLast?_eq_getElem?, List.map_append]
    simp
  · rw [List.map_append]
    simp
theorem eq_none : eqD .none .none = .ok true := eqD_same (n := 0) (dOk_none 0) (by decide)
/-- the other branch: undo -/
theorem brB_undo {k : Nat} (g : Good n x D U k) (hk : k ≤ 400) (a : Option R) : Nx (brB cT (en ns n q cT x D U o7 a (some (.val (.int 2))) o10 o11 o12 o13 o14 o15)) fun ρ => ∃ x D U o7 o8 o9 o10 o11 o12 o13 o14 o15, Good n x D U (k + 1) ∧ ρ = en ns n q cT x D U o7 o8 o9 o10 o11 o12 o13 o14 o15 := by
  have i2 : eqD (.tuple [.str "raised", .int 4]) (.tuple [.str "raised", .int 4]) = .ok true := eqD_same (dOk_rz 4) (by decide)
  have hfew := g.few
  rcases List.eq_nil_or_concat D with rfl | ⟨D', y, rfl⟩
  · have e := l_nil []
    have e : eqD (.list []) (.list []) = .ok true := e
    have t : ∀ b, d_l_told cT [.val (.int 2), .obj (some b) cT (Sta.o n x [] U), .val (.int 0), .val (.int 0)] = .ok (.tuple [.str "raised", .int 4]) (Sta.o n x [] U) := fun b => told_undoE cT (c := "NothingToUndo") (i := 4) rfl fun b => T_undo_end (some b) cT n.d x.t _
    refine ⟨en ns n q cT x [] U o7 a (some (.val (.int 2))) o10 o11 o12 o13 none none, ?_, _, _, _, _, _, _, _, _, _, _, _, _, g.more, rfl⟩
    unfold brB gAlias en gAlias2
    simp [xCall, t, e, i2]
  · have e := l_nil (D' ++ [y])
    have e : eqD (.list ((D' ++ [y]).map Sta.l)) (.list []) = .ok false := by rw [e]; simp
    have hU : U.length < 1000 := by simp at hfew; omega
    have t : ∀ b, d_l_told cT [.val (.int 2), .obj (some b) cT (Sta.o n x (D' ++ [y]) U), .val (.int 0), .val (.int 0)] = .ok .none (Sta.o n y D' (U ++ [x])) := fun b => told_undo cT fun b => T_undo_den (some b) cT n.d x y D' U hU
    obtain ⟨l1, l2⟩ := l_last D' y
    have hl : (U.map Sta.l).length < lim := by rw [List.length_map]; exact Nat.lt_of_lt_of_le hU (by decide)
    have hm : (U ++ [x]).map Sta.l = U.map Sta.l ++ [x.l] := by simp
    have gb := g
    simp only [List.concat_eq_append] at *
    refine ⟨en ns n q cT y D' (U ++ [x]) o7 a (some (.val (.int 2))) o10 o11 o12 o13 none none, ?_, _, _, _, _, _, _, _, _, _, _, _, _, g.back, rfl⟩
    unfold brB gAlias en gAlias2
    rw [hm]
    generalize (D' ++ [y]).map Sta.l = DL at *
    generalize U.map Sta.l = UL at *
    generalize D'.map Sta.l = DP at *
    subst l2
    have l1' : DL[DL.length - 1]? = some y.l := l1
    simp [xCall, t, e, eq_none, l1', hl]
theorem brB_redo {k : Nat} (g : Good n x D U k) (hk : k ≤ 400) (a : Option R) : Nx (brB cT (en ns n q cT x D U o7 a (some (.val (.int 3))) o10 o11 o12 o13 o14 o15)) fun ρ => ∃ x D U o7 o8 o9 o10 o11 o12 o13 o14 o15, Good n x D U (k + 1) ∧ ρ = en ns n q cT x D U o7 o8 o9 o10 o11 o12 o13 o14 o15 := by
  have i2 : eqD (.tuple [.str "raised", .int 4]) (.tuple [.str "raised", .int 4]) = .ok true := eqD_same (dOk_rz 4) (by decide)
  have hfew := g.few
  rcases List.eq_nil_or_concat U with rfl | ⟨U', y, rfl⟩
  · have e := l_nil []
    have e : eqD (.list []) (.list []) = .ok true := e
    have t : ∀ b, d_l_told cT [.val (.int 3), .obj (some b) cT (Sta.o n x D []), .val (.int 0), .val (.int 0)] = .ok (.tuple [.str "raised", .int 4]) (Sta.o n x D []) := fun b => told_redoE cT (c := "NothingToUndo") (i := 4) rfl fun b => T_redo_end (some b) cT n.d x.t _
    refine ⟨en ns n q cT x D [] o7 a (some (.val (.int 3))) o10 o11 o12 o13 none none, ?_, _, _, _, _, _, _, _, _, _, _, _, _, g.more, rfl⟩
    unfold brB gAlias en gAlias2
    simp [xCall, t, e, i2]
  · have e := l_nil (U' ++ [y])
    have e : eqD (.list ((U' ++ [y]).map Sta.l)) (.list []) = .ok false := by rw [e]; simp
    have hD : D.length < 1000 := by simp at hfew; omega
    have t : ∀ b, d_l_told cT [.val (.int 3), .obj (some b) cT (Sta.o n x D (U' ++ [y])), .val (.int 0), .val (.int 0)] = .ok .none (Sta.o n y (D ++ [x]) U') := fun b => told_redo cT fun b => T_redo_den (some b) cT n.d x y D U' hD
    obtain ⟨l1, l2⟩ := l_last U' y
    have hl : (D.map Sta.l).length < lim := by rw [List.length_map]; exact Nat.lt_of_lt_of_le hD (by decide)
    have hm : (D ++ [x]).map Sta.l = D.map Sta.l ++ [x.l] := by simp
    simp only [List.concat_eq_append] at *
    refine ⟨en ns n q cT y (D ++ [x]) U' o7 a (some (.val (.int 3))) o10 o11 o12 o13 none none, ?_, _, _, _, _, _, _, _, _, _, _, _, _, g.fwd, rfl⟩
    unfold brB gAlias en gAlias2
    rw [hm]
    generalize (U' ++ [y]).map Sta.l = UL at *
    generalize D.map Sta.l = DL at *
    generalize U'.map Sta.l = UP at *
    subst l2
    have l1' : UL[UL.length - 1]? = some y.l := l1
    simp [xCall, t, e, eq_none, l1', hl]
/-- one turn -/
theorem turn_den (hl : ns.length ≤ 63) (h : n.Ok) {k : Nat} (g : Good n x D U k) (hk : k ≤ 400) :
    Nx (law_b1 cT (en ns n q cT x D U (some (.val (.int (k : Nat)))) o8 o9 o10 o11 o12 o13 o14 o15)) fun ρ => ∃ x D U o7 o8 o9 o10 o11 o12 o13 o14 o15, Good n x D U (k + 1) ∧ ρ = en ns n q cT x D U o7 o8 o9 o10 o11 o12 o13 o14 o15 := by
  rw [law_b1_eq]
  have m3 : CMul 3 (k : Nat) := mulL (by decide)
  obtain ⟨j, hj, ej⟩ := draw_nat ns hl (k := 60 + 3 * (k : Int)) (many := 7) (by omega) (by omega) (by decide)
  have ej : d_l_drawn [.scr ns, .val (.int (60 + 3 * (k : Int))), .val (.int 7)] = .ok (.val (.int (j : Nat))) := ej
  have hw : ∃ w : Int, (w = 0 ∨ w = 1 ∨ w = 2 ∨ w = 3) ∧ opIx (.list [.int 0, .int 0, .int 1, .int 1, .int 1, .int 2, .int 3]) (.int (j : Nat)) = .ok (.val (.int w)) := by
    have := pick3 [0, 0, 1, 1, 1, 2, 3] (j := j) (by simpa using hj)
    have h7 : j = 0 ∨ j = 1 ∨ j = 2 ∨ j = 3 ∨ j = 4 ∨ j = 5 ∨ j = 6 := by omega
    rcases h7 with rfl | rfl | rfl | rfl | rfl | rfl | rfl
    · exact ⟨0, by omega, this⟩
    · exact ⟨0, by omega, this⟩
    · exact ⟨1, by omega, this⟩
    · exact ⟨1, by omega, this⟩
    · exact ⟨1, by omega, this⟩
    · exact ⟨2, by omega, this⟩
    · exact ⟨3, by omega, this⟩
  obtain ⟨w, hw, ew⟩ := hw
  rw [gSeq]
  refine Nx.seq (P := fun ρ => ρ = en ns n q cT x D U (some (.val (.int (k : Nat)))) (some (.val (.int (60 + 3 * (k : Int))))) o9 o10 o11 o12 o13 o14 o15) (by unfold en; simp [m3]) ?_
  rintro _ rfl
  rw [gSeq]
  refine Nx.seq (P := fun ρ => ρ = en ns n q cT x D U (some (.val (.int (k : Nat)))) (some (.val (.int (60 + 3 * (k : Int))))) (some (.val (.int w))) o10 o11 o12 o13 o14 o15) (by unfold en; simp [ej, ew, -opIx_l]) ?_
  rintro _ rfl
  rw [gSeq]
  refine Nx.seq (P := fun ρ => ∃ x D U o7 o8 o9 o10 o11 o12 o13 o14 o15, Good n x D U (k + 1) ∧ ρ = en ns n q cT x D U o7 o8 o9 o10 o11 o12 o13 o14 o15) ?_ ?_
  · have eif : ∀ (b : Bool), decide (w < 2) = b → (gIf (fTest (fOp opLt (fVar 9) (fC (.int 2)))) (brA cT) (brB cT)) (en ns n q cT x D U (some (.val (.int (k : Nat)))) (some (.val (.int (60 + 3 * (k : Int))))) (some (.val (.int w))) o10 o11 o12 o13 o14 o15) =
        if b = true then brA cT (en ns n q cT x D U (some (.val (.int (k : Nat)))) (some (.val (.int (60 + 3 * (k : Int))))) (some (.val (.int w))) o10 o11 o12 o13 o14 o15) else brB cT (en ns n q cT x D U (some (.val (.int (k : Nat)))) (some (.val (.int (60 + 3 * (k : Int))))) (some (.val (.int w))) o10 o11 o12 o13 o14 o15) := fun b hb => by
      have e9 : fTest (fOp opLt (fVar 9) (fC (.int 2))) (en ns n q cT x D U (some (.val (.int (k : Nat)))) (some (.val (.int (60 + 3 * (k : Int))))) (some (.val (.int w))) o10 o11 o12 o13 o14 o15) = .ok b := by
        unfold en
        simp [hb]
      rw [gIf, e9, onR_ok]
    rcases hw with rfl | rfl | rfl | rfl
    · rw [eif true (by decide), if_pos rfl]
      exact brA_den ns n q cT x D U _ _ _ _ _ _ _ hl h g hk (by omega) (by omega) (.inl rfl)
    · rw [eif true (by decide), if_pos rfl]
      exact brA_den ns n q cT x D U _ _ _ _ _ _ _ hl h g hk (by omega) (by omega) (.inr rfl)
    · rw [eif false (by decide), if_neg (by decide)]
      exact brB_undo ns n q cT x D U _ _ _ _ _ _ _ g hk _
    · rw [eif false (by decide), if_neg (by decide)]
      exact brB_redo ns n q cT x D U _ _ _ _ _ _ _ g hk _
  · rintro _ ⟨x, D, U, o7, o8, o9, o10, o11, o12, o13, o14, o15, g', rfl⟩
    have gx := g'.at_ x (.inl rfl)
    rw [gSeq, chk1_den, seq_nx, chk2_den ns n q cT x D U o7 o8 o9 o10 o11 o12 o13 o14 o15 gx.2.2.1 (by have := gx.2.2.2; omega), Nx_nx]
    exact ⟨x, D, U, o7, o8, o9, o10, o11, o12, o13, o14, o15, g', rfl⟩
end
end LW
namespace LW
open PySem PySem.Spec PyProof.Rows L2 DN
theorem bad_road {n : Net} (h : n.Ok) {j : Nat} (hj : j < 5) : ∃ v, opIx (.list [.none, .int (-1), .int (n.roads.length : Nat), .bool true, .str "0"]) (.int (j : Nat)) = .ok (.val v) ∧ isIntB v 0 (n.roads.length - 1) = false := by
  have hc : j = 0 ∨ j = 1 ∨ j = 2 ∨ j = 3 ∨ j = 4 := by omega
  rcases hc with rfl | rfl | rfl | rfl | rfl
  · exact ⟨_, rfl, rfl⟩
  · exact ⟨_, rfl, rfl⟩
  · exact ⟨_, rfl, by simp; omega⟩
  · exact ⟨_, rfl, rfl⟩
  · exact ⟨_, rfl, rfl⟩
theorem law_true (cT : Addr) (ns : List Int) (hl : ns.length ≤ 63) : d_law cT [.scr ns] = .ok (.val (.bool true)) := by
  obtain ⟨n, h, h5, hse, en_⟩ := net_den ns hl (at_ := 10) (most := 5) (by omega) (by omega) (by decide) (by decide)
  have en_ : d_l_net [.scr ns, .val (.int 10), .val (.int 5)] = .ok (.val n.d) := en_
  have h1 := h.r1
  have h8 := h.r8
  obtain ⟨q, hq, eq⟩ := draw_nat ns hl (k := 1) (many := n.roads.length) (by omega) (by omega) (by omega)
  obtain ⟨t, ht, et⟩ := draw_nat ns hl (k := 0) (many := 14) (by omega) (by omega) (by decide)
  have et : d_l_drawn [.scr ns, .val (.int 0), .val (.int 14)] = .ok (.val (.int (t : Nat))) := et
  obtain ⟨j, hj, ej⟩ := draw_nat ns hl (k := 2) (many := 5) (by omega) (by omega) (by decide)
  have ej : d_l_drawn [.scr ns, .val (.int 2), .val (.int 5)] = .ok (.val (.int (j : Nat))) := ej
  obtain ⟨v, ev, hv⟩ := bad_road h hj
  obtain ⟨bn, ebn, hbn⟩ := badnet_den ns hl (at_ := 3) (by omega) (by omega)
  unfold d_law denB g_law
  have es : startE 18 [.scr ns] = [some (.scr ns), none, none, none, none, none, none, none, none, none, none, none, none, none, none, none, none, none] := rfl
  rw [es, gSeq]
  refine retOf_seq' (P := fun ρ => ρ = [some (.scr ns), some (.val n.d), none, none, none, none, none, none, none, none, none, none, none, none, none, none, none, none]) (by simp [en_]) ?_
  rintro _ rfl
  rw [gSeq]
  refine retOf_seq' (P := fun ρ => ρ = [some (.scr ns), some (.val n.d), some (.val (.int (q : Nat))), none, none, none, none, none, none, none, none, none, none, none, none, none, none, none]) (by simp [eq]) ?_
  rintro _ rfl
  have ei := T_init_den h hq
  have e0 : opIx (.list ((n.pcs q 0).map .int)) (.int 0) = .ok (.val (.int (n.lim_ q 0 0))) := pcs_ix n (k := q) (p := 0) 0 (by omega)
  have ep := l_pieces_den h hq 0
  rw [gSeq]
  refine retOf_seq' (P := fun ρ => ρ = en ns n q cT (n.sta q) [] [] none none none none none none none none none) (by
    have e1 : (n.sta q).l = .tuple [.int (q : Nat), .int 0, .int 0, .list [.int (n.lim_ q 0 0)]] := rfl
    unfold en
    rw [e1]
    simp [ei, ep, e0, Sta.o, -opIx_l]) ?_
  rintro _ rfl
  have hrg : rg1 [.int (8 + (t : Nat))] = .ok ((List.range (8 + t)).map fun i => PyData.int (i : Nat)) := by
    have := rg1_nat (show 8 + t ≤ 1000000 by omega)
    rw [show (((8 + t : Nat)) : Int) = 8 + (t : Nat) by omega] at this
    exact this
  rw [gSeq]
  refine retOf_seq' (gFor_range (n := 8 + t) (fun k ρ => ∃ x D U o7 o8 o9 o10 o11 o12 o13 o14 o15, Good n x D U k ∧ ρ = en ns n q cT x D U o7 o8 o9 o10 o11 o12 o13 o14 o15)
    (by unfold en; simp [et, hrg, -rg1_i]) ⟨n.sta q, [], [], _, _, _, _, _, _, _, _, _, ⟨fun y hy => ?_, by simp⟩, rfl⟩ (fun k ρ hk hI => ?_)) ?_
  · rcases hy with rfl | hy | hy
    · exact ⟨hq, Nat.zero_le _, by simp [Net.sta], by simp [Net.sta]⟩
    · exact absurd hy (by simp)
    · exact absurd hy (by simp)
  · obtain ⟨x, D, U, o7, o8, o9, o10, o11, o12, o13, o14, o15, g, rfl⟩ := hI
    rw [bdy_name]
    exact turn_den ns n q cT x D U o8 o9 o10 o11 o12 o13 o14 o15 hl h g (by omega)
  rintro _ ⟨x, D, U, o7, o8, o9, o10, o11, o12, o13, o14, o15, g, rfl⟩
  have t1 : ∀ a, d_l_told cT [.val (.int 1), .obj (some a) cT (Sta.o n x D U), .val v, .val (.int 0)] = .ok (rz 1) (Sta.o n x D U) := fun a => told_turnE cT (c := "InvalidRoad") (i := 1) rfl fun b => T_turn_road cT hv (some b)
  have t2 : ∀ a, d_l_told cT [.val (.int 4), .obj (some a) cT (Sta.o n x D U), .val bn, .val v] = .ok (rz 0) (Sta.o n x D U) := fun a => told_makeE cT (c := "InvalidNet") (i := 0) rfl (T_init_net hbn)
  have t3 : ∀ a, d_l_told cT [.val (.int 4), .obj (some a) cT (Sta.o n x D U), .val n.d, .val v] = .ok (rz 1) (Sta.o n x D U) := fun a => told_makeE cT (c := "InvalidRoad") (i := 1) rfl (T_init_road h hv)
  rw [gSeq]
  refine retOf_seq' (P := fun ρ => ρ = (en ns n q cT x D U o7 o8 o9 o10 o11 o12 o13 o14 o15).set 16 (some (.val v))) (by
    unfold en
    simp [ej, ev, -opIx_l]) ?_
  rintro _ rfl
  rw [gSeq]
  refine retOf_seq' (P := fun ρ => ρ = ((en ns n q cT x D U o7 o8 o9 o10 o11 o12 o13 o14 o15).set 16 (some (.val v))).set 17 (some (.val (.list [rz 1, rz 0])))) (by
    unfold en
    simp [xLst2, xCall, t1, t2, ebn]) ?_
  rintro _ rfl
  rw [gSeq]
  refine retOf_seq' (P := fun ρ => ρ = ((en ns n q cT x D U o7 o8 o9 o10 o11 o12 o13 o14 o15).set 16 (some (.val v))).set 17 (some (.val (.list [rz 1, rz 0, rz 1])))) (by
    unfold en
    simp [xAdd, xLst1, xCall, t3, lim]) ?_
  rintro _ rfl
  have eqr : eqD (.list [rz 1, rz 0, rz 1]) (.list [rz 1, rz 0, rz 1]) = .ok true := eqD_same (n := 2) (dOk_list (by simp [dOks, dOk_rz])) (by decide)
  rw [gSeq]
  refine retOf_seq' (P := fun ρ => ρ = ((en ns n q cT x D U o7 o8 o9 o10 o11 o12 o13 o14 o15).set 16 (some (.val v))).set 17 (some (.val (.list [rz 1, rz 0, rz 1])))) (by
    unfold en
    have e0 : (PyData.tuple [.str "raised", .int 0]) = rz 0 := rfl
    have e1 : (PyData.tuple [.str "raised", .int 1]) = rz 1 := rfl
    simp [e0, e1, eqr]) ?_
  rintro _ rfl
  have e1 := T_place_den cT n.d x
  have e2 := T_seen_den cT n.d x
  have e3 := l_sl x
  have e4 := l_ix3 x
  have e5 := eq_pl x
  have e6 := eq_vs x
  unfold en
  generalize x.v.map PyData.int = xv at *
  simp [Sta.o, e1, e2, e3, e4, e5, e6, plainR]
end LW
namespace LW
open PySem PySem.Spec PyProof.Rows L2 DN
def spT (K : PySem.W.Frag) : Sp := fun vs H Q _ => ∃ (a : Addr) (ns : List Int), vs = [.ref a] ∧ SqL K H a (ns.map V.int) ∧ ns.length ≤ 63 ∧ ∀ H', Q (.bl true) H'
theorem spT_of {cT : Addr} {K : PySem.W.Frag} {mg : Str → Option Value} {vs : List V} {H : Hp} {Q : VK} {E : XK} (h : spT K vs H Q E) : spD K mg 1 (d_law cT) vs H Q E := by
  obtain ⟨a, ns, rfl, hS, hl, q⟩ := h
  refine ⟨rfl, [.scr ns], H, Same.refl H, .cons ⟨⟨a, rfl, hS⟩, rfl⟩ .nil, ?_⟩
  rw [law_true cT ns hl]
  intro v F' H' e r
  cases r.1
  exact q H'

theorem kit_self {K : PySem.W.Frag} {C : Addr} : PySem.W.kitOne K (.ref C) (.ref C) = some true := by
  unfold PySem.W.kitOne
  simp
theorem kit_ref {K : PySem.W.Frag} {C D : Addr} {b : Bool} (hne : D ≠ C) (hd : PySem.W.hasDictIn K C = true) (ht : PySem.W.typeIn K (.ref C) = some (.type "type")) (h4 : PySem.W.subIn K (.ref D) (.ref C) = some b) : PySem.W.kitOne K (.ref D) (.ref C) = some b := by
  obtain ⟨cd, hc, _⟩ := PySem.W.any_some hd
  have e2 : ((PySem.W.clsIn K C).isSome && PySem.W.typeIn K (.ref C) == some (.type "type")) = true := by rw [hc, ht] <;> rfl
  have e1 : ¬ ((Value.ref D == Value.ref C) = true) := fun z => hne (Value.ref.inj (beq_iff_eq.mp z))
  unfold PySem.W.kitOne
  rw [if_neg e1]
  show (if ((PySem.W.clsIn K C).isSome && PySem.W.typeIn K (.ref C) == some (.type "type")) = true then PySem.W.subIn K (.ref D) (.ref C) else none) = some b
  rw [if_pos e2]
  exact h4

set_option maxHeartbeats 0 in
theorem all_mk {P : Program} {w : World} {K : PySem.W.Frag} {h : Heap} {mg : Str → Option Value} {fa : Addr} (X : K.In h) (G : h.Ns mainGlobals mg) (hfa : mg "law" = some (.ref fa))
    {C_Trip : Addr}
    {f_is_int : Addr} {od_is_int an_is_int : Option Addr} {sl_is_int : Array (Option Value)} {oc_is_int kV_is_int dc_is_int pm_is_int cd_is_int ct_is_int : Value}
    {f_are_signs : Addr} {od_are_signs an_are_signs : Option Addr} {sl_are_signs : Array (Option Value)} {oc_are_signs kV_are_signs dc_are_signs pm_are_signs cd_are_signs ct_are_signs : Value}
    {f_is_road : Addr} {od_is_road an_is_road : Option Addr} {sl_is_road : Array (Option Value)} {oc_is_road kV_is_road dc_is_road pm_is_road cd_is_road ct_is_road : Value}
    {f_is_net : Addr} {od_is_net an_is_net : Option Addr} {sl_is_net : Array (Option Value)} {oc_is_net kV_is_net dc_is_net pm_is_net cd_is_net ct_is_net : Value}
    {f_check_net : Addr} {od_check_net an_check_net : Option Addr} {sl_check_net : Array (Option Value)} {oc_check_net kV_check_net dc_check_net pm_check_net cd_check_net ct_check_net : Value}
    {f_check_road : Addr} {od_check_road an_check_road : Option Addr} {sl_check_road : Array (Option Value)} {oc_check_road kV_check_road dc_check_road pm_check_road cd_check_road ct_check_road : Value}
    {f_find_followers : Addr} {od_find_followers an_find_followers : Option Addr} {sl_find_followers : Array (Option Value)} {oc_find_followers kV_find_followers dc_find_followers pm_find_followers cd_find_followers ct_find_followers : Value}
    {f_find_standing : Addr} {od_find_standing an_find_standing : Option Addr} {sl_find_standing : Array (Option Value)} {oc_find_standing kV_find_standing dc_find_standing pm_find_standing cd_find_standing ct_find_standing : Value}
    {f_pieces : Addr} {od_pieces an_pieces : Option Addr} {sl_pieces : Array (Option Value)} {oc_pieces kV_pieces dc_pieces pm_pieces cd_pieces ct_pieces : Value}
    {f_go_over : Addr} {od_go_over an_go_over : Option Addr} {sl_go_over : Array (Option Value)} {oc_go_over kV_go_over dc_go_over pm_go_over cd_go_over ct_go_over : Value}
    {f_T_init : Addr} {od_T_init an_T_init : Option Addr} {sl_T_init : Array (Option Value)} {oc_T_init kV_T_init dc_T_init pm_T_init cd_T_init ct_T_init : Value}
    {f_T_len : Addr} {od_T_len an_T_len : Option Addr} {sl_T_len : Array (Option Value)} {oc_T_len kV_T_len dc_T_len pm_T_len cd_T_len ct_T_len : Value}
    {f_T_place : Addr} {od_T_place an_T_place : Option Addr} {sl_T_place : Array (Option Value)} {oc_T_place kV_T_place dc_T_place pm_T_place cd_T_place ct_T_place : Value}
    {f_T_limit : Addr} {od_T_limit an_T_limit : Option Addr} {sl_T_limit : Array (Option Value)} {oc_T_limit kV_T_limit dc_T_limit pm_T_limit cd_T_limit ct_T_limit : Value}
    {f_T_seen : Addr} {od_T_seen an_T_seen : Option Addr} {sl_T_seen : Array (Option Value)} {oc_T_seen kV_T_seen dc_T_seen pm_T_seen cd_T_seen ct_T_seen : Value}
    {f_T_change : Addr} {od_T_change an_T_change : Option Addr} {sl_T_change : Array (Option Value)} {oc_T_change kV_T_change dc_T_change pm_T_change cd_T_change ct_T_change : Value}
    {f_T_go : Addr} {od_T_go an_T_go : Option Addr} {sl_T_go : Array (Option Value)} {oc_T_go kV_T_go dc_T_go pm_T_go cd_T_go ct_T_go : Value}
    {f_T_turn : Addr} {od_T_turn an_T_turn : Option Addr} {sl_T_turn : Array (Option Value)} {oc_T_turn kV_T_turn dc_T_turn pm_T_turn cd_T_turn ct_T_turn : Value}
    {f_T_undo : Addr} {od_T_undo an_T_undo : Option Addr} {sl_T_undo : Array (Option Value)} {oc_T_undo kV_T_undo dc_T_undo pm_T_undo cd_T_undo ct_T_undo : Value}
    {f_T_redo : Addr} {od_T_redo an_T_redo : Option Addr} {sl_T_redo : Array (Option Value)} {oc_T_redo kV_T_redo dc_T_redo pm_T_redo cd_T_redo ct_T_redo : Value}
    {f_l_drawn : Addr} {od_l_drawn an_l_drawn : Option Addr} {sl_l_drawn : Array (Option Value)} {oc_l_drawn kV_l_drawn dc_l_drawn pm_l_drawn cd_l_drawn ct_l_drawn : Value}
    {f_l_net : Addr} {od_l_net an_l_net : Option Addr} {sl_l_net : Array (Option Value)} {oc_l_net kV_l_net dc_l_net pm_l_net cd_l_net ct_l_net : Value}
    {f_l_pieces : Addr} {od_l_pieces an_l_pieces : Option Addr} {sl_l_pieces : Array (Option Value)} {oc_l_pieces kV_l_pieces dc_l_pieces pm_l_pieces cd_l_pieces ct_l_pieces : Value}
    {f_l_next : Addr} {od_l_next an_l_next : Option Addr} {sl_l_next : Array (Option Value)} {oc_l_next kV_l_next dc_l_next pm_l_next cd_l_next ct_l_next : Value}
    {f_l_badnet : Addr} {od_l_badnet an_l_badnet : Option Addr} {sl_l_badnet : Array (Option Value)} {oc_l_badnet kV_l_badnet dc_l_badnet pm_l_badnet cd_l_badnet ct_l_badnet : Value}
    {f_l_told : Addr} {od_l_told an_l_told : Option Addr} {sl_l_told : Array (Option Value)} {oc_l_told kV_l_told dc_l_told pm_l_told cd_l_told ct_l_told : Value}
    {f_l_due : Addr} {od_l_due an_l_due : Option Addr} {sl_l_due : Array (Option Value)} {oc_l_due kV_l_due dc_l_due pm_l_due cd_l_due ct_l_due : Value}
    {f_law : Addr} {od_law an_law : Option Addr} {sl_law : Array (Option Value)} {oc_law kV_law dc_law pm_law cd_law ct_law : Value}
    {u_MAX_JUNCTION : Tok}
    {u_MAX_LIMIT : Tok}
    {u_MAX_ROADS : Tok}
    {u_MAX_SIGNS : Tok}
    {u_MIN_FAST : Tok}
    {C_AtEnd : Addr}
    {C_InvalidNet : Addr}
    {C_InvalidRoad : Addr}
    {C_NotThere : Addr}
    {C_NothingToUndo : Addr}
    {C_LimitError : Addr}
    (aC : PySem.W.nsIn K mainGlobals "Trip" = some (some (.ref C_Trip))) (pg : PySem.W.plainGet K C_Trip Str.empty = true) (hd : PySem.W.hasDictIn K C_Trip = true) (po : PySem.W.plainOver K C_Trip = true) (sa : PySem.W.findIn K (.ref C_Trip) "__setattr__" = some (some (.builtin "object.__setattr__"))) (mkk : PySem.W.makesIn K C_Trip = true) (kc : PySem.W.keepIn K (.ref C_Trip) = true) (n1 : PySem.W.findIn K (.ref C_Trip) "net" = some none) (n2 : PySem.W.findIn K (.ref C_Trip) "present" = some none) (n3 : PySem.W.findIn K (.ref C_Trip) "done" = some none) (n4 : PySem.W.findIn K (.ref C_Trip) "undone" = some none)
    (a_is_int : PySem.W.nsIn K mainGlobals "is_int" = some (some (.ref f_is_int))) (l_is_int : K.lookup f_is_int = some ⟨oc_is_int, od_is_int, .func (PySem.W.fnOf "is_int" "is_int" (defArgs s_is_int) (defBody s_is_int) (defScope s_is_int) .none kV_is_int dc_is_int pm_is_int an_is_int cd_is_int ct_is_int), sl_is_int⟩) (c_is_int : PySem.W.codeIn K cd_is_int "is_int" = true) (k_is_int : PySem.W.keepIn K (.ref f_is_int) = true)
    (a_are_signs : PySem.W.nsIn K mainGlobals "are_signs" = some (some (.ref f_are_signs))) (l_are_signs : K.lookup f_are_signs = some ⟨oc_are_signs, od_are_signs, .func (PySem.W.fnOf "are_signs" "are_signs" (defArgs s_are_signs) (defBody s_are_signs) (defScope s_are_signs) .none kV_are_signs dc_are_signs pm_are_signs an_are_signs cd_are_signs ct_are_signs), sl_are_signs⟩) (c_are_signs : PySem.W.codeIn K cd_are_signs "are_signs" = true) (k_are_signs : PySem.W.keepIn K (.ref f_are_signs) = true)
    (a_is_road : PySem.W.nsIn K mainGlobals "is_road" = some (some (.ref f_is_road))) (l_is_road : K.lookup f_is_road = some ⟨oc_is_road, od_is_road, .func (PySem.W.fnOf "is_road" "is_road" (defArgs s_is_road) (defBody s_is_road) (defScope s_is_road) .none kV_is_road dc_is_road pm_is_road an_is_road cd_is_road ct_is_road), sl_is_road⟩) (c_is_road : PySem.W.codeIn K cd_is_road "is_road" = true) (k_is_road : PySem.W.keepIn K (.ref f_is_road) = true)
    (a_is_net : PySem.W.nsIn K mainGlobals "is_net" = some (some (.ref f_is_net))) (l_is_net : K.lookup f_is_net = some ⟨oc_is_net, od_is_net, .func (PySem.W.fnOf "is_net" "is_net" (defArgs s_is_net) (defBody s_is_net) (defScope s_is_net) .none kV_is_net dc_is_net pm_is_net an_is_net cd_is_net ct_is_net), sl_is_net⟩) (c_is_net : PySem.W.codeIn K cd_is_net "is_net" = true) (k_is_net : PySem.W.keepIn K (.ref f_is_net) = true)
    (a_check_net : PySem.W.nsIn K mainGlobals "check_net" = some (some (.ref f_check_net))) (l_check_net : K.lookup f_check_net = some ⟨oc_check_net, od_check_net, .func (PySem.W.fnOf "check_net" "check_net" (defArgs s_check_net) (defBody s_check_net) (defScope s_check_net) .none kV_check_net dc_check_net pm_check_net an_check_net cd_check_net ct_check_net), sl_check_net⟩) (c_check_net : PySem.W.codeIn K cd_check_net "check_net" = true) (k_check_net : PySem.W.keepIn K (.ref f_check_net) = true)
    (a_check_road : PySem.W.nsIn K mainGlobals "check_road" = some (some (.ref f_check_road))) (l_check_road : K.lookup f_check_road = some ⟨oc_check_road, od_check_road, .func (PySem.W.fnOf "check_road" "check_road" (defArgs s_check_road) (defBody s_check_road) (defScope s_check_road) .none kV_check_road dc_check_road pm_check_road an_check_road cd_check_road ct_check_road), sl_check_road⟩) (c_check_road : PySem.W.codeIn K cd_check_road "check_road" = true) (k_check_road : PySem.W.keepIn K (.ref f_check_road) = true)
    (a_find_followers : PySem.W.nsIn K mainGlobals "find_followers" = some (some (.ref f_find_followers))) (l_find_followers : K.lookup f_find_followers = some ⟨oc_find_followers, od_find_followers, .func (PySem.W.fnOf "find_followers" "find_followers" (defArgs s_find_followers) (defBody s_find_followers) (defScope s_find_followers) .none kV_find_followers dc_find_followers pm_find_followers an_find_followers cd_find_followers ct_find_followers), sl_find_followers⟩) (c_find_followers : PySem.W.codeIn K cd_find_followers "find_followers" = true) (k_find_followers : PySem.W.keepIn K (.ref f_find_followers) = true)
    (a_find_standing : PySem.W.nsIn K mainGlobals "find_standing" = some (some (.ref f_find_standing))) (l_find_standing : K.lookup f_find_standing = some ⟨oc_find_standing, od_find_standing, .func (PySem.W.fnOf "find_standing" "find_standing" (defArgs s_find_standing) (defBody s_find_standing) (defScope s_find_standing) .none kV_find_standing dc_find_standing pm_find_standing an_find_standing cd_find_standing ct_find_standing), sl_find_standing⟩) (c_find_standing : PySem.W.codeIn K cd_find_standing "find_standing" = true) (k_find_standing : PySem.W.keepIn K (.ref f_find_standing) = true)
    (a_pieces : PySem.W.nsIn K mainGlobals "pieces" = some (some (.ref f_pieces))) (l_pieces : K.lookup f_pieces = some ⟨oc_pieces, od_pieces, .func (PySem.W.fnOf "pieces" "pieces" (defArgs s_pieces) (defBody s_pieces) (defScope s_pieces) .none kV_pieces dc_pieces pm_pieces an_pieces cd_pieces ct_pieces), sl_pieces⟩) (c_pieces : PySem.W.codeIn K cd_pieces "pieces" = true) (k_pieces : PySem.W.keepIn K (.ref f_pieces) = true)
    (a_go_over : PySem.W.nsIn K mainGlobals "go_over" = some (some (.ref f_go_over))) (l_go_over : K.lookup f_go_over = some ⟨oc_go_over, od_go_over, .func (PySem.W.fnOf "go_over" "go_over" (defArgs s_go_over) (defBody s_go_over) (defScope s_go_over) .none kV_go_over dc_go_over pm_go_over an_go_over cd_go_over ct_go_over), sl_go_over⟩) (c_go_over : PySem.W.codeIn K cd_go_over "go_over" = true) (k_go_over : PySem.W.keepIn K (.ref f_go_over) = true)
    (a_T_init : PySem.W.findIn K (.ref C_Trip) "__init__" = some (some (.ref f_T_init))) (i_T_init : PySem.W.isFn K (.ref f_T_init) = true) (l_T_init : K.lookup f_T_init = some ⟨oc_T_init, od_T_init, .func (PySem.W.fnOf "__init__" "Trip.__init__" (defArgs s_T_init) (defBody s_T_init) (defScope s_T_init) .none kV_T_init dc_T_init pm_T_init an_T_init cd_T_init ct_T_init), sl_T_init⟩) (c_T_init : PySem.W.codeIn K cd_T_init "Trip.__init__" = true) (k_T_init : PySem.W.keepIn K (.ref f_T_init) = true)
    (a_T_len : PySem.W.findIn K (.ref C_Trip) "__len__" = some (some (.ref f_T_len))) (i_T_len : PySem.W.isFn K (.ref f_T_len) = true) (l_T_len : K.lookup f_T_len = some ⟨oc_T_len, od_T_len, .func (PySem.W.fnOf "__len__" "Trip.__len__" (defArgs s_T_len) (defBody s_T_len) (defScope s_T_len) .none kV_T_len dc_T_len pm_T_len an_T_len cd_T_len ct_T_len), sl_T_len⟩) (c_T_len : PySem.W.codeIn K cd_T_len "Trip.__len__" = true) (k_T_len : PySem.W.keepIn K (.ref f_T_len) = true)
    (a_T_place : PySem.W.findIn K (.ref C_Trip) "place" = some (some (.ref f_T_place))) (i_T_place : PySem.W.isFn K (.ref f_T_place) = true) (l_T_place : K.lookup f_T_place = some ⟨oc_T_place, od_T_place, .func (PySem.W.fnOf "place" "Trip.place" (defArgs s_T_place) (defBody s_T_place) (defScope s_T_place) .none kV_T_place dc_T_place pm_T_place an_T_place cd_T_place ct_T_place), sl_T_place⟩) (c_T_place : PySem.W.codeIn K cd_T_place "Trip.place" = true) (k_T_place : PySem.W.keepIn K (.ref f_T_place) = true)
    (a_T_limit : PySem.W.findIn K (.ref C_Trip) "limit" = some (some (.ref f_T_limit))) (i_T_limit : PySem.W.isFn K (.ref f_T_limit) = true) (l_T_limit : K.lookup f_T_limit = some ⟨oc_T_limit, od_T_limit, .func (PySem.W.fnOf "limit" "Trip.limit" (defArgs s_T_limit) (defBody s_T_limit) (defScope s_T_limit) .none kV_T_limit dc_T_limit pm_T_limit an_T_limit cd_T_limit ct_T_limit), sl_T_limit⟩) (c_T_limit : PySem.W.codeIn K cd_T_limit "Trip.limit" = true) (k_T_limit : PySem.W.keepIn K (.ref f_T_limit) = true)
    (a_T_seen : PySem.W.findIn K (.ref C_Trip) "seen" = some (some (.ref f_T_seen))) (i_T_seen : PySem.W.isFn K (.ref f_T_seen) = true) (l_T_seen : K.lookup f_T_seen = some ⟨oc_T_seen, od_T_seen, .func (PySem.W.fnOf "seen" "Trip.seen" (defArgs s_T_seen) (defBody s_T_seen) (defScope s_T_seen) .none kV_T_seen dc_T_seen pm_T_seen an_T_seen cd_T_seen ct_T_seen), sl_T_seen⟩) (c_T_seen : PySem.W.codeIn K cd_T_seen "Trip.seen" = true) (k_T_seen : PySem.W.keepIn K (.ref f_T_seen) = true)
    (a_T_change : PySem.W.findIn K (.ref C_Trip) "change" = some (some (.ref f_T_change))) (i_T_change : PySem.W.isFn K (.ref f_T_change) = true) (l_T_change : K.lookup f_T_change = some ⟨oc_T_change, od_T_change, .func (PySem.W.fnOf "change" "Trip.change" (defArgs s_T_change) (defBody s_T_change) (defScope s_T_change) .none kV_T_change dc_T_change pm_T_change an_T_change cd_T_change ct_T_change), sl_T_change⟩) (c_T_change : PySem.W.codeIn K cd_T_change "Trip.change" = true) (k_T_change : PySem.W.keepIn K (.ref f_T_change) = true)
    (a_T_go : PySem.W.findIn K (.ref C_Trip) "go" = some (some (.ref f_T_go))) (i_T_go : PySem.W.isFn K (.ref f_T_go) = true) (l_T_go : K.lookup f_T_go = some ⟨oc_T_go, od_T_go, .func (PySem.W.fnOf "go" "Trip.go" (defArgs s_T_go) (defBody s_T_go) (defScope s_T_go) .none kV_T_go dc_T_go pm_T_go an_T_go cd_T_go ct_T_go), sl_T_go⟩) (c_T_go : PySem.W.codeIn K cd_T_go "Trip.go" = true) (k_T_go : PySem.W.keepIn K (.ref f_T_go) = true)
    (a_T_turn : PySem.W.findIn K (.ref C_Trip) "turn" = some (some (.ref f_T_turn))) (i_T_turn : PySem.W.isFn K (.ref f_T_turn) = true) (l_T_turn : K.lookup f_T_turn = some ⟨oc_T_turn, od_T_turn, .func (PySem.W.fnOf "turn" "Trip.turn" (defArgs s_T_turn) (defBody s_T_turn) (defScope s_T_turn) .none kV_T_turn dc_T_turn pm_T_turn an_T_turn cd_T_turn ct_T_turn), sl_T_turn⟩) (c_T_turn : PySem.W.codeIn K cd_T_turn "Trip.turn" = true) (k_T_turn : PySem.W.keepIn K (.ref f_T_turn) = true)
    (a_T_undo : PySem.W.findIn K (.ref C_Trip) "undo" = some (some (.ref f_T_undo))) (i_T_undo : PySem.W.isFn K (.ref f_T_undo) = true) (l_T_undo : K.lookup f_T_undo = some ⟨oc_T_undo, od_T_undo, .func (PySem.W.fnOf "undo" "Trip.undo" (defArgs s_T_undo) (defBody s_T_undo) (defScope s_T_undo) .none kV_T_undo dc_T_undo pm_T_undo an_T_undo cd_T_undo ct_T_undo), sl_T_undo⟩) (c_T_undo : PySem.W.codeIn K cd_T_undo "Trip.undo" = true) (k_T_undo : PySem.W.keepIn K (.ref f_T_undo) = true)
    (a_T_redo : PySem.W.findIn K (.ref C_Trip) "redo" = some (some (.ref f_T_redo))) (i_T_redo : PySem.W.isFn K (.ref f_T_redo) = true) (l_T_redo : K.lookup f_T_redo = some ⟨oc_T_redo, od_T_redo, .func (PySem.W.fnOf "redo" "Trip.redo" (defArgs s_T_redo) (defBody s_T_redo) (defScope s_T_redo) .none kV_T_redo dc_T_redo pm_T_redo an_T_redo cd_T_redo ct_T_redo), sl_T_redo⟩) (c_T_redo : PySem.W.codeIn K cd_T_redo "Trip.redo" = true) (k_T_redo : PySem.W.keepIn K (.ref f_T_redo) = true)
    (a_l_drawn : PySem.W.nsIn K mainGlobals "_law_drawn" = some (some (.ref f_l_drawn))) (l_l_drawn : K.lookup f_l_drawn = some ⟨oc_l_drawn, od_l_drawn, .func (PySem.W.fnOf "_law_drawn" "_law_drawn" (defArgs s_l_drawn) (defBody s_l_drawn) (defScope s_l_drawn) .none kV_l_drawn dc_l_drawn pm_l_drawn an_l_drawn cd_l_drawn ct_l_drawn), sl_l_drawn⟩) (c_l_drawn : PySem.W.codeIn K cd_l_drawn "_law_drawn" = true) (k_l_drawn : PySem.W.keepIn K (.ref f_l_drawn) = true)
    (a_l_net : PySem.W.nsIn K mainGlobals "_law_net" = some (some (.ref f_l_net))) (l_l_net : K.lookup f_l_net = some ⟨oc_l_net, od_l_net, .func (PySem.W.fnOf "_law_net" "_law_net" (defArgs s_l_net) (defBody s_l_net) (defScope s_l_net) .none kV_l_net dc_l_net pm_l_net an_l_net cd_l_net ct_l_net), sl_l_net⟩) (c_l_net : PySem.W.codeIn K cd_l_net "_law_net" = true) (k_l_net : PySem.W.keepIn K (.ref f_l_net) = true)
    (a_l_pieces : PySem.W.nsIn K mainGlobals "_law_pieces" = some (some (.ref f_l_pieces))) (l_l_pieces : K.lookup f_l_pieces = some ⟨oc_l_pieces, od_l_pieces, .func (PySem.W.fnOf "_law_pieces" "_law_pieces" (defArgs s_l_pieces) (defBody s_l_pieces) (defScope s_l_pieces) .none kV_l_pieces dc_l_pieces pm_l_pieces an_l_pieces cd_l_pieces ct_l_pieces), sl_l_pieces⟩) (c_l_pieces : PySem.W.codeIn K cd_l_pieces "_law_pieces" = true) (k_l_pieces : PySem.W.keepIn K (.ref f_l_pieces) = true)
    (a_l_next : PySem.W.nsIn K mainGlobals "_law_next" = some (some (.ref f_l_next))) (l_l_next : K.lookup f_l_next = some ⟨oc_l_next, od_l_next, .func (PySem.W.fnOf "_law_next" "_law_next" (defArgs s_l_next) (defBody s_l_next) (defScope s_l_next) .none kV_l_next dc_l_next pm_l_next an_l_next cd_l_next ct_l_next), sl_l_next⟩) (c_l_next : PySem.W.codeIn K cd_l_next "_law_next" = true) (k_l_next : PySem.W.keepIn K (.ref f_l_next) = true)
    (a_l_badnet : PySem.W.nsIn K mainGlobals "_law_badnet" = some (some (.ref f_l_badnet))) (l_l_badnet : K.lookup f_l_badnet = some ⟨oc_l_badnet, od_l_badnet, .func (PySem.W.fnOf "_law_badnet" "_law_badnet" (defArgs s_l_badnet) (defBody s_l_badnet) (defScope s_l_badnet) .none kV_l_badnet dc_l_badnet pm_l_badnet an_l_badnet cd_l_badnet ct_l_badnet), sl_l_badnet⟩) (c_l_badnet : PySem.W.codeIn K cd_l_badnet "_law_badnet" = true) (k_l_badnet : PySem.W.keepIn K (.ref f_l_badnet) = true)
    (a_l_told : PySem.W.nsIn K mainGlobals "_law_told" = some (some (.ref f_l_told))) (l_l_told : K.lookup f_l_told = some ⟨oc_l_told, od_l_told, .func (PySem.W.fnOf "_law_told" "_law_told" (defArgs s_l_told) (defBody s_l_told) (defScope s_l_told) .none kV_l_told dc_l_told pm_l_told an_l_told cd_l_told ct_l_told), sl_l_told⟩) (c_l_told : PySem.W.codeIn K cd_l_told "_law_told" = true) (k_l_told : PySem.W.keepIn K (.ref f_l_told) = true)
    (a_l_due : PySem.W.nsIn K mainGlobals "_law_due" = some (some (.ref f_l_due))) (l_l_due : K.lookup f_l_due = some ⟨oc_l_due, od_l_due, .func (PySem.W.fnOf "_law_due" "_law_due" (defArgs s_l_due) (defBody s_l_due) (defScope s_l_due) .none kV_l_due dc_l_due pm_l_due an_l_due cd_l_due ct_l_due), sl_l_due⟩) (c_l_due : PySem.W.codeIn K cd_l_due "_law_due" = true) (k_l_due : PySem.W.keepIn K (.ref f_l_due) = true)
    (a_law : PySem.W.nsIn K mainGlobals "law" = some (some (.ref f_law))) (l_law : K.lookup f_law = some ⟨oc_law, od_law, .func (PySem.W.fnOf "law" "law" (defArgs s_law) (defBody s_law) (defScope s_law) .none kV_law dc_law pm_law an_law cd_law ct_law), sl_law⟩) (c_law : PySem.W.codeIn K cd_law "law" = true) (k_law : PySem.W.keepIn K (.ref f_law) = true)
    (z_all : PySem.W.nsIn K mainGlobals "all" = some none)
    (z_bool : PySem.W.nsIn K mainGlobals "bool" = some none)
    (z_enumerate : PySem.W.nsIn K mainGlobals "enumerate" = some none)
    (z_int : PySem.W.nsIn K mainGlobals "int" = some none)
    (z_isinstance : PySem.W.nsIn K mainGlobals "isinstance" = some none)
    (z_len : PySem.W.nsIn K mainGlobals "len" = some none)
    (z_list : PySem.W.nsIn K mainGlobals "list" = some none)
    (z_range : PySem.W.nsIn K mainGlobals "range" = some none)
    (z_tuple : PySem.W.nsIn K mainGlobals "tuple" = some none)
    (q_MAX_JUNCTION : PySem.W.nsIn K mainGlobals "MAX_JUNCTION" = some (some (.int 5 u_MAX_JUNCTION)))
    (q_MAX_LIMIT : PySem.W.nsIn K mainGlobals "MAX_LIMIT" = some (some (.int 13 u_MAX_LIMIT)))
    (q_MAX_ROADS : PySem.W.nsIn K mainGlobals "MAX_ROADS" = some (some (.int 8 u_MAX_ROADS)))
    (q_MAX_SIGNS : PySem.W.nsIn K mainGlobals "MAX_SIGNS" = some (some (.int 3 u_MAX_SIGNS)))
    (q_MIN_FAST : PySem.W.nsIn K mainGlobals "MIN_FAST" = some (some (.int 5 u_MIN_FAST)))
    (g_AtEnd : PySem.W.nsIn K mainGlobals "AtEnd" = some (some (.ref C_AtEnd))) (x_AtEnd : PySem.W.excIn K C_AtEnd [.type "ValueError", .type "Exception", .type "BaseException", .type "object"] "ValueError.__new__" = true) (kc_AtEnd : PySem.W.keepIn K (.ref C_AtEnd) = true) (sb_AtEnd : PySem.W.subIn K (.ref C_AtEnd) (.type "BaseException") = some true) (ty_AtEnd : PySem.W.typeIn K (.ref C_AtEnd) = some (.type "type"))
    (g_InvalidNet : PySem.W.nsIn K mainGlobals "InvalidNet" = some (some (.ref C_InvalidNet))) (x_InvalidNet : PySem.W.excIn K C_InvalidNet [.type "ValueError", .type "Exception", .type "BaseException", .type "object"] "ValueError.__new__" = true) (kc_InvalidNet : PySem.W.keepIn K (.ref C_InvalidNet) = true) (sb_InvalidNet : PySem.W.subIn K (.ref C_InvalidNet) (.type "BaseException") = some true) (ty_InvalidNet : PySem.W.typeIn K (.ref C_InvalidNet) = some (.type "type"))
    (g_InvalidRoad : PySem.W.nsIn K mainGlobals "InvalidRoad" = some (some (.ref C_InvalidRoad))) (x_InvalidRoad : PySem.W.excIn K C_InvalidRoad [.type "ValueError", .type "Exception", .type "BaseException", .type "object"] "ValueError.__new__" = true) (kc_InvalidRoad : PySem.W.keepIn K (.ref C_InvalidRoad) = true) (sb_InvalidRoad : PySem.W.subIn K (.ref C_InvalidRoad) (.type "BaseException") = some true) (ty_InvalidRoad : PySem.W.typeIn K (.ref C_InvalidRoad) = some (.type "type"))
    (g_NotThere : PySem.W.nsIn K mainGlobals "NotThere" = some (some (.ref C_NotThere))) (x_NotThere : PySem.W.excIn K C_NotThere [.type "ValueError", .type "Exception", .type "BaseException", .type "object"] "ValueError.__new__" = true) (kc_NotThere : PySem.W.keepIn K (.ref C_NotThere) = true) (sb_NotThere : PySem.W.subIn K (.ref C_NotThere) (.type "BaseException") = some true) (ty_NotThere : PySem.W.typeIn K (.ref C_NotThere) = some (.type "type"))
    (g_NothingToUndo : PySem.W.nsIn K mainGlobals "NothingToUndo" = some (some (.ref C_NothingToUndo))) (x_NothingToUndo : PySem.W.excIn K C_NothingToUndo [.type "ValueError", .type "Exception", .type "BaseException", .type "object"] "ValueError.__new__" = true) (kc_NothingToUndo : PySem.W.keepIn K (.ref C_NothingToUndo) = true) (sb_NothingToUndo : PySem.W.subIn K (.ref C_NothingToUndo) (.type "BaseException") = some true) (ty_NothingToUndo : PySem.W.typeIn K (.ref C_NothingToUndo) = some (.type "type"))
    (g_LimitError : PySem.W.nsIn K mainGlobals "LimitError" = some (some (.ref C_LimitError)))
    (hd_AtEnd : PySem.W.hasDictIn K C_AtEnd = true)
    (su_AtEnd_InvalidNet : PySem.W.subIn K (.ref C_InvalidNet) (.ref C_AtEnd) = some false)
    (ne_AtEnd_InvalidNet : C_InvalidNet ≠ C_AtEnd)
    (su_AtEnd_InvalidRoad : PySem.W.subIn K (.ref C_InvalidRoad) (.ref C_AtEnd) = some false)
    (ne_AtEnd_InvalidRoad : C_InvalidRoad ≠ C_AtEnd)
    (su_AtEnd_NotThere : PySem.W.subIn K (.ref C_NotThere) (.ref C_AtEnd) = some false)
    (ne_AtEnd_NotThere : C_NotThere ≠ C_AtEnd)
    (su_AtEnd_NothingToUndo : PySem.W.subIn K (.ref C_NothingToUndo) (.ref C_AtEnd) = some false)
    (ne_AtEnd_NothingToUndo : C_NothingToUndo ≠ C_AtEnd)
    (hd_InvalidNet : PySem.W.hasDictIn K C_InvalidNet = true)
    (su_InvalidNet_AtEnd : PySem.W.subIn K (.ref C_AtEnd) (.ref C_InvalidNet) = some false)
    (ne_InvalidNet_AtEnd : C_AtEnd ≠ C_InvalidNet)
    (su_InvalidNet_InvalidRoad : PySem.W.subIn K (.ref C_InvalidRoad) (.ref C_InvalidNet) = some false)
    (ne_InvalidNet_InvalidRoad : C_InvalidRoad ≠ C_InvalidNet)
    (su_InvalidNet_NotThere : PySem.W.subIn K (.ref C_NotThere) (.ref C_InvalidNet) = some false)
    (ne_InvalidNet_NotThere : C_NotThere ≠ C_InvalidNet)
    (su_InvalidNet_NothingToUndo : PySem.W.subIn K (.ref C_NothingToUndo) (.ref C_InvalidNet) = some false)
    (ne_InvalidNet_NothingToUndo : C_NothingToUndo ≠ C_InvalidNet)
    (hd_InvalidRoad : PySem.W.hasDictIn K C_InvalidRoad = true)
    (su_InvalidRoad_AtEnd : PySem.W.subIn K (.ref C_AtEnd) (.ref C_InvalidRoad) = some false)
    (ne_InvalidRoad_AtEnd : C_AtEnd ≠ C_InvalidRoad)
    (su_InvalidRoad_InvalidNet : PySem.W.subIn K (.ref C_InvalidNet) (.ref C_InvalidRoad) = some false)
    (ne_InvalidRoad_InvalidNet : C_InvalidNet ≠ C_InvalidRoad)
    (su_InvalidRoad_NotThere : PySem.W.subIn K (.ref C_NotThere) (.ref C_InvalidRoad) = some false)
    (ne_InvalidRoad_NotThere : C_NotThere ≠ C_InvalidRoad)
    (su_InvalidRoad_NothingToUndo : PySem.W.subIn K (.ref C_NothingToUndo) (.ref C_InvalidRoad) = some false)
    (ne_InvalidRoad_NothingToUndo : C_NothingToUndo ≠ C_InvalidRoad)
    (hd_LimitError : PySem.W.hasDictIn K C_LimitError = true)
    (sb_LimitError : PySem.W.subIn K (.ref C_LimitError) (.type "BaseException") = some true) (ty_LimitError : PySem.W.typeIn K (.ref C_LimitError) = some (.type "type"))
    (su_LimitError_AtEnd : PySem.W.subIn K (.ref C_AtEnd) (.ref C_LimitError) = some true)
    (su_LimitError_InvalidNet : PySem.W.subIn K (.ref C_InvalidNet) (.ref C_LimitError) = some true)
    (su_LimitError_InvalidRoad : PySem.W.subIn K (.ref C_InvalidRoad) (.ref C_LimitError) = some true)
    (su_LimitError_NotThere : PySem.W.subIn K (.ref C_NotThere) (.ref C_LimitError) = some true)
    (su_LimitError_NothingToUndo : PySem.W.subIn K (.ref C_NothingToUndo) (.ref C_LimitError) = some true)
    (hd_NotThere : PySem.W.hasDictIn K C_NotThere = true)
    (su_NotThere_AtEnd : PySem.W.subIn K (.ref C_AtEnd) (.ref C_NotThere) = some false)
    (ne_NotThere_AtEnd : C_AtEnd ≠ C_NotThere)
    (su_NotThere_InvalidNet : PySem.W.subIn K (.ref C_InvalidNet) (.ref C_NotThere) = some false)
    (ne_NotThere_InvalidNet : C_InvalidNet ≠ C_NotThere)
    (su_NotThere_InvalidRoad : PySem.W.subIn K (.ref C_InvalidRoad) (.ref C_NotThere) = some false)
    (ne_NotThere_InvalidRoad : C_InvalidRoad ≠ C_NotThere)
    (su_NotThere_NothingToUndo : PySem.W.subIn K (.ref C_NothingToUndo) (.ref C_NotThere) = some false)
    (ne_NotThere_NothingToUndo : C_NothingToUndo ≠ C_NotThere)
    (hd_NothingToUndo : PySem.W.hasDictIn K C_NothingToUndo = true)
    (su_NothingToUndo_AtEnd : PySem.W.subIn K (.ref C_AtEnd) (.ref C_NothingToUndo) = some false)
    (ne_NothingToUndo_AtEnd : C_AtEnd ≠ C_NothingToUndo)
    (su_NothingToUndo_InvalidNet : PySem.W.subIn K (.ref C_InvalidNet) (.ref C_NothingToUndo) = some false)
    (ne_NothingToUndo_InvalidNet : C_InvalidNet ≠ C_NothingToUndo)
    (su_NothingToUndo_InvalidRoad : PySem.W.subIn K (.ref C_InvalidRoad) (.ref C_NothingToUndo) = some false)
    (ne_NothingToUndo_InvalidRoad : C_InvalidRoad ≠ C_NothingToUndo)
    (su_NothingToUndo_NotThere : PySem.W.subIn K (.ref C_NotThere) (.ref C_NothingToUndo) = some false)
    (ne_NothingToUndo_NotThere : C_NotThere ≠ C_NothingToUndo)
    (ec_AtEnd : ExcC K C_AtEnd)
    (ec_InvalidNet : ExcC K C_InvalidNet)
    (ec_InvalidRoad : ExcC K C_InvalidRoad)
    (ec_NotThere : ExcC K C_NotThere)
    (ec_NothingToUndo : ExcC K C_NothingToUndo) :
    ∃ fd : FuncData, (∀ (s : Shared) (v : Value), BindsTo s fd ⟨[v], []⟩ [("script", v)]) ∧ ∀ base : Heap, K.In base → base.Ns mainGlobals mg → FnOk P w K mg base (L2.CX P w) 10 fa fd ["script"] (spT K) := by
  have e := hfa.symm.trans (PySem.W.mg_of X G a_law)
  cases e
  let T : Fx K mg := {
    C_Trip := C_Trip
    gc_Trip := PySem.W.mg_of X G aC
    tc := ⟨⟨pg, hd, po, sa⟩, n1, n2, n3, n4⟩
    f_is_int := f_is_int
    fd_is_int := (PySem.W.fnOf "is_int" "is_int" (defArgs s_is_int) (defBody s_is_int) (defScope s_is_int) .none kV_is_int dc_is_int pm_is_int an_is_int cd_is_int ct_is_int)
    F_is_int := fun_mk (st := s_is_int) l_is_int c_is_int k_is_int
    b_is_int := (fun_mk (st := s_is_int) l_is_int c_is_int k_is_int).binds (ps := ["value", "least", "most"]) fun _ _ _ _ _ _ us hl => match us, hl with | [_, _, _], _ => rfl
    g_is_int := PySem.W.mg_of X G a_is_int
    f_are_signs := f_are_signs
    fd_are_signs := (PySem.W.fnOf "are_signs" "are_signs" (defArgs s_are_signs) (defBody s_are_signs) (defScope s_are_signs) .none kV_are_signs dc_are_signs pm_are_signs an_are_signs cd_are_signs ct_are_signs)
    F_are_signs := fun_mk (st := s_are_signs) l_are_signs c_are_signs k_are_signs
    b_are_signs := (fun_mk (st := s_are_signs) l_are_signs c_are_signs k_are_signs).binds (ps := ["value"]) fun _ _ _ _ _ _ us hl => match us, hl with | [_], _ => rfl
    g_are_signs := PySem.W.mg_of X G a_are_signs
    f_is_road := f_is_road
    fd_is_road := (PySem.W.fnOf "is_road" "is_road" (defArgs s_is_road) (defBody s_is_road) (defScope s_is_road) .none kV_is_road dc_is_road pm_is_road an_is_road cd_is_road ct_is_road)
    F_is_road := fun_mk (st := s_is_road) l_is_road c_is_road k_is_road
    b_is_road := (fun_mk (st := s_is_road) l_is_road c_is_road k_is_road).binds (ps := ["value"]) fun _ _ _ _ _ _ us hl => match us, hl with | [_], _ => rfl
    g_is_road := PySem.W.mg_of X G a_is_road
    f_is_net := f_is_net
    fd_is_net := (PySem.W.fnOf "is_net" "is_net" (defArgs s_is_net) (defBody s_is_net) (defScope s_is_net) .none kV_is_net dc_is_net pm_is_net an_is_net cd_is_net ct_is_net)
    F_is_net := fun_mk (st := s_is_net) l_is_net c_is_net k_is_net
    b_is_net := (fun_mk (st := s_is_net) l_is_net c_is_net k_is_net).binds (ps := ["candidate"]) fun _ _ _ _ _ _ us hl => match us, hl with | [_], _ => rfl
    g_is_net := PySem.W.mg_of X G a_is_net
    f_check_net := f_check_net
    fd_check_net := (PySem.W.fnOf "check_net" "check_net" (defArgs s_check_net) (defBody s_check_net) (defScope s_check_net) .none kV_check_net dc_check_net pm_check_net an_check_net cd_check_net ct_check_net)
    F_check_net := fun_mk (st := s_check_net) l_check_net c_check_net k_check_net
    b_check_net := (fun_mk (st := s_check_net) l_check_net c_check_net k_check_net).binds (ps := ["value"]) fun _ _ _ _ _ _ us hl => match us, hl with | [_], _ => rfl
    g_check_net := PySem.W.mg_of X G a_check_net
    f_check_road := f_check_road
    fd_check_road := (PySem.W.fnOf "check_road" "check_road" (defArgs s_check_road) (defBody s_check_road) (defScope s_check_road) .none kV_check_road dc_check_road pm_check_road an_check_road cd_check_road ct_check_road)
    F_check_road := fun_mk (st := s_check_road) l_check_road c_check_road k_check_road
    b_check_road := (fun_mk (st := s_check_road) l_check_road c_check_road k_check_road).binds (ps := ["net", "value"]) fun _ _ _ _ _ _ us hl => match us, hl with | [_, _], _ => rfl
    g_check_road := PySem.W.mg_of X G a_check_road
    f_find_followers := f_find_followers
    fd_find_followers := (PySem.W.fnOf "find_followers" "find_followers" (defArgs s_find_followers) (defBody s_find_followers) (defScope s_find_followers) .none kV_find_followers dc_find_followers pm_find_followers an_find_followers cd_find_followers ct_find_followers)
    F_find_followers := fun_mk (st := s_find_followers) l_find_followers c_find_followers k_find_followers
    b_find_followers := (fun_mk (st := s_find_followers) l_find_followers c_find_followers k_find_followers).binds (ps := ["net", "road"]) fun _ _ _ _ _ _ us hl => match us, hl with | [_, _], _ => rfl
    g_find_followers := PySem.W.mg_of X G a_find_followers
    f_find_standing := f_find_standing
    fd_find_standing := (PySem.W.fnOf "find_standing" "find_standing" (defArgs s_find_standing) (defBody s_find_standing) (defScope s_find_standing) .none kV_find_standing dc_find_standing pm_find_standing an_find_standing cd_find_standing ct_find_standing)
    F_find_standing := fun_mk (st := s_find_standing) l_find_standing c_find_standing k_find_standing
    b_find_standing := (fun_mk (st := s_find_standing) l_find_standing c_find_standing k_find_standing).binds (ps := ["net", "road"]) fun _ _ _ _ _ _ us hl => match us, hl with | [_, _], _ => rfl
    g_find_standing := PySem.W.mg_of X G a_find_standing
    f_pieces := f_pieces
    fd_pieces := (PySem.W.fnOf "pieces" "pieces" (defArgs s_pieces) (defBody s_pieces) (defScope s_pieces) .none kV_pieces dc_pieces pm_pieces an_pieces cd_pieces ct_pieces)
    F_pieces := fun_mk (st := s_pieces) l_pieces c_pieces k_pieces
    b_pieces := (fun_mk (st := s_pieces) l_pieces c_pieces k_pieces).binds (ps := ["net", "road", "state"]) fun _ _ _ _ _ _ us hl => match us, hl with | [_, _, _], _ => rfl
    g_pieces := PySem.W.mg_of X G a_pieces
    f_go_over := f_go_over
    fd_go_over := (PySem.W.fnOf "go_over" "go_over" (defArgs s_go_over) (defBody s_go_over) (defScope s_go_over) .none kV_go_over dc_go_over pm_go_over an_go_over cd_go_over ct_go_over)
    F_go_over := fun_mk (st := s_go_over) l_go_over c_go_over k_go_over
    b_go_over := (fun_mk (st := s_go_over) l_go_over c_go_over k_go_over).binds (ps := ["net", "state"]) fun _ _ _ _ _ _ us hl => match us, hl with | [_, _], _ => rfl
    g_go_over := PySem.W.mg_of X G a_go_over
    f_T_init := f_T_init
    fd_T_init := (PySem.W.fnOf "__init__" "Trip.__init__" (defArgs s_T_init) (defBody s_T_init) (defScope s_T_init) .none kV_T_init dc_T_init pm_T_init an_T_init cd_T_init ct_T_init)
    F_T_init := fun_mk (st := s_T_init) l_T_init c_T_init k_T_init
    b_T_init := (fun_mk (st := s_T_init) l_T_init c_T_init k_T_init).binds (ps := ["self", "net", "road"]) fun _ _ _ _ _ _ us hl => match us, hl with | [_, _, _], _ => rfl
    mkT := ⟨mkk, a_T_init, i_T_init, kc⟩
    f_T_len := f_T_len
    fd_T_len := (PySem.W.fnOf "__len__" "Trip.__len__" (defArgs s_T_len) (defBody s_T_len) (defScope s_T_len) .none kV_T_len dc_T_len pm_T_len an_T_len cd_T_len ct_T_len)
    F_T_len := fun_mk (st := s_T_len) l_T_len c_T_len k_T_len
    b_T_len := (fun_mk (st := s_T_len) l_T_len c_T_len k_T_len).binds (ps := ["self"]) fun _ _ _ _ _ _ us hl => match us, hl with | [_], _ => rfl
    me_T_len := ⟨a_T_len, i_T_len, k_T_len⟩
    f_T_place := f_T_place
    fd_T_place := (PySem.W.fnOf "place" "Trip.place" (defArgs s_T_place) (defBody s_T_place) (defScope s_T_place) .none kV_T_place dc_T_place pm_T_place an_T_place cd_T_place ct_T_place)
    F_T_place := fun_mk (st := s_T_place) l_T_place c_T_place k_T_place
    b_T_place := (fun_mk (st := s_T_place) l_T_place c_T_place k_T_place).binds (ps := ["self"]) fun _ _ _ _ _ _ us hl => match us, hl with | [_], _ => rfl
    me_T_place := ⟨a_T_place, i_T_place, k_T_place⟩
    f_T_limit := f_T_limit
    fd_T_limit := (PySem.W.fnOf "limit" "Trip.limit" (defArgs s_T_limit) (defBody s_T_limit) (defScope s_T_limit) .none kV_T_limit dc_T_limit pm_T_limit an_T_limit cd_T_limit ct_T_limit)
    F_T_limit := fun_mk (st := s_T_limit) l_T_limit c_T_limit k_T_limit
    b_T_limit := (fun_mk (st := s_T_limit) l_T_limit c_T_limit k_T_limit).binds (ps := ["self"]) fun _ _ _ _ _ _ us hl => match us, hl with | [_], _ => rfl
    me_T_limit := ⟨a_T_limit, i_T_limit, k_T_limit⟩
    f_T_seen := f_T_seen
    fd_T_seen := (PySem.W.fnOf "seen" "Trip.seen" (defArgs s_T_seen) (defBody s_T_seen) (defScope s_T_seen) .none kV_T_seen dc_T_seen pm_T_seen an_T_seen cd_T_seen ct_T_seen)
    F_T_seen := fun_mk (st := s_T_seen) l_T_seen c_T_seen k_T_seen
    b_T_seen := (fun_mk (st := s_T_seen) l_T_seen c_T_seen k_T_seen).binds (ps := ["self"]) fun _ _ _ _ _ _ us hl => match us, hl with | [_], _ => rfl
    me_T_seen := ⟨a_T_seen, i_T_seen, k_T_seen⟩
    f_T_change := f_T_change
    fd_T_change := (PySem.W.fnOf "change" "Trip.change" (defArgs s_T_change) (defBody s_T_change) (defScope s_T_change) .none kV_T_change dc_T_change pm_T_change an_T_change cd_T_change ct_T_change)
    F_T_change := fun_mk (st := s_T_change) l_T_change c_T_change k_T_change
    b_T_change := (fun_mk (st := s_T_change) l_T_change c_T_change k_T_change).binds (ps := ["self", "state"]) fun _ _ _ _ _ _ us hl => match us, hl with | [_, _], _ => rfl
    me_T_change := ⟨a_T_change, i_T_change, k_T_change⟩
    f_T_go := f_T_go
    fd_T_go := (PySem.W.fnOf "go" "Trip.go" (defArgs s_T_go) (defBody s_T_go) (defScope s_T_go) .none kV_T_go dc_T_go pm_T_go an_T_go cd_T_go ct_T_go)
    F_T_go := fun_mk (st := s_T_go) l_T_go c_T_go k_T_go
    b_T_go := (fun_mk (st := s_T_go) l_T_go c_T_go k_T_go).binds (ps := ["self"]) fun _ _ _ _ _ _ us hl => match us, hl with | [_], _ => rfl
    me_T_go := ⟨a_T_go, i_T_go, k_T_go⟩
    f_T_turn := f_T_turn
    fd_T_turn := (PySem.W.fnOf "turn" "Trip.turn" (defArgs s_T_turn) (defBody s_T_turn) (defScope s_T_turn) .none kV_T_turn dc_T_turn pm_T_turn an_T_turn cd_T_turn ct_T_turn)
    F_T_turn := fun_mk (st := s_T_turn) l_T_turn c_T_turn k_T_turn
    b_T_turn := (fun_mk (st := s_T_turn) l_T_turn c_T_turn k_T_turn).binds (ps := ["self", "road"]) fun _ _ _ _ _ _ us hl => match us, hl with | [_, _], _ => rfl
    me_T_turn := ⟨a_T_turn, i_T_turn, k_T_turn⟩
    f_T_undo := f_T_undo
    fd_T_undo := (PySem.W.fnOf "undo" "Trip.undo" (defArgs s_T_undo) (defBody s_T_undo) (defScope s_T_undo) .none kV_T_undo dc_T_undo pm_T_undo an_T_undo cd_T_undo ct_T_undo)
    F_T_undo := fun_mk (st := s_T_undo) l_T_undo c_T_undo k_T_undo
    b_T_undo := (fun_mk (st := s_T_undo) l_T_undo c_T_undo k_T_undo).binds (ps := ["self"]) fun _ _ _ _ _ _ us hl => match us, hl with | [_], _ => rfl
    me_T_undo := ⟨a_T_undo, i_T_undo, k_T_undo⟩
    f_T_redo := f_T_redo
    fd_T_redo := (PySem.W.fnOf "redo" "Trip.redo" (defArgs s_T_redo) (defBody s_T_redo) (defScope s_T_redo) .none kV_T_redo dc_T_redo pm_T_redo an_T_redo cd_T_redo ct_T_redo)
    F_T_redo := fun_mk (st := s_T_redo) l_T_redo c_T_redo k_T_redo
    b_T_redo := (fun_mk (st := s_T_redo) l_T_redo c_T_redo k_T_redo).binds (ps := ["self"]) fun _ _ _ _ _ _ us hl => match us, hl with | [_], _ => rfl
    me_T_redo := ⟨a_T_redo, i_T_redo, k_T_redo⟩
    f_l_drawn := f_l_drawn
    fd_l_drawn := (PySem.W.fnOf "_law_drawn" "_law_drawn" (defArgs s_l_drawn) (defBody s_l_drawn) (defScope s_l_drawn) .none kV_l_drawn dc_l_drawn pm_l_drawn an_l_drawn cd_l_drawn ct_l_drawn)
    F_l_drawn := fun_mk (st := s_l_drawn) l_l_drawn c_l_drawn k_l_drawn
    b_l_drawn := (fun_mk (st := s_l_drawn) l_l_drawn c_l_drawn k_l_drawn).binds (ps := ["script", "k", "many"]) fun _ _ _ _ _ _ us hl => match us, hl with | [_, _, _], _ => rfl
    g_l_drawn := PySem.W.mg_of X G a_l_drawn
    f_l_net := f_l_net
    fd_l_net := (PySem.W.fnOf "_law_net" "_law_net" (defArgs s_l_net) (defBody s_l_net) (defScope s_l_net) .none kV_l_net dc_l_net pm_l_net an_l_net cd_l_net ct_l_net)
    F_l_net := fun_mk (st := s_l_net) l_l_net c_l_net k_l_net
    b_l_net := (fun_mk (st := s_l_net) l_l_net c_l_net k_l_net).binds (ps := ["script", "at", "most"]) fun _ _ _ _ _ _ us hl => match us, hl with | [_, _, _], _ => rfl
    g_l_net := PySem.W.mg_of X G a_l_net
    f_l_pieces := f_l_pieces
    fd_l_pieces := (PySem.W.fnOf "_law_pieces" "_law_pieces" (defArgs s_l_pieces) (defBody s_l_pieces) (defScope s_l_pieces) .none kV_l_pieces dc_l_pieces pm_l_pieces an_l_pieces cd_l_pieces ct_l_pieces)
    F_l_pieces := fun_mk (st := s_l_pieces) l_l_pieces c_l_pieces k_l_pieces
    b_l_pieces := (fun_mk (st := s_l_pieces) l_l_pieces c_l_pieces k_l_pieces).binds (ps := ["net", "road", "state"]) fun _ _ _ _ _ _ us hl => match us, hl with | [_, _, _], _ => rfl
    g_l_pieces := PySem.W.mg_of X G a_l_pieces
    f_l_next := f_l_next
    fd_l_next := (PySem.W.fnOf "_law_next" "_law_next" (defArgs s_l_next) (defBody s_l_next) (defScope s_l_next) .none kV_l_next dc_l_next pm_l_next an_l_next cd_l_next ct_l_next)
    F_l_next := fun_mk (st := s_l_next) l_l_next c_l_next k_l_next
    b_l_next := (fun_mk (st := s_l_next) l_l_next c_l_next k_l_next).binds (ps := ["net", "road"]) fun _ _ _ _ _ _ us hl => match us, hl with | [_, _], _ => rfl
    g_l_next := PySem.W.mg_of X G a_l_next
    f_l_badnet := f_l_badnet
    fd_l_badnet := (PySem.W.fnOf "_law_badnet" "_law_badnet" (defArgs s_l_badnet) (defBody s_l_badnet) (defScope s_l_badnet) .none kV_l_badnet dc_l_badnet pm_l_badnet an_l_badnet cd_l_badnet ct_l_badnet)
    F_l_badnet := fun_mk (st := s_l_badnet) l_l_badnet c_l_badnet k_l_badnet
    b_l_badnet := (fun_mk (st := s_l_badnet) l_l_badnet c_l_badnet k_l_badnet).binds (ps := ["script", "at"]) fun _ _ _ _ _ _ us hl => match us, hl with | [_, _], _ => rfl
    g_l_badnet := PySem.W.mg_of X G a_l_badnet
    f_l_told := f_l_told
    fd_l_told := (PySem.W.fnOf "_law_told" "_law_told" (defArgs s_l_told) (defBody s_l_told) (defScope s_l_told) .none kV_l_told dc_l_told pm_l_told an_l_told cd_l_told ct_l_told)
    F_l_told := fun_mk (st := s_l_told) l_l_told c_l_told k_l_told
    b_l_told := (fun_mk (st := s_l_told) l_l_told c_l_told k_l_told).binds (ps := ["way", "trip", "one", "two"]) fun _ _ _ _ _ _ us hl => match us, hl with | [_, _, _, _], _ => rfl
    g_l_told := PySem.W.mg_of X G a_l_told
    f_l_due := f_l_due
    fd_l_due := (PySem.W.fnOf "_law_due" "_law_due" (defArgs s_l_due) (defBody s_l_due) (defScope s_l_due) .none kV_l_due dc_l_due pm_l_due an_l_due cd_l_due ct_l_due)
    F_l_due := fun_mk (st := s_l_due) l_l_due c_l_due k_l_due
    b_l_due := (fun_mk (st := s_l_due) l_l_due c_l_due k_l_due).binds (ps := ["net", "now", "way", "one"]) fun _ _ _ _ _ _ us hl => match us, hl with | [_, _, _, _], _ => rfl
    g_l_due := PySem.W.mg_of X G a_l_due
    f_law := fa
    fd_law := (PySem.W.fnOf "law" "law" (defArgs s_law) (defBody s_law) (defScope s_law) .none kV_law dc_law pm_law an_law cd_law ct_law)
    F_law := fun_mk (st := s_law) l_law c_law k_law
    b_law := (fun_mk (st := s_law) l_law c_law k_law).binds (ps := ["script"]) fun _ _ _ _ _ _ us hl => match us, hl with | [_], _ => rfl
    g_law := PySem.W.mg_of X G a_law
    m_all := PySem.W.mg_none_of X G z_all
    m_bool := PySem.W.mg_none_of X G z_bool
    m_enumerate := PySem.W.mg_none_of X G z_enumerate
    m_int := PySem.W.mg_none_of X G z_int
    m_isinstance := PySem.W.mg_none_of X G z_isinstance
    m_len := PySem.W.mg_none_of X G z_len
    m_list := PySem.W.mg_none_of X G z_list
    m_range := PySem.W.mg_none_of X G z_range
    m_tuple := PySem.W.mg_none_of X G z_tuple
    c_MAX_JUNCTION := ⟨_, PySem.W.mg_of X G q_MAX_JUNCTION⟩
    c_MAX_LIMIT := ⟨_, PySem.W.mg_of X G q_MAX_LIMIT⟩
    c_MAX_ROADS := ⟨_, PySem.W.mg_of X G q_MAX_ROADS⟩
    c_MAX_SIGNS := ⟨_, PySem.W.mg_of X G q_MAX_SIGNS⟩
    c_MIN_FAST := ⟨_, PySem.W.mg_of X G q_MIN_FAST⟩
    C_AtEnd := C_AtEnd
    gc_AtEnd := PySem.W.mg_of X G g_AtEnd
    x_AtEnd := x_AtEnd
    k_AtEnd := kc_AtEnd
    sb_AtEnd := sb_AtEnd
    ty_AtEnd := ty_AtEnd
    C_InvalidNet := C_InvalidNet
    gc_InvalidNet := PySem.W.mg_of X G g_InvalidNet
    x_InvalidNet := x_InvalidNet
    k_InvalidNet := kc_InvalidNet
    sb_InvalidNet := sb_InvalidNet
    ty_InvalidNet := ty_InvalidNet
    C_InvalidRoad := C_InvalidRoad
    gc_InvalidRoad := PySem.W.mg_of X G g_InvalidRoad
    x_InvalidRoad := x_InvalidRoad
    k_InvalidRoad := kc_InvalidRoad
    sb_InvalidRoad := sb_InvalidRoad
    ty_InvalidRoad := ty_InvalidRoad
    C_NotThere := C_NotThere
    gc_NotThere := PySem.W.mg_of X G g_NotThere
    x_NotThere := x_NotThere
    k_NotThere := kc_NotThere
    sb_NotThere := sb_NotThere
    ty_NotThere := ty_NotThere
    C_NothingToUndo := C_NothingToUndo
    gc_NothingToUndo := PySem.W.mg_of X G g_NothingToUndo
    x_NothingToUndo := x_NothingToUndo
    k_NothingToUndo := kc_NothingToUndo
    sb_NothingToUndo := sb_NothingToUndo
    ty_NothingToUndo := ty_NothingToUndo
    C_LimitError := C_LimitError
    gc_LimitError := PySem.W.mg_of X G g_LimitError
    ex_LimitError := fun c C hc hm => by
        simp only [knownX, List.mem_cons, List.not_mem_nil, or_false] at hc
        rcases hc with rfl | rfl | rfl | rfl | rfl
        · rw [PySem.W.mg_of X G g_AtEnd] at hm; cases hm; exact PySem.W.exm_ref sb_LimitError hd_LimitError ty_LimitError su_LimitError_AtEnd
        · rw [PySem.W.mg_of X G g_InvalidNet] at hm; cases hm; exact PySem.W.exm_ref sb_LimitError hd_LimitError ty_LimitError su_LimitError_InvalidNet
        · rw [PySem.W.mg_of X G g_InvalidRoad] at hm; cases hm; exact PySem.W.exm_ref sb_LimitError hd_LimitError ty_LimitError su_LimitError_InvalidRoad
        · rw [PySem.W.mg_of X G g_NotThere] at hm; cases hm; exact PySem.W.exm_ref sb_LimitError hd_LimitError ty_LimitError su_LimitError_NotThere
        · rw [PySem.W.mg_of X G g_NothingToUndo] at hm; cases hm; exact PySem.W.exm_ref sb_LimitError hd_LimitError ty_LimitError su_LimitError_NothingToUndo
    ec := fun c C hc hm => by
        simp only [knownX, List.mem_cons, List.not_mem_nil, or_false] at hc
        rcases hc with rfl | rfl | rfl | rfl | rfl
        · rw [PySem.W.mg_of X G g_AtEnd] at hm; cases hm; exact ec_AtEnd
        · rw [PySem.W.mg_of X G g_InvalidNet] at hm; cases hm; exact ec_InvalidNet
        · rw [PySem.W.mg_of X G g_InvalidRoad] at hm; cases hm; exact ec_InvalidRoad
        · rw [PySem.W.mg_of X G g_NotThere] at hm; cases hm; exact ec_NotThere
        · rw [PySem.W.mg_of X G g_NothingToUndo] at hm; cases hm; exact ec_NothingToUndo
    kt_AtEnd := fun c C hc hm => by
        simp only [knownX, List.mem_cons, List.not_mem_nil, or_false] at hc
        rcases hc with rfl | rfl | rfl | rfl | rfl
        · rw [PySem.W.mg_of X G g_AtEnd] at hm; cases hm; exact kit_self
        · rw [PySem.W.mg_of X G g_InvalidNet] at hm; cases hm; exact kit_ref ne_AtEnd_InvalidNet hd_AtEnd ty_AtEnd su_AtEnd_InvalidNet
        · rw [PySem.W.mg_of X G g_InvalidRoad] at hm; cases hm; exact kit_ref ne_AtEnd_InvalidRoad hd_AtEnd ty_AtEnd su_AtEnd_InvalidRoad
        · rw [PySem.W.mg_of X G g_NotThere] at hm; cases hm; exact kit_ref ne_AtEnd_NotThere hd_AtEnd ty_AtEnd su_AtEnd_NotThere
        · rw [PySem.W.mg_of X G g_NothingToUndo] at hm; cases hm; exact kit_ref ne_AtEnd_NothingToUndo hd_AtEnd ty_AtEnd su_AtEnd_NothingToUndo
    kt_InvalidNet := fun c C hc hm => by
        simp only [knownX, List.mem_cons, List.not_mem_nil, or_false] at hc
        rcases hc with rfl | rfl | rfl | rfl | rfl
        · rw [PySem.W.mg_of X G g_AtEnd] at hm; cases hm; exact kit_ref ne_InvalidNet_AtEnd hd_InvalidNet ty_InvalidNet su_InvalidNet_AtEnd
        · rw [PySem.W.mg_of X G g_InvalidNet] at hm; cases hm; exact kit_self
        · rw [PySem.W.mg_of X G g_InvalidRoad] at hm; cases hm; exact kit_ref ne_InvalidNet_InvalidRoad hd_InvalidNet ty_InvalidNet su_InvalidNet_InvalidRoad
        · rw [PySem.W.mg_of X G g_NotThere] at hm; cases hm; exact kit_ref ne_InvalidNet_NotThere hd_InvalidNet ty_InvalidNet su_InvalidNet_NotThere
        · rw [PySem.W.mg_of X G g_NothingToUndo] at hm; cases hm; exact kit_ref ne_InvalidNet_NothingToUndo hd_InvalidNet ty_InvalidNet su_InvalidNet_NothingToUndo
    kt_InvalidRoad := fun c C hc hm => by
        simp only [knownX, List.mem_cons, List.not_mem_nil, or_false] at hc
        rcases hc with rfl | rfl | rfl | rfl | rfl
        · rw [PySem.W.mg_of X G g_AtEnd] at hm; cases hm; exact kit_ref ne_InvalidRoad_AtEnd hd_InvalidRoad ty_InvalidRoad su_InvalidRoad_AtEnd
        · rw [PySem.W.mg_of X G g_InvalidNet] at hm; cases hm; exact kit_ref ne_InvalidRoad_InvalidNet hd_InvalidRoad ty_InvalidRoad su_InvalidRoad_InvalidNet
        · rw [PySem.W.mg_of X G g_InvalidRoad] at hm; cases hm; exact kit_self
        · rw [PySem.W.mg_of X G g_NotThere] at hm; cases hm; exact kit_ref ne_InvalidRoad_NotThere hd_InvalidRoad ty_InvalidRoad su_InvalidRoad_NotThere
        · rw [PySem.W.mg_of X G g_NothingToUndo] at hm; cases hm; exact kit_ref ne_InvalidRoad_NothingToUndo hd_InvalidRoad ty_InvalidRoad su_InvalidRoad_NothingToUndo
    kt_NotThere := fun c C hc hm => by
        simp only [knownX, List.mem_cons, List.not_mem_nil, or_false] at hc
        rcases hc with rfl | rfl | rfl | rfl | rfl
        · rw [PySem.W.mg_of X G g_AtEnd] at hm; cases hm; exact kit_ref ne_NotThere_AtEnd hd_NotThere ty_NotThere su_NotThere_AtEnd
        · rw [PySem.W.mg_of X G g_InvalidNet] at hm; cases hm; exact kit_ref ne_NotThere_InvalidNet hd_NotThere ty_NotThere su_NotThere_InvalidNet
        · rw [PySem.W.mg_of X G g_InvalidRoad] at hm; cases hm; exact kit_ref ne_NotThere_InvalidRoad hd_NotThere ty_NotThere su_NotThere_InvalidRoad
        · rw [PySem.W.mg_of X G g_NotThere] at hm; cases hm; exact kit_self
        · rw [PySem.W.mg_of X G g_NothingToUndo] at hm; cases hm; exact kit_ref ne_NotThere_NothingToUndo hd_NotThere ty_NotThere su_NotThere_NothingToUndo
    kt_NothingToUndo := fun c C hc hm => by
        simp only [knownX, List.mem_cons, List.not_mem_nil, or_false] at hc
        rcases hc with rfl | rfl | rfl | rfl | rfl
        · rw [PySem.W.mg_of X G g_AtEnd] at hm; cases hm; exact kit_ref ne_NothingToUndo_AtEnd hd_NothingToUndo ty_NothingToUndo su_NothingToUndo_AtEnd
        · rw [PySem.W.mg_of X G g_InvalidNet] at hm; cases hm; exact kit_ref ne_NothingToUndo_InvalidNet hd_NothingToUndo ty_NothingToUndo su_NothingToUndo_InvalidNet
        · rw [PySem.W.mg_of X G g_InvalidRoad] at hm; cases hm; exact kit_ref ne_NothingToUndo_InvalidRoad hd_NothingToUndo ty_NothingToUndo su_NothingToUndo_InvalidRoad
        · rw [PySem.W.mg_of X G g_NotThere] at hm; cases hm; exact kit_ref ne_NothingToUndo_NotThere hd_NothingToUndo ty_NothingToUndo su_NothingToUndo_NotThere
        · rw [PySem.W.mg_of X G g_NothingToUndo] at hm; cases hm; exact kit_self }
  exact ⟨(PySem.W.fnOf "law" "law" (defArgs s_law) (defBody s_law) (defScope s_law) .none kV_law dc_law pm_law an_law cd_law ct_law), fun s v => .of_eq rfl, fun base _ _ => (ok_law T).imp fun vs H Q E q => spT_of q⟩
end LW
open PySem PySem.W PyProof.Rows
set_option maxHeartbeats 0 in
theorem PySem.Challenge.cw_limitsigns_k64_trip_holds : PySem.Challenge.rw_limitsigns_k64_trip.Holds := by
  w_on; o_law; k_head; (case hw => w_witness2)
  k_fill
  refine L2.walk_of (l := PySem.Challenge.rw_limitsigns_k64_trip) (n := 63) (k := 10) (x := "script") (CX := fun w => L2.CX PySem.Challenge.rw_limitsigns_k64_trip.prog w) (sp := fun w => LW.spT _) rfl (by decide) rfl ⟨rfl, by decide, by decide⟩ (fun w h Y => PySem.W.kIn_of Y) ?F (fun _ _ a ns hl _ hS => ⟨a, ns, rfl, hS, hl, fun _ => rfl⟩) (fun _ _ _ _ _ h => by obtain ⟨_, _, _, _, _, _, _, _, _, _, _, _, z⟩ := h; exact z)
  case F =>
    intro w mg fa h KX G hmg
    refine' LW.all_mk KX G hmg ?aC ?pg ?hd ?po ?sa ?mkk ?kc ?n1 ?n2 ?n3 ?n4 ?a_is_int ?l_is_int ?c_is_int ?k_is_int ?a_are_signs ?l_are_signs ?c_are_signs ?k_are_signs ?a_is_road ?l_is_road ?c_is_road ?k_is_road ?a_is_net ?l_is_net ?c_is_net ?k_is_net ?a_check_net ?l_check_net ?c_check_net ?k_check_net ?a_check_road ?l_check_road ?c_check_road ?k_check_road ?a_find_followers ?l_find_followers ?c_find_followers ?k_find_followers ?a_find_standing ?l_find_standing ?c_find_standing ?k_find_standing ?a_pieces ?l_pieces ?c_pieces ?k_pieces ?a_go_over ?l_go_over ?c_go_over ?k_go_over ?a_T_init ?i_T_init ?l_T_init ?c_T_init ?k_T_init ?a_T_len ?i_T_len ?l_T_len ?c_T_len ?k_T_len ?a_T_place ?i_T_place ?l_T_place ?c_T_place ?k_T_place ?a_T_limit ?i_T_limit ?l_T_limit ?c_T_limit ?k_T_limit ?a_T_seen ?i_T_seen ?l_T_seen ?c_T_seen ?k_T_seen ?a_T_change ?i_T_change ?l_T_change ?c_T_change ?k_T_change ?a_T_go ?i_T_go ?l_T_go ?c_T_go ?k_T_go ?a_T_turn ?i_T_turn ?l_T_turn ?c_T_turn ?k_T_turn ?a_T_undo ?i_T_undo ?l_T_undo ?c_T_undo ?k_T_undo ?a_T_redo ?i_T_redo ?l_T_redo ?c_T_redo ?k_T_redo ?a_l_drawn ?l_l_drawn ?c_l_drawn ?k_l_drawn ?a_l_net ?l_l_net ?c_l_net ?k_l_net ?a_l_pieces ?l_l_pieces ?c_l_pieces ?k_l_pieces ?a_l_next ?l_l_next ?c_l_next ?k_l_next ?a_l_badnet ?l_l_badnet ?c_l_badnet ?k_l_badnet ?a_l_told ?l_l_told ?c_l_told ?k_l_told ?a_l_due ?l_l_due ?c_l_due ?k_l_due ?a_law ?l_law ?c_law ?k_law ?z_all ?z_bool ?z_enumerate ?z_int ?z_isinstance ?z_len ?z_list ?z_range ?z_tuple ?q_MAX_JUNCTION ?q_MAX_LIMIT ?q_MAX_ROADS ?q_MAX_SIGNS ?q_MIN_FAST ?g_AtEnd ?x_AtEnd ?kc_AtEnd ?sb_AtEnd ?ty_AtEnd ?g_InvalidNet ?x_InvalidNet ?kc_InvalidNet ?sb_InvalidNet ?ty_InvalidNet ?g_InvalidRoad ?x_InvalidRoad ?kc_InvalidRoad ?sb_InvalidRoad ?ty_InvalidRoad ?g_NotThere ?x_NotThere ?kc_NotThere ?sb_NotThere ?ty_NotThere ?g_NothingToUndo ?x_NothingToUndo ?kc_NothingToUndo ?sb_NothingToUndo ?ty_NothingToUndo ?g_LimitError ?hd_AtEnd ?su_AtEnd_InvalidNet ?ne_AtEnd_InvalidNet ?su_AtEnd_InvalidRoad ?ne_AtEnd_InvalidRoad ?su_AtEnd_NotThere ?ne_AtEnd_NotThere ?su_AtEnd_NothingToUndo ?ne_AtEnd_NothingToUndo ?hd_InvalidNet ?su_InvalidNet_AtEnd ?ne_InvalidNet_AtEnd ?su_InvalidNet_InvalidRoad ?ne_InvalidNet_InvalidRoad ?su_InvalidNet_NotThere ?ne_InvalidNet_NotThere ?su_InvalidNet_NothingToUndo ?ne_InvalidNet_NothingToUndo ?hd_InvalidRoad ?su_InvalidRoad_AtEnd ?ne_InvalidRoad_AtEnd ?su_InvalidRoad_InvalidNet ?ne_InvalidRoad_InvalidNet ?su_InvalidRoad_NotThere ?ne_InvalidRoad_NotThere ?su_InvalidRoad_NothingToUndo ?ne_InvalidRoad_NothingToUndo ?hd_LimitError ?sb_LimitError ?ty_LimitError ?su_LimitError_AtEnd ?su_LimitError_InvalidNet ?su_LimitError_InvalidRoad ?su_LimitError_NotThere ?su_LimitError_NothingToUndo ?hd_NotThere ?su_NotThere_AtEnd ?ne_NotThere_AtEnd ?su_NotThere_InvalidNet ?ne_NotThere_InvalidNet ?su_NotThere_InvalidRoad ?ne_NotThere_InvalidRoad ?su_NotThere_NothingToUndo ?ne_NotThere_NothingToUndo ?hd_NothingToUndo ?su_NothingToUndo_AtEnd ?ne_NothingToUndo_AtEnd ?su_NothingToUndo_InvalidNet ?ne_NothingToUndo_InvalidNet ?su_NothingToUndo_InvalidRoad ?ne_NothingToUndo_InvalidRoad ?su_NothingToUndo_NotThere ?ne_NothingToUndo_NotThere ?ec_AtEnd ?ec_InvalidNet ?ec_InvalidRoad ?ec_NotThere ?ec_NothingToUndo
    (case aC => k_is); (case pg => k_is); (case hd => k_is); (case po => k_is); (case sa => k_is); (case mkk => k_is); (case kc => k_is); (case n1 => k_is); (case n2 => k_is); (case n3 => k_is); (case n4 => k_is); (case a_is_int => k_is); (case l_is_int => k_is); (case c_is_int => k_is); (case k_is_int => k_is); (case a_are_signs => k_is); (case l_are_signs => k_is); (case c_are_signs => k_is); (case k_are_signs => k_is); (case a_is_road => k_is); (case l_is_road => k_is); (case c_is_road => k_is); (case k_is_road => k_is); (case a_is_net => k_is); (case l_is_net => k_is); (case c_is_net => k_is); (case k_is_net => k_is); (case a_check_net => k_is); (case l_check_net => k_is); (case c_check_net => k_is); (case k_check_net => k_is); (case a_check_road => k_is); (case l_check_road => k_is); (case c_check_road => k_is); (case k_check_road => k_is); (case a_find_followers => k_is); (case l_find_followers => k_is); (case c_find_followers => k_is); (case k_find_followers => k_is); (case a_find_standing => k_is); (case l_find_standing => k_is); (case c_find_standing => k_is); (case k_find_standing => k_is); (case a_pieces => k_is); (case l_pieces => k_is); (case c_pieces => k_is); (case k_pieces => k_is); (case a_go_over => k_is); (case l_go_over => k_is); (case c_go_over => k_is); (case k_go_over => k_is); (case a_T_init => k_is); (case i_T_init => k_is); (case l_T_init => k_is); (case c_T_init => k_is); (case k_T_init => k_is); (case a_T_len => k_is); (case i_T_len => k_is); (case l_T_len => k_is); (case c_T_len => k_is); (case k_T_len => k_is); (case a_T_place => k_is); (case i_T_place => k_is); (case l_T_place => k_is); (case c_T_place => k_is); (case k_T_place => k_is); (case a_T_limit => k_is); (case i_T_limit => k_is); (case l_T_limit => k_is); (case c_T_limit => k_is); (case k_T_limit => k_is); (case a_T_seen => k_is); (case i_T_seen => k_is); (case l_T_seen => k_is); (case c_T_seen => k_is); (case k_T_seen => k_is); (case a_T_change => k_is); (case i_T_change => k_is); (case l_T_change => k_is); (case c_T_change => k_is); (case k_T_change => k_is); (case a_T_go => k_is); (case i_T_go => k_is); (case l_T_go => k_is); (case c_T_go => k_is); (case k_T_go => k_is); (case a_T_turn => k_is); (case i_T_turn => k_is); (case l_T_turn => k_is); (case c_T_turn => k_is); (case k_T_turn => k_is); (case a_T_undo => k_is); (case i_T_undo => k_is); (case l_T_undo => k_is); (case c_T_undo => k_is); (case k_T_undo => k_is); (case a_T_redo => k_is); (case i_T_redo => k_is); (case l_T_redo => k_is); (case c_T_redo => k_is); (case k_T_redo => k_is); (case a_l_drawn => k_is); (case l_l_drawn => k_is); (case c_l_drawn => k_is); (case k_l_drawn => k_is); (case a_l_net => k_is); (case l_l_net => k_is); (case c_l_net => k_is); (case k_l_net => k_is); (case a_l_pieces => k_is); (case l_l_pieces => k_is); (case c_l_pieces => k_is); (case k_l_pieces => k_is); (case a_l_next => k_is); (case l_l_next => k_is); (case c_l_next => k_is); (case k_l_next => k_is); (case a_l_badnet => k_is); (case l_l_badnet => k_is); (case c_l_badnet => k_is); (case k_l_badnet => k_is); (case a_l_told => k_is); (case l_l_told => k_is); (case c_l_told => k_is); (case k_l_told => k_is); (case a_l_due => k_is); (case l_l_due => k_is); (case c_l_due => k_is); (case k_l_due => k_is); (case a_law => k_is); (case l_law => k_is); (case c_law => k_is); (case k_law => k_is); (case z_all => k_is); (case z_bool => k_is); (case z_enumerate => k_is); (case z_int => k_is); (case z_isinstance => k_is); (case z_len => k_is); (case z_list => k_is); (case z_range => k_is); (case z_tuple => k_is); (case q_MAX_JUNCTION => k_is); (case q_MAX_LIMIT => k_is); (case q_MAX_ROADS => k_is); (case q_MAX_SIGNS => k_is); (case q_MIN_FAST => k_is); (case g_AtEnd => k_is); (case x_AtEnd => k_exc); (case kc_AtEnd => k_is); (case sb_AtEnd => k_is); (case ty_AtEnd => k_is); (case g_InvalidNet => k_is); (case x_InvalidNet => k_exc); (case kc_InvalidNet => k_is); (case sb_InvalidNet => k_is); (case ty_InvalidNet => k_is); (case g_InvalidRoad => k_is); (case x_InvalidRoad => k_exc); (case kc_InvalidRoad => k_is); (case sb_InvalidRoad => k_is); (case ty_InvalidRoad => k_is); (case g_NotThere => k_is); (case x_NotThere => k_exc); (case kc_NotThere => k_is); (case sb_NotThere => k_is); (case ty_NotThere => k_is); (case g_NothingToUndo => k_is); (case x_NothingToUndo => k_exc); (case kc_NothingToUndo => k_is); (case sb_NothingToUndo => k_is); (case ty_NothingToUndo => k_is); (case g_LimitError => k_is); (case hd_AtEnd => k_is); (case su_AtEnd_InvalidNet => k_is); (case ne_AtEnd_InvalidNet => decide); (case su_AtEnd_InvalidRoad => k_is); (case ne_AtEnd_InvalidRoad => decide); (case su_AtEnd_NotThere => k_is); (case ne_AtEnd_NotThere => decide); (case su_AtEnd_NothingToUndo => k_is); (case ne_AtEnd_NothingToUndo => decide); (case hd_InvalidNet => k_is); (case su_InvalidNet_AtEnd => k_is); (case ne_InvalidNet_AtEnd => decide); (case su_InvalidNet_InvalidRoad => k_is); (case ne_InvalidNet_InvalidRoad => decide); (case su_InvalidNet_NotThere => k_is); (case ne_InvalidNet_NotThere => decide); (case su_InvalidNet_NothingToUndo => k_is); (case ne_InvalidNet_NothingToUndo => decide); (case hd_InvalidRoad => k_is); (case su_InvalidRoad_AtEnd => k_is); (case ne_InvalidRoad_AtEnd => decide); (case su_InvalidRoad_InvalidNet => k_is); (case ne_InvalidRoad_InvalidNet => decide); (case su_InvalidRoad_NotThere => k_is); (case ne_InvalidRoad_NotThere => decide); (case su_InvalidRoad_NothingToUndo => k_is); (case ne_InvalidRoad_NothingToUndo => decide); (case hd_LimitError => k_is); (case sb_LimitError => k_is); (case ty_LimitError => k_is); (case su_LimitError_AtEnd => k_is); (case su_LimitError_InvalidNet => k_is); (case su_LimitError_InvalidRoad => k_is); (case su_LimitError_NotThere => k_is); (case su_LimitError_NothingToUndo => k_is); (case hd_NotThere => k_is); (case su_NotThere_AtEnd => k_is); (case ne_NotThere_AtEnd => decide); (case su_NotThere_InvalidNet => k_is); (case ne_NotThere_InvalidNet => decide); (case su_NotThere_InvalidRoad => k_is); (case ne_NotThere_InvalidRoad => decide); (case su_NotThere_NothingToUndo => k_is); (case ne_NotThere_NothingToUndo => decide); (case hd_NothingToUndo => k_is); (case su_NothingToUndo_AtEnd => k_is); (case ne_NothingToUndo_AtEnd => decide); (case su_NothingToUndo_InvalidNet => k_is); (case ne_NothingToUndo_InvalidNet => decide); (case su_NothingToUndo_InvalidRoad => k_is); (case ne_NothingToUndo_InvalidRoad => decide); (case su_NothingToUndo_NotThere => k_is); (case ne_NothingToUndo_NotThere => decide); (case ec_AtEnd => constructor <;> k_is); (case ec_InvalidNet => constructor <;> k_is); (case ec_InvalidRoad => constructor <;> k_is); (case ec_NotThere => constructor <;> k_is); (case ec_NothingToUndo => constructor <;> k_is)
