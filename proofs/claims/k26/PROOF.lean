import PyProof.Rows.All
import HandS.ForMost
import HandS.ForExc
import HandS.IsInst
import HandS.Zip
import HandS.Deep
import HandS.TupAny
import HandS.Wide
import HandS.Walk
import HandS.Style
import HandS.Codes
import KE.GoesNew
import HandS.TupMul
import HandS.More
import HandS.Conv
import HandS.Set
import HandS.Strs
import HandS.Words
import KE.SortData
import HandS.SetFor
import HandS.ExcIs
import HandS.Nested
import HandS.HotCalls
import HandS.EndTab
import KE.KNest
import KE.KNestM
import PySem.Challenge.RW_limitsigns_k26_errors
set_option Elab.async false
set_option linter.all false
set_option maxRecDepth 100000
set_option autoImplicit false
/-! Den1: what a piece of the text denotes over plain data: results, data in a frozen part of the heap, environments by slots. -/
namespace DN
open PySem PySem.Spec PyProof.Rows L2

/-! ### results -/
inductive Rs (α : Type) where
  | ok (a : α)
  | err (c : Str)
  | bad
def Rs.bind {α β : Type} : Rs α → (α → Rs β) → Rs β
  | .ok a, k => k a
  | .err c, _ => .err c
  | .bad, _ => .bad
@[simp] theorem bind_ok {α β : Type} (a : α) (k : α → Rs β) : (Rs.ok a).bind k = k a := rfl
@[simp] theorem bind_err {α β : Type} (c : Str) (k : α → Rs β) : (Rs.err c).bind k = .err c := rfl
@[simp] theorem bind_bad {α β : Type} (k : α → Rs β) : (Rs.bad : Rs α).bind k = .bad := rfl

/-! ### data over a part F of the heap that stays -/
mutual
inductive DD (F : Hp) : V → PyData → Prop
  | non : DD F .non .none
  | bl (b : Bool) : DD F (.bl b) (.bool b)
  | int (i : Int) : DD F (.int i) (.int i)
  | str (x : Str) : DD F (.str x) (.str x)
  | lst {a : Addr} {xs : List V} {ds : List PyData} : F a = some (.lst xs) → DDs F xs ds → DD F (.ref a) (.list ds)
  | tup {a : Addr} {xs : List V} {ds : List PyData} : F a = some (.tup xs) → DDs F xs ds → DD F (.ref a) (.tuple ds)
inductive DDs (F : Hp) : List V → List PyData → Prop
  | nil : DDs F [] []
  | cons {v : V} {vs : List V} {d : PyData} {ds : List PyData} : DD F v d → DDs F vs ds → DDs F (v :: vs) (d :: ds)
end
section
variable {F F' : Hp}
mutual
theorem DD.mono (e : Same F F') : ∀ (d : PyData) (v : V), DD F v d → DD F' v d
  | .none, _, .non => .non
  | .bool _, _, .bl b => .bl b
  | .int _, _, .int i => .int i
  | .str _, _, .str x => .str x
  | .list ds, _, .lst h r => .lst (e _ _ h) (DDs.mono e ds _ r)
  | .tuple ds, _, .tup h r => .tup (e _ _ h) (DDs.mono e ds _ r)
theorem DDs.mono (e : Same F F') : ∀ (ds : List PyData) (vs : List V), DDs F vs ds → DDs F' vs ds
  | [], _, .nil => .nil
  | d :: ds, _, .cons h r => .cons (DD.mono e d _ h) (DDs.mono e ds _ r)
end
mutual
theorem DD.dp {K : PySem.W.Frag} {H : Hp} (e : Same F H) : ∀ (d : PyData) (v : V), DD F v d → Dp K H v d
  | .none, _, .non => .non
  | .bool _, _, .bl b => .bl b
  | .int _, _, .int i => .int i
  | .str _, _, .str x => .str x
  | .list ds, _, .lst h r => .lst (SqL.of (e _ _ h)) (DDs.dp e ds _ r)
  | .tuple ds, _, .tup h r => .tup (SqT.of (e _ _ h)) (DDs.dp e ds _ r)
theorem DDs.dp {K : PySem.W.Frag} {H : Hp} (e : Same F H) : ∀ (ds : List PyData) (vs : List V), DDs F vs ds → DpAll K H vs ds
  | [], _, .nil => .nil
  | d :: ds, _, .cons h r => .cons (DD.dp e d _ h) (DDs.dp e ds _ r)
end
theorem DDs.len : ∀ {ds : List PyData} {vs : List V}, DDs F vs ds → vs.length = ds.length
  | [], _, .nil => rfl
  | d :: ds, _, .cons _ r => congrArg (· + 1) (DDs.len r)
theorem DDs.get : ∀ {ds : List PyData} {vs : List V} {i : Nat} {d : PyData}, DDs F vs ds → ds[i]? = some d → ∃ v, vs[i]? = some v ∧ DD F v d
  | d :: ds, _, 0, _, .cons h _, e => by simp at e; subst e; exact ⟨_, rfl, h⟩
  | d :: ds, _, i + 1, _, .cons _ r, e => by
    obtain ⟨v, a, b⟩ := DDs.get (i := i) r (by simpa using e)
    exact ⟨v, by simpa using a, b⟩
theorem DDs.getV : ∀ {ds : List PyData} {vs : List V} {i : Nat} {v : V}, DDs F vs ds → vs[i]? = some v → ∃ d, ds[i]? = some d ∧ DD F v d
  | d :: ds, _, 0, _, .cons h _, e => by simp at e; subst e; exact ⟨_, rfl, h⟩
  | d :: ds, _, i + 1, _, .cons _ r, e => by
    obtain ⟨v, a, b⟩ := DDs.getV (i := i) r (by simpa using e)
    exact ⟨v, by simpa using a, b⟩
  | [], _, _, _, .nil, e => by simp at e
theorem DDs.app : ∀ {ds es : List PyData} {vs ws : List V}, DDs F vs ds → DDs F ws es → DDs F (vs ++ ws) (ds ++ es)
  | [], _, _, _, .nil, s => s
  | _ :: _, _, _, _, .cons h r, s => .cons h (DDs.app r s)
theorem DDs.take : ∀ {ds : List PyData} {vs : List V} (n : Nat), DDs F vs ds → DDs F (vs.take n) (ds.take n)
  | _, _, 0, _ => by simp; exact .nil
  | [], _, _ + 1, .nil => .nil
  | _ :: _, _, n + 1, .cons h r => .cons h (DDs.take n r)
theorem DDs.drop : ∀ {ds : List PyData} {vs : List V} (n : Nat), DDs F vs ds → DDs F (vs.drop n) (ds.drop n)
  | _, _, 0, r => by simpa using r
  | [], _, _ + 1, .nil => .nil
  | _ :: _, _, n + 1, .cons h r => DDs.drop n r
theorem DDs.set {v : V} {d : PyData} (h : DD F v d) : ∀ {ds : List PyData} {vs : List V} (n : Nat), DDs F vs ds → DDs F (vs.set n v) (ds.set n d)
  | [], _, _, .nil => .nil
  | _ :: _, _, 0, .cons _ r => .cons h r
  | _ :: _, _, n + 1, .cons g r => .cons g (DDs.set h n r)
theorem DDs.ints : ∀ (ns : List Int), DDs F (ns.map V.int) (ns.map PyData.int)
  | [] => .nil
  | n :: ns => .cons (.int n) (DDs.ints ns)
/-- the values of a list of ints -/
theorem DDs.ofInts : ∀ {ns : List Int} {vs : List V}, DDs F vs (ns.map PyData.int) → vs = ns.map V.int
  | [], _, .nil => rfl
  | n :: ns, _, .cons (.int _) r => by rw [DDs.ofInts r]; rfl
theorem DDs.ofBools : ∀ {ns : List Bool} {vs : List V}, DDs F vs (ns.map PyData.bool) → vs = ns.map V.bl
  | [], _, .nil => rfl
  | n :: ns, _, .cons (.bl _) r => by rw [DDs.ofBools r]; rfl
theorem DDs.ofStrs : ∀ {ns : List Str} {vs : List V}, DDs F vs (ns.map PyData.str) → vs = ns.map V.str
  | [], _, .nil => rfl
  | n :: ns, _, .cons (.str _) r => by rw [DDs.ofStrs r]; rfl
end

/-! ### what a slot may hold -/
/-- a trip: its net, where it stands, what is done, what is undone -/
structure Ob where
  n : PyData
  p : PyData
  D : List PyData
  U : List PyData
inductive R where
  /-- data that stays -/
  | val (d : PyData)
  /-- a list of ours that nobody else holds; its items stay -/
  | own (xs : List PyData)
  /-- a dict of ours, its keys tuples; ints and texts -/
  | dct (kvs : List (List Key × PyData))
  | dck (kvs : List (Key × PyData))
  /-- the script -/
  | scr (ns : List Int)
  /-- a value as it is (a caught exception) -/
  | raw (v : V)
  /-- a dict that stays, its keys tuples -/
  | dfz (kvs : List (List Key × PyData))
  /-- an instance of ours of the class at c; its address, if it was handed in -/
  | obj (id : Option Addr) (c : Addr) (o : Ob)
  /-- an instance that is only looked at -/
  | vie (c : Addr) (n p : PyData)
def R.isOwn : R → Bool
  | .own _ => true
  | .dct _ => true
  | .dck _ => true
  | .obj _ _ _ => true
  | _ => false
abbrev KD {κ : Type} (F : Hp) : List (κ × V) → List (κ × PyData) → Prop := Paired fun (p : κ × V) (q : κ × PyData) => p.1 = q.1 ∧ DD F p.2 q.2
/-- the class of trips: its fields are the instances' own -/
structure TripC (K : PySem.W.Frag) (c : Addr) : Prop where
  cls : L2.Cls K c
  n : L2.NoAttr K c "net"
  p : L2.NoAttr K c "present"
  d : L2.NoAttr K c "done"
  u : L2.NoAttr K c "undone"
def flds (v1 v2 : V) (l1 l2 : Addr) : List (Str × V) := [("net", v1), ("present", v2), ("done", .ref l1), ("undone", .ref l2)]
/-- the instance at a with its dict and its two lists -/
def ObAt (F H : Hp) (a c dx l1 l2 : Addr) (o : Ob) : Prop := ∃ v1 v2 us1 us2, H a = some (.ins c dx (flds v1 v2 l1 l2)) ∧ H dx = some (.own a) ∧ H l1 = some (.lst us1) ∧ H l2 = some (.lst us2) ∧ l1 ≠ l2 ∧
  DD F v1 o.n ∧ DD F v2 o.p ∧ DDs F us1 o.D ∧ DDs F us2 o.U
def Rep (K : PySem.W.Frag) (F H : Hp) (v : V) : R → Prop
  | .val d => DD F v d
  | .own xs => ∃ p vs, v = .ref p ∧ H p = some (.lst vs) ∧ F p = none ∧ DDs F vs xs
  | .dct kvs => ∃ p ws, v = .ref p ∧ H p = some (.dT ws) ∧ F p = none ∧ KD F ws kvs
  | .dck kvs => ∃ p ws, v = .ref p ∧ H p = some (.dK ws) ∧ F p = none ∧ KD F ws kvs
  | .scr ns => ∃ a, v = .ref a ∧ SqL K F a (ns.map V.int)
  | .raw u => v = u
  | .dfz kvs => ∃ p o ws, v = .ref p ∧ F p = some (.frz o (.dT ws)) ∧ KD F ws kvs
  | .obj id c o => ∃ a dx l1 l2, v = .ref a ∧ ((∀ b, id = some b → a = b) ∧ TripC K c) ∧ ObAt F H a c dx l1 l2 o ∧ F a = none ∧ F dx = none ∧ F l1 = none ∧ F l2 = none
  | .vie c n d => TripC K c ∧ ∃ a dx l1 l2 v1 v2, v = .ref a ∧ F a = some (.ins c dx (flds v1 v2 l1 l2)) ∧ DD F v1 n ∧ DD F v2 d
/-- the cells of a thing of ours -/
def Cell (H : Hp) (v : V) : R → Addr → Prop
  | .own _, q => v = .ref q
  | .dct _, q => v = .ref q
  | .dck _, q => v = .ref q
  | .obj _ c _, q => ∃ a dx v1 v2 l1 l2, v = .ref a ∧ H a = some (.ins c dx (flds v1 v2 l1 l2)) ∧ (q = a ∨ q = dx ∨ q = l1 ∨ q = l2)
  | _, _ => False
theorem ObAt.mono {F F' H H' : Hp} {a c dx l1 l2 : Addr} {o : Ob} (e : Same F F') (g : Same H H') (h : ObAt F H a c dx l1 l2 o) : ObAt F' H' a c dx l1 l2 o := by
  obtain ⟨v1, v2, us1, us2, h1, h2, h3, h4, h5, h6, h7, h8, h9⟩ := h
  exact ⟨v1, v2, us1, us2, g _ _ h1, g _ _ h2, g _ _ h3, g _ _ h4, h5, DD.mono e _ _ h6, DD.mono e _ _ h7, DDs.mono e _ _ h8, DDs.mono e _ _ h9⟩
/-- the same where only other cells change -/
theorem ObAt.away {F H H' : Hp} {a c dx l1 l2 : Addr} {o : Ob} (g : ∀ q, q = a ∨ q = dx ∨ q = l1 ∨ q = l2 → H' q = H q) (h : ObAt F H a c dx l1 l2 o) : ObAt F H' a c dx l1 l2 o := by
  obtain ⟨v1, v2, us1, us2, h1, h2, h3, h4, r⟩ := h
  exact ⟨v1, v2, us1, us2, by rw [g a (.inl rfl)]; exact h1, by rw [g dx (.inr (.inl rfl))]; exact h2, by rw [g l1 (.inr (.inr (.inl rfl)))]; exact h3, by rw [g l2 (.inr (.inr (.inr rfl)))]; exact h4, r⟩
theorem Cell.here {K : PySem.W.Frag} {F H : Hp} {v : V} {r : R} {q : Addr} (h : Rep K F H v r) (c : Cell H v r q) : F q = none ∧ ∃ o, H q = some o ∧ ∀ xs, o ≠ .tup xs := by
  cases r with
  | own _ => obtain ⟨p, vs, rfl, a, b, _⟩ := h; cases c; exact ⟨b, _, a, fun _ z => by cases z⟩
  | dct _ => obtain ⟨p, vs, rfl, a, b, _⟩ := h; cases c; exact ⟨b, _, a, fun _ z => by cases z⟩
  | dck _ => obtain ⟨p, vs, rfl, a, b, _⟩ := h; cases c; exact ⟨b, _, a, fun _ z => by cases z⟩
  | obj id k o =>
    obtain ⟨a, dx, l1, l2, rfl, _, ⟨v1, v2, us1, us2, h1, h2, h3, h4, _⟩, f1, f2, f3, f4⟩ := h
    obtain ⟨a', dx', w1, w2, m1, m2, e, g, hq⟩ := c
    cases e
    rw [h1] at g
    cases g
    rcases hq with rfl | rfl | rfl | rfl
    · exact ⟨f1, _, h1, fun _ z => by cases z⟩
    · exact ⟨f2, _, h2, fun _ z => by cases z⟩
    · exact ⟨f3, _, h3, fun _ z => by cases z⟩
    · exact ⟨f4, _, h4, fun _ z => by cases z⟩
  | _ => exact c.elim
/-- its cells lie where they lay -/
theorem Cell.back {K : PySem.W.Frag} {F H H' : Hp} {v : V} {r : R} {q : Addr} (h : Rep K F H v r) (e : Same H H') (c : Cell H' v r q) : Cell H v r q := by
  cases r with
  | obj id k o =>
    obtain ⟨a, dx, l1, l2, rfl, _, ⟨v1, v2, us1, us2, h1, _⟩, _⟩ := h
    obtain ⟨a', dx', w1, w2, m1, m2, e', g, hq⟩ := c
    cases e'
    rw [e _ _ h1] at g
    cases g
    exact ⟨a, dx, v1, v2, l1, l2, rfl, h1, hq⟩
  | _ => exact c
theorem Cell.own {H : Hp} {v : V} {r : R} {q : Addr} (c : Cell H v r q) : r.isOwn = true := by
  cases r with
  | own _ => rfl
  | dct _ => rfl
  | dck _ => rfl
  | obj _ _ _ => rfl
  | _ => exact c.elim
/-- its first cell -/
theorem Cell.top {K : PySem.W.Frag} {F H : Hp} {r : R} {p : Addr} (h : Rep K F H (.ref p) r) (o : r.isOwn = true) : Cell H (.ref p) r p := by
  cases r with
  | own _ => rfl
  | dct _ => rfl
  | dck _ => rfl
  | obj id k b =>
    obtain ⟨a, dx, l1, l2, e, _, ⟨v1, v2, us1, us2, h1, _⟩, _⟩ := h
    cases e
    exact ⟨p, dx, v1, v2, l1, l2, rfl, h1, .inl rfl⟩
  | _ => cases o

/-! ### heaps that grow -/
/-- nothing lies there, or a tuple (which never changes) -/
def Okn (H : Hp) (a : Addr) : Prop := ∀ o, H a = some o → ∃ xs, o = .tup xs
theorem Okn.none {H : Hp} {a : Addr} (h : H a = none) : Okn H a := fun o e => by rw [h] at e; cases e
theorem Okn.back {H H1 : Hp} {a : Addr} (e : Same H H1) (h : Okn H1 a) : Okn H a := fun o q => h o (e _ _ q)
structure Ext (F H F' H' : Hp) : Prop where
  old : Same F H
  ff : Same F F'
  hh : Same H H'
  sub : Same F' H'
  new : ∀ a, F' a ≠ none → F a ≠ none ∨ Okn H a
section
variable {F H F' H' F1 H1 F2 H2 : Hp} {K : PySem.W.Frag}
theorem Ext.refl (h : Same F H) : Ext F H F H := ⟨h, Same.refl _, Same.refl _, h, fun _ q => .inl q⟩
theorem Ext.trans (a : Ext F H F1 H1) (b : Ext F1 H1 F2 H2) : Ext F H F2 H2 :=
  ⟨a.old, a.ff.trans b.ff, a.hh.trans b.hh, b.sub, fun x q => by
    rcases b.new x q with h | h
    · exact a.new x h
    · exact .inr (h.back a.hh)⟩
/-- the heap grew, what we know did not -/
theorem Ext.more (h : Same F H) (e : Same H H') : Ext F H F H' := ⟨h, Same.refl _, e, h.trans e, fun _ q => .inl q⟩
theorem same_new {H : Hp} {p : Addr} {o : HO} (h : H p = none) : Same H (upd H p o) := fun b x e => by
  rw [upd_ne (ne_of_none e h)]; exact e
theorem same_upd2 {F H : Hp} {p : Addr} {o : HO} (h : Same F H) : Same (upd F p o) (upd H p o) := fun b x e => by
  by_cases q : b = p
  · subst q; rw [upd_same] at *; exact e
  · rw [upd_ne q] at *; exact h _ _ e
/-- a new object that stays -/
theorem Ext.add {p : Addr} {o : HO} (h : Same F H) (n : H p = none) : Ext F H (upd F p o) (upd H p o) :=
  ⟨h, same_new (h.free n), same_new n, same_upd2 h, fun a q => by
    by_cases e : a = p
    · subst e; exact .inr (.none n)
    · rw [upd_ne e] at q; exact .inl q⟩
/-- a new object of ours -/
theorem Ext.addH {p : Addr} {o : HO} (h : Same F H) (n : H p = none) : Ext F H F (upd H p o) := Ext.more h (same_new n)
/-- an object of ours stays from now on -/
theorem Ext.freeze {p : Addr} {o : HO} (e : Ext F H F' H') (hp : H' p = some o) (hf : F' p = none) (n : H p = none) : Ext F H (upd F' p o) H' where
  old := e.old
  ff := e.ff.trans (same_new hf)
  hh := e.hh
  sub := fun b x q => by
    by_cases z : b = p
    · subst z; rw [upd_same] at q; rw [hp]; exact q
    · rw [upd_ne z] at q; exact e.sub _ _ q
  new := fun a q => by
    by_cases z : a = p
    · subst z; exact .inr (.none n)
    · rw [upd_ne z] at q; exact e.new a q
theorem Ext.own {p : Addr} {o : HO} (e : Ext F H F' H') (hp : H p = some o) (n : F p = none) (ho : ∀ xs, o ≠ .tup xs := by intro _ z; cases z) : F' p = none := by
  cases q : F' p with
  | none => rfl
  | some y =>
    rcases e.new p (by rw [q]; exact fun z => nomatch z) with h | h
    · exact absurd n h
    · obtain ⟨xs, z⟩ := h _ hp
      exact absurd z (ho xs)
theorem KD.mono {κ : Type} (e : Same F F') : ∀ {ws : List (κ × V)} {kvs : List (κ × PyData)}, KD F ws kvs → KD F' ws kvs
  | _, _, .nil => .nil
  | _, _, .cons r t => .cons ⟨r.1, DD.mono e _ _ r.2⟩ (KD.mono e t)
theorem same_l {a : Addr} {xs : List V} (e : Same F F') (h : SqL K F a xs) : SqL K F' a xs := e.seq h
theorem Rep.step {v : V} {r : R} (e : Ext F H F' H') (h : Rep K F H v r) : Rep K F' H' v r := by
  cases r with
  | val d => exact DD.mono e.ff _ _ h
  | own xs =>
    obtain ⟨p, vs, rfl, a, b, c⟩ := h
    exact ⟨p, vs, rfl, e.hh _ _ a, e.own a b, DDs.mono e.ff _ _ c⟩
  | dct xs =>
    obtain ⟨p, vs, rfl, a, b, c⟩ := h
    exact ⟨p, vs, rfl, e.hh _ _ a, e.own a b, KD.mono e.ff c⟩
  | dck xs =>
    obtain ⟨p, vs, rfl, a, b, c⟩ := h
    exact ⟨p, vs, rfl, e.hh _ _ a, e.own a b, KD.mono e.ff c⟩
  | scr ns =>
    obtain ⟨a, rfl, h⟩ := h
    exact ⟨a, rfl, same_l e.ff h⟩
  | raw u => exact h
  | dfz kvs =>
    obtain ⟨p, o, ws, rfl, a, b⟩ := h
    exact ⟨p, o, ws, rfl, e.ff _ _ a, KD.mono e.ff b⟩
  | obj id c o =>
    obtain ⟨a, dx, l1, l2, rfl, hi, hb, f1, f2, f3, f4⟩ := h
    obtain ⟨v1, v2, us1, us2, h1, h2, h3, h4, r⟩ := _root_.id hb
    exact ⟨a, dx, l1, l2, rfl, hi, hb.mono e.ff e.hh, e.own h1 f1, e.own h2 f2, e.own h3 f3, e.own h4 f4⟩
  | vie c n d =>
    obtain ⟨tc, a, dx, l1, l2, v1, v2, rfl, h1, h2, h3⟩ := h
    exact ⟨tc, a, dx, l1, l2, v1, v2, rfl, e.ff _ _ h1, DD.mono e.ff _ _ h2, DD.mono e.ff _ _ h3⟩
end
/-- a thing stays what it is where a cell of another thing changes -/
theorem Rep.move {K : PySem.W.Frag} {F F' H H' : Hp} {w : V} {y : R} {p : Addr} (sm : Same F F') (hH : ∀ q, q ≠ p → H' q = H q) (hF : ∀ q, q ≠ p → F' q = F q) (b : Rep K F H w y) (nc : ¬ Cell H w y p) :
    Rep K F' H' w y ∧ ∀ q, Cell H' w y q → Cell H w y q := by
  cases y with
  | val d => exact ⟨DD.mono sm _ _ b, fun _ z => z⟩
  | scr ns => obtain ⟨c, rfl, q⟩ := b; exact ⟨⟨c, rfl, same_l sm q⟩, fun _ z => z⟩
  | raw u => exact ⟨b, fun _ z => z⟩
  | dfz _ => obtain ⟨q, o, us, rfl, b1, b2⟩ := b; exact ⟨⟨q, o, us, rfl, sm _ _ b1, KD.mono sm b2⟩, fun _ z => z⟩
  | vie c n d =>
    obtain ⟨tc, a, dx, l1, l2, v1, v2, rfl, h1, h2, h3⟩ := b
    exact ⟨⟨tc, a, dx, l1, l2, v1, v2, rfl, sm _ _ h1, DD.mono sm _ _ h2, DD.mono sm _ _ h3⟩, fun _ z => z⟩
  | own _ =>
    obtain ⟨q, us, rfl, b1, b2, b3⟩ := b
    have ne : q ≠ p := fun z => nc (by subst z; exact rfl)
    exact ⟨⟨q, us, rfl, by rw [hH _ ne]; exact b1, by rw [hF _ ne]; exact b2, DDs.mono sm _ _ b3⟩, fun _ z => z⟩
  | dct _ =>
    obtain ⟨q, us, rfl, b1, b2, b3⟩ := b
    have ne : q ≠ p := fun z => nc (by subst z; exact rfl)
    exact ⟨⟨q, us, rfl, by rw [hH _ ne]; exact b1, by rw [hF _ ne]; exact b2, KD.mono sm b3⟩, fun _ z => z⟩
  | dck _ =>
    obtain ⟨q, us, rfl, b1, b2, b3⟩ := b
    have ne : q ≠ p := fun z => nc (by subst z; exact rfl)
    exact ⟨⟨q, us, rfl, by rw [hH _ ne]; exact b1, by rw [hF _ ne]; exact b2, KD.mono sm b3⟩, fun _ z => z⟩
  | obj id c o =>
    obtain ⟨a, dx, l1, l2, rfl, hi, hb, f1, f2, f3, f4⟩ := b
    obtain ⟨v1, v2, us1, us2, h1, h2, h3, h4, r⟩ := _root_.id hb
    have ne : ∀ q, q = a ∨ q = dx ∨ q = l1 ∨ q = l2 → q ≠ p := fun q hq z => nc ⟨a, dx, v1, v2, l1, l2, rfl, h1, z ▸ hq⟩
    refine ⟨⟨a, dx, l1, l2, rfl, hi, (hb.away fun q hq => hH q (ne q hq)).mono sm (Same.refl _), by rw [hF _ (ne a (.inl rfl))]; exact f1, by rw [hF _ (ne dx (.inr (.inl rfl)))]; exact f2,
      by rw [hF _ (ne l1 (.inr (.inr (.inl rfl))))]; exact f3, by rw [hF _ (ne l2 (.inr (.inr (.inr rfl))))]; exact f4⟩, fun q z => ?_⟩
    obtain ⟨a', dx', w1, w2, m1, m2, e', g, hq⟩ := z
    cases e'
    rw [hH _ (ne a (.inl rfl))] at g
    exact ⟨a, dx', w1, w2, m1, m2, rfl, g, hq⟩

/-! ### environments -/
abbrev Ev := List (Option R)
/-- G: what must stay; H0: the def's entry -/
structure Base (G H0 F H : Hp) : Prop where
  keep : Same G F
  hh : Same H0 H
  sub : Same F H
  new : ∀ a, F a ≠ none → G a ≠ none ∨ Okn H0 a
section
variable {G H0 F H F' H' F1 H1 : Hp}
theorem Base.refl (h : Same F H) : Base F H F H := ⟨Same.refl _, Same.refl _, h, fun _ q => .inl q⟩
theorem Base.step (b : Base G H0 F H) (e : Ext F H F' H') : Base G H0 F' H' :=
  ⟨b.keep.trans e.ff, b.hh.trans e.hh, e.sub, fun x q => by
    rcases e.new x q with h | h
    · exact b.new x h
    · exact .inr (h.back b.hh)⟩
theorem Base.ext (h : Same F H) (b : Base F H F' H') : Ext F H F' H' := ⟨h, b.keep, b.hh, b.sub, b.new⟩
theorem Base.re (b : Base G H0 F1 H1) (c : Base F1 H0 F' H') : Base G H0 F' H' :=
  ⟨b.keep.trans c.keep, c.hh, c.sub, fun x q => by
    rcases c.new x q with h | h
    · exact b.new x h
    · exact .inr h⟩
theorem Base.self (b : Base G H0 F H) : Base F H0 F H := ⟨Same.refl _, b.hh, b.sub, fun _ q => .inl q⟩
end
structure Rel (K : PySem.W.Frag) (G H0 : Hp) (ρ : Ev) (σ : L2.St) (F H : Hp) : Prop where
  base : Base G H0 F H
  len : ρ.length = σ.length
  at_ : ∀ (i : Nat) (r : R), ρ[i]? = some (some r) → ∃ v, σ[i]? = some (some v) ∧ Rep K F H v r
  frs : ∀ (i : Nat) (r : R) (v : V) (q : Addr), ρ[i]? = some (some r) → σ[i]? = some (some v) → Cell H v r q → H0 q = none
  apart : ∀ (i j : Nat) (r r' : R) (v v' : V) (q : Addr), ρ[i]? = some (some r) → ρ[j]? = some (some r') → σ[i]? = some (some v) → σ[j]? = some (some v') → Cell H v r q → Cell H v' r' q → i = j
section
variable {K : PySem.W.Frag} {G H0 F H F' H' : Hp} {ρ : Ev} {σ : L2.St}
theorem Rel.sub (r : Rel K G H0 ρ σ F H) : Same F H := r.base.sub
theorem Rel.re (r : Rel K G H0 ρ σ F H) : Rel K F H0 ρ σ F H := ⟨r.base.self, r.len, r.at_, r.frs, r.apart⟩
theorem Rel.back {F1 H1 : Hp} (b : Base G H0 F1 H1) (r : Rel K F1 H0 ρ σ F H) : Rel K G H0 ρ σ F H := ⟨b.re r.base, r.len, r.at_, r.frs, r.apart⟩
theorem Rel.step (r : Rel K G H0 ρ σ F H) (e : Ext F H F' H') : Rel K G H0 ρ σ F' H' where
  base := r.base.step e
  len := r.len
  at_ := fun i x h => by
    obtain ⟨v, a, b⟩ := r.at_ i x h
    exact ⟨v, a, b.step e⟩
  frs := fun i x v q h s c => by
    obtain ⟨w, a, b⟩ := r.at_ i x h
    rw [s] at a
    cases a
    exact r.frs i x v q h s (c.back b e.hh)
  apart := fun i j x y v w q h1 h2 s1 s2 c1 c2 => by
    obtain ⟨w1, a1, b1⟩ := r.at_ i x h1
    obtain ⟨w2, a2, b2⟩ := r.at_ j y h2
    rw [s1] at a1
    rw [s2] at a2
    cases a1
    cases a2
    exact r.apart i j x y v w q h1 h2 s1 s2 (c1.back b1 e.hh) (c2.back b2 e.hh)
/-- a new value of an expression: it stands, and if it is ours it is new -/
def RepN (K : PySem.W.Frag) (F H Hold : Hp) (v : V) (r : R) : Prop := Rep K F H v r ∧ (r.isOwn = true → ∀ p, Cell H v r p → Hold p = none)
theorem RepN.val {d : PyData} {v : V} {Hold : Hp} (h : DD F v d) : RepN K F H Hold v (.val d) := ⟨h, fun e => nomatch e⟩
theorem lt_of_get {α : Type} {l : List α} {i : Nat} {x : α} (e : l[i]? = some x) : i < l.length := by
  rcases Nat.lt_or_ge i l.length with z | z
  · exact z
  · rw [List.getElem?_eq_none z] at e; cases e
/-- a slot is set to a value that stays -/
theorem Rel.setVal {i : Nat} {r : R} {v : V} (h : Rel K G H0 ρ σ F H) (q : Rep K F H v r) (n : r.isOwn = false) : Rel K G H0 (ρ.set i (some r)) (σ.set i (some v)) F H := by
  have self : ∀ {x : R}, (ρ.set i (some r))[i]? = some (some x) → x = r ∧ i < ρ.length := fun {x} e => by
    have hl : i < ρ.length := by simpa using lt_of_get e
    rw [List.getElem?_set_self hl] at e
    cases e
    exact ⟨rfl, hl⟩
  have key : ∀ {m : Nat} {z : R} {w : V} {c : Addr}, (ρ.set i (some r))[m]? = some (some z) → Cell H w z c → i ≠ m := fun {m z w c} e o hm => by
    subst hm
    have := o.own
    rw [(self e).1, n] at this
    cases this
  refine ⟨h.base, by simp [h.len], fun j x e => ?_, fun j x w p e s o => ?_, fun j k x y w1 w2 p e1 e2 s1 s2 o1 o2 => ?_⟩
  · by_cases hj : i = j
    · subst hj
      obtain ⟨rfl, hl⟩ := self e
      exact ⟨v, List.getElem?_set_self (h.len ▸ hl), q⟩
    · rw [List.getElem?_set_ne hj] at e
      obtain ⟨w, a, b⟩ := h.at_ j x e
      exact ⟨w, by rw [List.getElem?_set_ne hj]; exact a, b⟩
  · have hj := key e o
    rw [List.getElem?_set_ne hj] at e s
    exact h.frs j x w p e s o
  · have k1 := key e1 o1
    have k2 := key e2 o2
    rw [List.getElem?_set_ne k1] at e1 s1
    rw [List.getElem?_set_ne k2] at e2 s2
    exact h.apart j k x y w1 w2 p e1 e2 s1 s2 o1 o2
/-- a slot is set to a thing of ours, new at the heap Hm that all slots knew -/
theorem Rel.setOwn {i : Nat} {r : R} {v : V} {Fm Hm : Hp} (h0 : Rel K G H0 ρ σ Fm Hm) (e : Ext Fm Hm F H) (q : RepN K F H Hm v r) : Rel K G H0 (ρ.set i (some r)) (σ.set i (some v)) F H := by
  have h := h0.step e
  cases n : r.isOwn with
  | false => exact h.setVal q.1 n
  | true =>
    have old : ∀ (j : Nat) (y : R) (w : V) (p : Addr), ρ[j]? = some (some y) → σ[j]? = some (some w) → Cell H w y p → Cell H v r p → False := fun j y w p ey s o z => by
      have np := q.2 n p z
      obtain ⟨w', a, b⟩ := h0.at_ j y ey
      rw [s] at a
      cases a
      obtain ⟨_, o', ho', _⟩ := (o.back b e.hh).here b
      rw [np] at ho'
      cases ho'
    have self : ∀ {x : R}, (ρ.set i (some r))[i]? = some (some x) → x = r ∧ i < ρ.length := fun {x} e => by
      have hl : i < ρ.length := by simpa using lt_of_get e
      rw [List.getElem?_set_self hl] at e
      cases e
      exact ⟨rfl, hl⟩
    have selfV : ∀ {w : V}, i < ρ.length → (σ.set i (some v))[i]? = some (some w) → w = v := fun {w} hl e => by
      rw [List.getElem?_set_self (h.len ▸ hl)] at e
      cases e
      rfl
    refine ⟨h.base, by simp [h.len], fun j x e => ?_, fun j x w p e s o => ?_, fun j k x y w1 w2 p e1 e2 s1 s2 o1 o2 => ?_⟩
    · by_cases hj : i = j
      · subst hj
        obtain ⟨rfl, hl⟩ := self e
        exact ⟨v, List.getElem?_set_self (h.len ▸ hl), q.1⟩
      · rw [List.getElem?_set_ne hj] at e
        obtain ⟨w, a, b⟩ := h.at_ j x e
        exact ⟨w, by rw [List.getElem?_set_ne hj]; exact a, b⟩
    · by_cases hj : i = j
      · subst hj
        obtain ⟨rfl, hl⟩ := self e
        cases selfV hl s
        exact h0.base.hh.free (q.2 n p o)
      · rw [List.getElem?_set_ne hj] at e s
        exact h.frs j x w p e s o
    · by_cases hj : i = j
      · by_cases hk : i = k
        · exact hj.symm.trans hk
        · subst hj
          obtain ⟨rfl, hl⟩ := self e1
          cases selfV hl s1
          rw [List.getElem?_set_ne hk] at e2 s2
          exact (old k y w2 p e2 s2 o2 o1).elim
      · by_cases hk : i = k
        · subst hk
          obtain ⟨rfl, hl⟩ := self e2
          cases selfV hl s2
          rw [List.getElem?_set_ne hj] at e1 s1
          exact (old j x w1 p e1 s1 o1 o2).elim
        · rw [List.getElem?_set_ne hj] at e1 s1
          rw [List.getElem?_set_ne hk] at e2 s2
          exact h.apart j k x y w1 w2 p e1 e2 s1 s2 o1 o2
/-- slots are forgotten -/
theorem Rel.unset {i : Nat} (h : Rel K G H0 ρ σ F H) : Rel K G H0 (ρ.set i none) (σ.set i none) F H where
  base := h.base
  len := by simp [h.len]
  at_ := fun j x e => by
    by_cases hj : i = j
    · subst hj
      rw [List.getElem?_set] at e
      simp at e
    · rw [List.getElem?_set_ne hj] at e
      obtain ⟨w, a, b⟩ := h.at_ j x e
      exact ⟨w, by rw [List.getElem?_set_ne hj]; exact a, b⟩
  frs := fun j x w p e s o => by
    by_cases hj : i = j
    · subst hj
      rw [List.getElem?_set] at e
      simp at e
    · rw [List.getElem?_set_ne hj] at e s
      exact h.frs j x w p e s o
  apart := fun j k x y w1 w2 p e1 e2 s1 s2 o1 o2 => by
    have key : ∀ {m : Nat} {z : R}, (ρ.set i none)[m]? = some (some z) → i ≠ m := fun {m z} e hm => by
      subst hm
      rw [List.getElem?_set] at e
      simp at e
    have k1 := key e1
    have k2 := key e2
    rw [List.getElem?_set_ne k1] at e1 s1
    rw [List.getElem?_set_ne k2] at e2 s2
    exact h.apart j k x y w1 w2 p e1 e2 s1 s2 o1 o2
end
end DN
/-! Den2: judgements of expressions, tests, arguments, statements over plain data. -/
namespace DN
open PySem PySem.Spec PyProof.Rows L2

/-- a value as data that stays: a new list of ours is let go -/
def R.d : R → Rs PyData
  | .val d => .ok d
  | .own xs => .ok (.list xs)
  | _ => .bad
@[simp] theorem d_val (d : PyData) : (R.val d).d = .ok d := rfl
@[simp] theorem d_own (xs : List PyData) : (R.own xs).d = .ok (.list xs) := rfl
/-- an argument of a def -/
def R.a : R → Rs R
  | .val d => .ok (.val d)
  | .own xs => .ok (.val (.list xs))
  | .scr ns => .ok (.scr ns)
  | .dfz kvs => .ok (.dfz kvs)
  | _ => .bad
@[simp] theorem a_dfz (kvs : List (List Key × PyData)) : (R.dfz kvs).a = .ok (.dfz kvs) := rfl
@[simp] theorem a_val (d : PyData) : (R.val d).a = .ok (.val d) := rfl
@[simp] theorem a_own (xs : List PyData) : (R.own xs).a = .ok (.val (.list xs)) := rfl
@[simp] theorem a_scr (xs : List Int) : (R.scr xs).a = .ok (.scr xs) := rfl

/-! ### what is asked behind -/
section
variable (K : PySem.W.Frag) (mg : Str → Option Value) (W : WX) (σ : L2.St) (F H : Hp)
def Post (Q : VK) : Rs R → Prop
  | .ok r => ∀ v F' H', Ext F H F' H' → RepN K F' H' H v r → Q v H'
  | .err c => ∀ C H', mg c = some (.ref C) → Same H H' → W (.ref C) none σ H'
  | .bad => False
def PostB (Q : Bool → Hp → Prop) : Rs Bool → Prop
  | .ok b => ∀ F' H', Ext F H F' H' → Q b H'
  | .err c => ∀ C H', mg c = some (.ref C) → Same H H' → W (.ref C) none σ H'
  | .bad => False
def PostD (Q : List V → Hp → Prop) : Rs (List PyData) → Prop
  | .ok ds => ∀ vs F' H', Ext F H F' H' → DDs F' vs ds → Q vs H'
  | .err c => ∀ C H', mg c = some (.ref C) → Same H H' → W (.ref C) none σ H'
  | .bad => False
abbrev Args (F H : Hp) : List V → List R → Prop := Paired fun v r => Rep K F H v r ∧ r.isOwn = false
def PostA (Q : List V → Hp → Prop) : Rs (List R) → Prop
  | .ok rs => ∀ vs F' H', Ext F H F' H' → Args K F' H' vs rs → Q vs H'
  | .err c => ∀ C H', mg c = some (.ref C) → Same H H' → W (.ref C) none σ H'
  | .bad => False
end
section
variable {K : PySem.W.Frag} {mg : Str → Option Value} {W : WX} {σ : L2.St} {F H F1 H1 : Hp}
theorem Args.step {vs : List V} {rs : List R} (e : Ext F H F1 H1) : ∀ {vs : List V} {rs : List R}, Args K F H vs rs → Args K F1 H1 vs rs
  | _, _, .nil => .nil
  | _, _, .cons r t => .cons ⟨r.1.step e, r.2⟩ (Args.step (vs := vs) (rs := rs) e t)
theorem post_step {Q : VK} {m : Rs R} (P : Post K mg W σ F H Q m) (e : Ext F H F1 H1) : Post K mg W σ F1 H1 Q m := by
  cases m with
  | ok r => exact fun v F' H' x y => P v F' H' (e.trans x) ⟨y.1, fun o p q => e.hh.free (y.2 o p q)⟩
  | err c => exact fun C H' x y => P C H' x (e.hh.trans y)
  | bad => exact P
theorem postB_step {Q : Bool → Hp → Prop} {m : Rs Bool} (P : PostB mg W σ F H Q m) (e : Ext F H F1 H1) : PostB mg W σ F1 H1 Q m := by
  cases m with
  | ok r => exact fun F' H' x => P F' H' (e.trans x)
  | err c => exact fun C H' x y => P C H' x (e.hh.trans y)
  | bad => exact P
theorem postD_step {Q : List V → Hp → Prop} {m : Rs (List PyData)} (P : PostD mg W σ F H Q m) (e : Ext F H F1 H1) : PostD mg W σ F1 H1 Q m := by
  cases m with
  | ok r => exact fun v F' H' x y => P v F' H' (e.trans x) y
  | err c => exact fun C H' x y => P C H' x (e.hh.trans y)
  | bad => exact P
theorem postA_step {Q : List V → Hp → Prop} {m : Rs (List R)} (P : PostA K mg W σ F H Q m) (e : Ext F H F1 H1) : PostA K mg W σ F1 H1 Q m := by
  cases m with
  | ok r => exact fun v F' H' x y => P v F' H' (e.trans x) y
  | err c => exact fun C H' x y => P C H' x (e.hh.trans y)
  | bad => exact P

/-- the wishes alike: a result of another kind -/
inductive Alike : {α β : Type} → (m : Rs α) → (α → Rs β) → (Rs β) → Prop
  | mk {α β : Type} {m : Rs α} {k : α → Rs β} : Alike m k (m.bind k)

theorem post_bind {Q Q1 : VK} {m : Rs R} {k : R → Rs R} (P : Post K mg W σ F H Q (m.bind k))
    (h : ∀ r v F1 H1, Ext F H F1 H1 → RepN K F1 H1 H v r → Post K mg W σ F1 H1 Q (k r) → Q1 v H1) : Post K mg W σ F H Q1 m := by
  cases m with
  | ok r => exact fun v F' H' x y => h r v F' H' x y (post_step P x)
  | err c => exact P
  | bad => exact P
/-- a new list of ours is let go -/
theorem RepN.data {v : V} {r : R} {d : PyData} (e : Ext F H F1 H1) (q : RepN K F1 H1 H v r) (hd : r.d = .ok d) : ∃ F2, Ext F H F2 H1 ∧ Same F1 F2 ∧ DD F2 v d := by
  cases r with
  | val x =>
    cases hd
    exact ⟨F1, e, Same.refl _, q.1⟩
  | own xs =>
    cases hd
    obtain ⟨p, vs, rfl, a, b, c⟩ := q.1
    exact ⟨upd F1 p (.lst vs), e.freeze a b (q.2 rfl p rfl), same_new b, .lst upd_same (DDs.mono (same_new b) _ _ c)⟩
  | dct _ => cases hd
  | dck _ => cases hd
  | scr _ => cases hd
  | raw _ => cases hd
  | dfz _ => cases hd
  | obj _ _ _ => cases hd
  | vie _ _ _ => cases hd
theorem RepN.arg {v : V} {r r' : R} (e : Ext F H F1 H1) (q : RepN K F1 H1 H v r) (hd : r.a = .ok r') : ∃ F2, Ext F H F2 H1 ∧ Same F1 F2 ∧ Rep K F2 H1 v r' ∧ r'.isOwn = false := by
  cases r with
  | val x =>
    cases hd
    exact ⟨F1, e, Same.refl _, q.1, rfl⟩
  | own xs =>
    cases hd
    obtain ⟨p, vs, rfl, a, b, c⟩ := q.1
    exact ⟨upd F1 p (.lst vs), e.freeze a b (q.2 rfl p rfl), same_new b, .lst upd_same (DDs.mono (same_new b) _ _ c), rfl⟩
  | dct _ => cases hd
  | dck _ => cases hd
  | scr _ => cases hd; exact ⟨F1, e, Same.refl _, q.1, rfl⟩
  | raw _ => cases hd
  | dfz _ => cases hd; exact ⟨F1, e, Same.refl _, q.1, rfl⟩
  | obj _ _ _ => cases hd
  | vie _ _ _ => cases hd
theorem post_data {Q Q1 : VK} {m : Rs R} {k : PyData → Rs R} (P : Post K mg W σ F H Q (m.bind fun r => r.d.bind k))
    (h : ∀ d v F1 H1, Ext F H F1 H1 → DD F1 v d → Post K mg W σ F1 H1 Q (k d) → Q1 v H1) : Post K mg W σ F H Q1 m := by
  cases m with
  | ok r =>
    intro v F' H' x y
    cases hd : r.d with
    | ok d =>
      obtain ⟨F2, e2, _, q2⟩ := y.data x hd
      have P' : Post K mg W σ F H Q (k d) := by
        have : ((Rs.ok r).bind fun r => r.d.bind k) = k d := by simp [hd]
        rw [this] at P; exact P
      exact h d v F2 H' e2 q2 (post_step P' e2)
    | err c => exact absurd hd (by cases r <;> simp [R.d])
    | bad =>
      have : ((Rs.ok r).bind fun r => r.d.bind k) = .bad := by simp [hd]
      rw [this] at P; exact P.elim
  | err c => exact P
  | bad => exact P
end

/-! ### judgements -/
structure EE (X : Cx) (W : WX) (e : Expr) (t : TE) (f : Ev → Rs R) : Prop where
  pe : PE X e t
  sound : ∀ {G H0 : Hp} {ρ : Ev} {σ : L2.St} {F H : Hp}, Rel X.K G H0 ρ σ F H → ∀ Q : VK, Post X.K X.mg W σ F H Q (f ρ) → t σ H Q
structure ET (X : Cx) (W : WX) (e : Expr) (t : TT) (f : Ev → Rs Bool) : Prop where
  pt : PT X e t
  sound : ∀ {G H0 : Hp} {ρ : Ev} {σ : L2.St} {F H : Hp}, Rel X.K G H0 ρ σ F H → ∀ Q : Bool → Hp → Prop, PostB X.mg W σ F H Q (f ρ) → t σ H Q
/-- the same whatever its whole is -/
structure EW (X : Cx) (W : WX) (e : Expr) (t : TT) (f : Ev → Rs Bool) : Prop where
  pw : PW X e t
  sound : ∀ {G H0 : Hp} {ρ : Ev} {σ : L2.St} {F H : Hp}, Rel X.K G H0 ρ σ F H → ∀ Q : Bool → Hp → Prop, PostB X.mg W σ F H Q (f ρ) → t σ H Q
structure ED (X : Cx) (W : WX) (es : List Expr) (t : TA) (f : Ev → Rs (List PyData)) : Prop where
  pa : PA X es t
  sound : ∀ {G H0 : Hp} {ρ : Ev} {σ : L2.St} {F H : Hp}, Rel X.K G H0 ρ σ F H → ∀ Q : List V → Hp → Prop, PostD X.mg W σ F H Q (f ρ) → t σ H Q
structure EA (X : Cx) (W : WX) (es : List Expr) (t : TA) (f : Ev → Rs (List R)) : Prop where
  pa : PA X es t
  len : ∀ ρ rs, f ρ = .ok rs → rs.length = es.length
  sound : ∀ {G H0 : Hp} {ρ : Ev} {σ : L2.St} {F H : Hp}, Rel X.K G H0 ρ σ F H → ∀ Q : List V → Hp → Prop, PostA X.K X.mg W σ F H Q (f ρ) → t σ H Q

/-! ### readings of the data side -/
@[simp] def fVar (i : Nat) : Ev → Rs R := fun ρ => match ρ[i]? with
  | some (some (.val d)) => .ok (.val d)
  | some (some (.scr ns)) => .ok (.scr ns)
  | some (some (.dfz kvs)) => .ok (.dfz kvs)
  | _ => .bad
@[simp] def fC (d : PyData) : Ev → Rs R := fun _ => .ok (.val d)
def lim : Nat := 1000000
theorem lim_le : lim ≤ sizeLine := by decide
theorem lim_lt : lim < sizeLine := by decide
def capL (ds : List PyData) (r : R) : Rs R := if ds.length ≤ lim then .ok r else .bad
@[simp] def fTup (fa : Ev → Rs (List PyData)) : Ev → Rs R := fun ρ => (fa ρ).bind fun ds => capL ds (.val (.tuple ds))
@[simp] def fLst (fa : Ev → Rs (List PyData)) : Ev → Rs R := fun ρ => (fa ρ).bind fun ds => capL ds (.own ds)
@[simp] def fNil : Ev → Rs (List PyData) := fun _ => .ok []
@[simp] def fCons (f : Ev → Rs R) (fa : Ev → Rs (List PyData)) : Ev → Rs (List PyData) := fun ρ => (f ρ).bind fun r => r.d.bind fun x => (fa ρ).bind fun xs => .ok (x :: xs)
@[simp] def aNil : Ev → Rs (List R) := fun _ => .ok []
@[simp] def aCons (f : Ev → Rs R) (fa : Ev → Rs (List R)) : Ev → Rs (List R) := fun ρ => (f ρ).bind fun r => r.a.bind fun x => (fa ρ).bind fun xs => .ok (x :: xs)
@[simp] def fOp (op : PyData → PyData → Rs R) (fa fb : Ev → Rs R) : Ev → Rs R := fun ρ => (fa ρ).bind fun a => a.d.bind fun x => (fb ρ).bind fun b => b.d.bind fun y => op x y
@[simp] def fUn (op : PyData → Rs R) (fa : Ev → Rs R) : Ev → Rs R := fun ρ => (fa ρ).bind fun a => a.d.bind op
@[simp] def fBi (op : List PyData → Rs R) (fa : Ev → Rs (List PyData)) : Ev → Rs R := fun ρ => (fa ρ).bind op
@[simp] def fCall (den : List R → Rs R) (fa : Ev → Rs (List R)) : Ev → Rs R := fun ρ => (fa ρ).bind den
def asB : PyData → Rs Bool
  | .bool b => .ok b
  | _ => .bad
@[simp] def fTest (f : Ev → Rs R) : Ev → Rs Bool := fun ρ => (f ρ).bind fun r => r.d.bind asB
@[simp] def fAnd (f g : Ev → Rs Bool) : Ev → Rs Bool := fun ρ => (f ρ).bind fun b => if b = true then g ρ else .ok false
@[simp] def fOr (f g : Ev → Rs Bool) : Ev → Rs Bool := fun ρ => (f ρ).bind fun b => if b = true then .ok true else g ρ
@[simp] def fNot (f : Ev → Rs Bool) : Ev → Rs Bool := fun ρ => (f ρ).bind fun b => .ok (!b)
@[simp] def fAndV (f g : Ev → Rs R) : Ev → Rs R := fun ρ => (f ρ).bind fun r => r.d.bind fun x => (asB x).bind fun b => if b = true then g ρ else .ok (.val (.bool false))
@[simp] def fOrV (f g : Ev → Rs R) : Ev → Rs R := fun ρ => (f ρ).bind fun r => r.d.bind fun x => (asB x).bind fun b => if b = true then .ok (.val (.bool true)) else g ρ
@[simp] def fNotV (f : Ev → Rs R) : Ev → Rs R := fun ρ => (f ρ).bind fun r => r.d.bind fun x => (asB x).bind fun b => .ok (.val (.bool (!b)))
@[simp] def fIf (c : Ev → Rs Bool) (f g : Ev → Rs R) : Ev → Rs R := fun ρ => (c ρ).bind fun b => if b = true then f ρ else g ρ

section
variable {X : Cx} {W : WX} {a b e : Expr} {es : List Expr} {ta tb te : TE} {fa fb f : Ev → Rs R} {pos : Pos}

theorem ee_var (i : Nat) {x : Str} (hN : X.N[i]? = some x := by rfl) (hv : Vis X.env.scope x := by first | exact Or.inl rfl | exact Or.inr (Or.inl rfl) | exact Or.inr (Or.inr rfl)) (hd : (x == ("__debug__" : Str)) = false := by decide)
    (hcd : (x == ("__classdict__" : Str)) = false := by decide) : EE X W (.Name x pos) (tVar i) (fVar i) where
  pe := pe_var hN hv hd hcd
  sound := fun {G H0 ρ σ F H} rel Q P => by
    unfold fVar at P
    split at P
    · rename_i d h
      obtain ⟨v, a, b⟩ := rel.at_ i _ h
      exact ⟨v, a, P v F H (Ext.refl rel.sub) (.val b)⟩
    · rename_i d h
      obtain ⟨v, a, b⟩ := rel.at_ i _ h
      exact ⟨v, a, P v F H (Ext.refl rel.sub) ⟨b, fun e => nomatch e⟩⟩
    · rename_i d h
      obtain ⟨v, a, b⟩ := rel.at_ i _ h
      exact ⟨v, a, P v F H (Ext.refl rel.sub) ⟨b, fun e => nomatch e⟩⟩
    · exact P.elim
theorem c_sound {d : PyData} {v : V} (h : ∀ F, DD F v d) {G H0 : Hp} {ρ : Ev} {σ : L2.St} {F H : Hp} (rel : Rel X.K G H0 ρ σ F H) (Q : VK) (P : Post X.K X.mg W σ F H Q (fC d ρ)) : tC v σ H Q :=
  P v F H (Ext.refl rel.sub) (.val (h F))
theorem ee_int {i : Int} {j : Nat} : EE X W (.Constant (.int i) j pos) (tC (.int i)) (fC (.int i)) := ⟨pe_int, c_sound fun _ => .int i⟩
theorem ee_bl {b : Bool} {j : Nat} : EE X W (.Constant (.bool b) j pos) (tC (.bl b)) (fC (.bool b)) := ⟨pe_bl, c_sound fun _ => .bl b⟩
theorem ee_non {j : Nat} : EE X W (.Constant .none j pos) (tC .non) (fC .none) := ⟨pe_non, c_sound fun _ => .non⟩
theorem ee_str {x : Str} {j : Nat} : EE X W (.Constant (.str x) j pos) (tC (.str x)) (fC (.str x)) := ⟨pe_str, c_sound fun _ => .str x⟩
/-- a module's constant -/
theorem ee_globI {x : Str} {i : Int} {u : Tok} (hg : Gl X x) (hm : X.mg x = some (.int i u)) (hd : (x == ("__debug__" : Str)) = false := by decide) : EE X W (.Name x pos) (tC (.int i)) (fC (.int i)) :=
  ⟨pe_glob hg hm ⟨_, rfl⟩ hd, c_sound fun _ => .int i⟩
theorem ee_globS {x : Str} {i : Str} {u : Tok} (hg : Gl X x) (hm : X.mg x = some (.str i u)) (hd : (x == ("__debug__" : Str)) = false := by decide) : EE X W (.Name x pos) (tC (.str i)) (fC (.str i)) :=
  ⟨pe_glob hg hm ⟨_, rfl⟩ hd, c_sound fun _ => .str i⟩

/-! ### argument lists -/
theorem ed_nil : ED X W [] tNil fNil := ⟨pa_nil, fun rel Q P => P [] _ _ (Ext.refl rel.sub) .nil⟩
theorem postD_data {Q1 : VK} {Q : List V → Hp → Prop} {mg : Str → Option Value} {σ : L2.St} {F H : Hp} {m : Rs R} {k : PyData → Rs (List PyData)} (P : PostD mg W σ F H Q (m.bind fun r => r.d.bind k))
    (h : ∀ d v F1 H1, Ext F H F1 H1 → DD F1 v d → PostD mg W σ F1 H1 Q (k d) → Q1 v H1) {K : PySem.W.Frag} : Post K mg W σ F H Q1 m := by
  cases m with
  | ok r =>
    intro v F' H' x y
    cases hd : r.d with
    | ok d =>
      obtain ⟨F2, e2, _, q2⟩ := y.data x hd
      have P' : PostD mg W σ F H Q (k d) := by
        have : ((Rs.ok r).bind fun r => r.d.bind k) = k d := by simp [hd]
        rw [this] at P; exact P
      exact h d v F2 H' e2 q2 (postD_step P' e2)
    | err c => exact absurd hd (by cases r <;> simp [R.d])
    | bad =>
      have : ((Rs.ok r).bind fun r => r.d.bind k) = .bad := by simp [hd]
      rw [this] at P; exact P.elim
  | err c => exact P
  | bad => exact P
theorem postD_bind {Q Q1 : List V → Hp → Prop} {mg : Str → Option Value} {σ : L2.St} {F H : Hp} {m : Rs (List PyData)} {k : List PyData → Rs (List PyData)} (P : PostD mg W σ F H Q (m.bind k))
    (h : ∀ ds vs F1 H1, Ext F H F1 H1 → DDs F1 vs ds → PostD mg W σ F1 H1 Q (k ds) → Q1 vs H1) : PostD mg W σ F H Q1 m := by
  cases m with
  | ok r => exact fun v F' H' x y => h r v F' H' x y (postD_step P x)
  | err c => exact P
  | bad => exact P
theorem ed_cons {t : TA} {fr : Ev → Rs (List PyData)} (ha : EE X W e te f) (hr : ED X W es t fr) (hs : starEach (e :: es) X.env = (false, eval e X.env) :: starEach es X.env := by rfl) : ED X W (e :: es) (tCons te t) (fCons f fr) where
  pa := pa_cons ha.pe hr.pa hs
  sound := fun rel Q P => ha.sound rel _ (postD_data P fun d v F1 H1 e1 r1 P1 => hr.sound (rel.step e1) _ (postD_bind P1 fun ds vs F2 H2 e2 r2 P2 =>
    P2 _ _ _ (Ext.refl e2.sub) (.cons (DD.mono e2.ff _ _ r1) r2)))
theorem ea_nil : EA X W [] tNil aNil := ⟨pa_nil, fun ρ rs h => by cases h; rfl, fun rel Q P => P [] _ _ (Ext.refl rel.sub) .nil⟩
theorem postA_arg {Q1 : VK} {Q : List V → Hp → Prop} {K : PySem.W.Frag} {mg : Str → Option Value} {σ : L2.St} {F H : Hp} {m : Rs R} {k : R → Rs (List R)} (P : PostA K mg W σ F H Q (m.bind fun r => r.a.bind k))
    (h : ∀ d v F1 H1, Ext F H F1 H1 → Rep K F1 H1 v d → d.isOwn = false → PostA K mg W σ F1 H1 Q (k d) → Q1 v H1) : Post K mg W σ F H Q1 m := by
  cases m with
  | ok r =>
    intro v F' H' x y
    cases hd : r.a with
    | ok d =>
      obtain ⟨F2, e2, _, q2, n2⟩ := y.arg x hd
      have P' : PostA K mg W σ F H Q (k d) := by
        have : ((Rs.ok r).bind fun r => r.a.bind k) = k d := by simp [hd]
        rw [this] at P; exact P
      exact h d v F2 H' e2 q2 n2 (postA_step P' e2)
    | err c => exact absurd hd (by cases r <;> simp [R.a])
    | bad =>
      have : ((Rs.ok r).bind fun r => r.a.bind k) = .bad := by simp [hd]
      rw [this] at P; exact P.elim
  | err c => exact P
  | bad => exact P
theorem postA_bind {Q Q1 : List V → Hp → Prop} {K : PySem.W.Frag} {mg : Str → Option Value} {σ : L2.St} {F H : Hp} {m : Rs (List R)} {k : List R → Rs (List R)} (P : PostA K mg W σ F H Q (m.bind k))
    (h : ∀ ds vs F1 H1, Ext F H F1 H1 → Args K F1 H1 vs ds → PostA K mg W σ F1 H1 Q (k ds) → Q1 vs H1) : PostA K mg W σ F H Q1 m := by
  cases m with
  | ok r => exact fun v F' H' x y => h r v F' H' x y (postA_step P x)
  | err c => exact P
  | bad => exact P
theorem ea_cons {t : TA} {fr : Ev → Rs (List R)} (ha : EE X W e te f) (hr : EA X W es t fr) (hs : starEach (e :: es) X.env = (false, eval e X.env) :: starEach es X.env := by rfl) : EA X W (e :: es) (tCons te t) (aCons f fr) where
  pa := pa_cons ha.pe hr.pa hs
  len := fun ρ rs h => by
    unfold aCons at h
    cases h1 : f ρ with
    | ok r =>
      cases h2 : r.a with
      | ok x =>
        cases h3 : fr ρ with
        | ok xs =>
          simp [h1, h2, h3] at h
          subst h
          simp [hr.len ρ xs h3]
        | err c => simp [h1, h2, h3] at h
        | bad => simp [h1, h2, h3] at h
      | err c => simp [h1, h2] at h
      | bad => simp [h1, h2] at h
    | err c => simp [h1] at h
    | bad => simp [h1] at h
  sound := fun rel Q P => ha.sound rel _ (postA_arg P fun d v F1 H1 e1 r1 n1 P1 => hr.sound (rel.step e1) _ (postA_bind P1 fun ds vs F2 H2 e2 r2 P2 =>
    P2 _ _ _ (Ext.refl e2.sub) (.cons ⟨r1.step e2, n1⟩ r2)))

/-! ### displays -/
theorem postD_out {Q1 : List V → Hp → Prop} {Q : VK} {K : PySem.W.Frag} {mg : Str → Option Value} {σ : L2.St} {F H : Hp} {m : Rs (List PyData)} {k : List PyData → Rs R} (P : Post K mg W σ F H Q (m.bind k))
    (h : ∀ ds vs F1 H1, Ext F H F1 H1 → DDs F1 vs ds → Post K mg W σ F1 H1 Q (k ds) → Q1 vs H1) : PostD mg W σ F H Q1 m := by
  cases m with
  | ok r => exact fun v F' H' x y => h r v F' H' x y (post_step P x)
  | err c => exact P
  | bad => exact P
theorem postA_out {Q1 : List V → Hp → Prop} {Q : VK} {K : PySem.W.Frag} {mg : Str → Option Value} {σ : L2.St} {F H : Hp} {m : Rs (List R)} {k : List R → Rs R} (P : Post K mg W σ F H Q (m.bind k))
    (h : ∀ ds vs F1 H1, m = .ok ds → Ext F H F1 H1 → Args K F1 H1 vs ds → Post K mg W σ F1 H1 Q (k ds) → Q1 vs H1) : PostA K mg W σ F H Q1 m := by
  cases m with
  | ok r => exact fun v F' H' x y => h r v F' H' rfl x y (post_step P x)
  | err c => exact P
  | bad => exact P
/-- a new tuple that stays -/
theorem new_tup {K : PySem.W.Frag} {mg : Str → Option Value} {σ : L2.St} {F H : Hp} {Q : VK} {vs : List V} {ds : List PyData} (s : Same F H) (r : DDs F vs ds) (P : Post K mg W σ F H Q (.ok (.val (.tuple ds)))) :
    ∀ p, H p = none → Q (.ref p) (upd H p (.tup vs)) := fun p np =>
  P _ _ _ (Ext.add s np) (.val (.tup upd_same (DDs.mono (same_new (s.free np)) _ _ r)))
/-- a new list of ours -/
theorem new_lst {K : PySem.W.Frag} {mg : Str → Option Value} {σ : L2.St} {F H : Hp} {Q : VK} {vs : List V} {ds : List PyData} (s : Same F H) (r : DDs F vs ds) (P : Post K mg W σ F H Q (.ok (.own ds))) :
    ∀ p, H p = none → Q (.ref p) (upd H p (.lst vs)) := fun p np =>
  P _ _ _ (Ext.addH s np) ⟨⟨p, vs, rfl, upd_same, s.free np, r⟩, fun _ q e => by cases e; exact np⟩
theorem ee_tup {x1 : Nat} {t : TA} {fr : Ev → Rs (List PyData)} (h : ED X W es t fr) : EE X W (.Tuple es x1 pos) (tTup t) (fTup fr) where
  pe := pe_tup h.pa
  sound := fun rel Q P => h.sound rel _ (postD_out P fun ds vs F1 H1 e1 r1 P1 => by
    unfold capL at P1
    split at P1
    · rename_i hl
      exact ⟨by rw [r1.len]; exact Nat.le_trans hl lim_le, new_tup e1.sub r1 P1⟩
    · exact P1.elim)
theorem ee_lst {t : TA} {fr : Ev → Rs (List PyData)} (h : ED X W es t fr) : EE X W (.List es pos) (tLst t) (fLst fr) where
  pe := pe_lst h.pa
  sound := fun rel Q P => h.sound rel _ (postD_out P fun ds vs F1 H1 e1 r1 P1 => by
    unfold capL at P1
    split at P1
    · rename_i hl
      exact ⟨by rw [r1.len]; exact Nat.le_trans hl lim_le, new_lst e1.sub r1 P1⟩
    · exact P1.elim)
end
end DN
/-! Den3: operators, tests, subscripts, calls. -/
namespace DN
open PySem PySem.Spec PyProof.Rows L2

/-! ### operators by data -/
def OpD (K : PySem.W.Frag) (mg : Str → Option Value) (W : WX) (r : R2) (op : PyData → PyData → Rs R) : Prop :=
  ∀ {σ : L2.St} {F H : Hp} {Q : VK} {v u : V} {x y : PyData}, Same F H → DD F v x → DD F u y → Post K mg W σ F H Q (op x y) → r v u H Q
/-- a result that is no new object -/
theorem post_flat {K : PySem.W.Frag} {mg : Str → Option Value} {W : WX} {σ : L2.St} {F H : Hp} {Q : VK} {v : V} {d : PyData} (s : Same F H) (h : DD F v d) (P : Post K mg W σ F H Q (.ok (.val d))) : Q v H :=
  P v F H (Ext.refl s) (.val h)

def oI (g : Int → Int → PyData) : PyData → PyData → Rs R
  | .int i, .int j => .ok (.val (g i j))
  | _, _ => .bad
def oIc (C : Int → Int → Prop) [∀ i j, Decidable (C i j)] (g : Int → Int → PyData) : PyData → PyData → Rs R
  | .int i, .int j => if C i j then .ok (.val (g i j)) else .bad
  | _, _ => .bad
section
variable {K : PySem.W.Frag} {mg : Str → Option Value} {W : WX}
theorem od_I {g : Int → Int → PyData} {gv : Int → Int → V} (h : ∀ F i j, DD F (gv i j) (g i j)) : OpD K mg W (rI0 gv) (oI g) := fun {σ F H Q v u x y} s a b P => by
  cases a <;> cases b <;> first
    | exact ⟨_, _, rfl, rfl, post_flat s (h F _ _) P⟩
    | exact P.elim
theorem od_Ic {C : Int → Int → Prop} [∀ i j, Decidable (C i j)] {g : Int → Int → PyData} {gv : Int → Int → V} (h : ∀ F i j, DD F (gv i j) (g i j)) : OpD K mg W (rI C gv) (oIc C g) := fun {σ F H Q v u x y} s a b P => by
  cases a <;> cases b <;> first
    | exact P.elim
    | (unfold oIc at P
       dsimp only at P
       split at P
       · rename_i hc
         exact ⟨_, _, rfl, rfl, hc, post_flat s (h F _ _) P⟩
       · exact P.elim)
theorem od_or {r r' : R2} {op op' : PyData → PyData → Rs R} {f : PyData → PyData → Bool} (h : OpD K mg W r op) (h' : OpD K mg W r' op') :
    OpD K mg W (fun x y H Q => r x y H Q ∨ r' x y H Q) (fun x y => if f x y = true then op x y else op' x y) := fun {σ F H Q v u x y} s a b P => by
  dsimp only at P
  split at P
  · exact .inl (h s a b P)
  · exact .inr (h' s a b P)
end
instance (i j : Int) : Decidable (CDivW i j) := by unfold CDivW; infer_instance
instance (i j : Int) : Decidable (CMul i j) := by unfold CMul; infer_instance
instance (i j : Int) : Decidable (CPow i j) := by unfold CPow; infer_instance
/-- a + b: ints, texts, lists, tuples -/
def opAdd : PyData → PyData → Rs R
  | .int i, .int j => .ok (.val (.int (i + j)))
  | .str a, .str b => if a.length + b.length ≤ lim then .ok (.val (.str (a ++ b))) else .bad
  | .list a, .list b => if a.length + b.length ≤ lim then .ok (.own (a ++ b)) else .bad
  | .tuple a, .tuple b => if a.length + b.length ≤ lim then .ok (.val (.tuple (a ++ b))) else .bad
  | _, _ => .bad
abbrev opSub : PyData → PyData → Rs R := oI fun i j => .int (i - j)
abbrev opMulI : PyData → PyData → Rs R := oIc CMul fun i j => .int (i * j)
abbrev opDiv : PyData → PyData → Rs R := oIc CDivW fun i j => .int (i / j)
abbrev opMod : PyData → PyData → Rs R := oIc (fun _ j => 0 < j) fun i j => .int (i % j)
abbrev opPow : PyData → PyData → Rs R := oIc CPow fun i j => .int (i ^ j.toNat)
abbrev opLt : PyData → PyData → Rs R := oI fun i j => .bool (decide (i < j))
abbrev opLe : PyData → PyData → Rs R := oI fun i j => .bool (decide (i ≤ j))
abbrev opGt : PyData → PyData → Rs R := oI fun i j => .bool (decide (j < i))
abbrev opGe : PyData → PyData → Rs R := oI fun i j => .bool (decide (j ≤ i))
def eqD (d e : PyData) : Rs Bool := if (SeqAt.shaped d && SeqAt.shaped e) = true then .ok (PyData.eqv d e) else .bad
@[simp] def opEq (d e : PyData) : Rs R := (eqD d e).bind fun b => .ok (.val (.bool b))
@[simp] def opNe (d e : PyData) : Rs R := (eqD d e).bind fun b => .ok (.val (.bool (!b)))
def opIs : PyData → PyData → Rs R
  | d, .none => .ok (.val (.bool (match d with | .none => true | _ => false)))
  | .bool a, .bool b => .ok (.val (.bool (decide (a = b))))
  | _, _ => .bad
def opIsNot : PyData → PyData → Rs R
  | d, .none => .ok (.val (.bool (match d with | .none => false | _ => true)))
  | .bool a, .bool b => .ok (.val (.bool (!decide (a = b))))
  | _, _ => .bad
/-- == of flat data -/
def flatD : PyData → Bool
  | .none => true
  | .bool _ => true
  | .int _ => true
  | .str _ => true
  | _ => false
theorem flat_of {F : Hp} {v : V} {d : PyData} (h : DD F v d) : flatV v = flatD d := by cases h <;> rfl
def eqF : PyData → PyData → Bool
  | .none, .none => true
  | .bool a, .bool b => a == b
  | .bool a, .int b => (if a then 1 else 0) == b
  | .int a, .bool b => a == (if b then 1 else 0)
  | .int a, .int b => a == b
  | .str a, .str b => a == b
  | _, _ => false
theorem eqF_of {F : Hp} {v u : V} {d e : PyData} (h : DD F v d) (g : DD F u e) : eqV v u = eqF d e := by cases h <;> cases g <;> rfl
def inD (x : PyData) : PyData → Rs Bool
  | .list ds => if (flatD x && ds.all flatD) = true then .ok (ds.any fun y => eqF y x) else if (SeqAt.shaped x && SeqAt.shaped (.list ds)) = true then .ok (ds.any fun z => PyData.eqv z x) else .bad
  | .tuple ds => if (flatD x && ds.all flatD) = true then .ok (ds.any fun y => eqF y x) else .bad
  | .str z => match x with
    | .str ⟨⟨[c]⟩⟩ => .ok (decide (c ∈ z.cps.toList))
    | _ => .bad
  | _ => .bad
@[simp] def opIn (x y : PyData) : Rs R := (inD x y).bind fun b => .ok (.val (.bool b))
@[simp] def opNotIn (x y : PyData) : Rs R := (inD x y).bind fun b => .ok (.val (.bool (!b)))
theorem DDs.allFlat {F : Hp} : ∀ {ds : List PyData} {vs : List V}, DDs F vs ds → vs.all flatV = ds.all flatD
  | [], _, .nil => rfl
  | _ :: _, _, .cons h r => by rw [List.all_cons, List.all_cons, flat_of h, DDs.allFlat r]
theorem DDs.anyEq {F : Hp} {v : V} {d : PyData} (h : DD F v d) : ∀ {ds : List PyData} {vs : List V}, DDs F vs ds → inV v vs = ds.any fun y => eqF y d
  | [], _, .nil => rfl
  | _ :: _, _, .cons g r => by
    show (eqV _ v || inV v _) = _
    rw [List.any_cons, eqF_of g h, DDs.anyEq h r]
section
variable {X : Cx} {W : WX}
def rAddA (K : PySem.W.Frag) : R2 := fun x y H Q => rI0 (fun i j => .int (i + j)) x y H Q ∨ (fun x y H Q => ∃ i j, x = .str i ∧ y = .str j ∧ i.length + j.length ≤ sizeLine ∧ Q (.str (i ++ j)) H) x y H Q ∨ rCat x y H Q ∨ rCatA K x y H Q
theorem op_addA : OpR X (binaryOp .Add) (rAddA X.K) := op_add.or (op_add_str.or (op_cat.or op_catA))
theorem od_add : OpD X.K X.mg W (rAddA X.K) opAdd := fun {σ F H Q v u x y} s a b P => by
  cases a with
  | int i =>
    cases b with
    | int j => exact .inl ⟨_, _, rfl, rfl, post_flat s (.int _) P⟩
    | _ => exact P.elim
  | str i =>
    cases b with
    | str j =>
      unfold opAdd at P
      dsimp only at P
      split at P
      · rename_i hl
        exact .inr (.inl ⟨_, _, rfl, rfl, Nat.le_trans hl lim_le, post_flat s (.str _) P⟩)
      · exact P.elim
    | _ => exact P.elim
  | @lst p xs ds h r =>
    cases b with
    | @lst q ys es g w =>
      unfold opAdd at P
      dsimp only at P
      split at P
      · rename_i hl
        exact .inr (.inr (.inl ⟨_, _, _, _, rfl, rfl, s _ _ h, s _ _ g, by rw [r.len, w.len]; exact Nat.le_trans hl lim_le, new_lst s (r.app w) P⟩))
      · exact P.elim
    | _ => exact P.elim
  | @tup p xs ds h r =>
    cases b with
    | @tup q ys es g w =>
      unfold opAdd at P
      dsimp only at P
      split at P
      · rename_i hl
        refine .inr (.inr (.inr ⟨_, _, _, _, rfl, rfl, SqT.of (s _ _ h), SqT.of (s _ _ g), by rw [r.len, w.len]; exact Nat.le_trans hl lim_le, fun e => ?_, fun _ e => ?_, fun _ _ => new_tup s (r.app w) P⟩))
        · subst e
          cases r
          exact post_flat s (.tup g w) P
        · subst e
          cases w
          rw [List.append_nil] at P
          exact post_flat s (.tup h r) P
      · exact P.elim
    | _ => exact P.elim
  | _ => cases b <;> exact P.elim
theorem od_sub : OpD X.K X.mg W (rI0 fun i j => .int (i - j)) opSub := od_I fun _ _ _ => .int _
theorem od_mul : OpD X.K X.mg W (rI CMul fun i j => .int (i * j)) opMulI := od_Ic fun _ _ _ => .int _
theorem od_div : OpD X.K X.mg W (rI CDivW fun i j => .int (i / j)) opDiv := od_Ic fun _ _ _ => .int _
theorem od_mod : OpD X.K X.mg W (rI (fun _ j => 0 < j) fun i j => .int (i % j)) opMod := od_Ic fun _ _ _ => .int _
theorem od_pow : OpD X.K X.mg W (rI CPow fun i j => .int (i ^ j.toNat)) opPow := od_Ic fun _ _ _ => .int _
theorem od_lt : OpD X.K X.mg W (rI0 fun i j => .bl (decide (i < j))) opLt := od_I fun _ _ _ => .bl _
theorem od_le : OpD X.K X.mg W (rI0 fun i j => .bl (decide (i ≤ j))) opLe := od_I fun _ _ _ => .bl _
theorem od_gt : OpD X.K X.mg W (rI0 fun i j => .bl (decide (j < i))) opGt := od_I fun _ _ _ => .bl _
theorem od_ge : OpD X.K X.mg W (rI0 fun i j => .bl (decide (j ≤ i))) opGe := od_I fun _ _ _ => .bl _
theorem od_eq : OpD X.K X.mg W (rEqD X.K) opEq := fun {σ F H Q v u x y} s a b P => by
  unfold opEq eqD at P
  split at P
  · rename_i h
    have h' := Bool.and_eq_true_iff.mp h
    exact ⟨x, y, DD.dp s _ _ a, DD.dp s _ _ b, h'.1, h'.2, post_flat s (.bl _) P⟩
  · exact P.elim
theorem od_ne : OpD X.K X.mg W (rNeD X.K) opNe := fun {σ F H Q v u x y} s a b P => by
  unfold opNe eqD at P
  split at P
  · rename_i h
    have h' := Bool.and_eq_true_iff.mp h
    exact ⟨x, y, DD.dp s _ _ a, DD.dp s _ _ b, h'.1, h'.2, post_flat s (.bl _) P⟩
  · exact P.elim
def rIsA : R2 := fun x y H Q => (y = .non ∧ Q (.bl (decide (x = .non))) H) ∨ rIsB x y H Q
def rIsNotA : R2 := fun x y H Q => (y = .non ∧ Q (.bl (!decide (x = .non))) H) ∨ rNotB x y H Q
theorem op_isA : OpR X (compareOp .Is) rIsA := op_isN.or op_isBl
theorem op_isNotA : OpR X (compareOp .IsNot) rIsNotA := op_notN.or op_notBl
theorem od_is : OpD X.K X.mg W rIsA opIs := fun {σ F H Q v u x y} s a b P => by
  cases b with
  | non =>
    refine .inl ⟨rfl, ?_⟩
    cases a <;> exact post_flat s (.bl _) P
  | bl c =>
    cases a with
    | bl d => exact .inr ⟨_, _, rfl, rfl, post_flat s (.bl _) P⟩
    | _ => exact P.elim
  | _ => cases a <;> exact P.elim
theorem od_isNot : OpD X.K X.mg W rIsNotA opIsNot := fun {σ F H Q v u x y} s a b P => by
  cases b with
  | non =>
    refine .inl ⟨rfl, ?_⟩
    cases a <;> exact post_flat s (.bl _) P
  | bl c =>
    cases a with
    | bl d => exact .inr ⟨_, _, rfl, rfl, post_flat s (.bl _) P⟩
    | _ => exact P.elim
  | _ => cases a <;> exact P.elim
def rInA (K : PySem.W.Frag) : R2 := fun x y H Q => rIn K false x y H Q ∨ rInD K x y H Q ∨ (∃ (c : Nat) (z : Str), x = .str ⟨#[c]⟩ ∧ y = .str z ∧ Q (.bl (decide (c ∈ z.cps.toList))) H)
def rNotInA (K : PySem.W.Frag) : R2 := fun x y H Q => rIn K true x y H Q ∨ rNotInD K x y H Q ∨ (∃ (c : Nat) (z : Str), x = .str ⟨#[c]⟩ ∧ y = .str z ∧ Q (.bl (!decide (c ∈ z.cps.toList))) H)
theorem op_inA (hu : X.A.units + 65 < cLine) : OpR X (compareOp .In) (rInA X.K) := op_in_seq.or ((op_inD hu).or op_in_sign)
theorem op_notInA (hu : X.A.units + 65 < cLine) : OpR X (compareOp .NotIn) (rNotInA X.K) := op_notIn_seq.or ((op_notInD hu).or op_notIn_sign)
theorem od_in : OpD X.K X.mg W (rInA X.K) opIn := fun {σ F H Q v u x y} s a b P => by
  unfold opIn inD at P
  cases b with
  | @lst p ys es g w =>
    dsimp only at P
    split at P
    · rename_i hl
      have h' := Bool.and_eq_true_iff.mp hl
      refine .inl ⟨_, _, rfl, .inl (SqL.of (s _ _ g)), by rw [flat_of a]; exact h'.1, by rw [w.allFlat]; exact h'.2, ?_⟩
      rw [if_neg (by decide), w.anyEq a]
      exact post_flat s (.bl _) P
    · split at P
      · rename_i hl
        have h' := Bool.and_eq_true_iff.mp hl
        exact .inr (.inl ⟨x, es, DD.dp s _ _ a, DD.dp s _ _ (.lst g w), h'.1, h'.2, post_flat s (.bl _) P⟩)
      · exact P.elim
  | @tup p ys es g w =>
    dsimp only at P
    split at P
    · rename_i hl
      have h' := Bool.and_eq_true_iff.mp hl
      refine .inl ⟨_, _, rfl, .inr (SqT.of (s _ _ g)), by rw [flat_of a]; exact h'.1, by rw [w.allFlat]; exact h'.2, ?_⟩
      rw [if_neg (by decide), w.anyEq a]
      exact post_flat s (.bl _) P
    · exact P.elim
  | str z =>
    dsimp only at P
    split at P
    · rename_i c
      cases a
      exact .inr (.inr ⟨c, z, rfl, rfl, post_flat s (.bl _) P⟩)
    · exact P.elim
  | _ => exact P.elim
theorem od_notIn : OpD X.K X.mg W (rNotInA X.K) opNotIn := fun {σ F H Q v u x y} s a b P => by
  unfold opNotIn inD at P
  cases b with
  | @lst p ys es g w =>
    dsimp only at P
    split at P
    · rename_i hl
      have h' := Bool.and_eq_true_iff.mp hl
      refine .inl ⟨_, _, rfl, .inl (SqL.of (s _ _ g)), by rw [flat_of a]; exact h'.1, by rw [w.allFlat]; exact h'.2, ?_⟩
      rw [if_pos rfl, w.anyEq a]
      exact post_flat s (.bl _) P
    · split at P
      · rename_i hl
        have h' := Bool.and_eq_true_iff.mp hl
        exact .inr (.inl ⟨x, es, DD.dp s _ _ a, DD.dp s _ _ (.lst g w), h'.1, h'.2, post_flat s (.bl _) P⟩)
      · exact P.elim
  | @tup p ys es g w =>
    dsimp only at P
    split at P
    · rename_i hl
      have h' := Bool.and_eq_true_iff.mp hl
      refine .inl ⟨_, _, rfl, .inr (SqT.of (s _ _ g)), by rw [flat_of a]; exact h'.1, by rw [w.allFlat]; exact h'.2, ?_⟩
      rw [if_pos rfl, w.anyEq a]
      exact post_flat s (.bl _) P
    · exact P.elim
  | str z =>
    dsimp only at P
    split at P
    · rename_i c
      cases a
      exact .inr (.inr ⟨c, z, rfl, rfl, post_flat s (.bl _) P⟩)
    · exact P.elim
  | _ => exact P.elim
end

/-! ### as expressions -/
section
variable {X : Cx} {W : WX} {a b c e : Expr} {es : List Expr} {ta tb tc te : TE} {fa fb fc f : Ev → Rs R} {pos : Pos}
theorem op_sound {r : R2} {op : PyData → PyData → Rs R} (hd : OpD X.K X.mg W r op) (ha : EE X W a ta fa) (hb : EE X W b tb fb) {G H0 : Hp} {ρ : Ev} {σ : L2.St} {F H : Hp} (rel : Rel X.K G H0 ρ σ F H) (Q : VK)
    (P : Post X.K X.mg W σ F H Q (fOp op fa fb ρ)) : tOp r ta tb σ H Q :=
  ha.sound rel _ (post_data P fun d v F1 H1 e1 r1 P1 => hb.sound (rel.step e1) _ (post_data P1 fun d2 v2 F2 H2 e2 r2 P2 => hd e2.sub (DD.mono e2.ff _ _ r1) r2 P2))
theorem ee_op {o : Operator} {r : R2} {op : PyData → PyData → Rs R} (ho : OpR X (binaryOp o) r) (hd : OpD X.K X.mg W r op) (ha : EE X W a ta fa) (hb : EE X W b tb fb) : EE X W (.BinOp a o b pos) (tOp r ta tb) (fOp op fa fb) :=
  ⟨pe_op ho ha.pe hb.pe, op_sound hd ha hb⟩
theorem ee_cmp {o : CmpOp} {r : R2} {op : PyData → PyData → Rs R} (ho : OpR X (compareOp o) r) (hd : OpD X.K X.mg W r op) (ha : EE X W a ta fa) (hb : EE X W b tb fb) (hm : behindInMarks o b = false) : EE X W (.Compare a [o] [b] pos) (tOp r ta tb) (fOp op fa fb) :=
  ⟨pe_cmpR ho ha.pe hb.pe hm, op_sound hd ha hb⟩
def UnD (K : PySem.W.Frag) (mg : Str → Option Value) (W : WX) (r : V → Hp → VK → Prop) (op : PyData → Rs R) : Prop :=
  ∀ {σ : L2.St} {F H : Hp} {Q : VK} {v : V} {x : PyData}, Same F H → DD F v x → Post K mg W σ F H Q (op x) → r v H Q
theorem ee_un {o : UnaryOp} {r : V → Hp → VK → Prop} {op : PyData → Rs R} (ho : UnR X (unaryOp o) r) (hd : UnD X.K X.mg W r op) (ha : EE X W a ta fa) : EE X W (.UnaryOp o a pos) (tUn r ta) (fUn op fa) where
  pe := pe_un ho ha.pe
  sound := fun rel Q P => ha.sound rel _ (post_data P fun d v F1 H1 e1 r1 P1 => hd e1.sub r1 P1)
def opNeg : PyData → Rs R
  | .int i => .ok (.val (.int (-i)))
  | _ => .bad
theorem ud_neg : UnD X.K X.mg W (rU fun i => .int (-i)) opNeg := fun {σ F H Q v x} s a P => by
  cases a <;> first
    | exact ⟨_, rfl, post_flat s (.int _) P⟩
    | exact P.elim
/-- a chain of two comparisons -/
@[simp] def fChain (op op' : PyData → PyData → Rs R) (fa fb fc : Ev → Rs R) : Ev → Rs R := fun ρ => (fa ρ).bind fun a => a.d.bind fun x => (fb ρ).bind fun b => b.d.bind fun y => (op x y).bind fun z => z.d.bind fun w => (asB w).bind fun k =>
  if k = true then (fc ρ).bind fun c => c.d.bind fun v => op' y v else .ok (.val (.bool false))
theorem asB_ok {d : PyData} {b : Bool} (h : asB d = .ok b) : d = .bool b := by
  cases d <;> simp [asB] at h
  rw [h]
theorem post_asB {K : PySem.W.Frag} {mg : Str → Option Value} {σ : L2.St} {F H : Hp} {Q : VK} {d : PyData} {k : Bool → Rs R} (P : Post K mg W σ F H Q ((asB d).bind k)) : ∃ b, d = .bool b ∧ Post K mg W σ F H Q (k b) := by
  cases d <;> first
    | exact ⟨_, rfl, P⟩
    | exact P.elim
theorem ee_chain {o o' : CmpOp} {r r' : R2} {op op' : PyData → PyData → Rs R} (ho : OpR X (compareOp o) r) (ho' : OpR X (compareOp o') r') (hd : OpD X.K X.mg W r op) (hd' : OpD X.K X.mg W r' op') (ha : EE X W a ta fa) (hb : EE X W b tb fb) (hc : EE X W c tc fc)
    (hm : lastMarks [o, o'] [b, c] = false := by with_unfolding_all rfl) : EE X W (.Compare a [o, o'] [b, c] pos) (tChain r r' ta tb tc) (fChain op op' fa fb fc) where
  pe := pe_chain ho ho' ha.pe hb.pe hc.pe hm
  sound := fun rel Q P => ha.sound rel _ (post_data P fun d v F1 H1 e1 r1 P1 => hb.sound (rel.step e1) _ (post_data P1 fun d2 v2 F2 H2 e2 r2 P2 =>
    hd e2.sub (DD.mono e2.ff _ _ r1) r2 (post_data P2 fun d3 v3 F3 H3 e3 r3 P3 => by
      obtain ⟨k, rfl, P4⟩ := post_asB P3
      cases r3
      refine ⟨k, rfl, ?_⟩
      cases k with
      | true =>
        rw [if_pos rfl] at P4 ⊢
        exact hc.sound ((rel.step e1).step (e2.trans e3)) _ (post_data P4 fun d5 v5 F5 H5 e5 r5 P5 => hd' e5.sub (DD.mono e5.ff _ _ (DD.mono e3.ff _ _ r2)) r5 P5)
      | false =>
        rw [if_neg (by decide)] at P4 ⊢
        exact post_flat e3.sub (.bl _) P4)))

/-! ### tests -/
theorem postB_data {Q1 : VK} {Q : Bool → Hp → Prop} {K : PySem.W.Frag} {mg : Str → Option Value} {σ : L2.St} {F H : Hp} {m : Rs R} {k : PyData → Rs Bool} (P : PostB mg W σ F H Q (m.bind fun r => r.d.bind k))
    (h : ∀ d v F1 H1, Ext F H F1 H1 → DD F1 v d → PostB mg W σ F1 H1 Q (k d) → Q1 v H1) : Post K mg W σ F H Q1 m := by
  cases m with
  | ok r =>
    intro v F' H' x y
    cases hd : r.d with
    | ok d =>
      obtain ⟨F2, e2, _, q2⟩ := y.data x hd
      have P' : PostB mg W σ F H Q (k d) := by
        have : ((Rs.ok r).bind fun r => r.d.bind k) = k d := by simp [hd]
        rw [this] at P; exact P
      exact h d v F2 H' e2 q2 (postB_step P' e2)
    | err c => exact absurd hd (by cases r <;> simp [R.d])
    | bad =>
      have : ((Rs.ok r).bind fun r => r.d.bind k) = .bad := by simp [hd]
      rw [this] at P; exact P.elim
  | err c => exact P
  | bad => exact P
theorem et_val (h : EE X W e te f) (he : ∀ whole, isTrue e X.env whole = (do let v ← whole; standAt e.pos; holding [v] (truthy v)) := by intro _; rfl) : ET X W e (tB te) (fTest f) where
  pt := pt_val h.pe he
  sound := fun rel Q P => h.sound rel _ (postB_data P fun d v F1 H1 e1 r1 P1 => by
    cases r1 <;> first
      | exact ⟨_, rfl, P1 _ _ (Ext.refl e1.sub)⟩
      | exact P1.elim)
theorem postB_bind {Q Q1 : Bool → Hp → Prop} {mg : Str → Option Value} {σ : L2.St} {F H : Hp} {m : Rs Bool} {k : Bool → Rs Bool} (P : PostB mg W σ F H Q (m.bind k))
    (h : ∀ b F1 H1, Ext F H F1 H1 → PostB mg W σ F1 H1 Q (k b) → Q1 b H1) : PostB mg W σ F H Q1 m := by
  cases m with
  | ok r => exact fun F' H' x => h r F' H' x (postB_step P x)
  | err c => exact P
  | bad => exact P
variable {tA tB' : TT} {fA fB : Ev → Rs Bool} {rest : List Expr}
theorem et_not (h : ET X W a tA fA) : ET X W (.UnaryOp .Not a pos) (tNot tA) (fNot fA) where
  pt := pt_not h.pt
  sound := fun rel Q P => h.sound rel _ (postB_bind P fun b F1 H1 e1 P1 => P1 _ _ (Ext.refl e1.sub))
theorem ew_and1 (h : ET X W a tA fA) : EW X W (.BoolOp .And [a] pos) tA fA := ⟨pw_and1 h.pt, h.sound⟩
theorem ew_or1 (h : ET X W a tA fA) : EW X W (.BoolOp .Or [a] pos) tA fA := ⟨pw_or1 h.pt, h.sound⟩
theorem ew_and (h : ET X W a tA fA) (g : EW X W (.BoolOp .And (b :: rest) pos) tB' fB) : EW X W (.BoolOp .And (a :: b :: rest) pos) (tAnd tA tB') (fAnd fA fB) where
  pw := pw_and h.pt g.pw
  sound := fun rel Q P => h.sound rel _ (postB_bind P fun b F1 H1 e1 P1 => by
    cases b with
    | true =>
      rw [if_pos rfl] at P1 ⊢
      exact g.sound (rel.step e1) _ P1
    | false =>
      rw [if_neg (by decide)] at P1 ⊢
      exact P1 _ _ (Ext.refl e1.sub))
theorem ew_or (h : ET X W a tA fA) (g : EW X W (.BoolOp .Or (b :: rest) pos) tB' fB) : EW X W (.BoolOp .Or (a :: b :: rest) pos) (tOr tA tB') (fOr fA fB) where
  pw := pw_or h.pt g.pw
  sound := fun rel Q P => h.sound rel _ (postB_bind P fun b F1 H1 e1 P1 => by
    cases b with
    | true =>
      rw [if_pos rfl] at P1 ⊢
      exact P1 _ _ (Ext.refl e1.sub)
    | false =>
      rw [if_neg (by decide)] at P1 ⊢
      exact g.sound (rel.step e1) _ P1)
theorem EW.et (h : EW X W e tA fA) : ET X W e tA fA := ⟨h.pw.pt, h.sound⟩
/-! ### and, or, not as values -/
theorem ee_one {o} (h : EE X W a ta fa) : EE X W (.BoolOp o [a] pos) ta fa := ⟨pe_one h.pe, h.sound⟩
theorem ee_and (h : EE X W a ta fa) (g : EE X W (.BoolOp .And (b :: rest) pos) tb fb) : EE X W (.BoolOp .And (a :: b :: rest) pos) (tAndV ta tb) (fAndV fa fb) where
  pe := pe_and h.pe g.pe
  sound := fun rel Q P => h.sound rel _ (post_data P fun d v F1 H1 e1 r1 P1 => by
    obtain ⟨k, rfl, P4⟩ := post_asB P1
    cases r1
    refine ⟨k, rfl, ?_⟩
    cases k with
    | true =>
      rw [if_pos rfl] at P4 ⊢
      exact g.sound (rel.step e1) _ P4
    | false =>
      rw [if_neg (by decide)] at P4 ⊢
      exact post_flat e1.sub (.bl _) P4)
theorem ee_or (h : EE X W a ta fa) (g : EE X W (.BoolOp .Or (b :: rest) pos) tb fb) : EE X W (.BoolOp .Or (a :: b :: rest) pos) (tOrV ta tb) (fOrV fa fb) where
  pe := pe_or h.pe g.pe
  sound := fun rel Q P => h.sound rel _ (post_data P fun d v F1 H1 e1 r1 P1 => by
    obtain ⟨k, rfl, P4⟩ := post_asB P1
    cases r1
    refine ⟨k, rfl, ?_⟩
    cases k with
    | true =>
      rw [if_pos rfl] at P4 ⊢
      exact post_flat e1.sub (.bl _) P4
    | false =>
      rw [if_neg (by decide)] at P4 ⊢
      exact g.sound (rel.step e1) _ P4)
theorem ee_not (h : EE X W a ta fa) : EE X W (.UnaryOp .Not a pos) (tNotV ta) (fNotV fa) where
  pe := pe_not h.pe
  sound := fun rel Q P => h.sound rel _ (post_data P fun d v F1 H1 e1 r1 P1 => by
    obtain ⟨k, rfl, P4⟩ := post_asB P1
    cases r1
    exact ⟨k, rfl, post_flat e1.sub (.bl _) P4⟩)
theorem postB_out {Q1 : Bool → Hp → Prop} {Q : VK} {K : PySem.W.Frag} {mg : Str → Option Value} {σ : L2.St} {F H : Hp} {m : Rs Bool} {k : Bool → Rs R} (P : Post K mg W σ F H Q (m.bind k))
    (h : ∀ b F1 H1, Ext F H F1 H1 → Post K mg W σ F1 H1 Q (k b) → Q1 b H1) : PostB mg W σ F H Q1 m := by
  cases m with
  | ok r => exact fun F' H' x => h r F' H' x (post_step P x)
  | err c => exact P
  | bad => exact P
theorem ee_if (hc : ET X W c tA fA) (ha : EE X W a ta fa) (hb : EE X W b tb fb) : EE X W (.IfExp c a b pos) (tIf tA ta tb) (fIf fA fa fb) where
  pe := pe_ifExp hc.pt ha.pe hb.pe
  sound := fun rel Q P => hc.sound rel _ (postB_out P fun b F1 H1 e1 P1 => by
    cases b with
    | true =>
      rw [if_pos rfl] at P1 ⊢
      exact ha.sound (rel.step e1) _ P1
    | false =>
      rw [if_neg (by decide)] at P1 ⊢
      exact hb.sound (rel.step e1) _ P1)
/-! ### subscripts -/
def opIx : PyData → PyData → Rs R
  | .list ds, .int i => match atI ds i with
    | some d => .ok (.val d)
    | none => .bad
  | .tuple ds, .int i => match atI ds i with
    | some d => .ok (.val d)
    | none => .bad
  | .str z, .int i => if z.length ≤ lim then (match atI z.cps.toList i with
    | some c => .ok (.val (.str ⟨#[c]⟩))
    | none => .bad) else .bad
  | _, _ => .bad
theorem atI_DD {F : Hp} {vs : List V} {ds : List PyData} {i : Int} {d : PyData} (r : DDs F vs ds) (h : atI ds i = some d) : ∃ v, atI vs i = some v ∧ DD F v d := by
  unfold atI at *
  rw [r.len]
  cases hx : ixN ds.length i with
  | none => rw [hx] at h; cases h
  | some j =>
    rw [hx] at h
    obtain ⟨v, a, b⟩ := r.get (i := j) h
    exact ⟨v, a, b⟩
theorem od_ix : OpD X.K X.mg W (rIx X.K) opIx := fun {σ F H Q v u x y} s a b P => by
  unfold opIx at P
  cases a with
  | @lst p xs ds h r =>
    cases b with
    | int i =>
      dsimp only at P
      split at P
      · rename_i d hd
        obtain ⟨w, e1, e2⟩ := atI_DD r hd
        exact .inl ⟨_, _, _, _, rfl, rfl, SqL.of (s _ _ h), e1, post_flat s e2 P⟩
      · exact P.elim
    | _ => exact P.elim
  | @tup p xs ds h r =>
    cases b with
    | int i =>
      dsimp only at P
      split at P
      · rename_i d hd
        obtain ⟨w, e1, e2⟩ := atI_DD r hd
        exact .inr (.inl ⟨_, _, _, _, rfl, rfl, SqT.of (s _ _ h), e1, post_flat s e2 P⟩)
      · exact P.elim
    | _ => exact P.elim
  | str z =>
    cases b with
    | int i =>
      dsimp only at P
      split at P
      · rename_i hl
        split at P
        · rename_i c hc
          exact .inr (.inr ⟨_, _, _, rfl, rfl, Nat.le_trans hl lim_le, hc, post_flat s (.str _) P⟩)
        · exact P.elim
      · exact P.elim
    | _ => exact P.elim
  | _ => cases b <;> exact P.elim
theorem ee_ix (ha : EE X W a ta fa) (hb : EE X W b tb fb) (hs : PlainIx b := by exact fun _ _ => rfl) : EE X W (.Subscript a b pos) (tOp (rIx X.K) ta tb) (fOp opIx fa fb) :=
  ⟨pe_ix ix_seq ha.pe hb.pe hs, op_sound od_ix ha hb⟩
/-! ### slices -/
def cut {α : Type} (xs : List α) (lo hi : Option Int) : List α := (xs.drop (HT.sIx xs.length 0 lo)).take (HT.sIx xs.length xs.length hi - HT.sIx xs.length 0 lo)
structure EO (X : Cx) (W : WX) (e : Option Expr) (t : TO) (f : Ev → Rs (Option Int)) : Prop where
  po : PO X e t
  sound : ∀ {G H0 : Hp} {ρ : Ev} {σ : L2.St} {F H : Hp}, Rel X.K G H0 ρ σ F H → ∀ (Q1 : Option Int → Hp → Prop) (Q : VK) (k : Option Int → Rs R), Post X.K X.mg W σ F H Q ((f ρ).bind k) →
    (∀ o F1 H1, Ext F H F1 H1 → Post X.K X.mg W σ F1 H1 Q (k o) → Q1 o H1) → t σ H Q1
@[simp] def fNo : Ev → Rs (Option Int) := fun _ => .ok none
def asI : PyData → Rs (Option Int)
  | .int i => .ok (some i)
  | _ => .bad
@[simp] def fPart (f : Ev → Rs R) : Ev → Rs (Option Int) := fun ρ => (f ρ).bind fun r => r.d.bind asI
theorem eo_none : EO X W none tNoPart fNo := ⟨po_none, fun rel Q1 Q k P h => h none _ _ (Ext.refl rel.sub) P⟩
theorem bind_assoc {α β γ : Type} (m : Rs α) (k : α → Rs β) (j : β → Rs γ) : (m.bind k).bind j = m.bind fun x => (k x).bind j := by cases m <;> rfl
theorem eo_some (h : EE X W e te f) : EO X W (some e) (tPart te) (fPart f) where
  po := po_some h.pe
  sound := fun {G H0 ρ σ F H} rel Q1 Q k P g => by
    unfold fPart at P
    have P' : Post X.K X.mg W σ F H Q ((f ρ).bind fun r => r.d.bind fun x => (asI x).bind k) := by
      simpa only [bind_assoc] using P
    exact h.sound rel _ (post_data P' fun d v F1 H1 e1 r1 P1 => by
      cases r1 <;> first
        | exact ⟨_, rfl, g _ _ _ e1 P1⟩
        | exact P1.elim)
def opSl (d : PyData) (lo hi : Option Int) : Rs R := match d with
  | .list ds => .ok (.own (cut ds lo hi))
  | .tuple ds => .ok (.val (.tuple (cut ds lo hi)))
  | .str z => if z.length ≤ lim then .ok (.val (.str (cutS z lo hi))) else .bad
  | _ => .bad
def rSlAll (K : PySem.W.Frag) : V → Option Int → Option Int → Hp → VK → Prop := fun x lo hi H Q => rSlL K x lo hi H Q ∨ rSlA K x lo hi H Q ∨ rSlS x lo hi H Q
theorem sl_all : SlR X (rSlAll X.K) := sl_list.or (sl_tupA.or sl_str)
theorem DDs.cut {F : Hp} {vs : List V} {ds : List PyData} (r : DDs F vs ds) (lo hi : Option Int) : DDs F (cutV vs lo hi) (DN.cut ds lo hi) := by
  unfold cutV DN.cut
  rw [r.len]
  exact (r.drop _).take _
theorem cut_whole {α : Type} {xs : List α} {lo hi : Option Int} (h : HT.sIx xs.length 0 lo = 0 ∧ HT.sIx xs.length xs.length hi = xs.length) : DN.cut xs lo hi = xs := by
  unfold DN.cut
  rw [h.1, h.2]
  simp
@[simp] def fSl (f : Ev → Rs R) (fl fh : Ev → Rs (Option Int)) : Ev → Rs R := fun ρ => (f ρ).bind fun r => r.d.bind fun x => (fl ρ).bind fun lo => (fh ρ).bind fun hi => opSl x lo hi
theorem ee_sl {lo hi : Option Expr} {tl th : TO} {fl fh : Ev → Rs (Option Int)} {p2 : Pos} (he : EE X W e te f) (hl : EO X W lo tl fl) (hh : EO X W hi th fh) : EE X W (.Subscript e (.Slice lo hi none p2) pos) (tSl (rSlAll X.K) te tl th) (fSl f fl fh) where
  pe := pe_slice sl_all he.pe hl.po hh.po
  sound := fun {G H0 ρ σ F H} rel Q P => he.sound rel _ (post_data P fun d v F1 H1 e1 r1 P1 => hl.sound (rel.step e1) _ Q _ P1 fun lo F2 H2 e2 P2 => hh.sound ((rel.step e1).step e2) _ Q _ P2 fun hi F3 H3 e3 P3 => by
    have r3 := DD.mono (e2.ff.trans e3.ff) _ _ r1
    have s := e3.sub
    unfold opSl at P3
    cases r3 with
    | @lst p xs ds h r => exact .inl ⟨_, _, rfl, SqL.of (s _ _ h), new_lst s (r.cut lo hi) P3⟩
    | @tup p xs ds h r =>
      refine .inr (.inl ⟨_, _, rfl, SqT.of (s _ _ h), fun z => ?_, fun _ => new_tup s (r.cut lo hi) P3⟩)
      rw [r.len] at z
      dsimp only at P3
      rw [cut_whole z] at P3
      exact post_flat s (.tup h r) P3
    | str z =>
      dsimp only at P3
      split at P3
      · rename_i hl
        exact .inr (.inr ⟨_, rfl, Nat.le_trans hl lim_le, post_flat s (.str _) P3⟩)
      · exact P3.elim
    | _ => exact P3.elim)

/-! ### calls of defs -/
/-- what a def of plain data promises -/
def spD (K : PySem.W.Frag) (mg : Str → Option Value) (n : Nat) (den : List R → Rs R) : Sp := fun vs H Q E => vs.length = n ∧ ∃ rs F, Same F H ∧ Args K F H vs rs ∧ (match den rs with
  | .ok r => ∀ v F' H', Ext F H F' H' → RepN K F' H' H v r → Q v H'
  | .err c => ∀ C H', mg c = some (.ref C) → Same H H' → E (.ref C) none H'
  | .bad => False)
theorem Args.len {K : PySem.W.Frag} {F H : Hp} : ∀ {vs : List V} {rs : List R}, Args K F H vs rs → vs.length = rs.length
  | _, _, .nil => rfl
  | _, _, .cons _ t => congrArg (· + 1) (Args.len t)
theorem ee_call {k n : Nat} {fn : Addr} {fd : FuncData} {ps : List Str} {den : List R → Rs R} {x : Str} {p : Pos} {t : TA} {fr : Ev → Rs (List R)} (Fn : FnOk X.prog X.w X.K X.mg X.base (L2.CX X.prog X.w) k fn fd ps (spD X.K X.mg n den)) (hr : Room k X.A) (hm : X.mg x = some (.ref fn))
    (hk : PySem.W.keepIn X.K (.ref fn) = true) (hb : Binds X.K fd ps []) (tk : Takes X W) (ha : EA X W (e :: es) t fr) (hn : (e :: es).length = n := by rfl) (hg : Gl X x := by rfl)
    (hdb : (x == ("__debug__" : Str)) = false := by decide) (he : starEach (e :: es) X.env = (false, eval e X.env) :: starEach es X.env := by rfl) (hpl : (backTo pos (starEach es X.env)).any (·.1) = false := by rfl) :
    EE X W (.Call (.Name x p) (e :: es) [] pos) (tCallS (spD X.K X.mg n den) (WE W) t) (fCall den fr) where
  pe := pe_callS Fn hr hg hm hk hb (fun σ => passAt tk σ) ha.pa hdb he hpl
  sound := fun {G H0 ρ σ F H} rel Q P => ha.sound rel _ (postA_out P fun rs vs F1 H1 q e1 r1 P1 => ⟨by rw [r1.len, ha.len ρ rs q]; exact hn, rs, F1, e1.sub, r1, by
    cases hd : den rs with
    | ok r => rw [hd] at P1; exact P1
    | err c => rw [hd] at P1; exact P1
    | bad => rw [hd] at P1; exact P1⟩)
theorem ee_call0 {k : Nat} {fn : Addr} {fd : FuncData} {ps : List Str} {den : List R → Rs R} {x : Str} {p : Pos} (Fn : FnOk X.prog X.w X.K X.mg X.base (L2.CX X.prog X.w) k fn fd ps (spD X.K X.mg 0 den)) (hr : Room k X.A) (hm : X.mg x = some (.ref fn))
    (hk : PySem.W.keepIn X.K (.ref fn) = true) (hb : Binds X.K fd ps []) (E : XK) (hp : Passes (L2.CX X.prog X.w) X E) (hE : ∀ c d σ H, W c d σ H → E c d H) (hg : Gl X x := by rfl)
    (hdb : (x == ("__debug__" : Str)) = false := by decide) :
    EE X W (.Call (.Name x p) [] [] pos) (tCall (spD X.K X.mg 0 den) [] E tNil) (fun _ => den []) where
  pe := pe_call0 Fn hr hg hm hk hb .nil hp hdb
  sound := fun {G H0 ρ σ F H} rel Q P => ⟨rfl, [], F, rel.sub, .nil, by
    cases hd : den [] with
    | ok r => rw [hd] at P; exact P
    | err c => rw [hd] at P; exact fun C H' m s => hE _ _ σ _ (P C H' m s)
    | bad => rw [hd] at P; exact P⟩

/-! ### calls of built-ins -/
def BiD (K : PySem.W.Frag) (mg : Str → Option Value) (W : WX) (r : List V → Hp → VK → Prop) (op : List PyData → Rs R) : Prop :=
  ∀ {σ : L2.St} {F H : Hp} {Q : VK} {vs : List V} {ds : List PyData}, Same F H → DDs F vs ds → Post K mg W σ F H Q (op ds) → r vs H Q
theorem ee_callB {x : Str} {id : String} {p : Pos} {t : TA} {fr : Ev → Rs (List PyData)} {r : List V → Hp → VK → Prop} {op : List PyData → Rs R} (hc : CallR X (.builtin id) r) (hd : BiD X.K X.mg W r op) (hm : X.mg x = none) (hv : bootBuiltins x = some (.builtin id)) (ha : ED X W (e :: es) t fr)
    (hg : Gl X x := by rfl) (hn : x ≠ "__name__" := by decide) (hdb : (x == ("__debug__" : Str)) = false := by decide)
    (he : starEach (e :: es) X.env = (false, eval e X.env) :: starEach es X.env := by rfl) (hpl : (backTo pos (starEach es X.env)).any (·.1) = false := by rfl) : EE X W (.Call (.Name x p) (e :: es) [] pos) (tCB r t) (fBi op fr) where
  pe := pe_callB hc hg hm hv ha.pa hn hdb he hpl
  sound := fun {G H0 ρ σ F H} rel Q P => ha.sound rel _ (postD_out P fun ds vs F1 H1 e1 r1 P1 => hd e1.sub r1 P1)
theorem ee_callTy {x : Str} {T : String} {p : Pos} {t : TA} {fr : Ev → Rs (List PyData)} {r : List V → Hp → VK → Prop} {op : List PyData → Rs R} (hc : CallR X (.type T) r) (hd : BiD X.K X.mg W r op) (hm : X.mg x = none) (hv : bootBuiltins x = some (.type T)) (ha : ED X W (e :: es) t fr)
    (hg : Gl X x := by rfl) (hn : x ≠ "__name__" := by decide) (hdb : (x == ("__debug__" : Str)) = false := by decide)
    (he : starEach (e :: es) X.env = (false, eval e X.env) :: starEach es X.env := by rfl) (hpl : (backTo pos (starEach es X.env)).any (·.1) = false := by rfl) : EE X W (.Call (.Name x p) (e :: es) [] pos) (tCB r t) (fBi op fr) where
  pe := pe_callTy hc hg hm hv ha.pa hn hdb he hpl
  sound := fun {G H0 ρ σ F H} rel Q P => ha.sound rel _ (postD_out P fun ds vs F1 H1 e1 r1 P1 => hd e1.sub r1 P1)
/-- len -/
def biLen : List PyData → Rs R
  | [.list ds] => .ok (.val (.int ds.length))
  | [.tuple ds] => .ok (.val (.int ds.length))
  | [.str z] => if z.length ≤ lim then .ok (.val (.int z.length)) else .bad
  | _ => .bad
theorem bd_len : BiD X.K X.mg W (fun xs H Q => ∃ x n, xs = [x] ∧ LenV X.K x H n ∧ Q (.int n) H) biLen := fun {σ F H Q vs ds} s r P => by
  match ds, r with
  | [], .nil => exact P.elim
  | [_], .cons h .nil =>
    unfold biLen at P
    cases h with
    | @lst p xs ds h r => exact ⟨_, _, rfl, .inl ⟨_, SqL.of (s _ _ h), rfl⟩, by rw [r.len]; exact post_flat s (.int _) P⟩
    | @tup p xs ds h r => exact ⟨_, _, rfl, .inr ⟨_, SqT.of (s _ _ h), rfl⟩, by rw [r.len]; exact post_flat s (.int _) P⟩
    | str z =>
      dsimp only at P
      split at P
      · rename_i hl
        exact ⟨_, _, rfl, ⟨Nat.le_trans hl lim_le, rfl⟩, post_flat s (.int _) P⟩
      · exact P.elim
    | _ => exact P.elim
  | _ :: _ :: _, .cons h (.cons _ _) => cases h <;> exact P.elim
/-- all, any of a list of truth values -/
def asBs : List PyData → Option (List Bool)
  | [] => some []
  | .bool b :: r => (asBs r).map (b :: ·)
  | _ => none
theorem asBs_eq : ∀ {ds : List PyData} {bs : List Bool}, asBs ds = some bs → ds = bs.map PyData.bool
  | [], _, h => by simp [asBs] at h; subst h; rfl
  | d :: r, bs, h => by
    cases d <;> simp [asBs] at h
    obtain ⟨a, h1, rfl⟩ := h
    rw [asBs_eq h1]; rfl
@[simp] theorem asBs_map (bs : List Bool) : asBs (bs.map PyData.bool) = some bs := by
  induction bs with
  | nil => rfl
  | cons b r ih => simp [asBs, ih]
def biAll : List PyData → Rs R
  | [.list ds] => match asBs ds with
    | some bs => .ok (.val (.bool (bs.all id)))
    | none => .bad
  | _ => .bad
def biAny : List PyData → Rs R
  | [.list ds] => match asBs ds with
    | some bs => .ok (.val (.bool (bs.any id)))
    | none => .bad
  | _ => .bad
theorem bd_all : BiD X.K X.mg W (rAll X.K) biAll := fun {σ F H Q vs ds} s r P => by
  match ds, r with
  | [], .nil => exact P.elim
  | [_], .cons h .nil =>
    unfold biAll at P
    cases h with
    | @lst p xs ds h r =>
      dsimp only at P
      split at P
      · rename_i bs hb
        have e := asBs_eq hb
        subst e
        have e2 := r.ofBools
        subst e2
        exact ⟨_, bs, rfl, SqL.of (s _ _ h), post_flat s (.bl _) P⟩
      · exact P.elim
    | _ => exact P.elim
  | _ :: _ :: _, .cons h (.cons _ _) => cases h <;> exact P.elim
theorem bd_any : BiD X.K X.mg W (rAny X.K) biAny := fun {σ F H Q vs ds} s r P => by
  match ds, r with
  | [], .nil => exact P.elim
  | [_], .cons h .nil =>
    unfold biAny at P
    cases h with
    | @lst p xs ds h r =>
      dsimp only at P
      split at P
      · rename_i bs hb
        have e := asBs_eq hb
        subst e
        have e2 := r.ofBools
        subst e2
        exact ⟨_, bs, rfl, SqL.of (s _ _ h), post_flat s (.bl _) P⟩
      · exact P.elim
    | _ => exact P.elim
  | _ :: _ :: _, .cons h (.cons _ _) => cases h <;> exact P.elim
/-- list(x), tuple(x) -/
def biList : List PyData → Rs R
  | [.list ds] => .ok (.own ds)
  | [.tuple ds] => .ok (.own ds)
  | _ => .bad
def biTuple : List PyData → Rs R
  | [.list ds] => .ok (.val (.tuple ds))
  | [.tuple ds] => .ok (.val (.tuple ds))
  | _ => .bad
theorem bd_list : BiD X.K X.mg W (fun xs H Q => ∃ p ys, xs = [.ref p] ∧ (SqL X.K H p ys ∨ SqT X.K H p ys) ∧ ∀ l, H l = none → Q (.ref l) (upd H l (.lst ys))) biList := fun {σ F H Q vs ds} s r P => by
  match ds, r with
  | [], .nil => exact P.elim
  | [_], .cons h .nil =>
    unfold biList at P
    cases h with
    | @lst p xs ds h r => exact ⟨_, _, rfl, .inl (SqL.of (s _ _ h)), new_lst s r P⟩
    | @tup p xs ds h r => exact ⟨_, _, rfl, .inr (SqT.of (s _ _ h)), new_lst s r P⟩
    | _ => exact P.elim
  | _ :: _ :: _, .cons h (.cons _ _) => cases h <;> exact P.elim
theorem bd_tuple : BiD X.K X.mg W (fun xs H Q => ∃ p ys, xs = [.ref p] ∧ ((SqL X.K H p ys ∧ ∀ l, H l = none → Q (.ref l) (upd H l (.tup ys))) ∨ (SqT X.K H p ys ∧ Q (.ref p) H))) biTuple := fun {σ F H Q vs ds} s r P => by
  match ds, r with
  | [], .nil => exact P.elim
  | [_], .cons h .nil =>
    unfold biTuple at P
    cases h with
    | @lst p xs ds h r => exact ⟨_, _, rfl, .inl ⟨SqL.of (s _ _ h), new_tup s r P⟩⟩
    | @tup p xs ds h r => exact ⟨_, _, rfl, .inr ⟨SqT.of (s _ _ h), post_flat s (.tup h r) P⟩⟩
    | _ => exact P.elim
  | _ :: _ :: _, .cons h (.cons _ _) => cases h <;> exact P.elim
/-- max(i, j), min(i, j) -/
def biMax2 : List PyData → Rs R
  | [.int i, .int j] => .ok (.val (.int (if j > i then j else i)))
  | _ => .bad
def biMin2 : List PyData → Rs R
  | [.int i, .int j] => .ok (.val (.int (if j < i then j else i)))
  | _ => .bad
theorem bd_max2 : BiD X.K X.mg W (fun xs H Q => ∃ i j, xs = [.int i, .int j] ∧ Q (.int (if j > i then j else i)) H) biMax2 := fun {σ F H Q vs ds} s r P => by
  match ds, r with
  | [], .nil => exact P.elim
  | [_], .cons h .nil => cases h <;> exact P.elim
  | [_, _], .cons h (.cons g .nil) =>
    cases h <;> cases g <;> first
      | exact ⟨_, _, rfl, post_flat s (.int _) P⟩
      | exact P.elim
  | _ :: _ :: _ :: _, .cons h (.cons g (.cons _ _)) => cases h <;> cases g <;> exact P.elim
theorem bd_min2 : BiD X.K X.mg W (fun xs H Q => ∃ i j, xs = [.int i, .int j] ∧ Q (.int (if j < i then j else i)) H) biMin2 := fun {σ F H Q vs ds} s r P => by
  match ds, r with
  | [], .nil => exact P.elim
  | [_], .cons h .nil => cases h <;> exact P.elim
  | [_, _], .cons h (.cons g .nil) =>
    cases h <;> cases g <;> first
      | exact ⟨_, _, rfl, post_flat s (.int _) P⟩
      | exact P.elim
  | _ :: _ :: _ :: _, .cons h (.cons g (.cons _ _)) => cases h <;> cases g <;> exact P.elim
/-- int(i) -/
def biInt : List PyData → Rs R
  | [.int i] => .ok (.val (.int i))
  | _ => .bad
theorem bd_int : BiD X.K X.mg W (fun xs H Q => (∃ i, xs = [.int i] ∧ Q (.int i) H) ∨ ∃ k, xs = [.bl k] ∧ Q (.int (if k then 1 else 0)) H) biInt := fun {σ F H Q vs ds} s r P => by
  match ds, r with
  | [], .nil => exact P.elim
  | [_], .cons h .nil =>
    cases h <;> first
      | exact .inl ⟨_, rfl, post_flat s (.int _) P⟩
      | exact P.elim
  | _ :: _ :: _, .cons h (.cons _ _) => cases h <;> exact P.elim
/-! ### isinstance(e, T) -/
def tyD : PyData → String
  | .none => "NoneType"
  | .bool _ => "bool"
  | .int _ => "int"
  | .str _ => "str"
  | .list _ => "list"
  | .tuple _ => "tuple"
  | .dict _ => "dict"
def isiD (T : String) (d : PyData) : Rs R := match kitB (tyD d) T with
  | some b => .ok (.val (.bool b))
  | none => .bad
theorem tyX_of {K : PySem.W.Frag} {F H : Hp} {v : V} {d : PyData} (s : Same F H) (h : DD F v d) : TyX K H v (.type (tyD d)) := by
  cases h with
  | non => exact .base .non
  | bl b => exact .base (.bl b)
  | int b => exact .base (.int b)
  | str b => exact .base (.str b)
  | lst h r => exact .base (.lst (s _ _ h))
  | tup h r => exact .base (.tup (s _ _ h))
theorem ee_isi {T : Str} {n : String} {p p2 : Pos} (he : EE X W e te f) (hm : X.mg "isinstance" = none) (hT : X.mg T = none) (hb : bootBuiltins T = some (.type n)) (hg : Gl X "isinstance" := by rfl) (hgT : Gl X T := by rfl) (hn : T ≠ "__name__" := by decide) (hd : (T == ("__debug__" : Str)) = false := by decide)
    (hs1 : starEach [e, .Name T p2] X.env = (false, eval e X.env) :: starEach [.Name T p2] X.env := by rfl) (hs2 : starEach [.Name T p2] X.env = (false, eval (.Name T p2) X.env) :: starEach [] X.env := by rfl) (hpl : (backTo pos (starEach [.Name T p2] X.env)).any (·.1) = false := by rfl) :
    EE X W (.Call (.Name "isinstance" p) [e, .Name T p2] [] pos) (tCB (rIsi X.K) (tCons te (tCons (tC (.ty n)) tNil))) (fUn (isiD n) f) where
  pe := pe_callB call_isi hg hm (by decide +kernel) (pa_cons he.pe (pa_cons (pe_bltn (v := .ty n) hgT hT hb rfl hn hd) pa_nil hs2) hs1) (by decide) (by decide) hs1 hpl
  sound := fun {G H0 ρ σ F H} rel Q P => he.sound rel _ (post_data P fun d v F1 H1 e1 r1 P1 => by
    unfold isiD at P1
    split at P1
    · rename_i b hb
      exact ⟨v, _, _, _, b, rfl, .ty n, tyX_of e1.sub r1, kit_ty hb, post_flat e1.sub (.bl _) P1⟩
    · exact P1.elim)
end
end DN
/-! Den4: enumerate and zip of lists and tuples in any mix. -/
namespace DN
open PySem PySem.Spec PyProof.Rows L2

/-! ### a source: a tuple (true) or a list -/
def SqK (k : Bool) (K : PySem.W.Frag) (H : Hp) (a : Addr) (xs : List V) : Prop := match k with
  | true => SqT K H a xs
  | false => SqL K H a xs
def IterK (k : Bool) (h : Heap) (it a : Addr) (i : Nat) : Prop := match k with
  | true => h.IsTupleIter it a i
  | false => h.IsListIter it a i
def SeqK (k : Bool) (h : Heap) (a : Addr) (items : Array Value) : Prop := match k with
  | true => h.IsTuple a items
  | false => h.IsList a items
def iterObj (k : Bool) (a : Addr) : Obj := match k with
  | true => { cls := .type "tuple_iterator", data := .fields #[.ref a, .int 0 0] }
  | false => { cls := .type "list_iterator", data := .fields #[.ref a, .int 0 0] }
section
variable {X : Cx} {pins : List (Addr × Obj)} {σ : L2.St} {H : Hp} {s : Shared} {a : Addr} {xs ys : List V} {k : Bool}
theorem seqK_of (I : Inv X pins σ H s) (h : SqK k X.K H a xs) : ∃ its : List Value, Vals xs its ∧ SeqK k s.heap a its.toArray ∧ xs.length ≤ sizeLine := by
  cases k with
  | true => exact I.tuple h
  | false =>
    obtain ⟨its, a, b, c⟩ := I.list h
    exact ⟨its, a, b.isList, c⟩
theorem seqK_inj (I : Inv X pins σ H s) (h : SqK k X.K H a xs) (g : SqK k X.K H a ys) : xs = ys := by
  cases k with
  | true => exact I.tuple_inj h g
  | false => exact I.list_inj h g
end
theorem IterK.at {k : Bool} {h h' : Heap} {it a : Addr} {i : Nat} (x : IterK k h it a i) (e : ∀ o, h.get? it = some o → h'.get? it = some o) : IterK k h' it a i := by
  cases k with
  | true => exact Heap.IsTupleIter.at x e
  | false => exact Heap.IsListIter.at x e
theorem IterK.obj {k : Bool} {h : Heap} {it a : Addr} {i : Nat} (x : IterK k h it a i) : ∃ o, h.get? it = some o ∧ ∀ v, o.data ≠ .cell v := by
  cases k with
  | true =>
    obtain ⟨o, e, c, d⟩ := x
    exact ⟨o, e, fun v z => by rw [d] at z; cases z⟩
  | false =>
    obtain ⟨o, e, c, d⟩ := x
    exact ⟨o, e, fun v z => by rw [d] at z; cases z⟩
theorem SeqK.at {k : Bool} {h h' : Heap} {a : Addr} {xs : Array Value} (x : SeqK k h a xs) (e : ∀ o, h.get? a = some o → h'.get? a = some o) : SeqK k h' a xs := by
  cases k with
  | true => exact Heap.IsTuple.at x e
  | false => exact Heap.IsList.at x e
theorem iter0 {k : Bool} {h : Heap} {it a : Addr} (e : h.get? it = some (iterObj k a)) : IterK k h it a 0 := by
  cases k with
  | true => exact ⟨_, e, rfl, rfl⟩
  | false => exact ⟨_, e, rfl, rfl⟩
theorem drawsK {k : Bool} {prog : Program} {w : World} {A : Around} (hh : A.handled = none) (it t : Addr) (hne : t ≠ it) (items : Array Value) :
    Draws prog w A it [it, t] items.size (fun i v => items[i]? = some v) (fun i h => IterK k h it t i ∧ SeqK k h t items) := by
  cases k with
  | true => exact Draws.tuple hh it t hne items
  | false => exact Draws.list hh it t hne items
theorem beginsK (k : Bool) (t : Addr) (items : Array Value) : Begins (.ref t) (iterObj k t) fun h => SeqK k h t items := by
  cases k with
  | true => exact begins_tuple t items
  | false => exact begins_list t items

/-! ### enumerate -/
def IteK (k : Bool) (K : PySem.W.Frag) (a : Addr) : It :=
  ⟨fun i H => ∃ (xs : List V) (x : V), SqK k K H a xs ∧ xs[i]? = some x, fun i H v H' => ∃ T x, v = .ref T ∧ H T = none ∧ H' = upd H T (.tup [.int (i : Nat), x]) ∧ ∀ xs, SqK k K H a xs → xs[i]? = some x, fun i H => ∃ xs : List V, SqK k K H a xs ∧ xs.length = i⟩
theorem turn_enumK {k : Bool} {P : Program} {w : World} {K : PySem.W.Frag} {elts : List Expr} {kk : Nat} {tpos : Pos} (a e it : Addr) :
    Turn P w K (.Tuple elts kk tpos) (IteK k K a) [e, it] e (fun i h => (∃ old, IsEnum h e it ((i : Nat) : Int) old) ∧ IterK k h it a i ∧ e ≠ it ∧ a ≠ it ∧ a ≠ e) where
  mem := by simp
  obj := fun i h st b hb => by
    obtain ⟨⟨old, he⟩, hit, _⟩ := st
    have e' : b = e ∨ b = it := by simpa using hb
    rcases e' with z | z
    · rw [z]; exact ⟨_, he, fun v q => nomatch q⟩
    · rw [z]; exact hit.obj
  keep := fun i h h' st kp => let ⟨⟨old, he⟩, hi, hne⟩ := st; ⟨⟨old, kp e (by simp) _ he⟩, hi.at fun o q => kp it (by simp) o q, hne⟩
  item := by
    intro X hP hw hK hc i pins s σ H E I hf st hg
    subst hP hw hK
    obtain ⟨⟨old, he⟩, hit, hne, hai, hae⟩ := st
    obtain ⟨xs, x, hq, hx⟩ := hg
    obtain ⟨its, rv, p, hz⟩ := seqK_of I hq
    obtain ⟨u, hu, ru⟩ := rv.get hx
    have hel : e < s.heap.objs.size := Heap.lt_size he
    have hil : it < s.heap.objs.size := by obtain ⟨_, q, _⟩ := hit.obj; exact Heap.lt_size q
    have D := drawsK (k := k) (prog := X.prog) (w := X.w) (A := X.A.in1) (I.ok.hd hc) it a hai its.toArray
    have hi : i < its.toArray.size := by
      have := (List.getElem?_eq_some_iff.mp hu).1
      simpa using this
    refine (GoesN.enumFrom (elts := elts) (x1 := kk) (pos := tpos) 0 D e hne (by simp; exact ⟨hne, fun z => hae z.symm⟩) (by simp)).goes i s
      (fun u s2 => ∃ x H', Inv X pins σ H' s2 ∧ RelV x u ∧ (IteK k X.K a).yld i H x H' ∧ ((∃ old, IsEnum s2.heap e it (((i + 1 : Nat)) : Int) old) ∧ IterK k s2.heap it a (i + 1) ∧ e ≠ it ∧ a ≠ it ∧ a ≠ e) ∧ ∀ b ∈ [e, it], H' b = none)
      E hi ⟨⟨old, by rw [Int.zero_add]; exact he⟩, hit, p⟩ fun v h' tk hY st' hk htk => ?_
    obtain ⟨T, t, y, rfl, hT, hy, hTup⟩ := hY
    have ey : y = u := by
      have : its.toArray[i]? = some u := by simpa using hu
      rw [this] at hy; exact (Option.some.inj hy).symm
    subst ey
    have hnw : ∀ b, b ∉ ([e, it] : List Addr) → b ∉ ([e, it] : List Addr) := fun _ z => z
    have new : ObjOk X.prog X.w (upd H T (.tup [.int (i : Nat), x])) h' T (.tup [.int (i : Nat), x]) :=
      ⟨by show 2 ≤ sizeLine; decide, [.int (0 + (i : Int)) t, y], .cons ⟨_, by rw [Int.zero_add]⟩ (.cons ru .nil), hTup⟩
    have I1 : Inv X pins σ (upd H T (.tup [.int (i : Nat), x])) { s with heap := h', toks := tk } :=
      I.turnedNew (ch := [e, it]) (fun b ob hb q => hk b ob hb q) hf hT new
    refine ⟨.ref T, _, I1, rfl, ⟨T, x, rfl, I.hok.fresh hT, rfl, fun ys hy => by rw [seqK_inj I hy hq]; exact hx⟩, ⟨?_, st'.2.1, hne, hai, hae⟩, fun b hb => ?_⟩
    · obtain ⟨⟨old', he'⟩, _⟩ := st'
      rw [Int.zero_add] at he'
      exact ⟨old', he'⟩
    · have hb' : b < s.heap.objs.size := by
        have e' : b = e ∨ b = it := by simpa using hb
        rcases e' with z | z
        · rw [z]; exact hel
        · rw [z]; exact hil
      rw [upd_ne (Nat.ne_of_lt (Nat.lt_of_lt_of_le hb' hT))]
      exact (hf b hb).1
  done := by
    intro X hP hw hK hc i pins s σ H E I hf st hg
    subst hP hw hK
    obtain ⟨⟨old, he⟩, hit, hne, hai, hae⟩ := st
    obtain ⟨xs, hq, hx⟩ := hg
    obtain ⟨its, rv, p, hz⟩ := seqK_of I hq
    have D := drawsK (k := k) (prog := X.prog) (w := X.w) (A := X.A.in1) (I.ok.hd hc) it a hai its.toArray
    have hn : its.toArray.size = i := by rw [← hx, rv.length]; simp
    refine (GoesN.enumFrom (elts := elts) (x1 := kk) (pos := tpos) 0 D e hne (by simp; exact ⟨hne, fun z => hae z.symm⟩) (by simp)).stops s _ E (by
      rw [hn]; exact ⟨⟨old, by rw [Int.zero_add]; exact he⟩, hit, p⟩) fun h' tk hk htk => ?_
    exact I.turnedL (ch := [e, it]) (fun b o hb q => hk b o hb q) hf
  self := fun A i s Q E st h => let ⟨⟨_, he⟩, _⟩ := st; wpAny_pyIter_enum he h
set_option maxHeartbeats 1000000 in
theorem meets_enumerate_new1 {v : Value} {o : Obj} {H : Heap → Prop} (B : Begins v o H) :
    Meets (Builtin.«enumerate.__new__» ⟨[.type "enumerate", v], []⟩) (fun _ R s => H s.heap ∧
      R (.ok (.ret (.ref (s.heap.push o).objs.size))) { s with heap := (s.heap.push o).push { cls := .type "enumerate", data := .fields #[.none, .bool false, .ref s.heap.objs.size, rawInt 0, .none, .none] } }) :=
  .of_wp fun prog w A R s h => by
    obtain ⟨hp, g, d, tk, os⟩ := s; obtain ⟨h1, h⟩ := h
    have hsub := sub_enumerate
    have q1 : ∀ {A' : Around} {E : Value → Shared → Prop} {Q : Value → Shared → Prop}, Q (.ref hp.objs.size) ⟨hp.push o, g, d, tk, os⟩ → wpAny (model prog w) A' (pyIter v) Q E ⟨hp, g, d, tk, os⟩ :=
      fun q => B.iter prog w _ _ ⟨hp, g, d, tk, os⟩ _ h1 q
    wp_walk using q1
    refine wpAny_stack_any fun st => wpAny_pure ?_
    split
    · rename_i c _ _ _ _ _
      cases (c == Value.type "enumerate")
      · wp_walk using q1
        exact ⟨_, rfl, h⟩
      · wp_walk using q1
        exact ⟨_, rfl, h⟩
    · wp_walk using q1
      exact ⟨_, rfl, h⟩
theorem call_enum1 {prog : Program} {w : World} {A : Around} {E : Value → Shared → Prop} {s : Shared} {v : Value} {o : Obj} {H : Heap → Prop} {Q : Value → Shared → Prop} (B : Begins v o H) (h1 : H s.heap)
    (h : ∀ h', IsEnum h' (s.heap.objs.size + 1) s.heap.objs.size 0 .none → h'.get? s.heap.objs.size = some o → h'.objs.size = s.heap.objs.size + 2 →
      (∀ b o, s.heap.get? b = some o → h'.get? b = some o) → Q (.ref (s.heap.objs.size + 1)) { s with heap := h' }) :
    wpAny (model prog w) A (call (.type "enumerate") [v]) Q E s := by
  refine callType_new F.called_enumerate (by decide) (F.typeCall_enumerate_1 _) (F.newCall_enumerate_1 _) (fun obj => F.args_object_init_2 obj _) F.entry_enumerate_new
    (meets_enumerate_new1 B) ⟨h1, ?_⟩
  have hz : (s.heap.push o).objs.size = s.heap.objs.size + 1 := Heap.size_push ..
  show _ ∧ _
  rw [hz]
  have he : IsEnum ((s.heap.push o).push { cls := .type "enumerate", data := .fields #[.none, .bool false, .ref s.heap.objs.size, rawInt 0, .none, .none] }) (s.heap.objs.size + 1) s.heap.objs.size 0 .none := by
    have := Heap.get?_push_size (s.heap.push o) (o := { cls := .type "enumerate", data := .fields #[.none, .bool false, .ref s.heap.objs.size, rawInt 0, .none, .none] }) rfl
    rw [hz] at this; exact this
  refine ⟨⟨_, he, rfl⟩, h _ he (Heap.get?_push_of_some _ (Heap.get?_push_size _ B.free)) (by rw [Heap.size_push, hz]) fun b o x => Heap.get?_push_of_some _ (Heap.get?_push_of_some _ x)⟩
def iEnumK (K : PySem.W.Frag) (ta : TA) : TI := fun σ H R => ta σ H fun vs H1 => ∃ k a xs, vs = [.ref a] ∧ SqK k K H1 a xs ∧ R (IteK k K a) H1
theorem pi_enumK {X : Cx} {e : Expr} {ta : TA} {p pos tpos : Pos} {elts : List Expr} {kk : Nat} (hg : Gl X "enumerate") (hm : X.mg "enumerate" = none) (ha : PA X [e] ta) (hs : starEach [e] X.env = [(false, eval e X.env)] := by rfl) :
    PI X (.Tuple elts kk tpos) (.Call (.Name "enumerate" p) [e] [] pos) (iEnumK X.K ta) := by
  refine ⟨fun pins s σ H R I h => ?_⟩
  refine Call_ (ld_blt I hg hm boot_enumerate (PyProof.Rows.callWith_type1 (thn (ha.run pos pins s σ H _ I h) fun us s1 ⟨vs, H1, I1, r1, q1⟩ => ?_) hs rfl))
  obtain ⟨k, a, xs, ex, hq, q⟩ := q1
  subst ex
  cases r1 with
  | cons r rr =>
    cases rr
    cases r
    obtain ⟨its, rv, p', hz⟩ := seqK_of I1 hq
    have hal : a < s1.heap.objs.size := by
      cases k with
      | true => obtain ⟨o, ho, _⟩ := p'; exact Heap.lt_size ho
      | false => obtain ⟨o, ho, _⟩ := p'; exact Heap.lt_size ho
    refine call_enum1 (beginsK k a its.toArray) p' fun h' he hit hsz hk => wpAny_pyIter_enum he ?_
    have I2 : Inv X pins σ H1 { s1 with heap := h' } := I1.kept (t' := s1.toks) hk
    refine ⟨s1.heap.objs.size + 1, [s1.heap.objs.size + 1, s1.heap.objs.size], _, _, H1, rfl, I2, turn_enumK (k := k) a (s1.heap.objs.size + 1) s1.heap.objs.size,
      ⟨⟨.none, he⟩, iter0 hit, Nat.succ_ne_self _, Nat.ne_of_lt hal, Nat.ne_of_lt (Nat.lt_succ_of_lt hal)⟩, fun b hb => ?_, q⟩
    have e' : b = s1.heap.objs.size + 1 ∨ b = s1.heap.objs.size := by simpa using hb
    have hle : s1.heap.objs.size ≤ b := by
      rcases e' with z | z
      · rw [z]; exact Nat.le_add_right _ _
      · rw [z]; exact Nat.le_refl _
    exact I1.fpOk hle (I1.hok.fresh hle)
end DN
/-! Den5: zip of two sources of any kind. -/
namespace DN
open PySem PySem.Spec PyProof.Rows L2

def ItzK (k l : Bool) (K : PySem.W.Frag) (a b : Addr) : It :=
  ⟨fun i H => ∃ (xs ys : List V) (x y : V), SqK k K H a xs ∧ SqK l K H b ys ∧ xs[i]? = some x ∧ ys[i]? = some y,
    fun i H v H' => ∃ T x y, v = .ref T ∧ H T = none ∧ H' = upd H T (.tup [x, y]) ∧ (∀ xs, SqK k K H a xs → xs[i]? = some x) ∧ ∀ ys, SqK l K H b ys → ys[i]? = some y,
    fun i H => ∃ xs ys : List V, SqK k K H a xs ∧ SqK l K H b ys ∧ min xs.length ys.length = i⟩
theorem mem4 {c N : Nat} (h : c ∈ [N + 4, N + 3, N, N + 1]) : c ∈ [N + 4, N + 2, N + 3, N, N + 1] := by
  have e : c = N + 4 ∨ c = N + 3 ∨ c = N ∨ c = N + 1 := by simpa using h
  rcases e with z | z | z | z <;> simp [z]
theorem le5 {c N : Nat} (h : c ∈ [N + 4, N + 2, N + 3, N, N + 1]) : c ≤ N + 4 := by
  have e : c = N + 4 ∨ c = N + 2 ∨ c = N + 3 ∨ c = N ∨ c = N + 1 := by simpa using h
  omega
theorem ge5 {c N : Nat} (h : c ∈ [N + 4, N + 2, N + 3, N, N + 1]) : N ≤ c := by
  have e : c = N + 4 ∨ c = N + 2 ∨ c = N + 3 ∨ c = N ∨ c = N + 1 := by simpa using h
  omega
theorem turn_zipK {k l : Bool} {P : Program} {w : World} {K : PySem.W.Frag} {elts : List Expr} {kk : Nat} {tpos : Pos} {N a b : Addr} (ha : a < N) (hb : b < N) :
    Turn P w K (.Tuple elts kk tpos) (ItzK k l K a b) [N + 4, N + 2, N + 3, N, N + 1] (N + 4)
      (fun i h => IsZip h (N + 4) (N + 2) (N + 3) .none ∧ IsTupOf2 h (N + 2) (.ref N) (.ref (N + 1)) ∧ (∃ x y, IsTupOf2 h (N + 3) x y) ∧ IterK k h N a i ∧ IterK l h (N + 1) b i) where
  mem := by simp
  obj := fun i h st c hc => by
    obtain ⟨hz, hTI, ⟨x, y, hTO⟩, h1, h2⟩ := st
    have e' : c = N + 4 ∨ c = N + 2 ∨ c = N + 3 ∨ c = N ∨ c = N + 1 := by simpa using hc
    rcases e' with z | z | z | z | z
    · rw [z]; exact ⟨_, hz, fun v q => nomatch q⟩
    · rw [z]; exact ⟨_, hTI, fun v q => nomatch q⟩
    · rw [z]; exact ⟨_, hTO, fun v q => nomatch q⟩
    · rw [z]; exact h1.obj
    · rw [z]; exact h2.obj
  keep := fun i h h' st kp => by
    obtain ⟨hz, hTI, ⟨x, y, hTO⟩, h1, h2⟩ := st
    exact ⟨kp _ (by simp) _ hz, kp _ (by simp) _ hTI, ⟨x, y, kp _ (by simp) _ hTO⟩, h1.at fun o q => kp _ (by simp) o q, h2.at fun o q => kp _ (by simp) o q⟩
  item := by
    intro X hP hw hK hc i pins s σ H E I hf st hg
    subst hP hw hK
    obtain ⟨hz, hTI, hTO, h1, h2⟩ := st
    obtain ⟨xs, ys, x, y, hq, hq2, hx, hy⟩ := hg
    obtain ⟨its, rv, p, _⟩ := seqK_of I hq
    obtain ⟨its2, rv2, p2, _⟩ := seqK_of I hq2
    obtain ⟨u, hu, ru⟩ := rv.get hx
    obtain ⟨u2, hu2, ru2⟩ := rv2.get hy
    have D1 := drawsK (k := k) (prog := X.prog) (w := X.w) (A := X.A.in1) (I.ok.hd hc) N a (Nat.ne_of_lt ha) its.toArray
    have D2 := drawsK (k := l) (prog := X.prog) (w := X.w) (A := X.A.in1) (I.ok.hd hc) (N + 1) b (Nat.ne_of_lt (Nat.lt_succ_of_lt hb)) its2.toArray
    have hzl : N + 4 < s.heap.objs.size := Heap.lt_size hz
    have hi1 : i < its.toArray.size := by
      have := (List.getElem?_eq_some_iff.mp hu).1
      simpa using this
    have hi2 : i < its2.toArray.size := by
      have := (List.getElem?_eq_some_iff.mp hu2).1
      simpa using this
    refine (GoesN.zip2 (elts := elts) (x1 := kk) (pos := tpos) (zip_sep2 (N := N) (fp1 := [a]) (fp2 := [b]) (by simpa using ha) (by simpa using hb)) D1 D2).goes i s
      (fun u s2 => ∃ x H', Inv X pins σ H' s2 ∧ RelV x u ∧ (ItzK k l X.K a b).yld i H x H' ∧ (IsZip s2.heap (N + 4) (N + 2) (N + 3) .none ∧ IsTupOf2 s2.heap (N + 2) (.ref N) (.ref (N + 1)) ∧ (∃ x y, IsTupOf2 s2.heap (N + 3) x y) ∧ IterK k s2.heap N a (i + 1) ∧ IterK l s2.heap (N + 1) b (i + 1)) ∧
        ∀ c ∈ [N + 4, N + 2, N + 3, N, N + 1], H' c = none)
      E (by omega) ⟨hz, hTI, hTO, ⟨h1, p⟩, ⟨h2, p2⟩⟩ fun v h' tk hY st' hk htk => ?_
    obtain ⟨T, y1, y2, rfl, hT, hy1, hy2, hTup⟩ := hY
    have e1 : y1 = u := by
      have : its.toArray[i]? = some u := by simpa using hu
      rw [this] at hy1; exact (Option.some.inj hy1).symm
    have e2 : y2 = u2 := by
      have : its2.toArray[i]? = some u2 := by simpa using hu2
      rw [this] at hy2; exact (Option.some.inj hy2).symm
    subst e1 e2
    have new : ObjOk X.prog X.w (upd H T (.tup [x, y])) h' T (.tup [x, y]) :=
      ⟨by show 2 ≤ sizeLine; decide, [y1, y2], .cons ru (.cons ru2 .nil), hTup⟩
    have I1 : Inv X pins σ (upd H T (.tup [x, y])) { s with heap := h', toks := tk } :=
      I.turnedNew (ch := [N + 4, N + 2, N + 3, N, N + 1]) (fun c ob hc q => hk c ob (fun z => hc (mem4 z)) q) hf hT new
    obtain ⟨a1, a2, a3, ⟨a4, _⟩, ⟨a5, _⟩⟩ := st'
    refine ⟨.ref T, _, I1, rfl, ⟨T, x, y, rfl, I.hok.fresh hT, rfl, fun zs hz => by rw [seqK_inj I hz hq]; exact hx, fun zs hz => by rw [seqK_inj I hz hq2]; exact hy⟩, ⟨a1, a2, a3, a4, a5⟩, fun c hc => ?_⟩
    have hc' : c < s.heap.objs.size := Nat.lt_of_le_of_lt (le5 hc) hzl
    rw [upd_ne (Nat.ne_of_lt (Nat.lt_of_lt_of_le hc' hT))]
    exact (hf c hc).1
  done := by
    intro X hP hw hK hc i pins s σ H E I hf st hg
    subst hP hw hK
    obtain ⟨hz, hTI, hTO, h1, h2⟩ := st
    obtain ⟨xs, ys, hq, hq2, hx⟩ := hg
    obtain ⟨its, rv, p, _⟩ := seqK_of I hq
    obtain ⟨its2, rv2, p2, _⟩ := seqK_of I hq2
    have D1 := drawsK (k := k) (prog := X.prog) (w := X.w) (A := X.A.in1) (I.ok.hd hc) N a (Nat.ne_of_lt ha) its.toArray
    have D2 := drawsK (k := l) (prog := X.prog) (w := X.w) (A := X.A.in1) (I.ok.hd hc) (N + 1) b (Nat.ne_of_lt (Nat.lt_succ_of_lt hb)) its2.toArray
    have hn : min its.toArray.size its2.toArray.size = i := by rw [← hx, rv.length, rv2.length]; simp
    refine (GoesN.zip2 (elts := elts) (x1 := kk) (pos := tpos) (zip_sep2 (N := N) (fp1 := [a]) (fp2 := [b]) (by simpa using ha) (by simpa using hb)) D1 D2).stops s _ E (by
      rw [hn]; exact ⟨hz, hTI, hTO, ⟨h1, p⟩, ⟨h2, p2⟩⟩) fun h' tk hk htk => ?_
    exact I.turnedL (ch := [N + 4, N + 2, N + 3, N, N + 1]) (fun c o hc q => hk c o (fun z => hc (mem4 z)) q) hf
  self := fun A i s Q E st h => wpAny_pyIter_zip st.1 h
def iZipK (K : PySem.W.Frag) (ta : TA) : TI := fun σ H R => ta σ H fun vs H1 => ∃ k l a b xs ys, vs = [.ref a, .ref b] ∧ SqK k K H1 a xs ∧ SqK l K H1 b ys ∧ R (ItzK k l K a b) H1
theorem seqK_lt {k : Bool} {h : Heap} {a : Addr} {its : Array Value} (p' : SeqK k h a its) : a < h.objs.size := by
  cases k with
  | true => obtain ⟨o, ho, _⟩ := p'; exact Heap.lt_size ho
  | false => obtain ⟨o, ho, _⟩ := p'; exact Heap.lt_size ho
theorem pi_zipK {X : Cx} {e e2 : Expr} {ta : TA} {p pos tpos : Pos} {elts : List Expr} {kk : Nat} (hg : Gl X "zip") (hm : X.mg "zip" = none) (ha : PA X [e, e2] ta)
    (hs : starEach [e, e2] X.env = (false, eval e X.env) :: starEach [e2] X.env := by rfl) (hpl : (backTo pos (starEach [e2] X.env)).any (·.1) = false := by rfl) :
    PI X (.Tuple elts kk tpos) (.Call (.Name "zip" p) [e, e2] [] pos) (iZipK X.K ta) := by
  refine ⟨fun pins s σ H R I h => ?_⟩
  refine Call_ (ld_blt I hg hm PyProof.Rows.boot_zip (PyProof.Rows.callWith_type1 (thn (ha.run pos pins s σ H _ I h) fun us s1 ⟨vs, H1, I1, r1, q1⟩ => ?_) hs hpl))
  obtain ⟨k, l, a, b, xs, ys, ex, hq, hq2, q⟩ := q1
  subst ex
  cases r1 with
  | cons r rr =>
    cases rr with
    | cons r' rr =>
      cases rr
      cases r
      cases r'
      obtain ⟨its, rv, p1, _⟩ := seqK_of I1 hq
      obtain ⟨its2, rv2, p2, _⟩ := seqK_of I1 hq2
      refine zip_begins2 (beginsK k a its.toArray) (beginsK l b its2.toArray) p1 p2 fun h' hz hTI hTO h1 h2 hsz hk => wpAny_pyIter_zip hz ?_
      have I2 : Inv X pins σ H1 { s1 with heap := h' } := I1.kept (t' := s1.toks) hk
      refine ⟨s1.heap.objs.size + 4, [s1.heap.objs.size + 4, s1.heap.objs.size + 2, s1.heap.objs.size + 3, s1.heap.objs.size, s1.heap.objs.size + 1], _, _, H1, rfl, I2, turn_zipK (k := k) (l := l) (seqK_lt p1) (seqK_lt p2),
        ⟨hz, hTI, ⟨_, _, hTO⟩, iter0 h1, iter0 h2⟩, fun c hc => ?_, q⟩
      have hle : s1.heap.objs.size ≤ c := ge5 hc
      exact I1.fpOk hle (I1.hok.fresh hle)
end DN
/-! Den6: what is walked, targets, comprehensions. -/
namespace DN
open PySem PySem.Spec PyProof.Rows L2

/-- J gives the items ds, one by one, wherever F stands -/
structure WalkD (J : It) (F : Hp) (ds : List PyData) : Prop where
  goes : ∀ i H, i < ds.length → Same F H → J.go i H
  stops : ∀ H, Same F H → J.stop ds.length H
  yields : ∀ i H x H' d F1, ds[i]? = some d → Same F F1 → Same F1 H → J.yld i H x H' → ∃ F', Ext F1 H F' H' ∧ DD F' x d
def PostI (mg : Str → Option Value) (W : WX) (σ : L2.St) (F H : Hp) (R : It → Hp → Prop) : Rs (List PyData) → Prop
  | .ok ds => ∀ J F' H', Ext F H F' H' → WalkD J F' ds → R J H'
  | .err c => ∀ C H', mg c = some (.ref C) → Same H H' → W (.ref C) none σ H'
  | .bad => False
structure EI (X : Cx) (W : WX) (tg iter : Expr) (wi : TI) (fi : Ev → Rs (List PyData)) : Prop where
  pi : PI X tg iter wi
  sound : ∀ {G H0 : Hp} {ρ : Ev} {σ : L2.St} {F H : Hp}, Rel X.K G H0 ρ σ F H → ∀ R : It → Hp → Prop, PostI X.mg W σ F H R (fi ρ) → wi σ H R
theorem pi_or {X : Cx} {tg e : Expr} {w1 w2 : TI} (h : PI X tg e w1) (g : PI X tg e w2) : PI X tg e (fun σ H R => w1 σ H R ∨ w2 σ H R) :=
  ⟨fun pins s σ H R I q => q.elim (h.run pins s σ H R I) (g.run pins s σ H R I)⟩
def seqD : PyData → Rs (List PyData)
  | .list ds => .ok ds
  | .tuple ds => .ok ds
  | _ => .bad
@[simp] theorem seqD_list (ds : List PyData) : seqD (.list ds) = .ok ds := rfl
@[simp] theorem seqD_tuple (ds : List PyData) : seqD (.tuple ds) = .ok ds := rfl
section
variable {K : PySem.W.Frag} {F : Hp} {a b : Addr} {xs ys : List V} {ds es : List PyData} {k l : Bool}
def At (k : Bool) (F : Hp) (a : Addr) (xs : List V) : Prop := match k with
  | true => F a = some (.tup xs)
  | false => F a = some (.lst xs)
theorem At.sq {H : Hp} (h : At k F a xs) (s : Same F H) : SqK k K H a xs := by
  cases k with
  | true => exact SqT.of (s _ _ h)
  | false => exact SqL.of (s _ _ h)
theorem walk_l (h : F a = some (.lst xs)) (r : DDs F xs ds) : WalkD (Itl K a) F ds where
  goes := fun i H hi s => ⟨xs, xs[i]'(by rw [r.len]; exact hi), SqL.of (s _ _ h), List.getElem?_eq_getElem _⟩
  stops := fun H s => ⟨xs, SqL.of (s _ _ h), by rw [r.len]; exact Nat.le_refl _⟩
  yields := fun i H x H' d F1 hd sF sH y => by
    obtain ⟨rfl, hy⟩ := y
    have := hy xs (SqL.of (sH _ _ (sF _ _ h)))
    obtain ⟨d', e1, e2⟩ := r.getV this
    rw [hd] at e1; cases e1
    exact ⟨F1, Ext.refl sH, DD.mono sF _ _ e2⟩
theorem walk_t (h : F a = some (.tup xs)) (r : DDs F xs ds) : WalkD (Itt K a) F ds where
  goes := fun i H hi s => ⟨xs, xs[i]'(by rw [r.len]; exact hi), SqT.of (s _ _ h), List.getElem?_eq_getElem _⟩
  stops := fun H s => ⟨xs, SqT.of (s _ _ h), by rw [r.len]; exact Nat.le_refl _⟩
  yields := fun i H x H' d F1 hd sF sH y => by
    obtain ⟨rfl, hy⟩ := y
    have := hy xs (SqT.of (sH _ _ (sF _ _ h)))
    obtain ⟨d', e1, e2⟩ := r.getV this
    rw [hd] at e1; cases e1
    exact ⟨F1, Ext.refl sH, DD.mono sF _ _ e2⟩
def rngD (lo : Int) (n : Nat) : List PyData := (List.range n).map fun (i : Nat) => PyData.int (lo + (i : Int))
theorem walk_r {lo : Int} {n : Nat} : WalkD (Itr lo n) F (rngD lo n) where
  goes := fun i H hi s => by
    show i < n
    simpa [rngD] using hi
  stops := fun H s => by simp [rngD]; exact Nat.le_refl n
  yields := fun i H x H' d F1 hd sF sH y => by
    obtain ⟨rfl, rfl⟩ := y
    have hi : i < n := by
      have := (List.getElem?_eq_some_iff.mp hd).1
      simpa [rngD] using this
    rw [show (rngD lo n)[i]? = some (.int (lo + (i : Int))) by simp [rngD, hi]] at hd
    cases hd
    exact ⟨F1, Ext.refl sH, .int _⟩
def enumD (ds : List PyData) : List PyData := ds.zipIdx.map fun p => PyData.tuple [.int (p.2 : Nat), p.1]
theorem enumD_get {i : Nat} {d : PyData} (h : (enumD ds)[i]? = some d) : ∃ x, ds[i]? = some x ∧ d = .tuple [.int (i : Nat), x] := by
  unfold enumD at h
  rw [List.getElem?_map, List.getElem?_zipIdx] at h
  cases hx : ds[i]? with
  | none => rw [hx] at h; cases h
  | some x =>
    rw [hx] at h
    simp at h
    exact ⟨x, rfl, h.symm⟩
theorem walk_e (h : At k F a xs) (r : DDs F xs ds) : WalkD (IteK k K a) F (enumD ds) where
  goes := fun i H hi s => ⟨xs, xs[i]'(by rw [r.len]; simpa [enumD] using hi), h.sq s, List.getElem?_eq_getElem _⟩
  stops := fun H s => ⟨xs, h.sq s, by rw [r.len]; simp [enumD]⟩
  yields := fun i H x H' d F1 hd sF sH y => by
    obtain ⟨T, z, rfl, nT, rfl, hy⟩ := y
    obtain ⟨d1, e1, rfl⟩ := enumD_get hd
    have := hy xs (h.sq (sF.trans sH))
    obtain ⟨d', e3, e2⟩ := r.getV this
    rw [e1] at e3; cases e3
    exact ⟨_, Ext.add sH nT, .tup upd_same (.cons (.int _) (.cons (DD.mono (sF.trans (same_new (sH.free nT))) _ _ e2) .nil))⟩
def zipD (ds es : List PyData) : List PyData := (ds.zip es).map fun p => PyData.tuple [p.1, p.2]
theorem zipD_get {i : Nat} {d : PyData} (h : (zipD ds es)[i]? = some d) : ∃ x y, ds[i]? = some x ∧ es[i]? = some y ∧ d = .tuple [x, y] := by
  simp [zipD, List.getElem?_zip_eq_some] at h
  obtain ⟨x, y, ⟨h1, h2⟩, h3⟩ := h
  exact ⟨x, y, h1, h2, h3.symm⟩
theorem walk_z (h : At k F a xs) (r : DDs F xs ds) (g : At l F b ys) (r' : DDs F ys es) : WalkD (ItzK k l K a b) F (zipD ds es) where
  goes := fun i H hi s => by
    have hi' : i < ds.length ∧ i < es.length := by simpa [zipD, Nat.lt_min] using hi
    exact ⟨xs, ys, xs[i]'(by rw [r.len]; exact hi'.1), ys[i]'(by rw [r'.len]; exact hi'.2), h.sq s, g.sq s, List.getElem?_eq_getElem _, List.getElem?_eq_getElem _⟩
  stops := fun H s => ⟨xs, ys, h.sq s, g.sq s, by rw [r.len, r'.len]; simp [zipD]⟩
  yields := fun i H x H' d F1 hd sF sH y => by
    obtain ⟨T, z, z', rfl, nT, rfl, hy, hy'⟩ := y
    obtain ⟨d1, d2, e1, e2, rfl⟩ := zipD_get hd
    obtain ⟨d', e3, e4⟩ := r.getV (hy xs (h.sq (sF.trans sH)))
    obtain ⟨d'', e5, e6⟩ := r'.getV (hy' ys (g.sq (sF.trans sH)))
    rw [e1] at e3; cases e3
    rw [e2] at e5; cases e5
    have sm := sF.trans (same_new (o := .tup [z, z']) (sH.free nT))
    exact ⟨_, Ext.add sH nT, .tup upd_same (.cons (DD.mono sm _ _ e4) (.cons (DD.mono sm _ _ e6) .nil))⟩
def strD (z : Str) : List PyData := z.cps.toList.map fun c => PyData.str ⟨#[c]⟩
theorem walk_s {z : Str} : WalkD (Its z) F (strD z) where
  goes := fun i H hi s => by
    show i < z.cps.size
    simpa [strD] using hi
  stops := fun H s => by
    show z.cps.size ≤ _
    simp [strD]
  yields := fun i H x H' d F1 hd sF sH y => by
    obtain ⟨rfl, c, hc, rfl⟩ := y
    have : (strD z)[i]? = some (.str ⟨#[c]⟩) := by
      unfold strD
      rw [List.getElem?_map, show z.cps.toList[i]? = some c by simpa using hc]
      rfl
    rw [this] at hd; cases hd
    exact ⟨F1, Ext.refl sH, .str _⟩
end

section
variable {X : Cx} {W : WX} {tg e e2 : Expr} {te te2 : TE} {f f2 : Ev → Rs R} {pos p tpos : Pos}
theorem postI_data {mg : Str → Option Value} {σ : L2.St} {F H : Hp} {Q1 : VK} {R' : It → Hp → Prop} {K : PySem.W.Frag} {m : Rs R} {k : PyData → Rs (List PyData)} (P : PostI mg W σ F H R' (m.bind fun r => r.d.bind k))
    (h : ∀ d v F1 H1 r, m = .ok r → r.d = .ok d → Ext F H F1 H1 → DD F1 v d → PostI mg W σ F1 H1 R' (k d) → Q1 v H1) : Post K mg W σ F H Q1 m := by
  cases m with
  | ok r =>
    intro v F' H' x y
    cases hd : r.d with
    | ok d =>
      obtain ⟨F2, e2, _, q2⟩ := y.data x hd
      have P' : PostI mg W σ F H R' (k d) := by
        have : ((Rs.ok r).bind fun r => r.d.bind k) = k d := by simp [hd]
        rw [this] at P; exact P
      refine h d v F2 H' r rfl hd e2 q2 ?_
      cases hk : k d with
      | ok ds => rw [hk] at P'; exact fun J F' H' x y => P' J F' H' (e2.trans x) y
      | err c => rw [hk] at P'; exact fun C H' x y => P' C H' x (e2.hh.trans y)
      | bad => rw [hk] at P'; exact P'
    | err c => exact absurd hd (by cases r <;> simp [R.d])
    | bad =>
      have : ((Rs.ok r).bind fun r => r.d.bind k) = .bad := by simp [hd]
      rw [this] at P; exact P.elim
  | err c => exact P
  | bad => exact P
@[simp] def fSeq (f : Ev → Rs R) : Ev → Rs (List PyData) := fun ρ => (f ρ).bind fun r => r.d.bind seqD
theorem ei_seq (h : EE X W e te f) : EI X W tg e (fun σ H R => iList X.K te σ H R ∨ iTup X.K te σ H R) (fSeq f) where
  pi := pi_or (pi_list h.pe) (pi_tup h.pe)
  sound := fun {G H0 ρ σ F H} rel R' P => by
    by_cases hl : ∃ r ds, f ρ = .ok r ∧ r.d = .ok (.tuple ds)
    · refine .inr (h.sound rel _ (postI_data P fun d v F1 H1 r hm hd e1 r1 P1 => ?_))
      obtain ⟨r0, ds, h1, h2⟩ := hl
      rw [hm] at h1; cases h1
      rw [hd] at h2; cases h2
      cases r1 with
      | @tup p xs ds h r => exact ⟨_, rfl, ⟨_, SqT.of (e1.sub _ _ h)⟩, P1 _ _ _ (Ext.refl e1.sub) (walk_t h r)⟩
    · refine .inl (h.sound rel _ (postI_data P fun d v F1 H1 r hm hd e1 r1 P1 => ?_))
      cases r1 with
      | @lst p xs ds h r => exact ⟨_, rfl, ⟨_, SqL.of (e1.sub _ _ h)⟩, P1 _ _ _ (Ext.refl e1.sub) (walk_l h r)⟩
      | @tup p xs ds h r => exact absurd ⟨_, _, hm, hd⟩ hl
      | _ => exact P1.elim
@[simp] def fStr (f : Ev → Rs R) : Ev → Rs (List PyData) := fun ρ => (f ρ).bind fun r => r.d.bind fun x => match x with
  | .str z => .ok (strD z)
  | _ => .bad
theorem ei_str (h : EE X W e te f) : EI X W tg e (iStr te) (fStr f) where
  pi := pi_str h.pe
  sound := fun {G H0 ρ σ F H} rel R' P => h.sound rel _ (postI_data P fun d v F1 H1 r hm hd e1 r1 P1 => by
    cases r1 with
    | str z => exact ⟨z, rfl, P1 _ _ _ (Ext.refl e1.sub) walk_s⟩
    | _ => exact P1.elim)
theorem postI_out {mg : Str → Option Value} {σ : L2.St} {F H : Hp} {Q1 : List V → Hp → Prop} {R' : It → Hp → Prop} {m : Rs (List PyData)} {k : List PyData → Rs (List PyData)} (P : PostI mg W σ F H R' (m.bind k))
    (h : ∀ ds vs F1 H1, Ext F H F1 H1 → DDs F1 vs ds → PostI mg W σ F1 H1 R' (k ds) → Q1 vs H1) : PostD mg W σ F H Q1 m := by
  cases m with
  | ok r =>
    intro v F' H' x y
    refine h r v F' H' x y ?_
    cases hk : k r with
    | ok ds =>
      have P' : PostI mg W σ F H R' (.ok ds) := by rw [← hk]; exact P
      exact fun J F1 H1 x' y' => P' J F1 H1 (x.trans x') y'
    | err c =>
      have P' : PostI mg W σ F H R' (.err c) := by rw [← hk]; exact P
      exact fun C H1 x' y' => P' C H1 x' (x.hh.trans y')
    | bad =>
      have P' : PostI mg W σ F H R' .bad := by rw [← hk]; exact P
      exact P'
  | err c => exact P
  | bad => exact P
def rg1 : List PyData → Rs (List PyData)
  | [.int j] => if j.natAbs ≤ 1000000 then .ok (rngD 0 j.toNat) else .bad
  | _ => .bad
def rg2 : List PyData → Rs (List PyData)
  | [.int i, .int j] => if i.natAbs ≤ 1000000 ∧ j.natAbs ≤ 1000000 then .ok (rngD i (j - i).toNat) else .bad
  | _ => .bad
@[simp] def fRg1 (f : Ev → Rs R) : Ev → Rs (List PyData) := fun ρ => (fCons f fNil ρ).bind rg1
@[simp] def fRg2 (f g : Ev → Rs R) : Ev → Rs (List PyData) := fun ρ => (fCons f (fCons g fNil) ρ).bind rg2
theorem ei_range1 (h : EE X W e te f) (hm : X.mg "range" = none) (hg : Gl X "range" := by rfl) (hs : starEach [e] X.env = [(false, eval e X.env)] := by rfl) : EI X W tg (.Call (.Name "range" p) [e] [] pos) (iRng1 (tCons te tNil)) (fRg1 f) where
  pi := pi_range1 hg hm (pa_cons h.pe pa_nil hs) hs
  sound := fun {G H0 ρ σ F H} rel R' P => (ed_cons h ed_nil hs).sound rel _ (postI_out P fun ds vs F1 H1 e1 r1 P1 => by
    unfold rg1 at P1
    split at P1
    · split at P1
      · rename_i j hj
        cases r1 with
        | cons a b =>
          cases a
          cases b
          exact ⟨j, rfl, by omega, by omega, P1 _ _ _ (Ext.refl e1.sub) walk_r⟩
      · exact P1.elim
    · exact P1.elim)
theorem ei_range2 (h : EE X W e te f) (h2 : EE X W e2 te2 f2) (hm : X.mg "range" = none) (hg : Gl X "range" := by rfl) (hs : starEach [e, e2] X.env = [(false, eval e X.env), (false, eval e2 X.env)] := by rfl) (hs2 : starEach [e2] X.env = [(false, eval e2 X.env)] := by rfl) :
    EI X W tg (.Call (.Name "range" p) [e, e2] [] pos) (iRng2 (tCons te (tCons te2 tNil))) (fRg2 f f2) where
  pi := pi_range2 hg hm (pa_cons h.pe (pa_cons h2.pe pa_nil hs2) (by rw [hs, hs2])) hs hs2
  sound := fun {G H0 ρ σ F H} rel R' P => (ed_cons h (ed_cons h2 ed_nil hs2) (by rw [hs, hs2])).sound rel _ (postI_out P fun ds vs F1 H1 e1 r1 P1 => by
    unfold rg2 at P1
    split at P1
    · split at P1
      · rename_i i j hj
        cases r1 with
        | cons a b =>
          cases a
          cases b with
          | cons a b =>
            cases a
            cases b
            exact ⟨i, j, rfl, ⟨by omega, by omega, by omega, by omega⟩, P1 _ _ _ (Ext.refl e1.sub) walk_r⟩
      · exact P1.elim
    · exact P1.elim)
@[simp] def fEnum (f : Ev → Rs R) : Ev → Rs (List PyData) := fun ρ => (fCons f fNil ρ).bind fun ds => match ds with
  | [x] => (seqD x).bind fun xs => .ok (enumD xs)
  | _ => .bad
theorem ei_enum {elts : List Expr} {kk : Nat} (h : EE X W e te f) (hm : X.mg "enumerate" = none) (hg : Gl X "enumerate" := by rfl) (hs : starEach [e] X.env = [(false, eval e X.env)] := by rfl) :
    EI X W (.Tuple elts kk tpos) (.Call (.Name "enumerate" p) [e] [] pos) (iEnumK X.K (tCons te tNil)) (fEnum f) where
  pi := pi_enumK hg hm (pa_cons h.pe pa_nil hs) hs
  sound := fun {G H0 ρ σ F H} rel R' P => (ed_cons h ed_nil hs).sound rel _ (postI_out P fun ds vs F1 H1 e1 r1 P1 => by
    cases r1 with
    | nil => exact P1.elim
    | cons a b =>
      cases b with
      | cons _ _ => exact P1.elim
      | nil =>
        cases a with
        | @lst p xs ds h r => exact ⟨false, _, _, rfl, SqL.of (e1.sub _ _ h), P1 _ _ _ (Ext.refl e1.sub) (walk_e (k := false) h r)⟩
        | @tup p xs ds h r => exact ⟨true, _, _, rfl, SqT.of (e1.sub _ _ h), P1 _ _ _ (Ext.refl e1.sub) (walk_e (k := true) h r)⟩
        | _ => exact P1.elim)
@[simp] def fZip (f g : Ev → Rs R) : Ev → Rs (List PyData) := fun ρ => (fCons f (fCons g fNil) ρ).bind fun ds => match ds with
  | [x, y] => (seqD x).bind fun xs => (seqD y).bind fun ys => .ok (zipD xs ys)
  | _ => .bad
theorem ei_zip {elts : List Expr} {kk : Nat} (h : EE X W e te f) (h2 : EE X W e2 te2 f2) (hm : X.mg "zip" = none) (hg : Gl X "zip" := by rfl) (hs : starEach [e, e2] X.env = (false, eval e X.env) :: starEach [e2] X.env := by rfl) (hs2 : starEach [e2] X.env = (false, eval e2 X.env) :: starEach [] X.env := by rfl)
    (hpl : (backTo pos (starEach [e2] X.env)).any (·.1) = false := by rfl) :
    EI X W (.Tuple elts kk tpos) (.Call (.Name "zip" p) [e, e2] [] pos) (iZipK X.K (tCons te (tCons te2 tNil))) (fZip f f2) where
  pi := pi_zipK hg hm (pa_cons h.pe (pa_cons h2.pe pa_nil hs2) hs) hs hpl
  sound := fun {G H0 ρ σ F H} rel R' P => (ed_cons h (ed_cons h2 ed_nil hs2) hs).sound rel _ (postI_out P fun ds vs F1 H1 e1 r1 P1 => by
    cases r1 with
    | nil => exact P1.elim
    | cons a b =>
      cases b with
      | nil => exact P1.elim
      | cons a2 b =>
        cases b with
        | cons _ _ => exact P1.elim
        | nil =>
          cases a with
          | @lst p xs ds h r =>
            cases a2 with
            | @lst q ys es g w => exact ⟨false, false, _, _, _, _, rfl, SqL.of (e1.sub _ _ h), SqL.of (e1.sub _ _ g), P1 _ _ _ (Ext.refl e1.sub) (walk_z (k := false) (l := false) h r g w)⟩
            | @tup q ys es g w => exact ⟨false, true, _, _, _, _, rfl, SqL.of (e1.sub _ _ h), SqT.of (e1.sub _ _ g), P1 _ _ _ (Ext.refl e1.sub) (walk_z (k := false) (l := true) h r g w)⟩
            | _ => exact P1.elim
          | @tup p xs ds h r =>
            cases a2 with
            | @lst q ys es g w => exact ⟨true, false, _, _, _, _, rfl, SqT.of (e1.sub _ _ h), SqL.of (e1.sub _ _ g), P1 _ _ _ (Ext.refl e1.sub) (walk_z (k := true) (l := false) h r g w)⟩
            | @tup q ys es g w => exact ⟨true, true, _, _, _, _, rfl, SqT.of (e1.sub _ _ h), SqT.of (e1.sub _ _ g), P1 _ _ _ (Ext.refl e1.sub) (walk_z (k := true) (l := true) h r g w)⟩
            | _ => exact P1.elim
          | _ => cases a2 <;> exact P1.elim)
end

/-! ### targets -/
structure EG (X : Cx) (tg : Expr) (g : TG) (is : List Nat) (ft : PyData → Ev → Rs Ev) : Prop where
  pg : PG X tg g
  sound : ∀ {G H0 : Hp} {ρ : Ev} {σ : L2.St} {F H : Hp} {v : V} {d : PyData} {ρ' : Ev}, Rel X.K G H0 ρ σ F H → DD F v d → ft d ρ = .ok ρ' → ∀ Q : L2.St → Hp → Prop,
    (∀ σ', Rel X.K G H0 ρ' σ' F H → σ'.length = σ.length → (∀ j, j ∉ is → σ'[j]? = σ[j]?) → Q σ' H) → g v σ H Q
structure EGs (X : Cx) (ts : List Expr) (g : TGs) (n : Nat) (is : List Nat) (ft : List PyData → Ev → Rs Ev) : Prop where
  pg : PGs X ts g
  len : ∀ ds ρ ρ', ft ds ρ = .ok ρ' → ds.length = n
  sound : ∀ {G H0 : Hp} {ρ : Ev} {σ : L2.St} {F H : Hp} {vs : List V} {ds : List PyData} {ρ' : Ev}, Rel X.K G H0 ρ σ F H → DDs F vs ds → ft ds ρ = .ok ρ' → ∀ Q : L2.St → Hp → Prop,
    (∀ σ', Rel X.K G H0 ρ' σ' F H → σ'.length = σ.length → (∀ j, j ∉ is → σ'[j]? = σ[j]?) → Q σ' H) → g vs σ H Q
@[simp] def tName (i : Nat) : PyData → Ev → Rs Ev := fun d ρ => .ok (ρ.set i (some (.val d)))
def tsNil : List PyData → Ev → Rs Ev
  | [], ρ => .ok ρ
  | _, _ => .bad
def tsCons (t : PyData → Ev → Rs Ev) (ts : List PyData → Ev → Rs Ev) : List PyData → Ev → Rs Ev
  | d :: ds, ρ => (t d ρ).bind (ts ds)
  | _, _ => .bad
def tTupl (ts : List PyData → Ev → Rs Ev) : PyData → Ev → Rs Ev
  | .tuple ds, ρ => ts ds ρ
  | _, _ => .bad
section
variable {X : Cx} {pos : Pos}
theorem eg_name (i : Nat) {x : Str} (hN : X.N.Nodup) (hi : X.N[i]? = some x := by rfl) (hx : Loc X.env.scope x := by first | exact .inl rfl | exact .inr rfl) (hf : X.fn x = true ∨ X.env.scope.names.lookup x = some .local := by first | exact .inl rfl | exact .inr rfl | assumption) :
    EG X (.Name x pos) (gName i) [i] (tName i) where
  pg := pg_name hN hi hx hf
  sound := fun rel h e Q k => by
    cases e
    exact k _ (rel.setVal h rfl) (by simp) fun j hj => by
      rw [List.getElem?_set_ne]
      exact fun z => hj (by simp [z])
theorem egs_nil : EGs X [] gNil 0 [] tsNil where
  pg := pgs_nil
  len := fun ds ρ ρ' h => by
    cases ds with
    | nil => rfl
    | cons _ _ => cases h
  sound := fun {G H0 ρ σ F H vs ds ρ'} rel r e Q k => by
    cases r with
    | nil => cases e; exact ⟨rfl, k _ rel rfl fun _ _ => rfl⟩
    | cons _ _ => cases e
theorem egs_cons {e : Expr} {es : List Expr} {g : TG} {gs : TGs} {n : Nat} {is js : List Nat} {t : PyData → Ev → Rs Ev} {ts : List PyData → Ev → Rs Ev} (h : EG X e g is t) (hs : EGs X es gs n js ts)
    (hh : (assignEach (e :: es) X.env).map (·.2) = assign e X.env :: (assignEach es X.env).map (·.2) := by rfl) : EGs X (e :: es) (gCons g gs) (n + 1) (is ++ js) (tsCons t ts) where
  pg := pgs_cons h.pg hs.pg hh
  len := fun ds ρ ρ' q => by
    cases ds with
    | nil => cases q
    | cons d ds =>
      replace q : (t d _).bind (ts ds) = .ok ρ' := q
      cases h1 : t d ρ with
      | ok ρ1 =>
        rw [h1] at q
        simp [hs.len ds ρ1 ρ' q]
      | err c => rw [h1] at q; cases q
      | bad => rw [h1] at q; cases q
  sound := fun {G H0 ρ σ F H vs ds ρ'} rel r q Q k => by
    cases r with
    | nil => cases q
    | @cons v vs d ds r1 r2 =>
      replace q : (t d _).bind (ts ds) = .ok ρ' := q
      cases h1 : t d ρ with
      | ok ρ1 =>
        rw [h1] at q
        refine ⟨v, vs, rfl, h.sound rel r1 h1 _ fun σ1 rel1 l1 o1 => hs.sound rel1 r2 q _ fun σ2 rel2 l2 o2 => k σ2 rel2 (l2.trans l1) fun j hj => ?_⟩
        rw [o2 j (fun z => hj (List.mem_append_right _ z)), o1 j (fun z => hj (List.mem_append_left _ z))]
      | err c => rw [h1] at q; cases q
      | bad => rw [h1] at q; cases q
theorem eg_tup {es : List Expr} {k n : Nat} {gs : TGs} {is : List Nat} {ts : List PyData → Ev → Rs Ev} (h : EGs X es gs n is ts) (hc : X.calm = true := by rfl)
    (hn : (assignEach es X.env).length = n := by rfl) (hst : (assignEach es X.env).findIdx? (·.1) = none := by rfl) : EG X (.Tuple es k pos) (gTup X.K n gs) is (tTupl ts) where
  pg := pg_tup hc h.pg hn hst
  sound := fun {G H0 ρ σ F H v d ρ'} rel r q Q kk => by
    cases r with
    | @tup a xs ds hF r =>
      exact ⟨a, xs, rfl, SqT.of (rel.sub _ _ hF), by rw [r.len]; exact h.len _ _ _ q, h.sound rel r q Q kk⟩
    | _ => cases q
end

/-! ### comprehensions -/
@[simp] def wipeE (ρ : Ev) : List Nat → Ev
  | [] => ρ
  | v :: vs => (wipeE ρ vs).set v none
theorem Rel.wipe {K : PySem.W.Frag} {G H0 F H : Hp} {ρ : Ev} {σ : L2.St} (h : Rel K G H0 ρ σ F H) : ∀ vs : List Nat, Rel K G H0 (wipeE ρ vs) (wipe σ vs) F H
  | [] => h
  | v :: vs => (Rel.wipe h vs).unset
theorem wipe_get {σ : L2.St} {j : Nat} : ∀ {vs : List Nat}, j ∈ vs → j < σ.length → (wipe σ vs)[j]? = some none
  | [], h, _ => by cases h
  | v :: vs, h, hl => by
    unfold wipe
    by_cases e : v = j
    · subst e
      rw [List.getElem?_set_self (by rw [wipe_length]; exact hl)]
    · rw [List.getElem?_set_ne e]
      exact wipe_get (by simpa [Ne.symm e] using h) hl
theorem wipe_eq {σ σ' : L2.St} {vs is : List Nat} (hs : ∀ i ∈ is, i ∈ vs) (hl : σ'.length = σ.length) (ho : ∀ j, j ∉ is → σ'[j]? = (wipe σ vs)[j]?) : wipe σ' vs = wipe σ vs := by
  apply List.ext_getElem?
  intro j
  by_cases hj : j ∈ vs
  · by_cases hb : j < σ.length
    · rw [wipe_get hj hb, wipe_get hj (by rw [hl]; exact hb)]
    · rw [List.getElem?_eq_none (by rw [wipe_length, hl]; omega), List.getElem?_eq_none (by rw [wipe_length]; omega)]
  · rw [wipe_out hj, wipe_out hj, ho j (fun z => hj (hs j z)), wipe_out hj]
structure ETs (X : Cx) (W : WX) (ifs : List Expr) (t : TT) (f : Ev → Rs Bool) : Prop where
  pts : PTs X ifs t
  sound : ∀ {G H0 : Hp} {ρ : Ev} {σ : L2.St} {F H : Hp}, Rel X.K G H0 ρ σ F H → ∀ Q : Bool → Hp → Prop, PostB X.mg W σ F H Q (f ρ) → t σ H Q
@[simp] def fYes : Ev → Rs Bool := fun _ => .ok true
theorem ets_nil {X : Cx} {W : WX} : ETs X W [] tYes fYes := ⟨pts_nil, fun rel Q P => P _ _ (Ext.refl rel.sub)⟩
theorem ets_one {X : Cx} {W : WX} {c : Expr} {t : TT} {f : Ev → Rs Bool} (h : ET X W c t f) : ETs X W [c] t f := ⟨pts_one h.pt, h.sound⟩
/-- the items that a comprehension gives -/
def lcGo (ft : PyData → Ev → Rs Ev) (fc : Ev → Rs Bool) (fe : Ev → Rs R) (ρ : Ev) : List PyData → Rs (List PyData)
  | [] => .ok []
  | d :: ds => (ft d ρ).bind fun ρ1 => (fc ρ1).bind fun b => if b = true then (fe ρ1).bind fun r => r.d.bind fun x => (lcGo ft fc fe ρ ds).bind fun xs => .ok (x :: xs) else lcGo ft fc fe ρ ds
def noErr {α : Type} : Rs α → Rs α
  | .ok a => .ok a
  | _ => .bad
def fLc (vs : List Nat) (fi : Ev → Rs (List PyData)) (ft : PyData → Ev → Rs Ev) (fc : Ev → Rs Bool) (fe : Ev → Rs R) : Ev → Rs R := fun ρ => (fi ρ).bind fun ds =>
  if ds.length ≤ lim then (noErr (lcGo ft fc fe (wipeE ρ vs) ds)).bind fun xs => .ok (.own xs) else .bad
abbrev W0 : WX := fun _ _ _ _ => False
theorem postI_post {mg : Str → Option Value} {W : WX} {σ : L2.St} {F H : Hp} {Q : VK} {R' : It → Hp → Prop} {K : PySem.W.Frag} {m : Rs (List PyData)} {k : List PyData → Rs R} (P : Post K mg W σ F H Q (m.bind k))
    (h : ∀ ds J F1 H1, Ext F H F1 H1 → WalkD J F1 ds → Post K mg W σ F1 H1 Q (k ds) → R' J H1) : PostI mg W σ F H R' m := by
  cases m with
  | ok r => exact fun J F' H' x y => h r J F' H' x y (post_step P x)
  | err c => exact P
  | bad => exact P
theorem ee_lc {X : Cx} {W : WX} {elt tg iter : Expr} {ifs : List Expr} {scope : Scope} {own : List (Str × Nat)} {pos : Pos} {wi : TI} {g : TG} {tt : TT} {te : TE} {is : List Nat} {fi : Ev → Rs (List PyData)} {ft : PyData → Ev → Rs Ev} {fc : Ev → Rs Bool} {fe : Ev → Rs R}
    (hN : X.N.Nodup) (hi : EI X W tg iter wi fi) (ok : BlkOk X.N X.env.scope scope own)
    (hg : ∀ (s : Shared) (H : Hp) (C : Addr) (cl : List (Str × Addr)) (fp : List Addr), EG (X.blk s H scope (compEnvC scope cl C X.env) fp) tg g is ft)
    (ht : ∀ (s : Shared) (H : Hp) (C : Addr) (cl : List (Str × Addr)) (fp : List Addr), ETs (X.blk s H scope (compEnvC scope cl C X.env) fp) W0 ifs tt fc)
    (he : ∀ (s : Shared) (H : Hp) (C : Addr) (cl : List (Str × Addr)) (fp : List Addr), EE (X.blk s H scope (compEnvC scope cl C X.env) fp) W0 elt te fe)
    (hsub : ∀ i ∈ is, i ∈ own.map (·.2) := by decide) (hc : X.calm = true := by rfl) (hs : ∀ x, foldedSetIterable iter X.env x = pure x := by intro _; rfl) :
    EE X W (.ListComp elt [⟨tg, iter, ifs, 0⟩] scope pos) (tLc wi g tt te (own.map (·.2))) (fLc (own.map (·.2)) fi ft fc fe) where
  pe := pe_lc hc hN hi.pi ok (fun s H C cl fp => (hg s H C cl fp).pg) (fun s H C cl fp => (ht s H C cl fp).pts) (fun s H C cl fp => (he s H C cl fp).pe) hs
  sound := fun {G H0 ρ σ F H} rel Q P => hi.sound rel _ (postI_post P fun ds J F1 H1 e1 wk P1 => by
    split at P1
    · rename_i hlim
      cases hgo : lcGo ft fc fe (wipeE ρ (own.map (·.2))) ds with
      | ok xs =>
        rw [hgo] at P1
        replace P1 : Post X.K X.mg W σ F1 H1 Q (.ok (.own xs)) := P1
        intro D nD
        have rel1 := (rel.step e1).wipe (own.map (·.2))
        refine ⟨fun i m H' => i ≤ ds.length ∧ m = ds.length - i ∧ ∃ F' vs acc rest, Ext F1 H1 F' H' ∧ H' D = some (.lst vs) ∧ F' D = none ∧ DDs F' vs acc ∧ acc.length ≤ i ∧ lcGo ft fc fe (wipeE ρ (own.map (·.2))) (ds.drop i) = .ok rest ∧ acc ++ rest = xs,
          ⟨ds.length, Nat.zero_le _, rfl, F1, [], [], xs, Ext.addH e1.sub nD, upd_same, e1.sub.free nD, .nil, Nat.zero_le _, hgo, rfl⟩, fun i m H' hW => ?_⟩
        obtain ⟨hi', rfl, F', vs, acc, rest, ex, hD, hF, hv, hal, hr, hx⟩ := hW
        by_cases hlt : i < ds.length
        · refine .inr ⟨wk.goes i H' hlt (ex.ff.trans ex.sub), fun H'' => i + 1 ≤ ds.length ∧ ∃ F' vs acc rest, Ext F1 H1 F' H'' ∧ H'' D = some (.lst vs) ∧ F' D = none ∧ DDs F' vs acc ∧ acc.length ≤ i + 1 ∧ lcGo ft fc fe (wipeE ρ (own.map (·.2))) (ds.drop (i + 1)) = .ok rest ∧ acc ++ rest = xs, fun H'' q => ⟨ds.length - (i + 1), by omega, q.1, rfl, q.2⟩, fun x H2 hy => ?_⟩
          have hd : ds[i]? = some ds[i] := List.getElem?_eq_getElem hlt
          obtain ⟨F2, e2, r2⟩ := wk.yields i H' x H2 ds[i] F' hd ex.ff ex.sub hy
          rw [List.drop_eq_getElem_cons hlt] at hr
          unfold lcGo at hr
          cases h1 : ft ds[i] (wipeE ρ (own.map (·.2))) with
          | ok ρ1 =>
            rw [h1] at hr
            simp only [bind_ok] at hr
            refine (hg X.s_0 X.H_0 0 [] []).sound ((rel1.step ex).step e2) r2 h1 _ fun σ2 rel2 l2 o2 => ⟨wipe_eq hsub (by rw [l2, wipe_length]) o2, ?_⟩
            cases h2 : fc ρ1 with
            | ok b =>
              rw [h2] at hr
              simp only [bind_ok] at hr
              refine (ht X.s_0 X.H_0 0 [] []).sound rel2 _ (by
                rw [h2]
                intro F3 H3 e3
                have hD3 : H3 D = some (.lst vs) := e3.hh _ _ (e2.hh _ _ hD)
                have hF3 : F3 D = none := e3.own (e2.hh _ _ hD) (e2.own hD hF)
                have hv3 : DDs F3 vs acc := DDs.mono (e2.ff.trans e3.ff) _ _ hv
                have ex3 : Ext F1 H1 F3 H3 := (ex.trans e2).trans e3
                cases b with
                | true =>
                  rw [if_pos rfl] at hr ⊢
                  cases h3 : fe ρ1 with
                  | ok r =>
                    rw [h3] at hr
                    simp only [bind_ok] at hr
                    refine (he X.s_0 X.H_0 0 [] []).sound (rel2.step e3) _ (by
                      rw [h3]
                      intro y F4 H4 e4 r4
                      cases h4 : r.d with
                      | ok dx =>
                        rw [h4] at hr
                        simp only [bind_ok] at hr
                        obtain ⟨F5, e5, s5, r5⟩ := r4.data e4 h4
                        cases h6 : lcGo ft fc fe (wipeE ρ (own.map (·.2))) (ds.drop (i + 1)) with
                        | ok rest' =>
                          rw [h6] at hr
                          cases hr
                          have hD5 : H4 D = some (.lst vs) := e5.hh _ _ hD3
                          have hF5 : F5 D = none := e5.own hD3 hF3
                          have ex5 : Ext F1 H1 F5 H4 := ex3.trans e5
                          have hlen : vs.length < sizeLine := by
                            have := hv.len
                            have := lim_lt
                            omega
                          refine ⟨vs, hD5, hlen, hlt, F5, vs ++ [y], acc ++ [dx], rest', ⟨ex5.old, ex5.ff, fun b o q => ?_, fun b o q => ?_, ex5.new⟩, upd_same, hF5, (DDs.mono e5.ff _ _ hv3).app (.cons r5 .nil), by simp; omega, rfl, by rw [← hx]; simp⟩
                          · have : b ≠ D := ne_of_none q nD
                            rw [upd_ne this]
                            exact ex5.hh _ _ q
                          · have : b ≠ D := ne_of_none q hF5
                            rw [upd_ne this]
                            exact ex5.sub _ _ q
                        | err c => rw [h6] at hr; cases hr
                        | bad => rw [h6] at hr; cases hr
                      | err c => rw [h4] at hr; cases hr
                      | bad => rw [h4] at hr; cases hr)
                  | err c => rw [h3] at hr; cases hr
                  | bad => rw [h3] at hr; cases hr
                | false =>
                  rw [if_neg (by decide)] at hr ⊢
                  exact ⟨hlt, F3, vs, acc, rest, ex3, hD3, hF3, hv3, by omega, hr, hx⟩)
            | err c => rw [h2] at hr; cases hr
            | bad => rw [h2] at hr; cases hr
          | err c => rw [h1] at hr; cases hr
          | bad => rw [h1] at hr; cases hr
        · have hin : i = ds.length := by omega
          subst hin
          refine .inl ⟨wk.stops H' (ex.ff.trans ex.sub), ?_⟩
          simp [lcGo] at hr
          subst hr
          rw [List.append_nil] at hx
          subst hx
          exact P1 _ F' H' ex ⟨⟨D, vs, rfl, hD, hF, hv⟩, fun _ q e => by cases e; exact nD⟩
      | err c => rw [hgo] at P1; exact P1.elim
      | bad => rw [hgo] at P1; exact P1.elim
    · exact P1.elim)
end DN
/-! Den7: statements, loops, a def by its body. -/
namespace DN
open PySem PySem.Spec PyProof.Rows L2

inductive RO where
  | nx (ρ : Ev)
  | ret (r : R)
  | exc (c : Str) (ρ : Ev)
  | bad
  /-- a return that keeps the slots -/
  | retk (r : R) (ρ : Ev)
/-- an expression within a statement -/
def onR {α : Type} (ρ : Ev) (m : Rs α) (k : α → RO) : RO := match m with
  | .ok a => k a
  | .err c => .exc c ρ
  | .bad => .bad
@[simp] theorem onR_ok {α : Type} (ρ : Ev) (a : α) (k : α → RO) : onR ρ (.ok a) k = k a := rfl
@[simp] theorem onR_err {α : Type} (ρ : Ev) (c : Str) (k : α → RO) : onR ρ (.err c) k = .exc c ρ := rfl
@[simp] theorem onR_bad {α : Type} (ρ : Ev) (k : α → RO) : onR ρ .bad k = .bad := rfl
def RO.seq : RO → (Ev → RO) → RO
  | .nx ρ, k => k ρ
  | .ret r, _ => .ret r
  | .exc c ρ, _ => .exc c ρ
  | .bad, _ => .bad
  | .retk r ρ, _ => .retk r ρ
@[simp] theorem seq_retk (r : R) (ρ : Ev) (k : Ev → RO) : (RO.retk r ρ).seq k = .retk r ρ := rfl
@[simp] theorem seq_nx (ρ : Ev) (k : Ev → RO) : (RO.nx ρ).seq k = k ρ := rfl
@[simp] theorem seq_ret (r : R) (k : Ev → RO) : (RO.ret r).seq k = .ret r := rfl
@[simp] theorem seq_exc (c : Str) (ρ : Ev) (k : Ev → RO) : (RO.exc c ρ).seq k = .exc c ρ := rfl
@[simp] theorem seq_bad (k : Ev → RO) : RO.bad.seq k = .bad := rfl
section
variable (K : PySem.W.Frag) (mg : Str → Option Value) (W : WX) (G H0 : Hp)
def PostS (D : Ends) : RO → Prop
  | .nx ρ' => ∀ σ' F' H', Rel K G H0 ρ' σ' F' H' → D.nx σ' H'
  | .ret r => ∀ v F' H', Base G H0 F' H' → RepN K F' H' H0 v r → D.rt v H'
  | .exc c ρ' => ∀ C σ' F' H', mg c = some (.ref C) → Rel K G H0 ρ' σ' F' H' → W (.ref C) none σ' H'
  | .bad => False
  | .retk r ρ' => ∀ v σ' F' H', Rel K G H0 ρ' σ' F' H' → RepN K F' H' H0 v r → (∀ (q : Addr) (j : Nat) (y : R) (w : V), Cell H' v r q → ρ'[j]? = some (some y) → σ'[j]? = some (some w) → ¬ Cell H' w y q) → D.rt v H'
end
structure ES (X : Cx) (W : WX) (st : Stmt) (t : TS) (g : Ev → RO) : Prop where
  ps : PS X st t
  sound : ∀ {G H0 : Hp} {ρ : Ev} {σ : L2.St} {F H : Hp}, Rel X.K G H0 ρ σ F H → ∀ D : Ends, PostS X.K X.mg W G H0 D (g ρ) → t D σ H
structure EB (X : Cx) (W : WX) (sts : List Stmt) (t : TS) (g : Ev → RO) : Prop where
  ps : PSs X sts t
  sound : ∀ {G H0 : Hp} {ρ : Ev} {σ : L2.St} {F H : Hp}, Rel X.K G H0 ρ σ F H → ∀ D : Ends, PostS X.K X.mg W G H0 D (g ρ) → t D σ H
section
variable {K : PySem.W.Frag} {mg : Str → Option Value} {W : WX} {G H0 F H F1 H1 : Hp} {ρ : Ev} {σ : L2.St} {D : Ends}
/-- over more that stays -/
theorem postS_re {m : RO} (b : Base G H0 F1 H1) (P : PostS K mg W G H0 D m) : PostS K mg W F1 H0 D m := by
  cases m with
  | nx ρ' => exact fun σ' F' H' r => P σ' F' H' (r.back b)
  | ret r => exact fun v F' H' e q => P v F' H' (b.re e) q
  | exc c ρ' => exact fun C σ' F' H' m r => P C σ' F' H' m (r.back b)
  | bad => exact P
  | retk r ρ' => exact fun v σ' F' H' e q z => P v σ' F' H' (e.back b) q z
theorem postS_seq {D' : Ends} {m : RO} {k : Ev → RO} (P : PostS K mg W G H0 D (m.seq k)) (hn : ∀ ρ' σ' F' H', Rel K G H0 ρ' σ' F' H' → PostS K mg W G H0 D (k ρ') → D'.nx σ' H') (hr : D'.rt = D.rt) : PostS K mg W G H0 D' m := by
  cases m with
  | nx ρ' => exact fun σ' F' H' r => hn ρ' σ' F' H' r P
  | ret r => exact fun v F' H' e q => by rw [hr]; exact P v F' H' e q
  | exc c ρ' => exact P
  | bad => exact P
  | retk r ρ' => exact fun v σ' F' H' e q z => by rw [hr]; exact P v σ' F' H' e q z
theorem postS_on {Q : VK} {m : Rs R} {k : R → RO} (rel : Rel K G H0 ρ σ F H) (P : PostS K mg W G H0 D (onR ρ m k))
    (h : ∀ r v F' H', Ext F H F' H' → RepN K F' H' H v r → PostS K mg W G H0 D (k r) → Q v H') : Post K mg W σ F H Q m := by
  cases m with
  | ok r => exact fun v F' H' e q => h r v F' H' e q P
  | err c => exact fun C H' m s => P C σ F H' m (rel.step (Ext.more rel.sub s))
  | bad => exact P
theorem postS_data {Q : VK} {m : Rs R} {k : PyData → RO} (rel : Rel K G H0 ρ σ F H) (P : PostS K mg W G H0 D (onR ρ (m.bind R.d) k))
    (h : ∀ d v F' H', Ext F H F' H' → DD F' v d → PostS K mg W G H0 D (k d) → Q v H') : Post K mg W σ F H Q m := by
  cases m with
  | ok r =>
    intro v F' H' e q
    cases hd : r.d with
    | ok d =>
      obtain ⟨F2, e2, _, q2⟩ := q.data e hd
      have P' : PostS K mg W G H0 D (k d) := by
        have : onR ρ ((Rs.ok r).bind R.d) k = k d := by simp [hd]
        rw [this] at P; exact P
      exact h d v F2 H' e2 q2 P'
    | err c => exact absurd hd (by cases r <;> simp [R.d])
    | bad =>
      have : onR ρ ((Rs.ok r).bind R.d) k = .bad := by simp [hd]
      rw [this] at P; exact P.elim
  | err c => exact fun C H' m s => P C σ F H' m (rel.step (Ext.more rel.sub s))
  | bad => exact P
theorem postS_onB {Q : Bool → Hp → Prop} {m : Rs Bool} {k : Bool → RO} (rel : Rel K G H0 ρ σ F H) (P : PostS K mg W G H0 D (onR ρ m k))
    (h : ∀ b F' H', Ext F H F' H' → PostS K mg W G H0 D (k b) → Q b H') : PostB mg W σ F H Q m := by
  cases m with
  | ok r => exact fun F' H' e => h r F' H' e P
  | err c => exact fun C H' m s => P C σ F H' m (rel.step (Ext.more rel.sub s))
  | bad => exact P
theorem postS_onI {R' : It → Hp → Prop} {m : Rs (List PyData)} {k : List PyData → RO} (rel : Rel K G H0 ρ σ F H) (P : PostS K mg W G H0 D (onR ρ m k))
    (h : ∀ ds J F' H', Ext F H F' H' → WalkD J F' ds → PostS K mg W G H0 D (k ds) → R' J H') : PostI mg W σ F H R' m := by
  cases m with
  | ok r => exact fun J F' H' e w => h r J F' H' e w P
  | err c => exact fun C H' m s => P C σ F H' m (rel.step (Ext.more rel.sub s))
  | bad => exact P
end

/-! ### blocks -/
@[simp] def gNext : Ev → RO := fun ρ => .nx ρ
@[simp] def gSeq (g h : Ev → RO) : Ev → RO := fun ρ => (g ρ).seq h
section
variable {X : Cx} {W : WX} {st : Stmt} {rest : List Stmt} {t u : TS} {g h : Ev → RO} {e : Expr} {te : TE} {f : Ev → Rs R} {pos : Pos}
theorem eb_nil : EB X W [] tNext gNext := ⟨pss_nil, fun rel D P => P _ _ _ rel⟩
theorem eb_one (a : ES X W st t g) : EB X W [st] t g := ⟨pss_one a.ps, a.sound⟩
theorem eb_cons (a : ES X W st t g) (b : EB X W rest u h) : EB X W (st :: rest) (tSeq t u) (gSeq g h) where
  ps := pss_cons a.ps b.ps
  sound := fun rel D P => a.sound rel _ (postS_seq P (fun ρ' σ' F' H' r P' => b.sound r D P') rfl)
theorem es_pass : ES X W (.Pass pos) tNext gNext := ⟨ps_pass, fun rel D P => P _ _ _ rel⟩
/-- an expression whose value is dropped -/
@[simp] def gDrop (f : Ev → Rs R) : Ev → RO := fun ρ => onR ρ (f ρ) fun _ => .nx ρ
theorem es_expr (he : EE X W e te f) (hs : swapsWith e none pos.line X.env = pure false := by rfl) : ES X W (.Expr e pos) (tDrop te) (gDrop f) where
  ps := ps_expr he.pe hs
  sound := fun {G H0 ρ σ F H} rel D P => he.sound rel _ (postS_on rel P fun r v F' H' e q P' => P' _ _ _ (rel.step e))
/-- return -/
@[simp] def gRet (f : Ev → Rs R) : Ev → RO := fun ρ => onR ρ (f ρ) .ret
theorem es_ret (he : EE X W e te f) : ES X W (.Return (some e) pos) (tRet te) (gRet f) where
  ps := ps_ret he.pe
  sound := fun {G H0 ρ σ F H} rel D P => he.sound rel _ (postS_on rel P fun r v F' H' e q P' => P' v F' H' (rel.base.step e) ⟨q.1, fun o p z => rel.base.hh.free (q.2 o p z)⟩)
/-- return x, whatever x holds -/
@[simp] def gRetV (i : Nat) : Ev → RO := fun ρ => match ρ[i]? with
  | some (some r) => .ret r
  | _ => .bad
theorem es_retV (i : Nat) {x : Str} {p2 : Pos} (hN : X.N[i]? = some x := by rfl) (hv : Vis X.env.scope x := by first | exact Or.inl rfl | exact Or.inr (Or.inl rfl) | exact Or.inr (Or.inr rfl)) (hd : (x == ("__debug__" : Str)) = false := by decide)
    (hcd : (x == ("__classdict__" : Str)) = false := by decide) : ES X W (.Return (some (.Name x p2)) pos) (tRet (tVar i)) (gRetV i) where
  ps := ps_ret (pe_var hN hv hd hcd)
  sound := fun {G H0 ρ σ F H} rel D P => by
    unfold gRetV at P
    split at P
    · rename_i r h
      obtain ⟨v, a, b⟩ := rel.at_ i _ h
      exact ⟨v, a, P v F H rel.base ⟨b, fun o p z => rel.frs i r v p h a z⟩⟩
    · exact P.elim
theorem es_retN : ES X W (.Return none pos) tRetN (fun _ => .ret (.val .none)) := ⟨ps_retN, fun {G H0 ρ σ F H} rel D P => P _ F H rel.base (.val .non)⟩
/-- if -/
@[simp] def gIf (c : Ev → Rs Bool) (g h : Ev → RO) : Ev → RO := fun ρ => onR ρ (c ρ) fun b => if b = true then g ρ else h ρ
theorem es_if {c : Expr} {a b : List Stmt} {tc : TT} {fc : Ev → Rs Bool} (hc : ET X W c tc fc) (ha : EB X W a t g) (hb : EB X W b u h) : ES X W (.If c a b pos) (tIfS tc t u) (gIf fc g h) where
  ps := ps_if hc.pt ha.ps hb.ps
  sound := fun {G H0 ρ σ F H} rel D P => hc.sound rel _ (postS_onB rel P fun b F' H' e P' => by
    cases b with
    | true =>
      rw [if_pos rfl] at P' ⊢
      exact ha.sound (rel.step e) D P'
    | false =>
      rw [if_neg (by decide)] at P' ⊢
      exact hb.sound (rel.step e) D P')
/-! ### assignments -/
/-- x = e, a new thing of ours stays ours; x = e, it is let go -/
@[simp] def gAsg (i : Nat) (f : Ev → Rs R) : Ev → RO := fun ρ => onR ρ (f ρ) fun r => .nx (ρ.set i (some r))
@[simp] def gAsgF (i : Nat) (f : Ev → Rs R) : Ev → RO := fun ρ => onR ρ ((f ρ).bind R.d) fun d => .nx (ρ.set i (some (.val d)))
theorem es_asgP {i : Nat} (hp : PS X st (tAsg te (gName i))) (he : EE X W e te f) : ES X W st (tAsg te (gName i)) (gAsg i f) where
  ps := hp
  sound := fun {G H0 ρ σ F H} rel D P => he.sound rel _ (postS_on rel P fun r v F' H' e q P' => P' _ _ _ (rel.setOwn e q))
theorem es_asgPF {i : Nat} (hp : PS X st (tAsg te (gName i))) (he : EE X W e te f) : ES X W st (tAsg te (gName i)) (gAsgF i f) where
  ps := hp
  sound := fun {G H0 ρ σ F H} rel D P => he.sound rel _ (postS_data rel P fun d v F' H' e q P' => P' _ _ _ ((rel.step e).setVal q rfl))
theorem es_asg (i : Nat) {x : Str} {pos' : Pos} (hN : X.N.Nodup) (he : EE X W e te f) (hi : X.N[i]? = some x := by rfl) (hx : Loc X.env.scope x := by first | exact .inl rfl | exact .inr rfl) (hs : swapsWith e (some (.Name x pos')) pos.line X.env = pure false := by rfl) (hf : X.fn x = true ∨ X.env.scope.names.lookup x = some .local := by first | exact .inl rfl | exact .inr rfl | assumption) :
    ES X W (.Assign [.Name x pos'] e pos) (tAsg te (gName i)) (gAsg i f) := es_asgP (ps_set hN hi hx he.pe hs hf) he
theorem es_asgF (i : Nat) {x : Str} {pos' : Pos} (hN : X.N.Nodup) (he : EE X W e te f) (hi : X.N[i]? = some x := by rfl) (hx : Loc X.env.scope x := by first | exact .inl rfl | exact .inr rfl) (hs : swapsWith e (some (.Name x pos')) pos.line X.env = pure false := by rfl) (hf : X.fn x = true ∨ X.env.scope.names.lookup x = some .local := by first | exact .inl rfl | exact .inr rfl | assumption) :
    ES X W (.Assign [.Name x pos'] e pos) (tAsg te (gName i)) (gAsgF i f) := es_asgPF (ps_set hN hi hx he.pe hs hf) he
/-- a, b, .. = e -/
@[simp] def gAsgT (ft : PyData → Ev → Rs Ev) (f : Ev → Rs R) : Ev → RO := fun ρ => onR ρ ((f ρ).bind R.d) fun d => match ft d ρ with
  | .ok ρ' => .nx ρ'
  | _ => .bad
theorem es_asgT {tg : Expr} {gt : TG} {is : List Nat} {ft : PyData → Ev → Rs Ev} (he : EE X W e te f) (hg : EG X tg gt is ft) (hs : swapsWithSole [tg] e pos.line X.env = pure false := by rfl) (hw : swappedStores [tg] e X.env = pure none := by rfl)
    (h1 : (assignEach [tg] X.env).map (·.2) = [assign tg X.env] := by rfl) : ES X W (.Assign [tg] e pos) (tAsg te gt) (gAsgT ft f) where
  ps := ps_asg he.pe hg.pg hs hw h1
  sound := fun {G H0 ρ σ F H} rel D P => he.sound rel _ (postS_data rel P fun d v F' H' e q P' => by
    cases h : ft d ρ with
    | ok ρ' =>
      rw [h] at P'
      exact hg.sound (rel.step e) q h _ fun σ' r _ _ => P' _ _ _ r
    | err c => rw [h] at P'; exact P'.elim
    | bad => rw [h] at P'; exact P'.elim)
/-- how a value is taken: as it is, or let go -/
def keepR (k : Bool) (r : R) : Rs R := match k with
  | true => .ok r
  | false => r.d.bind fun d => .ok (.val d)
@[simp] theorem keepR_t (r : R) : keepR true r = .ok r := rfl
@[simp] theorem keepR_f (r : R) : keepR false r = r.d.bind fun d => .ok (.val d) := rfl
theorem RepN.keep {K : PySem.W.Frag} {F H F1 H1 : Hp} {k : Bool} {v : V} {r r' : R} (e : Ext F H F1 H1) (q : RepN K F1 H1 H v r) (hk : keepR k r = .ok r') : ∃ F2, Ext F H F2 H1 ∧ Same F1 F2 ∧ RepN K F2 H1 H v r' := by
  cases k with
  | true => cases hk; exact ⟨F1, e, Same.refl _, q⟩
  | false =>
    unfold keepR at hk
    cases hd : r.d with
    | ok d =>
      rw [hd] at hk; cases hk
      obtain ⟨F2, a, b, c⟩ := q.data e hd
      exact ⟨F2, a, b, .val c⟩
    | err c => rw [hd] at hk; cases hk
    | bad => rw [hd] at hk; cases hk
/-- a, b = e1, e2 -/
@[simp] def gPar (i j : Nat) (k l : Bool) (f1 f2 : Ev → Rs R) : Ev → RO := fun ρ => onR ρ ((f1 ρ).bind (keepR k)) fun a => onR ρ ((f2 ρ).bind (keepR l)) fun b => .nx ((ρ.set i (some a)).set j (some b))
theorem postS_keep {K : PySem.W.Frag} {mg : Str → Option Value} {G H0 F H : Hp} {ρ : Ev} {σ : L2.St} {D : Ends} {k : Bool} {Q : VK} {m : Rs R} {n : R → RO} (rel : Rel K G H0 ρ σ F H) (P : PostS K mg W G H0 D (onR ρ (m.bind (keepR k)) n))
    (h : ∀ r v F' H', Ext F H F' H' → RepN K F' H' H v r → PostS K mg W G H0 D (n r) → Q v H') : Post K mg W σ F H Q m := by
  cases m with
  | ok r =>
    intro v F' H' e q
    cases hd : keepR k r with
    | ok d =>
      obtain ⟨F2, e2, _, q2⟩ := q.keep e hd
      have P' : PostS K mg W G H0 D (n d) := by
        have : onR ρ ((Rs.ok r).bind (keepR k)) n = n d := by simp [hd]
        rw [this] at P; exact P
      exact h d v F2 H' e2 q2 P'
    | err c =>
      exfalso
      cases k with
      | true => cases hd
      | false => cases r <;> simp [keepR, R.d] at hd
    | bad =>
      have : onR ρ ((Rs.ok r).bind (keepR k)) n = .bad := by simp [hd]
      rw [this] at P; exact P.elim
  | err c => exact fun C H' m s => P C σ F H' m (rel.step (Ext.more rel.sub s))
  | bad => exact P
theorem es_par (i j : Nat) (k l : Bool) {x y : Str} {a b : Expr} {ta tb : TE} {fa fb : Ev → Rs R} {px py pt pt2 : Pos} {kt k2 : Nat} (hN : X.N.Nodup) (ha : EE X W a ta fa) (hb : EE X W b tb fb)
    (hw : swappedStores [.Tuple [.Name x px, .Name y py] kt pt] (.Tuple [a, b] k2 pt2) X.env = pure (some [x, y]) := by rfl)
    (hi : X.N[i]? = some x := by rfl) (hj : X.N[j]? = some y := by rfl) (hij : i ≠ j := by decide) (hx : X.env.scope.names.lookup x = some .local := by rfl) (hy : X.env.scope.names.lookup y = some .local := by rfl) (hc : X.calm = true := by rfl)
    (hs : swapsWithSole [.Tuple [.Name x px, .Name y py] kt pt] (.Tuple [a, b] k2 pt2) pos.line X.env = pure false := by rfl)
    (hs1 : starEach [a, b] X.env = (false, eval a X.env) :: starEach [b] X.env := by rfl) (hs2 : starEach [b] X.env = (false, eval b X.env) :: starEach [] X.env := by rfl) :
    ES X W (.Assign [.Tuple [.Name x px, .Name y py] kt pt] (.Tuple [a, b] k2 pt2) pos) (tPar i j (tCons ta (tCons tb tNil))) (gPar i j k l fa fb) where
  ps := ps_par hc hN hi hj hij hx hy (pa_cons ha.pe (pa_cons hb.pe pa_nil hs2) hs1) hw hs
  sound := fun {G H0 ρ σ F H} rel D P => ha.sound rel _ (postS_keep rel P fun r v F1 H1 e1 q1 P1 => hb.sound (rel.step e1) _ (postS_keep (rel.step e1) P1 fun r2 v2 F2 H2 e2 q2 P2 =>
    ⟨v, v2, rfl, P2 _ _ _ (Rel.setOwn (rel.setOwn e1 q1) e2 q2)⟩))
/-- a, b, c = e1, e2, e3 -/
@[simp] def gPar3 (i j m : Nat) (k l n : Bool) (f1 f2 f3 : Ev → Rs R) : Ev → RO := fun ρ => onR ρ ((f1 ρ).bind (keepR k)) fun a => onR ρ ((f2 ρ).bind (keepR l)) fun b => onR ρ ((f3 ρ).bind (keepR n)) fun c => .nx (((ρ.set i (some a)).set j (some b)).set m (some c))
theorem es_par3 (i j m : Nat) (k l n : Bool) {x y z : Str} {a b c : Expr} {ta tb tc : TE} {fa fb fc : Ev → Rs R} {px py pz pt pt2 : Pos} {kt k2 : Nat} (hN : X.N.Nodup) (ha : EE X W a ta fa) (hb : EE X W b tb fb) (hc3 : EE X W c tc fc)
    (hw : swappedStores [.Tuple [.Name x px, .Name y py, .Name z pz] kt pt] (.Tuple [a, b, c] k2 pt2) X.env = pure (some [x, y, z]) := by rfl)
    (hi : X.N[i]? = some x := by rfl) (hj : X.N[j]? = some y := by rfl) (hl : X.N[m]? = some z := by rfl) (hij : i ≠ j := by decide) (him : i ≠ m := by decide) (hjm : j ≠ m := by decide)
    (hx : X.env.scope.names.lookup x = some .local := by rfl) (hy : X.env.scope.names.lookup y = some .local := by rfl) (hz : X.env.scope.names.lookup z = some .local := by rfl) (hc : X.calm = true := by rfl)
    (hs : swapsWithSole [.Tuple [.Name x px, .Name y py, .Name z pz] kt pt] (.Tuple [a, b, c] k2 pt2) pos.line X.env = pure false := by rfl)
    (hs1 : starEach [a, b, c] X.env = (false, eval a X.env) :: starEach [b, c] X.env := by rfl) (hs2 : starEach [b, c] X.env = (false, eval b X.env) :: starEach [c] X.env := by rfl) (hs3 : starEach [c] X.env = (false, eval c X.env) :: starEach [] X.env := by rfl) :
    ES X W (.Assign [.Tuple [.Name x px, .Name y py, .Name z pz] kt pt] (.Tuple [a, b, c] k2 pt2) pos) (tPar3 i j m (tCons ta (tCons tb (tCons tc tNil)))) (gPar3 i j m k l n fa fb fc) where
  ps := ps_par3 hc hN hi hj hl hij him hjm hx hy hz (pa_cons ha.pe (pa_cons hb.pe (pa_cons hc3.pe pa_nil hs3) hs2) hs1) hw hs
  sound := fun {G H0 ρ σ F H} rel D P => ha.sound rel _ (postS_keep rel P fun r v F1 H1 e1 q1 P1 => hb.sound (rel.step e1) _ (postS_keep (rel.step e1) P1 fun r2 v2 F2 H2 e2 q2 P2 =>
    hc3.sound ((rel.step e1).step e2) _ (postS_keep ((rel.step e1).step e2) P2 fun r3 v3 F3 H3 e3 q3 P3 => ⟨v, v2, v3, rfl, P3 _ _ _ (Rel.setOwn (Rel.setOwn (rel.setOwn e1 q1) e2 q2) e3 q3)⟩)))
/-- a thing of ours in a slot is let go -/
@[simp] def frzAt (i : Nat) (ρ : Ev) : Ev := match ρ[i]? with
  | some (some (.own xs)) => ρ.set i (some (.val (.list xs)))
  | _ => ρ
theorem Rel.frz {K : PySem.W.Frag} {G H0 F H : Hp} {ρ : Ev} {σ : L2.St} (i : Nat) (rel : Rel K G H0 ρ σ F H) : ∃ F', Rel K G H0 (frzAt i ρ) σ F' H := by
  unfold frzAt
  split
  · rename_i xs h
    obtain ⟨v, hv, p, vs, rfl, hp, hF, r⟩ := rel.at_ i _ h
    have np : H0 p = none := rel.frs i _ _ p h hv rfl
    have hl := lt_of_get h
    have sm : Same F (upd F p (.lst vs)) := same_new hF
    have key : ∀ {j : Nat} {y : R} {w : V} {c : Addr}, (ρ.set i (some (.val (.list xs))))[j]? = some (some y) → Cell H w y c → i ≠ j ∧ ρ[j]? = some (some y) := fun {j y w c} e o => by
      by_cases z : i = j
      · subst z
        rw [List.getElem?_set_self hl] at e
        cases e; cases o.own
      · rw [List.getElem?_set_ne z] at e
        exact ⟨z, e⟩
    refine ⟨upd F p (.lst vs), ⟨rel.base.keep.trans sm, rel.base.hh, fun b o q => ?_, fun a q => ?_⟩, by simp [rel.len], fun j y e => ?_, fun j y w q e s o => rel.frs j y w q (key e o).2 s o, fun j k y z w1 w2 q e1 e2 s1 s2 o1 o2 => rel.apart j k y z w1 w2 q (key e1 o1).2 (key e2 o2).2 s1 s2 o1 o2⟩
    · by_cases z : b = p
      · subst z; rw [upd_same] at q; rw [hp]; exact q
      · rw [upd_ne z] at q; exact rel.sub _ _ q
    · by_cases z : a = p
      · subst z; exact .inr (.none np)
      · rw [upd_ne z] at q; exact rel.base.new a q
    · by_cases z : i = j
      · subst z
        rw [List.getElem?_set_self hl] at e
        cases e
        exact ⟨_, hv, .lst upd_same (DDs.mono sm _ _ r)⟩
      · rw [List.getElem?_set_ne z] at e
        obtain ⟨w, a, b⟩ := rel.at_ j y e
        exact ⟨w, a, (b.move sm (fun _ _ => rfl) (fun q hq => upd_ne hq) fun c => z (rel.apart i j _ y _ w p h e hv a rfl c)).1⟩
  · exact ⟨F, rel⟩
theorem es_frz (i : Nat) (a : ES X W st t g) : ES X W st t (fun ρ => g (frzAt i ρ)) := ⟨a.ps, fun rel D P => by
  obtain ⟨F', r⟩ := rel.frz i
  exact a.sound r D P⟩
end
end DN
/-! Den8: loops, things of ours that change, raise, a def by its body. -/
namespace DN
open PySem PySem.Spec PyProof.Rows L2

/-! ### for -/
def loop (ft : PyData → Ev → Rs Ev) (gb : Ev → RO) : List PyData → Ev → RO
  | [], ρ => .nx ρ
  | d :: ds, ρ => match ft d ρ with
    | .ok ρ1 => (gb ρ1).seq (loop ft gb ds)
    | _ => .bad
def gFor (fi : Ev → Rs (List PyData)) (ft : PyData → Ev → Rs Ev) (gb : Ev → RO) : Ev → RO := fun ρ => onR ρ (fi ρ) fun ds => loop ft gb ds ρ
section
variable {X : Cx} {W : WX} {pos : Pos}
theorem es_for {tg iter : Expr} {body : List Stmt} {wi : TI} {gt : TG} {tb : TS} {is : List Nat} {fi : Ev → Rs (List PyData)} {ft : PyData → Ev → Rs Ev} {gb : Ev → RO} (po : PassesOwn (model X.prog X.w) X.A X.env X.xe) (hi : EI X W tg iter wi fi) (hg : EG X tg gt is ft) (hb : EB X W body tb gb)
    (hc : X.calm = true := by rfl) (hs : ∀ x, foldedSetIterable iter X.env x = pure x := by intro _; rfl) : ES X W (.For tg iter body [] pos) (tFor wi gt tb) (gFor fi ft gb) where
  ps := ps_for po hc hi.pi hg.pg hb.ps hs
  sound := fun {G H0 ρ σ F H} rel D P => hi.sound rel _ (postS_onI rel P fun ds J F1 H1 e1 wk P1 => by
    have rel1 := rel.step e1
    refine ⟨fun i m σ' H' => i ≤ ds.length ∧ m = ds.length - i ∧ ∃ ρ' F', Rel X.K F1 H0 ρ' σ' F' H' ∧ PostS X.K X.mg W F1 H0 D (loop ft gb (ds.drop i) ρ'),
      ⟨ds.length, Nat.zero_le _, rfl, ρ, F1, rel1.re, postS_re rel1.base P1⟩, fun i m σ' H' hW => ?_⟩
    obtain ⟨hi', rfl, ρ', F', r', P'⟩ := hW
    have sF : Same F1 H' := r'.base.keep.trans r'.sub
    by_cases hlt : i < ds.length
    · refine .inr ⟨wk.goes i H' hlt sF, fun σ2 H2 => i + 1 ≤ ds.length ∧ ∃ ρ' F', Rel X.K F1 H0 ρ' σ2 F' H2 ∧ PostS X.K X.mg W F1 H0 D (loop ft gb (ds.drop (i + 1)) ρ'), fun σ2 H2 q => ⟨ds.length - (i + 1), by omega, q.1, rfl, q.2⟩, fun x H2 hy => ?_⟩
      have hd : ds[i]? = some ds[i] := List.getElem?_eq_getElem hlt
      obtain ⟨F2, e2, r2⟩ := wk.yields i H' x H2 ds[i] F' hd r'.base.keep r'.sub hy
      rw [List.drop_eq_getElem_cons hlt] at P'
      unfold loop at P'
      cases h1 : ft ds[i] ρ' with
      | ok ρ1 =>
        rw [h1] at P'
        replace P' : PostS X.K X.mg W F1 H0 D ((gb ρ1).seq (loop ft gb (ds.drop (i + 1)))) := P'
        exact hg.sound (r'.step e2) r2 h1 _ fun σ2 r3 _ _ => hb.sound r3 _ (postS_seq P' (fun ρ4 σ4 F4 H4 r4 P4 => ⟨hlt, ρ4, F4, r4, P4⟩) rfl)
      | err c => rw [h1] at P'; exact P'.elim
      | bad => rw [h1] at P'; exact P'.elim
    · have hin : i = ds.length := by omega
      subst hin
      refine .inl ⟨wk.stops H' sF, ?_⟩
      rw [List.drop_length] at P'
      exact P' σ' F' H' r')
/-! ### while -/
def whileN (fc : Ev → Rs Bool) (gb : Ev → RO) : Nat → Ev → RO
  | 0, _ => .bad
  | n + 1, ρ => onR ρ (fc ρ) fun b => if b = true then (gb ρ).seq (whileN fc gb n) else .nx ρ
def fuel : Nat := 1000000
def gWhile (fc : Ev → Rs Bool) (gb : Ev → RO) : Ev → RO := fun ρ => whileN fc gb fuel ρ
theorem es_while {c : Expr} {body : List Stmt} {tc : TT} {tb : TS} {fc : Ev → Rs Bool} {gb : Ev → RO} (po : PassesOwn (model X.prog X.w) X.A X.env X.xe) (hc : ET X W c tc fc) (hb : EB X W body tb gb) : ES X W (.While c body [] pos) (tWhile tc tb) (gWhile fc gb) where
  ps := ps_while po hc.pt hb.ps
  sound := fun {G H0 ρ σ F H} rel D P => by
    refine ⟨fun m σ' H' => ∃ ρ' F', Rel X.K G H0 ρ' σ' F' H' ∧ PostS X.K X.mg W G H0 D (whileN fc gb m ρ'), ⟨fuel, ρ, F, rel, P⟩, fun m σ' H' hW => ?_⟩
    obtain ⟨ρ', F', r', P'⟩ := hW
    cases m with
    | zero => exact P'.elim
    | succ m =>
      refine hc.sound r' _ (postS_onB r' P' fun b F2 H2 e2 P2 => ?_)
      cases b with
      | true =>
        rw [if_pos rfl] at P2 ⊢
        exact ⟨fun σ3 H3 => ∃ ρ' F', Rel X.K G H0 ρ' σ3 F' H3 ∧ PostS X.K X.mg W G H0 D (whileN fc gb m ρ'), fun σ3 H3 q => ⟨m, Nat.lt_succ_self m, q⟩, hb.sound (r'.step e2) _ (postS_seq P2 (fun ρ4 σ4 F4 H4 r4 P4 => ⟨ρ4, F4, r4, P4⟩) rfl)⟩
      | false =>
        rw [if_neg (by decide)] at P2 ⊢
        exact P2 _ _ _ (r'.step e2)
/-! ### raise -/
theorem es_raise {c m : Str} {j : Nat} {C : Addr} {p p2 pos' : Pos} {bmB : List Value} {B newId initId : String} (tk : Takes X W) (Fb : ExcBaseFacts B newId initId bmB) (q : PySem.W.excIn X.K C bmB newId = true) (gC : X.mg c = some (.ref C)) (kC : PySem.W.keepIn X.K (.ref C) = true)
    (r : Raises X (.ref C)) (hc : X.calm = true := by rfl) (hg : Gl X c := by rfl) (hdb : (c == ("__debug__" : Str)) = false := by decide) :
    ES X W (.Raise (some (.Call (.Name c p) [.Constant (.str m) j p2] [] pos')) none pos) (fun _ σ H => (fun (_ : L2.St) (H : Hp) (Q : XK) => Q (.ref C) none H) σ H fun cls d H' => W cls d σ H') (fun ρ => .exc c ρ) where
  ps := ps_raise hc tk (pmk_own Fb q gC kC r hg hdb)
  sound := fun {G H0 ρ σ F H} rel D P => P C σ F H gC rel
/-! ### things of ours change -/
theorem Rel.mut {K : PySem.W.Frag} {G H0 F H : Hp} {ρ : Ev} {σ : L2.St} {i : Nat} {r r' : R} {p : Addr} {o : HO} (rel : Rel K G H0 ρ σ F H) (h : ρ[i]? = some (some r)) (ho : r.isOwn = true) (hv : σ[i]? = some (some (.ref p))) (hF : F p = none)
    (q : Rep K F (upd H p o) (.ref p) r') (ho' : r'.isOwn = true) (hc : ∀ x, Cell (upd H p o) (.ref p) r' x → Cell H (.ref p) r x := by exact fun _ z => z) : Rel K G H0 (ρ.set i (some r')) σ F (upd H p o) := by
  have hR : Rep K F H (.ref p) r := by
    obtain ⟨v, a, b⟩ := rel.at_ i _ h
    rw [hv] at a
    cases a
    exact b
  have tp := Cell.top hR ho
  have np : H0 p = none := rel.frs i _ _ p h hv tp
  have hl := lt_of_get h
  have mv : ∀ {j : Nat} {y : R} {w : V}, i ≠ j → ρ[j]? = some (some y) → σ[j]? = some (some w) → Rep K F H w y → Rep K F (upd H p o) w y ∧ ∀ q, Cell (upd H p o) w y q → Cell H w y q := fun {j y w} z e s b =>
    b.move (Same.refl _) (fun q hq => upd_ne hq) (fun _ _ => rfl) fun c => z (rel.apart i j _ y _ w p h e hv s tp c)
  have own : ∀ {j : Nat} {y : R} {w : V} {q : Addr}, (ρ.set i (some r'))[j]? = some (some y) → σ[j]? = some (some w) → Cell (upd H p o) w y q → ∃ y', ρ[j]? = some (some y') ∧ Cell H w y' q := fun {j y w q} e s c => by
    by_cases z : i = j
    · subst z
      rw [List.getElem?_set_self hl] at e
      cases e
      rw [hv] at s
      cases s
      exact ⟨r, h, hc q c⟩
    · rw [List.getElem?_set_ne z] at e
      obtain ⟨w', a, b⟩ := rel.at_ j y e
      rw [s] at a
      cases a
      exact ⟨y, e, (mv z e s b).2 q c⟩
  refine ⟨⟨rel.base.keep, fun b x e => ?_, fun b x e => ?_, rel.base.new⟩, by simp [rel.len], fun j y e => ?_, fun j y w q e s c => ?_, fun j k y z w1 w2 q e1 e2 s1 s2 c1 c2 => ?_⟩
  · rw [upd_ne (ne_of_none e np)]; exact rel.base.hh _ _ e
  · rw [upd_ne (ne_of_none e hF)]; exact rel.sub _ _ e
  · by_cases z : i = j
    · subst z
      rw [List.getElem?_set_self hl] at e
      cases e
      exact ⟨_, hv, q⟩
    · rw [List.getElem?_set_ne z] at e
      obtain ⟨w, a, b⟩ := rel.at_ j y e
      exact ⟨w, a, (mv z e a b).1⟩
  · obtain ⟨y', a, b⟩ := own e s c
    exact rel.frs j y' w q a s b
  · obtain ⟨y', a, b⟩ := own e1 s1 c1
    obtain ⟨z', a', b'⟩ := own e2 s2 c2
    exact rel.apart j k y' z' w1 w2 q a a' s1 s2 b b'
/-- x.append(e) -/
@[simp] def gApp (i : Nat) (f : Ev → Rs R) : Ev → RO := fun ρ => match ρ[i]? with
  | some (some (.own xs)) => onR ρ ((f ρ).bind R.d) fun d => if xs.length < lim then .nx (ρ.set i (some (.own (xs ++ [d])))) else .bad
  | _ => .bad
theorem es_app (i : Nat) {x : Str} {e : Expr} {te : TE} {f : Ev → Rs R} {p2 apos cpos : Pos} (he : EE X W e te f) (hN : X.N[i]? = some x := by rfl) (hv : Vis X.env.scope x := by first | exact Or.inl rfl | exact Or.inr (Or.inl rfl) | exact Or.inr (Or.inr rfl))
    (hd : (x == ("__debug__" : Str)) = false := by decide) (hcd : (x == ("__classdict__" : Str)) = false := by decide)
    (hbase : attributeBase (.Name x p2) "append" X.env (eval (.Name x p2) X.env) = eval (.Name x p2) X.env := by rfl)
    (hfew : ((backTo cpos (starEach [e] X.env)).all (fun x => !x.1) && (backToKw cpos (keywordEach [] X.env)).all (fun x => x.1.isSome)
      && decide (([e] : List Expr).length + ([] : List Keyword).length + (if ([] : List Keyword).isEmpty then 0 else 1) < 30)) = true := by rfl)
    (hline : (apos.endLine == cpos.line) = true := by rfl) (hs : starEach [e] X.env = (false, eval e X.env) :: starEach [] X.env := by rfl) (hplain : (backTo cpos (starEach [] X.env)).any (·.1) = false := by rfl)
    (hsw : swapsWith (.Call (.Attribute (.Name x p2) "append" apos) [e] [] cpos) none pos.line X.env = pure false := by rfl) :
    ES X W (.Expr (.Call (.Attribute (.Name x p2) "append" apos) [e] [] cpos) pos) (tDrop (tBM X.K "list" rAppend (tVar i) (tCons te tNil))) (gApp i f) where
  ps := ps_expr (pe_bm PySem.F.plainAttrs_list PySem.F.slot_list_append PySem.F.type_list_append mt_append (pe_var hN hv hd hcd) (pa_cons he.pe pa_nil hs) hbase hfew hline hs hplain) hsw
  sound := fun {G H0 ρ σ F H} rel D P => by
    unfold gApp at P
    split at P
    · rename_i xs h
      obtain ⟨v, hv, p, vs, rfl, hp, hF, r⟩ := rel.at_ i _ h
      refine ⟨_, hv, .inl ⟨rfl, vs, SqL.of hp⟩, he.sound rel _ (postS_data rel P fun d v F1 H1 e1 q1 P1 => ?_)⟩
      split at P1
      · rename_i hl
        have hp1 := e1.hh _ _ hp
        refine ⟨p, vs, v, rfl, rfl, hp1, by rw [r.len]; exact Nat.lt_trans hl lim_lt, P1 _ _ _ ((rel.step e1).mut h rfl hv (e1.own hp hF) ⟨p, _, rfl, upd_same, e1.own hp hF, (DDs.mono e1.ff _ _ r).app (.cons q1 .nil)⟩ rfl)⟩
      · exact P1.elim
    · exact P.elim
/-- x.extend(e) -/
@[simp] def gExt (i : Nat) (f : Ev → Rs R) : Ev → RO := fun ρ => match ρ[i]? with
  | some (some (.own xs)) => onR ρ ((f ρ).bind R.d) fun d => match d with
    | .list ys => if xs.length + ys.length ≤ lim then .nx (ρ.set i (some (.own (xs ++ ys)))) else .bad
    | _ => .bad
  | _ => .bad
theorem es_ext (i : Nat) {x : Str} {e : Expr} {te : TE} {f : Ev → Rs R} {p2 apos cpos : Pos} (he : EE X W e te f) (hN : X.N[i]? = some x := by rfl) (hv : Vis X.env.scope x := by first | exact Or.inl rfl | exact Or.inr (Or.inl rfl) | exact Or.inr (Or.inr rfl))
    (hd : (x == ("__debug__" : Str)) = false := by decide) (hcd : (x == ("__classdict__" : Str)) = false := by decide)
    (hbase : attributeBase (.Name x p2) "extend" X.env (eval (.Name x p2) X.env) = eval (.Name x p2) X.env := by rfl)
    (hfew : ((backTo cpos (starEach [e] X.env)).all (fun x => !x.1) && (backToKw cpos (keywordEach [] X.env)).all (fun x => x.1.isSome)
      && decide (([e] : List Expr).length + ([] : List Keyword).length + (if ([] : List Keyword).isEmpty then 0 else 1) < 30)) = true := by rfl)
    (hline : (apos.endLine == cpos.line) = true := by rfl) (hs : starEach [e] X.env = (false, eval e X.env) :: starEach [] X.env := by rfl) (hplain : (backTo cpos (starEach [] X.env)).any (·.1) = false := by rfl)
    (hsw : swapsWith (.Call (.Attribute (.Name x p2) "extend" apos) [e] [] cpos) none pos.line X.env = pure false := by rfl) :
    ES X W (.Expr (.Call (.Attribute (.Name x p2) "extend" apos) [e] [] cpos) pos) (tDrop (tBM X.K "list" rExtend (tVar i) (tCons te tNil))) (gExt i f) where
  ps := ps_expr (pe_bm PySem.F.plainAttrs_list PySem.F.slot_list_extend PySem.F.type_list_extend mt_extend (pe_var hN hv hd hcd) (pa_cons he.pe pa_nil hs) hbase hfew hline hs hplain) hsw
  sound := fun {G H0 ρ σ F H} rel D P => by
    unfold gExt at P
    split at P
    · rename_i xs h
      obtain ⟨v, hv, p, vs, rfl, hp, hF, r⟩ := rel.at_ i _ h
      refine ⟨_, hv, .inl ⟨rfl, vs, SqL.of hp⟩, he.sound rel _ (postS_data rel P fun d v F1 H1 e1 q1 P1 => ?_)⟩
      cases q1 with
      | @lst b ys ds hb w =>
        dsimp only at P1
        split at P1
        · rename_i hl
          have hp1 := e1.hh _ _ hp
          refine ⟨p, b, vs, ys, rfl, rfl, hp1, e1.sub _ _ hb, by rw [r.len, w.len]; exact Nat.le_trans hl lim_le, P1 _ _ _ ((rel.step e1).mut h rfl hv (e1.own hp hF) ⟨p, _, rfl, upd_same, e1.own hp hF, (DDs.mono e1.ff _ _ r).app w⟩ rfl)⟩
        · exact P1.elim
      | _ => exact P1.elim
    · exact P.elim
end

/-! ### a def by its body -/
def retOf : RO → Rs R
  | .nx _ => .ok (.val .none)
  | .ret r => .ok r
  | .exc c _ => .err c
  | .bad => .bad
  | .retk r _ => .ok r
@[simp] theorem retOf_retk (r : R) (ρ : Ev) : retOf (.retk r ρ) = .ok r := rfl
@[simp] theorem retOf_nx (ρ : Ev) : retOf (.nx ρ) = .ok (.val .none) := rfl
@[simp] theorem retOf_ret (r : R) : retOf (.ret r) = .ok r := rfl
@[simp] theorem retOf_exc (c : Str) (ρ : Ev) : retOf (.exc c ρ) = .err c := rfl
@[simp] theorem retOf_bad : retOf .bad = .bad := rfl
/-- n slots in all -/
def startE (n : Nat) (rs : List R) : Ev := rs.map some ++ List.replicate (n - rs.length) none
def denB (n : Nat) (g : Ev → RO) (rs : List R) : Rs R := retOf (g (startE n rs))
theorem Args.get {K : PySem.W.Frag} {F H : Hp} : ∀ {vs : List V} {rs : List R} {i : Nat} {r : R}, Args K F H vs rs → rs[i]? = some r → ∃ v, vs[i]? = some v ∧ Rep K F H v r ∧ r.isOwn = false
  | _, _, _, _, .nil, e => by simp at e
  | _, _, 0, _, .cons r t, e => by simp at e; subst e; exact ⟨_, rfl, r⟩
  | _, _, i + 1, r, .cons _ t, e => by
    obtain ⟨v, h1, h2⟩ := Args.get (i := i) (r := r) t (by simpa using e)
    exact ⟨v, by simpa using h1, h2⟩
theorem startE_get {n i : Nat} {rs : List R} {r : R} (h : (startE n rs)[i]? = some (some r)) : rs[i]? = some r := by
  unfold startE at h
  by_cases hi : i < rs.length
  · rw [List.getElem?_append_left (by simpa using hi), List.getElem?_map] at h
    cases q : rs[i]? with
    | none => rw [q] at h; cases h
    | some y => rw [q] at h; simp at h; rw [h]
  · rw [List.getElem?_append_right (by simpa using hi), List.getElem?_replicate] at h
    split at h <;> simp at h
theorem rel_start {K : PySem.W.Frag} {F H : Hp} {N : List Str} {vs : List V} {rs : List R} (s : Same F H) (h : Args K F H vs rs) : Rel K F H (startE N.length rs) (L2.start N vs) F H where
  base := Base.refl s
  len := by simp [startE, L2.start, h.len]
  at_ := fun i r e => by
    have e := startE_get e
    obtain ⟨v, a, b, _⟩ := h.get e
    refine ⟨v, ?_, b⟩
    unfold L2.start
    have hi : i < vs.length := by
      rcases Nat.lt_or_ge i vs.length with z | z
      · exact z
      · rw [List.getElem?_eq_none z] at a; cases a
    rw [List.getElem?_append_left (by simpa using hi), List.getElem?_map, a]
    rfl
  frs := fun i r w p e _ o => by
    obtain ⟨v, a, b, c⟩ := h.get (startE_get e)
    rw [o.own] at c; cases c
  apart := fun i j r r' w w' p e _ _ _ o _ => by
    obtain ⟨v, a, b, c⟩ := h.get (startE_get e)
    rw [o.own] at c; cases c
section
variable {P : Program} {w : World} {K : PySem.W.Frag} {mg : Str → Option Value} {base : Heap}
theorem fn_den {x qual : Str} {st : Stmt} {f : Addr} {fd : FuncData} {N ps : List Str} {k n : Nat} {g : Ev → RO} (Fu : Fun K x qual st f fd) (S : FnScope N ps (defScope st)) (hn : ps.length = n)
    (hb : ∀ (cdv : Value) (A : Around) (outer : List Env) (s : Shared) (H : Hp) (E : XK), Room k (A.deeper (envOfC qual (defScope st) s.heap.objs.size f cdv)) →
      Takes (cxOf (L2.CX P w) P w K mg base N qual (defScope st) f cdv A outer s H E) (fun cls d _ H => E cls d H) →
      PassesOwn (model P w) (cxOf (L2.CX P w) P w K mg base N qual (defScope st) f cdv A outer s H E).A (cxOf (L2.CX P w) P w K mg base N qual (defScope st) f cdv A outer s H E).env (cxOf (L2.CX P w) P w K mg base N qual (defScope st) f cdv A outer s H E).xe →
      ∃ t, EB (cxOf (L2.CX P w) P w K mg base N qual (defScope st) f cdv A outer s H E) (fun cls d _ H => E cls d H) (defBody st) t g) :
    FnOk P w K mg base (L2.CX P w) (k + 1) f fd ps (spD K mg n (denB N.length g)) := by
  refine Fu.okX S (fun vs H Q E h => by rw [hn]; exact h.1) (fun cdv A outer s H vs Q E hr h => ?_)
  obtain ⟨hl, rs, F, sF, ha, hden⟩ := h
  obtain ⟨t, B⟩ := hb cdv A outer s H E hr (takes_of rfl rfl rfl rfl) (passes_of rfl)
  refine ⟨t, B.ps, B.sound (rel_start sF ha) _ ?_⟩
  unfold denB at hden
  cases hg : g (startE N.length rs) with
  | nx ρ =>
    rw [hg] at hden
    exact fun σ' F' H' r => hden .non F' H' (Base.ext sF r.base) (.val .non)
  | ret r =>
    rw [hg] at hden
    exact fun v F' H' e q => hden v F' H' (Base.ext sF e) q
  | exc c ρ =>
    rw [hg] at hden
    exact fun C σ' F' H' m r => hden C H' m r.base.hh
  | bad => rw [hg] at hden; exact hden.elim
  | retk r ρ =>
    rw [hg] at hden
    exact fun v σ' F' H' e q _ => hden v F' H' (Base.ext sF e.base) q
end
end DN
/-! Den9: short forms for the generator. -/
namespace DN
open PySem PySem.Spec PyProof.Rows L2
theorem hu65_of {A : Around} {k : Nat} (hr : Room k A) : A.units + 65 < cLine := by
  have := hr.un
  omega
section
variable {X : Cx} {W : WX} {a b c e e2 tg : Expr} {es : List Expr} {ta tb tc te te2 : TE} {fa fb fc f f2 : Ev → Rs R} {pos p tpos : Pos} {mg : Str → Option Value}
/-- a test by a rule of its own over a value's reading -/
theorem et_of (hp : PT X e (tTest te)) (h : EE X W e te f) : ET X W e (tTest te) (fTest f) where
  pt := hp
  sound := fun rel Q P => h.sound rel _ (postB_data P fun d v F1 H1 e1 r1 P1 => by
    cases r1 <;> first
      | exact ⟨_, rfl, P1 _ _ (Ext.refl e1.sub)⟩
      | exact P1.elim)
theorem et_cmp {o : CmpOp} {r : R2} {op : PyData → PyData → Rs R} (ho : OpR X (compareOp o) r) (hd : OpD X.K X.mg W r op) (ha : EE X W a ta fa) (hb : EE X W b tb fb) (hm : behindInMarks o b = false) : ET X W (.Compare a [o] [b] pos) (tTest (tOp r ta tb)) (fTest (fOp op fa fb)) :=
  et_of (pt_cmpR ho ha.pe hb.pe hm) (ee_cmp ho hd ha hb hm)
theorem et_chain {o o' : CmpOp} {r r' : R2} {op op' : PyData → PyData → Rs R} (ho : OpR X (compareOp o) r) (ho' : OpR X (compareOp o') r') (hd : OpD X.K X.mg W r op) (hd' : OpD X.K X.mg W r' op') (ha : EE X W a ta fa) (hb : EE X W b tb fb) (hc : EE X W c tc fc)
    (hm : lastMarks [o, o'] [b, c] = false := by with_unfolding_all rfl) : ET X W (.Compare a [o, o'] [b, c] pos) (tTest (tChain r r' ta tb tc)) (fTest (fChain op op' fa fb fc)) :=
  et_of (pt_chain ho ho' ha.pe hb.pe hc.pe hm) (ee_chain ho ho' hd hd' ha hb hc hm)
/-! ### the same with the written part named: no context in the reading (for a comprehension's block) -/
variable (K : PySem.W.Frag)
theorem ek_add (ha : EE X W a ta fa) (hb : EE X W b tb fb) (hK : X.K = K := by rfl) : EE X W (.BinOp a .Add b pos) (tOp (rAddA K) ta tb) (fOp opAdd fa fb) := by
  subst hK; exact ee_op op_addA od_add ha hb
theorem ek_eq (hu : X.A.units + 64 < cLine) (ha : EE X W a ta fa) (hb : EE X W b tb fb) (hK : X.K = K := by rfl) : EE X W (.Compare a [.Eq] [b] pos) (tOp (rEqD K) ta tb) (fOp opEq fa fb) := by
  subst hK; exact ee_cmp (op_eqD hu) od_eq ha hb (nomark _)
theorem ek_ne (hu : X.A.units + 64 < cLine) (ha : EE X W a ta fa) (hb : EE X W b tb fb) (hK : X.K = K := by rfl) : EE X W (.Compare a [.NotEq] [b] pos) (tOp (rNeD K) ta tb) (fOp opNe fa fb) := by
  subst hK; exact ee_cmp (op_neD hu) od_ne ha hb (nomark _)
theorem ek_in (hu : X.A.units + 65 < cLine) (ha : EE X W a ta fa) (hb : EE X W b tb fb) (hm : behindInMarks .In b = false := by rfl) (hK : X.K = K := by rfl) : EE X W (.Compare a [.In] [b] pos) (tOp (rInA K) ta tb) (fOp opIn fa fb) := by
  subst hK; exact ee_cmp (op_inA hu) od_in ha hb hm
theorem ek_notIn (hu : X.A.units + 65 < cLine) (ha : EE X W a ta fa) (hb : EE X W b tb fb) (hm : behindInMarks .NotIn b = false := by rfl) (hK : X.K = K := by rfl) : EE X W (.Compare a [.NotIn] [b] pos) (tOp (rNotInA K) ta tb) (fOp opNotIn fa fb) := by
  subst hK; exact ee_cmp (op_notInA hu) od_notIn ha hb hm
theorem tk_eq (hu : X.A.units + 64 < cLine) (ha : EE X W a ta fa) (hb : EE X W b tb fb) (hK : X.K = K := by rfl) : ET X W (.Compare a [.Eq] [b] pos) (tTest (tOp (rEqD K) ta tb)) (fTest (fOp opEq fa fb)) := by
  subst hK; exact et_cmp (op_eqD hu) od_eq ha hb (nomark _)
theorem tk_ne (hu : X.A.units + 64 < cLine) (ha : EE X W a ta fa) (hb : EE X W b tb fb) (hK : X.K = K := by rfl) : ET X W (.Compare a [.NotEq] [b] pos) (tTest (tOp (rNeD K) ta tb)) (fTest (fOp opNe fa fb)) := by
  subst hK; exact et_cmp (op_neD hu) od_ne ha hb (nomark _)
theorem tk_in (hu : X.A.units + 65 < cLine) (ha : EE X W a ta fa) (hb : EE X W b tb fb) (hm : behindInMarks .In b = false := by rfl) (hK : X.K = K := by rfl) : ET X W (.Compare a [.In] [b] pos) (tTest (tOp (rInA K) ta tb)) (fTest (fOp opIn fa fb)) := by
  subst hK; exact et_cmp (op_inA hu) od_in ha hb hm
theorem tk_notIn (hu : X.A.units + 65 < cLine) (ha : EE X W a ta fa) (hb : EE X W b tb fb) (hm : behindInMarks .NotIn b = false := by rfl) (hK : X.K = K := by rfl) : ET X W (.Compare a [.NotIn] [b] pos) (tTest (tOp (rNotInA K) ta tb)) (fTest (fOp opNotIn fa fb)) := by
  subst hK; exact et_cmp (op_notInA hu) od_notIn ha hb hm
theorem ek_ix (ha : EE X W a ta fa) (hb : EE X W b tb fb) (hs : PlainIx b := by exact fun _ _ => rfl) (hK : X.K = K := by rfl) : EE X W (.Subscript a b pos) (tOp (rIx K) ta tb) (fOp opIx fa fb) := by
  subst hK; exact ee_ix ha hb hs
theorem ek_sl {lo hi : Option Expr} {tl th : TO} {fl fh : Ev → Rs (Option Int)} {p2 : Pos} (he : EE X W e te f) (hl : EO X W lo tl fl) (hh : EO X W hi th fh) (hK : X.K = K := by rfl) : EE X W (.Subscript e (.Slice lo hi none p2) pos) (tSl (rSlAll K) te tl th) (fSl f fl fh) := by
  subst hK; exact ee_sl he hl hh
theorem ek_isi {T : Str} {n : String} {p2 : Pos} (he : EE X W e te f) (hm : X.mg "isinstance" = none) (hT : X.mg T = none) (hb : bootBuiltins T = some (.type n)) (hg : Gl X "isinstance" := by rfl) (hgT : Gl X T := by rfl) (hn : T ≠ "__name__" := by decide) (hd : (T == ("__debug__" : Str)) = false := by decide)
    (hs1 : starEach [e, .Name T p2] X.env = (false, eval e X.env) :: starEach [.Name T p2] X.env := by rfl) (hs2 : starEach [.Name T p2] X.env = (false, eval (.Name T p2) X.env) :: starEach [] X.env := by rfl) (hpl : (backTo pos (starEach [.Name T p2] X.env)).any (·.1) = false := by rfl) (hK : X.K = K := by rfl) :
    EE X W (.Call (.Name "isinstance" p) [e, .Name T p2] [] pos) (tCB (rIsi K) (tCons te (tCons (tC (.ty n)) tNil))) (fUn (isiD n) f) := by
  subst hK; exact ee_isi he hm hT hb hg hgT hn hd hs1 hs2 hpl
theorem ek_call {k n : Nat} {fn : Addr} {fd : FuncData} {ps : List Str} {den : List R → Rs R} {x : Str} {t : TA} {fr : Ev → Rs (List R)} (Fn : FnOk X.prog X.w K mg X.base (L2.CX X.prog X.w) k fn fd ps (spD K mg n den)) (hr : Room k X.A) (hm : mg x = some (.ref fn))
    (hk : PySem.W.keepIn K (.ref fn) = true) (hb : Binds K fd ps []) (tk : Takes X W) (ha : EA X W (e :: es) t fr) (hn : (e :: es).length = n := by rfl) (hg : Gl X x := by rfl)
    (hdb : (x == ("__debug__" : Str)) = false := by decide) (he : starEach (e :: es) X.env = (false, eval e X.env) :: starEach es X.env := by rfl) (hpl : (backTo pos (starEach es X.env)).any (·.1) = false := by rfl) (hK : X.K = K := by rfl) (hmg : X.mg = mg := by rfl) :
    EE X W (.Call (.Name x p) (e :: es) [] pos) (tCallS (spD K mg n den) (WE W) t) (fCall den fr) := by
  subst hK hmg; exact ee_call Fn hr hm hk hb tk ha hn hg hdb he hpl
section
variable {x : Str} {t : TA} {fr : Ev → Rs (List PyData)}
theorem ek_len (hm : X.mg "len" = none) (ha : ED X W (e :: es) t fr) (hg : Gl X "len" := by rfl)
    (he : starEach (e :: es) X.env = (false, eval e X.env) :: starEach es X.env := by rfl) (hpl : (backTo pos (starEach es X.env)).any (·.1) = false := by rfl) (hK : X.K = K := by rfl) :
    EE X W (.Call (.Name "len" p) (e :: es) [] pos) (tCB (fun xs H Q => ∃ x n, xs = [x] ∧ LenV K x H n ∧ Q (.int n) H) t) (fBi biLen fr) := by
  subst hK; exact ee_callB call_len bd_len hm PySem.boot_len ha hg (by decide) (by decide) he hpl
theorem ek_all (hm : X.mg "all" = none) (ha : ED X W (e :: es) t fr) (hg : Gl X "all" := by rfl) (hc : X.calm = true := by rfl)
    (he : starEach (e :: es) X.env = (false, eval e X.env) :: starEach es X.env := by rfl) (hpl : (backTo pos (starEach es X.env)).any (·.1) = false := by rfl) (hK : X.K = K := by rfl) :
    EE X W (.Call (.Name "all" p) (e :: es) [] pos) (tCB (rAll K) t) (fBi biAll fr) := by
  subst hK; exact ee_callB (cr_all hc) bd_all hm (by decide +kernel) ha hg (by decide) (by decide) he hpl
theorem ek_any (hm : X.mg "any" = none) (ha : ED X W (e :: es) t fr) (hg : Gl X "any" := by rfl) (hc : X.calm = true := by rfl)
    (he : starEach (e :: es) X.env = (false, eval e X.env) :: starEach es X.env := by rfl) (hpl : (backTo pos (starEach es X.env)).any (·.1) = false := by rfl) (hK : X.K = K := by rfl) :
    EE X W (.Call (.Name "any" p) (e :: es) [] pos) (tCB (rAny K) t) (fBi biAny fr) := by
  subst hK; exact ee_callB (cr_any hc) bd_any hm (by decide +kernel) ha hg (by decide) (by decide) he hpl
theorem ek_list (hm : X.mg "list" = none) (ha : ED X W (e :: es) t fr) (hg : Gl X "list" := by rfl)
    (he : starEach (e :: es) X.env = (false, eval e X.env) :: starEach es X.env := by rfl) (hpl : (backTo pos (starEach es X.env)).any (·.1) = false := by rfl) (hK : X.K = K := by rfl) :
    EE X W (.Call (.Name "list" p) (e :: es) [] pos) (tCB (fun xs H Q => ∃ p ys, xs = [.ref p] ∧ (SqL K H p ys ∨ SqT K H p ys) ∧ ∀ l, H l = none → Q (.ref l) (upd H l (.lst ys))) t) (fBi biList fr) := by
  subst hK; exact ee_callTy call_list_of bd_list hm (by decide +kernel) ha hg (by decide) (by decide) he hpl
theorem ek_tuple (hm : X.mg "tuple" = none) (ha : ED X W (e :: es) t fr) (hg : Gl X "tuple" := by rfl)
    (he : starEach (e :: es) X.env = (false, eval e X.env) :: starEach es X.env := by rfl) (hpl : (backTo pos (starEach es X.env)).any (·.1) = false := by rfl) (hK : X.K = K := by rfl) :
    EE X W (.Call (.Name "tuple" p) (e :: es) [] pos) (tCB (fun xs H Q => ∃ p ys, xs = [.ref p] ∧ ((SqL K H p ys ∧ ∀ l, H l = none → Q (.ref l) (upd H l (.tup ys))) ∨ (SqT K H p ys ∧ Q (.ref p) H))) t) (fBi biTuple fr) := by
  subst hK; exact ee_callTy call_tuple_of bd_tuple hm (by decide +kernel) ha hg (by decide) (by decide) he hpl
end
theorem ik_seq (h : EE X W e te f) (hK : X.K = K := by rfl) : EI X W tg e (fun σ H R => iList K te σ H R ∨ iTup K te σ H R) (fSeq f) := by
  subst hK; exact ei_seq h
theorem ik_enum {elts : List Expr} {kk : Nat} (h : EE X W e te f) (hm : X.mg "enumerate" = none) (hg : Gl X "enumerate" := by rfl) (hs : starEach [e] X.env = [(false, eval e X.env)] := by rfl) (hK : X.K = K := by rfl) :
    EI X W (.Tuple elts kk tpos) (.Call (.Name "enumerate" p) [e] [] pos) (iEnumK K (tCons te tNil)) (fEnum f) := by
  subst hK; exact ei_enum h hm hg hs
theorem ik_zip {elts : List Expr} {kk : Nat} (h : EE X W e te f) (h2 : EE X W e2 te2 f2) (hm : X.mg "zip" = none) (hg : Gl X "zip" := by rfl) (hs : starEach [e, e2] X.env = (false, eval e X.env) :: starEach [e2] X.env := by rfl) (hs2 : starEach [e2] X.env = (false, eval e2 X.env) :: starEach [] X.env := by rfl)
    (hpl : (backTo pos (starEach [e2] X.env)).any (·.1) = false := by rfl) (hK : X.K = K := by rfl) :
    EI X W (.Tuple elts kk tpos) (.Call (.Name "zip" p) [e, e2] [] pos) (iZipK K (tCons te (tCons te2 tNil))) (fZip f f2) := by
  subst hK; exact ei_zip h h2 hm hg hs hs2 hpl
theorem gk_tup {k n : Nat} {gs : TGs} {is : List Nat} {ts : List PyData → Ev → Rs Ev} (h : EGs X es gs n is ts) (hc : X.calm = true := by rfl)
    (hn : (assignEach es X.env).length = n := by rfl) (hst : (assignEach es X.env).findIdx? (·.1) = none := by rfl) (hK : X.K = K := by rfl) : EG X (.Tuple es k pos) (gTup K n gs) is (tTupl ts) := by
  subst hK; exact eg_tup h hc hn hst
end
end DN
/-! Den10: the script, x = [..] on one line, calls without arguments, repetitions, sums. -/
namespace DN
open PySem PySem.Spec PyProof.Rows L2

section
variable {X : Cx} {W : WX} {a b c e e2 tg : Expr} {es : List Expr} {ta tb tc te te2 : TE} {fa fb fc f f2 : Ev → Rs R} {pos p tpos : Pos} {mg : Str → Option Value}
variable (K : PySem.W.Frag)
/-! ### the script -/
@[simp] def fSix (i : Nat) (fb : Ev → Rs R) : Ev → Rs R := fun ρ => match ρ[i]? with
  | some (some (.scr ns)) => (fb ρ).bind fun r => r.d.bind fun x => match x with
    | .int j => match atI ns j with
      | some n => .ok (.val (.int n))
      | none => .bad
    | _ => .bad
  | _ => .bad
theorem atI_map {α β : Type} (g : α → β) (xs : List α) (i : Int) : atI (xs.map g) i = (atI xs i).map g := by
  unfold atI
  rw [List.length_map]
  cases ixN xs.length i with
  | none => rfl
  | some j => simp
theorem ek_six (i : Nat) {x : Str} {p2 : Pos} (hb : EE X W b tb fb) (hN : X.N[i]? = some x := by rfl) (hv : Vis X.env.scope x := by first | exact Or.inl rfl | exact Or.inr (Or.inl rfl) | exact Or.inr (Or.inr rfl)) (hd : (x == ("__debug__" : Str)) = false := by decide)
    (hcd : (x == ("__classdict__" : Str)) = false := by decide) (hs : PlainIx b := by exact fun _ _ => rfl) (hK : X.K = K := by rfl) : EE X W (.Subscript (.Name x p2) b pos) (tOp (rIxL K) (tVar i) tb) (fSix i fb) := by
  subst hK
  refine ⟨pe_ix ix_list (pe_var hN hv hd hcd) hb.pe hs, fun {G H0 ρ σ F H} rel Q P => ?_⟩
  unfold fSix at P
  split at P
  · rename_i ns h
    obtain ⟨v, hv, a, rfl, q⟩ := rel.at_ i _ h
    refine ⟨_, hv, hb.sound rel _ (post_data P fun d v F1 H1 e1 r1 P1 => ?_)⟩
    cases r1 with
    | int j =>
      dsimp only at P1
      split at P1
      · rename_i n hn
        exact ⟨a, _, j, .int n, rfl, rfl, (rel.sub.trans e1.hh).seq q, by rw [atI_map, hn]; rfl, post_flat e1.sub (.int n) P1⟩
      · exact P1.elim
    | _ => exact P1.elim
  · exact P.elim
@[simp] def fSlen (i : Nat) : Ev → Rs R := fun ρ => match ρ[i]? with
  | some (some (.scr ns)) => .ok (.val (.int ns.length))
  | _ => .bad
theorem ek_slen (i : Nat) {x : Str} {p2 : Pos} (hm : X.mg "len" = none) (hN : X.N[i]? = some x := by rfl) (hv : Vis X.env.scope x := by first | exact Or.inl rfl | exact Or.inr (Or.inl rfl) | exact Or.inr (Or.inr rfl)) (hd : (x == ("__debug__" : Str)) = false := by decide)
    (hcd : (x == ("__classdict__" : Str)) = false := by decide) (hg : Gl X "len" := by rfl)
    (he : starEach [.Name x p2] X.env = (false, eval (.Name x p2) X.env) :: starEach [] X.env := by rfl) (hpl : (backTo pos (starEach [] X.env)).any (·.1) = false := by rfl) (hK : X.K = K := by rfl) :
    EE X W (.Call (.Name "len" p) [.Name x p2] [] pos) (tCB (fun xs H Q => ∃ x n, xs = [x] ∧ LenV K x H n ∧ Q (.int n) H) (tCons (tVar i) tNil)) (fSlen i) := by
  subst hK
  refine ⟨pe_callB call_len hg hm PySem.boot_len (pa_cons (pe_var hN hv hd hcd) pa_nil he) (by decide) (by decide) he hpl, fun {G H0 ρ σ F H} rel Q P => ?_⟩
  unfold fSlen at P
  split at P
  · rename_i ns h
    obtain ⟨v, hv, a, rfl, q⟩ := rel.at_ i _ h
    exact ⟨_, hv, _, _, rfl, .inl ⟨_, rel.sub.seq q, rfl⟩, by rw [List.length_map]; exact post_flat rel.sub (.int _) P⟩
  · exact P.elim
theorem shaped_ints (ns : List Int) : SeqAt.shaped (.list (ns.map .int)) = true := by
  have h1 : ∀ l : List Int, PyData.canLayAll0 (l.map .int) = true := fun l => by
    induction l with
    | nil => rfl
    | cons x r ih => simp [PyData.canLayAll0, PyData.canLay0, ih]
  have h2 : ∀ l : List Int, PyData.depthAll (l.map .int) = 0 := fun l => by
    induction l with
    | nil => rfl
    | cons x r ih => simp [PyData.depthAll, PyData.depth, ih]
  unfold SeqAt.shaped
  simp [PyData.canLay0, PyData.depth, h1, h2]
theorem dp_ints {H : Hp} {a : Addr} {ns : List Int} (h : SqL K H a (ns.map V.int)) : Dp K H (.ref a) (.list (ns.map .int)) := by
  refine .lst h ?_
  have : ∀ l : List Int, DpAll K H (l.map V.int) (l.map PyData.int) := fun l => by
    induction l with
    | nil => exact .nil
    | cons x r ih => exact .cons (.int x) ih
  exact this ns
@[simp] def fSne (i : Nat) : Ev → Rs Bool := fun ρ => match ρ[i]? with
  | some (some (.scr ns)) => .ok (!ns.isEmpty)
  | _ => .bad
theorem tk_sne (i : Nat) {x : Str} {p2 p3 : Pos} (hu : X.A.units + 64 < cLine) (hN : X.N[i]? = some x := by rfl) (hv : Vis X.env.scope x := by first | exact Or.inl rfl | exact Or.inr (Or.inl rfl) | exact Or.inr (Or.inr rfl)) (hd : (x == ("__debug__" : Str)) = false := by decide)
    (hcd : (x == ("__classdict__" : Str)) = false := by decide) (hK : X.K = K := by rfl) :
    ET X W (.Compare (.Name x p2) [.NotEq] [.List [] p3] pos) (tTest (tOp (rNeD K) (tVar i) (tLst tNil))) (fSne i) := by
  subst hK
  refine ⟨pt_cmpR (op_neD hu) (pe_var hN hv hd hcd) (pe_lst pa_nil) (nomark _), fun {G H0 ρ σ F H} rel Q P => ?_⟩
  unfold fSne at P
  split at P
  · rename_i ns h
    obtain ⟨v, hv, a, rfl, q⟩ := rel.at_ i _ h
    refine ⟨_, hv, Nat.zero_le _, fun l nl => ?_⟩
    refine ⟨_, _, dp_ints _ ((rel.sub.trans (same_new nl)).seq q), .lst (SqL.of upd_same) .nil, shaped_ints ns, by decide, _, rfl, ?_⟩
    have e : (!PyData.eqv (.list (ns.map .int)) (.list [])) = !ns.isEmpty := by
      cases ns with
      | nil => rfl
      | cons x r => rfl
    rw [e]
    exact P _ _ (Ext.addH rel.sub nl)
  · exact P.elim
/-! ### x = [..] on one line -/
theorem es_setLcF (i : Nat) {y : Str} {py : Pos} {elt tg iter : Expr} {ifs : List Expr} {scope : Scope} {own : List (Str × Nat)} {spos : Pos} {wi : TI} {g : TG} {tt : TT} {te : TE} {is : List Nat} {fi : Ev → Rs (List PyData)} {ft : PyData → Ev → Rs Ev} {fc : Ev → Rs Bool} {fe : Ev → Rs R}
    (hN : X.N.Nodup) (hi : EI X W tg iter wi fi) (ok : BlkOk X.N X.env.scope scope own)
    (hg : ∀ (s : Shared) (H : Hp) (C : Addr) (cl : List (Str × Addr)) (fp : List Addr), EG (X.blk s H scope (compEnvC scope cl C X.env) fp) tg g is ft)
    (ht : ∀ (s : Shared) (H : Hp) (C : Addr) (cl : List (Str × Addr)) (fp : List Addr), ETs (X.blk s H scope (compEnvC scope cl C X.env) fp) W0 ifs tt fc)
    (he : ∀ (s : Shared) (H : Hp) (C : Addr) (cl : List (Str × Addr)) (fp : List Addr), EE (X.blk s H scope (compEnvC scope cl C X.env) fp) W0 elt te fe)
    (hsub : ∀ i ∈ is, i ∈ own.map (·.2) := by decide) (hc : X.calm = true := by rfl) (hs : ∀ x, foldedSetIterable iter X.env x = pure x := by intro _; rfl)
    (hy : X.N[i]? = some y := by rfl) (hyl : X.env.scope.names.lookup y = some .local := by rfl) (hk : X.env.scope.kind = .function := by rfl) (hl : (py.line == pos.line) = true := by rfl)
    (ha : (scope.names.any fun (n, k) => n == y && (k == .local || k == .cell)) = false := by decide +kernel) :
    ES X W (.Assign [.Name y py] (.ListComp elt [⟨tg, iter, ifs, 0⟩] scope pos) spos) (tAsg (tLc wi g tt te (own.map (·.2))) (gName i)) (gAsgF i (fLc (own.map (·.2)) fi ft fc fe)) :=
  es_asgPF (ps_setLc hc hN hy hyl (sw_true hk hyl hl ha) hi.pi ok (fun s H C cl fp => (hg s H C cl fp).pg) (fun s H C cl fp => (ht s H C cl fp).pts) (fun s H C cl fp => (he s H C cl fp).pe) hs)
    (ee_lc (pos := pos) hN hi ok hg ht he hsub hc hs)
theorem es_setLc (i : Nat) {y : Str} {py : Pos} {elt tg iter : Expr} {ifs : List Expr} {scope : Scope} {own : List (Str × Nat)} {spos : Pos} {wi : TI} {g : TG} {tt : TT} {te : TE} {is : List Nat} {fi : Ev → Rs (List PyData)} {ft : PyData → Ev → Rs Ev} {fc : Ev → Rs Bool} {fe : Ev → Rs R}
    (hN : X.N.Nodup) (hi : EI X W tg iter wi fi) (ok : BlkOk X.N X.env.scope scope own)
    (hg : ∀ (s : Shared) (H : Hp) (C : Addr) (cl : List (Str × Addr)) (fp : List Addr), EG (X.blk s H scope (compEnvC scope cl C X.env) fp) tg g is ft)
    (ht : ∀ (s : Shared) (H : Hp) (C : Addr) (cl : List (Str × Addr)) (fp : List Addr), ETs (X.blk s H scope (compEnvC scope cl C X.env) fp) W0 ifs tt fc)
    (he : ∀ (s : Shared) (H : Hp) (C : Addr) (cl : List (Str × Addr)) (fp : List Addr), EE (X.blk s H scope (compEnvC scope cl C X.env) fp) W0 elt te fe)
    (hsub : ∀ i ∈ is, i ∈ own.map (·.2) := by decide) (hc : X.calm = true := by rfl) (hs : ∀ x, foldedSetIterable iter X.env x = pure x := by intro _; rfl)
    (hy : X.N[i]? = some y := by rfl) (hyl : X.env.scope.names.lookup y = some .local := by rfl) (hk : X.env.scope.kind = .function := by rfl) (hl : (py.line == pos.line) = true := by rfl)
    (ha : (scope.names.any fun (n, k) => n == y && (k == .local || k == .cell)) = false := by decide +kernel) :
    ES X W (.Assign [.Name y py] (.ListComp elt [⟨tg, iter, ifs, 0⟩] scope pos) spos) (tAsg (tLc wi g tt te (own.map (·.2))) (gName i)) (gAsg i (fLc (own.map (·.2)) fi ft fc fe)) :=
  es_asgP (ps_setLc hc hN hy hyl (sw_true hk hyl hl ha) hi.pi ok (fun s H C cl fp => (hg s H C cl fp).pg) (fun s H C cl fp => (ht s H C cl fp).pts) (fun s H C cl fp => (he s H C cl fp).pe) hs)
    (ee_lc (pos := pos) hN hi ok hg ht he hsub hc hs)
/-! ### f() -/
theorem ek_call0 {k : Nat} {fn : Addr} {fd : FuncData} {ps : List Str} {den : List R → Rs R} {x : Str} (Fn : FnOk X.prog X.w K mg X.base (L2.CX X.prog X.w) k fn fd ps (spD K mg 0 den)) (hr : Room k X.A) (hm : mg x = some (.ref fn))
    (hk : PySem.W.keepIn K (.ref fn) = true) (hb : Binds K fd ps []) (tk : Takes X W) (hW : ∀ c d σ σ' H, W c d σ H → W c d σ' H := by exact fun _ _ _ _ _ h => h) (hg : Gl X x := by rfl)
    (hdb : (x == ("__debug__" : Str)) = false := by decide) (hK : X.K = K := by rfl) (hmg : X.mg = mg := by rfl) :
    EE X W (.Call (.Name x p) [] [] pos) (tCall (spD K mg 0 den) [] (fun c d H => ∀ σ, W c d σ H) tNil) (fun _ => den []) := by
  subst hK hmg
  exact ee_call0 Fn hr hm hk hb _ (passes_call tk fun c d σ H h => h σ) (fun c d σ H h σ' => hW c d σ σ' H h) hg hdb
/-! ### repetitions -/
def opRepT : PyData → PyData → Rs R
  | .tuple xs, .int k => if xs ≠ [] ∧ 2 ≤ k ∧ k ≤ 1000 ∧ xs.length ≤ 1000 then .ok (.val (.tuple (List.replicate k.toNat xs).flatten)) else .bad
  | _, _ => .bad
theorem DDs.rep {F : Hp} {vs : List V} {ds : List PyData} (r : DDs F vs ds) : ∀ k : Nat, DDs F (List.replicate k vs).flatten (List.replicate k ds).flatten
  | 0 => .nil
  | k + 1 => by
    rw [List.replicate_succ, List.replicate_succ, List.flatten_cons, List.flatten_cons]
    exact r.app (DDs.rep r k)
theorem ek_repT (ha : EE X W a ta fa) (hb : EE X W b tb fb) (hK : X.K = K := by rfl) : EE X W (.BinOp a .Mult b pos) (tOp (rRepT K) ta tb) (fOp opRepT fa fb) := by
  subst hK
  refine ee_op op_repT (fun {σ F H Q v u x y} s a b P => ?_) ha hb
  unfold opRepT at P
  cases a with
  | @tup p xs ds h r =>
    cases b with
    | int k =>
      dsimp only at P
      split at P
      · rename_i hc
        refine ⟨_, k, xs, rfl, rfl, SqT.of (s _ _ h), fun z => hc.1 ?_, hc.2.1, hc.2.2.1, by rw [r.len]; exact hc.2.2.2, new_tup s (r.rep _) P⟩
        subst z
        cases r
        rfl
      · exact P.elim
    | _ => exact P.elim
  | _ => cases b <;> exact P.elim
def opRepL : PyData → PyData → Rs R
  | .list xs, .int k => if k.natAbs ≤ 1000000 ∧ xs.length * k.toNat ≤ lim then .ok (.own (List.replicate k.toNat xs).flatten) else .bad
  | _, _ => .bad
theorem ek_repL (ha : EE X W a ta fa) (hb : EE X W b tb fb) : EE X W (.BinOp a .Mult b pos) (tOp rRep ta tb) (fOp opRepL fa fb) := by
  refine ee_op op_rep (fun {σ F H Q v u x y} s a b P => ?_) ha hb
  unfold opRepL at P
  cases a with
  | @lst p xs ds h r =>
    cases b with
    | int k =>
      dsimp only at P
      split at P
      · rename_i hc
        exact ⟨_, k, xs, rfl, rfl, s _ _ h, by omega, by omega, by rw [r.len]; exact Nat.le_trans hc.2 lim_le, new_lst s (r.rep _) P⟩
      · exact P.elim
    | _ => exact P.elim
  | _ => cases b <;> exact P.elim
/-! ### sum, max, min of a list of ints -/
def asIs : List PyData → Option (List Int)
  | [] => some []
  | .int b :: r => (asIs r).map (b :: ·)
  | _ => none
theorem asIs_eq : ∀ {ds : List PyData} {bs : List Int}, asIs ds = some bs → ds = bs.map PyData.int
  | [], _, h => by simp [asIs] at h; subst h; rfl
  | d :: r, bs, h => by
    cases d <;> simp [asIs] at h
    obtain ⟨a, h1, rfl⟩ := h
    rw [asIs_eq h1]; rfl
@[simp] theorem asIs_map (bs : List Int) : asIs (bs.map PyData.int) = some bs := by
  induction bs with
  | nil => rfl
  | cons b r ih => simp [asIs, ih]
def biSum : List PyData → Rs R
  | [.list ds] => match asIs ds with
    | some bs => .ok (.val (.int bs.sum))
    | none => .bad
  | _ => .bad
def maxOf : List Int → Int
  | [] => 0
  | [x] => x
  | x :: r => max x (maxOf r)
def minOf : List Int → Int
  | [] => 0
  | [x] => x
  | x :: r => min x (minOf r)
theorem maxOf_spec : ∀ (ns : List Int), ns ≠ [] → maxOf ns ∈ ns ∧ ∀ y ∈ ns, y ≤ maxOf ns
  | [], h => absurd rfl h
  | [x], _ => by simp [maxOf]
  | x :: y :: r, _ => by
    have ih := maxOf_spec (y :: r) (by simp)
    show max x (maxOf (y :: r)) ∈ _ ∧ ∀ z ∈ _, z ≤ max x (maxOf (y :: r))
    refine ⟨?_, fun z hz => ?_⟩
    · rcases Int.le_total x (maxOf (y :: r)) with h | h
      · rw [Int.max_eq_right h]; exact List.mem_cons_of_mem _ ih.1
      · rw [Int.max_eq_left h]; exact List.mem_cons_self
    · rcases List.mem_cons.mp hz with rfl | h
      · exact Int.le_max_left _ _
      · exact Int.le_trans (ih.2 z h) (Int.le_max_right _ _)
theorem minOf_spec : ∀ (ns : List Int), ns ≠ [] → minOf ns ∈ ns ∧ ∀ y ∈ ns, minOf ns ≤ y
  | [], h => absurd rfl h
  | [x], _ => by simp [minOf]
  | x :: y :: r, _ => by
    have ih := minOf_spec (y :: r) (by simp)
    show min x (minOf (y :: r)) ∈ _ ∧ ∀ z ∈ _, min x (minOf (y :: r)) ≤ z
    refine ⟨?_, fun z hz => ?_⟩
    · rcases Int.le_total x (minOf (y :: r)) with h | h
      · rw [Int.min_eq_left h]; exact List.mem_cons_self
      · rw [Int.min_eq_right h]; exact List.mem_cons_of_mem _ ih.1
    · rcases List.mem_cons.mp hz with rfl | h
      · exact Int.min_le_left _ _
      · exact Int.le_trans (Int.min_le_right _ _) (ih.2 z h)
def biMax : List PyData → Rs R
  | [.list ds] => match asIs ds with
    | some bs => if bs = [] then .bad else .ok (.val (.int (maxOf bs)))
    | none => .bad
  | _ => .bad
def biMin : List PyData → Rs R
  | [.list ds] => match asIs ds with
    | some bs => if bs = [] then .bad else .ok (.val (.int (minOf bs)))
    | none => .bad
  | _ => .bad
theorem bd_sum : BiD X.K X.mg W (rSum X.K) biSum := fun {σ F H Q vs ds} s r P => by
  match ds, r with
  | [], .nil => exact P.elim
  | [_], .cons h .nil =>
    unfold biSum at P
    cases h with
    | @lst p xs ds h r =>
      dsimp only at P
      split at P
      · rename_i bs hb
        have e := asIs_eq hb
        subst e
        have e2 := r.ofInts
        subst e2
        exact ⟨_, bs, rfl, SqL.of (s _ _ h), post_flat s (.int _) P⟩
      · exact P.elim
    | _ => exact P.elim
  | _ :: _ :: _, .cons h (.cons _ _) => cases h <;> exact P.elim
theorem bd_max : BiD X.K X.mg W (rMax X.K) biMax := fun {σ F H Q vs ds} s r P => by
  match ds, r with
  | [], .nil => exact P.elim
  | [_], .cons h .nil =>
    unfold biMax at P
    cases h with
    | @lst p xs ds h r =>
      dsimp only at P
      split at P
      · rename_i bs hb
        split at P
        · exact P.elim
        · rename_i hne
          have e := asIs_eq hb
          subst e
          have e2 := r.ofInts
          subst e2
          refine ⟨_, bs, rfl, SqL.of (s _ _ h), List.length_pos_iff.mpr hne, fun m hm hy => ?_⟩
          have sp := maxOf_spec bs hne
          have : m = maxOf bs := Int.le_antisymm (sp.2 m hm) (hy _ sp.1)
          subst this
          exact post_flat s (.int _) P
      · exact P.elim
    | _ => exact P.elim
  | _ :: _ :: _, .cons h (.cons _ _) => cases h <;> exact P.elim
theorem bd_min : BiD X.K X.mg W (rMin X.K) biMin := fun {σ F H Q vs ds} s r P => by
  match ds, r with
  | [], .nil => exact P.elim
  | [_], .cons h .nil =>
    unfold biMin at P
    cases h with
    | @lst p xs ds h r =>
      dsimp only at P
      split at P
      · rename_i bs hb
        split at P
        · exact P.elim
        · rename_i hne
          have e := asIs_eq hb
          subst e
          have e2 := r.ofInts
          subst e2
          refine ⟨_, bs, rfl, SqL.of (s _ _ h), List.length_pos_iff.mpr hne, fun m hm hy => ?_⟩
          have sp := minOf_spec bs hne
          have : m = minOf bs := Int.le_antisymm (hy _ sp.1) (sp.2 m hm)
          subst this
          exact post_flat s (.int _) P
      · exact P.elim
    | _ => exact P.elim
  | _ :: _ :: _, .cons h (.cons _ _) => cases h <;> exact P.elim
section
variable {t : TA} {fr : Ev → Rs (List PyData)}
theorem ek_sum (hm : X.mg "sum" = none) (ha : ED X W (e :: es) t fr) (hg : Gl X "sum" := by rfl) (hc : X.calm = true := by rfl)
    (he : starEach (e :: es) X.env = (false, eval e X.env) :: starEach es X.env := by rfl) (hpl : (backTo pos (starEach es X.env)).any (·.1) = false := by rfl) (hK : X.K = K := by rfl) :
    EE X W (.Call (.Name "sum" p) (e :: es) [] pos) (tCB (rSum K) t) (fBi biSum fr) := by
  subst hK; exact ee_callB (cr_sum hc) bd_sum hm (by decide +kernel) ha hg (by decide) (by decide) he hpl
theorem ek_max (hm : X.mg "max" = none) (ha : ED X W (e :: es) t fr) (hg : Gl X "max" := by rfl) (hc : X.calm = true := by rfl)
    (he : starEach (e :: es) X.env = (false, eval e X.env) :: starEach es X.env := by rfl) (hpl : (backTo pos (starEach es X.env)).any (·.1) = false := by rfl) (hK : X.K = K := by rfl) :
    EE X W (.Call (.Name "max" p) (e :: es) [] pos) (tCB (rMax K) t) (fBi biMax fr) := by
  subst hK; exact ee_callB (cr_max hc) bd_max hm (by decide +kernel) ha hg (by decide) (by decide) he hpl
theorem ek_min (hm : X.mg "min" = none) (ha : ED X W (e :: es) t fr) (hg : Gl X "min" := by rfl) (hc : X.calm = true := by rfl)
    (he : starEach (e :: es) X.env = (false, eval e X.env) :: starEach es X.env := by rfl) (hpl : (backTo pos (starEach es X.env)).any (·.1) = false := by rfl) (hK : X.K = K := by rfl) :
    EE X W (.Call (.Name "min" p) (e :: es) [] pos) (tCB (rMin K) t) (fBi biMin fr) := by
  subst hK; exact ee_callB (cr_min hc) bd_min hm (by decide +kernel) ha hg (by decide) (by decide) he hpl
end
/-- a statement that the proof never comes to -/
theorem es_never {st : Stmt} : ES X W st tNever (fun _ => .bad) := ⟨ps_never, fun rel D P => P⟩
end
end DN
/-! Den11: comprehensions with two clauses. -/
namespace DN
open PySem PySem.Spec PyProof.Rows L2
/-- the heap turned at one place D that no slot holds -/
theorem Rel.turn {K : PySem.W.Frag} {G H0 F H F' H' : Hp} {ρ : Ev} {σ : L2.St} (r : Rel K G H0 ρ σ F H) (D : Addr) (ff : Same F F') (hh : ∀ b o, b ≠ D → H b = some o → H' b = some o) (h0 : H0 D = none) (sub : Same F' H') (new : ∀ a, F' a ≠ none → F a ≠ none ∨ Okn H a)
    (no : ∀ (i : Nat) (x : R) (v : V), ρ[i]? = some (some x) → σ[i]? = some (some v) → ¬ Cell H v x D) : Rel K G H0 ρ σ F' H' := by
  have fr : ∀ {p : Addr} {o : HO}, H p = some o → F p = none → (∀ xs, o ≠ .tup xs) → F' p = none := fun {p o} hp n ho => by
    cases q : F' p with
    | none => rfl
    | some y =>
      rcases new p (by rw [q]; exact fun z => nomatch z) with h | h
      · exact absurd n h
      · obtain ⟨xs, z⟩ := h _ hp
        exact absurd z (ho xs)
  have mv : ∀ {i : Nat} {x : R} {v : V}, ρ[i]? = some (some x) → σ[i]? = some (some v) → Rep K F H v x → Rep K F' H' v x ∧ ∀ q, Cell H' v x q → Cell H v x q := fun {i x v} h a b => by
    have nc := no i x v h a
    cases x with
    | val d => exact ⟨DD.mono ff _ _ b, fun _ z => z⟩
    | own xs =>
      obtain ⟨p, vs, rfl, c, d, e⟩ := b
      exact ⟨⟨p, vs, rfl, hh _ _ (fun z => nc (by subst z; exact rfl)) c, fr c d (by intro _ z; cases z), DDs.mono ff _ _ e⟩, fun _ z => z⟩
    | dct xs =>
      obtain ⟨p, vs, rfl, c, d, e⟩ := b
      exact ⟨⟨p, vs, rfl, hh _ _ (fun z => nc (by subst z; exact rfl)) c, fr c d (by intro _ z; cases z), KD.mono ff e⟩, fun _ z => z⟩
    | dck xs =>
      obtain ⟨p, vs, rfl, c, d, e⟩ := b
      exact ⟨⟨p, vs, rfl, hh _ _ (fun z => nc (by subst z; exact rfl)) c, fr c d (by intro _ z; cases z), KD.mono ff e⟩, fun _ z => z⟩
    | scr ns =>
      obtain ⟨a', rfl, h'⟩ := b
      exact ⟨⟨a', rfl, same_l ff h'⟩, fun _ z => z⟩
    | raw u => exact ⟨b, fun _ z => z⟩
    | dfz _ => obtain ⟨q, o, us, rfl, b1, b2⟩ := b; exact ⟨⟨q, o, us, rfl, ff _ _ b1, KD.mono ff b2⟩, fun _ z => z⟩
    | vie c n d =>
      obtain ⟨tc, a', dx, l1, l2, v1, v2, rfl, h1, h2, h3⟩ := b
      exact ⟨⟨tc, a', dx, l1, l2, v1, v2, rfl, ff _ _ h1, DD.mono ff _ _ h2, DD.mono ff _ _ h3⟩, fun _ z => z⟩
    | obj id c o =>
      obtain ⟨a', dx, l1, l2, rfl, hi, ⟨v1, v2, us1, us2, h1, h2, h3, h4, h5, h6, h7, h8, h9⟩, f1, f2, f3, f4⟩ := b
      have ne : ∀ q, q = a' ∨ q = dx ∨ q = l1 ∨ q = l2 → q ≠ D := fun q hq z => nc ⟨a', dx, v1, v2, l1, l2, rfl, h1, z ▸ hq⟩
      refine ⟨⟨a', dx, l1, l2, rfl, hi, ⟨v1, v2, us1, us2, hh _ _ (ne _ (.inl rfl)) h1, hh _ _ (ne _ (.inr (.inl rfl))) h2, hh _ _ (ne _ (.inr (.inr (.inl rfl)))) h3, hh _ _ (ne _ (.inr (.inr (.inr rfl)))) h4, h5, DD.mono ff _ _ h6, DD.mono ff _ _ h7, DDs.mono ff _ _ h8, DDs.mono ff _ _ h9⟩,
        fr h1 f1 (by intro _ z; cases z), fr h2 f2 (by intro _ z; cases z), fr h3 f3 (by intro _ z; cases z), fr h4 f4 (by intro _ z; cases z)⟩, fun q z => ?_⟩
      obtain ⟨a2, dx', w1, w2, m1, m2, e', g, hq⟩ := z
      cases e'
      rw [hh _ _ (ne _ (.inl rfl)) h1] at g
      cases g
      exact ⟨a', dx, v1, v2, l1, l2, rfl, h1, hq⟩
  refine ⟨⟨r.base.keep.trans ff, fun b o e => hh b o (ne_of_none e h0) (r.base.hh _ _ e), sub, fun x q => ?_⟩, r.len, fun i x h => ?_, fun i x v q h s c => ?_, fun i j x y v w q h1 h2 s1 s2 c1 c2 => ?_⟩
  · rcases new x q with h | h
    · exact r.base.new x h
    · exact .inr (h.back r.base.hh)
  · obtain ⟨v, a, b⟩ := r.at_ i x h
    exact ⟨v, a, (mv h a b).1⟩
  · obtain ⟨v', a, b⟩ := r.at_ i x h
    rw [s] at a
    cases a
    exact r.frs i x v q h s ((mv h s b).2 q c)
  · obtain ⟨v', a, b⟩ := r.at_ i x h1
    rw [s1] at a
    cases a
    obtain ⟨v', a, b'⟩ := r.at_ j y h2
    rw [s2] at a
    cases a
    exact r.apart i j x y v w q h1 h2 s1 s2 ((mv h1 s1 b).2 q c1) ((mv h2 s2 b').2 q c2)
def lc2Go (ft : PyData → Ev → Rs Ev) (fc : Ev → Rs Bool) (vs1 : List Nat) (fi1 : Ev → Rs (List PyData)) (ft1 : PyData → Ev → Rs Ev) (fc1 : Ev → Rs Bool) (fe : Ev → Rs R) (ρ : Ev) : List PyData → Rs (List PyData)
  | [] => .ok []
  | d :: ds => (ft d ρ).bind fun ρ1 => (fc ρ1).bind fun b => if b = true then (fi1 ρ1).bind fun ds1 => (lcGo ft1 fc1 fe (wipeE ρ1 vs1) ds1).bind fun ys => (lc2Go ft fc vs1 fi1 ft1 fc1 fe ρ ds).bind fun xs => .ok (ys ++ xs) else lc2Go ft fc vs1 fi1 ft1 fc1 fe ρ ds
def fLc2 (vs vs1 : List Nat) (fi : Ev → Rs (List PyData)) (ft : PyData → Ev → Rs Ev) (fc : Ev → Rs Bool) (fi1 : Ev → Rs (List PyData)) (ft1 : PyData → Ev → Rs Ev) (fc1 : Ev → Rs Bool) (fe : Ev → Rs R) : Ev → Rs R := fun ρ => (fi ρ).bind fun ds =>
  (noErr (lc2Go ft fc vs1 fi1 ft1 fc1 fe (wipeE ρ vs) ds)).bind fun xs => if xs.length ≤ lim then .ok (.own xs) else .bad
theorem lcGo_cons {ft : PyData → Ev → Rs Ev} {fc : Ev → Rs Bool} {fe : Ev → Rs R} {ρ : Ev} {d : PyData} {ds ys : List PyData} (h : lcGo ft fc fe ρ (d :: ds) = .ok ys) :
    ∃ ρ1 b, ft d ρ = .ok ρ1 ∧ fc ρ1 = .ok b ∧ ((b = true ∧ ∃ r x zs, fe ρ1 = .ok r ∧ r.d = .ok x ∧ lcGo ft fc fe ρ ds = .ok zs ∧ ys = x :: zs) ∨ (b = false ∧ lcGo ft fc fe ρ ds = .ok ys)) := by
  unfold lcGo at h
  cases h1 : ft d ρ with
  | ok ρ1 =>
    rw [h1, bind_ok] at h
    cases h2 : fc ρ1 with
    | ok b =>
      rw [h2, bind_ok] at h
      refine ⟨ρ1, b, rfl, h2, ?_⟩
      cases b with
      | true =>
        rw [if_pos rfl] at h
        cases h3 : fe ρ1 with
        | ok r =>
          rw [h3, bind_ok] at h
          cases h4 : r.d with
          | ok x =>
            rw [h4, bind_ok] at h
            cases h5 : lcGo ft fc fe ρ ds with
            | ok zs =>
              rw [h5, bind_ok] at h
              cases h
              exact .inl ⟨rfl, r, x, zs, rfl, h4, rfl, rfl⟩
            | err c => rw [h5] at h; cases h
            | bad => rw [h5] at h; cases h
          | err c => rw [h4] at h; cases h
          | bad => rw [h4] at h; cases h
        | err c => rw [h3] at h; cases h
        | bad => rw [h3] at h; cases h
      | false =>
        rw [if_neg (by decide)] at h
        exact .inr ⟨rfl, h⟩
    | err c => rw [h2] at h; cases h
    | bad => rw [h2] at h; cases h
  | err c => rw [h1] at h; cases h
  | bad => rw [h1] at h; cases h
theorem lc2Go_cons {ft : PyData → Ev → Rs Ev} {fc : Ev → Rs Bool} {vs1 : List Nat} {fi1 : Ev → Rs (List PyData)} {ft1 : PyData → Ev → Rs Ev} {fc1 : Ev → Rs Bool} {fe : Ev → Rs R} {ρ : Ev} {d : PyData} {ds ys : List PyData} (h : lc2Go ft fc vs1 fi1 ft1 fc1 fe ρ (d :: ds) = .ok ys) :
    ∃ ρ1 b, ft d ρ = .ok ρ1 ∧ fc ρ1 = .ok b ∧ ((b = true ∧ ∃ ds1 xs zs, fi1 ρ1 = .ok ds1 ∧ lcGo ft1 fc1 fe (wipeE ρ1 vs1) ds1 = .ok xs ∧ lc2Go ft fc vs1 fi1 ft1 fc1 fe ρ ds = .ok zs ∧ ys = xs ++ zs) ∨ (b = false ∧ lc2Go ft fc vs1 fi1 ft1 fc1 fe ρ ds = .ok ys)) := by
  unfold lc2Go at h
  cases h1 : ft d ρ with
  | ok ρ1 =>
    rw [h1, bind_ok] at h
    cases h2 : fc ρ1 with
    | ok b =>
      rw [h2, bind_ok] at h
      refine ⟨ρ1, b, rfl, h2, ?_⟩
      cases b with
      | true =>
        rw [if_pos rfl] at h
        cases h3 : fi1 ρ1 with
        | ok r =>
          rw [h3, bind_ok] at h
          cases h4 : lcGo ft1 fc1 fe (wipeE ρ1 vs1) r with
          | ok x =>
            rw [h4, bind_ok] at h
            cases h5 : lc2Go ft fc vs1 fi1 ft1 fc1 fe ρ ds with
            | ok zs =>
              rw [h5, bind_ok] at h
              cases h
              exact .inl ⟨rfl, r, x, zs, rfl, h4, rfl, rfl⟩
            | err c => rw [h5] at h; cases h
            | bad => rw [h5] at h; cases h
          | err c => rw [h4] at h; cases h
          | bad => rw [h4] at h; cases h
        | err c => rw [h3] at h; cases h
        | bad => rw [h3] at h; cases h
      | false =>
        rw [if_neg (by decide)] at h
        exact .inr ⟨rfl, h⟩
    | err c => rw [h2] at h; cases h
    | bad => rw [h2] at h; cases h
  | err c => rw [h1] at h; cases h
  | bad => rw [h1] at h; cases h
theorem ee_lc2 {X : Cx} {W : WX} {elt tg iter tg1 iter1 : Expr} {ifs ifs1 : List Expr} {scope : Scope} {own : List (Str × Nat)} {pos : Pos} {wi wi1 : TI} {g g1 : TG} {tt tt1 : TT} {te : TE} {i0 : Nat} {is1 : List Nat} {fi fi1 : Ev → Rs (List PyData)} {ft1 : PyData → Ev → Rs Ev} {fc fc1 : Ev → Rs Bool} {fe : Ev → Rs R}
    (hN : X.N.Nodup) (hi : EI X W tg iter wi fi) (ok : BlkOk X.N X.env.scope scope own)
    (hg : ∀ (s : Shared) (H : Hp) (C : Addr) (cl : List (Str × Addr)) (fp : List Addr), EG (X.blk s H scope (compEnvC scope cl C X.env) fp) tg g [i0] (tName i0))
    (ht : ∀ (s : Shared) (H : Hp) (C : Addr) (cl : List (Str × Addr)) (fp : List Addr), ETs (X.blk s H scope (compEnvC scope cl C X.env) fp) W0 ifs tt fc)
    (hi1 : ∀ (s : Shared) (H : Hp) (C : Addr) (cl : List (Str × Addr)) (fp : List Addr), EI (X.blk s H scope (compEnvC scope cl C X.env) fp) W0 tg1 iter1 wi1 fi1)
    (hg1 : ∀ (s : Shared) (H : Hp) (C : Addr) (cl : List (Str × Addr)) (fp : List Addr), EG (X.blk s H scope (compEnvC scope cl C X.env) fp) tg1 g1 is1 ft1)
    (ht1 : ∀ (s : Shared) (H : Hp) (C : Addr) (cl : List (Str × Addr)) (fp : List Addr), ETs (X.blk s H scope (compEnvC scope cl C X.env) fp) W0 ifs1 tt1 fc1)
    (he : ∀ (s : Shared) (H : Hp) (C : Addr) (cl : List (Str × Addr)) (fp : List Addr), EE (X.blk s H scope (compEnvC scope cl C X.env) fp) W0 elt te fe)
    (hsub : ∀ i ∈ [i0], i ∈ own.map (·.2) := by decide) (hv : ∀ i ∈ is1, i ∈ own.map (·.2) := by decide) (hc : X.calm = true := by rfl) (hs : ∀ x, foldedSetIterable iter X.env x = pure x := by intro _; rfl) (hs1 : ∀ env x, foldedSetIterable iter1 env x = pure x := by intro _ _; rfl) :
    EE X W (.ListComp elt [⟨tg, iter, ifs, 0⟩, ⟨tg1, iter1, ifs1, 0⟩] scope pos) (tLc2 wi g tt wi1 g1 tt1 te (own.map (·.2)) is1) (fLc2 (own.map (·.2)) is1 fi (tName i0) fc fi1 ft1 fc1 fe) where
  pe := pe_lc2 hc hN hi.pi ok hv (fun s H C cl fp => (hg s H C cl fp).pg) (fun s H C cl fp => (ht s H C cl fp).pts) (fun s H C cl fp => (hi1 s H C cl fp).pi) (fun s H C cl fp => (hg1 s H C cl fp).pg) (fun s H C cl fp => (ht1 s H C cl fp).pts) (fun s H C cl fp => (he s H C cl fp).pe) hs hs1
  sound := fun {G H0 ρ σ F H} rel Q P => hi.sound rel _ (postI_post P fun ds J F1 H1 e1 wk P1 => by
    cases hgo : lc2Go (tName i0) fc is1 fi1 ft1 fc1 fe (wipeE ρ (own.map (·.2))) ds with
    | err c => rw [hgo] at P1; exact P1.elim
    | bad => rw [hgo] at P1; exact P1.elim
    | ok xs =>
      rw [hgo] at P1
      replace P1 : Post X.K X.mg W σ F1 H1 Q (if xs.length ≤ lim then .ok (.own xs) else .bad) := P1
      by_cases hlim : xs.length ≤ lim
      · rw [if_pos hlim] at P1
        intro D nD
        have rel1 := (rel.step e1).wipe (own.map (·.2))
        have h0D : H0 D = none := rel1.base.hh.free nD
        -- what holds between turns of the outer loop
        let St : List PyData → Hp → Hp → Prop := fun acc F' H' => ∃ vs, Ext F1 H1 F' H' ∧ H' D = some (.lst vs) ∧ F' D = none ∧ DDs F' vs acc
        have step : ∀ {acc : List PyData} {F' H' F'' H'' : Hp}, St acc F' H' → Ext F' H' F'' H'' → St acc F'' H'' := fun {acc F' H' F'' H''} h e => by
          obtain ⟨vs, ex, hD, hF, hv⟩ := h
          exact ⟨vs, ex.trans e, e.hh _ _ hD, e.own hD hF, DDs.mono e.ff _ _ hv⟩
        refine ⟨fun i m H' => i ≤ ds.length ∧ m = ds.length - i ∧ ∃ F' acc rest, St acc F' H' ∧ lc2Go (tName i0) fc is1 fi1 ft1 fc1 fe (wipeE ρ (own.map (·.2))) (ds.drop i) = .ok rest ∧ acc ++ rest = xs,
          ⟨ds.length, Nat.zero_le _, rfl, F1, [], xs, ⟨[], Ext.addH e1.sub nD, upd_same, e1.sub.free nD, .nil⟩, hgo, rfl⟩, fun i m H' hW => ?_⟩
        obtain ⟨hi', rfl, F', acc, rest, hst, hr, hx⟩ := hW
        by_cases hlt : i < ds.length
        · refine .inr ⟨wk.goes i H' hlt (hst.elim fun vs q => q.1.ff.trans q.1.sub), fun H'' => i + 1 ≤ ds.length ∧ ∃ F' acc rest, St acc F' H'' ∧ lc2Go (tName i0) fc is1 fi1 ft1 fc1 fe (wipeE ρ (own.map (·.2))) (ds.drop (i + 1)) = .ok rest ∧ acc ++ rest = xs, fun H'' q => ⟨ds.length - (i + 1), by omega, q.1, rfl, q.2⟩, fun x H2 hy => ?_⟩
          have hd : ds[i]? = some ds[i] := List.getElem?_eq_getElem hlt
          obtain ⟨F2, e2, r2⟩ := wk.yields i H' x H2 ds[i] F' hd (hst.elim fun vs q => q.1.ff) (hst.elim fun vs q => q.1.sub) hy
          rw [List.drop_eq_getElem_cons hlt] at hr
          obtain ⟨ρ1, b, h1, h2, hr⟩ := lc2Go_cons hr
          have relA : Rel X.K G H0 (wipeE ρ (own.map (·.2))) (wipe σ (own.map (·.2))) F2 H2 := (rel1.step (hst.elim fun vs q => q.1)).step e2
          refine (hg X.s_0 X.H_0 0 [] []).sound relA r2 h1 _ fun σ2 rel2 l2 o2 => ⟨wipe_eq hsub (by rw [l2, wipe_length]) o2, ?_⟩
          -- no slot holds D
          have noD : ∀ {H' : Hp}, Same H1 H' → ∀ (j : Nat) (y : R) (w : V), ρ1[j]? = some (some y) → σ2[j]? = some (some w) → ¬ Cell H' w y D := fun {H'} sm j y w hj z c => by
            cases h1
            have hne : i0 ≠ j := fun e => by
              subst e
              rw [List.getElem?_set] at hj
              by_cases hb : i0 < (wipeE ρ (own.map (·.2))).length
              · simp [hb] at hj
                subst hj
                cases c.own
              · simp [hb] at hj
            rw [List.getElem?_set_ne hne] at hj
            rw [o2 j (by simpa using Ne.symm hne)] at z
            obtain ⟨w', a, b⟩ := rel1.at_ j y hj
            rw [z] at a
            cases a
            obtain ⟨_, o', ho', _⟩ := (c.back b sm).here b
            rw [nD] at ho'
            cases ho'
          have hstA := step hst e2
          refine (ht X.s_0 X.H_0 0 [] []).sound rel2 _ (by
            rw [h2]
            intro F3 H3 e3
            have hst3 := step hstA e3
            rcases hr with ⟨rfl, ds1, ys, zs, h3, h4, h5, rfl⟩ | ⟨rfl, h5⟩
            · rw [if_pos rfl]
              have rel3 := rel2.step e3
              refine (hi1 X.s_0 X.H_0 0 [] []).sound rel3 _ ?_
              rw [h3]
              intro J1 F4 H4 e4 wk1
              have hst4 := step hst3 e4
              have rel4 := rel3.step e4
              -- the inner loop
              refine ⟨fun j k H' => j ≤ ds1.length ∧ k = ds1.length - j ∧ ∃ F' acc' rest', St acc' F' H' ∧ Same F4 F' ∧ Rel X.K G H0 ρ1 σ2 F' H' ∧ lcGo ft1 fc1 fe (wipeE ρ1 is1) (ds1.drop j) = .ok rest' ∧ acc' ++ rest' = acc ++ ys,
                ⟨ds1.length, Nat.zero_le _, rfl, F4, acc, ys, hst4, Same.refl _, rel4, h4, rfl⟩, fun j k H5 hW => ?_⟩
              obtain ⟨hj', rfl, F5, acc5, rest5, hst5, ff5, rel5, hr5, hx5⟩ := hW
              by_cases hlt5 : j < ds1.length
              · refine .inr ⟨wk1.goes j H5 hlt5 (ff5.trans rel5.sub), fun H' => j + 1 ≤ ds1.length ∧ ∃ F' acc' rest', St acc' F' H' ∧ Same F4 F' ∧ Rel X.K G H0 ρ1 σ2 F' H' ∧ lcGo ft1 fc1 fe (wipeE ρ1 is1) (ds1.drop (j + 1)) = .ok rest' ∧ acc' ++ rest' = acc ++ ys,
                  fun H' q => ⟨ds1.length - (j + 1), by omega, q.1, rfl, q.2⟩, fun x6 H6 hy6 => ?_⟩
                have hd6 : ds1[j]? = some ds1[j] := List.getElem?_eq_getElem hlt5
                obtain ⟨F6, e6, r6⟩ := wk1.yields j H5 x6 H6 ds1[j] F5 hd6 ff5 rel5.sub hy6
                rw [List.drop_eq_getElem_cons hlt5] at hr5
                obtain ⟨ρ6, b6, k1, k2, hr6⟩ := lcGo_cons hr5
                have hst6 := step hst5 e6
                have rel6 := rel5.step e6
                refine (hg1 X.s_0 X.H_0 0 [] []).sound (rel6.wipe is1) r6 k1 _ fun σ7 rel7 l7 o7 => ⟨wipe_eq (fun _ q => q) (by rw [l7, wipe_length]) o7, ?_⟩
                refine (ht1 X.s_0 X.H_0 0 [] []).sound rel7 _ (by
                  rw [k2]
                  intro F7 H7 e7
                  have hst7 := step hst6 e7
                  rcases hr6 with ⟨rfl, r, dx, zs6, k3, k4, k5, rfl⟩ | ⟨rfl, k5⟩
                  · rw [if_pos rfl]
                    refine (he X.s_0 X.H_0 0 [] []).sound (rel7.step e7) _ ?_
                    rw [k3]
                    intro y F8 H8 e8 r8
                    obtain ⟨F9, e9, s9, r9⟩ := r8.data e8 k4
                    obtain ⟨vs9, ex9, hD9, hF9, hv9⟩ := step hst7 e9
                    have rel9 := (rel6.step e7).step e9
                    have hlen : vs9.length < sizeLine := by
                      have h1 := hv9.len
                      have h2 := lim_lt
                      have h3 : (acc5 ++ dx :: zs6).length ≤ xs.length := by rw [hx5, ← hx]; simp
                      rw [List.length_append, List.length_cons] at h3
                      omega
                    refine ⟨vs9, hD9, hlen, hlt5, F9, acc5 ++ [dx], zs6, ⟨vs9 ++ [y], ⟨ex9.old, ex9.ff, fun b o q => ?_, fun b o q => ?_, ex9.new⟩, upd_same, hF9, hv9.app (.cons r9 .nil)⟩, ((ff5.trans e6.ff).trans e7.ff).trans e9.ff, ?_, k5, by simpa using hx5⟩
                    · have : b ≠ D := ne_of_none q nD
                      rw [upd_ne this]
                      exact ex9.hh _ _ q
                    · have : b ≠ D := ne_of_none q hF9
                      rw [upd_ne this]
                      exact ex9.sub _ _ q
                    · refine rel9.turn D (Same.refl _) (fun b o ne q => by rw [upd_ne ne]; exact q) h0D (fun b o q => ?_) (fun a q => .inl q) (noD ex9.hh)
                      have : b ≠ D := ne_of_none q hF9
                      rw [upd_ne this]
                      exact ex9.sub _ _ q
                  · rw [if_neg (by decide)]
                    exact ⟨hlt5, F7, acc5, rest5, hst7, (ff5.trans e6.ff).trans e7.ff, rel6.step e7, k5, hx5⟩)
              · have hin : j = ds1.length := by omega
                subst hin
                refine .inl ⟨wk1.stops H5 (ff5.trans rel5.sub), ?_⟩
                simp [lcGo] at hr5
                subst hr5
                rw [List.append_nil] at hx5
                subst hx5
                exact ⟨hlt, F5, acc ++ ys, zs, hst5, h5, by rw [← hx]; simp⟩
            · rw [if_neg (by decide)]
              exact ⟨hlt, F3, acc, rest, hst3, h5, hx⟩)
        · have hin : i = ds.length := by omega
          subst hin
          obtain ⟨vs, ex, hD, hF, hv'⟩ := hst
          refine .inl ⟨wk.stops H' (ex.ff.trans ex.sub), ?_⟩
          simp [lc2Go] at hr
          subst hr
          rw [List.append_nil] at hx
          subst hx
          exact P1 _ F' H' ex ⟨⟨D, vs, rfl, hD, hF, hv'⟩, fun _ q e => by cases e; exact nD⟩
      · rw [if_neg hlim] at P1
        exact P1.elim)
end DN
/-! Den12: things of ours, read as they stand. -/
namespace DN
open PySem PySem.Spec PyProof.Rows L2
section
variable {X : Cx} {W : WX} {a b e : Expr} {ta tb te : TE} {fa fb f : Ev → Rs R} {pos p : Pos} (K : PySem.W.Frag)
/-- an item of a list of ours -/
@[simp] def fOix (i : Nat) (fb : Ev → Rs R) : Ev → Rs R := fun ρ => match ρ[i]? with
  | some (some (.own ds)) => (fb ρ).bind fun r => r.d.bind fun x => match x with
    | .int j => match atI ds j with
      | some d => .ok (.val d)
      | none => .bad
    | _ => .bad
  | some (some (.val (.list ds))) => (fb ρ).bind fun r => r.d.bind fun x => match x with
    | .int j => match atI ds j with
      | some d => .ok (.val d)
      | none => .bad
    | _ => .bad
  | _ => .bad
theorem ek_oix (i : Nat) {x : Str} {p2 : Pos} (hb : EE X W b tb fb) (hN : X.N[i]? = some x := by rfl) (hv : Vis X.env.scope x := by first | exact Or.inl rfl | exact Or.inr (Or.inl rfl) | exact Or.inr (Or.inr rfl)) (hd : (x == ("__debug__" : Str)) = false := by decide)
    (hcd : (x == ("__classdict__" : Str)) = false := by decide) (hs : PlainIx b := by exact fun _ _ => rfl) (hK : X.K = K := by rfl) : EE X W (.Subscript (.Name x p2) b pos) (tOp (rIxL K) (tVar i) tb) (fOix i fb) := by
  subst hK
  refine ⟨pe_ix ix_list (pe_var hN hv hd hcd) hb.pe hs, fun {G H0 ρ σ F H} rel Q P => ?_⟩
  unfold fOix at P
  split at P
  · rename_i ds h
    obtain ⟨v, hv, a, vs, rfl, q1, q2, q3⟩ := rel.at_ i _ h
    refine ⟨_, hv, hb.sound rel _ (post_data P fun d v F1 H1 e1 r1 P1 => ?_)⟩
    cases r1 with
    | int j =>
      dsimp only at P1
      split at P1
      · rename_i n hn
        obtain ⟨w, k1, k2⟩ := atI_DD q3 hn
        exact ⟨a, _, j, w, rfl, rfl, SqL.of (e1.hh _ _ q1), k1, post_flat e1.sub (DD.mono e1.ff _ _ k2) P1⟩
      · exact P1.elim
    | _ => exact P1.elim
  · rename_i ds h
    obtain ⟨v, hv, q⟩ := rel.at_ i _ h
    refine ⟨_, hv, hb.sound rel _ (post_data P fun d v F1 H1 e1 r1 P1 => ?_)⟩
    cases q with
    | @lst a vs _ q1 q3 =>
      cases r1 with
      | int j =>
        dsimp only at P1
        split at P1
        · rename_i n hn
          obtain ⟨w, k1, k2⟩ := atI_DD q3 hn
          exact ⟨a, _, j, w, rfl, rfl, SqL.of (e1.hh _ _ (rel.sub _ _ q1)), k1, post_flat e1.sub (DD.mono e1.ff _ _ k2) P1⟩
        · exact P1.elim
      | _ => exact P1.elim
  · exact P.elim
end
end DN
/-! Den13: dicts with tuple keys; sorted. -/
namespace DN
open PySem PySem.Spec PyProof.Rows L2

/-! ### sorted: the rule -/
theorem each_vals {bs : List (V × PyData)} : ∀ {us : List Value}, Vals (bs.map (·.1)) us → PySem.W.EachIs (fun v (b : V × PyData) => RelV b.1 v) us bs := by
  induction bs with
  | nil => intro us r; cases r; exact .nil
  | cons b bs ih =>
    intro us r
    cases r with
    | cons h t => exact .cons h (ih t)
theorem vals_each {bs : List (V × PyData)} : ∀ {us : List Value}, PySem.W.EachIs (fun v (b : V × PyData) => RelV b.1 v) us bs → Vals (bs.map (·.1)) us := by
  induction bs with
  | nil => intro us r; cases r; exact .nil
  | cons b bs ih =>
    intro us r
    cases r with
    | cons h t => exact .cons h (ih t)
theorem each_reads {X : Cx} {pins : List (Addr × Obj)} {σ : L2.St} {H : Hp} {s : Shared} (I : Inv X pins σ H s) : ∀ {bs : List (V × PyData)} {us : List Value}, (∀ b ∈ bs, Dp X.K H b.1 b.2) → PySem.W.EachIs (fun v (b : V × PyData) => RelV b.1 v) us bs →
    PySem.W.EachIs (fun v (b : V × PyData) => ∃ as, Reads s.heap v b.2 as) us bs
  | _, _, _, .nil => .nil
  | b :: bs, _, h, .cons r t => .cons (Dp.reads I _ _ _ (h b List.mem_cons_self) r) (each_reads I (fun x hx => h x (List.mem_cons_of_mem _ hx)) t)
/-- the pairs of values and data, sorted by the data -/
def srt (bs : List (V × PyData)) : List (V × PyData) := bs.mergeSort (PySem.W.dataLe false fun b => b.2)
def rSortedA (K : PySem.W.Frag) : List V → Hp → VK → Prop := fun vs H Q => ∃ (a : Addr) (bs : List (V × PyData)), vs = [V.ref a] ∧ SqL K H a (bs.map (·.1)) ∧ (∀ b ∈ bs, Dp K H b.1 b.2) ∧ PySem.W.AllAlike (bs.map (·.2)) ∧ PySem.W.Sortable (bs.map (·.2)) ∧
  (∀ b ∈ bs, b.2.depth ≤ 16) ∧ bs.length ≤ sizeLine ∧ ∀ p, H p = none → Q (.ref p) (upd H p (.lst ((srt bs).map (·.1))))
section
variable {X : Cx}
theorem cr_sortedA (hu : X.A.units + 64 < cLine) : CallR X (.builtin "sorted") (rSortedA X.K) := by
  intro pins s σ H vs us Q I r h
  obtain ⟨a, bs, rfl, hs, hdp, hal, hk, hde, hL, q⟩ := h
  obtain ⟨its, rv, hl, _⟩ := I.list hs
  rw [Vals.ref1 r]
  have e := each_vals rv
  refine PySem.W.sorted_data (enc := fun b : V × PyData => b.2) (bs := bs) (R := fun v b => RelV b.1 v) hl.isList e (each_reads I hdp e) hal hk hL (fun b hb => ?_) fun out ho eo => ?_
  · have := hde b hb
    omega
  · obtain ⟨ep, he'⟩ := PyProof.Rows.sortedAll_at s.heap its out.toArray
    have hlen : ((srt bs).map (·.1)).length ≤ sizeLine := by
      unfold srt
      rw [List.length_map, List.length_mergeSort]
      exact hL
    exact ⟨.ref _, upd H (s.heap.objs.size + 1) (.lst ((srt bs).map (·.1))), I.laid (t' := s.toks) (fun _ _ => PyProof.Rows.sortedAll_old) (Nat.le_succ _) ⟨hlen, out, ep, vals_each eo, he'⟩, rfl, q _ (I.hok.fresh (Nat.le_succ _))⟩
/-! ### sorted(d), the keys tuples -/
def keyD : Key → PyData
  | .inl i => .int i
  | .inr x => .str x
theorem dp_key {K : PySem.W.Frag} {H : Hp} (k : Key) : Dp K H (kV k) (keyD k) := by
  cases k with
  | inl i => exact .int i
  | inr x => exact .str x
theorem dp_keys {K : PySem.W.Frag} {H : Hp} : ∀ ks : List Key, DpAll K H (ks.map kV) (ks.map keyD)
  | [] => .nil
  | k :: ks => .cons (dp_key k) (dp_keys ks)
def kTup (k : List Key) : PyData := .tuple (k.map keyD)
def rSortedDT : List V → Hp → VK → Prop := fun vs H Q => ∃ (a : Addr) (kvs : List (List Key × V)), vs = [V.ref a] ∧ H a = some (.dT kvs) ∧ PySem.W.AllAlike (kvs.map fun kv => kTup kv.1) ∧ PySem.W.Sortable (kvs.map fun kv => kTup kv.1) ∧
  ∀ p bs, H p = none → IsKeys H kvs bs → Q (.ref p) (upd H p (.lst ((srt ((bs.map V.ref).zip (kvs.map fun kv => kTup kv.1))).map (·.1))))
theorem depth_keys : ∀ ks : List Key, PyData.depthAll (ks.map keyD) = 0
  | [] => by simp [PyData.depthAll]
  | k :: ks => by
    rw [List.map_cons, PyData.depthAll, depth_keys ks]
    cases k <;> simp [keyD, PyData.depth]
theorem keys_zip {K : PySem.W.Frag} {H : Hp} : ∀ {kvs : List (List Key × V)} {bs : List Addr}, IsKeys H kvs bs → ((bs.map V.ref).zip (kvs.map fun kv => kTup kv.1)).map (·.1) = bs.map V.ref ∧ ((bs.map V.ref).zip (kvs.map fun kv => kTup kv.1)).map (·.2) = kvs.map (fun kv => kTup kv.1) ∧
    ∀ b ∈ (bs.map V.ref).zip (kvs.map fun kv => kTup kv.1), Dp K H b.1 b.2
  | _, _, .nil => ⟨rfl, rfl, fun _ h => by cases h⟩
  | kv :: kvs, b :: bs, .cons h t => by
    obtain ⟨a1, a2, a3⟩ := keys_zip (K := K) t
    refine ⟨by simp only [List.map_cons, List.zip_cons_cons, a1], by simp only [List.map_cons, List.zip_cons_cons, a2], fun x hx => ?_⟩
    rw [List.map_cons, List.map_cons, List.zip_cons_cons] at hx
    rcases List.mem_cons.mp hx with rfl | hx
    · exact .tup (SqT.of h) (dp_keys kv.1)
    · exact a3 x hx
theorem reads_keys {h : Heap} : ∀ (ks : List Key) (us : List Value) (as : List Addr), ReadsAll h us (ks.map keyD) as → as = []
  | [], _, _, r => by cases r; rfl
  | k :: ks, _, _, r => by
    rw [List.map_cons] at r
    cases r with
    | cons h1 h2 =>
      have e2 := reads_keys ks _ _ h2
      subst e2
      cases k with
      | inl i => cases h1; rfl
      | inr x => cases h1; rfl
theorem reads_kTup {h : Heap} {k : List Key} {v : Value} {as : List Addr} (r : Reads h v (kTup k) as) : as = [] := by
  unfold kTup at r
  cases r with
  | tuple h1 h2 h3 h4 => exact reads_keys k _ _ h4
theorem cr_sortedDT (hc : X.calm = true) (hu : X.A.units + 64 < cLine) : CallR X (.builtin "sorted") rSortedDT := by
  intro pins s σ H vs us Q I r h
  obtain ⟨d, kvs, rfl, hd, hal, hk, q⟩ := h
  obtain ⟨u, rfl, rx⟩ := r.one
  cases rx
  obtain ⟨z, hs, ks, pr, o, es, ep, ho, hx, hdt, he, hn⟩ := (show ObjOk X.prog X.w H s.heap d (.dT kvs) from (show Rd H d (.dT kvs) from .inl hd).ok I.hok)
  have l1 : es.size = ks.length := size_of_entries he
  have l2 : kvs.length = ks.length := Paired.length pr
  refine Calls.call_function_entry PyProof.Rows.kind_sorted PyProof.Rows.plain_sorted PyProof.Rows.entry_sorted (PyProof.Rows.args_sorted1 _) ?_
  unfold Builtin.«sorted»
  refine wpAny_bind (m := checkCount "sorted" 1 1 _) (wpAny_pure ?_)
  refine wpAny_bind (PySem.W.kdu_collect (A := X.A.in1) (kdl_raw hs hx hdt) (I.ok.hd hc) ho (by omega) fun h' tk acc hkp it => ?_)
  have ea : acc.toList = ks.map fun x => Value.ref x.2.1 := by
    have hl : acc.toList.length = ks.length := by rw [Array.length_toList, it.1]; exact l1
    apply List.ext_getElem?
    intro j
    rw [List.getElem?_map]
    cases hj : acc.toList[j]? with
    | none =>
      have h1 := List.getElem?_eq_none_iff.mp hj
      rw [List.getElem?_eq_none (by omega)]
      all_goals rfl
    | some v =>
      obtain ⟨en, hen, hv⟩ := it.2 j v (by rw [← Array.getElem?_toList]; exact hj)
      have qe := entry_at he j
      rw [hen] at qe
      cases hb : ks[j]? with
      | none =>
        rw [hb] at qe
        exact nomatch (show some en = none from qe)
      | some b =>
        rw [hb] at qe
        have e2 : en = entryOfKey (tupleKind (mixKind X.prog X.w)) b := Option.some.inj qe
        rw [hv, e2]
        all_goals rfl
  have isk := isKeys_of pr
  have I1 : Inv X pins σ H { s with heap := h', toks := tk } := I.kept hkp
  generalize hbs : (ks.map fun x => x.2.1) = bs at isk
  have eb : acc.toList = bs.map Value.ref := by rw [ea, ← hbs, List.map_map]; all_goals rfl
  obtain ⟨z1, z2, z3⟩ := keys_zip (K := X.K) isk
  have hlz : ((bs.map V.ref).zip (kvs.map fun kv => kTup kv.1)).length = ks.length := by
    have := congrArg List.length z1
    rw [List.length_map, List.length_map, ← hbs, List.length_map] at this
    rw [← hbs]
    exact this
  replace q := fun p hp => q p bs hp isk
  generalize (bs.map V.ref).zip (kvs.map fun kv => kTup kv.1) = zs at z1 z2 z3 q hlz
  have rv : Vals (zs.map (·.1)) acc.toList := by rw [z1, eb]; exact vals_refs _
  have e := each_vals rv
  have I2 : Inv X pins σ H { s with heap := h'.push (seqObj "list" acc.toList.toArray 0), toks := tk } := I.kept (fun b o q => Heap.get?_push_of_some _ (hkp b o q))
  refine wpAny_bind (wpAny_newList ?_ (by rw [eb, List.length_map, ← hbs, List.length_map]; omega))
  have hoL : (h'.push (seqObj "list" acc.toList.toArray 0)).get? h'.objs.size = some (seqObj "list" acc.toList.toArray 0) := Heap.get?_push_size _ rfl
  show wpAny _ _ _ _ _ { s with heap := h'.push (seqObj "list" acc.toList.toArray 0), toks := tk }
  refine wpAny_bind (wpAny_holding (PySem.W.list_sort_data (s := { s with heap := h'.push (seqObj "list" acc.toList.toArray 0), toks := tk }) (enc := fun b : V × PyData => b.2) (bs := zs) (R := fun v b => RelV b.1 v) (vs := acc.toList) hoL e ?_ (by rw [z2]; exact hal) (by rw [z2]; exact hk) (by omega) (fun b hb => ?_) fun out hlo eo => ?_))
  · have key : ∀ {us : List Value} {bs : List (V × PyData)}, (∀ b ∈ bs, b ∈ zs) → PySem.W.EachIs (fun v (b : V × PyData) => RelV b.1 v) us bs → PySem.W.EachIs (fun v (b : V × PyData) => ∃ as, Reads (h'.push (seqObj "list" acc.toList.toArray 0)) v b.2 as ∧ h'.objs.size ∉ as) us bs := by
      intro us bs' hsub ee
      induction ee with
      | nil => exact .nil
      | @cons v b us bs' r t ih =>
        refine .cons ?_ (ih fun x hx => hsub x (List.mem_cons_of_mem _ hx))
        obtain ⟨as, hr⟩ := Dp.reads I1 _ _ _ (z3 b (hsub b List.mem_cons_self)) r
        refine ⟨as, PyProof.Rows.Reads.keeps (fun b o q => Heap.get?_push_of_some _ q) hr, ?_⟩
        have hb2 : b.2 ∈ zs.map (·.2) := List.mem_map.mpr ⟨b, hsub b List.mem_cons_self, rfl⟩
        rw [z2] at hb2
        obtain ⟨kv, _, ekv⟩ := List.mem_map.mp hb2
        rw [← ekv] at hr
        rw [reads_kTup hr]
        exact List.not_mem_nil
    exact key (fun _ h => h) e
  · have hb2 : b.2 ∈ zs.map (·.2) := List.mem_map.mpr ⟨b, hb, rfl⟩
    rw [z2] at hb2
    obtain ⟨kv, _, ekv⟩ := List.mem_map.mp hb2
    have : (kTup kv.1).depth = 1 := by
      unfold kTup
      rw [PyData.depth, depth_keys]
    show X.A.in1.units + 1 + b.2.depth < cLine
    rw [← ekv, this]
    have : X.A.in1.units ≤ X.A.units + 1 := by first | exact Nat.le_succ _ | exact Nat.le_refl _ | (simp [Around.in1]; omega)
    omega
  · obtain ⟨e', he'⟩ := PyProof.Rows.sortedHeap_at (vs := acc.toList) (out := out.toArray) hoL
    have hlen : ((srt zs).map (·.1)).length ≤ sizeLine := by
      unfold srt
      rw [List.length_map, List.length_mergeSort]
      omega
    refine wpAny_pure ⟨_, rfl, .ref h'.objs.size, upd H h'.objs.size (.lst ((srt zs).map (·.1))), I1.laid (t' := tk) (fun b u e => ?_) (Nat.le_refl _)
      (show ObjOk X.prog X.w _ _ _ (.lst ((srt zs).map (·.1))) from ⟨hlen, out, e', vals_each eo, he'⟩), rfl, q _ (I1.hok.fresh (Nat.le_refl _))⟩
    have hb : b < h'.objs.size := Heap.lt_size e
    rw [PyProof.Rows.sortedHeap_old (Nat.ne_of_lt hb) (by rw [size_push']; exact Nat.lt_succ_of_lt hb)]
    exact Heap.get?_push_of_some _ e
end
/-! ### denotations -/
def sortable (ds : List PyData) : Bool := (ds.all fun d => ds.all fun e => PySem.W.alike d e) && ((ds.all fun d => match d with | .tuple (_ :: _) => true | _ => false) || ds.all fun d => match d with | .none => false | .tuple _ => false | _ => true) && ds.all fun d => decide (d.depth ≤ 16)
def sortD (ds : List PyData) : List PyData := ds.mergeSort (PySem.W.dataLe false fun d => d)
theorem sortable_ok {ds : List PyData} (h : sortable ds = true) : PySem.W.AllAlike ds ∧ PySem.W.Sortable ds ∧ ∀ d ∈ ds, d.depth ≤ 16 := by
  unfold sortable at h
  rw [Bool.and_eq_true, Bool.and_eq_true, Bool.or_eq_true] at h
  obtain ⟨⟨h1, h2⟩, h3⟩ := h
  refine ⟨fun d hd e he => List.all_eq_true.mp (List.all_eq_true.mp h1 d hd) e he, ?_, fun d hd => by simpa using List.all_eq_true.mp h3 d hd⟩
  rcases h2 with h2 | h2
  · refine .inl fun d hd => ?_
    have := List.all_eq_true.mp h2 d hd
    cases d with
    | tuple xs =>
      cases xs with
      | nil => simp at this
      | cons x r => exact ⟨x, r, rfl⟩
    | _ => simp at this
  · refine .inr fun d hd => ?_
    have := List.all_eq_true.mp h2 d hd
    cases d with
    | none => simp at this
    | tuple xs => simp at this
    | _ => exact And.intro (fun z => by cases z) (fun xs z => by cases z)
/-- sorting pairs by their data: the data come sorted -/
theorem srt_data (bs : List (V × PyData)) : (srt bs).map (·.2) = sortD (bs.map (·.2)) := by
  unfold srt sortD
  rw [List.map_mergeSort (r := fun a b => PySem.W.dataLe false (fun b : V × PyData => b.2) a b) (s := fun a b => PySem.W.dataLe false (fun d : PyData => d) a b)]
  intro a _ b _
  rfl
theorem DDs.zip {F : Hp} : ∀ {ds : List PyData} {vs : List V}, DDs F vs ds → ((vs.zip ds).map (·.1) = vs ∧ (vs.zip ds).map (·.2) = ds ∧ ∀ b ∈ vs.zip ds, DD F b.1 b.2)
  | [], _, .nil => ⟨rfl, rfl, fun _ h => by cases h⟩
  | d :: ds, v :: vs, .cons h r => by
    obtain ⟨a, b, c⟩ := DDs.zip r
    refine ⟨by simp only [List.zip_cons_cons, List.map_cons, a], by simp only [List.zip_cons_cons, List.map_cons, b], fun x hx => ?_⟩
    rw [List.zip_cons_cons] at hx
    rcases List.mem_cons.mp hx with rfl | hx
    · exact h
    · exact c x hx
theorem DDs.unzip {F : Hp} : ∀ {bs : List (V × PyData)}, (∀ b ∈ bs, DD F b.1 b.2) → DDs F (bs.map (·.1)) (bs.map (·.2))
  | [], _ => .nil
  | b :: bs, h => .cons (h b List.mem_cons_self) (DDs.unzip fun x hx => h x (List.mem_cons_of_mem _ hx))
theorem srt_DDs {F : Hp} {bs : List (V × PyData)} (h : ∀ b ∈ bs, DD F b.1 b.2) : DDs F ((srt bs).map (·.1)) (sortD (bs.map (·.2))) := by
  rw [← srt_data]
  exact DDs.unzip fun b hb => h b (by unfold srt at hb; exact (List.mem_mergeSort.mp hb))
def biSorted : List PyData → Rs R
  | [.list ds] => if (sortable ds && decide (ds.length ≤ lim)) = true then .ok (.own (sortD ds)) else .bad
  | _ => .bad
section
variable {X : Cx} {W : WX} {e : Expr} {es : List Expr} {t : TA} {fr : Ev → Rs (List PyData)} {p pos : Pos} (K : PySem.W.Frag)
theorem ek_sorted (hu : X.A.units + 64 < cLine) (hm : X.mg "sorted" = none) (ha : ED X W (e :: es) t fr) (hg : Gl X "sorted" := by rfl)
    (he : starEach (e :: es) X.env = (false, eval e X.env) :: starEach es X.env := by rfl) (hpl : (backTo pos (starEach es X.env)).any (·.1) = false := by rfl) (hK : X.K = K := by rfl) :
    EE X W (.Call (.Name "sorted" p) (e :: es) [] pos) (tCB (rSortedA K) t) (fBi biSorted fr) := by
  subst hK
  refine ee_callB (cr_sortedA hu) (fun {σ F H Q vs ds} s r P => ?_) hm (by decide +kernel) ha hg (by decide) (by decide) he hpl
  match ds, r with
  | [], .nil => exact P.elim
  | [_], .cons h .nil =>
    unfold biSorted at P
    cases h with
    | @lst p xs ds h r =>
      dsimp only at P
      split at P
      · rename_i hc
        rw [Bool.and_eq_true, decide_eq_true_eq] at hc
        obtain ⟨a1, a2, a3⟩ := sortable_ok hc.1
        obtain ⟨z1, z2, z3⟩ := r.zip
        refine ⟨p, xs.zip ds, rfl, by rw [z1]; exact SqL.of (s _ _ h), fun b hb => DD.dp s _ _ (z3 b hb), by rw [z2]; exact a1, by rw [z2]; exact a2, fun b hb => a3 b.2 ?_, ?_, ?_⟩
        · rw [← z2]
          exact List.mem_map.mpr ⟨b, hb, rfl⟩
        · have := congrArg List.length z2
          rw [List.length_map] at this
          rw [this]
          exact Nat.le_trans hc.2 lim_le
        · have q := srt_DDs z3
          rw [z2] at q
          exact new_lst s q P
      · exact P.elim
    | _ => exact P.elim
  | _ :: _ :: _, .cons h (.cons _ _) => cases h <;> exact P.elim
end
/-! ### dicts with tuple keys -/
def asKey : PyData → Option Key
  | .int i => some (.inl i)
  | .str x => some (.inr x)
  | _ => none
def asKeys : List PyData → Option (List Key)
  | [] => some []
  | d :: ds => match asKey d, asKeys ds with
    | some k, some ks => some (k :: ks)
    | _, _ => none
def asTup : PyData → Option (List Key)
  | .tuple ds => asKeys ds
  | _ => none
theorem asKeys_ok {F : Hp} : ∀ {ds : List PyData} {vs : List V} {ks : List Key}, DDs F vs ds → asKeys ds = some ks → vs = ks.map kV ∧ ds = ks.map keyD
  | [], _, _, .nil, h => by cases h; exact ⟨rfl, rfl⟩
  | d :: ds, _, ks, .cons r t, h => by
    unfold asKeys at h
    cases h1 : asKey d with
    | none => rw [h1] at h; cases h
    | some k =>
      cases h2 : asKeys ds with
      | none => rw [h1, h2] at h; cases h
      | some ks' =>
        rw [h1, h2] at h
        cases h
        obtain ⟨a, b⟩ := asKeys_ok t h2
        subst a b
        cases r with
        | int i => cases h1; exact ⟨rfl, rfl⟩
        | str x => cases h1; exact ⟨rfl, rfl⟩
        | _ => cases h1
theorem asTup_ok {F : Hp} {v : V} {d : PyData} {k : List Key} (r : DD F v d) (h : asTup d = some k) : ∃ b, v = .ref b ∧ F b = some (.tup (k.map kV)) := by
  cases r with
  | @tup a xs ds hF r =>
    have h : asKeys ds = some k := h
    obtain ⟨e, _⟩ := asKeys_ok r h
    subst e
    exact ⟨a, rfl, hF⟩
  | _ => cases h
section
variable {κ : Type} [DecidableEq κ]
def valP (kvs : List (κ × PyData)) (k : κ) : Option PyData := (kvs.find? fun kv => decide (kv.1 = k)).map (·.2)
def putP (kvs : List (κ × PyData)) (k : κ) (v : PyData) : List (κ × PyData) :=
  if (kvs.any fun kv => decide (kv.1 = k)) = true then kvs.map (fun kv => if kv.1 = k then (kv.1, v) else kv) else kvs ++ [(k, v)]
theorem KD.val {F : Hp} {k : κ} : ∀ {ws : List (κ × V)} {kvs : List (κ × PyData)}, KD F ws kvs → (valV ws k = none ∧ valP kvs k = none) ∨ ∃ v d, valV ws k = some v ∧ valP kvs k = some d ∧ DD F v d
  | _, _, .nil => .inl ⟨rfl, rfl⟩
  | w :: ws, kv :: kvs, .cons r t => by
    obtain ⟨e, h⟩ := r
    unfold valV valP
    by_cases hk : w.1 = k
    · refine .inr ⟨w.2, kv.2, ?_, ?_, h⟩
      · rw [List.find?_cons_of_pos (by simpa using hk)]; rfl
      · rw [List.find?_cons_of_pos (by simpa [← e] using hk)]; rfl
    · rw [List.find?_cons_of_neg (by simpa using hk), List.find?_cons_of_neg (by simpa [← e] using hk)]
      exact KD.val (k := k) t
theorem KD.any {F : Hp} {k : κ} : ∀ {ws : List (κ × V)} {kvs : List (κ × PyData)}, KD F ws kvs → (ws.any fun kv => decide (kv.1 = k)) = kvs.any fun kv => decide (kv.1 = k)
  | _, _, .nil => rfl
  | w :: ws, kv :: kvs, .cons r t => by
    rw [List.any_cons, List.any_cons, KD.any t, r.1]
theorem KD.app {F : Hp} {w : κ × V} {q : κ × PyData} (h : w.1 = q.1 ∧ DD F w.2 q.2) : ∀ {ws : List (κ × V)} {kvs : List (κ × PyData)}, KD F ws kvs → KD F (ws ++ [w]) (kvs ++ [q])
  | _, _, .nil => .cons h .nil
  | _ :: _, _ :: _, .cons r t => .cons r (KD.app h t)
theorem KD.mapPut {F : Hp} {k : κ} {v : V} {d : PyData} (h : DD F v d) : ∀ {ws : List (κ × V)} {kvs : List (κ × PyData)}, KD F ws kvs → KD F (ws.map fun kv => if kv.1 = k then (kv.1, v) else kv) (kvs.map fun kv => if kv.1 = k then (kv.1, d) else kv)
  | _, _, .nil => .nil
  | w :: ws, q :: kvs, .cons r t => by
    rw [List.map_cons, List.map_cons]
    refine .cons ?_ (KD.mapPut h t)
    by_cases hk : w.1 = k
    · rw [if_pos hk, if_pos (r.1 ▸ hk)]
      exact ⟨r.1, h⟩
    · rw [if_neg hk, if_neg (r.1 ▸ hk)]
      exact r
theorem KD.put {F : Hp} {k : κ} {v : V} {d : PyData} (h : DD F v d) {ws : List (κ × V)} {kvs : List (κ × PyData)} (r : KD F ws kvs) : KD F (putK ws k v) (putP kvs k d) := by
  unfold putK putP
  rw [KD.any r]
  split
  · exact KD.mapPut h r
  · exact KD.app ⟨rfl, h⟩ r
end
theorem KD.len {κ : Type} {F : Hp} : ∀ {ws : List (κ × V)} {kvs : List (κ × PyData)}, KD F ws kvs → ws.length = kvs.length
  | _, _, .nil => rfl
  | _ :: _, _ :: _, .cons _ t => congrArg (· + 1) (KD.len t)
theorem KD.keys {κ : Type} {F : Hp} : ∀ {ws : List (κ × V)} {kvs : List (κ × PyData)}, KD F ws kvs → ws.map (·.1) = kvs.map (·.1)
  | _, _, .nil => rfl
  | _ :: _, _ :: _, .cons r t => by rw [List.map_cons, List.map_cons, r.1, KD.keys t]
section
variable {X : Cx} {W : WX} {a b e f : Expr} {ta tb te tf : TE} {fa fb fe ff : Ev → Rs R} {pos p : Pos}
@[simp] def fDnewT : Ev → Rs R := fun _ => .ok (.dct [])
theorem ee_dnewT : EE X W (.Dict [] [] pos) tDNewT fDnewT where
  pe := pe_dnewT
  sound := fun {G H0 ρ σ F H} rel Q P => fun p np => P _ _ _ (Ext.addH rel.sub np) ⟨⟨p, [], rfl, upd_same, rel.sub.free np, .nil⟩, fun _ q e => by cases e; exact np⟩
/-- key in d -/
@[simp] def fDinT (i : Nat) (fa : Ev → Rs R) : Ev → Rs R := fun ρ => (fa ρ).bind fun r => r.d.bind fun x => match ρ[i]?, asTup x with
  | some (some (.dct kvs)), some k => .ok (.val (.bool (valP kvs k).isSome))
  | _, _ => .bad
@[simp] def fDNinT (i : Nat) (fa : Ev → Rs R) : Ev → Rs R := fun ρ => (fa ρ).bind fun r => r.d.bind fun x => match ρ[i]?, asTup x with
  | some (some (.dct kvs)), some k => .ok (.val (.bool (!(valP kvs k).isSome)))
  | _, _ => .bad
theorem KD.isSome {κ : Type} [DecidableEq κ] {F : Hp} {k : κ} {ws : List (κ × V)} {kvs : List (κ × PyData)} (r : KD F ws kvs) : (valV ws k).isSome = (valP kvs k).isSome := by
  rcases KD.val (k := k) r with ⟨h1, h2⟩ | ⟨v, d, h1, h2, _⟩ <;> rw [h1, h2] <;> rfl
theorem et_ofB {e : Expr} {te : TE} {f : Ev → Rs R} (hp : PT X e (tB te)) (h : EE X W e te f) : ET X W e (tB te) (fTest f) where
  pt := hp
  sound := fun rel Q P => h.sound rel _ (postB_data P fun d v F1 H1 e1 r1 P1 => by
    cases r1 <;> first
      | exact ⟨_, rfl, P1 _ _ (Ext.refl e1.sub)⟩
      | exact P1.elim)
section
variable (i : Nat) {x : Str} {p2 : Pos} (hu : X.A.units + 1 < cLine) (ha : EE X W a ta fa)
  (hN : X.N[i]? = some x := by rfl) (hv : Vis X.env.scope x := by first | exact Or.inl rfl | exact Or.inr (Or.inl rfl) | exact Or.inr (Or.inr rfl)) (hd : (x == ("__debug__" : Str)) = false := by decide) (hcd : (x == ("__classdict__" : Str)) = false := by decide)
include hu ha hN hv hd hcd
theorem ee_dinT (hm : behindInMarks .In (.Name x p2) = false := by rfl) : EE X W (.Compare a [.In] [.Name x p2] pos) (tDIn ta (tVar i)) (fDinT i fa) where
  pe := pe_cmp (pc_din hu ha.pe (pe_var hN hv hd hcd)) hm
  sound := fun {G H0 ρ σ F H} rel Q P => ha.sound rel _ (post_data P fun d v F1 H1 e1 r1 P1 => by
    split at P1
    · rename_i kvs k h hk
      obtain ⟨w, hw, p, ws, rfl, q1, q2, q3⟩ := (rel.step e1).at_ i _ h
      obtain ⟨b, rfl, hb⟩ := asTup_ok r1 hk
      refine ⟨_, hw, p, _, rfl, DGet.t q1 (e1.sub _ _ hb), ?_⟩
      rw [KD.isSome q3]
      exact post_flat e1.sub (.bl _) P1
    · exact P1.elim)
theorem ee_dNinT (hm : behindInMarks .NotIn (.Name x p2) = false := by rfl) : EE X W (.Compare a [.NotIn] [.Name x p2] pos) (tDNotIn ta (tVar i)) (fDNinT i fa) where
  pe := pe_cmp (pc_dnotin hu ha.pe (pe_var hN hv hd hcd)) hm
  sound := fun {G H0 ρ σ F H} rel Q P => ha.sound rel _ (post_data P fun d v F1 H1 e1 r1 P1 => by
    split at P1
    · rename_i kvs k h hk
      obtain ⟨w, hw, p, ws, rfl, q1, q2, q3⟩ := (rel.step e1).at_ i _ h
      obtain ⟨b, rfl, hb⟩ := asTup_ok r1 hk
      refine ⟨_, hw, p, _, rfl, DGet.t q1 (e1.sub _ _ hb), ?_⟩
      rw [KD.isSome q3]
      exact post_flat e1.sub (.bl _) P1
    · exact P1.elim)
theorem et_dinT (hm : behindInMarks .In (.Name x p2) = false := by rfl) : ET X W (.Compare a [.In] [.Name x p2] pos) (tB (tDIn ta (tVar i))) (fTest (fDinT i fa)) :=
  et_ofB (pt_cmp (pc_din hu ha.pe (pe_var hN hv hd hcd)) hm) (ee_dinT i hu ha hN hv hd hcd hm)
theorem et_dNinT (hm : behindInMarks .NotIn (.Name x p2) = false := by rfl) : ET X W (.Compare a [.NotIn] [.Name x p2] pos) (tB (tDNotIn ta (tVar i))) (fTest (fDNinT i fa)) :=
  et_ofB (pt_cmp (pc_dnotin hu ha.pe (pe_var hN hv hd hcd)) hm) (ee_dNinT i hu ha hN hv hd hcd hm)
/-- d[k] -/
@[simp] def fDgetT (i : Nat) (fa : Ev → Rs R) : Ev → Rs R := fun ρ => match ρ[i]? with
  | some (some (.dct kvs)) => (fa ρ).bind fun r => r.d.bind fun x => match asTup x with
    | some k => match valP kvs k with
      | some d => .ok (.val d)
      | none => .bad
    | none => .bad
  | _ => .bad
theorem ee_dgetT (hs : NoSl a := by exact fun _ _ => rfl) : EE X W (.Subscript (.Name x p2) a pos) (tDGet (tVar i) ta) (fDgetT i fa) where
  pe := pe_dget hu (pe_var hN hv hd hcd) ha.pe hs
  sound := fun {G H0 ρ σ F H} rel Q P => by
    unfold fDgetT at P
    split at P
    · rename_i kvs h
      obtain ⟨w, hw, p, ws, rfl, q1, q2, q3⟩ := rel.at_ i _ h
      refine ⟨_, hw, ha.sound rel _ (post_data P fun d v F1 H1 e1 r1 P1 => ?_)⟩
      split at P1
      · rename_i k hk
        obtain ⟨b, rfl, hb⟩ := asTup_ok r1 hk
        have q3' := KD.mono e1.ff q3
        rcases KD.val (k := k) q3' with ⟨_, h2⟩ | ⟨u, y, h1, h2, h3⟩
        · rw [h2] at P1; exact P1.elim
        · rw [h2] at P1
          refine ⟨p, u, rfl, ?_, post_flat e1.sub h3 P1⟩
          rw [← h1]
          exact DGet.t (e1.hh _ _ q1) (e1.sub _ _ hb)
      · exact P1.elim
    · exact P.elim
/-- d.get(k, default) -/
@[simp] def fDget2T (i : Nat) (fa fe : Ev → Rs R) : Ev → Rs R := fun ρ => match ρ[i]? with
  | some (some (.dct kvs)) => (fa ρ).bind fun r => r.d.bind fun x => (fe ρ).bind fun r2 => r2.d.bind fun y => match asTup x with
    | some k => .ok (.val ((valP kvs k).getD y))
    | none => .bad
  | _ => .bad
theorem ee_dget2T {apos : Pos} (he : EE X W e te fe) (m : M2 X (.Name x p2) "get" apos a e pos := by exact ⟨rfl, rfl, rfl, rfl⟩) : EE X W (.Call (.Attribute (.Name x p2) "get" apos) [a, e] [] pos) (tDGet2 (tVar i) ta te) (fDget2T i fa fe) where
  pe := pe_dget2 hu (pe_var hN hv hd hcd) ha.pe he.pe m
  sound := fun {G H0 ρ σ F H} rel Q P => by
    unfold fDget2T at P
    split at P
    · rename_i kvs h
      obtain ⟨w, hw, p, ws, rfl, q1, q2, q3⟩ := rel.at_ i _ h
      refine ⟨_, hw, p, rfl, .inr ⟨ws, .inl q1⟩, ha.sound rel _ (post_data P fun d v F1 H1 e1 r1 P1 => ?_)⟩
      refine he.sound (rel.step e1) _ (post_data P1 fun d2 v2 F2 H2 e2 r2 P2 => ?_)
      split at P2
      · rename_i k hk
        obtain ⟨b, rfl, hb⟩ := asTup_ok r1 hk
        have q3' := KD.mono (e1.ff.trans e2.ff) q3
        refine ⟨valV ws k, DGet.t (e2.hh _ _ (e1.hh _ _ q1)) (e2.hh _ _ (e1.sub _ _ hb)), ?_⟩
        rcases KD.val (k := k) q3' with ⟨h1, h2⟩ | ⟨u, y, h1, h2, h3⟩
        · rw [h1]; rw [h2] at P2
          exact post_flat e2.sub r2 P2
        · rw [h1]; rw [h2] at P2
          exact post_flat e2.sub h3 P2
      · exact P2.elim
    · exact P.elim
/-- d[k] = v -/
@[simp] def gDputT (i : Nat) (fa fe : Ev → Rs R) : Ev → RO := fun ρ => onR ρ ((fe ρ).bind R.d) fun v => match ρ[i]? with
  | some (some (.dct kvs)) => onR ρ ((fa ρ).bind R.d) fun x => match asTup x with
    | some k => if kvs.length < lim then .nx (ρ.set i (some (.dct (putP kvs k v)))) else .bad
    | none => .bad
  | _ => .bad
theorem es_dputT {tpos : Pos} (he : EE X W e te fe) (hsw : swapsWith e (some (.Subscript (.Name x p2) a tpos)) pos.line X.env = pure false := by rfl) : ES X W (.Assign [.Subscript (.Name x p2) a tpos] e pos) (sDPut (tVar i) ta te) (gDputT i fa fe) where
  ps := ps_dput hu (pe_var hN hv hd hcd) ha.pe he.pe hsw
  sound := fun {G H0 ρ σ F H} rel D P => he.sound rel _ (postS_data rel P fun d v F1 H1 e1 r1 P1 => by
    split at P1
    · rename_i kvs h
      have rel1 := rel.step e1
      obtain ⟨w, hw, p, ws, rfl, q1, q2, q3⟩ := rel1.at_ i _ h
      refine ⟨_, hw, ha.sound rel1 _ (postS_data rel1 P1 fun d2 v2 F2 H2 e2 r2 P2 => ?_)⟩
      split at P2
      · rename_i k hk
        obtain ⟨b, rfl, hb⟩ := asTup_ok r2 hk
        split at P2
        · rename_i hl
          have q3' := KD.mono e2.ff q3
          refine ⟨p, _, rfl, DPut.t (e2.hh _ _ q1) (e2.sub _ _ hb) (by rw [KD.len q3']; exact Nat.lt_trans hl lim_lt), P2 _ _ _ ((rel1.step e2).mut h rfl hw (e2.own q1 q2) ⟨p, _, rfl, upd_same, e2.own q1 q2, KD.put (DD.mono e2.ff _ _ r1) q3'⟩ rfl)⟩
        · exact P2.elim
      · exact P2.elim
    · exact P1.elim)
end
/-- sorted(d) -/
@[simp] def fSortedDT (i : Nat) : Ev → Rs R := fun ρ => match ρ[i]? with
  | some (some (.dct kvs)) => if sortable (kvs.map fun kv => kTup kv.1) = true then .ok (.own (sortD (kvs.map fun kv => kTup kv.1))) else .bad
  | _ => .bad
theorem keys_DD {K : PySem.W.Frag} {F : Hp} : ∀ {ws : List (List Key × V)} {bs : List Addr}, Paired (fun (p : List Key × V) (b : Addr) => F b = some (.tup (p.1.map kV))) ws bs → ∀ b ∈ (bs.map V.ref).zip (ws.map fun kv => kTup kv.1), DD F b.1 b.2
  | _, _, .nil => fun _ h => by cases h
  | w :: ws, b :: bs, .cons h t => fun x hx => by
    rw [List.map_cons, List.map_cons, List.zip_cons_cons] at hx
    rcases List.mem_cons.mp hx with rfl | hx
    · have key : ∀ ks : List Key, DDs F (ks.map kV) (ks.map keyD) := fun ks => by
        induction ks with
        | nil => exact .nil
        | cons k ks ih =>
          refine .cons ?_ ih
          cases k with
          | inl i => exact .int i
          | inr x => exact .str x
      exact .tup h (key w.1)
    · exact keys_DD (K := K) t x hx
/-- what stays, with the tuples at these places -/
def addTups (F H : Hp) (bs : List Addr) : Hp := fun a => match F a with
  | some o => some o
  | none => if a ∈ bs then (match H a with | some (.tup xs) => some (.tup xs) | _ => none) else none
theorem addTups_ext {F H : Hp} (s : Same F H) (bs : List Addr) : Ext F H (addTups F H bs) H where
  old := s
  ff := fun a o e => by unfold addTups; rw [e]
  hh := Same.refl _
  sub := fun a o e => by
    unfold addTups at e
    split at e
    · rename_i o' h; cases e; exact s _ _ h
    · split at e
      · split at e
        · rename_i xs h; cases e; exact h
        · cases e
      · cases e
  new := fun a q => by
    unfold addTups at q
    split at q
    · rename_i o' h; exact .inl (by rw [h]; exact fun z => nomatch z)
    · split at q
      · split at q
        · rename_i xs h
          exact .inr fun o e => by rw [h] at e; cases e; exact ⟨xs, rfl⟩
        · exact absurd rfl q
      · exact absurd rfl q
theorem addTups_at {F H : Hp} (s : Same F H) {bs : List Addr} {b : Addr} {xs : List V} (hb : b ∈ bs) (h : H b = some (.tup xs)) : addTups F H bs b = some (.tup xs) := by
  unfold addTups
  cases hF : F b with
  | some o =>
    have := s _ _ hF
    rw [h] at this
    cases this
    rfl
  | none => simp only [if_pos hb, h]
theorem isKeys_add {F H : Hp} (s : Same F H) : ∀ {ws : List (List Key × V)} {bs cs : List Addr}, (∀ b ∈ bs, b ∈ cs) → IsKeys H ws bs → Paired (fun (p : List Key × V) (b : Addr) => addTups F H cs b = some (.tup (p.1.map kV))) ws bs
  | _, _, _, _, .nil => .nil
  | w :: ws, b :: bs, cs, hs, .cons h t => .cons (addTups_at s (hs b List.mem_cons_self) h) (isKeys_add s (fun x hx => hs x (List.mem_cons_of_mem _ hx)) t)
theorem ee_sortedDT (i : Nat) {x : Str} {p2 : Pos} (hu : X.A.units + 64 < cLine) (hm : X.mg "sorted" = none) (hN : X.N[i]? = some x := by rfl) (hv : Vis X.env.scope x := by first | exact Or.inl rfl | exact Or.inr (Or.inl rfl) | exact Or.inr (Or.inr rfl)) (hd : (x == ("__debug__" : Str)) = false := by decide) (hcd : (x == ("__classdict__" : Str)) = false := by decide)
    (hg : Gl X "sorted" := by rfl) (hc : X.calm = true := by rfl) (he : starEach [.Name x p2] X.env = (false, eval (.Name x p2) X.env) :: starEach [] X.env := by rfl) (hpl : (backTo pos (starEach [] X.env)).any (·.1) = false := by rfl) :
    EE X W (.Call (.Name "sorted" p) [.Name x p2] [] pos) (tCB rSortedDT (tCons (tVar i) tNil)) (fSortedDT i) where
  pe := pe_callB (cr_sortedDT hc hu) hg hm (by decide +kernel) (pa_cons (pe_var hN hv hd hcd) pa_nil he) (by decide) (by decide) he hpl
  sound := fun {G H0 ρ σ F H} rel Q P => by
    unfold fSortedDT at P
    split at P
    · rename_i kvs h
      split at P
      · rename_i hc
        obtain ⟨w, hw, p, ws, rfl, q1, q2, q3⟩ := rel.at_ i _ h
        have ek : (ws.map fun kv => kTup kv.1) = kvs.map fun kv => kTup kv.1 := by
          have := congrArg (List.map kTup) (KD.keys q3)
          rw [List.map_map, List.map_map] at this
          exact this
        obtain ⟨a1, a2, a3⟩ := sortable_ok hc
        refine ⟨_, hw, p, ws, rfl, q1, by rw [ek]; exact a1, by rw [ek]; exact a2, fun l bs nl isk => ?_⟩
        have ex := addTups_ext rel.sub bs
        have dd := srt_DDs (keys_DD (K := X.K) (isKeys_add rel.sub (fun _ q => q) isk))
        rw [(keys_zip (K := X.K) isk).2.1, ek] at dd
        rw [ek] at *
        have nl' : H l = none := nl
        exact P _ _ _ (ex.trans (Ext.addH ex.sub nl')) ⟨⟨l, _, rfl, upd_same, ex.sub.free nl', dd⟩, fun _ q e => by cases e; exact nl'⟩
      · exact P.elim
    · exact P.elim
end
end DN
/-! Den14: sorted(set(xs)), len(set(xs)) of ints; list(range(n)); lists of ours: membership, stores. -/
namespace DN
open PySem PySem.Spec PyProof.Rows L2
abbrev noneYet (w : World) : Obj := { cls := .type "set", dict := none, data := .set #[] 0 (.fresh 0 0 (!w.params.followText "set-order")) }
section
variable {P : Program} {w : World} {A : Around} {E : Value → Shared → Prop} {s : Shared}
set_option maxRecDepth 100000 in
set_option maxHeartbeats 3200000 in
/-- set(xs), xs a list of ints -/
theorem set_of_list {l : Addr} {its : Array Value} (ns : List Int) {Q : Value → Shared → Prop} (nh : A.handled = none) (isl : s.heap.IsList l its) (iA : IntsAre its.toList ns) (small : ns.length + 1 < scanBound)
    (fin : ∀ (g : Heap) (tk c : Nat), SetR w g s.heap.objs.size (fun j => decide (j ∈ ns)) c → c ≤ ns.length → (∀ b o, s.heap.get? b = some o → g.get? b = some o) → Q (.ref s.heap.objs.size) { s with heap := g, toks := tk }) :
    wpAny (model P w) A (call (.type "set") [.ref l]) Q E s := by
  have isz : its.size = ns.length := by
    have q := IntsAre.length iA
    rw [Array.length_toList] at q
    exact q
  obtain ⟨c, tl, m1⟩ := F.called_set.mro
  have m2 := F.called_set.made
  have m3 := F.called_set.sub
  refine wpAny_call (codeAny_of_tree ?_)
  show wpAny _ A.in1 (callAny (.type "set") _) _ _ s
  refine wpAny_pure ⟨Code.quiet_builtin _ (by decide +kernel), codeAny_builtin F.entry_type_call ?_⟩ <;> skip
  rw [Around.under_plain (weight_type_call_type "set" [.ref l] []) rfl] <;> skip
  have m4 := F.called_set.notType
  have m5 := F.called_set.canCreate
  have m6 := F.typeCall_set_1 (.ref l)
  (repeat (any_goals (first | assumption | wp_step)))
  refine codeAny_mono (code_set_led1 (.ref l) (E := E) (Q₁ := fun obj s₁ => obj = .ref s.heap.objs.size ∧ s₁ = { s with heap := s.heap.push (noneYet w) }) ⟨rfl, rfl⟩) fun r s₁ hr => ?_
  cases r with
  | error e => exact hr
  | ok fl =>
    cases fl with
    | ret obj =>
      obtain ⟨rfl, rfl⟩ := hr
      have hS : (s.heap.push (noneYet w)).get? s.heap.objs.size = some (noneYet w) := Heap.get?_push_size _ rfl
      have hT : Shared.TypeIs { s with heap := s.heap.push (noneYet w) } (.ref s.heap.objs.size) "set" := ⟨_, hS, rfl⟩
      have m7 := F.called_set.init.lookup
      have m8 := F.called_set.init.bind (.ref s.heap.objs.size)
      (repeat (any_goals (first | assumption | wp_step)))
      refine codeAny_mono (codeAny_call_builtin (R := wants (fun r t => r = .none ∧ ∃ g tk c, t = { s with heap := g, toks := tk } ∧ SetR w g s.heap.objs.size (fun j => decide (j ∈ ns)) c ∧ c ≤ ns.length ∧ ∀ b o, s.heap.get? b = some o → g.get? b = some o) E) F.called_set.init.plain F.entry_set_init (check_set_init_1 hT ?_)) fun r2 s2 hr2 => ?_
      · obtain ⟨ol, hol, hcl, nl, hdl⟩ := isl
        obtain ⟨oc, od, oda, osl⟩ := ol
        simp only at hcl hdl
        subst hcl; subst hdl
        have at1 : (s.heap.push (noneYet w)).get? l = some { cls := .type "list", dict := od, data := .seq its nl, slots := osl } := Heap.get?_push_of_some _ hol
        have n1 := F.sub_list_set
        have n2 := F.sub_list_frozenset
        have n3 : (Value.type "list" == Value.type "dict") = false := rfl
        have l1 : (s.heap.push (noneYet w)).IsList l its := ⟨_, at1, rfl, nl, rfl⟩
        unfold Builtin.«set.__init__» noKeywords <;> unfold Builtin.Frozenset.updateFrom
        generalize hPI : pyIter = PI
        wp_walk
        subst hPI
        refine wpAny_pyIter_list l1 (wpAny_bind (wpAny_runValue ?_))
        have lS : l < s.heap.objs.size := Heap.lt_size hol
        have nh3 : A.in1.in1.in1.handled = none := by simp [nh]
        have sz1 : (s.heap.push (noneYet w)).objs.size = s.heap.objs.size + 1 := Heap.size_push ..
        have ne1 : l ≠ (s.heap.push (noneYet w)).objs.size := by rw [sz1]; exact Nat.ne_of_lt (Nat.lt_succ_of_lt lS)
        have out1 : s.heap.objs.size ∉ [(s.heap.push (noneYet w)).objs.size, l] := by
          intro z
          rw [sz1] at z
          rcases List.mem_cons.mp z with z | z
          · exact absurd z (Nat.ne_of_lt (Nat.lt_succ_self _))
          · exact absurd (List.mem_singleton.mp z) (Nat.ne_of_gt lS)
        have each : ∀ (i : Nat) (v : Value), its[i]? = some v → ∃ k t, ns[i]? = some k ∧ v = .int k t := fun i v hv => by
          have hi : i < ns.length := by rw [← isz]; exact (Array.getElem?_eq_some_iff.mp hv).1
          obtain ⟨t, e⟩ := PyProof.Rows.IntsAre.int_at iA i v (by rw [Array.getElem?_toList] <;> exact hv)
          refine ⟨ns[i], t, List.getElem?_eq_getElem hi, ?_⟩ <;> rw [e, List.getD_eq_getElem?_getD, List.getElem?_eq_getElem hi] <;> rfl
        refine set_update_ints ((Walks.list nh3 _ l ne1 its).toS) s.heap.objs.size out1 ns isz small each (its.size - 0) 0 _ (by omega) (Nat.zero_le _) ⟨⟨_, Heap.get?_push_size _ rfl, rfl, rfl⟩, (l1.push _)⟩ ?S0 ?SR
        case S0 =>
          have at2 : ((s.heap.push (noneYet w)).push { cls := .type "list_iterator", data := .fields #[.ref l, .int 0 0] }).get? s.heap.objs.size = some (noneYet w) := Heap.get?_push_of_some _ hS
          exact ⟨0, Nat.le_refl 0, setR_new_at at2⟩
        case SR =>
          intro s' c' mv hc' hS'
          obtain ⟨g, g2, d', tk', os'⟩ := s'
          have eg : g2 = s.gens := mv.gens
          have ed : d' = s.drawn := mv.drawn
          have eo : os' = s.os := mv.os
          subst eg; subst ed; subst eo
          show wpAny _ _ _ _ _ _
          refine wpAny_pure ?_
          show wpAny _ _ (ret Value.none) _ _ _
          rw [isz] at hc'
          refine wpAny_pure ⟨rfl, g, tk', c', rfl, hS', hc', fun b o e => ?_⟩
          have hb0 : b < s.heap.objs.size := Heap.lt_size e
          refine mv.heap b o ?_ (Heap.get?_push_of_some _ (Heap.get?_push_of_some _ e))
          intro z
          rw [sz1] at z
          rcases List.mem_cons.mp z with z | z
          · exact absurd z (Nat.ne_of_lt hb0)
          · exact absurd (List.mem_singleton.mp z) (Nat.ne_of_lt (Nat.lt_succ_of_lt hb0))
      · cases r2 with
        | error e => exact hr2
        | ok fl2 =>
          cases fl2 with
          | ret r =>
            obtain ⟨rfl, g, tk, c', rfl, hS', hc', hk'⟩ := hr2
            (repeat (any_goals (first | assumption | wp_step)))
            exact fin _ _ _ hS' hc' hk'
          | _ => exact hr2.elim
    | _ => exact hr.elim
end
end DN
namespace DN
open PySem PySem.Spec PyProof.Rows L2
/-! ### denotations -/
/-- the members of a list of ints, ascending, each once -/
def sortU (ns : List Int) : List Int := (ns.mergeSort (fun a b => decide (a ≤ b))).eraseDups
theorem lt_unique : ∀ {xs ys : List Int}, xs.Pairwise (· < ·) → ys.Pairwise (· < ·) → (∀ k, k ∈ xs ↔ k ∈ ys) → xs = ys
  | [], [], _, _, _ => rfl
  | [], y :: ys, _, _, h => by have := (h y).mpr List.mem_cons_self; cases this
  | x :: xs, [], _, _, h => by have := (h x).mp List.mem_cons_self; cases this
  | x :: xs, y :: ys, h1, h2, h => by
    rw [List.pairwise_cons] at h1 h2
    have e : x = y := by
      rcases List.mem_cons.mp ((h x).mp List.mem_cons_self) with e | e
      · exact e
      · rcases List.mem_cons.mp ((h y).mpr List.mem_cons_self) with e2 | e2
        · exact e2.symm
        · have := h2.1 x e
          have := h1.1 y e2
          omega
    subst e
    congr 1
    refine lt_unique h1.2 h2.2 fun k => ⟨fun hk => ?_, fun hk => ?_⟩
    · rcases List.mem_cons.mp ((h k).mp (List.mem_cons_of_mem _ hk)) with e | e
      · subst e
        have := h1.1 k hk
        omega
      · exact e
    · rcases List.mem_cons.mp ((h k).mpr (List.mem_cons_of_mem _ hk)) with e | e
      · subst e
        have := h2.1 k hk
        omega
      · exact e
theorem eraseDups_lt : ∀ (n : Nat) (xs : List Int), xs.length ≤ n → xs.Pairwise (· ≤ ·) → xs.eraseDups.Pairwise (· < ·)
  | _, [], _, _ => by rw [List.eraseDups_nil]; exact .nil
  | 0, x :: xs, hn, _ => by simp at hn
  | n + 1, x :: xs, hn, h => by
    rw [List.eraseDups_cons, List.pairwise_cons]
    rw [List.pairwise_cons] at h
    refine ⟨fun y hy => ?_, ?_⟩
    · have hy := List.mem_eraseDups.mp hy
      rw [List.mem_filter] at hy
      have h1 := h.1 y hy.1
      have h2 : y ≠ x := by simpa using hy.2
      omega
    · refine eraseDups_lt n _ ?_ (h.2.filter _)
      have := List.length_filter_le (fun b => !b == x) xs
      simp at hn
      omega
theorem sortU_lt (ns : List Int) : (sortU ns).Pairwise (· < ·) := by
  unfold sortU
  refine eraseDups_lt _ _ (Nat.le_refl _) ?_
  have := List.pairwise_mergeSort (le := fun a b : Int => decide (a ≤ b)) (fun a b c h1 h2 => by simp at *; omega) (fun a b => by simp; omega) ns
  simpa using this
theorem mem_sortU (ns : List Int) (k : Int) : k ∈ sortU ns ↔ k ∈ ns := by
  unfold sortU
  rw [List.mem_eraseDups, List.mem_mergeSort]
section
variable {X : Cx}
def rSetOfI (K : PySem.W.Frag) (w : World) : List V → Hp → VK → Prop := fun xs H Q => ∃ (l : Addr) (ns : List Int), xs = [V.ref l] ∧ SqL K H l (ns.map V.int) ∧ ns.length ≤ 1000 ∧
  ∀ a, H a = none → Q (.ref a) (upd H a (SetO w a (fun j => decide (j ∈ ns)) (sortU ns).length))
theorem setR_len {w : World} {h : Heap} {a : Addr} {ns : List Int} {c : Nat} (R : SetR w h a (fun j => decide (j ∈ ns)) c) : c = (sortU ns).length := by
  obtain ⟨o, es, ep, t, ho, hex, hdt, g, nd, hm, hb, hf, hn, _⟩ := R
  have hm : ∀ k, k ∈ es.toList.map keyOf ↔ k ∈ sortU ns := fun k => by
    rw [← hm k, mem_sortU]
    simp
  have nd2 : (sortU ns).Nodup := (sortU_lt ns).imp fun {a b} h => by omega
  have h1 := List.Nodup.length_le_of_subset nd (l₂ := sortU ns) fun k hk => (hm k).mp hk
  have h2 := List.Nodup.length_le_of_subset nd2 (l₂ := es.toList.map keyOf) fun k hk => (hm k).mpr hk
  have e1 : (es.toList.map keyOf).length = c := by rw [List.length_map, Array.length_toList]; exact hn
  omega
theorem cr_setOfI (hc : X.calm = true) : CallR X (.type "set") (rSetOfI X.K X.w) := by
  intro pins s σ H xs us Q I r h
  obtain ⟨l, ns, rfl, hl, hn, q⟩ := h
  rw [Vals.ref1 r]
  obtain ⟨its, rv, pl, hz⟩ := I.list hl
  refine set_of_list ns (I.ok.hd hc) pl.isList (by simpa using rv.ints) (by unfold scanBound; omega) fun g tk c R hcn k => ?_
  have hc := setR_len R
  subst hc
  exact ⟨.ref s.heap.objs.size, upd H s.heap.objs.size (SetO X.w s.heap.objs.size (fun j => decide (j ∈ ns)) (sortU ns).length), I.laid (t' := tk) k (Nat.le_refl _) (setO_new R), rfl, q _ (I.hok.fresh (Nat.le_refl _))⟩
end
def setSortedD : PyData → Rs R
  | .list ds => match asIs ds with
    | some ns => if ns.length ≤ 1000 ∧ (sortU ns).length < 64 then .ok (.own ((sortU ns).map .int)) else .bad
    | none => .bad
  | _ => .bad
section
variable {X : Cx} {W : WX} {a e : Expr} {ta te : TE} {fa : Ev → Rs R} {pos p p2 q : Pos} (K : PySem.W.Frag) (w : World)
theorem ek_setSorted (hm : X.mg "sorted" = none) (hm2 : X.mg "set" = none) (ha : EE X W a ta fa) (hg : Gl X "sorted" := by rfl) (hg2 : Gl X "set" := by rfl) (hc : X.calm = true := by rfl)
    (na : starEach [a] X.env = (false, eval a X.env) :: starEach [] X.env := by rfl) (ns : starEach [.Call (.Name "set" p2) [a] [] q] X.env = (false, eval (.Call (.Name "set" p2) [a] [] q) X.env) :: starEach [] X.env := by rfl)
    (hpl : (backTo pos (starEach [] X.env)).any (·.1) = false := by rfl) (hpl2 : (backTo q (starEach [] X.env)).any (·.1) = false := by rfl) (hK : X.K = K := by rfl) (hw : X.w = w := by rfl) :
    EE X W (.Call (.Name "sorted" p) [.Call (.Name "set" p2) [a] [] q] [] pos) (tCB (rSortedSet w) (tCons (tCB (rSetOfI K w) (tCons ta tNil)) tNil)) (fUn setSortedD fa) := by
  subst hK hw
  refine ⟨pe_callB (cr_sortedSet hc) hg hm (by decide +kernel) (pa_cons (pe_callTy (cr_setOfI hc) hg2 hm2 (by decide +kernel) (pa_cons ha.pe pa_nil na) (by decide) (by decide) na hpl2) pa_nil ns) (by decide) (by decide) ns hpl, fun {G H0 ρ σ F H} rel Q P => ?_⟩
  refine ha.sound rel _ (post_data P fun d v F1 H1 e1 r1 P1 => ?_)
  unfold setSortedD at P1
  cases r1 with
  | @lst l xs ds hl r =>
    dsimp only at P1
    split at P1
    · rename_i ns hns
      split at P1
      · rename_i h64
        have := asIs_eq hns
        subst this
        have := r.ofInts
        subst this
        refine ⟨l, ns, rfl, SqL.of (e1.sub _ _ hl), h64.1, fun s hs => ?_⟩
        refine ⟨s, _, _, rfl, upd_same, h64.2, fun ys p hp hmem _ hn => ?_⟩
        have ey : ys = sortU ns := lt_unique hp (sortU_lt ns) fun k => by
          rw [hmem k, mem_sortU]
          simp
        subst ey
        have np : H1 p = none := by
          by_cases z : p = s
          · subst z; rw [upd_same] at hn; cases hn
          · rw [upd_ne z] at hn; exact hn
        have ex : Ext F1 H1 F1 (upd (upd H1 s (SetO X.w s (fun j => decide (j ∈ ns)) (sortU ns).length)) p (.lst ((sortU ns).map V.int))) := (Ext.addH e1.sub hs).trans (Ext.addH ((e1.sub).trans (same_new hs)) hn)
        exact P1 _ _ _ ex ⟨⟨p, _, rfl, upd_same, e1.sub.free np, DDs.ints _⟩, fun _ q e => by cases e; exact np⟩
      · exact P1.elim
    · exact P1.elim
  | _ => exact P1.elim
end
/-! ### in, over a list of ours -/
theorem post_thaw {K : PySem.W.Frag} {mg : Str → Option Value} {W : WX} {σ : L2.St} {F H : Hp} {Q : VK} {p : Addr} {vs : List V} {b : Bool} (hp : H p = some (.lst vs)) (hF : F p = none) (P : Post K mg W σ F H Q (.ok (.val (.bool b)))) : Post K mg W σ (upd F p (.lst vs)) H Q (.ok (.val (.bool b))) := by
  intro v F' H' e r
  have hr : DD F' v (.bool b) := r.1
  cases hr
  refine P (.bl b) (fun a => if a = p then none else F' a) H' ⟨?_, fun a o q => ?_, e.hh, fun a o q => ?_, fun a q => ?_⟩ ⟨.bl b, fun z => by cases z⟩
  · exact fun a o q => e.old a o (by rw [upd_ne (ne_of_none q hF)]; exact q)
  · have : a ≠ p := ne_of_none q hF
    show (if a = p then none else F' a) = some o
    rw [if_neg this]
    exact e.ff a o (by rw [upd_ne this]; exact q)
  · have q : (if a = p then none else F' a) = some o := q
    split at q
    · cases q
    · exact e.sub a o q
  · have q : (if a = p then none else F' a) ≠ none := q
    split at q
    · exact absurd rfl q
    · rename_i hne
      rcases e.new a q with z | z
      · rw [upd_ne hne] at z
        exact .inl z
      · exact .inr z
@[simp] def fOin (i : Nat) (fa : Ev → Rs R) : Ev → Rs R := fun ρ => (fa ρ).bind fun r => r.d.bind fun x => match ρ[i]? with
  | some (some (.own ds)) => opIn x (.list ds)
  | some (some (.val d)) => opIn x d
  | _ => .bad
@[simp] def fONin (i : Nat) (fa : Ev → Rs R) : Ev → Rs R := fun ρ => (fa ρ).bind fun r => r.d.bind fun x => match ρ[i]? with
  | some (some (.own ds)) => opNotIn x (.list ds)
  | some (some (.val d)) => opNotIn x d
  | _ => .bad
section
variable {X : Cx} {W : WX} {a : Expr} {ta : TE} {fa : Ev → Rs R} {pos : Pos} (K : PySem.W.Frag)
  (i : Nat) {x : Str} {p2 : Pos} (hu : X.A.units + 65 < cLine) (ha : EE X W a ta fa)
  (hN : X.N[i]? = some x := by rfl) (hv : Vis X.env.scope x := by first | exact Or.inl rfl | exact Or.inr (Or.inl rfl) | exact Or.inr (Or.inr rfl)) (hd : (x == ("__debug__" : Str)) = false := by decide) (hcd : (x == ("__classdict__" : Str)) = false := by decide)
include hu ha hN hv hd hcd
theorem ek_oin (hm : behindInMarks .In (.Name x p2) = false := by rfl) (hK : X.K = K := by rfl) : EE X W (.Compare a [.In] [.Name x p2] pos) (tOp (rInA K) ta (tVar i)) (fOin i fa) := by
  subst hK
  refine ⟨pe_cmpR (op_inA hu) ha.pe (pe_var hN hv hd hcd) hm, fun {G H0 ρ σ F H} rel Q P => ha.sound rel _ (post_data P fun d v F1 H1 e1 r1 P1 => ?_)⟩
  split at P1
  · rename_i ds h
    obtain ⟨w, hw, p, vs, rfl, q1, q2, q3⟩ := (rel.step e1).at_ i _ h
    have sm : Same F1 (upd F1 p (.lst vs)) := same_new q2
    have sb : Same (upd F1 p (.lst vs)) H1 := fun b o q => by
      by_cases z : b = p
      · subst z; rw [upd_same] at q; rw [q1]; exact q
      · rw [upd_ne z] at q; exact e1.sub _ _ q
    refine ⟨_, hw, od_in (W := W) (σ := σ) sb (DD.mono sm _ _ r1) (.lst upd_same (DDs.mono sm _ _ q3)) ?_⟩
    unfold opIn at P1 ⊢
    cases hi : inD d (.list ds) with
    | ok b => rw [hi] at P1; exact post_thaw q1 q2 P1
    | err c => rw [hi] at P1; exact P1
    | bad => rw [hi] at P1; exact P1.elim
  · rename_i e h
    obtain ⟨w, hw, q⟩ := (rel.step e1).at_ i _ h
    exact ⟨_, hw, od_in (W := W) (σ := σ) e1.sub r1 q P1⟩
  · exact P1.elim
theorem ek_oNin (hm : behindInMarks .NotIn (.Name x p2) = false := by rfl) (hK : X.K = K := by rfl) : EE X W (.Compare a [.NotIn] [.Name x p2] pos) (tOp (rNotInA K) ta (tVar i)) (fONin i fa) := by
  subst hK
  refine ⟨pe_cmpR (op_notInA hu) ha.pe (pe_var hN hv hd hcd) hm, fun {G H0 ρ σ F H} rel Q P => ha.sound rel _ (post_data P fun d v F1 H1 e1 r1 P1 => ?_)⟩
  split at P1
  · rename_i ds h
    obtain ⟨w, hw, p, vs, rfl, q1, q2, q3⟩ := (rel.step e1).at_ i _ h
    have sm : Same F1 (upd F1 p (.lst vs)) := same_new q2
    have sb : Same (upd F1 p (.lst vs)) H1 := fun b o q => by
      by_cases z : b = p
      · subst z; rw [upd_same] at q; rw [q1]; exact q
      · rw [upd_ne z] at q; exact e1.sub _ _ q
    refine ⟨_, hw, od_notIn (W := W) (σ := σ) sb (DD.mono sm _ _ r1) (.lst upd_same (DDs.mono sm _ _ q3)) ?_⟩
    unfold opNotIn at P1 ⊢
    cases hi : inD d (.list ds) with
    | ok b => rw [hi] at P1; exact post_thaw q1 q2 P1
    | err c => rw [hi] at P1; exact P1
    | bad => rw [hi] at P1; exact P1.elim
  · rename_i e h
    obtain ⟨w, hw, q⟩ := (rel.step e1).at_ i _ h
    exact ⟨_, hw, od_notIn (W := W) (σ := σ) e1.sub r1 q P1⟩
  · exact P1.elim
theorem tk_oin (hm : behindInMarks .In (.Name x p2) = false := by rfl) (hK : X.K = K := by rfl) : ET X W (.Compare a [.In] [.Name x p2] pos) (tTest (tOp (rInA K) ta (tVar i))) (fTest (fOin i fa)) := by
  subst hK
  exact et_of (pt_cmpR (op_inA hu) ha.pe (pe_var hN hv hd hcd) hm) (ek_oin _ i hu ha hN hv hd hcd hm rfl)
theorem tk_oNin (hm : behindInMarks .NotIn (.Name x p2) = false := by rfl) (hK : X.K = K := by rfl) : ET X W (.Compare a [.NotIn] [.Name x p2] pos) (tTest (tOp (rNotInA K) ta (tVar i))) (fTest (fONin i fa)) := by
  subst hK
  exact et_of (pt_cmpR (op_notInA hu) ha.pe (pe_var hN hv hd hcd) hm) (ek_oNin _ i hu ha hN hv hd hcd hm rfl)
end
/-! ### list(range(..)) -/
theorem rgV_DDs {F : Hp} (i j : Int) : DDs F (rgV i j) (rngD i (j - i).toNat) := by
  unfold rgV rngD
  generalize List.range (j - i).toNat = xs
  induction xs with
  | nil => exact .nil
  | cons x xs ih => exact .cons (.int _) ih
@[simp] def fListRange (fa : Ev → Rs R) : Ev → Rs R := fun ρ => (fa ρ).bind fun r => r.d.bind fun x => match x with
  | .int n => if n.natAbs ≤ 1000000 then .ok (.own (rngD 0 n.toNat)) else .bad
  | _ => .bad
theorem ee_listRange {X : Cx} {W : WX} {a : Expr} {ta : TE} {fa : Ev → Rs R} {pos p q p2 : Pos} (ha : EE X W a ta fa) (hm : X.mg "list" = none) (hm2 : X.mg "range" = none) (hg : Gl X "list" := by rfl) (hg2 : Gl X "range" := by rfl) (hc : X.calm = true := by rfl)
    (na : starEach [a] X.env = (false, eval a X.env) :: starEach [] X.env := by rfl) (nr : starEach [.Call (.Name "range" p2) [a] [] q] X.env = (false, eval (.Call (.Name "range" p2) [a] [] q) X.env) :: starEach [] X.env := by rfl) :
    EE X W (.Call (.Name "list" p) [.Call (.Name "range" p2) [a] [] q] [] pos) (tLstRg (tRg1 ta)) (fListRange fa) where
  pe := pe_listRg hc hg hm (prg_1 hg2 hm2 ha.pe na) nr
  sound := fun {G H0 ρ σ F H} rel Q P => ha.sound rel _ (post_data P fun d v F1 H1 e1 r1 P1 => by
    cases r1 with
    | int n =>
      dsimp only at P1
      split at P1
      · refine ⟨n, rfl, ⟨by omega, by omega, by omega, by omega, by omega⟩, ?_⟩
        have q := rgV_DDs (F := F1) 0 n
        rw [show (n - 0).toNat = n.toNat by omega] at q
        exact new_lst e1.sub q P1
      · exact P1.elim
    | _ => exact P1.elim)
end DN
/-! Den17: dicts with plain keys; list(range(a, b)); len(set(xs)); stores into lists of ours; zip of three. -/
namespace DN
open PySem PySem.Spec PyProof.Rows L2
section
variable {X : Cx} {W : WX} {a b e f : Expr} {ta tb te tf : TE} {fa fb fe ff : Ev → Rs R} {pos p : Pos}
theorem asKey_ok {F : Hp} {v : V} {d : PyData} {k : Key} (r : DD F v d) (h : asKey d = some k) : v = kV k := by
  cases r with
  | int i => cases h; rfl
  | str x => cases h; rfl
  | _ => cases h
@[simp] def fDnewK : Ev → Rs R := fun _ => .ok (.dck [])
theorem ee_dnewK : EE X W (.Dict [] [] pos) tDNewK fDnewK where
  pe := pe_dnewK
  sound := fun {G H0 ρ σ F H} rel Q P => fun p np => P _ _ _ (Ext.addH rel.sub np) ⟨⟨p, [], rfl, upd_same, rel.sub.free np, .nil⟩, fun _ q e => by cases e; exact np⟩
@[simp] def fDinK (i : Nat) (fa : Ev → Rs R) : Ev → Rs R := fun ρ => (fa ρ).bind fun r => r.d.bind fun x => match ρ[i]?, asKey x with
  | some (some (.dck kvs)), some k => .ok (.val (.bool (valP kvs k).isSome))
  | _, _ => .bad
@[simp] def fDNinK (i : Nat) (fa : Ev → Rs R) : Ev → Rs R := fun ρ => (fa ρ).bind fun r => r.d.bind fun x => match ρ[i]?, asKey x with
  | some (some (.dck kvs)), some k => .ok (.val (.bool (!(valP kvs k).isSome)))
  | _, _ => .bad
section
variable (i : Nat) {x : Str} {p2 : Pos} (hu : X.A.units + 1 < cLine) (ha : EE X W a ta fa)
  (hN : X.N[i]? = some x := by rfl) (hv : Vis X.env.scope x := by first | exact Or.inl rfl | exact Or.inr (Or.inl rfl) | exact Or.inr (Or.inr rfl)) (hd : (x == ("__debug__" : Str)) = false := by decide) (hcd : (x == ("__classdict__" : Str)) = false := by decide)
include hu ha hN hv hd hcd
theorem ee_dinK (hm : behindInMarks .In (.Name x p2) = false := by rfl) : EE X W (.Compare a [.In] [.Name x p2] pos) (tDIn ta (tVar i)) (fDinK i fa) where
  pe := pe_cmp (pc_din hu ha.pe (pe_var hN hv hd hcd)) hm
  sound := fun {G H0 ρ σ F H} rel Q P => ha.sound rel _ (post_data P fun d v F1 H1 e1 r1 P1 => by
    split at P1
    · rename_i kvs k h hk
      obtain ⟨w, hw, p, ws, rfl, q1, q2, q3⟩ := (rel.step e1).at_ i _ h
      have := asKey_ok r1 hk
      subst this
      refine ⟨_, hw, p, _, rfl, DGet.k q1, ?_⟩
      rw [KD.isSome q3]
      exact post_flat e1.sub (.bl _) P1
    · exact P1.elim)
theorem ee_dNinK (hm : behindInMarks .NotIn (.Name x p2) = false := by rfl) : EE X W (.Compare a [.NotIn] [.Name x p2] pos) (tDNotIn ta (tVar i)) (fDNinK i fa) where
  pe := pe_cmp (pc_dnotin hu ha.pe (pe_var hN hv hd hcd)) hm
  sound := fun {G H0 ρ σ F H} rel Q P => ha.sound rel _ (post_data P fun d v F1 H1 e1 r1 P1 => by
    split at P1
    · rename_i kvs k h hk
      obtain ⟨w, hw, p, ws, rfl, q1, q2, q3⟩ := (rel.step e1).at_ i _ h
      have := asKey_ok r1 hk
      subst this
      refine ⟨_, hw, p, _, rfl, DGet.k q1, ?_⟩
      rw [KD.isSome q3]
      exact post_flat e1.sub (.bl _) P1
    · exact P1.elim)
theorem et_dinK (hm : behindInMarks .In (.Name x p2) = false := by rfl) : ET X W (.Compare a [.In] [.Name x p2] pos) (tB (tDIn ta (tVar i))) (fTest (fDinK i fa)) :=
  et_ofB (pt_cmp (pc_din hu ha.pe (pe_var hN hv hd hcd)) hm) (ee_dinK i hu ha hN hv hd hcd hm)
theorem et_dNinK (hm : behindInMarks .NotIn (.Name x p2) = false := by rfl) : ET X W (.Compare a [.NotIn] [.Name x p2] pos) (tB (tDNotIn ta (tVar i))) (fTest (fDNinK i fa)) :=
  et_ofB (pt_cmp (pc_dnotin hu ha.pe (pe_var hN hv hd hcd)) hm) (ee_dNinK i hu ha hN hv hd hcd hm)
@[simp] def fDgetK (i : Nat) (fa : Ev → Rs R) : Ev → Rs R := fun ρ => match ρ[i]? with
  | some (some (.dck kvs)) => (fa ρ).bind fun r => r.d.bind fun x => match asKey x with
    | some k => match valP kvs k with
      | some d => .ok (.val d)
      | none => .bad
    | none => .bad
  | _ => .bad
theorem ee_dgetK (hs : NoSl a := by exact fun _ _ => rfl) : EE X W (.Subscript (.Name x p2) a pos) (tDGet (tVar i) ta) (fDgetK i fa) where
  pe := pe_dget hu (pe_var hN hv hd hcd) ha.pe hs
  sound := fun {G H0 ρ σ F H} rel Q P => by
    unfold fDgetK at P
    split at P
    · rename_i kvs h
      obtain ⟨w, hw, p, ws, rfl, q1, q2, q3⟩ := rel.at_ i _ h
      refine ⟨_, hw, ha.sound rel _ (post_data P fun d v F1 H1 e1 r1 P1 => ?_)⟩
      split at P1
      · rename_i k hk
        have := asKey_ok r1 hk
        subst this
        have q3' := KD.mono e1.ff q3
        rcases KD.val (k := k) q3' with ⟨_, h2⟩ | ⟨u, y, h1, h2, h3⟩
        · rw [h2] at P1; exact P1.elim
        · rw [h2] at P1
          refine ⟨p, u, rfl, ?_, post_flat e1.sub h3 P1⟩
          rw [← h1]
          exact DGet.k (e1.hh _ _ q1)
      · exact P1.elim
    · exact P.elim
@[simp] def fDget2K (i : Nat) (fa fe : Ev → Rs R) : Ev → Rs R := fun ρ => match ρ[i]? with
  | some (some (.dck kvs)) => (fa ρ).bind fun r => r.d.bind fun x => (fe ρ).bind fun r2 => r2.d.bind fun y => match asKey x with
    | some k => .ok (.val ((valP kvs k).getD y))
    | none => .bad
  | _ => .bad
theorem ee_dget2K {apos : Pos} (he : EE X W e te fe) (m : M2 X (.Name x p2) "get" apos a e pos := by exact ⟨rfl, rfl, rfl, rfl⟩) : EE X W (.Call (.Attribute (.Name x p2) "get" apos) [a, e] [] pos) (tDGet2 (tVar i) ta te) (fDget2K i fa fe) where
  pe := pe_dget2 hu (pe_var hN hv hd hcd) ha.pe he.pe m
  sound := fun {G H0 ρ σ F H} rel Q P => by
    unfold fDget2K at P
    split at P
    · rename_i kvs h
      obtain ⟨w, hw, p, ws, rfl, q1, q2, q3⟩ := rel.at_ i _ h
      refine ⟨_, hw, p, rfl, .inl ⟨ws, .inl q1⟩, ha.sound rel _ (post_data P fun d v F1 H1 e1 r1 P1 => ?_)⟩
      refine he.sound (rel.step e1) _ (post_data P1 fun d2 v2 F2 H2 e2 r2 P2 => ?_)
      split at P2
      · rename_i k hk
        have := asKey_ok r1 hk
        subst this
        have q3' := KD.mono (e1.ff.trans e2.ff) q3
        refine ⟨valV ws k, DGet.k (e2.hh _ _ (e1.hh _ _ q1)), ?_⟩
        rcases KD.val (k := k) q3' with ⟨h1, h2⟩ | ⟨u, y, h1, h2, h3⟩
        · rw [h1]; rw [h2] at P2
          exact post_flat e2.sub r2 P2
        · rw [h1]; rw [h2] at P2
          exact post_flat e2.sub h3 P2
      · exact P2.elim
    · exact P.elim
@[simp] def gDputK (i : Nat) (fa fe : Ev → Rs R) : Ev → RO := fun ρ => onR ρ ((fe ρ).bind R.d) fun v => match ρ[i]? with
  | some (some (.dck kvs)) => onR ρ ((fa ρ).bind R.d) fun x => match asKey x with
    | some k => if kvs.length < lim then .nx (ρ.set i (some (.dck (putP kvs k v)))) else .bad
    | none => .bad
  | _ => .bad
theorem es_dputK {tpos : Pos} (he : EE X W e te fe) (hsw : swapsWith e (some (.Subscript (.Name x p2) a tpos)) pos.line X.env = pure false := by rfl) : ES X W (.Assign [.Subscript (.Name x p2) a tpos] e pos) (sDPut (tVar i) ta te) (gDputK i fa fe) where
  ps := ps_dput hu (pe_var hN hv hd hcd) ha.pe he.pe hsw
  sound := fun {G H0 ρ σ F H} rel D P => he.sound rel _ (postS_data rel P fun d v F1 H1 e1 r1 P1 => by
    split at P1
    · rename_i kvs h
      have rel1 := rel.step e1
      obtain ⟨w, hw, p, ws, rfl, q1, q2, q3⟩ := rel1.at_ i _ h
      refine ⟨_, hw, ha.sound rel1 _ (postS_data rel1 P1 fun d2 v2 F2 H2 e2 r2 P2 => ?_)⟩
      split at P2
      · rename_i k hk
        have := asKey_ok r2 hk
        subst this
        split at P2
        · rename_i hl
          have q3' := KD.mono e2.ff q3
          refine ⟨p, _, rfl, DPut.k (e2.hh _ _ q1) (by rw [KD.len q3']; exact Nat.lt_trans hl lim_lt), P2 _ _ _ ((rel1.step e2).mut h rfl hw (e2.own q1 q2) ⟨p, _, rfl, upd_same, e2.own q1 q2, KD.put (DD.mono e2.ff _ _ r1) q3'⟩ rfl)⟩
        · exact P2.elim
      · exact P2.elim
    · exact P1.elim)
end
/-! ### x[i] = e, x a list of ours -/
@[simp] def gOset (i : Nat) (fb fe : Ev → Rs R) : Ev → RO := fun ρ => onR ρ ((fe ρ).bind R.d) fun v => match ρ[i]? with
  | some (some (.own xs)) => onR ρ ((fb ρ).bind R.d) fun y => match y with
    | .int j => match ixN xs.length j with
      | some m => .nx (ρ.set i (some (.own (xs.set m v))))
      | none => .bad
    | _ => .bad
  | _ => .bad
theorem es_oset (i : Nat) {x : Str} {p2 tpos : Pos} (hb : EE X W b tb fb) (he : EE X W e te fe) (hN : X.N[i]? = some x := by rfl) (hv : Vis X.env.scope x := by first | exact Or.inl rfl | exact Or.inr (Or.inl rfl) | exact Or.inr (Or.inr rfl)) (hd : (x == ("__debug__" : Str)) = false := by decide)
    (hcd : (x == ("__classdict__" : Str)) = false := by decide)
    (ha : ∀ v, assign (.Subscript (.Name x p2) b tpos) X.env v = (do
      let o1 ← holding [v] (eval (.Name x p2) X.env)
      let i1 ← holding [v, o1] (eval b X.env)
      standAt tpos
      holding [v, o1, i1] (setItem o1 i1 v)
      release [v, o1, i1] []) := by intro _; rfl)
    (hs : swapsWithSole [.Subscript (.Name x p2) b tpos] e pos.line X.env = pure false := by rfl) (hw : swappedStores [.Subscript (.Name x p2) b tpos] e X.env = pure none := by rfl)
    (h1 : (assignEach [.Subscript (.Name x p2) b tpos] X.env).map (·.2) = [assign (.Subscript (.Name x p2) b tpos) X.env] := by rfl) :
    ES X W (.Assign [.Subscript (.Name x p2) b tpos] e pos) (tAsg te (gSub (tVar i) tb rSetL)) (gOset i fb fe) where
  ps := ps_asg he.pe (pg_sub (pe_var hN hv hd hcd) hb.pe set_list ha) hs hw h1
  sound := fun {G H0 ρ σ F H} rel D P => he.sound rel _ (postS_data rel P fun d v F1 H1 e1 r1 P1 => by
    split at P1
    · rename_i xs h
      have rel1 := rel.step e1
      obtain ⟨w, hw, p, vs, rfl, q1, q2, q3⟩ := rel1.at_ i _ h
      refine ⟨_, hw, hb.sound rel1 _ (postS_data rel1 P1 fun d2 v2 F2 H2 e2 r2 P2 => ?_)⟩
      cases r2 with
      | int j =>
        dsimp only at P2
        split at P2
        · rename_i m hm
          have q3' := DDs.mono e2.ff _ _ q3
          refine ⟨p, vs, j, m, rfl, rfl, e2.hh _ _ q1, by rw [q3'.len]; exact hm, P2 _ _ _ ((rel1.step e2).mut h rfl hw (e2.own q1 q2) ⟨p, _, rfl, upd_same, e2.own q1 q2, q3'.set (DD.mono e2.ff _ _ r1) m⟩ rfl)⟩
        · exact P2.elim
      | _ => exact P2.elim
    · exact P1.elim)
end
/-! ### list(range(a, b)) -/
@[simp] def fListRange2 (fa fb : Ev → Rs R) : Ev → Rs R := fun ρ => (fa ρ).bind fun r => r.d.bind fun x => (fb ρ).bind fun r2 => r2.d.bind fun y => match x, y with
  | .int m, .int n => if m.natAbs ≤ 1000000 ∧ n.natAbs ≤ 1000000 then .ok (.own (rngD m (n - m).toNat)) else .bad
  | _, _ => .bad
theorem ee_listRange2 {X : Cx} {W : WX} {a b : Expr} {ta tb : TE} {fa fb : Ev → Rs R} {pos p q p2 : Pos} (ha : EE X W a ta fa) (hb : EE X W b tb fb) (hm : X.mg "list" = none) (hm2 : X.mg "range" = none) (hg : Gl X "list" := by rfl) (hg2 : Gl X "range" := by rfl) (hc : X.calm = true := by rfl)
    (na : starEach [a, b] X.env = (false, eval a X.env) :: starEach [b] X.env := by rfl) (nb : starEach [b] X.env = (false, eval b X.env) :: starEach [] X.env := by rfl) (hp : (backTo q (starEach [b] X.env)).any (·.1) = false := by rfl) (nr : starEach [.Call (.Name "range" p2) [a, b] [] q] X.env = (false, eval (.Call (.Name "range" p2) [a, b] [] q) X.env) :: starEach [] X.env := by rfl) :
    EE X W (.Call (.Name "list" p) [.Call (.Name "range" p2) [a, b] [] q] [] pos) (tLstRg (tRg2 ta tb)) (fListRange2 fa fb) where
  pe := pe_listRg hc hg hm (prg_2 hg2 hm2 ha.pe hb.pe na nb hp) nr
  sound := fun {G H0 ρ σ F H} rel Q P => ha.sound rel _ (post_data P fun d v F1 H1 e1 r1 P1 => hb.sound (rel.step e1) _ (post_data P1 fun d2 v2 F2 H2 e2 r2 P2 => by
    cases r1 with
    | int m =>
      cases r2 with
      | int n =>
        dsimp only at P2
        split at P2
        · refine ⟨m, n, rfl, rfl, ⟨by omega, by omega, by omega, by omega, by omega⟩, ?_⟩
          exact new_lst e2.sub (rgV_DDs (F := F2) m n) P2
        · exact P2.elim
      | _ => exact P2.elim
    | _ => exact P2.elim))
/-! ### len(set(xs)) -/
section
variable {X : Cx}
def rLenS (w : World) : List V → Hp → VK → Prop := fun vs H Q => ∃ (a : Addr) (S : Int → Bool) (n : Nat), vs = [V.ref a] ∧ H a = some (SetO w a S n) ∧ n ≤ 1000 ∧ Q (.int n) H
theorem cr_lenS : CallR X (.builtin "len") (rLenS X.w) := by
  intro pins s σ H vs us Q I r h
  obtain ⟨a, S, n, rfl, ha, hn, q⟩ := h
  have R := setO_get I ha
  rw [Vals.ref1 r]
  obtain ⟨o, es, ep, t, ho, hex, hdt, g, nd, hm, hb, hf, hes, _⟩ := R
  exact call_len_set ho hex hdt hf (by rw [hes]; omega) ⟨.int n, H, I.tok _, ⟨_, by rw [hes]⟩, q⟩
end
def setLenD : PyData → Rs R
  | .list ds => match asIs ds with
    | some ns => if ns.length ≤ 1000 then .ok (.val (.int (sortU ns).length)) else .bad
    | none => .bad
  | _ => .bad
theorem sortU_len_le (ns : List Int) : (sortU ns).length ≤ ns.length := by
  have nd : (sortU ns).Nodup := (sortU_lt ns).imp fun {a b} h => by omega
  exact List.Nodup.length_le_of_subset nd fun k hk => (mem_sortU ns k).mp hk
section
variable {X : Cx} {W : WX} {a e : Expr} {ta te : TE} {fa : Ev → Rs R} {pos p p2 q : Pos} (K : PySem.W.Frag) (w : World)
theorem ek_setLen (hm : X.mg "len" = none) (hm2 : X.mg "set" = none) (ha : EE X W a ta fa) (hg : Gl X "len" := by rfl) (hg2 : Gl X "set" := by rfl) (hc : X.calm = true := by rfl)
    (na : starEach [a] X.env = (false, eval a X.env) :: starEach [] X.env := by rfl) (ns : starEach [.Call (.Name "set" p2) [a] [] q] X.env = (false, eval (.Call (.Name "set" p2) [a] [] q) X.env) :: starEach [] X.env := by rfl)
    (hpl : (backTo pos (starEach [] X.env)).any (·.1) = false := by rfl) (hpl2 : (backTo q (starEach [] X.env)).any (·.1) = false := by rfl) (hK : X.K = K := by rfl) (hw : X.w = w := by rfl) :
    EE X W (.Call (.Name "len" p) [.Call (.Name "set" p2) [a] [] q] [] pos) (tCB (rLenS w) (tCons (tCB (rSetOfI K w) (tCons ta tNil)) tNil)) (fUn setLenD fa) := by
  subst hK hw
  refine ⟨pe_callB cr_lenS hg hm (by decide +kernel) (pa_cons (pe_callTy (cr_setOfI hc) hg2 hm2 (by decide +kernel) (pa_cons ha.pe pa_nil na) (by decide) (by decide) na hpl2) pa_nil ns) (by decide) (by decide) ns hpl, fun {G H0 ρ σ F H} rel Q P => ?_⟩
  refine ha.sound rel _ (post_data P fun d v F1 H1 e1 r1 P1 => ?_)
  unfold setLenD at P1
  cases r1 with
  | @lst l xs ds hl r =>
    dsimp only at P1
    split at P1
    · rename_i ns hns
      split at P1
      · rename_i h64
        have := asIs_eq hns
        subst this
        have := r.ofInts
        subst this
        refine ⟨l, ns, rfl, SqL.of (e1.sub _ _ hl), h64, fun s hs => ?_⟩
        refine ⟨s, _, _, rfl, upd_same, Nat.le_trans (sortU_len_le ns) h64, ?_⟩
        exact P1 _ _ _ (Ext.addH e1.sub hs) (.val (.int _))
      · exact P1.elim
    · exact P1.elim
  | _ => exact P1.elim
end
end DN
/-! ### zip of three -/
namespace DN
open PySem PySem.Spec PyProof.Rows L2
def It3K (k l m : Bool) (K : PySem.W.Frag) (a b c : Addr) : It :=
  ⟨fun i H => ∃ (xs ys zs : List V) (x y z : V), SqK k K H a xs ∧ SqK l K H b ys ∧ SqK m K H c zs ∧ xs[i]? = some x ∧ ys[i]? = some y ∧ zs[i]? = some z,
    fun i H v H' => ∃ T x y z, v = .ref T ∧ H T = none ∧ H' = upd H T (.tup [x, y, z]) ∧ (∀ xs, SqK k K H a xs → xs[i]? = some x) ∧ (∀ ys, SqK l K H b ys → ys[i]? = some y) ∧ ∀ zs, SqK m K H c zs → zs[i]? = some z,
    fun i H => ∃ xs ys zs : List V, SqK k K H a xs ∧ SqK l K H b ys ∧ SqK m K H c zs ∧ min (min xs.length ys.length) zs.length = i⟩
theorem mem5 {c N : Nat} (h : c ∈ [N + 5, N + 4, N, N + 1, N + 2]) : c ∈ [N + 5, N + 3, N + 4, N, N + 1, N + 2] := by
  have e : c = N + 5 ∨ c = N + 4 ∨ c = N ∨ c = N + 1 ∨ c = N + 2 := by simpa using h
  rcases e with z | z | z | z | z <;> simp [z]
theorem le6 {c N : Nat} (h : c ∈ [N + 5, N + 3, N + 4, N, N + 1, N + 2]) : c ≤ N + 5 := by
  have e : c = N + 5 ∨ c = N + 3 ∨ c = N + 4 ∨ c = N ∨ c = N + 1 ∨ c = N + 2 := by simpa using h
  omega
theorem ge6 {c N : Nat} (h : c ∈ [N + 5, N + 3, N + 4, N, N + 1, N + 2]) : N ≤ c := by
  have e : c = N + 5 ∨ c = N + 3 ∨ c = N + 4 ∨ c = N ∨ c = N + 1 ∨ c = N + 2 := by simpa using h
  omega
theorem turn_zip3K {k l m : Bool} {P : Program} {w : World} {K : PySem.W.Frag} {elts : List Expr} {kk : Nat} {tpos : Pos} {N a b c : Addr} (ha : a < N) (hb : b < N) (hcN : c < N) :
    Turn P w K (.Tuple elts kk tpos) (It3K k l m K a b c) [N + 5, N + 3, N + 4, N, N + 1, N + 2] (N + 5)
      (fun i h => IsZip h (N + 5) (N + 3) (N + 4) .none ∧ IsTupOf3 h (N + 3) (.ref N) (.ref (N + 1)) (.ref (N + 2)) ∧ (∃ x y z, IsTupOf3 h (N + 4) x y z) ∧ IterK k h N a i ∧ IterK l h (N + 1) b i ∧ IterK m h (N + 2) c i) where
  mem := by simp
  obj := fun i h st d hc => by
    obtain ⟨hz, hTI, ⟨x, y, z, hTO⟩, h1, h2, h3⟩ := st
    have e' : d = N + 5 ∨ d = N + 3 ∨ d = N + 4 ∨ d = N ∨ d = N + 1 ∨ d = N + 2 := by simpa using hc
    rcases e' with z | z | z | z | z | z
    · rw [z]; exact ⟨_, hz, fun v q => nomatch q⟩
    · rw [z]; exact ⟨_, hTI, fun v q => nomatch q⟩
    · rw [z]; exact ⟨_, hTO, fun v q => nomatch q⟩
    · rw [z]; exact h1.obj
    · rw [z]; exact h2.obj
    · rw [z]; exact h3.obj
  keep := fun i h h' st kp => by
    obtain ⟨hz, hTI, ⟨x, y, z, hTO⟩, h1, h2, h3⟩ := st
    exact ⟨kp _ (by simp) _ hz, kp _ (by simp) _ hTI, ⟨x, y, z, kp _ (by simp) _ hTO⟩, h1.at fun o q => kp _ (by simp) o q, h2.at fun o q => kp _ (by simp) o q, h3.at fun o q => kp _ (by simp) o q⟩
  item := by
    intro X hP hw hK hc i pins s σ H E I hf st hg
    subst hP hw hK
    obtain ⟨hz, hTI, hTO, h1, h2, h3⟩ := st
    obtain ⟨xs, ys, zs, x, y, z, hq, hq2, hq3, hx, hy, hzz⟩ := hg
    obtain ⟨its, rv, p, _⟩ := seqK_of I hq
    obtain ⟨its2, rv2, p2, _⟩ := seqK_of I hq2
    obtain ⟨its3, rv3, p3, _⟩ := seqK_of I hq3
    obtain ⟨u, hu, ru⟩ := rv.get hx
    obtain ⟨u2, hu2, ru2⟩ := rv2.get hy
    obtain ⟨u3, hu3, ru3⟩ := rv3.get hzz
    have D1 := drawsK (k := k) (prog := X.prog) (w := X.w) (A := X.A.in1) (I.ok.hd hc) N a (Nat.ne_of_lt ha) its.toArray
    have D2 := drawsK (k := l) (prog := X.prog) (w := X.w) (A := X.A.in1) (I.ok.hd hc) (N + 1) b (Nat.ne_of_lt (Nat.lt_succ_of_lt hb)) its2.toArray
    have D3 := drawsK (k := m) (prog := X.prog) (w := X.w) (A := X.A.in1) (I.ok.hd hc) (N + 2) c (Nat.ne_of_lt (Nat.lt_succ_of_lt (Nat.lt_succ_of_lt hcN))) its3.toArray
    have hzl : N + 5 < s.heap.objs.size := Heap.lt_size hz
    have hi1 : i < its.toArray.size := by
      have := (List.getElem?_eq_some_iff.mp hu).1
      simpa using this
    have hi2 : i < its2.toArray.size := by
      have := (List.getElem?_eq_some_iff.mp hu2).1
      simpa using this
    have hi3 : i < its3.toArray.size := by
      have := (List.getElem?_eq_some_iff.mp hu3).1
      simpa using this
    refine (GoesN.zip3 (elts := elts) (x1 := kk) (pos := tpos) (zip_sep3 (N := N) (fp1 := [a]) (fp2 := [b]) (fp3 := [c]) (by simpa using ha) (by simpa using hb) (by simpa using hcN)) D1 D2 D3).goes i s
      (fun u s2 => ∃ x H', Inv X pins σ H' s2 ∧ RelV x u ∧ (It3K k l m X.K a b c).yld i H x H' ∧ (IsZip s2.heap (N + 5) (N + 3) (N + 4) .none ∧ IsTupOf3 s2.heap (N + 3) (.ref N) (.ref (N + 1)) (.ref (N + 2)) ∧ (∃ x y z, IsTupOf3 s2.heap (N + 4) x y z) ∧ IterK k s2.heap N a (i + 1) ∧ IterK l s2.heap (N + 1) b (i + 1) ∧ IterK m s2.heap (N + 2) c (i + 1)) ∧
        ∀ d ∈ [N + 5, N + 3, N + 4, N, N + 1, N + 2], H' d = none)
      E (by omega) ⟨hz, hTI, hTO, ⟨h1, p⟩, ⟨h2, p2⟩, ⟨h3, p3⟩⟩ fun v h' tk hY st' hk htk => ?_
    obtain ⟨T, y1, y2, y3, rfl, hT, hy1, hy2, hy3, hTup⟩ := hY
    have e1 : y1 = u := by
      have : its.toArray[i]? = some u := by simpa using hu
      rw [this] at hy1; exact (Option.some.inj hy1).symm
    have e2 : y2 = u2 := by
      have : its2.toArray[i]? = some u2 := by simpa using hu2
      rw [this] at hy2; exact (Option.some.inj hy2).symm
    have e3 : y3 = u3 := by
      have : its3.toArray[i]? = some u3 := by simpa using hu3
      rw [this] at hy3; exact (Option.some.inj hy3).symm
    subst e1 e2 e3
    have new : ObjOk X.prog X.w (upd H T (.tup [x, y, z])) h' T (.tup [x, y, z]) :=
      ⟨by show 3 ≤ sizeLine; decide, [y1, y2, y3], .cons ru (.cons ru2 (.cons ru3 .nil)), hTup⟩
    have I1 : Inv X pins σ (upd H T (.tup [x, y, z])) { s with heap := h', toks := tk } :=
      I.turnedNew (ch := [N + 5, N + 3, N + 4, N, N + 1, N + 2]) (fun d ob hd q => hk d ob (fun z => hd (mem5 z)) q) hf hT new
    obtain ⟨a1, a2, a3, ⟨a4, _⟩, ⟨a5, _⟩, ⟨a6, _⟩⟩ := st'
    refine ⟨.ref T, _, I1, rfl, ⟨T, x, y, z, rfl, I.hok.fresh hT, rfl, fun ws hw => by rw [seqK_inj I hw hq]; exact hx, fun ws hw => by rw [seqK_inj I hw hq2]; exact hy, fun ws hw => by rw [seqK_inj I hw hq3]; exact hzz⟩, ⟨a1, a2, a3, a4, a5, a6⟩, fun d hd => ?_⟩
    have hc' : d < s.heap.objs.size := Nat.lt_of_le_of_lt (le6 hd) hzl
    rw [upd_ne (Nat.ne_of_lt (Nat.lt_of_lt_of_le hc' hT))]
    exact (hf d hd).1
  done := by
    intro X hP hw hK hc i pins s σ H E I hf st hg
    subst hP hw hK
    obtain ⟨hz, hTI, hTO, h1, h2, h3⟩ := st
    obtain ⟨xs, ys, zs, hq, hq2, hq3, hx⟩ := hg
    obtain ⟨its, rv, p, _⟩ := seqK_of I hq
    obtain ⟨its2, rv2, p2, _⟩ := seqK_of I hq2
    obtain ⟨its3, rv3, p3, _⟩ := seqK_of I hq3
    have D1 := drawsK (k := k) (prog := X.prog) (w := X.w) (A := X.A.in1) (I.ok.hd hc) N a (Nat.ne_of_lt ha) its.toArray
    have D2 := drawsK (k := l) (prog := X.prog) (w := X.w) (A := X.A.in1) (I.ok.hd hc) (N + 1) b (Nat.ne_of_lt (Nat.lt_succ_of_lt hb)) its2.toArray
    have D3 := drawsK (k := m) (prog := X.prog) (w := X.w) (A := X.A.in1) (I.ok.hd hc) (N + 2) c (Nat.ne_of_lt (Nat.lt_succ_of_lt (Nat.lt_succ_of_lt hcN))) its3.toArray
    have hn : min (min its.toArray.size its2.toArray.size) its3.toArray.size = i := by rw [← hx, rv.length, rv2.length, rv3.length]; simp
    refine (GoesN.zip3 (elts := elts) (x1 := kk) (pos := tpos) (zip_sep3 (N := N) (fp1 := [a]) (fp2 := [b]) (fp3 := [c]) (by simpa using ha) (by simpa using hb) (by simpa using hcN)) D1 D2 D3).stops s _ E (by
      rw [hn]; exact ⟨hz, hTI, hTO, ⟨h1, p⟩, ⟨h2, p2⟩, ⟨h3, p3⟩⟩) fun h' tk hk htk => ?_
    exact I.turnedL (ch := [N + 5, N + 3, N + 4, N, N + 1, N + 2]) (fun d o hd q => hk d o (fun z => hd (mem5 z)) q) hf
  self := fun A i s Q E st h => wpAny_pyIter_zip st.1 h
def iZip3K (K : PySem.W.Frag) (ta : TA) : TI := fun σ H R => ta σ H fun vs H1 => ∃ k l m a b c xs ys zs, vs = [.ref a, .ref b, .ref c] ∧ SqK k K H1 a xs ∧ SqK l K H1 b ys ∧ SqK m K H1 c zs ∧ R (It3K k l m K a b c) H1
theorem pi_zip3K {X : Cx} {e e2 e3 : Expr} {ta : TA} {p pos tpos : Pos} {elts : List Expr} {kk : Nat} (hg : Gl X "zip") (hm : X.mg "zip" = none) (ha : PA X [e, e2, e3] ta)
    (hs : starEach [e, e2, e3] X.env = (false, eval e X.env) :: starEach [e2, e3] X.env := by rfl) (hpl : (backTo pos (starEach [e2, e3] X.env)).any (·.1) = false := by rfl) :
    PI X (.Tuple elts kk tpos) (.Call (.Name "zip" p) [e, e2, e3] [] pos) (iZip3K X.K ta) := by
  refine ⟨fun pins s σ H R I h => ?_⟩
  refine Call_ (ld_blt I hg hm PyProof.Rows.boot_zip (PyProof.Rows.callWith_type1 (thn (ha.run pos pins s σ H _ I h) fun us s1 ⟨vs, H1, I1, r1, q1⟩ => ?_) hs hpl))
  obtain ⟨k, l, m, a, b, c, xs, ys, zs, ex, hq, hq2, hq3, q⟩ := q1
  subst ex
  cases r1 with
  | cons r rr =>
    cases rr with
    | cons r' rr =>
      cases rr with
      | cons r'' rr =>
        cases rr
        cases r
        cases r'
        cases r''
        obtain ⟨its, rv, p1, _⟩ := seqK_of I1 hq
        obtain ⟨its2, rv2, p2, _⟩ := seqK_of I1 hq2
        obtain ⟨its3, rv3, p3, _⟩ := seqK_of I1 hq3
        refine zip_begins3 (beginsK k a its.toArray) (beginsK l b its2.toArray) (beginsK m c its3.toArray) p1 p2 p3 fun h' hz hTI hTO h1 h2 h3 hsz hk => wpAny_pyIter_zip hz ?_
        have I2 : Inv X pins σ H1 { s1 with heap := h' } := I1.kept (t' := s1.toks) hk
        refine ⟨s1.heap.objs.size + 5, [s1.heap.objs.size + 5, s1.heap.objs.size + 3, s1.heap.objs.size + 4, s1.heap.objs.size, s1.heap.objs.size + 1, s1.heap.objs.size + 2], _, _, H1, rfl, I2, turn_zip3K (k := k) (l := l) (m := m) (seqK_lt p1) (seqK_lt p2) (seqK_lt p3),
          ⟨hz, hTI, ⟨_, _, _, hTO⟩, iter0 h1, iter0 h2, iter0 h3⟩, fun d hd => ?_, q⟩
        have hle : s1.heap.objs.size ≤ d := ge6 hd
        exact I1.fpOk hle (I1.hok.fresh hle)
def zip3D (ds es fs : List PyData) : List PyData := ((ds.zip es).zip fs).map fun p => PyData.tuple [p.1.1, p.1.2, p.2]
theorem zip3D_get {ds es fs : List PyData} {i : Nat} {d : PyData} (h : (zip3D ds es fs)[i]? = some d) : ∃ x y z, ds[i]? = some x ∧ es[i]? = some y ∧ fs[i]? = some z ∧ d = .tuple [x, y, z] := by
  unfold zip3D at h
  rw [List.getElem?_map, Option.map_eq_some_iff] at h
  obtain ⟨⟨⟨x, y⟩, z⟩, h, rfl⟩ := h
  rw [List.getElem?_zip_eq_some, List.getElem?_zip_eq_some] at h
  exact ⟨x, y, z, h.1.1, h.1.2, h.2, rfl⟩
section
variable {K : PySem.W.Frag} {F : Hp} {k l m : Bool} {a b c : Addr} {xs ys zs : List V} {ds es fs : List PyData}
theorem walk_z3 (h : At k F a xs) (r : DDs F xs ds) (g : At l F b ys) (r' : DDs F ys es) (g2 : At m F c zs) (r2 : DDs F zs fs) : WalkD (It3K k l m K a b c) F (zip3D ds es fs) where
  goes := fun i H hi s => by
    have hi' : i < ds.length ∧ i < es.length ∧ i < fs.length := by simpa [zip3D, Nat.lt_min] using hi
    exact ⟨xs, ys, zs, xs[i]'(by rw [r.len]; exact hi'.1), ys[i]'(by rw [r'.len]; exact hi'.2.1), zs[i]'(by rw [r2.len]; exact hi'.2.2), h.sq s, g.sq s, g2.sq s, List.getElem?_eq_getElem _, List.getElem?_eq_getElem _, List.getElem?_eq_getElem _⟩
  stops := fun H s => ⟨xs, ys, zs, h.sq s, g.sq s, g2.sq s, by rw [r.len, r'.len, r2.len]; simp [zip3D]⟩
  yields := fun i H x H' d F1 hd sF sH y => by
    obtain ⟨T, z, z', z'', rfl, nT, rfl, hy, hy', hy''⟩ := y
    obtain ⟨d1, d2, d3, e1, e2, e2', rfl⟩ := zip3D_get hd
    obtain ⟨d', e3, e4⟩ := r.getV (hy xs (h.sq (sF.trans sH)))
    obtain ⟨d'', e5, e6⟩ := r'.getV (hy' ys (g.sq (sF.trans sH)))
    obtain ⟨d''', e7, e8⟩ := r2.getV (hy'' zs (g2.sq (sF.trans sH)))
    rw [e1] at e3; cases e3
    rw [e2] at e5; cases e5
    rw [e2'] at e7; cases e7
    have sm := sF.trans (same_new (o := .tup [z, z', z'']) (sH.free nT))
    exact ⟨_, Ext.add sH nT, .tup upd_same (.cons (DD.mono sm _ _ e4) (.cons (DD.mono sm _ _ e6) (.cons (DD.mono sm _ _ e8) .nil)))⟩
theorem DD.seq {v : V} {d : PyData} (h : DD F v d) (hs : seqD d = .ok ds) : ∃ k a vs, v = .ref a ∧ At k F a vs ∧ DDs F vs ds := by
  cases h with
  | @lst a vs _ h r => cases hs; exact ⟨false, a, vs, rfl, h, r⟩
  | @tup a vs _ h r => cases hs; exact ⟨true, a, vs, rfl, h, r⟩
  | _ => cases hs
end
@[simp] def fZip3 (f g h : Ev → Rs R) : Ev → Rs (List PyData) := fun ρ => (fCons f (fCons g (fCons h fNil)) ρ).bind fun ds => match ds with
  | [x, y, z] => (seqD x).bind fun xs => (seqD y).bind fun ys => (seqD z).bind fun zs => .ok (zip3D xs ys zs)
  | _ => .bad
theorem seqD_err {d : PyData} : (∃ ds, seqD d = .ok ds) ∨ seqD d = .bad := by
  cases d <;> first
    | exact .inl ⟨_, rfl⟩
    | exact .inr rfl
theorem ik_zip3 {X : Cx} {W : WX} {e e2 e3 : Expr} {te te2 te3 : TE} {f f2 f3 : Ev → Rs R} {p pos tpos : Pos} (K : PySem.W.Frag) {elts : List Expr} {kk : Nat} (h : EE X W e te f) (h2 : EE X W e2 te2 f2) (h3 : EE X W e3 te3 f3) (hm : X.mg "zip" = none) (hg : Gl X "zip" := by rfl)
    (hs : starEach [e, e2, e3] X.env = (false, eval e X.env) :: starEach [e2, e3] X.env := by rfl) (hs2 : starEach [e2, e3] X.env = (false, eval e2 X.env) :: starEach [e3] X.env := by rfl) (hs3 : starEach [e3] X.env = (false, eval e3 X.env) :: starEach [] X.env := by rfl)
    (hpl : (backTo pos (starEach [e2, e3] X.env)).any (·.1) = false := by rfl) (hK : X.K = K := by rfl) :
    EI X W (.Tuple elts kk tpos) (.Call (.Name "zip" p) [e, e2, e3] [] pos) (iZip3K K (tCons te (tCons te2 (tCons te3 tNil)))) (fZip3 f f2 f3) := by
  subst hK
  refine ⟨pi_zip3K hg hm (pa_cons h.pe (pa_cons h2.pe (pa_cons h3.pe pa_nil hs3) hs2) hs) hs hpl, fun {G H0 ρ σ F H} rel R' P => (ed_cons h (ed_cons h2 (ed_cons h3 ed_nil hs3) hs2) hs).sound rel _ (postI_out P fun ds vs F1 H1 e1 r1 P1 => ?_)⟩
  split at P1
  · rename_i x y z
    rcases seqD_err (d := x) with ⟨xs, hx⟩ | hx
    · rcases seqD_err (d := y) with ⟨ys, hy⟩ | hy
      · rcases seqD_err (d := z) with ⟨zs, hz⟩ | hz
        · rw [hx, bind_ok, hy, bind_ok, hz, bind_ok] at P1
          cases r1 with
          | cons a r1 =>
            cases r1 with
            | cons b r1 =>
              cases r1 with
              | cons c r1 =>
                cases r1
                obtain ⟨k, A, us, rfl, a1, a2⟩ := a.seq hx
                obtain ⟨l, B, ws, rfl, b1, b2⟩ := b.seq hy
                obtain ⟨m, C, ts, rfl, c1, c2⟩ := c.seq hz
                exact ⟨k, l, m, A, B, C, us, ws, ts, rfl, a1.sq e1.sub, b1.sq e1.sub, c1.sq e1.sub, P1 _ _ _ (Ext.refl e1.sub) (walk_z3 a1 a2 b1 b2 c1 c2)⟩
        · rw [hx, bind_ok, hy, bind_ok, hz] at P1; exact P1.elim
      · rw [hx, bind_ok, hy] at P1; exact P1.elim
    · rw [hx] at P1; exact P1.elim
  · exact P1.elim
end DN
/-! Den18: len of a list of ours. -/
namespace DN
open PySem PySem.Spec PyProof.Rows L2
section
variable {X : Cx} {W : WX} {pos p : Pos} (K : PySem.W.Frag)
@[simp] def fOlen (i : Nat) : Ev → Rs R := fun ρ => match ρ[i]? with
  | some (some (.own ds)) => .ok (.val (.int ds.length))
  | some (some (.val (.list ds))) => .ok (.val (.int ds.length))
  | _ => .bad
theorem ek_olen (i : Nat) {x : Str} {p2 : Pos} (hm : X.mg "len" = none) (hN : X.N[i]? = some x := by rfl) (hv : Vis X.env.scope x := by first | exact Or.inl rfl | exact Or.inr (Or.inl rfl) | exact Or.inr (Or.inr rfl)) (hd : (x == ("__debug__" : Str)) = false := by decide)
    (hcd : (x == ("__classdict__" : Str)) = false := by decide) (hg : Gl X "len" := by rfl)
    (he : starEach [.Name x p2] X.env = (false, eval (.Name x p2) X.env) :: starEach [] X.env := by rfl) (hpl : (backTo pos (starEach [] X.env)).any (·.1) = false := by rfl) (hK : X.K = K := by rfl) :
    EE X W (.Call (.Name "len" p) [.Name x p2] [] pos) (tCB (fun xs H Q => ∃ x n, xs = [x] ∧ LenV K x H n ∧ Q (.int n) H) (tCons (tVar i) tNil)) (fOlen i) := by
  subst hK
  refine ⟨pe_callB call_len hg hm PySem.boot_len (pa_cons (pe_var hN hv hd hcd) pa_nil he) (by decide) (by decide) he hpl, fun {G H0 ρ σ F H} rel Q P => ?_⟩
  unfold fOlen at P
  split at P
  · rename_i ds h
    obtain ⟨v, hv, a, vs, rfl, q1, q2, q3⟩ := rel.at_ i _ h
    exact ⟨_, hv, _, _, rfl, .inl ⟨_, SqL.of q1, rfl⟩, by rw [q3.len]; exact post_flat rel.sub (.int _) P⟩
  · rename_i ds h
    obtain ⟨v, hv, q⟩ := rel.at_ i _ h
    cases q with
    | @lst a vs _ q1 q3 => exact ⟨_, hv, _, _, rfl, .inl ⟨_, SqL.of (rel.sub _ _ q1), rfl⟩, by rw [q3.len]; exact post_flat rel.sub (.int _) P⟩
  · exact P.elim
end
/-! ### a, b, .. = e1, e2, .. by a tuple, things of ours among them -/
section
variable {X : Cx} {W : WX} {pos : Pos} (K : PySem.W.Frag)
theorem es_unp2 (i j : Nat) (k l : Bool) {x y : Str} {a b : Expr} {ta tb : TE} {fa fb : Ev → Rs R} {px py pt pt2 : Pos} {kt k2 : Nat} (hN : X.N.Nodup) (ha : EE X W a ta fa) (hb : EE X W b tb fb)
    (hi : X.N[i]? = some x := by rfl) (hj : X.N[j]? = some y := by rfl) (hx : Loc X.env.scope x := by first | exact .inl rfl | exact .inr rfl) (hy : Loc X.env.scope y := by first | exact .inl rfl | exact .inr rfl)
    (fx : X.fn x = true ∨ X.env.scope.names.lookup x = some .local := by first | exact .inl rfl | exact .inr rfl | assumption) (fy : X.fn y = true ∨ X.env.scope.names.lookup y = some .local := by first | exact .inl rfl | exact .inr rfl | assumption) (hc : X.calm = true := by rfl)
    (hs1 : starEach [a, b] X.env = (false, eval a X.env) :: starEach [b] X.env := by rfl) (hs2 : starEach [b] X.env = (false, eval b X.env) :: starEach [] X.env := by rfl)
    (hh1 : (assignEach [.Name x px, .Name y py] X.env).map (·.2) = assign (.Name x px) X.env :: (assignEach [.Name y py] X.env).map (·.2) := by rfl) (hh2 : (assignEach [.Name y py] X.env).map (·.2) = assign (.Name y py) X.env :: (assignEach [] X.env).map (·.2) := by rfl)
    (hn : (assignEach [.Name x px, .Name y py] X.env).length = 2 := by rfl) (hst : (assignEach [.Name x px, .Name y py] X.env).findIdx? (·.1) = none := by rfl)
    (hs : swapsWithSole [.Tuple [.Name x px, .Name y py] kt pt] (.Tuple [a, b] k2 pt2) pos.line X.env = pure false := by rfl) (hw : swappedStores [.Tuple [.Name x px, .Name y py] kt pt] (.Tuple [a, b] k2 pt2) X.env = pure none := by rfl)
    (h1 : (assignEach [.Tuple [.Name x px, .Name y py] kt pt] X.env).map (·.2) = [assign (.Tuple [.Name x px, .Name y py] kt pt) X.env] := by rfl) (hK : X.K = K := by rfl) :
    ES X W (.Assign [.Tuple [.Name x px, .Name y py] kt pt] (.Tuple [a, b] k2 pt2) pos) (tAsg (tTup (tCons ta (tCons tb tNil))) (gTup K 2 (gCons (gName i) (gCons (gName j) gNil)))) (gPar i j k l fa fb) := by
  subst hK
  refine ⟨ps_asg (pe_tup (pa_cons ha.pe (pa_cons hb.pe pa_nil hs2) hs1)) (pg_tup hc (pgs_cons (pg_name hN hi hx fx) (pgs_cons (pg_name hN hj hy fy) pgs_nil hh2) hh1) hn hst) hs hw h1, fun {G H0 ρ σ F H} rel D P => ?_⟩
  refine ha.sound rel _ (postS_keep rel P fun r v F1 H1 e1 q1 P1 => hb.sound (rel.step e1) _ (postS_keep (rel.step e1) P1 fun r2 v2 F2 H2 e2 q2 P2 => ?_))
  have R := Rel.setOwn (i := j) (rel.setOwn (i := i) e1 q1) e2 q2
  exact ⟨by show 2 ≤ sizeLine; decide, fun p np => ⟨p, _, rfl, SqT.of upd_same, rfl, v, _, rfl, v2, _, rfl, rfl, P2 _ _ _ (R.step (Ext.addH R.sub np))⟩⟩
theorem es_unp3 (i j m : Nat) (k l n : Bool) {x y z : Str} {a b c : Expr} {ta tb tc : TE} {fa fb fc : Ev → Rs R} {px py pz pt pt2 : Pos} {kt k2 : Nat} (hN : X.N.Nodup) (ha : EE X W a ta fa) (hb : EE X W b tb fb) (hc3 : EE X W c tc fc)
    (hi : X.N[i]? = some x := by rfl) (hj : X.N[j]? = some y := by rfl) (hm : X.N[m]? = some z := by rfl) (hx : Loc X.env.scope x := by first | exact .inl rfl | exact .inr rfl) (hy : Loc X.env.scope y := by first | exact .inl rfl | exact .inr rfl) (hz : Loc X.env.scope z := by first | exact .inl rfl | exact .inr rfl)
    (fx : X.fn x = true ∨ X.env.scope.names.lookup x = some .local := by first | exact .inl rfl | exact .inr rfl | assumption) (fy : X.fn y = true ∨ X.env.scope.names.lookup y = some .local := by first | exact .inl rfl | exact .inr rfl | assumption) (fz : X.fn z = true ∨ X.env.scope.names.lookup z = some .local := by first | exact .inl rfl | exact .inr rfl | assumption) (hc : X.calm = true := by rfl)
    (hs1 : starEach [a, b, c] X.env = (false, eval a X.env) :: starEach [b, c] X.env := by rfl) (hs2 : starEach [b, c] X.env = (false, eval b X.env) :: starEach [c] X.env := by rfl) (hs3 : starEach [c] X.env = (false, eval c X.env) :: starEach [] X.env := by rfl)
    (hh1 : (assignEach [.Name x px, .Name y py, .Name z pz] X.env).map (·.2) = assign (.Name x px) X.env :: (assignEach [.Name y py, .Name z pz] X.env).map (·.2) := by rfl) (hh2 : (assignEach [.Name y py, .Name z pz] X.env).map (·.2) = assign (.Name y py) X.env :: (assignEach [.Name z pz] X.env).map (·.2) := by rfl)
    (hh3 : (assignEach [.Name z pz] X.env).map (·.2) = assign (.Name z pz) X.env :: (assignEach [] X.env).map (·.2) := by rfl)
    (hn : (assignEach [.Name x px, .Name y py, .Name z pz] X.env).length = 3 := by rfl) (hst : (assignEach [.Name x px, .Name y py, .Name z pz] X.env).findIdx? (·.1) = none := by rfl)
    (hs : swapsWithSole [.Tuple [.Name x px, .Name y py, .Name z pz] kt pt] (.Tuple [a, b, c] k2 pt2) pos.line X.env = pure false := by rfl) (hw : swappedStores [.Tuple [.Name x px, .Name y py, .Name z pz] kt pt] (.Tuple [a, b, c] k2 pt2) X.env = pure none := by rfl)
    (h1 : (assignEach [.Tuple [.Name x px, .Name y py, .Name z pz] kt pt] X.env).map (·.2) = [assign (.Tuple [.Name x px, .Name y py, .Name z pz] kt pt) X.env] := by rfl) (hK : X.K = K := by rfl) :
    ES X W (.Assign [.Tuple [.Name x px, .Name y py, .Name z pz] kt pt] (.Tuple [a, b, c] k2 pt2) pos) (tAsg (tTup (tCons ta (tCons tb (tCons tc tNil)))) (gTup K 3 (gCons (gName i) (gCons (gName j) (gCons (gName m) gNil))))) (gPar3 i j m k l n fa fb fc) := by
  subst hK
  refine ⟨ps_asg (pe_tup (pa_cons ha.pe (pa_cons hb.pe (pa_cons hc3.pe pa_nil hs3) hs2) hs1)) (pg_tup hc (pgs_cons (pg_name hN hi hx fx) (pgs_cons (pg_name hN hj hy fy) (pgs_cons (pg_name hN hm hz fz) pgs_nil hh3) hh2) hh1) hn hst) hs hw h1, fun {G H0 ρ σ F H} rel D P => ?_⟩
  refine ha.sound rel _ (postS_keep rel P fun r v F1 H1 e1 q1 P1 => hb.sound (rel.step e1) _ (postS_keep (rel.step e1) P1 fun r2 v2 F2 H2 e2 q2 P2 => hc3.sound ((rel.step e1).step e2) _ (postS_keep ((rel.step e1).step e2) P2 fun r3 v3 F3 H3 e3 q3 P3 => ?_)))
  have R := Rel.setOwn (i := m) (Rel.setOwn (i := j) (rel.setOwn (i := i) e1 q1) e2 q2) e3 q3
  exact ⟨by show 3 ≤ sizeLine; decide, fun p np => ⟨p, _, rfl, SqT.of upd_same, rfl, v, _, rfl, v2, _, rfl, v3, _, rfl, rfl, P3 _ _ _ (R.step (Ext.addH R.sub np))⟩⟩
end
end DN
namespace DN
open PySem PySem.Spec PyProof.Rows L2
/-- a def of which nothing is promised -/
theorem fn_bad {P : Program} {w : World} {K : PySem.W.Frag} {mg : Str → Option Value} {base : Heap} {CX : CXT} {k n : Nat} {f : Addr} {fd : FuncData} {ps : List Str} (hn : ps.length = n) : FnOk P w K mg base CX k f fd ps (spD K mg n fun _ => .bad) :=
  ⟨fun vs H Q E h => by rw [hn]; exact h.1, fun A outer s H args us vs Q E hr he hb hv h => by obtain ⟨_, _, _, _, _, z⟩ := h; exact z.elim⟩
end DN
/-! Den20: try .. except X as n. -/
namespace DN
open PySem PySem.Spec PyProof.Rows L2
def after (i : Nat) : RO → RO
  | .nx ρ => .nx (ρ.set i none)
  | .ret r => .ret r
  | .retk r ρ => .retk r (ρ.set i none)
  | _ => .bad
open Classical in
noncomputable def gTry (known : List Str) (i : Nat) (gb : Ev → RO) (gh : Str → Addr → Ev → RO) : Ev → RO := fun ρ => match gb ρ with
  | .exc c ρ' => if c ∈ known ∧ ∀ a, after i (gh c a (ρ'.set i (some (.raw (.ref a))))) = after i (gh c 0 (ρ'.set i (some (.raw (.ref 0))))) then after i (gh c 0 (ρ'.set i (some (.raw (.ref 0))))) else .bad
  | .nx ρ' => .nx ρ'
  | .ret r => .ret r
  | .bad => .bad
  | .retk r ρ' => .retk r ρ'
theorem gTry_retk {known : List Str} {i : Nat} {gb : Ev → RO} {gh : Str → Addr → Ev → RO} {ρ ρ' : Ev} {r : R} (h : gb ρ = .retk r ρ') : gTry known i gb gh ρ = .retk r ρ' := by
  unfold gTry
  rw [h]
theorem gTry_exck {known : List Str} {i : Nat} {gb : Ev → RO} {gh : Str → Addr → Ev → RO} {ρ ρ' ρ2 : Ev} {c : Str} {r : R} (h : gb ρ = .exc c ρ') (hc : c ∈ known) (hr : ∀ a, gh c a (ρ'.set i (some (.raw (.ref a)))) = .retk r (ρ2.set i (some (.raw (.ref a))))) : gTry known i gb gh ρ = .retk r (ρ2.set i none) := by
  unfold gTry
  rw [h]
  have e : ∀ a, after i (gh c a (ρ'.set i (some (.raw (.ref a))))) = .retk r (ρ2.set i none) := fun a => by
    rw [hr a]
    show RO.retk r ((ρ2.set i (some (.raw (.ref a)))).set i none) = _
    rw [List.set_set]
  simp only [e, hc, true_and, implies_true, if_true]
theorem gTry_nx {known : List Str} {i : Nat} {gb : Ev → RO} {gh : Str → Addr → Ev → RO} {ρ ρ' : Ev} (h : gb ρ = .nx ρ') : gTry known i gb gh ρ = .nx ρ' := by
  unfold gTry
  rw [h]
theorem gTry_ret {known : List Str} {i : Nat} {gb : Ev → RO} {gh : Str → Addr → Ev → RO} {ρ : Ev} {r : R} (h : gb ρ = .ret r) : gTry known i gb gh ρ = .ret r := by
  unfold gTry
  rw [h]
theorem gTry_exc {known : List Str} {i : Nat} {gb : Ev → RO} {gh : Str → Addr → Ev → RO} {ρ ρ' : Ev} {c : Str} {r : R} (h : gb ρ = .exc c ρ') (hc : c ∈ known) (hr : ∀ a, gh c a (ρ'.set i (some (.raw (.ref a)))) = .ret r) : gTry known i gb gh ρ = .ret r := by
  unfold gTry
  rw [h]
  simp only [hr, hc, true_and, implies_true, if_true]
  rfl
theorem pss_when {X : Cx} {sts : List Stmt} {t : TS} {p : Prop} (h : p → PSs X sts t) : PSs X sts (fun D σ H => p ∧ t D σ H) := ⟨fun pins s σ H D I q => (h q.1).run pins s σ H D I q.2⟩
def onRef (ts : Addr → TS) : Value → TS
  | .ref C => ts C
  | _ => fun _ _ _ => False
section
variable {X : Cx} {W : WX}
theorem es_try {x n : Str} {CL : Addr} {i : Nat} {known : List Str} {body suite : List Stmt} {b₀ : Stmt} {np pos pos' : Pos} {tb : WX → TS} {ts : Addr → Addr → TS} {gb : Ev → RO} {gh : Str → Addr → Ev → RO}
    (hs : X.stack = X.env :: X.outer) (hf : X.env.frame = some X.env.locals) (hN : X.N.Nodup) (hcl : X.mg x = some (.ref CL)) (tk : Takes X W)
    (hex : ∀ c C, c ∈ known → X.mg c = some (.ref C) → PySem.W.exmOne X.K (.ref C) (.ref CL) = some true)
    (hb : ∀ (W' : WX) (pn : List (Addr × Obj)) (xe : Value → Shared → Prop), Takes (X.tr pn xe) W' → PassesOwn (model X.prog X.w) X.A X.env xe → EB (X.tr pn xe) W' body (tb W') gb)
    (hsu : ∀ (a : Addr) (oe : Obj) (C : Addr) (c : Str) (pn : List (Addr × Obj)), c ∈ known → X.mg c = some (.ref C) → Zc (.ref C) none oe → (∃ vs, oe.data = .fields vs) → EB (X.suite a ((a, oe) :: pn)) W0 (b₀ :: suite) (ts a C) (gh c a))
    (hi : X.N[i]? = some n := by rfl) (hln : X.env.kindOf n = some .local := by rfl) (hg : Gl X x := by rfl) (hdb : (x == ("__debug__" : Str)) = false := by decide) :
    ES X W (.Try body [.ExceptHandler (some (.Name x np)) (some n) (b₀ :: suite) pos'] [] [] pos)
      (fun D σ H => tb (wAs X.K (.ref CL) i (fun a cls d D σ H => (∃ c C, c ∈ known ∧ X.mg c = some (.ref C) ∧ cls = .ref C ∧ d = none) ∧ onRef (ts a) cls D σ H) W D) D σ H) (gTry known i gb gh) where
  ps := ps_try_as hs hf hN hi hln ⟨hg, hdb, .inl hcl⟩ tk (fun W' pn xe t p => (hb W' pn xe t p).ps) fun a oe cls d pn hz hf => pss_when fun ⟨c, C, hc, hm, e1, e2⟩ => by
    subst e1 e2
    exact (hsu a oe C c pn hc hm hz hf).ps
  sound := fun {G H0 ρ σ F H} rel D P => by
    refine (hb _ [] (fun e s₁ => wpAny (model X.prog X.w) X.A (noteFrame e X.env) (fun _ s₂ => wpAny (model X.prog X.w) X.A (setFlight e none) (fun _ _ => True) (fun _ _ => True) s₂) (fun _ _ => True) s₁) (fun u s' xx => ?_) PassesOwn.looking).sound rel D ?_
    · obtain ⟨a, B, sI, pins', σ', H', cls, d, rfl, J', nb, up, sky, na, os, ag, w⟩ := xx
      have hfr : X.A.frames = some (X.env :: X.outer) := by rw [J'.ok.frames]; exact congrArg some hs
      have sky' : Sky B (X.env :: X.outer) a (Zc cls d) X.env.locals s'.heap := by rw [← hs]; exact sky
      show wpAny (model X.prog X.w) X.A (noteFrame (.ref a) X.env) _ _ _
      exact Sky.land Zc.steady hfr hf sky' fun h3 fl3 up3 => trivial
    unfold gTry at P
    cases h : gb ρ with
    | nx ρ' => rw [h] at P; exact P
    | ret r => rw [h] at P; exact P
    | bad => rw [h] at P; exact P
    | retk r ρ' => rw [h] at P; exact P
    | exc c ρ' =>
      rw [h] at P
      intro C σ' F' H' mC r
      by_cases hc : c ∈ known ∧ ∀ a, after i (gh c a (ρ'.set i (some (.raw (.ref a))))) = after i (gh c 0 (ρ'.set i (some (.raw (.ref 0)))))
      · have P : PostS X.K X.mg W G H0 D (after i (gh c 0 (ρ'.set i (some (.raw (.ref 0)))))) := by
          have := P
          simp only [if_pos hc] at this
          exact this
        refine ⟨true, hex c C hc.1 mC, fun _ a na => ⟨⟨c, C, hc.1, mC, rfl, rfl⟩, ?_⟩, fun z => nomatch z⟩
        have r2 : Rel X.K G H0 (ρ'.set i (some (.raw (.ref a)))) (σ'.set i (some (.ref a))) F' H' := r.setVal (r := .raw (.ref a)) (v := .ref a) rfl rfl
        refine (hsu a ⟨.ref C, none, .fields #[], #[]⟩ C c [] hc.1 mC ⟨rfl, rfl⟩ ⟨_, rfl⟩).sound r2 _ ?_
        rw [← hc.2 a] at P
        cases ho : gh c a (ρ'.set i (some (.raw (.ref a)))) with
        | nx ρ'' =>
          rw [ho] at P
          exact fun σ'' F'' H'' r3 => P _ F'' H'' r3.unset
        | ret r => rw [ho] at P; exact P
        | exc _ _ => rw [ho] at P; exact P.elim
        | bad => rw [ho] at P; exact P.elim
        | retk r ρ'' =>
          rw [ho] at P
          refine fun v σ'' F'' H'' r3 q z => P v _ F'' H'' r3.unset q fun x j y w c e s => ?_
          by_cases hj : i = j
          · subst hj
            rw [List.getElem?_set] at e
            simp at e
          · rw [List.getElem?_set_ne hj] at e s
            exact z x j y w c e s
      · simp only [if_neg hc] at P
        exact P.elim
end
end DN
/-! Den21: what an except suite asks: isinstance(e, C), [..].index(True). -/
namespace DN
open PySem PySem.Spec PyProof.Rows L2
section
variable {X : Cx} {W : WX} {pos p : Pos} (K : PySem.W.Frag)
@[simp] def fIsE (a : Addr) (i : Nat) (b : Bool) : Ev → Rs R := fun ρ => match ρ[i]? with
  | some (some (.raw (.ref a'))) => if a' = a then .ok (.val (.bool b)) else .bad
  | _ => .bad
theorem ek_isE {a C CC : Addr} {oe : Obj} {pn : List (Addr × Obj)} (i : Nat) {b : Bool} {x q : Str} {p1 p2 : Pos} (E : ExcC K C) (hz : Zc (.ref C) none oe) (hf : ∃ vs, oe.data = .fields vs) (hm : X.mg "isinstance" = none) (hq : X.mg q = some (.ref CC)) (hkit : PySem.W.kitOne K (.ref C) (.ref CC) = some b)
    (hN : X.N[i]? = some x := by rfl) (hv : Vis X.env.scope x := by first | exact Or.inl rfl | exact Or.inr (Or.inl rfl) | exact Or.inr (Or.inr rfl)) (hd : (x == ("__debug__" : Str)) = false := by decide) (hcd : (x == ("__classdict__" : Str)) = false := by decide)
    (hg : Gl X "isinstance" := by rfl) (hgq : Gl X q := by rfl) (hdq : (q == ("__debug__" : Str)) = false := by decide)
    (hs1 : starEach [.Name x p1, .Name q p2] X.env = (false, eval (.Name x p1) X.env) :: starEach [.Name q p2] X.env := by rfl) (hs2 : starEach [.Name q p2] X.env = (false, eval (.Name q p2) X.env) :: starEach [] X.env := by rfl) (hpl : (backTo pos (starEach [.Name q p2] X.env)).any (·.1) = false := by rfl) (hK : X.K = K := by rfl) :
    EE (X.suite a ((a, oe) :: pn)) W (.Call (.Name "isinstance" p) [.Name x p1, .Name q p2] [] pos) (tCB (rIsE K C a) (tCons (tVar i) (tCons (tC (.ref CC)) tNil))) (fIsE a i b) := by
  subst hK
  refine ⟨pe_callB (call_isE E hz hf) hg hm (by decide +kernel) (pa_cons (pe_var hN hv hd hcd) (pa_cons (pe_glob hgq hq rfl hdq) pa_nil hs2) hs1) (by decide) (by decide) hs1 hpl, fun {G H0 ρ σ F H} rel Q P => ?_⟩
  unfold fIsE at P
  split at P
  · rename_i a' h
    split at P
    · rename_i e
      subst e
      obtain ⟨v, hv, e⟩ := rel.at_ i _ h
      cases e
      exact ⟨_, hv, .ref CC, .ref CC, b, rfl, fun u r => by cases r; rfl, hkit, post_flat rel.sub (.bl _) P⟩
    · exact P.elim
  · exact P.elim
def idxT : PyData → Rs R
  | .list ds => match asBs ds with
    | some bs => match bs.findIdx? id with
      | some j => .ok (.val (.int (j : Nat)))
      | none => .bad
    | none => .bad
  | _ => .bad
theorem ek_idxT {o : Expr} {te : TE} {f : Ev → Rs R} {apos cpos p2 : Pos} {jj : Nat} (he : EE X W o te f)
    (hbase : attributeBase o "index" X.env (eval o X.env) = eval o X.env := by rfl)
    (hfew : ((backTo cpos (starEach [Expr.Constant (.bool true) jj p2] X.env)).all (fun x => !x.1) && (backToKw cpos (keywordEach [] X.env)).all (fun x => x.1.isSome)
      && decide (([Expr.Constant (.bool true) jj p2] : List Expr).length + ([] : List Keyword).length + (if ([] : List Keyword).isEmpty then 0 else 1) < 30)) = true := by rfl)
    (hline : (apos.endLine == cpos.line) = true := by rfl) (hs : starEach [Expr.Constant (.bool true) jj p2] X.env = (false, eval (.Constant (.bool true) jj p2) X.env) :: starEach [] X.env := by rfl) (hplain : (backTo cpos (starEach [] X.env)).any (·.1) = false := by rfl) (hK : X.K = K := by rfl) :
    EE X W (.Call (.Attribute o "index" apos) [.Constant (.bool true) jj p2] [] cpos) (tBM K "list" (rIndex K) te (tCons (tC (.bl true)) tNil)) (fUn idxT f) := by
  subst hK
  refine ⟨pe_bm PySem.F.plainAttrs_list PySem.F.slot_list_index PySem.F.type_list_index mt_index he.pe (pa_cons (ee_bl (W := W)).pe pa_nil hs) hbase hfew hline hs hplain, fun {G H0 ρ σ F H} rel Q P => ?_⟩
  refine he.sound rel _ (post_data P fun d v F1 H1 e1 r1 P1 => ?_)
  unfold idxT at P1
  cases r1 with
  | @lst b ys ds hb w =>
    dsimp only at P1
    split at P1
    · rename_i bs hbs
      split at P1
      · rename_i k hk
        have hy := DDs.ofBools (asBs_eq hbs ▸ w)
        obtain ⟨hlt, h1, h2⟩ := List.findIdx?_eq_some_iff_getElem.mp hk
        refine ⟨.inl ⟨rfl, ys, SqL.of (e1.sub _ _ hb)⟩, b, ys, .bl true, k, .bl true, rfl, rfl, SqL.of (e1.sub _ _ hb), rfl, ?_, ?_, rfl, fun m z' hm hz' => ?_, post_flat e1.sub (.int _) P1⟩
        · rw [hy]; simp [flatV]
        · rw [hy, List.getElem?_map]
          simp [hlt]
          simpa using h1
        · rw [hy, List.getElem?_map] at hz'
          have := h2 m hm
          have hml : m < bs.length := by omega
          simp [hml] at hz'
          subst hz'
          simp at this
          rw [this]
          rfl
      · exact P1.elim
    · exact P1.elim
  | _ => exact P1.elim
end
end DN
/-! Den22: [f, g, ..][i](..), a def picked from a list of defs. -/
namespace DN
open PySem PySem.Spec PyProof.Rows L2
structure Picked (P : Program) (w : World) (K : PySem.W.Frag) (mg : Str → Option Value) (base : Heap) (k n : Nat) (f : Addr) (den : List R → Rs R) : Prop where
  ex : ∃ (fd : FuncData) (ps : List Str), FnOk P w K mg base (L2.CX P w) k f fd ps (spD K mg n den) ∧ PySem.W.keepIn K (.ref f) = true ∧ Binds K fd ps []
def refs : List Addr → TA
  | [] => tNil
  | f :: fs => tCons (tC (.ref f)) (refs fs)
theorem refs_is : ∀ (fs : List Addr) (σ : L2.St) (H : Hp) (Q : List V → Hp → Prop), refs fs σ H Q ↔ Q (fs.map V.ref) H
  | [], σ, H, Q => Iff.rfl
  | f :: fs, σ, H, Q => refs_is fs σ H fun xs H1 => Q (.ref f :: xs) H1
@[simp] def fPick (m : Nat) (dens : Nat → List R → Rs R) (fb : Ev → Rs R) (fr : Ev → Rs (List R)) : Ev → Rs R := fun ρ => (fb ρ).bind fun r => r.d.bind fun d => match d with
  | .int j => if 0 ≤ j ∧ j < (m : Nat) then (fr ρ).bind fun rs => dens j.toNat rs else .bad
  | _ => .bad
section
variable {X : Cx} {W : WX} {pos lp sp : Pos} (K : PySem.W.Frag)
def tPick (K : PySem.W.Frag) (mg : Str → Option Value) (n : Nat) (fs : List Addr) (dens : Nat → List R → Rs R) (E : L2.St → XK) (tb : TE) (t : TA) : TE := fun σ H Q =>
  tOp (rIxL K) (tLst (refs fs)) tb σ H fun v H1 => ∃ j f, v = .ref f ∧ fs[j]? = some f ∧ t σ H1 fun vs H2 => spD K mg n (dens j) vs H2 Q (E σ)
theorem ek_pick {k n : Nat} {fs : List Addr} {dens : Nat → List R → Rs R} {ns es : List Expr} {b e : Expr} {tb : TE} {fb : Ev → Rs R} {t : TA} {fr : Ev → Rs (List R)} {mg : Str → Option Value}
    (hp : ∀ j f, fs[j]? = some f → Picked X.prog X.w K mg X.base k n f (dens j)) (hr : Room k X.A) (tk : Takes X W) (hn : PA X ns (refs fs)) (hb : EE X W b tb fb) (ha : EA X W (e :: es) t fr) (hfl : fs.length ≤ 100 := by decide) (hl : (e :: es).length = n := by rfl)
    (hs : PlainIx b := by exact fun _ _ => rfl) (ht : eval (.Call (.Subscript (.List ns lp) b sp) (e :: es) [] pos) X.env = (do callWith pos (← eval (.Subscript (.List ns lp) b sp) X.env) [] (backTo pos (starEach (e :: es) X.env)) (backToKw pos (keywordEach [] X.env))) := by rfl)
    (he : starEach (e :: es) X.env = (false, eval e X.env) :: starEach es X.env := by rfl) (hpl : (backTo pos (starEach es X.env)).any (·.1) = false := by rfl) (hK : X.K = K := by rfl) (hmg : X.mg = mg := by rfl) :
    EE X W (.Call (.Subscript (.List ns lp) b sp) (e :: es) [] pos) (tPick K mg n fs dens (WE W) tb t) (fPick fs.length dens fb fr) := by
  subst hK hmg
  refine ⟨⟨fun pins s σ H Q I h => ?_⟩, fun {G H0 ρ σ F H} rel Q P => ?_⟩
  · refine Call_ (thn ((pe_ix ix_list (pe_lst hn) hb.pe hs).run pins s σ H _ I h) fun u s1 ⟨v, H1, I1, rv, j, f, e1, hj, q⟩ => ?_) ht
    subst e1
    obtain rfl : u = Value.ref f := rv
    obtain ⟨fd, ps, F, hk, hbd⟩ := (hp j f hj).ex
    refine PySem.W.callWith_K (h₀ := X.base) I.ok.mod.kin hk (thn (ha.pa.run pos pins s1 σ H1 _ I1 q) fun us s2 ⟨vs, H2, I2, r, q2⟩ => ⟨I2.kIn, ?_⟩) he hpl
    exact run_fnS F hr hbd (passAt tk σ) I2 r q2
  · refine (refs_is fs σ H _).mpr ⟨by simp; exact Nat.le_trans hfl (by decide), fun p np => ?_⟩
    have e0 : Ext F H F (upd H p (.lst (fs.map V.ref))) := Ext.addH rel.sub np
    unfold fPick at P
    refine hb.sound (rel.step e0) _ (post_data (post_step P e0) fun d v F1 H1 e1 r1 P1 => ?_)
    cases r1 with
    | int j =>
      dsimp only at P1
      split at P1
      · rename_i hj
        obtain ⟨f, hf⟩ : ∃ f, fs[j.toNat]? = some f := ⟨_, List.getElem?_eq_getElem (by omega)⟩
        have hat : atI (fs.map V.ref) j = some (.ref f) := by
          obtain ⟨m, rfl⟩ := Int.eq_ofNat_of_zero_le hj.1
          have hf : fs[m]? = some f := by simpa using hf
          exact atI_nat (by rw [List.getElem?_map, hf]; rfl)
        refine ⟨p, _, j, .ref f, rfl, rfl, SqL.of (e1.hh _ _ upd_same), hat, j.toNat, f, rfl, hf, ?_⟩
        refine ha.sound ((rel.step e0).step e1) _ (postA_out P1 fun rs vs F3 H3 q e3 r3 P3 => ⟨by rw [r3.len, ha.len ρ rs q]; exact hl, rs, F3, e3.sub, r3, ?_⟩)
        cases hd : dens j.toNat rs with
        | ok r => rw [hd] at P3; exact P3
        | err c => rw [hd] at P3; exact P3
        | bad => rw [hd] at P3; exact P3
      · exact P1.elim
    | _ => exact P1.elim
end
end DN
/-! Den23: x = [.. for .. for ..] on one line. -/
namespace DN
open PySem PySem.Spec PyProof.Rows L2
theorem lookup_relabel {env : Env} {x : Str} : ∀ {names : List (Str × NameKind)}, names.lookup x = some .cell ∨ names.lookup x = some .free →
    (names.map fun (n, k) => if (k == NameKind.free && env.scope.kind == .function && env.kindOf n == some .cell) then (n, NameKind.cell) else (n, k)).lookup x = some .cell ∨ (names.map fun (n, k) => if (k == NameKind.free && env.scope.kind == .function && env.kindOf n == some .cell) then (n, NameKind.cell) else (n, k)).lookup x = some .free
  | [], h => by rcases h with h | h <;> cases h
  | (n, k) :: r, h => by
    rw [List.map_cons]
    cases hx : x == n with
    | true =>
      have hk : k = .cell ∨ k = .free := by
        rcases h with h | h
        · rw [List.lookup_cons, hx] at h
          injection h with h
          exact .inl h
        · rw [List.lookup_cons, hx] at h
          injection h with h
          exact .inr h
      by_cases hc : (k == NameKind.free && env.scope.kind == .function && env.kindOf n == some .cell) = true
      · left
        simp only [if_pos hc, List.lookup_cons, hx]
      · simp only [if_neg hc, List.lookup_cons, hx]
        rcases hk with rfl | rfl
        · exact .inl rfl
        · exact .inr rfl
    | false =>
      have h' : r.lookup x = some .cell ∨ r.lookup x = some .free := by
        rcases h with h | h
        · rw [List.lookup_cons, hx] at h; exact .inl h
        · rw [List.lookup_cons, hx] at h; exact .inr h
      have ih := lookup_relabel (env := env) h'
      by_cases hc : (k == NameKind.free && env.scope.kind == .function && env.kindOf n == some .cell) = true
      · simp only [if_pos hc, List.lookup_cons, hx]
        exact ih
      · simp only [if_neg hc, List.lookup_cons, hx]
        exact ih
/-- a comprehension within a comprehension -/
theorem blkOk_in {N : List Str} {sc scope : Scope} {env : Env} {own : List (Str × Nat)} (h : blkC N sc scope own = true) : BlkOk N (relabel sc env) scope own where
  kind := (blkOk_by h).kind
  uniq := (blkOk_by h).uniq
  ix := (blkOk_by h).ix
  free := fun y hy e => lookup_relabel ((blkOk_by h).free y hy e)
  own := (blkOk_by h).own
section
variable {X : Cx} {W : WX} {pos : Pos}
theorem es_setLc2F (i : Nat) {y : Str} {py : Pos} {elt tg iter tg1 iter1 : Expr} {ifs ifs1 : List Expr} {scope : Scope} {own : List (Str × Nat)} {spos : Pos} {wi wi1 : TI} {g g1 : TG} {tt tt1 : TT} {te : TE} {i0 : Nat} {is1 : List Nat} {fi fi1 : Ev → Rs (List PyData)} {ft1 : PyData → Ev → Rs Ev} {fc fc1 : Ev → Rs Bool} {fe : Ev → Rs R}
    (hN : X.N.Nodup) (hi : EI X W tg iter wi fi) (ok : BlkOk X.N X.env.scope scope own)
    (hg : ∀ (s : Shared) (H : Hp) (C : Addr) (cl : List (Str × Addr)) (fp : List Addr), EG (X.blk s H scope (compEnvC scope cl C X.env) fp) tg g [i0] (tName i0))
    (ht : ∀ (s : Shared) (H : Hp) (C : Addr) (cl : List (Str × Addr)) (fp : List Addr), ETs (X.blk s H scope (compEnvC scope cl C X.env) fp) W0 ifs tt fc)
    (hi1 : ∀ (s : Shared) (H : Hp) (C : Addr) (cl : List (Str × Addr)) (fp : List Addr), EI (X.blk s H scope (compEnvC scope cl C X.env) fp) W0 tg1 iter1 wi1 fi1)
    (hg1 : ∀ (s : Shared) (H : Hp) (C : Addr) (cl : List (Str × Addr)) (fp : List Addr), EG (X.blk s H scope (compEnvC scope cl C X.env) fp) tg1 g1 is1 ft1)
    (ht1 : ∀ (s : Shared) (H : Hp) (C : Addr) (cl : List (Str × Addr)) (fp : List Addr), ETs (X.blk s H scope (compEnvC scope cl C X.env) fp) W0 ifs1 tt1 fc1)
    (he : ∀ (s : Shared) (H : Hp) (C : Addr) (cl : List (Str × Addr)) (fp : List Addr), EE (X.blk s H scope (compEnvC scope cl C X.env) fp) W0 elt te fe)
    (hsub : ∀ i ∈ [i0], i ∈ own.map (·.2) := by decide) (hv : ∀ i ∈ is1, i ∈ own.map (·.2) := by decide) (hc : X.calm = true := by rfl) (hs : ∀ x, foldedSetIterable iter X.env x = pure x := by intro _; rfl) (hs1 : ∀ env x, foldedSetIterable iter1 env x = pure x := by intro _ _; rfl)
    (hy : X.N[i]? = some y := by rfl) (hyl : X.env.scope.names.lookup y = some .local := by rfl) (hk : X.env.scope.kind = .function := by rfl) (hl : (py.line == pos.line) = true := by rfl)
    (ha : (scope.names.any fun (n, k) => n == y && (k == .local || k == .cell)) = false := by decide +kernel) :
    ES X W (.Assign [.Name y py] (.ListComp elt [⟨tg, iter, ifs, 0⟩, ⟨tg1, iter1, ifs1, 0⟩] scope pos) spos) (tAsg (tLc2 wi g tt wi1 g1 tt1 te (own.map (·.2)) is1) (gName i)) (gAsgF i (fLc2 (own.map (·.2)) is1 fi (tName i0) fc fi1 ft1 fc1 fe)) :=
  es_asgPF (ps_setLc2 hc hN hy hyl (sw_true hk hyl hl ha) hi.pi ok hv (fun s H C cl fp => (hg s H C cl fp).pg) (fun s H C cl fp => (ht s H C cl fp).pts) (fun s H C cl fp => (hi1 s H C cl fp).pi) (fun s H C cl fp => (hg1 s H C cl fp).pg) (fun s H C cl fp => (ht1 s H C cl fp).pts) (fun s H C cl fp => (he s H C cl fp).pe) hs hs1)
    (ee_lc2 (pos := pos) hN hi ok hg ht hi1 hg1 ht1 he hsub hv hc hs hs1)
theorem es_setLc2 (i : Nat) {y : Str} {py : Pos} {elt tg iter tg1 iter1 : Expr} {ifs ifs1 : List Expr} {scope : Scope} {own : List (Str × Nat)} {spos : Pos} {wi wi1 : TI} {g g1 : TG} {tt tt1 : TT} {te : TE} {i0 : Nat} {is1 : List Nat} {fi fi1 : Ev → Rs (List PyData)} {ft1 : PyData → Ev → Rs Ev} {fc fc1 : Ev → Rs Bool} {fe : Ev → Rs R}
    (hN : X.N.Nodup) (hi : EI X W tg iter wi fi) (ok : BlkOk X.N X.env.scope scope own)
    (hg : ∀ (s : Shared) (H : Hp) (C : Addr) (cl : List (Str × Addr)) (fp : List Addr), EG (X.blk s H scope (compEnvC scope cl C X.env) fp) tg g [i0] (tName i0))
    (ht : ∀ (s : Shared) (H : Hp) (C : Addr) (cl : List (Str × Addr)) (fp : List Addr), ETs (X.blk s H scope (compEnvC scope cl C X.env) fp) W0 ifs tt fc)
    (hi1 : ∀ (s : Shared) (H : Hp) (C : Addr) (cl : List (Str × Addr)) (fp : List Addr), EI (X.blk s H scope (compEnvC scope cl C X.env) fp) W0 tg1 iter1 wi1 fi1)
    (hg1 : ∀ (s : Shared) (H : Hp) (C : Addr) (cl : List (Str × Addr)) (fp : List Addr), EG (X.blk s H scope (compEnvC scope cl C X.env) fp) tg1 g1 is1 ft1)
    (ht1 : ∀ (s : Shared) (H : Hp) (C : Addr) (cl : List (Str × Addr)) (fp : List Addr), ETs (X.blk s H scope (compEnvC scope cl C X.env) fp) W0 ifs1 tt1 fc1)
    (he : ∀ (s : Shared) (H : Hp) (C : Addr) (cl : List (Str × Addr)) (fp : List Addr), EE (X.blk s H scope (compEnvC scope cl C X.env) fp) W0 elt te fe)
    (hsub : ∀ i ∈ [i0], i ∈ own.map (·.2) := by decide) (hv : ∀ i ∈ is1, i ∈ own.map (·.2) := by decide) (hc : X.calm = true := by rfl) (hs : ∀ x, foldedSetIterable iter X.env x = pure x := by intro _; rfl) (hs1 : ∀ env x, foldedSetIterable iter1 env x = pure x := by intro _ _; rfl)
    (hy : X.N[i]? = some y := by rfl) (hyl : X.env.scope.names.lookup y = some .local := by rfl) (hk : X.env.scope.kind = .function := by rfl) (hl : (py.line == pos.line) = true := by rfl)
    (ha : (scope.names.any fun (n, k) => n == y && (k == .local || k == .cell)) = false := by decide +kernel) :
    ES X W (.Assign [.Name y py] (.ListComp elt [⟨tg, iter, ifs, 0⟩, ⟨tg1, iter1, ifs1, 0⟩] scope pos) spos) (tAsg (tLc2 wi g tt wi1 g1 tt1 te (own.map (·.2)) is1) (gName i)) (gAsg i (fLc2 (own.map (·.2)) is1 fi (tName i0) fc fi1 ft1 fc1 fe)) :=
  es_asgP (ps_setLc2 hc hN hy hyl (sw_true hk hyl hl ha) hi.pi ok hv (fun s H C cl fp => (hg s H C cl fp).pg) (fun s H C cl fp => (ht s H C cl fp).pts) (fun s H C cl fp => (hi1 s H C cl fp).pi) (fun s H C cl fp => (hg1 s H C cl fp).pg) (fun s H C cl fp => (ht1 s H C cl fp).pts) (fun s H C cl fp => (he s H C cl fp).pe) hs hs1)
    (ee_lc2 (pos := pos) hN hi ok hg ht hi1 hg1 ht1 he hsub hv hc hs hs1)
end
end DN
/-! DenL: how denotations are reckoned. -/
namespace DN
open PySem PySem.Spec PyProof.Rows L2

/-! ### what the operations give, by the form of their operands -/
section
variable (g : Int → Int → PyData) (i j : Int) (a b : Str) (xs ys : List PyData) (d e : PyData) (ρ : Ev) (t : PyData → Ev → Rs Ev) (ts : List PyData → Ev → Rs Ev)
@[simp] theorem oI_ii : oI g (.int i) (.int j) = .ok (.val (g i j)) := rfl
@[simp] theorem oIc_ii (C : Int → Int → Prop) [∀ i j, Decidable (C i j)] : oIc C g (.int i) (.int j) = if C i j then .ok (.val (g i j)) else .bad := rfl
@[simp] theorem opAdd_ii : opAdd (.int i) (.int j) = .ok (.val (.int (i + j))) := rfl
@[simp] theorem opAdd_ss : opAdd (.str a) (.str b) = if a.length + b.length ≤ lim then .ok (.val (.str (a ++ b))) else .bad := rfl
@[simp] theorem opAdd_ll : opAdd (.list xs) (.list ys) = if xs.length + ys.length ≤ lim then .ok (.own (xs ++ ys)) else .bad := rfl
@[simp] theorem opAdd_tt : opAdd (.tuple xs) (.tuple ys) = if xs.length + ys.length ≤ lim then .ok (.val (.tuple (xs ++ ys))) else .bad := rfl
@[simp] theorem opIs_n : opIs .none .none = .ok (.val (.bool true)) := rfl
@[simp] theorem opIs_in : opIs (.int i) .none = .ok (.val (.bool false)) := rfl
@[simp] theorem opIs_tn : opIs (.tuple xs) .none = .ok (.val (.bool false)) := rfl
@[simp] theorem opIs_sn : opIs (.str a) .none = .ok (.val (.bool false)) := rfl
@[simp] theorem opIs_bb (x y : Bool) : opIs (.bool x) (.bool y) = .ok (.val (.bool (decide (x = y)))) := rfl
@[simp] theorem opIsNot_n : opIsNot .none .none = .ok (.val (.bool false)) := rfl
@[simp] theorem opIsNot_in : opIsNot (.int i) .none = .ok (.val (.bool true)) := rfl
@[simp] theorem opIsNot_tn : opIsNot (.tuple xs) .none = .ok (.val (.bool true)) := rfl
@[simp] theorem opIsNot_sn : opIsNot (.str a) .none = .ok (.val (.bool true)) := rfl
@[simp] theorem opIsNot_bb (x y : Bool) : opIsNot (.bool x) (.bool y) = .ok (.val (.bool (!decide (x = y)))) := rfl
@[simp] theorem opNeg_i : opNeg (.int i) = .ok (.val (.int (-i))) := rfl
@[simp] theorem opIx_l : opIx (.list xs) (.int i) = match atI xs i with | some d => .ok (.val d) | none => .bad := rfl
@[simp] theorem opIx_t : opIx (.tuple xs) (.int i) = match atI xs i with | some d => .ok (.val d) | none => .bad := rfl
@[simp] theorem asI_i : asI (.int i) = .ok (some i) := rfl
@[simp] theorem opSl_l (lo hi : Option Int) : opSl (.list xs) lo hi = .ok (.own (cut xs lo hi)) := rfl
@[simp] theorem opSl_t (lo hi : Option Int) : opSl (.tuple xs) lo hi = .ok (.val (.tuple (cut xs lo hi))) := rfl
@[simp] theorem opSl_s (lo hi : Option Int) : opSl (.str a) lo hi = if a.length ≤ lim then .ok (.val (.str (cutS a lo hi))) else .bad := rfl
@[simp] theorem biLen_l : biLen [.list xs] = .ok (.val (.int xs.length)) := rfl
@[simp] theorem biLen_t : biLen [.tuple xs] = .ok (.val (.int xs.length)) := rfl
@[simp] theorem biLen_s : biLen [.str a] = if a.length ≤ lim then .ok (.val (.int a.length)) else .bad := rfl
@[simp] theorem biAll_l : biAll [.list xs] = match asBs xs with | some bs => .ok (.val (.bool (bs.all id))) | none => .bad := rfl
@[simp] theorem biAny_l : biAny [.list xs] = match asBs xs with | some bs => .ok (.val (.bool (bs.any id))) | none => .bad := rfl
@[simp] theorem biList_l : biList [.list xs] = .ok (.own xs) := rfl
@[simp] theorem biList_t : biList [.tuple xs] = .ok (.own xs) := rfl
@[simp] theorem biTuple_l : biTuple [.list xs] = .ok (.val (.tuple xs)) := rfl
@[simp] theorem biTuple_t : biTuple [.tuple xs] = .ok (.val (.tuple xs)) := rfl
@[simp] theorem biMax2_i : biMax2 [.int i, .int j] = .ok (.val (.int (if j > i then j else i))) := rfl
@[simp] theorem biMin2_i : biMin2 [.int i, .int j] = .ok (.val (.int (if j < i then j else i))) := rfl
@[simp] theorem biInt_i : biInt [.int i] = .ok (.val (.int i)) := rfl
@[simp] theorem rg1_i : rg1 [.int j] = if j.natAbs ≤ 1000000 then .ok (rngD 0 j.toNat) else .bad := rfl
@[simp] theorem rg2_i : rg2 [.int i, .int j] = if i.natAbs ≤ 1000000 ∧ j.natAbs ≤ 1000000 then .ok (rngD i (j - i).toNat) else .bad := rfl
@[simp] theorem tsNil_n : tsNil [] ρ = .ok ρ := rfl
@[simp] theorem tsCons_c : tsCons t ts (d :: xs) ρ = (t d ρ).bind (ts xs) := rfl
@[simp] theorem tTupl_t : tTupl ts (.tuple xs) ρ = ts xs ρ := rfl
@[simp] theorem opRepT_ti : opRepT (.tuple xs) (.int i) = if xs ≠ [] ∧ 2 ≤ i ∧ i ≤ 1000 ∧ xs.length ≤ 1000 then .ok (.val (.tuple (List.replicate i.toNat xs).flatten)) else .bad := rfl
@[simp] theorem opRepL_li : opRepL (.list xs) (.int i) = if i.natAbs ≤ 1000000 ∧ xs.length * i.toNat ≤ lim then .ok (.own (List.replicate i.toNat xs).flatten) else .bad := rfl
@[simp] theorem biSum_l : biSum [.list xs] = match asIs xs with | some bs => .ok (.val (.int bs.sum)) | none => .bad := rfl
@[simp] theorem biMax_l : biMax [.list xs] = match asIs xs with | some bs => if bs = [] then .bad else .ok (.val (.int (maxOf bs))) | none => .bad := rfl
@[simp] theorem biMin_l : biMin [.list xs] = match asIs xs with | some bs => if bs = [] then .bad else .ok (.val (.int (minOf bs))) | none => .bad := rfl
end
theorem rngD_eq (n : Nat) : rngD 0 n = (List.range n).map fun i => PyData.int (i : Nat) := by
  unfold rngD
  apply List.map_congr_left
  intro i _
  simp
theorem rg1_nat {n : Nat} (h : n ≤ 1000000) : rg1 [.int (n : Nat)] = .ok ((List.range n).map fun i => PyData.int (i : Nat)) := by
  rw [rg1_i, if_pos (by omega), rngD_eq]
  rfl
theorem range_get {α : Type} {n i : Nat} {f : Nat → α} {d : α} (h : ((List.range n).map f)[i]? = some d) : i < n ∧ d = f i := by
  rw [List.getElem?_map, Option.map_eq_some_iff] at h
  obtain ⟨j, hj, rfl⟩ := h
  rw [List.getElem?_eq_some_iff] at hj
  obtain ⟨hj, hj3⟩ := hj
  rw [List.length_range] at hj
  rw [List.getElem_range] at hj3
  subst hj3
  exact ⟨hj, rfl⟩
theorem list_get {α : Type} {xs : List α} {f : α → PyData} {i : Nat} {d : PyData} (h : (xs.map f)[i]? = some d) : ∃ x, xs[i]? = some x ∧ d = f x ∧ xs.take (i + 1) = xs.take i ++ [x] := by
  rw [List.getElem?_map, Option.map_eq_some_iff] at h
  obtain ⟨x, hx, rfl⟩ := h
  refine ⟨x, hx, rfl, ?_⟩
  rw [List.take_succ, hx]
  rfl
/-! ### comprehensions over typed items -/
theorem lcGo_typed {α : Type} {ft : PyData → Ev → Rs Ev} {fc : Ev → Rs Bool} {fe : Ev → Rs R} {ρ : Ev} (enc : α → PyData) (en : α → Ev) (c : α → Bool) (h : α → PyData) :
    ∀ (xs : List α), (∀ x ∈ xs, ft (enc x) ρ = .ok (en x)) → (∀ x ∈ xs, fc (en x) = .ok (c x)) → (∀ x ∈ xs, c x = true → (fe (en x)).bind R.d = .ok (h x)) →
      lcGo ft fc fe ρ (xs.map enc) = .ok ((xs.filter c).map h)
  | [], _, _, _ => rfl
  | x :: xs, h1, h2, h3 => by
    have ih := lcGo_typed enc en c h xs (fun y hy => h1 y (List.mem_cons_of_mem _ hy)) (fun y hy => h2 y (List.mem_cons_of_mem _ hy)) (fun y hy => h3 y (List.mem_cons_of_mem _ hy))
    rw [List.map_cons]
    unfold lcGo
    rw [h1 x List.mem_cons_self, bind_ok, h2 x List.mem_cons_self, bind_ok]
    cases hc : c x with
    | true =>
      rw [if_pos rfl]
      have e := h3 x List.mem_cons_self hc
      rw [List.filter_cons_of_pos hc, List.map_cons]
      cases hf : fe (en x) with
      | ok r =>
        rw [hf, bind_ok] at e
        rw [bind_ok, e, bind_ok, ih, bind_ok]
      | err c => rw [hf] at e; cases e
      | bad => rw [hf] at e; cases e
    | false =>
      rw [if_neg (by decide), ih, List.filter_cons_of_neg (by simp [hc])]
theorem lcGo_map {α : Type} {ft : PyData → Ev → Rs Ev} {fe : Ev → Rs R} {ρ : Ev} (enc : α → PyData) (en : α → Ev) (h : α → PyData) (xs : List α) (h1 : ∀ x ∈ xs, ft (enc x) ρ = .ok (en x)) (h3 : ∀ x ∈ xs, (fe (en x)).bind R.d = .ok (h x)) :
    lcGo ft fYes fe ρ (xs.map enc) = .ok (xs.map h) := by
  rw [lcGo_typed enc en (fun _ => true) h xs h1 (fun _ _ => rfl) (fun x hx _ => h3 x hx)]
  rw [List.filter_eq_self.mpr (fun _ _ => rfl)]
theorem fLc_of {vs : List Nat} {fi : Ev → Rs (List PyData)} {ft : PyData → Ev → Rs Ev} {fc : Ev → Rs Bool} {fe : Ev → Rs R} {ρ : Ev} {ds xs : List PyData} (h : fi ρ = .ok ds) (hl : ds.length ≤ lim) (hg : lcGo ft fc fe (wipeE ρ vs) ds = .ok xs) :
    fLc vs fi ft fc fe ρ = .ok (.own xs) := by
  unfold fLc
  rw [h, bind_ok, if_pos hl, hg]
  rfl
@[simp] theorem capL_short (ds : List PyData) (r : R) (h : ds.length ≤ 1000) : capL ds r = .ok r := by
  unfold capL
  rw [if_pos (Nat.le_trans h (by decide))]
/-! ### loops -/
theorem loop_rel {ft : PyData → Ev → Rs Ev} {gb : Ev → RO} (I : Nat → Ev → Prop) : ∀ (ds : List PyData) (k : Nat) (ρ : Ev), I k ρ →
    (∀ (i : Nat) (d : PyData) (ρ : Ev), ds[i]? = some d → I (k + i) ρ → ∃ ρ1 ρ2, ft d ρ = .ok ρ1 ∧ gb ρ1 = .nx ρ2 ∧ I (k + i + 1) ρ2) → ∃ ρ', loop ft gb ds ρ = .nx ρ' ∧ I (k + ds.length) ρ'
  | [], k, ρ, h, _ => ⟨ρ, rfl, h⟩
  | d :: ds, k, ρ, h, hs => by
    obtain ⟨ρ1, ρ2, e1, e2, h2⟩ := hs 0 d ρ rfl h
    obtain ⟨ρ', e3, h3⟩ := loop_rel I ds (k + 1) ρ2 (by simpa using h2) (fun i d' ρ' hd hI => by
      have := hs (i + 1) d' ρ' (by simpa using hd) (by rw [show k + (i + 1) = k + 1 + i by omega]; exact hI)
      rw [show k + (i + 1) + 1 = k + 1 + i + 1 by omega] at this
      exact this)
    refine ⟨ρ', ?_, by rw [List.length_cons, show k + (ds.length + 1) = k + 1 + ds.length by omega]; exact h3⟩
    unfold loop
    rw [e1]
    show (gb ρ1).seq _ = _
    rw [e2]
    exact e3
/-- a loop whose turns leave the environment as a function of the turn -/
theorem loop_env {ft : PyData → Ev → Rs Ev} {gb : Ev → RO} {ds : List PyData} (I : Nat → Ev → Prop) {ρ : Ev} (h0 : I 0 ρ)
    (hs : ∀ (i : Nat) (d : PyData) (ρ : Ev), ds[i]? = some d → I i ρ → ∃ ρ1 ρ2, ft d ρ = .ok ρ1 ∧ gb ρ1 = .nx ρ2 ∧ I (i + 1) ρ2) : ∃ ρ', loop ft gb ds ρ = .nx ρ' ∧ I ds.length ρ' := by
  have := loop_rel (ft := ft) (gb := gb) I ds 0 ρ h0 (fun i d ρ hd hI => by simpa using hs i d ρ hd (by simpa using hI))
  simpa using this
theorem gFor_env {fi : Ev → Rs (List PyData)} {ft : PyData → Ev → Rs Ev} {gb : Ev → RO} {ds : List PyData} (I : Nat → Ev → Prop) {ρ : Ev} (hf : fi ρ = .ok ds) (h0 : I 0 ρ)
    (hs : ∀ (i : Nat) (d : PyData) (ρ : Ev), ds[i]? = some d → I i ρ → ∃ ρ1 ρ2, ft d ρ = .ok ρ1 ∧ gb ρ1 = .nx ρ2 ∧ I (i + 1) ρ2) : ∃ ρ', gFor fi ft gb ρ = .nx ρ' ∧ I ds.length ρ' := by
  unfold gFor
  rw [hf]
  exact loop_env I h0 hs
/-- a while by a measure -/
theorem whileN_rel {fc : Ev → Rs Bool} {gb : Ev → RO} (I : Ev → Prop) (μ : Ev → Nat) (hs : ∀ ρ, I ρ → ∃ b, fc ρ = .ok b ∧ (b = true → ∃ ρ', gb ρ = .nx ρ' ∧ I ρ' ∧ μ ρ' < μ ρ)) :
    ∀ (n : Nat) (ρ : Ev), I ρ → μ ρ < n → ∃ ρ', whileN fc gb n ρ = .nx ρ' ∧ I ρ' ∧ fc ρ' = .ok false
  | 0, ρ, _, h => by omega
  | n + 1, ρ, hI, h => by
    obtain ⟨b, e, hb⟩ := hs ρ hI
    unfold whileN
    rw [e, onR_ok]
    cases b with
    | true =>
      obtain ⟨ρ1, e1, h1, h2⟩ := hb rfl
      rw [if_pos rfl, e1]
      exact whileN_rel I μ hs n ρ1 h1 (by omega)
    | false =>
      rw [if_neg (by decide)]
      exact ⟨ρ, rfl, hI, e⟩
theorem gWhile_rel {fc : Ev → Rs Bool} {gb : Ev → RO} (I : Ev → Prop) (μ : Ev → Nat) {ρ : Ev} (h0 : I ρ) (hμ : μ ρ < 1000000) (hs : ∀ ρ, I ρ → ∃ b, fc ρ = .ok b ∧ (b = true → ∃ ρ', gb ρ = .nx ρ' ∧ I ρ' ∧ μ ρ' < μ ρ)) :
    ∃ ρ', gWhile fc gb ρ = .nx ρ' ∧ I ρ' ∧ fc ρ' = .ok false := whileN_rel I μ hs _ ρ h0 hμ

/-- the whole number in a slot -/
def natAt (i : Nat) (ρ : Ev) : Nat := match ρ[i]? with
  | some (some (R.val (PyData.int a))) => a.toNat
  | _ => 0
/-! ### isinstance -/
def isI : PyData → Bool
  | .int _ => true
  | .bool _ => true
  | _ => false
def isB : PyData → Bool
  | .bool _ => true
  | _ => false
def isT : PyData → Bool
  | .tuple _ => true
  | _ => false
def isL : PyData → Bool
  | .list _ => true
  | _ => false
def isS : PyData → Bool
  | .str _ => true
  | _ => false
theorem kit_facts : kitB "NoneType" "int" = some false ∧ kitB "bool" "int" = some true ∧ kitB "int" "int" = some true ∧ kitB "str" "int" = some false ∧ kitB "list" "int" = some false ∧ kitB "tuple" "int" = some false ∧ kitB "dict" "int" = some false ∧
    kitB "NoneType" "bool" = some false ∧ kitB "bool" "bool" = some true ∧ kitB "int" "bool" = some false ∧ kitB "str" "bool" = some false ∧ kitB "list" "bool" = some false ∧ kitB "tuple" "bool" = some false ∧ kitB "dict" "bool" = some false ∧
    kitB "NoneType" "tuple" = some false ∧ kitB "bool" "tuple" = some false ∧ kitB "int" "tuple" = some false ∧ kitB "str" "tuple" = some false ∧ kitB "list" "tuple" = some false ∧ kitB "tuple" "tuple" = some true ∧ kitB "dict" "tuple" = some false ∧
    kitB "NoneType" "list" = some false ∧ kitB "bool" "list" = some false ∧ kitB "int" "list" = some false ∧ kitB "str" "list" = some false ∧ kitB "list" "list" = some true ∧ kitB "tuple" "list" = some false ∧ kitB "dict" "list" = some false ∧
    kitB "NoneType" "str" = some false ∧ kitB "bool" "str" = some false ∧ kitB "int" "str" = some false ∧ kitB "str" "str" = some true ∧ kitB "list" "str" = some false ∧ kitB "tuple" "str" = some false ∧ kitB "dict" "str" = some false := by decide +kernel
@[simp] theorem isi_int (d : PyData) : isiD "int" d = .ok (.val (.bool (isI d))) := by
  obtain ⟨a1, a2, a3, a4, a5, a6, a7, _⟩ := kit_facts
  cases d <;> simp [isiD, tyD, isI, *]
@[simp] theorem isi_bool (d : PyData) : isiD "bool" d = .ok (.val (.bool (isB d))) := by
  obtain ⟨_, _, _, _, _, _, _, a1, a2, a3, a4, a5, a6, a7, _⟩ := kit_facts
  cases d <;> simp [isiD, tyD, isB, *]
@[simp] theorem isi_tuple (d : PyData) : isiD "tuple" d = .ok (.val (.bool (isT d))) := by
  obtain ⟨_, _, _, _, _, _, _, _, _, _, _, _, _, _, a1, a2, a3, a4, a5, a6, a7, _⟩ := kit_facts
  cases d <;> simp [isiD, tyD, isT, *]
@[simp] theorem isi_list (d : PyData) : isiD "list" d = .ok (.val (.bool (isL d))) := by
  obtain ⟨_, _, _, _, _, _, _, _, _, _, _, _, _, _, _, _, _, _, _, _, _, a1, a2, a3, a4, a5, a6, a7, _⟩ := kit_facts
  cases d <;> simp [isiD, tyD, isL, *]
@[simp] theorem isi_str (d : PyData) : isiD "str" d = .ok (.val (.bool (isS d))) := by
  obtain ⟨_, _, _, _, _, _, _, _, _, _, _, _, _, _, _, _, _, _, _, _, _, _, _, _, _, _, _, _, a1, a2, a3, a4, a5, a6, a7⟩ := kit_facts
  cases d <;> simp [isiD, tyD, isS, *]
/-! ### sizes and == -/
@[simp] theorem asB_bool (b : Bool) : asB (.bool b) = .ok b := rfl
theorem lay_int (i : Int) : PyData.canLay0 (.int i) = true := by simp [PyData.canLay0]
/-! how deep data lie, at most -/
mutual
def dOk : Nat → PyData → Bool
  | _, .none => true
  | _, .bool _ => true
  | _, .int _ => true
  | _, .str x => PyData.strOk x
  | n + 1, .list xs => dOks n xs
  | n + 1, .tuple xs => dOks n xs
  | _, _ => false
def dOks : Nat → List PyData → Bool
  | _, [] => true
  | n, x :: xs => dOk n x && dOks n xs
end
mutual
theorem dOk_lay : ∀ (n : Nat) (d : PyData), dOk n d = true → d.canLay0 = true ∧ d.depth ≤ n
  | _, .none, _ => by simp [PyData.canLay0, PyData.depth]
  | _, .bool _, _ => by simp [PyData.canLay0, PyData.depth]
  | _, .int _, _ => by simp [PyData.canLay0, PyData.depth]
  | _, .str x, h => by
    have h' : PyData.strOk x = true := by simpa [dOk] using h
    simp [PyData.canLay0, PyData.depth, h']
  | n + 1, .list xs, h => by
    have h' : dOks n xs = true := by simpa [dOk] using h
    have := dOks_lay n xs h'
    simp [PyData.canLay0, PyData.depth, this.1]
    omega
  | n + 1, .tuple xs, h => by
    have h' : dOks n xs = true := by simpa [dOk] using h
    have := dOks_lay n xs h'
    simp [PyData.canLay0, PyData.depth, this.1]
    omega
  | 0, .list _, h => by simp [dOk] at h
  | 0, .tuple _, h => by simp [dOk] at h
  | _, .dict _, h => by simp [dOk] at h
theorem dOks_lay : ∀ (n : Nat) (ds : List PyData), dOks n ds = true → PyData.canLayAll0 ds = true ∧ PyData.depthAll ds ≤ n
  | _, [], _ => by simp [PyData.canLayAll0, PyData.depthAll]
  | n, d :: ds, h => by
    have h' : dOk n d = true ∧ dOks n ds = true := by simpa [dOks] using h
    have a := dOk_lay n d h'.1
    have b := dOks_lay n ds h'.2
    simp [PyData.canLayAll0, PyData.depthAll, a.1, b.1]
    omega
end
theorem shaped_of {n : Nat} {d : PyData} (h : dOk n d = true) (hn : n ≤ 64) : SeqAt.shaped d = true := by
  have := dOk_lay n d h
  unfold SeqAt.shaped
  simp [this.1]
  omega
theorem dOks_all {n : Nat} : ∀ {ds : List PyData}, (∀ d ∈ ds, dOk n d = true) → dOks n ds = true
  | [], _ => by simp [dOks]
  | d :: ds, h => by
    simp [dOks, h d List.mem_cons_self]
    exact dOks_all fun x hx => h x (List.mem_cons_of_mem _ hx)
theorem dOks_map {α : Type} {n : Nat} {xs : List α} {f : α → PyData} (h : ∀ x ∈ xs, dOk n (f x) = true) : dOks n (xs.map f) = true := dOks_all fun d hd => by
  obtain ⟨x, hx, rfl⟩ := List.mem_map.mp hd
  exact h x hx
theorem eqD_of {n m : Nat} {d e : PyData} (h : dOk n d = true) (g : dOk m e = true) (hn : n ≤ 64) (hm : m ≤ 64) : eqD d e = .ok (PyData.eqv d e) := by
  unfold eqD
  rw [shaped_of h hn, shaped_of g hm]
  rfl
@[simp] theorem eqD_int (i j : Int) : eqD (.int i) (.int j) = .ok (decide (i = j)) := by
  rw [eqD_of (n := 0) (m := 0) (by simp [dOk]) (by simp [dOk]) (by decide) (by decide)]
  simp [PyData.eqv]
  by_cases h : i = j <;> simp [h]
/-! ### positions -/
@[simp] theorem atI_nat' {α : Type} (xs : List α) (j : Nat) : atI xs (j : Int) = xs[j]? := by
  unfold atI ixN
  rw [if_pos (Int.natCast_nonneg j)]
  by_cases h : j < xs.length
  · rw [if_pos (by omega)]; simp
  · rw [if_neg (by omega)]; simp; omega
theorem atI_pos {α : Type} (xs : List α) {i : Int} (h : 0 ≤ i) : atI xs i = xs[i.toNat]? := by
  obtain ⟨j, rfl⟩ := Int.eq_ofNat_of_zero_le h
  simp
theorem atI_m1 {α : Type} (xs : List α) : atI xs (-1) = xs.getLast? := by
  unfold atI ixN
  rw [if_neg (by decide)]
  by_cases h : xs = []
  · subst h; rfl
  · have hl : 0 < xs.length := List.length_pos_iff.mpr h
    rw [if_pos (by omega), List.getLast?_eq_getElem?]
    show xs[(-1 + (xs.length : Int)).toNat]? = _
    congr 1
    all_goals omega
@[simp] theorem atI_zero {α : Type} (xs : List α) : atI xs 0 = xs[0]? := atI_nat' xs 0
@[simp] theorem atI_one {α : Type} (xs : List α) : atI xs 1 = xs[1]? := atI_nat' xs 1
@[simp] theorem atI_2 {α : Type} (xs : List α) : atI xs 2 = xs[2]? := atI_nat' xs 2
@[simp] theorem atI_3 {α : Type} (xs : List α) : atI xs 3 = xs[3]? := atI_nat' xs 3
@[simp] theorem atI_4 {α : Type} (xs : List α) : atI xs 4 = xs[4]? := atI_nat' xs 4
@[simp] theorem atI_5 {α : Type} (xs : List α) : atI xs 5 = xs[5]? := atI_nat' xs 5
@[simp] theorem atI_6 {α : Type} (xs : List α) : atI xs 6 = xs[6]? := atI_nat' xs 6
@[simp] theorem atI_7 {α : Type} (xs : List α) : atI xs 7 = xs[7]? := atI_nat' xs 7
@[simp] theorem atI_8 {α : Type} (xs : List α) : atI xs 8 = xs[8]? := atI_nat' xs 8
@[simp] theorem atI_9 {α : Type} (xs : List α) : atI xs 9 = xs[9]? := atI_nat' xs 9
theorem sIx_none' (n d : Nat) : HT.sIx n d none = d := rfl
theorem cut_all {α : Type} (xs : List α) : cut xs none none = xs := by simp [cut, HT.sIx]
theorem cut_from {α : Type} (xs : List α) (k : Nat) : cut xs (some (k : Int)) none = xs.drop k := by
  unfold cut
  rw [HT.sIx_nat, HT.sIx_none]
  by_cases h : k ≤ xs.length
  · rw [Nat.min_eq_left h]
    exact List.take_of_length_le (by simp)
  · rw [Nat.min_eq_right (by omega)]
    simp
    omega
theorem cut_to {α : Type} (xs : List α) (k : Nat) : cut xs none (some (k : Int)) = xs.take k := by
  unfold cut
  rw [HT.sIx_nat, HT.sIx_none]
  simp
end DN
/-! DenM: more on ==, in. -/
namespace DN
open PySem PySem.Spec PyProof.Rows L2
theorem eqD_same {n : Nat} {d : PyData} (h : dOk n d = true) (hn : n ≤ 64) : eqD d d = .ok true := by
  rw [eqD_of h h hn hn, SeqAt.eqv_refl d (dOk_lay n d h).1]
@[simp] theorem dOk_int (n : Nat) (i : Int) : dOk n (.int i) = true := by cases n <;> simp [dOk]
@[simp] theorem dOk_none (n : Nat) : dOk n .none = true := by cases n <;> simp [dOk]
@[simp] theorem dOk_bool (n : Nat) (b : Bool) : dOk n (.bool b) = true := by cases n <;> simp [dOk]
theorem dOk_list {n : Nat} {xs : List PyData} (h : dOks n xs = true) : dOk (n + 1) (.list xs) = true := by simpa [dOk] using h
theorem dOk_tuple {n : Nat} {xs : List PyData} (h : dOks n xs = true) : dOk (n + 1) (.tuple xs) = true := by simpa [dOk] using h
theorem eqF_int (i j : Int) : eqF (.int i) (.int j) = decide (i = j) := by
  show (i == j) = _
  by_cases h : i = j <;> simp [h]
theorem inD_ints (x : Int) (xs : List Int) : inD (.int x) (.list (xs.map .int)) = .ok (decide (x ∈ xs)) := by
  have h : (flatD (.int x) && (xs.map PyData.int).all flatD) = true := by simp [flatD]
  show (if (flatD (.int x) && (xs.map PyData.int).all flatD) = true then Rs.ok ((xs.map PyData.int).any fun y => eqF y (.int x)) else _) = _
  rw [if_pos h]
  congr 1
  rw [List.any_map]
  by_cases hx : x ∈ xs
  · simp [hx, eqF_int]
  · simp [hx, eqF_int]
    intro y hy e
    exact hx (e ▸ hy)
end DN
namespace DN
open PySem PySem.Spec PyProof.Rows L2
theorem lc2Go_map {α : Type} {ft : PyData → Ev → Rs Ev} {vs1 : List Nat} {fi1 : Ev → Rs (List PyData)} {ft1 : PyData → Ev → Rs Ev} {fc1 : Ev → Rs Bool} {fe : Ev → Rs R} {ρ : Ev} (enc : α → PyData) (en : α → Ev) (ds1 h : α → List PyData) :
    ∀ (xs : List α), (∀ x ∈ xs, ft (enc x) ρ = .ok (en x)) → (∀ x ∈ xs, fi1 (en x) = .ok (ds1 x)) → (∀ x ∈ xs, lcGo ft1 fc1 fe (wipeE (en x) vs1) (ds1 x) = .ok (h x)) → lc2Go ft fYes vs1 fi1 ft1 fc1 fe ρ (xs.map enc) = .ok (xs.flatMap h)
  | [], _, _, _ => rfl
  | x :: xs, h1, h2, h3 => by
    have ih := lc2Go_map (ft := ft) (vs1 := vs1) (fi1 := fi1) (ft1 := ft1) (fc1 := fc1) (fe := fe) (ρ := ρ) enc en ds1 h xs (fun y hy => h1 y (List.mem_cons_of_mem _ hy)) (fun y hy => h2 y (List.mem_cons_of_mem _ hy)) (fun y hy => h3 y (List.mem_cons_of_mem _ hy))
    rw [List.map_cons]
    unfold lc2Go
    rw [h1 x List.mem_cons_self, bind_ok]
    rw [show fYes (en x) = .ok true from rfl, bind_ok, if_pos rfl, h2 x List.mem_cons_self, bind_ok, h3 x List.mem_cons_self, bind_ok, ih, bind_ok, List.flatMap_cons]
theorem fLc2_of {vs vs1 : List Nat} {fi : Ev → Rs (List PyData)} {ft : PyData → Ev → Rs Ev} {fc : Ev → Rs Bool} {fi1 : Ev → Rs (List PyData)} {ft1 : PyData → Ev → Rs Ev} {fc1 : Ev → Rs Bool} {fe : Ev → Rs R} {ρ : Ev} {ds xs : List PyData} (h : fi ρ = .ok ds) (hl : xs.length ≤ lim)
    (hg : lc2Go ft fc vs1 fi1 ft1 fc1 fe (wipeE ρ vs) ds = .ok xs) : fLc2 vs vs1 fi ft fc fi1 ft1 fc1 fe ρ = .ok (.own xs) := by
  unfold fLc2
  rw [h, bind_ok, hg]
  show (if xs.length ≤ lim then Rs.ok (R.own xs) else Rs.bad) = _
  rw [if_pos hl]
theorem range_get2 {n i : Nat} {d : PyData} (h : ((List.range n).map fun j => PyData.int (j : Nat))[i]? = some d) : i < n ∧ d = .int (i : Nat) := range_get h
/-- range(1, n) -/
theorem rg2_one {n : Nat} (h : n ≤ 1000000) : rg2 [.int 1, .int (n : Nat)] = .ok ((List.range (n - 1)).map fun i => PyData.int (((i + 1 : Nat)) : Int)) := by
  rw [rg2_i, if_pos ⟨by decide, by omega⟩]
  congr 1
  unfold rngD
  rw [show ((n : Int) - 1).toNat = n - 1 by omega]
  apply List.map_congr_left
  intro i _
  congr 1
  omega
end DN
namespace DN
open PySem PySem.Spec PyProof.Rows L2
/-- goes on, with P -/
def Nx (o : RO) (P : Ev → Prop) : Prop := ∃ ρ, o = .nx ρ ∧ P ρ
@[simp] theorem Nx_nx (ρ : Ev) (P : Ev → Prop) : Nx (.nx ρ) P ↔ P ρ := ⟨fun ⟨_, e, h⟩ => by cases e; exact h, fun h => ⟨_, rfl, h⟩⟩
theorem Nx.imp {o : RO} {P Q : Ev → Prop} (h : Nx o P) (k : ∀ ρ, P ρ → Q ρ) : Nx o Q := by
  obtain ⟨ρ, e, p⟩ := h
  exact ⟨ρ, e, k ρ p⟩
theorem Nx.seq {o : RO} {g : Ev → RO} {P Q : Ev → Prop} (h : Nx o P) (k : ∀ ρ, P ρ → Nx (g ρ) Q) : Nx (o.seq g) Q := by
  obtain ⟨ρ, e, p⟩ := h
  rw [e, seq_nx]
  exact k ρ p
/-- one turn of a loop -/
def bdy (ft : PyData → Ev → Rs Ev) (gb : Ev → RO) (d : PyData) (ρ : Ev) : RO := match ft d ρ with
  | .ok ρ1 => gb ρ1
  | _ => .bad
@[simp] theorem bdy_name (i : Nat) (gb : Ev → RO) (d : PyData) (ρ : Ev) : bdy (tName i) gb d ρ = gb (ρ.set i (some (.val d))) := rfl
@[simp] theorem bdy_tup (ts : List PyData → Ev → Rs Ev) (gb : Ev → RO) (ds : List PyData) (ρ : Ev) : bdy (tTupl ts) gb (.tuple ds) ρ = match ts ds ρ with
  | .ok ρ1 => gb ρ1
  | _ => .bad := rfl
theorem gFor_sat {fi : Ev → Rs (List PyData)} {ft : PyData → Ev → Rs Ev} {gb : Ev → RO} {ds : List PyData} (I : Nat → Ev → Prop) {ρ : Ev} (hf : fi ρ = .ok ds) (h0 : I 0 ρ)
    (hs : ∀ (i : Nat) (d : PyData) (ρ : Ev), ds[i]? = some d → I i ρ → Nx (bdy ft gb d ρ) (I (i + 1))) : Nx (gFor fi ft gb ρ) (I ds.length) := by
  refine gFor_env I hf h0 fun i d ρ hd hI => ?_
  obtain ⟨ρ2, e, h⟩ := hs i d ρ hd hI
  unfold bdy at e
  split at e
  · rename_i ρ1 h1
    exact ⟨ρ1, ρ2, h1, e, h⟩
  · cases e
/-- the loop over the items of a typed list -/
theorem gFor_list {α : Type} {fi : Ev → Rs (List PyData)} {ft : PyData → Ev → Rs Ev} {gb : Ev → RO} {enc : α → PyData} {xs : List α} (I : List α → Ev → Prop) {ρ : Ev} (hf : fi ρ = .ok (xs.map enc)) (h0 : I [] ρ)
    (hs : ∀ (ys : List α) (x : α) (zs : List α) (ρ : Ev), xs = ys ++ x :: zs → I ys ρ → Nx (bdy ft gb (enc x) ρ) (I (ys ++ [x]))) : Nx (gFor fi ft gb ρ) (I xs) := by
  have := gFor_sat (ft := ft) (gb := gb) (fun i => I (xs.take i)) hf (by simpa using h0) (fun i d ρ hd hI => by
    obtain ⟨x, hx, rfl, e⟩ := list_get hd
    rw [e]
    refine hs (xs.take i) x (xs.drop (i + 1)) ρ ?_ hI
    obtain ⟨hl, rfl⟩ := List.getElem?_eq_some_iff.mp hx
    simp)
  simpa using this
/-- the loop over range(n) -/
theorem gFor_range {fi : Ev → Rs (List PyData)} {ft : PyData → Ev → Rs Ev} {gb : Ev → RO} {n : Nat} (I : Nat → Ev → Prop) {ρ : Ev} (hf : fi ρ = .ok ((List.range n).map fun i => PyData.int (i : Nat))) (h0 : I 0 ρ)
    (hs : ∀ (i : Nat) (ρ : Ev), i < n → I i ρ → Nx (bdy ft gb (.int (i : Nat)) ρ) (I (i + 1))) : Nx (gFor fi ft gb ρ) (I n) := by
  have := gFor_sat (ft := ft) (gb := gb) I hf h0 (fun i d ρ hd hI => by
    obtain ⟨hi, rfl⟩ := range_get hd
    exact hs i ρ hi hI)
  simpa using this
end DN
namespace DN
open PySem PySem.Spec PyProof.Rows L2
theorem eqD_nil {n : Nat} {xs : List PyData} (h : dOks n xs = true) (hn : n < 64) : eqD (.list xs) (.list []) = .ok xs.isEmpty := by
  rw [eqD_of (dOk_list h) (m := 1) (by simp [dOk, dOks]) (by omega) (by decide)]
  cases xs <;> simp [PyData.eqv, PyData.eqvAll]
theorem eqD_tnil {n : Nat} {xs : List PyData} (h : dOks n xs = true) (hn : n < 64) : eqD (.tuple xs) (.tuple []) = .ok xs.isEmpty := by
  rw [eqD_of (dOk_tuple h) (m := 1) (by simp [dOk, dOks]) (by omega) (by decide)]
  cases xs <;> simp [PyData.eqv, PyData.eqvAll]
end DN
namespace DN
theorem opAdd_tup {xs ys : List PySem.PyData} (h : xs.length + ys.length ≤ 1000) : opAdd (.tuple xs) (.tuple ys) = .ok (.val (.tuple (xs ++ ys))) := by
  rw [opAdd_tt, if_pos (Nat.le_trans h (by decide))]
theorem opAdd_lst {xs ys : List PySem.PyData} (h : xs.length + ys.length ≤ 1000) : opAdd (.list xs) (.list ys) = .ok (.own (xs ++ ys)) := by
  rw [opAdd_ll, if_pos (Nat.le_trans h (by decide))]
end DN
/-! Lam1: objects pinned in the abstract heap for a while; what a lambda without parameters promises. -/
namespace DN
open PySem PySem.Spec PyProof.Rows L2 LamX NdefX

/-! ### pinned objects -/
/-- the very object at a -/
def PinO (a : Addr) (o : Obj) : HO := .ext fun h => h.get? a = some o
theorem pinO_ok {P : Program} {w : World} {H : Hp} {h : Heap} {a : Addr} {o : Obj} (e : h.get? a = some o) : ObjOk P w H h a (PinO a o) := ⟨e, ⟨o, e⟩, fun _ _ p k => k _ p⟩
theorem pinO_at {P : Program} {w : World} {H : Hp} {h : Heap} {a : Addr} {o : Obj} (x : HOk P w H h) (e : H a = some (PinO a o)) : h.get? a = some o := (x a _ e).1
abbrev Pn := List (Addr × Obj)
def pls (H : Hp) (S : Pn) : Hp := fun b => match S.lookup b with
  | some o => some (PinO b o)
  | none => H b
def mns (H : Hp) (S : Pn) : Hp := fun b => match S.lookup b with
  | some _ => none
  | none => H b
section
variable {H H' : Hp} {S : Pn} {b : Addr} {o : Obj}
theorem pls_in (h : S.lookup b = some o) : pls H S b = some (PinO b o) := by unfold pls; rw [h]
theorem pls_out (h : S.lookup b = none) : pls H S b = H b := by unfold pls; rw [h]
theorem mns_in (h : S.lookup b = some o) : mns H S b = none := by unfold mns; rw [h]
theorem mns_out (h : S.lookup b = none) : mns H S b = H b := by unfold mns; rw [h]
theorem look_cases (S : Pn) (b : Addr) : (∃ o, S.lookup b = some o) ∨ S.lookup b = none := by
  cases h : S.lookup b with
  | none => exact .inr rfl
  | some o => exact .inl ⟨o, rfl⟩
theorem mns_some {u : HO} (h : mns H S b = some u) : S.lookup b = none ∧ H b = some u := by
  rcases look_cases S b with ⟨o, e⟩ | e
  · rw [mns_in e] at h; cases h
  · rw [mns_out e] at h; exact ⟨e, h⟩
/-- all of S is pinned in H -/
def Pins (S : Pn) (H : Hp) : Prop := ∀ b o, S.lookup b = some o → H b = some (PinO b o)
theorem Pins.same (p : Pins S H) (e : Same H H') : Pins S H' := fun b o h => e _ _ (p b o h)
theorem pins_pls : Pins S (pls H S) := fun _ _ h => pls_in h
end

section
variable {P : Program} {w : World} {H H' : Hp} {S : Pn} {h h' : Heap}
theorem hok_pls (x : HOk P w H h) (hs : ∀ b o, S.lookup b = some o → h.get? b = some o) (hn : ∀ b o, S.lookup b = some o → H b = none) : HOk P w (pls H S) h := fun b u e => by
  have out : ∀ c v, H c = some v → S.lookup c = none := fun c v q => by
    rcases look_cases S c with ⟨o, z⟩ | z
    · rw [hn c o z] at q; cases q
    · exact z
  rcases look_cases S b with ⟨o, z⟩ | z
  · rw [pls_in z] at e
    cases e
    exact pinO_ok (hs b o z)
  · rw [pls_out z] at e
    exact (x b u e).stay (fun _ _ _ q => q) (fun c q => by rw [pls_out (out c _ q)]; exact q) fun c xs q => by rw [pls_out (out c _ q)]; exact q
theorem hok_mns (x : HOk P w H h) (hp : Pins S H) : HOk P w (mns H S) h := fun b u e => by
  obtain ⟨z, e⟩ := mns_some e
  have out : ∀ c v, H c = some v → (∀ o, v ≠ PinO c o) → S.lookup c = none := fun c v q n => by
    rcases look_cases S c with ⟨o, z⟩ | z
    · rw [hp c o z] at q; cases q; exact (n o rfl).elim
    · exact z
  exact (x b u e).stay (fun _ _ _ q => q) (fun c q => by rw [mns_out (out c _ q fun o z => by unfold PinO at z; cases z)]; exact q) fun c xs q => by rw [mns_out (out c _ q fun o z => by unfold PinO at z; cases z)]; exact q
theorem pin_of_mns (x : HOk P w H h) (hp : Pins S H) {b : Addr} {o : Obj} (e : S.lookup b = some o) : h.get? b = some o := pinO_at x (hp b o e)
end

section
variable {P : Program} {w : World} {K : PySem.W.Frag} {mg : Str → Option Value} {base : Heap} {A : Around} {outer : List Env} {s s' : Shared} {H : Hp} {S : Pn}
/-- a call is made where more is pinned -/
theorem env0_pls (e : Env0 P w K mg base A outer s H) (hs : ∀ b o, S.lookup b = some o → s.heap.get? b = some o) (hn : ∀ b o, S.lookup b = some o → H b = none) (hb : ∀ b o, S.lookup b = some o → base.get? b = none) (hf : ∀ b o, S.lookup b = some o → b ∉ frs outer) :
    Env0 P w K mg base A outer s (pls H S) where
  frames := e.frames
  mod := e.mod
  bs := fun b o q => ⟨(e.bs b o q).1, by
    rcases look_cases S b with ⟨o', z⟩ | z
    · rw [hb b o' z] at q; cases q
    · rw [pls_out z]; exact (e.bs b o q).2⟩
  bsz := e.bsz
  funs := e.funs
  frf := fun b q => by
    rcases look_cases S b with ⟨o', z⟩ | z
    · exact absurd q (hf b o' z)
    · rw [pls_out z]; exact e.frf b q
  hok := hok_pls e.hok hs hn
  bare := e.bare
theorem env0_mns (e : Env0 P w K mg base A outer s H) (hp : Pins S H) : Env0 P w K mg base A outer s (mns H S) where
  frames := e.frames
  mod := e.mod
  bs := fun b o q => ⟨(e.bs b o q).1, by
    rcases look_cases S b with ⟨o', z⟩ | z
    · exact mns_in z
    · rw [mns_out z]; exact (e.bs b o q).2⟩
  bsz := e.bsz
  funs := e.funs
  frf := fun b q => by
    rcases look_cases S b with ⟨o', z⟩ | z
    · exact mns_in z
    · rw [mns_out z]; exact e.frf b q
  hok := hok_mns e.hok hp
  bare := e.bare
/-- .. and the pins are dropped behind it -/
theorem ce_mns {Q Q' : VK} {u : Value} (e0 : Env0 P w K mg base A outer s H) (hs : ∀ b o, S.lookup b = some o → s.heap.get? b = some o) (hn : ∀ b o, S.lookup b = some o → H b = none) (hf : ∀ b o, S.lookup b = some o → b ∉ frs outer)
    (c : CE outer P w (pls H S) s Q u s') (hq : ∀ v H', Q v H' → Pins S H' ∧ Q' v (mns H' S)) : CE outer P w H s Q' u s' := by
  obtain ⟨v, H', os, bare, un, hok, r, q⟩ := c
  obtain ⟨hp, q⟩ := hq v H' q
  have out : ∀ c v, H c = some v → S.lookup c = none := fun c v q => by
    rcases look_cases S c with ⟨o, z⟩ | z
    · rw [hn c o z] at q; cases q
    · exact z
  refine ⟨v, mns H' S, os, bare, ⟨fun b o e n hb hx => ?_, fun b o e n hb hx => ?_, fun b o e n hx => ?_, fun b o e hx => un.there b o e hx, fun b xs e => ?_, fun b o u e => ?_, fun b ps e => ?_⟩, hok_mns hok hp, r, q⟩
  · rcases look_cases S b with ⟨o', z⟩ | z
    · have e' := hs b o' z
      rw [e] at e'
      cases e'
      exact pin_of_mns hok hp z
    · exact un.keep b o e (by rw [pls_out z]; exact n) hb hx
  · rcases look_cases S b with ⟨o', z⟩ | z
    · exact absurd hb (hf b o' z)
    · exact un.slot b o e (by rw [pls_out z]; exact n) hb hx
  · rcases look_cases S b with ⟨o', z⟩ | z
    · exact mns_in z
    · rw [mns_out z]
      exact un.free b o e (by rw [pls_out z]; exact n) hx
  · have z := out b _ e
    rw [mns_out z]
    exact un.tups b xs (by rw [pls_out z]; exact e)
  · have z := out b _ e
    rw [mns_out z]
    exact un.frzs b o u (by rw [pls_out z]; exact e)
  · have z := out b _ e
    obtain ⟨m, y⟩ := un.tbls b ps (by rw [pls_out z]; exact e)
    exact ⟨m, by rw [mns_out z]; exact y⟩
/-- a call that raises, made without the pins: they are there again -/
theorem cx_pls {E E' : XK} {u : Value} (e0 : Env0 P w K mg base A outer s H) (hp : Pins S H) (c : L2.CX P w outer (mns H S) s E u s') (hE : ∀ cls d H', E cls d H' → (∀ b o, S.lookup b = some o → H' b = none) → E' cls d (pls H' S)) : L2.CX P w outer H s E' u s' := by
  obtain ⟨a, B, H', cls, d, rfl, fl, hok, ub, na, os, ag, e⟩ := c
  have nf : ∀ b o, S.lookup b = some o → b ∉ frs outer := fun b o z q => by
    have := e0.frf b q
    rw [hp b o z] at this
    cases this
  have inB : ∀ b o, S.lookup b = some o → B.get? b = some o := fun b o z => ub.keep b o (pin_of_mns e0.hok hp z) (mns_in z) (nf b o z)
  have fr : ∀ b o, S.lookup b = some o → H' b = none := fun b o z => ub.free b o (pin_of_mns e0.hok hp z) (mns_in z)
  have outP : ∀ c v, H c = some v → (∀ o, v ≠ PinO c o) → S.lookup c = none := fun c v q n => by
    rcases look_cases S c with ⟨o, z⟩ | z
    · rw [hp c o z] at q; cases q; exact (n o rfl).elim
    · exact z
  have outN : ∀ c, H c = none → S.lookup c = none := fun c q => by
    rcases look_cases S c with ⟨o, z⟩ | z
    · rw [hp c o z] at q; cases q
    · exact z
  refine ⟨a, B, pls H' S, cls, d, rfl, fl, hok_pls hok inB fr, ⟨fun b o q n hb => ?_, fun b o q hb => ub.slot b o q hb, fun b o q n => ?_, fun b o q hb => ub.there b o q hb, fun b xs q => ?_, fun b o u q => ?_, fun b ps q => ?_⟩, ?_, os, ag, hE _ _ _ e fr⟩
  · exact ub.keep b o q (by rw [mns_out (outN b n)]; exact n) hb
  · rw [pls_out (outN b n)]
    exact ub.free b o q (by rw [mns_out (outN b n)]; exact n)
  · have z := outP b _ q fun o z => by unfold PinO at z; cases z
    rw [pls_out z]
    exact ub.tups b xs (by rw [mns_out z]; exact q)
  · have z := outP b _ q fun o z => by unfold PinO at z; cases z
    rw [pls_out z]
    exact ub.frzs b o u (by rw [mns_out z]; exact q)
  · have z := outP b _ q fun o z => by unfold PinO at z; cases z
    obtain ⟨m, y⟩ := ub.tbls b ps (by rw [mns_out z]; exact q)
    exact ⟨m, by rw [pls_out z]; exact y⟩
  · rcases look_cases S a with ⟨o, z⟩ | z
    · have e1 := inB a o z
      rw [fl.2.1] at e1
      cases e1
    · rw [pls_out z]
      exact na
end
end DN
/-! Lam2: a lambda without parameters: its object, its body, what calling it does. -/
namespace DN
open PySem PySem.Spec PyProof.Rows L2 LamX NdefX

structure LF where
  qual : Str
  params : Arguments
  body : Expr
  scope : Scope
  cl : List (Str × Addr)
  c : Addr
def LF.nf (F : LF) : NF := ⟨"<lambda>", F.qual, F.params, [], F.scope, F.cl, F.c⟩
/-- the object at f is the lambda F -/
def FnP (f : Addr) (F : LF) : HO := .ext fun h => ∃ pm ctv : Value, h.get? f = some (PySem.W.kla_obj "<lambda>" F.qual F.params F.body F.scope F.cl pm F.c ctv)
theorem fnP_at {P : Program} {w : World} {H : Hp} {h : Heap} {f : Addr} {F : LF} (x : HOk P w H h) (e : H f = some (FnP f F)) : ∃ pm ctv : Value, h.get? f = some (PySem.W.kla_obj "<lambda>" F.qual F.params F.body F.scope F.cl pm F.c ctv) := (x f _ e).1
/-- all that is tracked stays but the tables at the places T -/
def SameT (T : List Addr) (H H' : Hp) : Prop := ∀ a o, a ∉ T → H a = some o → H' a = some o
theorem SameT.refl {T : List Addr} {H : Hp} : SameT T H H := fun _ _ _ h => h
theorem SameT.trans {T : List Addr} {H H1 H2 : Hp} (a : SameT T H H1) (b : SameT T H1 H2) : SameT T H H2 := fun x o n h => b x o n (a x o n h)
theorem SameT.of {T : List Addr} {H H' : Hp} (e : Same H H') : SameT T H H' := fun a o _ h => e a o h
/-- calling f raises c and keeps all -/
def Thk (P : Program) (w : World) (K : PySem.W.Frag) (mg : Str → Option Value) (base : Heap) (T : List Addr) (k : Nat) (H : Hp) (f : Addr) (c : Str) : Prop :=
  (∃ F, f ∉ T ∧ H f = some (FnP f F)) ∧ ∀ (A : Around) (outer : List Env) (s : Shared) (HZ : Hp) (Q : VK) (E : XK), Room k A → Env0 P w K mg base A outer s HZ → SameT T H HZ → (∀ C H', mg c = some (.ref C) → Same HZ H' → E (.ref C) none H') →
    codeAny (model P w) A (.call (.ref f) ⟨[], []⟩) (CR (L2.CX P w) outer P w HZ s Q E) s
section
variable {P : Program} {w : World} {K : PySem.W.Frag} {mg : Str → Option Value} {base : Heap} {T : List Addr} {k : Nat} {H H' : Hp} {f : Addr} {c : Str}
theorem Thk.mono (t : Thk P w K mg base T k H f c) (e : SameT T H H') : Thk P w K mg base T k H' f c := by
  obtain ⟨⟨F, hn, hf⟩, r⟩ := t
  exact ⟨⟨F, hn, e _ _ hn hf⟩, fun A outer s HZ Q E hr e0 eZ hE => r A outer s HZ Q E hr e0 (e.trans eZ) hE⟩
/-- what the captured cells hold: S, the cells' objects; ws, their values -/
structure CapOk (cl : List (Str × Addr)) (fr : List Str) (ws : List V) (S : Pn) : Prop where
  len : ws.length = fr.length
  all : ∀ y c, cl.lookup y = some c → ∃ o v, S.lookup c = some o ∧ o.data = .cell v
  inj : ∀ x y c, cl.lookup x = some c → cl.lookup y = some c → x = y
  has : ∀ (i : Nat) (y : Str), fr[i]? = some y → ∃ c, cl.lookup y = some c ∧ ∀ v, ws[i]? = some v → ∃ u o, L2.RelV v u ∧ S.lookup c = some o ∧ o.data = .cell (some u)
/-- the lambda's body denotes g over its captured names fr -/
def LamOk (P : Program) (w : World) (K : PySem.W.Frag) (mg : Str → Option Value) (base : Heap) (k : Nat) (F : LF) (fr : List Str) (g : Ev → Rs R) : Prop :=
  NScope fr [] fr F.scope ∧ (∀ (q : Str) (cl : List (Str × Addr)) (pm cv ctv : Value), bindArgs (PySem.W.kla_fn "<lambda>" q F.params F.body F.scope cl pm cv ctv) ⟨[], []⟩ = pure []) ∧
  ∀ (f : Addr) (A : Around) (outer : List Env) (s : Shared) (H : Hp) (E : XK), Room k (A.deeper (envF F.nf f s.heap.objs.size)) → Takes (ncx (L2.CX P w) P w K mg base fr F.nf f A outer s H E) (fun cls d _ H => E cls d H) →
    PassesOwn (model P w) (ncx (L2.CX P w) P w K mg base fr F.nf f A outer s H E).A (ncx (L2.CX P w) P w K mg base fr F.nf f A outer s H E).env (ncx (L2.CX P w) P w K mg base fr F.nf f A outer s H E).xe →
    ∃ te, EE (ncx (L2.CX P w) P w K mg base fr F.nf f A outer s H E) (fun cls d _ H => E cls d H) F.body te g
theorem rel_caps {F0 : Hp} {ws : List V} {rs : List R} (s : Same F0 H) (h : Args K F0 H ws rs) : Rel K F0 H (rs.map some) (ws.map some) F0 H where
  base := Base.refl s
  len := by simp [h.len]
  at_ := fun i r e => by
    have e : rs[i]? = some r := by
      rw [List.getElem?_map] at e
      cases q : rs[i]? with
      | none => rw [q] at e; cases e
      | some y => rw [q] at e; cases e; rfl
    obtain ⟨v, a, b, _⟩ := h.get e
    exact ⟨v, by rw [List.getElem?_map, a]; rfl, b⟩
  frs := fun i r w p e _ o => by
    have e : rs[i]? = some r := by
      rw [List.getElem?_map] at e
      cases q : rs[i]? with
      | none => rw [q] at e; cases e
      | some y => rw [q] at e; cases e; rfl
    obtain ⟨v, a, b, c⟩ := h.get e
    rw [o.own] at c; cases c
  apart := fun i j r r' w w' p e _ _ _ o _ => by
    have e : rs[i]? = some r := by
      rw [List.getElem?_map] at e
      cases q : rs[i]? with
      | none => rw [q] at e; cases e
      | some y => rw [q] at e; cases e; rfl
    obtain ⟨v, a, b, c⟩ := h.get e
    rw [o.own] at c; cases c
theorem mns_pls {S : Pn} {b : Addr} {o : HO} (hp : Pins S H) (e : H b = some o) (h : Same (mns H S) H') : pls H' S b = some o := by
  rcases look_cases S b with ⟨o', z⟩ | z
  · rw [pls_in z]
    rw [hp b o' z] at e
    exact e
  · rw [pls_out z]
    exact h _ _ (by rw [mns_out z]; exact e)
/-- a lambda that raises -/
theorem thk_of {F : LF} {fr : List Str} {ws : List V} {rs : List R} {S : Pn} {F0 : Hp} {g : Ev → Rs R} (L : LamOk P w K mg base k F fr g) (cap : CapOk F.cl fr ws S) (hf : f ∉ T) (Hf : H f = some (FnP f F)) (hc : F.c ∉ T) (Hc : H F.c = some (CodeO F.c F.qual)) (hS : ∀ b o, S.lookup b = some o → b ∉ T) (HS : Pins S H)
    (s0 : Same F0 H) (fT : ∀ b ∈ T, F0 b = none) (fS : ∀ b o, S.lookup b = some o → F0 b = none) (ha : Args K F0 H ws rs) (hg : g (rs.map some) = .err c) : Thk P w K mg base T (k + 1) H f c := by
  refine ⟨⟨F, hf, Hf⟩, fun A outer s HZ Q E hr e0 eZ hE => ?_⟩
  have HfZ := eZ _ _ hf Hf
  have HcZ := eZ _ _ hc Hc
  have HSZ : Pins S HZ := fun b o h => eZ _ _ (hS b o h) (HS b o h)
  have s0Z : Same F0 (mns HZ S) := fun b o h => by
    have n : S.lookup b = none := by
      rcases look_cases S b with ⟨o', z⟩ | z
      · rw [fS b o' z] at h; cases h
      · exact z
    rw [mns_out n]
    exact eZ _ _ (fun z => by rw [fT b z] at h; cases h) (s0 _ _ h)
  have haZ : Args K F0 (mns HZ S) ws rs := by
    have : ∀ {ws : List V} {rs : List R}, Args K F0 H ws rs → Args K F0 (mns HZ S) ws rs := by
      intro ws rs ha
      induction ha with
      | nil => exact .nil
      | cons r _ ih =>
        refine .cons ⟨?_, r.2⟩ ih
        obtain ⟨r1, r2⟩ := r
        rename_i v x _ _ _
        cases x with
        | own _ => cases r2
        | dct _ => cases r2
        | dck _ => cases r2
        | obj _ _ _ => cases r2
        | _ => exact r1
    exact this ha
  have e1 := env0_mns e0 HSZ
  obtain ⟨NS, hbind, hbody⟩ := L
  obtain ⟨pm, ctv, ho⟩ := fnP_at e0.hok HfZ
  have lim : s.heap.NoLimit := e0.mod.nolimit.keeps fun b o e => (e0.bs b o e).1
  have key : codeAny (model P w) A (.call (.ref f) ⟨[], []⟩) (CR (L2.CX P w) outer P w (mns HZ S) s (fun _ _ => False) (fun cls d H' => ∃ C, cls = .ref C ∧ d = none ∧ mg c = some (.ref C) ∧ Same (mns HZ S) H')) s := by
    refine PySem.W.kla_callFunE hr.depth ho rfl NS.co NS.gen rfl (codeO_at e0.hok HcZ) ?_
    rw [hbind]
    refine wpAny_pure (wpAny_newFunctionEnv NS.nocell (fun y hy => absurd hy (by simp)) (fun h₁ hns hsb => ⟨lim.fresh _ hsb, ?_⟩) NS.kind)
    show codeAny _ _ (.expr F.body (envF F.nf f s.heap.objs.size)) _ _
    have kp : ∀ b o, s.heap.get? b = some o → h₁.get? b = some o := fun b o e => hsb.extBut b o (Nat.ne_of_lt (Heap.lt_size e)) (Heap.get?_push_of_some _ e)
    have C : CellsAt F.nf.cl fr (ws.map some) s.heap (mns HZ S) := by
      refine ⟨by rw [List.length_map]; exact cap.len, fun y c e => ?_, cap.inj, fun i y e => ?_⟩
      · obtain ⟨o, v, e1, e2⟩ := cap.all y c e
        exact ⟨mns_in e1, v, o, pin_of_mns e0.hok HSZ e1, e2⟩
      · obtain ⟨c, e1, e2⟩ := cap.has i y e
        refine ⟨c, e1, fun v hv => ?_⟩
        have hv : ws[i]? = some v := by
          rw [List.getElem?_map] at hv
          cases q : ws[i]? with
          | none => rw [q] at hv; cases hv
          | some y => rw [q] at hv; cases hv; rfl
        obtain ⟨u, o, r, e3, e4⟩ := e2 v hv
        exact ⟨u, r, o, pin_of_mns e0.hok HSZ e3, e4⟩
    have J : Inv (ncx (L2.CX P w) P w K mg base fr F.nf f A outer s (mns HZ S) (fun cls d H' => ∃ C, cls = .ref C ∧ d = none ∧ mg c = some (.ref C) ∧ Same (mns HZ S) H')) [] (startF fr [] (ws.map some)) (mns HZ S) { s with heap := h₁, toks := s.toks + ([] : List (Str × Value)).length } :=
      inv_startN (us := []) (vs := []) NS hr.hd e1 rfl .nil C hns kp
    have st : startF fr [] (ws.map some) = ws.map some := by
      unfold startF
      have := cap.len
      simp [this]
    rw [st] at J
    obtain ⟨te, B⟩ := hbody f A outer s (mns HZ S) (fun cls d H' => ∃ C, cls = .ref C ∧ d = none ∧ mg c = some (.ref C) ∧ Same (mns HZ S) H') (hr.deeper _) (takes_of rfl rfl rfl rfl) (passes_of rfl)
    have T1 := B.sound (rel_caps s0Z haZ) (fun _ _ => False) (by
      rw [hg]
      intro C H' m e
      exact (⟨C, rfl, rfl, m, e⟩ : ∃ C', (Value.ref C) = .ref C' ∧ (none : Option Addr) = none ∧ mg c = some (.ref C') ∧ Same (mns HZ S) H'))
    refine PySem.W.kla_codeExpr (wpAny_mono (B.pe.run [] _ _ _ _ J T1) (fun v s' hq => ?_) fun e s' hq => hq)
    obtain ⟨_, _, _, _, z⟩ := hq
    exact z.elim
  refine codeAny_mono key fun r s' hq => ?_
  cases r with
  | error e =>
    have hq : L2.CX P w outer (mns HZ S) s (fun cls d H' => ∃ C, cls = .ref C ∧ d = none ∧ mg c = some (.ref C) ∧ Same (mns HZ S) H') e s' := hq
    refine cx_pls e0 HSZ hq fun cls d H' hx _ => ?_
    obtain ⟨C, e1, e2, e3, e4⟩ := hx
    subst e1 e2
    exact hE C _ e3 fun b o h => mns_pls HSZ h e4
  | ok fl =>
    cases fl with
    | ret u => obtain ⟨_, _, _, _, _, _, _, z⟩ := hq; exact z.elim
    | next => exact False.elim hq
    | brk => exact False.elim hq
    | cont => exact False.elim hq
end
end DN
/-! Lam3: the making of a lambda. -/
namespace DN
open PySem PySem.Spec PyProof.Rows L2 LamX NdefX
section
variable {X : Cx} {pins : List (Addr × Obj)} {σ : L2.St} {H : Hp} {s : Shared}
theorem inv_fnP {F : LF} {t' : Nat} {pm ctv : Value} (I : Inv X pins σ H s) :
    Inv X pins σ (upd H s.heap.objs.size (FnP s.heap.objs.size F)) { s with heap := s.heap.push (PySem.W.kla_obj "<lambda>" F.qual F.params F.body F.scope F.cl pm F.c ctv), toks := t' } := by
  refine I.laid (a := s.heap.objs.size) (fun b u e => Heap.get?_push_of_some _ e) (Nat.le_refl _) ?_
  have e : (s.heap.push (PySem.W.kla_obj "<lambda>" F.qual F.params F.body F.scope F.cl pm F.c ctv)).get? s.heap.objs.size = some (PySem.W.kla_obj "<lambda>" F.qual F.params F.body F.scope F.cl pm F.c ctv) := Heap.get?_push_size _ rfl
  exact ⟨⟨pm, ctv, e⟩, ⟨_, e⟩, fun h1 h2 ⟨p, t, z⟩ st => ⟨p, t, st _ z⟩⟩
/-- the lambda's object is made and tracked: its code object is new, or found in the table -/
theorem lam_make3 {T : List (Addr × Str)} {c P : Addr} {params : Arguments} {body : Expr} {scope : Scope} {pos : Pos} {E : Value → Shared → Prop} {Q : Value → Shared → Prop} (I : Inv X pins σ H s) (TB : TabB X.base X.mg c P) (hcode : X.env.code = .ref c)
    (hm : (P, X.env.qual ++ "<lambda>") ∈ T) (hu : ∀ p ∈ T, p.1 = P → p.2 = X.env.qual ++ "<lambda>") (hT : Tabs T H) (hdef : defaultsOf params X.env = ([], [])) (hfree : ∀ y ∈ scope.names, y.2 = .free → ∃ c, X.env.cells.lookup y.1 = some c)
    (h : ∀ (f c' : Addr) (H1 : Hp) (s' : Shared), Inv X pins σ H1 s' → (∀ b o, b ≠ P → H b = some o → H1 b = some o) → Tabs T H1 → H f = none →
      H1 f = some (FnP f ⟨X.env.qual ++ "<lambda>", params, body, scope, cloFrom X.env.cells scope.names [], c'⟩) → H1 c' = some (CodeO c' (X.env.qual ++ "<lambda>")) → Q (.ref f) s') :
    wpAny (model X.prog X.w) X.A (eval (.Lambda params body scope pos) X.env) Q E s := by
  obtain ⟨ps, hP, ht, ha⟩ := hT _ hm
  refine PySem.W.kla_eval hdef ?_
  have bP : s.heap.BuiltinsAt X.mg P := TB.bm.keeps I.bk
  have hP' : s.heap.get? P = some { cls := .none, data := .fields ps } := I.hok P _ hP
  cases hc : codeAmong pos ps.toList with
  | none =>
    refine PySem.W.kla_makeFunction (mg := X.mg) (c := c) (P := P) (ps := ps) (closure_ok hfree) I.ok.glob (I.mod.glob.keeps I.bk) hcode (TB.code.keeps I.bk) hP' ht hc TB.gP bP fun c' ctv h' tk hx hge hlt hrec htb => ?_
    obtain ⟨c2, oc, vs, t, e2, hoc, hd, hv⟩ := hrec
    cases e2
    have nC : H c' = none := I.hok.fresh hge
    have I1 := inv_table (t' := tk) (more := #[rawInt pos.line, rawInt pos.col, .ref c']) (h' := h') I hP (fun b o hb e => hx b o hb e) htb hge ⟨oc, vs, t, hoc, hd, hv⟩
    have hE : ∀ b o, b ≠ P → H b = some o → upd (upd H P (.tbl (ps ++ #[rawInt pos.line, rawInt pos.col, .ref c']))) c' (CodeO c' (X.env.qual ++ "<lambda>")) b = some o := fun b o n e => by
      rw [upd_ne (ne_of_none e nC), upd_ne n]
      exact e
    have eL : (ps ++ #[rawInt pos.line, rawInt pos.col, .ref c']).toList = ps.toList ++ [rawInt pos.line, rawInt pos.col, .ref c'] := by simp
    have nCP : ∀ c0 : Addr, H c0 = some (CodeO c0 (X.env.qual ++ "<lambda>")) → c0 ≠ P := fun c0 e z => by
      rw [z, hP] at e
      cases e
    have nCP2 : ∀ (c0 : Addr) (q : Str), H c0 = some (CodeO c0 q) → c0 ≠ P := fun c0 q e z => by
      rw [z, hP] at e
      cases e
    have T1 : Tabs T (upd (upd H P (.tbl (ps ++ #[rawInt pos.line, rawInt pos.col, .ref c']))) c' (CodeO c' (X.env.qual ++ "<lambda>"))) := fun p hp => by
      by_cases hb : p.1 = P
      · rw [hu p hp hb, hb]
        refine ⟨_, by rw [upd_ne (ne_of_none hP nC), upd_same], by rw [eL]; exact PySem.TriplesOk_snoc _ _ _ _ ht, fun p' cv hcv => ?_⟩
        rw [eL] at hcv
        rcases among_app _ ht hcv with z | z
        · obtain ⟨c0, e1, e2⟩ := ha p' cv z
          exact ⟨c0, e1, hE _ _ (nCP c0 e2) e2⟩
        · exact ⟨c', z, upd_same⟩
      · obtain ⟨ps', a1, a2, a3⟩ := hT p hp
        refine ⟨ps', by rw [upd_ne (ne_of_none a1 nC), upd_ne hb]; exact a1, a2, fun p' cv hcv => ?_⟩
        obtain ⟨c0, e1, e2⟩ := a3 p' cv hcv
        exact ⟨c0, e1, hE _ _ (nCP2 c0 _ e2) e2⟩
    have nF := I1.hok.fresh (Nat.le_refl _)
    have I2 := inv_fnP (F := ⟨X.env.qual ++ "<lambda>", params, body, scope, cloFrom X.env.cells scope.names [], c'⟩) (t' := tk) (pm := (X.mg "__name__").getD .none) (ctv := ctv) I1
    refine h h'.objs.size c' _ _ I2 (fun b o n e => ?_) (T1.ext fun b o e => ?_) (I.hok.fresh (Nat.le_trans hge (Nat.le_of_lt hlt))) upd_same ?_
    · have e1 := hE b o n e
      exact (upd_ne (ne_of_none e1 nF)).trans e1
    · exact (upd_ne (ne_of_none e nF)).trans e
    · exact (upd_ne (Nat.ne_of_lt hlt)).trans upd_same
  | some cv =>
    obtain ⟨c', e, hco⟩ := ha pos cv hc
    subst e
    refine PySem.W.kla_makeFunctionHit (mg := X.mg) (c := c) (P := P) (ps := ps) (closure_ok hfree) I.ok.glob (I.mod.glob.keeps I.bk) hcode (TB.code.keeps I.bk) hP' ht hc bP fun ctv h' tk hx hsz => ?_
    have I1 : Inv X pins σ H { s with heap := h', toks := tk } := I.kept hx
    have nF : H h'.objs.size = none := I1.hok.fresh (Nat.le_refl _)
    have I2 := inv_fnP (F := ⟨X.env.qual ++ "<lambda>", params, body, scope, cloFrom X.env.cells scope.names [], c'⟩) (t' := tk) (pm := (X.mg "__name__").getD .none) (ctv := ctv) I1
    refine h h'.objs.size c' _ _ I2 (fun b o _ e => ?_) (hT.ext fun b o e => ?_) nF upd_same ?_
    · exact (upd_ne (ne_of_none e nF)).trans e
    · exact (upd_ne (ne_of_none e nF)).trans e
    · exact (upd_ne (ne_of_none hco nF)).trans hco
end
/-- the reading of a lambda -/
def tLamE (T : List (Addr × Str)) (P : Addr) (mk : Addr → LF) : TE := fun σ H Q => Tabs T H ∧ ∀ (f c' : Addr) (H1 : Hp), (∀ b o, b ≠ P → H b = some o → H1 b = some o) → Tabs T H1 → H f = none → H1 f = some (FnP f (mk c')) → H1 c' = some (CodeO c' (mk c').qual) → Q (.ref f) H1
theorem pe_lam {X : Cx} {T : List (Addr × Str)} {c P : Addr} {params : Arguments} {body : Expr} {scope : Scope} {pos : Pos} (TB : TabB X.base X.mg c P) (hcode : X.env.code = .ref c)
    (hm : (P, X.env.qual ++ "<lambda>") ∈ T) (hu : ∀ p ∈ T, p.1 = P → p.2 = X.env.qual ++ "<lambda>") (hfree : ∀ y ∈ scope.names, y.2 = .free → X.env.scope.names.lookup y.1 = some .cell ∨ X.env.scope.names.lookup y.1 = some .free) (hdef : defaultsOf params X.env = ([], []) := by rfl) :
    PE X (.Lambda params body scope pos) (tLamE T P fun c' => ⟨X.env.qual ++ "<lambda>", params, body, scope, cloFrom X.env.cells scope.names [], c'⟩) := by
  refine ⟨fun pins s σ H Q I h => ?_⟩
  obtain ⟨hT, h⟩ := h
  refine lam_make3 I TB hcode hm hu hT hdef (fun y hy e => (hfree y hy e).elim (fun z => I.ok.has _ (.inl z)) fun z => I.ok.has _ (.inr z)) fun f c' H1 s' I1 e1 T1 f0 f1 c1 => ?_
  exact ⟨.ref f, H1, I1, rfl, h f c' H1 e1 T1 f0 f1 c1⟩
end DN
/-! Lam4: a def called within an except suite with the exception that is held there; isinstance there; l.count(True). -/
namespace DN
open PySem PySem.Spec PyProof.Rows L2 L2H
/-- the promise of a def that is called where the object p stands out of reach -/
structure FnPin (P : Program) (w : World) (K : PySem.W.Frag) (mg : Str → Option Value) (base : Heap) (k : Nat) (f : Addr) (fd : FuncData) (ps : List Str) (sp : Addr × Obj → Sp) : Prop where
  len : ∀ p vs H Q E, sp p vs H Q E → vs.length = ps.length
  run : ∀ (A : Around) (outer : List Env) (s : Shared) (H : Hp) (args : PySem.Args) (us : List Value) (vs : List V) (Q : VK) (E : XK) (p : Addr × Obj), RoomH k A → PinOk outer H s p → Env0 P w K mg base A outer s H → BindsTo s fd args (ps.zip us) → Vals vs us → sp p vs H Q E →
    codeAny (model P w) A (.call (.ref f) args) (CR (L2.CX P w) outer P w H s Q E) s
section
variable {P : Program} {w : World} {K : PySem.W.Frag} {mg : Str → Option Value} {base : Heap}
theorem fn_pin {x qual : Str} {st : Stmt} {f : Addr} {fd : FuncData} {N ps : List Str} {k : Nat} {sp : Addr × Obj → Sp} (Fu : Fun K x qual st f fd) (S : FnScope N ps (defScope st)) (len : ∀ p vs H Q E, sp p vs H Q E → vs.length = ps.length)
    (hbody : ∀ (cdv : Value) (A : Around) (outer : List Env) (s : Shared) (H : Hp) (vs : List V) (Q : VK) (E : XK) (p : Addr × Obj), RoomH k (A.deeper (envOfC qual (defScope st) s.heap.objs.size f cdv)) → sp p vs H Q E →
      ∃ t, PSs (cxH (L2.CX P w) P w K mg base N qual (defScope st) f cdv A outer s H E p) (defBody st) t ∧ t { nx := fun _ H' => Q .non H', rt := Q } (L2.start N vs) H) : FnPin P w K mg base (k + 1) f fd ps sp := by
  obtain ⟨oc, od, kV, doc, pm, an, cdv, ct, osl, rfl, lk, hcd⟩ := Fu.ex
  refine ⟨len, fun A outer s H args us vs Q E p hr hpin e0 hb r hsp => ?_⟩
  have hl := len _ _ _ _ _ hsp
  have KX : K.In s.heap := e0.mod.kin.keeps fun b o e => (e0.bs b o e).1
  have lim : s.heap.NoLimit := e0.mod.nolimit.keeps fun b o e => (e0.bs b o e).1
  have hkind : ∀ y ∈ ps.zip us, (defScope st).names.lookup y.1 = some .local ∨ ((defScope st).names.lookup y.1 = some .cell ∧ ((cellsFrom (s.heap.objs.size + 1) (defScope st).names []).lookup y.1).isSome = true) := fun ⟨n, v⟩ hy => by
    rcases S.par n (List.of_mem_zip hy).1 with q | q
    · exact .inl q
    · exact .inr ⟨q, PySem.W.cellsFrom_some _ _ _ (.inl q)⟩
  refine codeAny_call_function hr.depth (KX _ _ lk) rfl S.co S.gen rfl (PySem.W.codeRec_of KX hcd) (hb _ _ _ _ ?_)
  refine wpAny_newFunctionEnv_cells S.kind hkind fun env he s1 x => ?_
  subst he
  refine ⟨lim.keeps x.toInCall.keep, codeAny_func ?_⟩
  obtain ⟨t, ht, hq⟩ := hbody cdv A outer s H vs Q E p (hr.deeper _) hsp
  have I : Inv (cxH (L2.CX P w) P w K mg base N qual (defScope st) f cdv A outer s H E p) [] (L2.start N vs) H s1 := inv_startH S hpin e0 hl r x
  refine wpAny_mono (ht.run [] s1 (L2.start N vs) H _ I hq) (fun fl s' hs => ?_) fun e s' hs => hs
  have fin : ∀ {σ' : L2.St} {H' : Hp} {v : V} {u : Value}, Inv (cxH (L2.CX P w) P w K mg base N qual (defScope st) f cdv A outer s H E p) [] σ' H' s' → RelV v u → Q v H' → CE outer P w H s Q u s' :=
    fun {σ' H' v u} J rv q => ⟨v, H', J.os, J.bare, J.base, J.hok, rv, q⟩
  cases fl with
  | ret u =>
    obtain ⟨v, σ', H', J, rv, q⟩ := hs
    exact fin J rv q
  | next =>
    obtain ⟨σ', H', J, q⟩ := hs
    exact fin (v := V.non) (u := Value.none) J rfl q
  | brk =>
    obtain ⟨_, _, _, q⟩ := hs
    exact False.elim q
  | cont =>
    obtain ⟨_, _, _, q⟩ := hs
    exact False.elim q
end
section
variable {X : Cx} {k : Nat} {f : Addr} {fd : FuncData} {ps : List Str} {sp : Addr × Obj → Sp} {x : Str} {q pos : Pos} {e : Expr} {es : List Expr} {t : TA}
/-- f(..), called where p is among the context's pins; it raises nothing -/
theorem pe_callP {p : Addr × Obj} (F : FnPin X.prog X.w X.K X.mg X.base k f fd ps sp) (hr : RoomH k X.A) (hp : p ∈ X.pn) (hg : Gl X x) (hm : X.mg x = some (.ref f)) (hk : PySem.W.keepIn X.K (.ref f) = true) (hb : Binds X.K fd ps [])
    (ha : PA X (e :: es) t) (hdb : (x == ("__debug__" : Str)) = false := by decide) (he : starEach (e :: es) X.env = (false, eval e X.env) :: starEach es X.env := by rfl) (hpl : (backTo pos (starEach es X.env)).any (·.1) = false := by rfl) :
    PE X (.Call (.Name x q) (e :: es) [] pos) (fun σ H Q => t σ H fun vs H1 => sp p vs H1 Q fun _ _ _ => False) := by
  refine ⟨fun pins s σ H Q I h => ?_⟩
  refine wpAny_Call_Name_kw (ld_glob I hg hm ?_ hdb)
  refine PySem.W.callWith_K (h₀ := X.base) I.ok.mod.kin hk (thn (ha.run pos pins s σ H _ I h) fun us s1 ⟨vs, H1, I1, r, q⟩ => ⟨I1.kIn, ?_⟩) he hpl
  show wpAny _ _ (call (.ref f) us) _ _ _
  have hl : us.length = ps.length := by rw [← r.length]; exact F.len _ _ _ _ _ q
  have b := hb s1 us I1.kIn (by rw [List.append_nil]; exact hl)
  rw [List.append_nil] at b
  have P1 := I1.pin p (List.mem_append_left _ hp)
  have hpin : PinOk X.stack H1 s1 p := ⟨P1.1, P1.2.1, fun hm => (List.mem_cons.mp (I1.stkSub p.1 hm)).elim P1.2.2.1 P1.2.2.2.1, P1.2.2.2.2⟩
  refine wpAny_call (codeAny_mono (F.run X.A X.stack s1 H1 ⟨us, []⟩ us vs Q _ p hr hpin I1.env0 b r q) fun r s' hq => ?_)
  cases r with
  | error e =>
    obtain ⟨_, _, _, _, _, _, _, _, _, _, _, _, z⟩ := (show L2.CX X.prog X.w X.stack H1 s1 (fun _ _ _ => False) e s' from hq)
    exact z.elim
  | ok fl =>
    cases fl with
    | ret u => exact I1.after hq
    | next => exact False.elim hq
    | brk => exact False.elim hq
    | cont => exact False.elim hq
/-- isinstance of the exception that stands among the pins -/
theorem call_isP {X : Cx} {a D : Addr} {oe : Obj} (C : ExcC X.K D) (hp : (a, oe) ∈ X.pn) (hz : Zc (.ref D) none oe) (hf : ∃ vs, oe.data = .fields vs) : CallR X (.builtin "isinstance") (rIsE X.K D a) := by
  intro pins s σ H xs us Q I r h
  obtain ⟨c, cv, b, rfl, hcv, e, q⟩ := h
  cases r with
  | cons rx rr =>
    cases rr with
    | cons rt rr =>
      cases rr
      cases rx
      have ec := hcv _ rt
      subst ec
      obtain ⟨hget, _⟩ := I.pin (a, oe) (List.mem_append.mpr (.inl hp))
      obtain ⟨vs, hv⟩ := hf
      have J : PySem.W.InstAt s.heap a oe D none := by
        obtain ⟨oc, od, oda, osl⟩ := oe
        obtain ⟨h1, h2⟩ := hz
        dsimp only at h1 h2 hv
        subst h1 h2 hv
        exact ⟨hget, rfl, rfl, trivial⟩
      exact PySem.W.kia_one (PySem.W.handS_kitx_exc C.hg C.hk C.hs C.hd C.ha C.hn C.ht C.hm) I.kIn J e (fun z => nomatch z) fun tk => ⟨.bl b, H, I.kept (t' := tk) fun _ _ z => z, rfl, q⟩
end
/-! ### l.count(True) -/
section
variable {X : Cx}
def rCountT (K : PySem.W.Frag) : V → List V → Hp → VK → Prop := fun x xs H Q => ∃ (a : Addr) (ys : List V) (y : V), x = V.ref a ∧ xs = [y] ∧ SqL K H a ys ∧ flatV y = true ∧ ys.all flatV = true ∧ Q (.int ((ys.countP fun z => eqV z y : Nat) : Int)) H
theorem count_eqU {y : V} : ∀ {ys : List V} {its : List Value}, Vals ys its → ys.all flatV = true → its.countP (eqU y) = ys.countP fun z => eqV z y
  | _, _, .nil, _ => rfl
  | _, _, .cons (a := z) (b := u) r t, f => by
    simp only [List.all_cons, Bool.and_eq_true] at f
    rw [List.countP_cons, List.countP_cons, count_eqU t f.2, eqU_of r f.1]
theorem mt_count : MtR X "list.count" (rCountT X.K) := by
  intro pins s σ H x xs v us Q I rx rxs h
  obtain ⟨a, ys, y, rfl, rfl, hs, fy, fys, q⟩ := h
  cases rx
  cases rxs with
  | cons ry rt =>
    rename_i uy ut
    cases rt
    obtain ⟨its, rv, ⟨⟨cls, dd, data, sl⟩, n, ho, hc, hdn, hd⟩, hlen⟩ := I.list hs
    simp only at hc hd
    subst hc hd
    refine call_meets PySem.F.slot_list_count ⟨_, ho, rfl⟩ PySem.F.entry_list_count (PySem.F.args_list_count_2 _ _)
      (SeqAt.list_countAt a its.toArray n dd sl uy (eqU y)) ⟨ho, fun u' hu' => mem_eqAt ry fy rv fys u' (by simpa using hu'), ?_⟩
    have e := count_eqU (y := y) rv fys
    rw [← e] at q
    exact ⟨.int ((its.countP (eqU y) : Nat) : Int), H, I.tok _, ⟨_, rfl⟩, q⟩
end
end DN
/-! Lam5: what a def asks of a held exception; count and index of an own list. -/
namespace DN
open PySem PySem.Spec PyProof.Rows L2 L2H
section
variable {X : Cx} {W : WX} {pos p : Pos} (K : PySem.W.Frag)
theorem ek_isP {a C CC : Addr} {oe : Obj} (i : Nat) {b : Bool} {x q : Str} {p1 p2 : Pos} (E : ExcC K C) (hpn : (a, oe) ∈ X.pn) (hz : Zc (.ref C) none oe) (hf : ∃ vs, oe.data = .fields vs) (hm : X.mg "isinstance" = none) (hq : X.mg q = some (.ref CC)) (hkit : PySem.W.kitOne K (.ref C) (.ref CC) = some b)
    (hN : X.N[i]? = some x := by rfl) (hv : Vis X.env.scope x := by first | exact Or.inl rfl | exact Or.inr (Or.inl rfl) | exact Or.inr (Or.inr rfl)) (hd : (x == ("__debug__" : Str)) = false := by decide) (hcd : (x == ("__classdict__" : Str)) = false := by decide)
    (hg : Gl X "isinstance" := by rfl) (hgq : Gl X q := by rfl) (hdq : (q == ("__debug__" : Str)) = false := by decide)
    (hs1 : starEach [.Name x p1, .Name q p2] X.env = (false, eval (.Name x p1) X.env) :: starEach [.Name q p2] X.env := by rfl) (hs2 : starEach [.Name q p2] X.env = (false, eval (.Name q p2) X.env) :: starEach [] X.env := by rfl) (hpl : (backTo pos (starEach [.Name q p2] X.env)).any (·.1) = false := by rfl) (hK : X.K = K := by rfl) :
    EE X W (.Call (.Name "isinstance" p) [.Name x p1, .Name q p2] [] pos) (tCB (rIsE K C a) (tCons (tVar i) (tCons (tC (.ref CC)) tNil))) (fIsE a i b) := by
  subst hK
  refine ⟨pe_callB (call_isP E hpn hz hf) hg hm (by decide +kernel) (pa_cons (pe_var hN hv hd hcd) (pa_cons (pe_glob hgq hq rfl hdq) pa_nil hs2) hs1) (by decide) (by decide) hs1 hpl, fun {G H0 ρ σ F H} rel Q P => ?_⟩
  unfold fIsE at P
  split at P
  · rename_i a' h
    split at P
    · rename_i e
      subst e
      obtain ⟨v, hv, e⟩ := rel.at_ i _ h
      cases e
      exact ⟨_, hv, .ref CC, .ref CC, b, rfl, fun u r => by cases r; rfl, hkit, post_flat rel.sub (.bl _) P⟩
    · exact P.elim
  · exact P.elim
theorem ek_isPT {a C : Addr} {n : String} {oe : Obj} (i : Nat) {b : Bool} {x q : Str} {p1 p2 : Pos} (E : ExcC K C) (hpn : (a, oe) ∈ X.pn) (hz : Zc (.ref C) none oe) (hf : ∃ vs, oe.data = .fields vs) (hm : X.mg "isinstance" = none) (hT : X.mg q = none) (hb : bootBuiltins q = some (.type n)) (hkit : PySem.W.kitOne K (.ref C) (.type n) = some b)
    (hN : X.N[i]? = some x := by rfl) (hv : Vis X.env.scope x := by first | exact Or.inl rfl | exact Or.inr (Or.inl rfl) | exact Or.inr (Or.inr rfl)) (hd : (x == ("__debug__" : Str)) = false := by decide) (hcd : (x == ("__classdict__" : Str)) = false := by decide)
    (hg : Gl X "isinstance" := by rfl) (hgq : Gl X q := by rfl) (hdq : (q == ("__debug__" : Str)) = false := by decide) (hn : q ≠ "__name__" := by decide)
    (hs1 : starEach [.Name x p1, .Name q p2] X.env = (false, eval (.Name x p1) X.env) :: starEach [.Name q p2] X.env := by rfl) (hs2 : starEach [.Name q p2] X.env = (false, eval (.Name q p2) X.env) :: starEach [] X.env := by rfl) (hpl : (backTo pos (starEach [.Name q p2] X.env)).any (·.1) = false := by rfl) (hK : X.K = K := by rfl) :
    EE X W (.Call (.Name "isinstance" p) [.Name x p1, .Name q p2] [] pos) (tCB (rIsE K C a) (tCons (tVar i) (tCons (tC (.ty n)) tNil))) (fIsE a i b) := by
  subst hK
  refine ⟨pe_callB (call_isP E hpn hz hf) hg hm (by decide +kernel) (pa_cons (pe_var hN hv hd hcd) (pa_cons (pe_bltn (v := .ty n) hgq hT hb rfl hn hdq) pa_nil hs2) hs1) (by decide) (by decide) hs1 hpl, fun {G H0 ρ σ F H} rel Q P => ?_⟩
  unfold fIsE at P
  split at P
  · rename_i a' h
    split at P
    · rename_i e
      subst e
      obtain ⟨v, hv, e⟩ := rel.at_ i _ h
      cases e
      exact ⟨_, hv, .ty n, .type n, b, rfl, fun u r => r, hkit, post_flat rel.sub (.bl _) P⟩
    · exact P.elim
  · exact P.elim
/-- x.count(True), x.index(True) of a list of ours -/
@[simp] def fCntO (i : Nat) : Ev → Rs R := fun ρ => match ρ[i]? with
  | some (some (.own xs)) => match asBs xs with
    | some bs => .ok (.val (.int ((bs.countP id : Nat) : Int)))
    | none => .bad
  | _ => .bad
@[simp] def fIdxO (i : Nat) : Ev → Rs R := fun ρ => match ρ[i]? with
  | some (some (.own xs)) => match asBs xs with
    | some bs => match bs.findIdx? id with
      | some j => .ok (.val (.int (j : Nat)))
      | none => .bad
    | none => .bad
  | _ => .bad
theorem ek_cntO (i : Nat) {x : Str} {apos cpos p1 p2 : Pos} {jj : Nat} (hN : X.N[i]? = some x := by rfl) (hv : Vis X.env.scope x := by first | exact Or.inl rfl | exact Or.inr (Or.inl rfl) | exact Or.inr (Or.inr rfl)) (hd : (x == ("__debug__" : Str)) = false := by decide) (hcd : (x == ("__classdict__" : Str)) = false := by decide)
    (hbase : attributeBase (.Name x p1) "count" X.env (eval (.Name x p1) X.env) = eval (.Name x p1) X.env := by rfl)
    (hfew : ((backTo cpos (starEach [Expr.Constant (.bool true) jj p2] X.env)).all (fun x => !x.1) && (backToKw cpos (keywordEach [] X.env)).all (fun x => x.1.isSome)
      && decide (([Expr.Constant (.bool true) jj p2] : List Expr).length + ([] : List Keyword).length + (if ([] : List Keyword).isEmpty then 0 else 1) < 30)) = true := by rfl)
    (hline : (apos.endLine == cpos.line) = true := by rfl) (hs : starEach [Expr.Constant (.bool true) jj p2] X.env = (false, eval (.Constant (.bool true) jj p2) X.env) :: starEach [] X.env := by rfl) (hplain : (backTo cpos (starEach [] X.env)).any (·.1) = false := by rfl) (hK : X.K = K := by rfl) :
    EE X W (.Call (.Attribute (.Name x p1) "count" apos) [.Constant (.bool true) jj p2] [] cpos) (tBM K "list" (rCountT K) (tVar i) (tCons (tC (.bl true)) tNil)) (fCntO i) := by
  subst hK
  refine ⟨pe_bm PySem.F.plainAttrs_list PySem.F.slot_list_count PySem.F.type_list_count mt_count (pe_var hN hv hd hcd) (pa_cons (ee_bl (W := W)).pe pa_nil hs) hbase hfew hline hs hplain, fun {G H0 ρ σ F H} rel Q P => ?_⟩
  unfold fCntO at P
  split at P
  · rename_i xs h
    split at P
    · rename_i bs hbs
      obtain ⟨v, hv, q, vs, rfl, hp, hF, r⟩ := rel.at_ i _ h
      have hy := DDs.ofBools (asBs_eq hbs ▸ r)
      refine ⟨_, hv, .inl ⟨rfl, vs, SqL.of hp⟩, q, vs, .bl true, rfl, rfl, SqL.of hp, rfl, ?_, ?_⟩
      · rw [hy]; simp [flatV]
      · have e : vs.countP (fun z => eqV z (.bl true)) = bs.countP id := by
          rw [hy, List.countP_map]
          refine List.countP_congr fun b _ => ?_
          cases b <;> decide
        rw [e]
        exact post_flat rel.sub (.int _) P
    · exact P.elim
  · exact P.elim
theorem ek_idxO (i : Nat) {x : Str} {apos cpos p1 p2 : Pos} {jj : Nat} (hN : X.N[i]? = some x := by rfl) (hv : Vis X.env.scope x := by first | exact Or.inl rfl | exact Or.inr (Or.inl rfl) | exact Or.inr (Or.inr rfl)) (hd : (x == ("__debug__" : Str)) = false := by decide) (hcd : (x == ("__classdict__" : Str)) = false := by decide)
    (hbase : attributeBase (.Name x p1) "index" X.env (eval (.Name x p1) X.env) = eval (.Name x p1) X.env := by rfl)
    (hfew : ((backTo cpos (starEach [Expr.Constant (.bool true) jj p2] X.env)).all (fun x => !x.1) && (backToKw cpos (keywordEach [] X.env)).all (fun x => x.1.isSome)
      && decide (([Expr.Constant (.bool true) jj p2] : List Expr).length + ([] : List Keyword).length + (if ([] : List Keyword).isEmpty then 0 else 1) < 30)) = true := by rfl)
    (hline : (apos.endLine == cpos.line) = true := by rfl) (hs : starEach [Expr.Constant (.bool true) jj p2] X.env = (false, eval (.Constant (.bool true) jj p2) X.env) :: starEach [] X.env := by rfl) (hplain : (backTo cpos (starEach [] X.env)).any (·.1) = false := by rfl) (hK : X.K = K := by rfl) :
    EE X W (.Call (.Attribute (.Name x p1) "index" apos) [.Constant (.bool true) jj p2] [] cpos) (tBM K "list" (rIndex K) (tVar i) (tCons (tC (.bl true)) tNil)) (fIdxO i) := by
  subst hK
  refine ⟨pe_bm PySem.F.plainAttrs_list PySem.F.slot_list_index PySem.F.type_list_index mt_index (pe_var hN hv hd hcd) (pa_cons (ee_bl (W := W)).pe pa_nil hs) hbase hfew hline hs hplain, fun {G H0 ρ σ F H} rel Q P => ?_⟩
  unfold fIdxO at P
  split at P
  · rename_i xs h
    split at P
    · rename_i bs hbs
      split at P
      · rename_i k hk
        obtain ⟨v, hv, q, vs, rfl, hp, hF, r⟩ := rel.at_ i _ h
        have hy := DDs.ofBools (asBs_eq hbs ▸ r)
        obtain ⟨hlt, h1, h2⟩ := List.findIdx?_eq_some_iff_getElem.mp hk
        refine ⟨_, hv, .inl ⟨rfl, vs, SqL.of hp⟩, q, vs, .bl true, k, .bl true, rfl, rfl, SqL.of hp, rfl, ?_, ?_, rfl, fun m z' hm hz' => ?_, post_flat rel.sub (.int _) P⟩
        · rw [hy]; simp [flatV]
        · rw [hy, List.getElem?_map]
          simp [hlt]
          simpa using h1
        · rw [hy, List.getElem?_map] at hz'
          have := h2 m hm
          have hml : m < bs.length := by omega
          simp [hml] at hz'
          subst hz'
          simp at this
          rw [this]
          rfl
      · exact P.elim
    · exact P.elim
  · exact P.elim
end
end DN
/-! Lam6: x(), x a lambda that raises; try: return x() / except C as e: return ("error", f(e)). -/
namespace DN
open PySem PySem.Spec PyProof.Rows L2 L2H LamX
section
variable {X : Cx} {W : WX} {T : List Addr} {k i : Nat} {x : Str} {p1 p2 : Pos}
def tThk (P : Program) (w : World) (K : PySem.W.Frag) (mg : Str → Option Value) (base : Heap) (T : List Addr) (k i : Nat) (W : WX) : TE := fun σ H Q => ∃ f c, σ[i]? = some (some (.ref f)) ∧ Thk P w K mg base T k H f c ∧ ∀ C H', mg c = some (.ref C) → Same H H' → W (.ref C) none σ H'
theorem pe_imp {e : Expr} {t t' : TE} (h : PE X e t) (i : ∀ σ H Q, t' σ H Q → t σ H Q) : PE X e t' := ⟨fun pins s σ H Q I q => h.run pins s σ H Q I (i σ H Q q)⟩
theorem pe_thk {P : Program} {w : World} {K : PySem.W.Frag} {mg : Str → Option Value} {base : Heap} (tk : Takes X W) (hr : Room k X.A) (hN : X.N[i]? = some x) (hv : Vis X.env.scope x) (hd : (x == ("__debug__" : Str)) = false := by decide) (hcd : (x == ("__classdict__" : Str)) = false := by decide)
    (e1 : X.prog = P := by rfl) (e2 : X.w = w := by rfl) (e3 : X.K = K := by rfl) (e4 : X.mg = mg := by rfl) (e5 : X.base = base := by rfl) :
    PE X (.Call (.Name x p1) [] [] p2) (tThk P w K mg base T k i W) := by
  subst e1 e2 e3 e4 e5
  refine ⟨fun pins s σ H Q I h => ?_⟩
  obtain ⟨f, c, hs, ht, hW⟩ := h
  refine wpAny_Call_Name_kw (thn ((pe_var (pos := p1) (i := i) hN hv hd hcd).run pins s σ H (fun v H1 => v = .ref f ∧ H1 = H) I ⟨.ref f, hs, rfl, rfl⟩) fun u s1 ⟨v, H1, I1, r1, q1⟩ => ?_)
  obtain ⟨ev, eH⟩ := q1
  subst ev
  rw [eH] at I1
  obtain rfl : u = Value.ref f := r1
  obtain ⟨⟨F, _, hF⟩, run⟩ := ht
  obtain ⟨pm, ctv, ho⟩ := fnP_at I1.hok hF
  refine PySem.W.callWith_F0 ⟨_, _, _, _, ho⟩ ?_
  show wpAny _ _ (call (.ref f) []) _ _ _
  refine wpAny_call (codeAny_mono (run X.A X.stack s1 H Q (WE W σ) hr I1.env0 SameT.refl fun C H' m e => hW C H' m e) fun r s' hq => ?_)
  cases r with
  | error e => exact passAt tk σ pins H s1 e s' I1 hq
  | ok fl =>
    cases fl with
    | ret u => exact I1.after hq
    | next => exact False.elim hq
    | brk => exact False.elim hq
    | cont => exact False.elim hq
end
/-- the promise of the def that names an exception -/
def spCls (mg : Str → Option Value) (known : List Str) : Addr × Obj → Sp := fun p vs H Q _ => vs = [.ref p.1] ∧ ∃ c C, c ∈ known ∧ mg c = some (.ref C) ∧ Zc (.ref C) none p.2 ∧ (∃ fs, p.2.data = .fields fs) ∧ ∀ H', Same H H' → Q (.str c) H'
/-- the promise of the def that calls a lambda -/
def spRes (P : Program) (w : World) (K : PySem.W.Frag) (mg : Str → Option Value) (base : Heap) (T : List Addr) (k : Nat) (known : List Str) : Sp := fun vs H Q _ => ∃ f c, vs = [.ref f] ∧ c ∈ known ∧ Thk P w K mg base T k H f c ∧
  ∀ a H', Same H H' → H a = none → H' a = some (.tup [.str "error", .str c]) → Q (.ref a) H'
section
variable {P : Program} {w : World} {K : PySem.W.Frag} {mg : Str → Option Value} {base : Heap} {T : List Addr}
theorem fn_res {x qual a er xc lc : Str} {st : Stmt} {f g : Addr} {fd gd : FuncData} {N gps : List Str} {k kc : Nat} {known : List Str} {CL : Addr} {p1 p2 p3 p4 p5 p6 p7 p8 p9 p10 p11 p12 : Pos} {j1 j2 : Nat} (Fu : Fun K x qual st f fd) (S : FnScope N [a] (defScope st))
    (hbd : defBody st = [.Try [.Return (some (.Call (.Name a p1) [] [] p2)) p3] [.ExceptHandler (some (.Name lc p4)) (some er) [.Return (some (.Tuple [.Constant (.str "error") j1 p5, .Call (.Name xc p6) [.Name er p7] [] p8] j2 p9)) p10] p11] [] [] p12])
    (hN : N = [a, er]) (hva : Vis (defScope st) a) (hve : (defScope st).names.lookup er = some .local) (hgl : (defScope st).names.lookup lc = some .globalImplicit) (hgc : (defScope st).names.lookup xc = some .globalImplicit)
    (hcl : mg lc = some (.ref CL)) (hex : ∀ c C, c ∈ known → mg c = some (.ref C) → PySem.W.exmOne K (.ref C) (.ref CL) = some true)
    (G : FnPin P w K mg base kc g gd gps (spCls mg known)) (hmg : mg xc = some (.ref g)) (hkg : PySem.W.keepIn K (.ref g) = true) (hbg : Binds K gd gps []) (hkc : kc ≤ k)
    (da : (a == ("__debug__" : Str)) = false) (dca : (a == ("__classdict__" : Str)) = false) (de : (er == ("__debug__" : Str)) = false) (dce : (er == ("__classdict__" : Str)) = false) (dl : (lc == ("__debug__" : Str)) = false) (dx : (xc == ("__debug__" : Str)) = false) (hne : a ≠ er) :
    FnOk P w K mg base (L2.CX P w) (k + 1) f fd [a] (spRes P w K mg base T k known) := by
  refine Fu.okX S (fun vs H Q E h => by obtain ⟨f, c, rfl, _⟩ := h; rfl) (fun cdv A outer s H vs Q E hr h => ?_)
  obtain ⟨f0, c0, rfl, hc0, ht, hq⟩ := h
  subst hN
  rw [hbd]
  have tk : Takes (cxOf (L2.CX P w) P w K mg base [a, er] qual (defScope st) f cdv A outer s H E) (fun _ _ _ _ => False) := LamX.takes0
  refine ⟨_, pss_one (ps_try_as (X := cxOf (L2.CX P w) P w K mg base [a, er] qual (defScope st) f cdv A outer s H E) (i := 1) (c := .ref CL) (tb := fun W => tRet (tThk P w K mg base T k 0 W))
      (ts := fun a cls d => tRet (tTup (tCons (tC (.str "error")) (tCons (fun σ H Q => d = none ∧ (tCons (tVar 1) tNil) σ H fun vs H1 => vs = [.ref a] ∧ ∃ c C, c ∈ known ∧ mg c = some (.ref C) ∧ cls = .ref C ∧ ∀ H', Same H1 H' → Q (.str c) H') tNil))))
      rfl rfl S.nd rfl hve ⟨hgl, dl, .inl hcl⟩ tk
      (fun W pn xe tk' po => pss_one (ps_ret (pe_thk (T := T) (k := k) (i := 0) tk' hr rfl hva da dca)))
      fun a' oe cls d pn hz hf => pss_one (ps_ret (pe_tup (pa_cons pe_str (pa_cons (pe_imp (pe_callP (p := (a', oe)) G ⟨?_, ?_⟩ List.mem_cons_self hgc hmg hkg hbg (pa_cons (pe_var (i := 1) rfl (.inl hve) de dce) pa_nil) dx) ?_) pa_nil))))), ?_⟩
  · have := hr.dp
    show A.depth + 1 + 3 * kc + 5 < _
    have h2 : (A.deeper (envOfC qual (defScope st) s.heap.objs.size f cdv)).depth = A.depth + 1 := rfl
    omega
  · have := hr.un
    have h2 : (A.deeper (envOfC qual (defScope st) s.heap.objs.size f cdv)).units = A.units + 3 := rfl
    show A.units + 3 + 16 * kc + 200 < _
    omega
  · rintro σ H2 Q2 ⟨rfl, h⟩
    obtain ⟨v, hv, h⟩ := h
    refine ⟨v, hv, ?_⟩
    obtain ⟨e1, c, C, h1, h2, e3, h3⟩ := h
    subst e3
    exact ⟨e1, c, C, h1, h2, hz, hf, h3⟩
  · refine ⟨f0, c0, rfl, ht, fun C H' m e => ⟨true, hex c0 C hc0 m, fun _ a' na => ?_, fun z => nomatch z⟩⟩
    refine ⟨rfl, .ref a', rfl, rfl, c0, C, hc0, m, rfl, fun H2 e2 => ⟨by rw [sizeLine_eq]; simp, fun b nb => ?_⟩⟩
    exact hq b _ ((e.trans e2).trans (same_new nb)) ((e.trans e2).free nb) upd_same
end
end DN
/-! Lam7: return all([f(x) == ("error", name) for x in calls]). -/
namespace DN
open PySem PySem.Spec PyProof.Rows L2 L2H LamX
/-- a lambda among a list's items -/
def ThkV (P : Program) (w : World) (K : PySem.W.Frag) (mg : Str → Option Value) (base : Heap) (T : List Addr) (k : Nat) (H : Hp) (c : Str) (v : V) : Prop := ∃ f, v = .ref f ∧ Thk P w K mg base T k H f c
def spAll (P : Program) (w : World) (K : PySem.W.Frag) (mg : Str → Option Value) (base : Heap) (T : List Addr) (k : Nat) (known : List Str) : Sp := fun vs H Q _ => ∃ L c xs, vs = [.ref L, .str c] ∧ c ∈ known ∧ SeqAt.shaped (.tuple [.str "error", .str c]) = true ∧ H L = some (.lst xs) ∧ xs.length ≤ 100 ∧ (∀ v ∈ xs, ThkV P w K mg base T k H c v) ∧
  ∀ H', Same H H' → Q (.bl true) H'
def tAll (K : PySem.W.Frag) (sp : Sp) (E : L2.St → XK) : TS := tRet (tCB (rAll K) (tCons (tLc (iList K (tVar 0)) (gName 2) tYes (tOp (rEqD K) (tCallS sp E (tCons (tVar 2) tNil)) (tTup (tCons (tC (.str "error")) (tCons (tVar 1) tNil)))) [2]) tNil))
theorem all_sound {P : Program} {w : World} {K : PySem.W.Frag} {mg : Str → Option Value} {base : Heap} {T : List Addr} {k : Nat} {known : List Str} {vs : List V} {H : Hp} {Q : VK} {E : XK} {E0 : L2.St → XK} {N : List Str} (hN : N.length = 3) (h : spAll P w K mg base T k known vs H Q E) :
    tAll K (spRes P w K mg base T k known) E0 { nx := fun _ H' => Q .non H', rt := Q } (L2.start N vs) H := by
  obtain ⟨L, c, xs, rfl, hc, hsh, hL, hlen, hx, hQ⟩ := h
  have st : L2.start N [V.ref L, V.str c] = [some (.ref L), some (.str c), none] := by
    unfold L2.start
    simp [hN]
  rw [st]
  have hsl := sizeLine_eq
  refine ⟨.ref L, rfl, L, rfl, ⟨xs, SqL.of hL⟩, fun D nD => ?_⟩
  refine ⟨fun i m H' => i ≤ xs.length ∧ m = xs.length - i ∧ Same H H' ∧ H' D = some (.lst (List.replicate i (.bl true))), ⟨xs.length, Nat.zero_le _, rfl, same_new nD, upd_same⟩, fun i m H' hW => ?_⟩
  obtain ⟨hi, rfl, e1, hD⟩ := hW
  by_cases hlt : i < xs.length
  · refine .inr ⟨⟨xs, xs[i], SqL.of (e1 _ _ hL), List.getElem?_eq_getElem hlt⟩, fun H'' => i + 1 ≤ xs.length ∧ Same H H'' ∧ H'' D = some (.lst (List.replicate (i + 1) (.bl true))), fun H'' q => ⟨xs.length - (i + 1), by omega, q.1, rfl, q.2⟩, fun x H2 hy => ?_⟩
    obtain ⟨rfl, hy⟩ := hy
    have hxi := hy xs (SqL.of (e1 _ _ hL))
    have hm : x ∈ xs := List.mem_of_getElem? hxi
    obtain ⟨f, rfl, ht⟩ := hx x hm
    refine ⟨rfl, ?_⟩
    unfold tYes
    dsimp only
    rw [if_pos rfl]
    refine ⟨.ref f, rfl, ?_⟩
    refine ⟨f, c, rfl, hc, ht.mono (SameT.of e1), fun a H3 e3 na ha => ?_⟩
    refine ⟨.str c, rfl, by rw [hsl]; simp, fun b nb => ?_⟩
    have ha' : upd H3 b (.tup [.str "error", .str c]) a = some (.tup [.str "error", .str c]) := by
      rw [upd_ne (ne_of_none ha nb)]; exact ha
    refine ⟨.tuple [.str "error", .str c], .tuple [.str "error", .str c], .tup (SqT.of ha') (.cons (.str _) (.cons (.str _) .nil)), .tup (SqT.of upd_same) (.cons (.str _) (.cons (.str _) .nil)), hsh, hsh, ?_⟩
    have hD3 : upd H3 b (.tup [.str "error", .str c]) D = some (.lst (List.replicate i (.bl true))) := by
      have := e3 _ _ hD
      rw [upd_ne (ne_of_none this nb)]; exact this
    have eqv : PyData.eqv (.tuple [.str "error", .str c]) (.tuple [.str "error", .str c]) = true := by simp [PyData.eqv, PyData.eqvAll]
    refine ⟨_, hD3, by rw [List.length_replicate, hsl]; omega, hlt, fun q o z => ?_, ?_⟩
    · have := same_new (o := .tup [.str "error", .str c]) nb _ _ (e3 _ _ (e1 _ _ z))
      rw [upd_ne (ne_of_none z nD)]
      exact this
    · rw [upd_same, eqv, List.replicate_succ']
  · have hin : i = xs.length := by omega
    subst hin
    refine .inl ⟨⟨xs, SqL.of (e1 _ _ hL), Nat.le_refl _⟩, D, List.replicate xs.length true, rfl, ?_, ?_⟩
    · have : (List.replicate xs.length true).map V.bl = List.replicate xs.length (.bl true) := by simp
      rw [this]
      exact SqL.of hD
    · have : (List.replicate xs.length true).all id = true := by simp
      rw [this]
      exact hQ _ e1
end DN
/-! Lam8: lambdas that a running def has made: what they will do once its cells are pinned. -/
namespace DN
open PySem PySem.Spec PyProof.Rows L2 L2H LamX NdefX
/-! ### the cells of a running def as pins -/
def cellsPn (N : List Str) (cells : List (Str × Addr)) (h : Heap) : Pn := N.filterMap fun y => (cells.lookup y).bind fun c => (h.get? c).map fun o => (c, o)
section
variable {N : List Str} {cells : List (Str × Addr)} {h : Heap} {c : Addr} {o : Obj}
theorem lookup_mem {l : Pn} : ∀ {l : Pn}, l.lookup c = some o → (c, o) ∈ l
  | [], e => by simp at e
  | (a, b) :: r, e => by
    rw [List.lookup_cons] at e
    split at e
    · rename_i z
      have : c = a := by simpa using z
      cases e
      rw [this]
      exact List.mem_cons_self
    · exact List.mem_cons_of_mem _ (lookup_mem (l := r) e)
theorem cellsPn_of (e : (cellsPn N cells h).lookup c = some o) : ∃ y ∈ N, cells.lookup y = some c ∧ h.get? c = some o := by
  have m := lookup_mem (l := []) e
  obtain ⟨y, hy, z⟩ := List.mem_filterMap.mp m
  cases q : cells.lookup y with
  | none => rw [q] at z; cases z
  | some c' =>
    rw [q] at z
    simp only [Option.bind_some] at z
    cases q2 : h.get? c' with
    | none => rw [q2] at z; cases z
    | some o' =>
      rw [q2] at z
      simp only [Option.map_some, Option.some.injEq, Prod.mk.injEq] at z
      obtain ⟨rfl, rfl⟩ := z
      exact ⟨y, hy, q, q2⟩
theorem lookup_some_of {l : Pn} : ∀ {l : Pn}, (∀ p ∈ l, p.1 = c → p.2 = o) → (c, o) ∈ l → l.lookup c = some o
  | [], _, m => by cases m
  | (a, b) :: r, h, m => by
    rw [List.lookup_cons]
    by_cases z : c = a
    · subst z
      have := h (c, b) List.mem_cons_self rfl
      simp at this
      simp [this]
    · have : (c == a) = false := by simpa using z
      rw [this]
      rcases List.mem_cons.mp m with e | e
      · cases e; exact (z rfl).elim
      · exact lookup_some_of (l := r) (fun p hp => h p (List.mem_cons_of_mem _ hp)) e
theorem cellsPn_in {y : Str} (hy : y ∈ N) (e : cells.lookup y = some c) (ho : h.get? c = some o) : (cellsPn N cells h).lookup c = some o := by
  refine lookup_some_of (l := []) (fun p hp z => ?_) (List.mem_filterMap.mpr ⟨y, hy, by simp [e, ho]⟩)
  obtain ⟨y', _, q⟩ := List.mem_filterMap.mp hp
  cases q1 : cells.lookup y' with
  | none => rw [q1] at q; cases q
  | some c' =>
    rw [q1] at q
    simp only [Option.bind_some] at q
    cases q2 : h.get? c' with
    | none => rw [q2] at q; cases q
    | some o' =>
      rw [q2] at q
      simp only [Option.map_some, Option.some.injEq] at q
      subst q
      dsimp only at z ⊢
      subst z
      rw [ho] at q2
      exact (Option.some.inj q2).symm
end
/-! ### lambdas of a running def -/
/-- over the slots js of the def -/
def okJ (ρ : Ev) (j : Nat) : Bool := match ρ[j]? with
  | some (some r) => !r.isOwn
  | _ => false
def atJ (js : List Nat) (g : Ev → Rs R) : Ev → Rs R := fun ρ => if js.all (okJ ρ) = true then g (js.map fun j => (ρ[j]?).join) else .bad
theorem okJ_of {ρ : Ev} {j : Nat} (h : okJ ρ j = true) : ∃ r, ρ[j]? = some (some r) ∧ r.isOwn = false := by
  unfold okJ at h
  cases q : ρ[j]? with
  | none => rw [q] at h; cases h
  | some x =>
    cases x with
    | none => rw [q] at h; cases h
    | some r => rw [q] at h; exact ⟨r, rfl, by simpa using h⟩
theorem picks {K : PySem.W.Frag} {F H H' : Hp} {ρ : Ev} {σ : L2.St} : ∀ {js : List Nat}, (∀ j ∈ js, ∃ r v, ρ[j]? = some (some r) ∧ r.isOwn = false ∧ σ[j]? = some (some v) ∧ Rep K F H v r) →
    ∃ (rs : List R) (ws : List V), (js.map fun j => (ρ[j]?).join) = rs.map some ∧ js.map (fun j => σ[j]?) = ws.map (fun v => some (some v)) ∧ Args K F H' ws rs
  | [], _ => ⟨[], [], rfl, rfl, .nil⟩
  | j :: js, h => by
    obtain ⟨rs, ws, a1, a2, a3⟩ := picks (js := js) (H' := H') fun j hj => h j (List.mem_cons_of_mem _ hj)
    obtain ⟨r, v, b1, b2, b3, b4⟩ := h j List.mem_cons_self
    refine ⟨r :: rs, v :: ws, by rw [List.map_cons, a1, b1]; rfl, by rw [List.map_cons, a2, b3]; rfl, .cons ⟨?_, b2⟩ a3⟩
    cases r with
    | own _ => cases b2
    | dct _ => cases b2
    | dck _ => cases b2
    | obj _ _ _ => cases b2
    | _ => exact b4
/-- f holds a lambda of the def that runs in X; over the def's slots it denotes γ -/
def Lat (X : Cx) (k : Nat) (H : Hp) (f : Addr) (γ : Ev → Rs R) : Prop := ∃ (F : LF) (fr : List Str) (js : List Nat) (g : Ev → Rs R), γ = atJ js g ∧ H f = some (FnP f F) ∧ H F.c = some (CodeO F.c F.qual) ∧ F.cl = cloFrom X.env.cells F.scope.names [] ∧
  LamOk X.prog X.w X.K X.mg X.base k F fr g ∧ js.map (fun j => X.N[j]?) = fr.map some ∧ ∀ y ∈ F.scope.names, y.2 = .free → X.env.scope.names.lookup y.1 = some .cell ∨ X.env.scope.names.lookup y.1 = some .free
theorem Lat.mono {X : Cx} {k : Nat} {H H' : Hp} {f : Addr} {γ : Ev → Rs R} (l : Lat X k H f γ) (e : ∀ a o, (∀ ps, o ≠ .tbl ps) → H a = some o → H' a = some o) : Lat X k H' f γ := by
  obtain ⟨F, fr, js, g, e1, h1, h2, r⟩ := l
  exact ⟨F, fr, js, g, e1, e _ _ (fun ps z => by unfold FnP at z; cases z) h1, e _ _ (fun ps z => by unfold CodeO at z; cases z) h2, r⟩
section
variable {X : Cx} {pins : List (Addr × Obj)} {σ : L2.St} {H G H0 F : Hp} {s : Shared} {ρ : Ev} {T : List (Addr × Str)} {k : Nat}
theorem pn_facts (I : Inv X pins σ H s) (hfn : ∀ y, X.fn y = true) {b : Addr} {o : Obj} (e : (cellsPn X.N X.env.cells s.heap).lookup b = some o) : s.heap.get? b = some o ∧ H b = none ∧ X.base.get? b = none ∧ b ∉ frs X.stack := by
  obtain ⟨y, hy, h1, h2⟩ := cellsPn_of e
  have hc := I.ok.cab y b (hfn y) h1
  refine ⟨h2, I.freeC y b h1, ?_, fun hb => ?_⟩
  · cases q : X.base.get? b with
    | none => rfl
    | some o' => exact absurd (Nat.lt_of_lt_of_le (Heap.lt_size q) (Nat.le_trans I.ok.bsz hc)) (Nat.lt_irrefl _)
  · rcases List.mem_cons.mp (I.stkSub b hb) with z | z
    · exact I.cne y b h1 z
    · obtain ⟨_, ob, ho, _⟩ := I.ok.funs.mem z
      exact absurd (Nat.lt_of_lt_of_le (Heap.lt_size ho) hc) (Nat.lt_irrefl _)
theorem lat_thk {f : Addr} {c : Str} {γ : Ev → Rs R} (I : Inv X pins σ H s) (hfn : ∀ y, X.fn y = true) (rel : Rel X.K G H0 ρ σ F H) (hT : Tabs T H) (hF : ∀ p ∈ T, F p.1 = none) (l : Lat X k H f γ) (hγ : γ ρ = .err c) :
    Thk X.prog X.w X.K X.mg X.base (T.map (·.1)) (k + 1) (pls H (cellsPn X.N X.env.cells s.heap)) f c := by
  obtain ⟨L, fr, js, g, rfl, Hf, Hc, hcl, lok, hjs, hfree⟩ := l
  have hh : js.all (okJ ρ) = true ∧ g (js.map fun j => (ρ[j]?).join) = .err c := by
    unfold atJ at hγ
    split at hγ
    · rename_i z; exact ⟨z, hγ⟩
    · cases hγ
  obtain ⟨hall, hγ⟩ := hh
  have hS : ∀ b o, (cellsPn X.N X.env.cells s.heap).lookup b = some o → s.heap.get? b = some o ∧ H b = none ∧ X.base.get? b = none ∧ b ∉ frs X.stack := fun b o e => pn_facts I hfn e
  have out : ∀ b u, H b = some u → (cellsPn X.N X.env.cells s.heap).lookup b = none := fun b u q => by
    rcases look_cases (cellsPn X.N X.env.cells s.heap) b with ⟨o, z⟩ | z
    · rw [(hS b o z).2.1] at q; cases q
    · exact z
  have notT : ∀ b u, H b = some u → (∀ ps, u ≠ .tbl ps) → b ∉ T.map (·.1) := fun b u q n z => by
    obtain ⟨p, hp, e⟩ := List.mem_map.mp z
    obtain ⟨ps, h1, _⟩ := hT p hp
    rw [e, q] at h1
    exact n ps (Option.some.inj h1)
  have hfr : ∀ y ∈ L.scope.names, y.2 = .free → ∃ c, X.env.cells.lookup y.1 = some c := fun y hy e => (hfree y hy e).elim (fun z => I.ok.has _ (.inl z)) fun z => I.ok.has _ (.inr z)
  -- the values of the captured names
  obtain ⟨rs, ws, h1, h2, h3⟩ := picks (K := X.K) (F := F) (H := H) (H' := pls H (cellsPn X.N X.env.cells s.heap)) (ρ := ρ) (σ := σ) (js := js) fun j hj => by
    obtain ⟨r, q1, q2⟩ := okJ_of (List.all_eq_true.mp hall j hj)
    obtain ⟨v, a, b⟩ := rel.at_ j r q1
    exact ⟨r, v, q1, q2, a, b⟩
  rw [h1] at hγ
  have NS := lok.1
  have inN : ∀ y ∈ fr, ∃ j ∈ js, X.N[j]? = some y := fun y hy => by
    have : some y ∈ js.map fun j => X.N[j]? := by rw [hjs]; exact List.mem_map.mpr ⟨y, hy, rfl⟩
    obtain ⟨j, hj, e⟩ := List.mem_map.mp this
    exact ⟨j, hj, e⟩
  refine thk_of (S := cellsPn X.N X.env.cells s.heap) (F0 := F) lok (ws := ws) (rs := rs) ⟨?_, fun y c e => ?_, fun x y c e1 e2 => ?_, fun i y e => ?_⟩ (notT f _ Hf fun ps z => by unfold FnP at z; cases z) (by rw [pls_out (out f _ Hf)]; exact Hf) (notT _ _ Hc fun ps z => by unfold CodeO at z; cases z) (by rw [pls_out (out _ _ Hc)]; exact Hc)
    (fun b o e z => ?_) pins_pls (fun b u e => ?_) (fun b hb => ?_) (fun b o e => ?_) h3 hγ
  · have q1 := congrArg List.length h2
    have q2 := congrArg List.length hjs
    simp at q1 q2
    omega
  · rw [hcl] at e
    have e1 := clo_cm hfr e
    rcases cloFrom_mem (PySem.mem_of_lookup e) with hm | ⟨h4, _⟩
    · cases hm
    · obtain ⟨j, hj, hN⟩ := inN y (NS.free _ h4 rfl)
      obtain ⟨v, o, ho, hd⟩ := I.cell y c e1
      exact ⟨o, v, cellsPn_in (List.mem_of_getElem? hN) e1 ho, hd⟩
  · rw [hcl] at e1 e2
    exact I.ok.inj x y c (clo_cm hfr e1) (clo_cm hfr e2)
  · have hy : y ∈ fr := List.mem_of_getElem? e
    have hk := NS.frk y hy
    have hmem : (y, NameKind.free) ∈ L.scope.names := PySem.mem_of_lookup hk
    obtain ⟨c, hc⟩ := hfr _ hmem rfl
    have hc : X.env.cells.lookup y = some c := hc
    refine ⟨c, by rw [hcl]; exact clo_has hfr hmem hc, fun v hv => ?_⟩
    have e2 : (js.map fun j => X.N[j]?)[i]? = some (some y) := by
      rw [hjs, List.getElem?_map, e] <;> rfl
    rw [List.getElem?_map] at e2
    cases ej : js[i]? with
    | none => rw [ej] at e2; cases e2
    | some j =>
      rw [ej] at e2
      have hj : X.N[j]? = some y := Option.some.inj (show some (X.N[j]?) = some (some y) from e2)
      have e3 : (js.map fun j => σ[j]?)[i]? = some (some (some v)) := by
        rw [h2, List.getElem?_map, hv] <;> rfl
      rw [List.getElem?_map, ej] at e3
      have hs : σ[j]? = some (some v) := Option.some.inj (show some (σ[j]?) = some (some (some v)) from e3)
      obtain ⟨m, hn, hl⟩ := I.loc
      have hvis : Vis X.env.scope y := (hfree _ hmem rfl).elim (fun k => .inr (.inl k)) fun k => .inr (.inr k)
      obtain ⟨u, r, q⟩ := hl j y v hj hs hvis
      rcases q with ⟨z, _⟩ | ⟨_, c', ha', o, ho, hd⟩
      · have z' : X.env.scope.names.lookup y = some .local := z
        rcases hfree _ hmem rfl with k | k <;> rw [show X.env.scope.names.lookup y = _ from k] at z' <;> cases z'
      · rw [hc] at ha'
        cases ha'
        exact ⟨u, o, r, cellsPn_in (List.mem_of_getElem? hj) hc ho, hd⟩
  · obtain ⟨p, hp, e'⟩ := List.mem_map.mp z
    obtain ⟨ps, q1, _⟩ := hT p hp
    rw [e', (hS b o e).2.1] at q1
    cases q1
  · rw [pls_out (out b _ (rel.sub _ _ e))]
    exact rel.sub _ _ e
  · obtain ⟨p, hp, e'⟩ := List.mem_map.mp hb
    rw [← e']
    exact hF p hp
  · cases q : F b with
    | none => rfl
    | some u =>
      have := rel.sub _ _ q
      rw [(hS b o e).2.1] at this
      cases this
end
end DN
/-! Lam9: the state of a def that makes lambdas. -/
namespace DN
open PySem PySem.Spec PyProof.Rows L2 L2H LamX NdefX
/-! ### the entry may be taken anew -/
theorem Cell.kind {K : PySem.W.Frag} {F H : Hp} {v : V} {r : R} {q : Addr} (h : Rep K F H v r) (c : Cell H v r q) : ∃ o, H q = some o ∧ (∀ φ, o ≠ .ext φ) ∧ ∀ ps, o ≠ .tbl ps := by
  cases r with
  | own _ => obtain ⟨p, vs, rfl, a, b, _⟩ := h; cases c; exact ⟨_, a, fun _ z => (by cases z), fun _ z => (by cases z)⟩
  | dct _ => obtain ⟨p, vs, rfl, a, b, _⟩ := h; cases c; exact ⟨_, a, fun _ z => (by cases z), fun _ z => (by cases z)⟩
  | dck _ => obtain ⟨p, vs, rfl, a, b, _⟩ := h; cases c; exact ⟨_, a, fun _ z => (by cases z), fun _ z => (by cases z)⟩
  | obj id k o =>
    obtain ⟨a, dx, l1, l2, rfl, _, ⟨v1, v2, us1, us2, h1, h2, h3, h4, _⟩, f1, f2, f3, f4⟩ := h
    obtain ⟨a', dx', w1, w2, m1, m2, e, g, hq⟩ := c
    cases e
    rw [h1] at g
    cases g
    rcases hq with rfl | rfl | rfl | rfl
    · exact ⟨_, h1, fun _ z => (by cases z), fun _ z => (by cases z)⟩
    · exact ⟨_, h2, fun _ z => (by cases z), fun _ z => (by cases z)⟩
    · exact ⟨_, h3, fun _ z => (by cases z), fun _ z => (by cases z)⟩
    · exact ⟨_, h4, fun _ z => (by cases z), fun _ z => (by cases z)⟩
  | _ => exact c.elim
theorem Rep.keepC {K : PySem.W.Frag} {F H H1 : Hp} {v : V} {r : R} (h : Rep K F H v r) (hc : ∀ q, Cell H v r q → H1 q = H q) : Rep K F H1 v r ∧ ∀ q, Cell H1 v r q → Cell H v r q := by
  cases r with
  | own _ =>
    obtain ⟨p, vs, rfl, a, b, c⟩ := h
    exact ⟨⟨p, vs, rfl, by rw [hc p rfl]; exact a, b, c⟩, fun q z => z⟩
  | dct _ =>
    obtain ⟨p, vs, rfl, a, b, c⟩ := h
    exact ⟨⟨p, vs, rfl, by rw [hc p rfl]; exact a, b, c⟩, fun q z => z⟩
  | dck _ =>
    obtain ⟨p, vs, rfl, a, b, c⟩ := h
    exact ⟨⟨p, vs, rfl, by rw [hc p rfl]; exact a, b, c⟩, fun q z => z⟩
  | obj id k o =>
    obtain ⟨a, dx, l1, l2, rfl, hi, hb, f1, f2, f3, f4⟩ := h
    obtain ⟨v1, v2, us1, us2, h1, h2, h3, h4, r⟩ := _root_.id hb
    have hq : ∀ q, q = a ∨ q = dx ∨ q = l1 ∨ q = l2 → H1 q = H q := fun q hq => hc q ⟨a, dx, v1, v2, l1, l2, rfl, h1, hq⟩
    refine ⟨⟨a, dx, l1, l2, rfl, hi, hb.away hq, f1, f2, f3, f4⟩, fun q z => ?_⟩
    obtain ⟨a', dx', w1, w2, m1, m2, e', g, hq'⟩ := z
    cases e'
    rw [hq a (.inl rfl)] at g
    exact ⟨a, dx', w1, w2, m1, m2, rfl, g, hq'⟩
  | val _ => exact ⟨h, fun q z => z⟩
  | scr _ => exact ⟨h, fun q z => z⟩
  | raw _ => exact ⟨h, fun q z => z⟩
  | dfz _ => exact ⟨h, fun q z => z⟩
  | vie _ _ _ => exact ⟨h, fun q z => z⟩
/-- an own cell of the slots -/
def OwnC (ρ : Ev) (σ : L2.St) (H : Hp) (q : Addr) : Prop := ∃ (i : Nat) (r : R) (v : V), ρ[i]? = some (some r) ∧ σ[i]? = some (some v) ∧ Cell H v r q
section
variable {K : PySem.W.Frag} {F H0 H H1 H0' : Hp} {ρ : Ev} {σ : L2.St}
theorem OwnC.kind (rel : Rel K F H0 ρ σ F H) {q : Addr} (c : OwnC ρ σ H q) : H0 q = none ∧ ∃ o, H q = some o ∧ (∀ φ, o ≠ .ext φ) ∧ ∀ ps, o ≠ .tbl ps := by
  obtain ⟨i, r, v, h1, h2, h3⟩ := c
  obtain ⟨w, a, b⟩ := rel.at_ i r h1
  rw [h2] at a
  cases a
  exact ⟨rel.frs i r v q h1 h2 h3, h3.kind b⟩
theorem Rel.reb (rel : Rel K F H0 ρ σ F H) (s : Same F H1) (s0 : Same H0' H1) (hk : ∀ q, OwnC ρ σ H q → H1 q = H q ∧ H0' q = none) : Rel K F H0' ρ σ F H1 where
  base := ⟨Same.refl _, s0, s, fun _ q => .inl q⟩
  len := rel.len
  at_ := fun i r h => by
    obtain ⟨v, a, b⟩ := rel.at_ i r h
    exact ⟨v, a, (b.keepC fun q c => (hk q ⟨i, r, v, h, a, c⟩).1).1⟩
  frs := fun i r v q h a c => by
    obtain ⟨w, a', b⟩ := rel.at_ i r h
    rw [a] at a'
    cases a'
    have c' := (b.keepC fun q c => (hk q ⟨i, r, v, h, a, c⟩).1).2 q c
    exact (hk q ⟨i, r, v, h, a, c'⟩).2
  apart := fun i j r r' v v' q h h' a a' c c' => by
    obtain ⟨w, x, b⟩ := rel.at_ i r h
    rw [a] at x
    cases x
    obtain ⟨w', x', b'⟩ := rel.at_ j r' h'
    rw [a'] at x'
    cases x'
    exact rel.apart i j r r' v v' q h h' a a' ((b.keepC fun q c => (hk q ⟨i, r, v, h, a, c⟩).1).2 q c) ((b'.keepC fun q c => (hk q ⟨j, r', v', h', a', c⟩).1).2 q c')
end
/-! ### the state -/
abbrev Γ := Ev → Rs R
abbrev LE := List (Addr × List Γ)
theorem Lat.ext {X : Cx} {k : Nat} {H H' : Hp} {f : Addr} {γ : Γ} (l : Lat X k H f γ) (e : ∀ a φ, H a = some (.ext φ) → H' a = some (.ext φ)) : Lat X k H' f γ := by
  obtain ⟨F, fr, js, g, e1, h1, h2, r⟩ := l
  exact ⟨F, fr, js, g, e1, e _ _ h1, e _ _ h2, r⟩
def Lats (X : Cx) (k : Nat) (H : Hp) : List V → List Γ → Prop := Paired fun x γ => ∃ f, x = .ref f ∧ Lat X k H f γ
theorem Lats.ext {X : Cx} {k : Nat} {H H' : Hp} (e : ∀ a φ, H a = some (.ext φ) → H' a = some (.ext φ)) : ∀ {xs : List V} {gs : List Γ}, Lats X k H xs gs → Lats X k H' xs gs
  | _, _, .nil => .nil
  | _, _, .cons ⟨f, h, l⟩ t => .cons ⟨f, h, l.ext e⟩ (Lats.ext e t)
theorem Lats.app {X : Cx} {k : Nat} {H : Hp} {f : Addr} {γ : Γ} (l : Lat X k H f γ) : ∀ {xs : List V} {gs : List Γ}, Lats X k H xs gs → Lats X k H (xs ++ [.ref f]) (gs ++ [γ])
  | _, _, .nil => .cons ⟨f, rfl, l⟩ .nil
  | _, _, .cons h t => .cons h (Lats.app l t)
/-- h: the def's entry; g: what stays -/
structure HB where
  h : Hp
  g : Hp
/-- H0: the entry taken anew; H00: the def's entry; T: the tables -/
structure MR0 (X : Cx) (T : List (Addr × Str)) (k : Nat) (H00 : HB) (ρ : Ev) (le : LE) (σ : L2.St) (F H H0 : Hp) : Prop where
  rel : Rel X.K F H0 ρ σ F H
  tabs : Tabs T H0
  ent : SameT (T.map (·.1)) H00.h H0
  noF : ∀ p ∈ T, F p.1 = none
  lam : ∀ L gs, le.lookup L = some gs → ∃ xs, H0 L = some (.lst xs) ∧ H00.h L = none ∧ F L = none ∧ xs.length ≤ 100 ∧ Lats X k H0 xs gs
  grow : Same H00.g F
def MR (X : Cx) (T : List (Addr × Str)) (k : Nat) (H00 : HB) (ρ : Ev) (le : LE) (σ : L2.St) (F H : Hp) : Prop := ∃ H0, MR0 X T k H00 ρ le σ F H H0
section
variable {X : Cx} {T : List (Addr × Str)} {k : Nat} {H00 : HB} {F H H0 : Hp} {ρ : Ev} {le : LE} {σ : L2.St}
theorem MR0.tabsH (m : MR0 X T k H00 ρ le σ F H H0) : Tabs T H := m.tabs.ext m.rel.base.hh
open Classical in
/-- tables grew -/
theorem MR0.grew {H1 : Hp} (m : MR0 X T k H00 ρ le σ F H H0) (e1 : SameT (T.map (·.1)) H H1) (T1 : Tabs T H1) : ∃ H0', MR0 X T k H00 ρ le σ F H1 H0' ∧ ∀ b φ, H1 b = some (.ext φ) → H0' b = some (.ext φ) := by
  have inT : ∀ b, b ∈ T.map (·.1) → ∃ ps, H0 b = some (.tbl ps) := fun b hb => by
    obtain ⟨p, hp, e⟩ := List.mem_map.mp hb
    obtain ⟨ps, h, _⟩ := m.tabs p hp
    exact ⟨ps, by rw [← e]; exact h⟩
  let H0' : Hp := fun b => if H0 b = none ∧ ∃ o, H b = some o ∧ ∀ φ, o ≠ .ext φ then none else H1 b
  have hs : Same H0' H1 := fun b o h => by
    have h : (if H0 b = none ∧ ∃ o, H b = some o ∧ ∀ φ, o ≠ .ext φ then none else H1 b) = some o := h
    split at h
    · cases h
    · exact h
  have keep : ∀ b o, b ∉ T.map (·.1) → H0 b = some o → H0' b = some o := fun b o n h => by
    show (if H0 b = none ∧ ∃ o, H b = some o ∧ ∀ φ, o ≠ .ext φ then none else H1 b) = some o
    rw [if_neg (fun z => by rw [h] at z; cases z.1)]
    exact e1 b o n (m.rel.base.hh _ _ h)
  have keepX : ∀ b φ, H1 b = some (.ext φ) → H0' b = some (.ext φ) := fun b φ h => by
    show (if H0 b = none ∧ ∃ o, H b = some o ∧ ∀ φ, o ≠ .ext φ then none else H1 b) = some (.ext φ)
    rw [if_neg ?_]
    · exact h
    · rintro ⟨z1, o, z2, z3⟩
      have hb : b ∉ T.map (·.1) := fun z => by
        obtain ⟨ps, z⟩ := inT b z
        rw [z] at z1; cases z1
      have := e1 b o hb z2
      rw [h] at this
      cases this
      exact z3 φ rfl
  have nP : ∀ b o, H0 b = some o → (∀ ps, o ≠ .tbl ps) → b ∉ T.map (·.1) := fun b o h n z => by
    obtain ⟨ps0, z⟩ := inT b z
    rw [z] at h
    exact n ps0 (Option.some.inj h).symm
  have keepE : ∀ b φ, H0 b = some (.ext φ) → H0' b = some (.ext φ) := fun b φ h => keep b _ (nP b _ h fun ps z => by cases z) h
  refine ⟨H0', ⟨m.rel.reb (fun b o h => e1 b o (fun z => ?_) (m.rel.sub _ _ h)) hs (fun q c => ?_), fun p hp => ?_, fun b o n h => keep b o n (m.ent b o n h), m.noF, fun L gs h => ?_, m.grow⟩, keepX⟩
  · obtain ⟨p, hp, e⟩ := List.mem_map.mp z
    rw [← e, m.noF p hp] at h
    cases h
  · obtain ⟨h1, o, h2, h3, h4⟩ := OwnC.kind m.rel c
    have hq : q ∉ T.map (·.1) := fun z => by
      obtain ⟨ps, z⟩ := inT q z
      rw [z] at h1; cases h1
    refine ⟨by rw [h2]; exact e1 q o hq h2, ?_⟩
    show (if H0 q = none ∧ ∃ o, H q = some o ∧ ∀ φ, o ≠ .ext φ then none else H1 q) = none
    rw [if_pos ⟨h1, o, h2, h3⟩]
  · obtain ⟨ps, a1, a2, a3⟩ := T1 p hp
    obtain ⟨ps', b1, _⟩ := m.tabs p hp
    refine ⟨ps, ?_, a2, fun pos cv hc => ?_⟩
    · show (if H0 p.1 = none ∧ ∃ o, H p.1 = some o ∧ ∀ φ, o ≠ .ext φ then none else H1 p.1) = _
      rw [if_neg (fun z => by rw [b1] at z; cases z.1)]
      exact a1
    · obtain ⟨c, e, h⟩ := a3 pos cv hc
      exact ⟨c, e, keepX _ _ h⟩
  · obtain ⟨xs, h1, h2, h3, h5, h4⟩ := m.lam L gs h
    exact ⟨xs, keep L _ (nP L _ h1 fun ps z => by cases z) h1, h2, h3, h5, h4.ext keepE⟩
/-- a lambda was made -/
theorem MR0.made {P f : Addr} {H1 : Hp} {γ : Γ} (m : MR0 X T k H00 ρ le σ F H H0) (hP : P ∈ T.map (·.1)) (e1 : ∀ b o, b ≠ P → H b = some o → H1 b = some o) (T1 : Tabs T H1) (l : Lat X k H1 f γ) : ∃ H0', MR0 X T k H00 ρ le σ F H1 H0' ∧ Lat X k H0' f γ := by
  obtain ⟨H0', m', kx⟩ := m.grew (fun b o n h => e1 b o (fun z => n (by rw [z]; exact hP)) h) T1
  exact ⟨H0', m', l.ext kx⟩
/-- a list is laid at L -/
theorem MR0.lay {L : Addr} {xs : List V} {gs : List Γ} (m : MR0 X T k H00 ρ le σ F H H0) (hL : (H L = none ∧ H00.h L = none ∧ F L = none) ∨ ∃ ys, H0 L = some (.lst ys) ∧ H00.h L = none ∧ F L = none) (hlen : xs.length ≤ 100) (l : Lats X k H0 xs gs) :
    MR0 X T k H00 ρ ((L, gs) :: le) σ F (upd H L (.lst xs)) (upd H0 L (.lst xs)) := by
  have n00 : H00.h L = none := by rcases hL with ⟨_, z, _⟩ | ⟨_, _, z, _⟩ <;> exact z
  have nF : F L = none := by rcases hL with ⟨_, _, z⟩ | ⟨_, _, _, z⟩ <;> exact z
  have nX : ∀ φ, H0 L ≠ some (.ext φ) := fun φ z => by
    rcases hL with ⟨h, _⟩ | ⟨ys, h, _⟩
    · rw [m.rel.base.hh _ _ z] at h; cases h
    · rw [z] at h; cases h
  have nT : ∀ p ∈ T, p.1 ≠ L := fun p hp z => by
    obtain ⟨ps, a, _⟩ := m.tabs p hp
    rw [z] at a
    rcases hL with ⟨h, _⟩ | ⟨ys, h, _⟩
    · rw [m.rel.base.hh _ _ a] at h; cases h
    · rw [a] at h; cases h
  have keepE : ∀ b φ, H0 b = some (.ext φ) → upd H0 L (.lst xs) b = some (.ext φ) := fun b φ h => by
    rw [upd_ne (fun z => by rw [z] at h; exact nX φ h)]
    exact h
  refine ⟨m.rel.reb (fun b o h => ?_) (same_upd2 m.rel.base.hh) (fun q c => ?_), fun p hp => ?_, fun b o n h => ?_, m.noF, fun L' gs' h => ?_, m.grow⟩
  · rw [upd_ne (ne_of_none h nF)]
    exact m.rel.sub _ _ h
  · obtain ⟨h1, o, h2, _⟩ := OwnC.kind m.rel c
    have hq : q ≠ L := fun z => by
      rw [z] at h1 h2
      rcases hL with ⟨h, _⟩ | ⟨ys, h, _⟩
      · rw [h2] at h; cases h
      · rw [h1] at h; cases h
    exact ⟨upd_ne hq, by rw [upd_ne hq]; exact h1⟩
  · obtain ⟨ps, a1, a2, a3⟩ := m.tabs p hp
    refine ⟨ps, by rw [upd_ne (nT p hp)]; exact a1, a2, fun pos cv hc => ?_⟩
    obtain ⟨c, e, h⟩ := a3 pos cv hc
    exact ⟨c, e, keepE _ _ h⟩
  · rw [upd_ne (ne_of_none h n00)]
    exact m.ent b o n h
  · rw [List.lookup_cons] at h
    by_cases z : L' = L
    · subst z
      simp at h
      subst h
      exact ⟨xs, upd_same, n00, nF, hlen, l.ext keepE⟩
    · have zb : (L' == L) = false := by simpa using z
      rw [zb] at h
      obtain ⟨ys, h1, h2, h3, h5, h4⟩ := m.lam L' gs' h
      exact ⟨ys, by rw [upd_ne z]; exact h1, h2, h3, h5, h4.ext keepE⟩
end
end DN
/-! Lam10: statements of a def that makes lambdas. -/
namespace DN
open PySem PySem.Spec PyProof.Rows L2 L2H LamX NdefX
inductive RM where
  | nx (ρ : Ev) (le : LE)
  | ret (b : Bool)
  | bad
  /-- for each address -/
  | any (f : Addr → RM)
  /-- never comes -/
  | vac
def RM.seq : RM → (Ev → LE → RM) → RM
  | .nx ρ le, k => k ρ le
  | .ret b, _ => .ret b
  | .bad, _ => .bad
  | .any f, k => .any fun a => (f a).seq k
  | .vac, _ => .vac
@[simp] def gSeqM (g h : Ev → LE → RM) : Ev → LE → RM := fun ρ le => (g ρ le).seq h
@[simp] def gNextM : Ev → LE → RM := fun ρ le => .nx ρ le
@[simp] theorem seqM_nx (ρ : Ev) (le : LE) (k : Ev → LE → RM) : (RM.nx ρ le).seq k = k ρ le := rfl
@[simp] theorem seqM_ret (b : Bool) (k : Ev → LE → RM) : (RM.ret b).seq k = .ret b := rfl
@[simp] theorem seqM_bad (k : Ev → LE → RM) : RM.bad.seq k = .bad := rfl
@[simp] theorem seqM_vac (k : Ev → LE → RM) : RM.vac.seq k = .vac := rfl
@[simp] theorem seqM_any (f : Addr → RM) (k : Ev → LE → RM) : (RM.any f).seq k = .any fun a => (f a).seq k := rfl
def PostM (X : Cx) (T : List (Addr × Str)) (k : Nat) (H00 : HB) (D : Ends) : RM → Prop
  | .nx ρ le => ∀ σ F H, MR X T k H00 ρ le σ F H → D.nx σ H
  | .ret b => ∀ H, Tabs T H → SameT (T.map (·.1)) H00.h H → D.rt (.bl b) H
  | .bad => False
  | .any f => ∀ a, PostM X T k H00 D (f a)
  | .vac => True
section
variable (X : Cx) (T : List (Addr × Str)) (k : Nat)
structure MS (st : Stmt) (t : TS) (g : Ev → LE → RM) : Prop where
  ps : PS X st t
  sound : ∀ {H00 : HB} {ρ : Ev} {le : LE} {σ : L2.St} {F H : Hp}, MR X T k H00 ρ le σ F H → ∀ D : Ends, PostM X T k H00 D (g ρ le) → t D σ H
structure MB (sts : List Stmt) (t : TS) (g : Ev → LE → RM) : Prop where
  ps : PSs X sts t
  sound : ∀ {H00 : HB} {ρ : Ev} {le : LE} {σ : L2.St} {F H : Hp}, MR X T k H00 ρ le σ F H → ∀ D : Ends, PostM X T k H00 D (g ρ le) → t D σ H
/-- a test -/
structure MT (e : Expr) (t : TT) (c : Ev → LE → Option Bool) : Prop where
  pt : PT X e t
  sound : ∀ {H00 : HB} {ρ : Ev} {le : LE} {σ : L2.St} {F H : Hp}, MR X T k H00 ρ le σ F H → ∀ (b : Bool) (Q : Bool → Hp → Prop), c ρ le = some b → (∀ F' H', MR X T k H00 ρ le σ F' H' → Q b H') → t σ H Q
end
section
variable {X : Cx} {T : List (Addr × Str)} {k : Nat} {H00 : HB} {F H H0 : Hp} {ρ : Ev} {le : LE} {σ : L2.St} {st : Stmt} {rest : List Stmt} {t u : TS} {g h : Ev → LE → RM} {W : WX} {pos : Pos}
theorem postM_seq {D D' : Ends} {m : RM} {q : Ev → LE → RM} (P : PostM X T k H00 D (m.seq q)) (hn : ∀ ρ le σ F H, MR X T k H00 ρ le σ F H → PostM X T k H00 D (q ρ le) → D'.nx σ H) (hr : D'.rt = D.rt) : PostM X T k H00 D' m := by
  induction m with
  | nx ρ le => exact fun σ F H m => hn ρ le σ F H m P
  | ret b => exact fun H a c => by rw [hr]; exact P H a c
  | bad => exact P
  | any f ih => exact fun a => ih a (P a)
  | vac => trivial
theorem mb_nil : MB X T k [] tNext gNextM := ⟨pss_nil, fun m D P => P _ _ _ m⟩
theorem mb_one (a : MS X T k st t g) : MB X T k [st] t g := ⟨pss_one a.ps, a.sound⟩
theorem mb_cons (a : MS X T k st t g) (b : MB X T k rest u h) : MB X T k (st :: rest) (tSeq t u) (gSeqM g h) where
  ps := pss_cons a.ps b.ps
  sound := fun m D P => a.sound m _ (postM_seq P (fun ρ' le' σ' F' H' m' P' => b.sound m' D P') rfl)
theorem MR0.step {F' H' : Hp} {ρ' : Ev} {σ' : L2.St} (m : MR0 X T k H00 ρ le σ F H H0) (r : Rel X.K F H0 ρ' σ' F' H') : MR0 X T k H00 ρ' le σ' F' H' H0 := by
  have nn : ∀ b o, H0 b = some o → (∀ xs, o ≠ .tup xs) → F b = none → F' b = none := fun b o h n f => by
    cases q : F' b with
    | none => rfl
    | some y =>
      rcases r.base.new b (by rw [q]; exact fun z => nomatch z) with z | z
      · exact absurd f z
      · obtain ⟨xs, z⟩ := z _ h
        exact absurd z (n xs)
  refine ⟨r.re, m.tabs, m.ent, fun p hp => ?_, fun L gs h => ?_, m.grow.trans r.base.keep⟩
  · obtain ⟨ps, a, _⟩ := m.tabs p hp
    exact nn _ _ a (fun xs z => by cases z) (m.noF p hp)
  · obtain ⟨xs, h1, h2, h3, h4⟩ := m.lam L gs h
    exact ⟨xs, h1, h2, nn _ _ h1 (fun xs z => by cases z) h3, h4⟩
/-- an ordinary statement -/
def liftR (le : LE) : RO → RM
  | .nx ρ => .nx ρ le
  | .ret (.val (.bool b)) => .ret b
  | _ => .bad
def gEs (g : Ev → RO) : Ev → LE → RM := fun ρ le => liftR le (g ρ)
theorem ms_es {g : Ev → RO} (h : ES X W st t g) : MS X T k st t (gEs g) where
  ps := h.ps
  sound := fun {H00 ρ le σ F H} m D P => by
    obtain ⟨H0, m⟩ := m
    refine h.sound m.rel D ?_
    unfold gEs at P
    cases hg : g ρ with
    | nx ρ' =>
      rw [hg] at P
      exact fun σ' F' H' r => P _ _ _ ⟨H0, m.step r⟩
    | ret r =>
      rw [hg] at P
      cases r with
      | val d =>
        cases d with
        | bool b =>
          intro v F' H' bs q
          cases q.1
          exact P H' (m.tabs.ext bs.hh) (m.ent.trans (SameT.of bs.hh))
        | _ => exact P.elim
      | _ => exact P.elim
    | exc c ρ' => rw [hg] at P; exact P.elim
    | bad => rw [hg] at P; exact P.elim
    | retk r ρ' => rw [hg] at P; exact P.elim
def gIfM (fc : Ev → LE → Option Bool) (g h : Ev → LE → RM) : Ev → LE → RM := fun ρ le => match fc ρ le with | some true => g ρ le | some false => h ρ le | none => .bad
/-- if -/
theorem ms_if {c : Expr} {a b : List Stmt} {tc : TT} {fc : Ev → LE → Option Bool} (hc : MT X T k c tc fc) (ha : MB X T k a t g) (hb : MB X T k b u h) :
    MS X T k (.If c a b pos) (tIfS tc t u) (gIfM fc g h) where
  ps := ps_if hc.pt ha.ps hb.ps
  sound := fun {H00 ρ le σ F H} m D P => by
    unfold gIfM at P
    cases q : fc ρ le with
    | none => simp only [q] at P; exact P.elim
    | some b =>
      cases b with
      | true =>
        simp only [q] at P
        exact hc.sound m true _ q fun F' H' m' => by rw [if_pos rfl]; exact ha.sound m' D P
      | false =>
        simp only [q] at P
        exact hc.sound m false _ q fun F' H' m' => by rw [if_neg (by decide)]; exact hb.sound m' D P
def cEt (f : Ev → Rs Bool) : Ev → LE → Option Bool := fun ρ _ => match f ρ with | .ok b => some b | _ => none
/-- tests -/
theorem mt_et {e : Expr} {tt : TT} {f : Ev → Rs Bool} (h : ET X W e tt f) : MT X T k e tt (cEt f) where
  pt := h.pt
  sound := fun {H00 ρ le σ F H} m b Q hc hQ => by
    obtain ⟨H0, m⟩ := m
    refine h.sound m.rel Q ?_
    unfold cEt at hc
    cases hf : f ρ with
    | ok b' =>
      rw [hf] at hc
      cases hc
      exact fun F' H' e => hQ F' H' ⟨H0, m.step (m.rel.step e)⟩
    | err c => rw [hf] at hc; cases hc
    | bad => rw [hf] at hc; cases hc
end
end DN
/-! Lam11: lists of lambdas are made, they grow, they are handed to the def that calls them. -/
namespace DN
open PySem PySem.Spec PyProof.Rows L2 L2H LamX NdefX
/-- what the call of the def that calls all asks: at H1 the list lies at L -/
def AllAsk (X : Cx) (T : List (Addr × Str)) (k : Nat) (c : Str) (σ : L2.St) (H1 : Hp) (L : Addr) : Prop := ∃ (ρ : Ev) (F H0 : Hp) (xs : List V) (gs : List Γ), Rel X.K F H0 ρ σ F H1 ∧ Tabs T H1 ∧ (∀ p ∈ T, F p.1 = none) ∧ H1 L = some (.lst xs) ∧ xs.length ≤ 100 ∧ Lats X k H1 xs gs ∧ ∀ γ ∈ gs, γ ρ = .err c
def tAllG (X : Cx) (T : List (Addr × Str)) (k : Nat) (c : Str) (ta : TA) : TE := fun σ H Q => ta σ H fun vs H1 => ∃ L, vs = [.ref L, .str c] ∧ AllAsk X T k c σ H1 L ∧ ∀ H', Same H1 H' → Q (.bl true) H'
theorem Lats.get {X : Cx} {k : Nat} {H : Hp} : ∀ {xs : List V} {gs : List Γ}, Lats X k H xs gs → ∀ v ∈ xs, ∃ f γ, v = .ref f ∧ γ ∈ gs ∧ Lat X k H f γ
  | _, _, .nil, v, m => by cases m
  | _, _, .cons ⟨f, h, l⟩ t, v, m => by
    rcases List.mem_cons.mp m with e | e
    · subst e; exact ⟨f, _, h, List.mem_cons_self, l⟩
    · obtain ⟨f', γ, a, b, c⟩ := Lats.get t v e
      exact ⟨f', γ, a, List.mem_cons_of_mem _ b, c⟩
section
variable {X : Cx} {T : List (Addr × Str)} {k kk : Nat} {fn : Addr} {fd : FuncData} {ps : List Str} {known : List Str} {x c : Str} {p pos : Pos} {e : Expr} {es : List Expr} {ta : TA}
theorem pe_allG (Fn : FnOk X.prog X.w X.K X.mg X.base (L2.CX X.prog X.w) kk fn fd ps (spAll X.prog X.w X.K X.mg X.base (T.map (·.1)) (k + 1) known)) (hr : Room kk X.A) (hm : X.mg x = some (.ref fn)) (hk : PySem.W.keepIn X.K (.ref fn) = true) (hb : Binds X.K fd ps []) (hfn : ∀ y, X.fn y = true)
    (hc : c ∈ known) (hsh : SeqAt.shaped (.tuple [.str "error", .str c]) = true) (ha : PA X (e :: es) ta) (hg : Gl X x := by rfl) (hdb : (x == ("__debug__" : Str)) = false := by decide) (he : starEach (e :: es) X.env = (false, eval e X.env) :: starEach es X.env := by rfl) (hpl : (backTo pos (starEach es X.env)).any (·.1) = false := by rfl) :
    PE X (.Call (.Name x p) (e :: es) [] pos) (tAllG X T k c ta) := by
  refine ⟨fun pins s σ H Q I h => ?_⟩
  refine wpAny_Call_Name_kw (ld_glob I hg hm ?_ hdb)
  refine PySem.W.callWith_K (h₀ := X.base) I.ok.mod.kin hk (thn (ha.run pos pins s σ H _ I h) fun us s1 ⟨vs, H1, I1, r, L, hvs, hask, q⟩ => ⟨I1.kIn, ?_⟩) he hpl
  subst hvs
  obtain ⟨ρ, F, H0, xs, gs, rel, hT, hF, hL, hlen, hls, hgs⟩ := hask
  show wpAny _ _ (call (.ref fn) us) _ _ _
  have hS : ∀ b o, (cellsPn X.N X.env.cells s1.heap).lookup b = some o → s1.heap.get? b = some o ∧ H1 b = none ∧ X.base.get? b = none ∧ b ∉ frs X.stack := fun b o e => pn_facts I1 hfn e
  have out : ∀ b u, H1 b = some u → (cellsPn X.N X.env.cells s1.heap).lookup b = none := fun b u q => by
    rcases look_cases (cellsPn X.N X.env.cells s1.heap) b with ⟨o, z⟩ | z
    · rw [(hS b o z).2.1] at q; cases q
    · exact z
  have sp : spAll X.prog X.w X.K X.mg X.base (T.map (·.1)) (k + 1) known [.ref L, .str c] (pls H1 (cellsPn X.N X.env.cells s1.heap)) (fun v H' => v = .bl true ∧ Same (pls H1 (cellsPn X.N X.env.cells s1.heap)) H') (fun _ _ _ => False) := by
    refine ⟨L, c, xs, rfl, hc, hsh, by rw [pls_out (out L _ hL)]; exact hL, hlen, fun v hv => ?_, fun H' e => ⟨rfl, e⟩⟩
    obtain ⟨f, γ, rfl, hγ, l⟩ := hls.get v hv
    exact ⟨f, rfl, lat_thk I1 hfn rel hT hF l (hgs γ hγ)⟩
  have hl : us.length = ps.length := by rw [← r.length]; exact Fn.len _ _ _ _ sp
  have b := hb s1 us I1.kIn (by rw [List.append_nil]; exact hl)
  rw [List.append_nil] at b
  have e0 := env0_pls I1.env0 (S := cellsPn X.N X.env.cells s1.heap) (fun b o e => (hS b o e).1) (fun b o e => (hS b o e).2.1) (fun b o e => (hS b o e).2.2.1) (fun b o e => (hS b o e).2.2.2)
  refine wpAny_call (codeAny_mono (Fn.run X.A X.stack s1 _ ⟨us, []⟩ us _ _ _ hr e0 b r sp) fun r s' hq => ?_)
  cases r with
  | error e =>
    obtain ⟨_, _, _, _, _, _, _, _, _, _, _, _, z⟩ := (show L2.CX X.prog X.w X.stack _ s1 (fun _ _ _ => False) e s' from hq)
    exact z.elim
  | ok fl =>
    cases fl with
    | ret u =>
      refine I1.after (ce_mns I1.env0 (fun b o e => (hS b o e).1) (fun b o e => (hS b o e).2.1) (fun b o e => (hS b o e).2.2.2) hq fun v H' hv => ?_)
      obtain ⟨rfl, e'⟩ := hv
      refine ⟨fun b o z => e' _ _ (pls_in z), q _ fun b o z => ?_⟩
      have z' := out b _ z
      rw [mns_out z']
      exact e' _ _ (by rw [pls_out z']; exact z)
    | next => exact False.elim hq
    | brk => exact False.elim hq
    | cont => exact False.elim hq
end
section
variable {X : Cx} {T : List (Addr × Str)} {k : Nat} {H00 : HB} {F H H0 : Hp} {ρ : Ev} {le : LE} {σ : L2.St}
theorem MR0.free (m : MR0 X T k H00 ρ le σ F H H0) {L : Addr} (h : H L = none) : H00.h L = none ∧ F L = none ∧ le.lookup L = none := by
  refine ⟨?_, m.rel.sub.free h, ?_⟩
  · cases q : H00.h L with
    | none => rfl
    | some o =>
      by_cases z : L ∈ T.map (·.1)
      · obtain ⟨p, hp, e⟩ := List.mem_map.mp z
        obtain ⟨ps, a, _⟩ := m.tabsH p hp
        rw [e, h] at a
        cases a
      · have := m.rel.base.hh _ _ (m.ent L o z q)
        rw [h] at this
        cases this
  · cases q : le.lookup L with
    | none => rfl
    | some gs =>
      obtain ⟨xs, a, _⟩ := m.lam L gs q
      have := m.rel.base.hh _ _ a
      rw [h] at this
      cases this
theorem MR0.raw {j L : Nat} (m : MR0 X T k H00 ρ le σ F H H0) : MR0 X T k H00 (ρ.set j (some (.raw (.ref L)))) le (σ.set j (some (.ref L))) F H H0 := ⟨m.rel.setVal (r := .raw (.ref L)) (v := .ref L) rfl rfl, m.tabs, m.ent, m.noF, m.lam, m.grow⟩
/-- what the making of a lambda of the def gives -/
theorem tLam_sound {P : Addr} {mk : Addr → LF} {γ : Γ} {Q : VK} (m : MR0 X T k H00 ρ le σ F H H0) (hP : P ∈ T.map (·.1)) (hl : ∀ c' H1 f, H1 f = some (FnP f (mk c')) → H1 c' = some (CodeO c' (mk c').qual) → Lat X k H1 f γ)
    (hq : ∀ f H1 H0', MR0 X T k H00 ρ le σ F H1 H0' → Lat X k H0' f γ → Q (.ref f) H1) : tLamE T P mk σ H Q := by
  refine ⟨m.tabsH, fun f c' H1 e1 T1 f0 f1 c1 => ?_⟩
  obtain ⟨H0', m1, l1⟩ := m.made hP e1 T1 (hl c' H1 f f1 c1)
  exact hq f H1 H0' m1 l1
end
end DN
/-! Lam12: x = [lambda: ..], x.append(lambda: ..), tests over _law_all. -/
namespace DN
open PySem PySem.Spec PyProof.Rows L2 L2H LamX NdefX
/-- the words of a lambda in the def that runs in X, and what it denotes over the def's slots -/
structure LamD (X : Cx) (T : List (Addr × Str)) (k : Nat) (c P : Addr) (params : Arguments) (body : Expr) (scope : Scope) (js : List Nat) (g : Γ) : Prop where
  TB : TabB X.base X.mg c P
  hcode : X.env.code = .ref c
  hm : (P, X.env.qual ++ "<lambda>") ∈ T
  hu : ∀ p ∈ T, p.1 = P → p.2 = X.env.qual ++ "<lambda>"
  hfree : ∀ y ∈ scope.names, y.2 = .free → X.env.scope.names.lookup y.1 = some .cell ∨ X.env.scope.names.lookup y.1 = some .free
  hdef : defaultsOf params X.env = ([], [])
  ok : ∃ fr, js.map (fun j => X.N[j]?) = fr.map some ∧ ∀ c', LamOk X.prog X.w X.K X.mg X.base k ⟨X.env.qual ++ "<lambda>", params, body, scope, cloFrom X.env.cells scope.names [], c'⟩ fr g
section
variable {X : Cx} {T : List (Addr × Str)} {k : Nat} {H00 : HB} {F H H0 : Hp} {ρ : Ev} {le : LE} {σ : L2.St} {c P : Addr} {params : Arguments} {body : Expr} {scope : Scope} {js : List Nat} {g : Γ} {pos lpos : Pos}
theorem LamD.pe (L : LamD X T k c P params body scope js g) : PE X (.Lambda params body scope lpos) (tLamE T P fun c' => ⟨X.env.qual ++ "<lambda>", params, body, scope, cloFrom X.env.cells scope.names [], c'⟩) := pe_lam L.TB L.hcode L.hm L.hu L.hfree L.hdef
theorem LamD.sound {Q : VK} (L : LamD X T k c P params body scope js g) (m : MR0 X T k H00 ρ le σ F H H0) (hq : ∀ f H1 H0', MR0 X T k H00 ρ le σ F H1 H0' → Lat X k H0' f (atJ js g) → Q (.ref f) H1) :
    tLamE T P (fun c' => ⟨X.env.qual ++ "<lambda>", params, body, scope, cloFrom X.env.cells scope.names [], c'⟩) σ H Q := by
  obtain ⟨fr, hjs, lok⟩ := L.ok
  exact tLam_sound m (List.mem_map.mpr ⟨_, L.hm, rfl⟩) (fun c' H1 f h1 h2 => ⟨_, fr, js, g, rfl, h1, h2, rfl, lok c', hjs, L.hfree⟩) hq
/-- x = [lambda: ..] -/
def gNewL (j : Nat) (γ : Γ) : Ev → LE → RM := fun ρ le => .any fun L => if (le.lookup L).isSome = true then .vac else .nx (ρ.set j (some (.raw (.ref L)))) ((L, [γ]) :: le)
theorem ms_new (j : Nat) {x : Str} {p lp : Pos} (hN : X.N.Nodup) (L : LamD X T k c P params body scope js g) (hi : X.N[j]? = some x := by rfl) (hx : Loc X.env.scope x := by first | exact .inl rfl | exact .inr rfl) (hs : swapsWith (.List [.Lambda params body scope lpos] lp) (some (.Name x p)) pos.line X.env = pure false := by rfl)
    (hf : X.fn x = true ∨ X.env.scope.names.lookup x = some .local := by first | exact .inl rfl | exact .inr rfl) (hst : starEach [.Lambda params body scope lpos] X.env = (false, eval (.Lambda params body scope lpos) X.env) :: starEach [] X.env := by rfl) :
    MS X T k (.Assign [.Name x p] (.List [.Lambda params body scope lpos] lp) pos) (tAsg (tLst (tCons (tLamE T P fun c' => ⟨X.env.qual ++ "<lambda>", params, body, scope, cloFrom X.env.cells scope.names [], c'⟩) tNil)) (gName j)) (gNewL j (atJ js g)) where
  ps := ps_set hN hi hx (pe_lst (pa_cons L.pe pa_nil hst)) hs hf
  sound := fun {H00 ρ le σ F H} m D Pm => by
    obtain ⟨H0, m⟩ := m
    unfold tAsg tLst tCons
    refine L.sound m fun f H1 H0' m1 l1 => ?_
    refine ⟨by rw [sizeLine_eq]; simp, fun q nq => ?_⟩
    obtain ⟨n1, n2, n3⟩ := m1.free nq
    have Pq := Pm q
    dsimp only at Pq
    rw [n3] at Pq
    exact Pq _ _ _ ⟨_, (m1.lay (.inl ⟨nq, n1, n2⟩) (by simp) (Lats.app l1 .nil)).raw⟩
/-- x.append(lambda: ..) -/
def gAppL (j : Nat) (γ : Γ) : Ev → LE → RM := fun ρ le => match ρ[j]? with
  | some (some (.raw (.ref L))) => match le.lookup L with
    | some gs => if gs.length < 100 then .nx ρ ((L, gs ++ [γ]) :: le) else .bad
    | none => .bad
  | _ => .bad
theorem Lats.len {X : Cx} {k : Nat} {H : Hp} : ∀ {xs : List V} {gs : List Γ}, Lats X k H xs gs → xs.length = gs.length
  | _, _, .nil => rfl
  | _, _, .cons _ t => congrArg (· + 1) (Lats.len t)
theorem ms_app (j : Nat) {x : Str} {p2 apos cpos : Pos} (L : LamD X T k c P params body scope js g) (hN : X.N[j]? = some x := by rfl) (hv : Vis X.env.scope x := by first | exact Or.inl rfl | exact Or.inr (Or.inl rfl) | exact Or.inr (Or.inr rfl))
    (hd : (x == ("__debug__" : Str)) = false := by decide) (hcd : (x == ("__classdict__" : Str)) = false := by decide)
    (hbase : attributeBase (.Name x p2) "append" X.env (eval (.Name x p2) X.env) = eval (.Name x p2) X.env := by rfl)
    (hfew : ((backTo cpos (starEach [Expr.Lambda params body scope lpos] X.env)).all (fun x => !x.1) && (backToKw cpos (keywordEach [] X.env)).all (fun x => x.1.isSome)
      && decide (([Expr.Lambda params body scope lpos] : List Expr).length + ([] : List Keyword).length + (if ([] : List Keyword).isEmpty then 0 else 1) < 30)) = true := by rfl)
    (hline : (apos.endLine == cpos.line) = true := by rfl) (hs : starEach [Expr.Lambda params body scope lpos] X.env = (false, eval (.Lambda params body scope lpos) X.env) :: starEach [] X.env := by rfl) (hplain : (backTo cpos (starEach [] X.env)).any (·.1) = false := by rfl)
    (hsw : swapsWith (.Call (.Attribute (.Name x p2) "append" apos) [Expr.Lambda params body scope lpos] [] cpos) none pos.line X.env = pure false := by rfl) :
    MS X T k (.Expr (.Call (.Attribute (.Name x p2) "append" apos) [.Lambda params body scope lpos] [] cpos) pos) (tDrop (tBM X.K "list" rAppend (tVar j) (tCons (tLamE T P fun c' => ⟨X.env.qual ++ "<lambda>", params, body, scope, cloFrom X.env.cells scope.names [], c'⟩) tNil))) (gAppL j (atJ js g)) where
  ps := ps_expr (pe_bm PySem.F.plainAttrs_list PySem.F.slot_list_append PySem.F.type_list_append mt_append (pe_var hN hv hd hcd) (pa_cons L.pe pa_nil hs) hbase hfew hline hs hplain) hsw
  sound := fun {H00 ρ le σ F H} m D Pm => by
    obtain ⟨H0, m⟩ := m
    unfold gAppL at Pm
    split at Pm
    · rename_i q hq
      split at Pm
      · rename_i gs hgs
        split at Pm
        · rename_i hlt
          obtain ⟨v, hv, e⟩ := m.rel.at_ j _ hq
          cases e
          obtain ⟨xs, h1, h2, h3, h5, h4⟩ := m.lam q gs hgs
          refine ⟨_, hv, .inl ⟨rfl, xs, SqL.of (m.rel.base.hh _ _ h1)⟩, L.sound m fun f H1 H0' m1 l1 => ?_⟩
          obtain ⟨ys, i1, i2, i3, i5, i4⟩ := m1.lam q gs hgs
          have hlen : ys.length < 100 := by rw [i4.len]; exact hlt
          refine ⟨q, ys, .ref f, rfl, rfl, m1.rel.base.hh _ _ i1, by rw [sizeLine_eq]; omega, ?_⟩
          exact Pm _ _ _ ⟨_, m1.lay (.inr ⟨ys, i1, i2, i3⟩) (by simp; omega) (Lats.app l1 i4)⟩
        · exact Pm.elim
      · exact Pm.elim
    · exact Pm.elim
end
end DN
/-! Lam13: tests over the def that calls all. -/
namespace DN
open PySem PySem.Spec PyProof.Rows L2 L2H LamX NdefX
section
variable {X : Cx} {T : List (Addr × Str)} {k kk : Nat} {H00 : HB} {F H H0 : Hp} {ρ : Ev} {le : LE} {σ : L2.St} {fn : Addr} {fd : FuncData} {ps : List Str} {known : List Str} {f c : Str} {p pos p1 p2 : Pos}
/-- an expression that gives True -/
structure MV (X : Cx) (T : List (Addr × Str)) (k : Nat) (e : Expr) (t : TE) (q : Ev → LE → Prop) : Prop where
  pe : PE X e t
  sound : ∀ {H00 : HB} {ρ : Ev} {le : LE} {σ : L2.St} {F H : Hp}, MR X T k H00 ρ le σ F H → ∀ Q : VK, q ρ le → (∀ F' H', MR X T k H00 ρ le σ F' H' → Q (.bl true) H') → t σ H Q
theorem MR0.more {H' : Hp} (m : MR0 X T k H00 ρ le σ F H H0) (e : Same H H') : MR0 X T k H00 ρ le σ F H' H0 := m.step (m.rel.step (Ext.more m.rel.sub e))
/-- the lambdas of a list raise c -/
def AllErr (ρ : Ev) (c : Str) (gs : List Γ) : Prop := ∀ γ ∈ gs, γ ρ = .err c
/-- f(x, "c"), x a list of lambdas -/
def qAllV (j : Nat) (c : Str) : Ev → LE → Prop := fun ρ le => ∃ L gs, ρ[j]? = some (some (.raw (.ref L))) ∧ le.lookup L = some gs ∧ AllErr ρ c gs
theorem mv_all (j : Nat) {x : Str} {jj : Nat} (Fn : FnOk X.prog X.w X.K X.mg X.base (L2.CX X.prog X.w) kk fn fd ps (spAll X.prog X.w X.K X.mg X.base (T.map (·.1)) (k + 1) known)) (hr : Room kk X.A) (hm : X.mg f = some (.ref fn)) (hk : PySem.W.keepIn X.K (.ref fn) = true) (hb : Binds X.K fd ps []) (hfn : ∀ y, X.fn y = true)
    (hc : c ∈ known) (hsh : SeqAt.shaped (.tuple [.str "error", .str c]) = true) (hN : X.N[j]? = some x := by rfl) (hv : Vis X.env.scope x := by first | exact Or.inl rfl | exact Or.inr (Or.inl rfl) | exact Or.inr (Or.inr rfl)) (hd : (x == ("__debug__" : Str)) = false := by decide) (hcd : (x == ("__classdict__" : Str)) = false := by decide)
    (hg : Gl X f := by rfl) (hdb : (f == ("__debug__" : Str)) = false := by decide) (hs1 : starEach [.Name x p1, .Constant (.str c) jj p2] X.env = (false, eval (.Name x p1) X.env) :: starEach [.Constant (.str c) jj p2] X.env := by rfl) (hs2 : starEach [.Constant (.str c) jj p2] X.env = (false, eval (.Constant (.str c) jj p2) X.env) :: starEach [] X.env := by rfl)
    (hpl : (backTo pos (starEach [.Constant (.str c) jj p2] X.env)).any (·.1) = false := by rfl) :
    MV X T k (.Call (.Name f p) [.Name x p1, .Constant (.str c) jj p2] [] pos) (tAllG X T k c (tCons (tVar j) (tCons (tC (.str c)) tNil))) (qAllV j c) where
  pe := pe_allG Fn hr hm hk hb hfn hc hsh (pa_cons (pe_var hN hv hd hcd) (pa_cons pe_str pa_nil hs2) hs1) hg hdb hs1 hpl
  sound := fun {H00 ρ le σ F H} m Q q hQ => by
    obtain ⟨H0, m⟩ := m
    obtain ⟨L, gs, h1, h2, h3⟩ := q
    obtain ⟨v, hv, e⟩ := m.rel.at_ j _ h1
    cases e
    obtain ⟨xs, i1, i2, i3, i5, i4⟩ := m.lam L gs h2
    refine ⟨_, hv, L, rfl, ⟨ρ, F, H0, xs, gs, m.rel, m.tabsH, m.noF, m.rel.base.hh _ _ i1, i5, i4.ext (fun a φ z => m.rel.base.hh _ _ z), h3⟩, fun H' e => hQ F H' ⟨H0, m.more e⟩⟩
def qErr (γ : Γ) (c : Str) : Ev → LE → Prop := fun ρ _ => γ ρ = .err c
/-- f([lambda: ..], "c") -/
theorem mv_allL {cc P : Addr} {params : Arguments} {body : Expr} {scope : Scope} {js : List Nat} {g : Γ} {lpos p3 : Pos} {jj : Nat} (Fn : FnOk X.prog X.w X.K X.mg X.base (L2.CX X.prog X.w) kk fn fd ps (spAll X.prog X.w X.K X.mg X.base (T.map (·.1)) (k + 1) known)) (hr : Room kk X.A) (hm : X.mg f = some (.ref fn)) (hk : PySem.W.keepIn X.K (.ref fn) = true) (hb : Binds X.K fd ps [])
    (hfn : ∀ y, X.fn y = true) (hc : c ∈ known) (hsh : SeqAt.shaped (.tuple [.str "error", .str c]) = true) (L : LamD X T k cc P params body scope js g)
    (hg : Gl X f := by rfl) (hdb : (f == ("__debug__" : Str)) = false := by decide) (hst : starEach [.Lambda params body scope lpos] X.env = (false, eval (.Lambda params body scope lpos) X.env) :: starEach [] X.env := by rfl)
    (hs1 : starEach [.List [.Lambda params body scope lpos] p3, .Constant (.str c) jj p2] X.env = (false, eval (.List [.Lambda params body scope lpos] p3) X.env) :: starEach [.Constant (.str c) jj p2] X.env := by rfl) (hs2 : starEach [.Constant (.str c) jj p2] X.env = (false, eval (.Constant (.str c) jj p2) X.env) :: starEach [] X.env := by rfl)
    (hpl : (backTo pos (starEach [.Constant (.str c) jj p2] X.env)).any (·.1) = false := by rfl) :
    MV X T k (.Call (.Name f p) [.List [.Lambda params body scope lpos] p3, .Constant (.str c) jj p2] [] pos)
      (tAllG X T k c (tCons (tLst (tCons (tLamE T P fun c' => ⟨X.env.qual ++ "<lambda>", params, body, scope, cloFrom X.env.cells scope.names [], c'⟩) tNil)) (tCons (tC (.str c)) tNil))) (qErr (atJ js g) c) where
  pe := pe_allG Fn hr hm hk hb hfn hc hsh (pa_cons (pe_lst (pa_cons L.pe pa_nil hst)) (pa_cons pe_str pa_nil hs2) hs1) hg hdb hs1 hpl
  sound := fun {H00 ρ le σ F H} m Q q hQ => by
    obtain ⟨H0, m⟩ := m
    unfold tAllG tCons tLst
    refine L.sound m fun f H1 H0' m1 l1 => ?_
    refine ⟨by rw [sizeLine_eq]; simp, fun a na => ?_⟩
    obtain ⟨n1, n2, n3⟩ := m1.free na
    have m2 := m1.lay (.inl ⟨na, n1, n2⟩) (by simp) (Lats.app l1 .nil)
    obtain ⟨xs, i1, i2, i3, i5, i4⟩ := m2.lam a [atJ js g] (by rw [List.lookup_cons]; simp)
    have m3 : MR0 X T k H00 ρ le σ F _ _ := ⟨m2.rel, m2.tabs, m2.ent, m2.noF, fun L' gs' h => m2.lam L' gs' (by
      rw [List.lookup_cons]
      have : (L' == a) = false := by
        have : L' ≠ a := fun z => by rw [z, n3] at h; cases h
        simpa using this
      rw [this]
      exact h), m2.grow⟩
    show ∃ L', [V.ref a, V.str c] = [.ref L', .str c] ∧ AllAsk X T k c σ (upd H1 a (.lst [.ref f])) L' ∧ ∀ H', Same (upd H1 a (.lst [.ref f])) H' → Q (.bl true) H'
    exact ⟨a, rfl, ⟨ρ, F, _, xs, [atJ js g], m2.rel, m2.tabsH, m2.noF, m2.rel.base.hh _ _ i1, i5, i4.ext (fun a φ z => m2.rel.base.hh _ _ z), fun γ hγ => by
      have : γ = atJ js g := by simpa using hγ
      rw [this]; exact q⟩, fun H' e => hQ F H' ⟨_, m3.more e⟩⟩
end
end DN
/-! Lam14: tests, returns and loops of a def that makes lambdas. -/
namespace DN
open PySem PySem.Spec PyProof.Rows L2 L2H LamX NdefX
section
variable {X : Cx} {T : List (Addr × Str)} {k : Nat} {H00 : HB} {F H H0 : Hp} {ρ : Ev} {le : LE} {σ : L2.St} {W : WX} {pos p : Pos} {e a b : Expr} {te ta tb : TE} {q qa qb : Ev → LE → Prop}
open Classical in
/-- return e, e gives True -/
noncomputable def gRetM (q : Ev → LE → Prop) : Ev → LE → RM := fun ρ le => if q ρ le then .ret true else .bad
theorem MR.end (m : MR X T k H00 ρ le σ F H) : Tabs T H ∧ SameT (T.map (·.1)) H00.h H := by
  obtain ⟨H0, m⟩ := m
  exact ⟨m.tabsH, m.ent.trans (SameT.of m.rel.base.hh)⟩
theorem ms_ret (h : MV X T k e te q) : MS X T k (.Return (some e) pos) (tRet te) (gRetM q) where
  ps := ps_ret h.pe
  sound := fun {H00 ρ le σ F H} m D P => by
    unfold gRetM at P
    split at P
    · rename_i hq
      exact h.sound m _ hq fun F' H' m' => P H' m'.end.1 m'.end.2
    · exact P.elim
open Classical in
noncomputable def cNN (qa qb : Ev → LE → Prop) : Ev → LE → Option Bool := fun ρ le => if qa ρ le ∧ qb ρ le then some false else none
open Classical in
noncomputable def cN1 (qa : Ev → LE → Prop) : Ev → LE → Option Bool := fun ρ le => if qa ρ le then some false else none
/-- not a or not b, both True -/
theorem mt_nn {pa pb po : Pos} (ha : MV X T k a ta qa) (hb : MV X T k b tb qb) (ea : ∀ whole, isTrue a X.env whole = (do let v ← whole; standAt a.pos; holding [v] (truthy v)) := by intro _; rfl) (eb : ∀ whole, isTrue b X.env whole = (do let v ← whole; standAt b.pos; holding [v] (truthy v)) := by intro _; rfl) :
    MT X T k (.BoolOp .Or [.UnaryOp .Not a pa, .UnaryOp .Not b pb] po) (tOr (tNot (tB ta)) (tNot (tB tb))) (cNN qa qb) where
  pt := (pw_or (pt_not (pt_val ha.pe ea)) (pw_or1 (pt_not (pt_val hb.pe eb)))).pt
  sound := fun {H00 ρ le σ F H} m b Q hc hQ => by
    unfold cNN at hc
    split at hc
    · rename_i hq
      cases hc
      refine ha.sound m _ hq.1 fun F1 H1 m1 => ⟨true, rfl, ?_⟩
      show (if (!true) = true then Q true H1 else tNot (tB tb) σ H1 Q)
      rw [if_neg (by decide)]
      exact hb.sound m1 _ hq.2 fun F2 H2 m2 => ⟨true, rfl, hQ F2 H2 m2⟩
    · cases hc
theorem mt_n1 {pa : Pos} (ha : MV X T k a ta qa) (ea : ∀ whole, isTrue a X.env whole = (do let v ← whole; standAt a.pos; holding [v] (truthy v)) := by intro _; rfl) : MT X T k (.UnaryOp .Not a pa) (tNot (tB ta)) (cN1 qa) where
  pt := pt_not (pt_val ha.pe ea)
  sound := fun {H00 ρ le σ F H} m b Q hc hQ => by
    unfold cN1 at hc
    split at hc
    · rename_i hq
      cases hc
      exact ha.sound m _ hq fun F1 H1 m1 => ⟨true, rfl, hQ F1 H1 m1⟩
    · cases hc
def qAnd (qa : Ev → LE → Prop) (fb : Ev → Rs R) : Ev → LE → Prop := fun ρ le => qa ρ le ∧ fb ρ = .ok (.val (.bool true))
/-- a and b, b of data alone -/
theorem mv_and {fb : Ev → Rs R} (ha : MV X T k a ta qa) (hb : EE X W b tb fb) : MV X T k (.BoolOp .And [a, b] pos) (tAndV ta tb) (qAnd qa fb) where
  pe := pe_and ha.pe (pe_one hb.pe)
  sound := fun {H00 ρ le σ F H} m Q hq hQ => by
    refine ha.sound m _ hq.1 fun F1 H1 m1 => ⟨true, rfl, ?_⟩
    rw [if_pos rfl]
    obtain ⟨H0, m1⟩ := m1
    refine hb.sound m1.rel Q ?_
    rw [hq.2]
    intro v F' H' e1 r
    cases r.1
    exact hQ F' H' ⟨H0, m1.step (m1.rel.step e1)⟩
/-! ### for -/
theorem MR0.base {g : Hp} (m : MR0 X T k H00 ρ le σ F H H0) (e : Same g F) : MR0 X T k ⟨H00.h, g⟩ ρ le σ F H H0 := ⟨m.rel, m.tabs, m.ent, m.noF, m.lam, e⟩
theorem postM_base {F1 : Hp} {D : Ends} {m : RM} (e : Same H00.g F1) (P : PostM X T k H00 D m) : PostM X T k ⟨H00.h, F1⟩ D m := by
  induction m with
  | nx ρ le =>
    intro σ F H m
    obtain ⟨H0, m⟩ := m
    exact P σ F H ⟨H0, m.rel, m.tabs, m.ent, m.noF, m.lam, e.trans m.grow⟩
  | ret b => exact P
  | bad => exact P
  | any f ih => exact fun a => ih a (P a)
  | vac => trivial
def loopM (ft : PyData → Ev → Rs Ev) (gb : Ev → LE → RM) : List PyData → Ev → LE → RM
  | [], ρ, le => .nx ρ le
  | d :: ds, ρ, le => match ft d ρ with
    | .ok ρ1 => (gb ρ1 le).seq (loopM ft gb ds)
    | _ => .bad
def gForM (fi : Ev → Rs (List PyData)) (ft : PyData → Ev → Rs Ev) (gb : Ev → LE → RM) : Ev → LE → RM := fun ρ le => match fi ρ with
  | .ok ds => loopM ft gb ds ρ le
  | _ => .bad
theorem ms_for {tg iter : Expr} {body : List Stmt} {wi : TI} {gt : TG} {tb : TS} {is : List Nat} {fi : Ev → Rs (List PyData)} {ft : PyData → Ev → Rs Ev} {gb : Ev → LE → RM} (po : PassesOwn (model X.prog X.w) X.A X.env X.xe) (hi : EI X W tg iter wi fi) (hg : EG X tg gt is ft) (hb : MB X T k body tb gb)
    (hc : X.calm = true := by rfl) (hs : ∀ x, foldedSetIterable iter X.env x = pure x := by intro _; rfl) : MS X T k (.For tg iter body [] pos) (tFor wi gt tb) (gForM fi ft gb) where
  ps := ps_for po hc hi.pi hg.pg hb.ps hs
  sound := fun {H00 ρ le σ F H} m D P => by
    obtain ⟨H0, m⟩ := m
    unfold gForM at P
    refine hi.sound m.rel _ ?_
    cases hf : fi ρ with
    | err c => simp only [hf] at P; exact P.elim
    | bad => simp only [hf] at P; exact P.elim
    | ok ds =>
      simp only [hf] at P
      intro J F1 H1 e1 wk
      have m1 : MR0 X T k H00 ρ le σ F1 H1 H0 := m.step (m.rel.step e1)
      refine ⟨fun i n σ' H' => i ≤ ds.length ∧ n = ds.length - i ∧ ∃ ρ' le' F', MR X T k ⟨H00.h, F1⟩ ρ' le' σ' F' H' ∧ PostM X T k ⟨H00.h, F1⟩ D (loopM ft gb (ds.drop i) ρ' le'),
        ⟨ds.length, Nat.zero_le _, rfl, ρ, le, F1, ⟨H0, m1.base (Same.refl _)⟩, postM_base m1.grow P⟩, fun i n σ' H' hW => ?_⟩
      obtain ⟨hi', rfl, ρ', le', F', ⟨H0', m'⟩, P'⟩ := hW
      have sF : Same F1 H' := m'.grow.trans m'.rel.sub
      by_cases hlt : i < ds.length
      · refine .inr ⟨wk.goes i H' hlt sF, fun σ2 H2 => i + 1 ≤ ds.length ∧ ∃ ρ' le' F', MR X T k ⟨H00.h, F1⟩ ρ' le' σ2 F' H2 ∧ PostM X T k ⟨H00.h, F1⟩ D (loopM ft gb (ds.drop (i + 1)) ρ' le'), fun σ2 H2 q => ⟨ds.length - (i + 1), by omega, q.1, rfl, q.2⟩, fun x H2 hy => ?_⟩
        have hd : ds[i]? = some ds[i] := List.getElem?_eq_getElem hlt
        obtain ⟨F2, e2, r2⟩ := wk.yields i H' x H2 ds[i] F' hd m'.grow m'.rel.sub hy
        rw [List.drop_eq_getElem_cons hlt] at P'
        unfold loopM at P'
        cases h1 : ft ds[i] ρ' with
        | ok ρ1 =>
          rw [h1] at P'
          replace P' : PostM X T k ⟨H00.h, F1⟩ D ((gb ρ1 le').seq (loopM ft gb (ds.drop (i + 1)))) := P'
          exact hg.sound (m'.rel.step e2) r2 h1 _ fun σ2 r3 _ _ => hb.sound ⟨H0', m'.step r3⟩ _ (postM_seq P' (fun ρ4 le4 σ4 F4 H4 r4 P4 => ⟨hlt, ρ4, le4, F4, r4, P4⟩) rfl)
        | err c => rw [h1] at P'; exact P'.elim
        | bad => rw [h1] at P'; exact P'.elim
      · have hin : i = ds.length := by omega
        subst hin
        refine .inl ⟨wk.stops H' sF, ?_⟩
        rw [List.drop_length] at P'
        exact P' σ' F' H' ⟨H0', m'⟩
end
end DN
/-! Lam15: defs that make lambdas: one that answers True, one that hands its lambdas back. -/
namespace DN
open PySem PySem.Spec PyProof.Rows L2 L2H LamX NdefX
/-- all ends are True -/
def RM.fin : RM → Prop
  | .ret b => b = true
  | .any f => ∀ a, (f a).fin
  | .vac => True
  | _ => False
/-- all ends have a list of lambdas in slot j that raise c -/
def RM.gives (j : Nat) (c : Str) : RM → Prop
  | .nx ρ le => ∃ L gs, ρ[j]? = some (some (.raw (.ref L))) ∧ le.lookup L = some gs ∧ AllErr ρ c gs
  | .any f => ∀ a, (f a).gives j c
  | .vac => True
  | _ => False
theorem fin_post {X : Cx} {T : List (Addr × Str)} {k : Nat} {H00 : HB} {D : Ends} {m : RM} (h : m.fin) (hD : ∀ H, Tabs T H → SameT (T.map (·.1)) H00.h H → D.rt (.bl true) H) : PostM X T k H00 D m := by
  induction m with
  | nx ρ le => exact h.elim
  | ret b => cases h; exact hD
  | bad => exact h.elim
  | any f ih => exact fun a => ih a (h a)
  | vac => trivial
/-- where the tables lie and what is handed in -/
def MArgs (K : PySem.W.Frag) (T : List (Addr × Str)) (n : Nat) (vs : List V) (H : Hp) (rs : List R) : Prop := vs.length = n ∧ Tabs T H ∧ ∃ F, Same F H ∧ (∀ p ∈ T, F p.1 = none) ∧ Args K F H vs rs
def spT1 (K : PySem.W.Frag) (T : List (Addr × Str)) (n : Nat) (ok : List R → Prop) : Sp := fun vs H Q _ => ∃ rs, MArgs K T n vs H rs ∧ ok rs ∧ ∀ H', Tabs T H' → SameT (T.map (·.1)) H H' → Q (.bl true) H'
def spMk (P : Program) (w : World) (K : PySem.W.Frag) (mg : Str → Option Value) (base : Heap) (T : List (Addr × Str)) (k n : Nat) (ok : Str → List R → Prop) : Sp := fun vs H Q _ => ∃ rs c, MArgs K T n vs H rs ∧ ok c rs ∧
  ∀ L xs H', Tabs T H' → SameT (T.map (·.1)) H H' → H' L = some (.lst xs) → xs.length ≤ 100 → (∀ v ∈ xs, ThkV P w K mg base (T.map (·.1)) k H' c v) → Q (.ref L) H'
theorem mr_start {X : Cx} {T : List (Addr × Str)} {k n : Nat} {vs : List V} {H : Hp} {rs : List R} {N : List Str} (h : MArgs X.K T n vs H rs) : ∃ F, MR X T k ⟨H, F⟩ (startE N.length rs) [] (L2.start N vs) F H := by
  obtain ⟨_, hT, F, sF, nF, ha⟩ := h
  exact ⟨F, H, rel_start sF ha, hT, SameT.refl, nF, fun L gs e => by simp at e, Same.refl _⟩
section
variable {P : Program} {w : World} {K : PySem.W.Frag} {mg : Str → Option Value} {base : Heap} {T : List (Addr × Str)}
theorem fn_true {x qual : Str} {st : Stmt} {f c : Addr} {fd : FuncData} {N ps : List Str} {k kk n : Nat} {g : Ev → LE → RM} (Fu : Fun K x qual st f fd) (S : FnScope N ps (defScope st)) (hn : ps.length = n) (hcd : fd.code = .ref c)
    (hb : ∀ (A : Around) (outer : List Env) (s : Shared) (H : Hp) (E : XK), Room k (A.deeper (envOfC qual (defScope st) s.heap.objs.size f (.ref c))) →
      Takes (cxOf (L2.CX P w) P w K mg base N qual (defScope st) f (.ref c) A outer s H E) (fun cls d _ H => E cls d H) →
      PassesOwn (model P w) (cxOf (L2.CX P w) P w K mg base N qual (defScope st) f (.ref c) A outer s H E).A (cxOf (L2.CX P w) P w K mg base N qual (defScope st) f (.ref c) A outer s H E).env (cxOf (L2.CX P w) P w K mg base N qual (defScope st) f (.ref c) A outer s H E).xe →
      ∃ t, MB (cxOf (L2.CX P w) P w K mg base N qual (defScope st) f (.ref c) A outer s H E) T kk (defBody st) t g) :
    FnOk P w K mg base (L2.CX P w) (k + 1) f fd ps (spT1 K T n fun rs => (g (startE N.length rs) []).fin) := by
  obtain ⟨oc, od, kV, doc, pm, an, cdv, ct, osl, rfl, lk, hcd'⟩ := Fu.ex
  have e : cdv = .ref c := hcd
  subst e
  refine fn_of lk hcd' S (fun vs H Q E h => ?_) fun A outer s H vs Q E hr h => ?_
  · obtain ⟨rs, h, _⟩ := h
    rw [hn]; exact h.1
  · obtain ⟨rs, h, hg, hQ⟩ := h
    obtain ⟨t, B⟩ := hb A outer s H E hr (takes_of rfl rfl rfl rfl) (passes_of rfl)
    obtain ⟨F, m⟩ := mr_start (X := cxOf (L2.CX P w) P w K mg base N qual (defScope st) f (.ref c) A outer s H E) (k := kk) (N := N) h
    exact ⟨t, B.ps, B.sound m _ (fin_post hg hQ)⟩
end
/-! ### the def that hands its lambdas back -/
abbrev TR := (L2.St → V → Hp → Prop) → L2.St → Hp → Prop
def SPr (X : Cx) (pins : List (Addr × Obj)) (D : L2.St → V → Hp → Prop) (f : Flow) (s' : Shared) : Prop := match f with
  | .ret u => ∃ v σ' H', Inv X pins σ' H' s' ∧ RelV v u ∧ D σ' v H'
  | _ => False
structure PSR (X : Cx) (sts : List Stmt) (t : TR) : Prop where
  run : ∀ (pins : List (Addr × Obj)) (s : Shared) (σ : L2.St) (H : Hp) (D : L2.St → V → Hp → Prop), Inv X pins σ H s → t D σ H → wpAny (model X.prog X.w) X.A (execs sts X.env) (SPr X pins D) X.xe s
def onlyNx (f : L2.St → Hp → Prop) : Ends := { nx := f, rt := fun _ _ => False, bk := fun _ _ => False, ct := fun _ _ => False }
section
variable {X : Cx} {st : Stmt} {rest : List Stmt} {t : TS} {u : TR} {e : Expr} {te : TE} {pos : Pos}
theorem psr_cons (h1 : PS X st t) (h2 : PSR X rest u) : PSR X (st :: rest) (fun D => t (onlyNx (u D))) := by
  refine ⟨fun pins s σ H D I h => ?_⟩
  refine wpAny_execs_cons (thn (h1.run pins s σ H _ I h) fun f s1 q => ?_)
  cases f with
  | next =>
    obtain ⟨σ', H', I', q⟩ := q
    exact h2.run pins s1 σ' H' D I' q
  | ret v => obtain ⟨_, _, _, _, _, z⟩ := q; exact z.elim
  | brk => obtain ⟨_, _, _, z⟩ := q; exact z.elim
  | cont => obtain ⟨_, _, _, z⟩ := q; exact z.elim
theorem psr_ret (he : PE X e te) : PSR X [.Return (some e) pos] (fun D σ H => te σ H fun v H1 => D σ v H1) := by
  refine ⟨fun pins s σ H D I h => ?_⟩
  refine wpAny_execs_cons (wpAny_Return_some (thn (he.run pins s σ H _ I h) fun v s1 ⟨x, H1, I1, r1, q1⟩ => ?_))
  exact ⟨x, σ, H1, I1, r1, q1⟩
end
def PostR (X : Cx) (T : List (Addr × Str)) (k : Nat) (H00 : HB) (j : Nat) (D : L2.St → V → Hp → Prop) : RM → Prop
  | .nx ρ le => ∃ L, ρ[j]? = some (some (.raw (.ref L))) ∧ ∀ σ F H, MR X T k H00 ρ le σ F H → D σ (.ref L) H
  | .any f => ∀ a, PostR X T k H00 j D (f a)
  | .vac => True
  | _ => False
structure MBR (X : Cx) (T : List (Addr × Str)) (k j : Nat) (sts : List Stmt) (t : TR) (g : Ev → LE → RM) : Prop where
  ps : PSR X sts t
  sound : ∀ {H00 : HB} {ρ : Ev} {le : LE} {σ : L2.St} {F H : Hp}, MR X T k H00 ρ le σ F H → ∀ D, PostR X T k H00 j D (g ρ le) → t D σ H
section
variable {X : Cx} {T : List (Addr × Str)} {k j : Nat} {st : Stmt} {rest : List Stmt} {t : TS} {u : TR} {g h : Ev → LE → RM} {p pos : Pos} {x : Str}
theorem postR_seq {H00 : HB} {D : L2.St → V → Hp → Prop} {f : L2.St → Hp → Prop} {m : RM} {q : Ev → LE → RM} (P : PostR X T k H00 j D (m.seq q)) (hn : ∀ ρ le σ F H, MR X T k H00 ρ le σ F H → PostR X T k H00 j D (q ρ le) → f σ H) : PostM X T k H00 (onlyNx f) m := by
  induction m with
  | nx ρ le => exact fun σ F H m => hn ρ le σ F H m P
  | ret b => exact P.elim
  | bad => exact P.elim
  | any f ih => exact fun a => ih a (P a)
  | vac => trivial
theorem mbr_cons (a : MS X T k st t g) (b : MBR X T k j rest u h) : MBR X T k j (st :: rest) (fun D => t (onlyNx (u D))) (gSeqM g h) where
  ps := psr_cons a.ps b.ps
  sound := fun m D P => a.sound m _ (postR_seq P fun ρ le σ F H m' P' => b.sound m' D P')
theorem mbr_ret (hN : X.N[j]? = some x := by rfl) (hv : Vis X.env.scope x := by first | exact Or.inl rfl | exact Or.inr (Or.inl rfl) | exact Or.inr (Or.inr rfl)) (hd : (x == ("__debug__" : Str)) = false := by decide) (hcd : (x == ("__classdict__" : Str)) = false := by decide) :
    MBR X T k j [.Return (some (.Name x p)) pos] (fun D σ H => (tVar j) σ H fun v H1 => D σ v H1) gNextM where
  ps := psr_ret (pe_var hN hv hd hcd)
  sound := fun {H00 ρ le σ F H} m D P => by
    obtain ⟨L, hL, P⟩ := P
    obtain ⟨H0, m0⟩ := _root_.id m
    obtain ⟨v, hv, e⟩ := m0.rel.at_ j _ hL
    cases e
    exact ⟨_, hv, P _ _ _ m⟩
theorem gives_post {H00 : HB} {D : L2.St → V → Hp → Prop} {c : Str} {m : RM} (h : m.gives j c) (hD : ∀ ρ le σ F H L gs, MR X T k H00 ρ le σ F H → le.lookup L = some gs → AllErr ρ c gs → D σ (.ref L) H) : PostR X T k H00 j D m := by
  induction m with
  | nx ρ le =>
    obtain ⟨L, gs, h1, h2, h3⟩ := h
    exact ⟨L, h1, fun σ F H m => hD ρ le σ F H L gs m h2 h3⟩
  | ret b => exact h.elim
  | bad => exact h.elim
  | any f ih => exact fun a => ih a (h a)
  | vac => trivial
end
section
variable {P : Program} {w : World} {K : PySem.W.Frag} {mg : Str → Option Value} {base : Heap} {T : List (Addr × Str)}
theorem fn_mk {x qual : Str} {st : Stmt} {f cc : Addr} {fd : FuncData} {N ps : List Str} {k kk n j : Nat} {g : Ev → LE → RM} (Fu : Fun K x qual st f fd) (S : FnScope N ps (defScope st)) (hn : ps.length = n) (hcd : fd.code = .ref cc)
    (hb : ∀ (A : Around) (outer : List Env) (s : Shared) (H : Hp) (E : XK), Room k (A.deeper (envOfC qual (defScope st) s.heap.objs.size f (.ref cc))) →
      ∃ t, MBR (cxOf (L2.CX P w) P w K mg base N qual (defScope st) f (.ref cc) A outer s H E) T kk j (defBody st) t g) :
    FnOk P w K mg base (L2.CX P w) (k + 1) f fd ps (spMk P w K mg base T (kk + 1) n fun c rs => (g (startE N.length rs) []).gives j c) := by
  obtain ⟨oc, od, kV, doc, pm, an, cdv, ct, osl, rfl, lk, hcd'⟩ := Fu.ex
  have e : cdv = .ref cc := hcd
  subst e
  have len : ∀ vs H Q E, spMk P w K mg base T (kk + 1) n (fun c rs => (g (startE N.length rs) []).gives j c) vs H Q E → vs.length = ps.length := fun vs H Q E h => by
    obtain ⟨rs, c, h, _⟩ := h
    rw [hn]; exact h.1
  refine ⟨len, fun A outer s H args us vs Q E hr e0 hbd r hsp => ?_⟩
  have hl := len _ _ _ _ hsp
  have KX : K.In s.heap := e0.mod.kin.keeps fun b o e => (e0.bs b o e).1
  have lim : s.heap.NoLimit := e0.mod.nolimit.keeps fun b o e => (e0.bs b o e).1
  have hkind : ∀ y ∈ ps.zip us, (defScope st).names.lookup y.1 = some .local ∨ ((defScope st).names.lookup y.1 = some .cell ∧ ((cellsFrom (s.heap.objs.size + 1) (defScope st).names []).lookup y.1).isSome = true) := fun ⟨n, v⟩ hy => by
    rcases S.par n (List.of_mem_zip hy).1 with q | q
    · exact .inl q
    · exact .inr ⟨q, PySem.W.cellsFrom_some _ _ _ (.inl q)⟩
  refine codeAny_call_function hr.depth (KX _ _ lk) rfl S.co S.gen rfl (PySem.W.codeRec_of KX hcd') (hbd _ _ _ _ ?_)
  refine wpAny_newFunctionEnv_cells S.kind hkind fun env he s1 x => ?_
  subst he
  refine ⟨lim.keeps x.toInCall.keep, codeAny_func ?_⟩
  obtain ⟨rs, c, h, hg, hQ⟩ := hsp
  obtain ⟨t, B⟩ := hb A outer s H E (hr.deeper _)
  have I : Inv (cxOf (L2.CX P w) P w K mg base N qual (defScope st) f (.ref cc) A outer s H E) [] (L2.start N vs) H s1 := inv_start S hr.hd e0 hl r x
  obtain ⟨F, m⟩ := mr_start (X := cxOf (L2.CX P w) P w K mg base N qual (defScope st) f (.ref cc) A outer s H E) (k := kk) (N := N) h
  have tq := B.sound m (fun σ v H' => ∃ ρ le F' L gs, v = .ref L ∧ MR (cxOf (L2.CX P w) P w K mg base N qual (defScope st) f (.ref cc) A outer s H E) T kk ⟨H, F⟩ ρ le σ F' H' ∧ le.lookup L = some gs ∧ AllErr ρ c gs)
    (gives_post hg fun ρ le σ F' H' L gs m' h1 h2 => ⟨ρ, le, F', L, gs, rfl, m', h1, h2⟩)
  refine wpAny_mono (B.ps.run [] s1 (L2.start N vs) H _ I tq) (fun fl s' hs => ?_) fun e s' hs => hs
  cases fl with
  | next => exact hs.elim
  | brk => exact hs.elim
  | cont => exact hs.elim
  | ret u =>
    obtain ⟨v, σ', H', J, rv, ρ, le, F', L, gs, rfl, ⟨H0, m'⟩, hL, hgs⟩ := hs
    have hfn : ∀ y, (cxOf (L2.CX P w) P w K mg base N qual (defScope st) f (.ref cc) A outer s H E).fn y = true := fun _ => rfl
    obtain ⟨xs, i1, i2, i3, i5, i4⟩ := m'.lam L gs hL
    have hS : ∀ b o, (cellsPn N (envOfC qual (defScope st) s.heap.objs.size f (.ref cc)).cells s'.heap).lookup b = some o → s'.heap.get? b = some o ∧ H' b = none ∧ base.get? b = none ∧ b ∉ frs (envOfC qual (defScope st) s.heap.objs.size f (.ref cc) :: outer) := fun b o e => pn_facts J hfn e
    have hS0 : ∀ b o, (cellsPn N (envOfC qual (defScope st) s.heap.objs.size f (.ref cc)).cells s'.heap).lookup b = some o → s.heap.get? b = none := fun b o e => by
      obtain ⟨y, hy, h1, h2⟩ := cellsPn_of e
      have hc := J.ok.cab y b (hfn y) h1
      cases q : s.heap.get? b with
      | none => rfl
      | some o' => exact absurd (Nat.lt_of_lt_of_le (Heap.lt_size q) hc) (Nat.lt_irrefl _)
    have out : ∀ b u, H' b = some u → (cellsPn N (envOfC qual (defScope st) s.heap.objs.size f (.ref cc)).cells s'.heap).lookup b = none := fun b u q => by
      rcases look_cases (cellsPn N (envOfC qual (defScope st) s.heap.objs.size f (.ref cc)).cells s'.heap) b with ⟨o, z⟩ | z
      · rw [(hS b o z).2.1] at q; cases q
      · exact z
    have keepP : ∀ b u, H' b = some u → pls H' (cellsPn N (envOfC qual (defScope st) s.heap.objs.size f (.ref cc)).cells s'.heap) b = some u := fun b u q => by rw [pls_out (out b u q)]; exact q
    have outS : ∀ b o, s.heap.get? b = some o → (cellsPn N (envOfC qual (defScope st) s.heap.objs.size f (.ref cc)).cells s'.heap).lookup b = none := fun b o q => by
      rcases look_cases (cellsPn N (envOfC qual (defScope st) s.heap.objs.size f (.ref cc)).cells s'.heap) b with ⟨o', z⟩ | z
      · rw [hS0 b o' z] at q; cases q
      · exact z
    have un := J.base
    refine ⟨.ref L, pls H' (cellsPn N (envOfC qual (defScope st) s.heap.objs.size f (.ref cc)).cells s'.heap), J.os, J.bare, ⟨un.keep, un.slot, fun b o e n hx => ?_, un.there, fun b xs e => keepP _ _ (un.tups b xs e), fun b o u e => keepP _ _ (un.frzs b o u e), fun b ps e => ?_⟩, hok_pls J.hok (fun b o z => (hS b o z).1) (fun b o z => (hS b o z).2.1), rv, ?_⟩
    · rw [pls_out (outS b o e)]
      exact un.free b o e n hx
    · obtain ⟨m, y⟩ := un.tbls b ps e
      exact ⟨m, keepP _ _ y⟩
    · have hh := m'.rel.base.hh
      refine hQ L xs _ ?_ (fun b o n e => keepP _ _ (hh _ _ (m'.ent b o n e))) (keepP _ _ (hh _ _ i1)) i5 fun v hv => ?_
      · exact m'.tabsH.ext keepP
      · obtain ⟨f', γ, rfl, hγ, l⟩ := i4.get v hv
        exact ⟨f', rfl, lat_thk J hfn m'.rel m'.tabsH m'.noF (l.ext fun a φ z => hh _ _ z) (hgs γ hγ)⟩
end
end DN
/-! Lam16: calls of makers; a lambda's words. -/
namespace DN
open PySem PySem.Spec PyProof.Rows L2 L2H LamX NdefX
section
variable {X : Cx} {W : WX} {T : List (Addr × Str)} {k kk km n : Nat} {fn fm : Addr} {fd fmd : FuncData} {ps pm : List Str} {known : List Str} {f y c : Str} {p pos p1 p2 p3 : Pos} {e : Expr} {es : List Expr} {ta : TA} {fr : Ev → Rs (List R)}
def qMk (fr : Ev → Rs (List R)) (ok : Str → List R → Prop) (c : Str) : Ev → LE → Prop := fun ρ _ => ∃ rs, fr ρ = .ok rs ∧ ok c rs
def qCall (fr : Ev → Rs (List R)) (ok : List R → Prop) : Ev → LE → Prop := fun ρ _ => ∃ rs, fr ρ = .ok rs ∧ ok rs
/-- f(g(..), "c"), g hands its lambdas back -/
theorem mv_mk {ok : Str → List R → Prop} {jj : Nat} (Fn : FnOk X.prog X.w X.K X.mg X.base (L2.CX X.prog X.w) kk fn fd ps (spAll X.prog X.w X.K X.mg X.base (T.map (·.1)) (k + 1) known)) (hr : Room kk X.A) (hm : X.mg f = some (.ref fn)) (hk : PySem.W.keepIn X.K (.ref fn) = true) (hb : Binds X.K fd ps [])
    (Fm : FnOk X.prog X.w X.K X.mg X.base (L2.CX X.prog X.w) km fm fmd pm (spMk X.prog X.w X.K X.mg X.base T (k + 1) n ok)) (hrm : Room km X.A) (hmm : X.mg y = some (.ref fm)) (hkm : PySem.W.keepIn X.K (.ref fm) = true) (hbm : Binds X.K fmd pm []) (tk : Takes X W)
    (hc : c ∈ known) (hsh : SeqAt.shaped (.tuple [.str "error", .str c]) = true) (ha : EA X W (e :: es) ta fr) (hn : (e :: es).length = n := by rfl)
    (hg : Gl X f := by rfl) (hdb : (f == ("__debug__" : Str)) = false := by decide) (hgm : Gl X y := by rfl) (hdm : (y == ("__debug__" : Str)) = false := by decide)
    (he : starEach (e :: es) X.env = (false, eval e X.env) :: starEach es X.env := by rfl) (hpm : (backTo p3 (starEach es X.env)).any (·.1) = false := by rfl)
    (hs1 : starEach [.Call (.Name y p1) (e :: es) [] p3, .Constant (.str c) jj p2] X.env = (false, eval (.Call (.Name y p1) (e :: es) [] p3) X.env) :: starEach [.Constant (.str c) jj p2] X.env := by rfl) (hs2 : starEach [.Constant (.str c) jj p2] X.env = (false, eval (.Constant (.str c) jj p2) X.env) :: starEach [] X.env := by rfl)
    (hpl : (backTo pos (starEach [.Constant (.str c) jj p2] X.env)).any (·.1) = false := by rfl) :
    MV X T k (.Call (.Name f p) [.Call (.Name y p1) (e :: es) [] p3, .Constant (.str c) jj p2] [] pos)
      (tCallS (spAll X.prog X.w X.K X.mg X.base (T.map (·.1)) (k + 1) known) (WE W) (tCons (tCallS (spMk X.prog X.w X.K X.mg X.base T (k + 1) n ok) (WE W) ta) (tCons (tC (.str c)) tNil))) (qMk fr ok c) where
  pe := pe_callS Fn hr hg hm hk hb (fun σ => passAt tk σ) (pa_cons (pe_callS Fm hrm hgm hmm hkm hbm (fun σ => passAt tk σ) ha.pa hdm he hpm) (pa_cons pe_str pa_nil hs2) hs1) hdb hs1 hpl
  sound := fun {H00 ρ le σ F H} m Q q hQ => by
    obtain ⟨H0, m⟩ := m
    obtain ⟨rs, hrs, hok⟩ := q
    refine ha.sound m.rel _ ?_
    rw [hrs]
    intro vs F1 H1 e1 r1
    have m1 := m.step (m.rel.step e1)
    refine ⟨rs, c, ⟨by rw [r1.len, ha.len ρ rs hrs]; exact hn, m1.tabsH, F1, e1.sub, m1.noF, r1⟩, hok, fun L xs H2 T2 s2 hL hl hx => ?_⟩
    obtain ⟨H0', m2, _⟩ := m1.grew s2 T2
    exact ⟨L, c, xs, rfl, hc, hsh, hL, hl, hx, fun H3 e3 => hQ F1 H3 ⟨H0', m2.more e3⟩⟩
/-- g(..), g makes lambdas and answers True -/
theorem mv_call {ok : List R → Prop} (Fm : FnOk X.prog X.w X.K X.mg X.base (L2.CX X.prog X.w) km fm fmd pm (spT1 X.K T n ok)) (hrm : Room km X.A) (hmm : X.mg y = some (.ref fm)) (hkm : PySem.W.keepIn X.K (.ref fm) = true) (hbm : Binds X.K fmd pm []) (tk : Takes X W)
    (ha : EA X W (e :: es) ta fr) (hn : (e :: es).length = n := by rfl) (hgm : Gl X y := by rfl) (hdm : (y == ("__debug__" : Str)) = false := by decide)
    (he : starEach (e :: es) X.env = (false, eval e X.env) :: starEach es X.env := by rfl) (hpm : (backTo pos (starEach es X.env)).any (·.1) = false := by rfl) :
    MV X T k (.Call (.Name y p) (e :: es) [] pos) (tCallS (spT1 X.K T n ok) (WE W) ta) (qCall fr ok) where
  pe := pe_callS Fm hrm hgm hmm hkm hbm (fun σ => passAt tk σ) ha.pa hdm he hpm
  sound := fun {H00 ρ le σ F H} m Q q hQ => by
    obtain ⟨H0, m⟩ := m
    obtain ⟨rs, hrs, hok⟩ := q
    refine ha.sound m.rel _ ?_
    rw [hrs]
    intro vs F1 H1 e1 r1
    have m1 := m.step (m.rel.step e1)
    refine ⟨rs, ⟨by rw [r1.len, ha.len ρ rs hrs]; exact hn, m1.tabsH, F1, e1.sub, m1.noF, r1⟩, hok, fun H2 T2 s2 => ?_⟩
    obtain ⟨H0', m2, _⟩ := m1.grew s2 T2
    exact hQ F1 H2 ⟨H0', m2⟩
end
/-! ### a lambda by its words -/
def lamOf : Stmt → Expr
  | .Assign _ (.List (e :: _) _) _ => e
  | .Expr (.Call _ (e :: _) _ _) _ => e
  | .If (.UnaryOp _ (.Call _ (.List (e :: _) _ :: _) _ _) _) _ _ _ => e
  | .Return (some (.Call _ (.List (e :: _) _ :: _) _ _)) _ => e
  | _ => .Constant .none 0 ⟨0, 0, 0, 0⟩
def ifBody : Stmt → List Stmt
  | .If _ b _ _ => b
  | _ => []
def forBody : Stmt → List Stmt
  | .For _ _ b _ _ => b
  | _ => []
def lamB : Expr → Expr
  | .Lambda _ b _ _ => b
  | e => e
def lamA : Expr → Arguments
  | .Lambda a _ _ _ => a
  | _ => default
def lamS : Expr → Scope
  | .Lambda _ _ s _ => s
  | _ => default
/-! ### the def that names an exception -/
theorem huH {k : Nat} {A : Around} (h : RoomH k A) : A.units + 64 < cLine := by have := h.un; omega
section
variable {P : Program} {w : World} {K : PySem.W.Frag} {mg : Str → Option Value} {base : Heap}
theorem fn_cls {x qual : Str} {st : Stmt} {f : Addr} {fd : FuncData} {N : List Str} {y : Str} {k : Nat} {known : List Str} {g : Str → Addr → Ev → RO} (Fu : Fun K x qual st f fd) (S : FnScope N [y] (defScope st)) (hN : N.length = 3)
    (hcl : ∀ c ∈ known, ∀ a, g c a [some (.raw (.ref a)), none, none] = .ret (.val (.str c)))
    (hb : ∀ (cdv : Value) (A : Around) (outer : List Env) (s : Shared) (H : Hp) (E : XK) (p : Addr × Obj) (c : Str) (C : Addr), RoomH k (A.deeper (envOfC qual (defScope st) s.heap.objs.size f cdv)) → c ∈ known → mg c = some (.ref C) → Zc (.ref C) none p.2 → (∃ fs, p.2.data = .fields fs) →
      (p.1, p.2) ∈ (cxH (L2.CX P w) P w K mg base N qual (defScope st) f cdv A outer s H E p).pn → ∃ t, EB (cxH (L2.CX P w) P w K mg base N qual (defScope st) f cdv A outer s H E p) (fun _ _ _ _ => False) (defBody st) t (g c p.1)) :
    FnPin P w K mg base (k + 1) f fd [y] (spCls mg known) := by
  refine fn_pin Fu S (fun p vs H Q E h => by rw [h.1]; rfl) fun cdv A outer s H vs Q E p hr h => ?_
  obtain ⟨rfl, c, C, hc, hm, hz, hf, hQ⟩ := h
  obtain ⟨t, B⟩ := hb cdv A outer s H E p c C hr hc hm hz hf (List.mem_singleton.mpr rfl)
  have st : L2.start N [V.ref p.1] = [some (.ref p.1), none, none] := by
    unfold L2.start
    simp [hN]
  have rel : Rel K (fun _ => none) H [some (.raw (.ref p.1)), none, none] [some (.ref p.1), none, none] (fun _ => none) H := by
    have := (rel_caps (K := K) (H := H) (F0 := fun _ => none) (ws := [.ref p.1]) (rs := [.raw (.ref p.1)]) (fun _ _ z => by cases z) (.cons ⟨rfl, rfl⟩ .nil))
    refine ⟨this.base, rfl, fun i r e => ?_, fun i r v q e s c => ?_, fun i j r r' v v' q e1 e2 s1 s2 c1 c2 => ?_⟩
    · match i, e with
      | 0, e => cases e; exact ⟨_, rfl, rfl⟩
      | 1, e => cases e
      | 2, e => cases e
      | i + 3, e => simp at e
    · match i, e with
      | 0, e => cases e; exact c.elim
      | 1, e => cases e
      | 2, e => cases e
      | i + 3, e => simp at e
    · match i, e1 with
      | 0, e => cases e; exact c1.elim
      | 1, e => cases e
      | 2, e => cases e
      | i + 3, e => simp at e
  rw [st]
  refine ⟨t, B.ps, B.sound rel _ ?_⟩
  rw [hcl c hc p.1]
  intro v F' H' bs r
  cases r.1
  exact hQ H' bs.hh
end
end DN
/-! Lam17: the end of a law whose defs make lambdas. -/
namespace DN
open PySem PySem.Spec PyProof.Rows L2 L2H LamX NdefX
theorem walk_tabs {l : PySem.W.OpenLaw} {n k : Nat} {q : Program} {loose : List Str} {XP : (Str → Option Value) → Heap → Prop} {YP : World → Heap → Prop} {d : DefRec} {K : Params → PySem.W.Frag} {CX : World → CXT} {x : Str}
    (hn : l.most = some n) (hn2 : n ≤ sizeLine) (hdf : d.params.defaults = []) (hr : Room k callerA) (hY : ∀ (w : World) (h : Heap), YP w h → (K w.params).In h)
    (F : ∀ (w : World) (mg : Str → Option Value) (fa : Addr) (h : Heap), YP w h → (K w.params).In h → h.Ns mainGlobals mg → mg d.name = some (.ref fa) →
      (∀ (y : Str) (c P : Addr), ((recsOf q).any fun e => e.name == y) = true → PySem.W.tabIn (K w.params) y = some (c, P) → PySem.W.CodeHd h c P ∧ h.get? P = some { cls := .none, data := .fields #[] }) → LawAtS l w (K w.params) (CX w) k n x mg fa h)
    (hCX : ∀ (w : World) (H : Hp) (s : Shared) (e : Value) (s' : Shared), CX w [] H s (fun _ _ _ => False) e s' → False) :
    PySem.W.WalkO q loose XP YP l.row.toRowW d [] (fun f vs => PySem.call f vs) := by
  refine Att.attach_callB hn hdf fun w s₀ s₁ mg mb fa o pm cd doc a vs ns G Y ho hd hcd hmg hobj hints hlen hbits hg => ?_
  have KX := hY w _ Y
  obtain ⟨fd, cs, sp, hT, nT, C, hb, hsp, hF⟩ := F w mg fa _ Y KX G.T.g hmg fun y c P hy ht => by
    cases hf : (recsOf q).find? (fun e => e.name == y) with
    | none =>
      obtain ⟨e, he, hq⟩ := List.any_eq_true.mp hy
      have := List.find?_eq_none.mp hf e he
      exact absurd hq this
    | some d' => exact PySem.W.tab_of G.T KX hf ht
  exact law_callTs KX G.T.g G.T.b G.T.builtins G.T.nolimit hg hT nT C G.T.bmain hobj hints (Nat.le_trans hlen hn2) hr hF hb (fun H hH hS => hsp H a ns hlen hbits hH hS) fun H e s' => hCX w H s₁ e s'
open Classical in
theorem margs_law {K : PySem.W.Frag} {T : List (Addr × Str)} {H : Hp} {a : Addr} {ns : List Int} (hT : ∀ p ∈ T, H p.1 = some (.tbl #[])) (hS : SqL K H a (ns.map V.int)) : MArgs K T 1 [.ref a] H [.scr ns] := by
  refine ⟨rfl, fun p hp => TabS.nil (hT p hp), fun b => if b ∈ T.map (·.1) then none else H b, fun b o h => ?_, fun p hp => if_pos (List.mem_map.mpr ⟨p, hp, rfl⟩), .cons ⟨⟨a, rfl, ?_⟩, rfl⟩ .nil⟩
  · have h : (if b ∈ T.map (·.1) then none else H b) = some o := h
    split at h
    · cases h
    · exact h
  · have nT : ∀ u, H a = some u → (∀ ps, u ≠ .tbl ps) → a ∉ T.map (·.1) := fun u h n z => by
      obtain ⟨p, hp, e⟩ := List.mem_map.mp z
      have := hT p hp
      rw [e, h] at this
      exact n _ (Option.some.inj this)
    rcases hS with (h | ⟨o, h⟩) | h
    · exact .inl (.inl ((if_neg (nT _ h fun ps z => by cases z)).trans h))
    · exact .inl (.inr ⟨o, (if_neg (nT _ h fun ps z => by cases z)).trans h⟩)
    · exact .inr h
end DN
namespace LW
open PySem PySem.Spec PyProof.Rows L2 DN

def topS (i : Nat) : Stmt := PySem.Challenge.pw_limitsigns_k26_errors.main.body.getD i (.Pass ⟨0, 0, 0, 0⟩)

abbrev s_is_int : Stmt := topS 18
theorem sc_is_int : FnScope ["value", "least", "most"] ["value", "least", "most"] (defScope s_is_int) := ⟨rfl, rfl, rfl, by decide +kernel, rfl, by decide +kernel, by decide +kernel⟩
abbrev s_are_signs : Stmt := topS 19
theorem sc_are_signs : FnScope ["value", "sign"] ["value"] (defScope s_are_signs) := ⟨rfl, rfl, rfl, by decide +kernel, rfl, by decide +kernel, by decide +kernel⟩
abbrev s_is_road : Stmt := topS 20
theorem sc_is_road : FnScope ["value"] ["value"] (defScope s_is_road) := ⟨rfl, rfl, rfl, by decide +kernel, rfl, by decide +kernel, by decide +kernel⟩
abbrev s_is_net : Stmt := topS 21
theorem sc_is_net : FnScope ["candidate", "fast", "slow", "keeps", "roads", "road"] ["candidate"] (defScope s_is_net) := ⟨rfl, rfl, rfl, by decide +kernel, rfl, by decide +kernel, by decide +kernel⟩
abbrev s_check_net : Stmt := topS 22
theorem sc_check_net : FnScope ["value"] ["value"] (defScope s_check_net) := ⟨rfl, rfl, rfl, by decide +kernel, rfl, by decide +kernel, by decide +kernel⟩
abbrev s_check_road : Stmt := topS 23
theorem sc_check_road : FnScope ["net", "value"] ["net", "value"] (defScope s_check_road) := ⟨rfl, rfl, rfl, by decide +kernel, rfl, by decide +kernel, by decide +kernel⟩
abbrev s_has_way : Stmt := topS 24
theorem sc_has_way : FnScope ["net", "candidate", "roads", "number", "one", "other"] ["net", "candidate"] (defScope s_has_way) := ⟨rfl, rfl, rfl, by decide +kernel, rfl, by decide +kernel, by decide +kernel⟩
abbrev s_is_way : Stmt := topS 25
theorem sc_is_way : FnScope ["net", "candidate"] ["net", "candidate"] (defScope s_is_way) := ⟨rfl, rfl, rfl, by decide +kernel, rfl, by decide +kernel, by decide +kernel⟩
abbrev s_find_followers : Stmt := topS 26
theorem sc_find_followers : FnScope ["net", "road", "number", "other"] ["net", "road"] (defScope s_find_followers) := ⟨rfl, rfl, rfl, by decide +kernel, rfl, by decide +kernel, by decide +kernel⟩
abbrev s_followers : Stmt := topS 27
theorem sc_followers : FnScope ["net", "road"] ["net", "road"] (defScope s_followers) := ⟨rfl, rfl, rfl, by decide +kernel, rfl, by decide +kernel, by decide +kernel⟩
abbrev s_find_standing : Stmt := topS 28
theorem sc_find_standing : FnScope ["net", "road"] ["net", "road"] (defScope s_find_standing) := ⟨rfl, rfl, rfl, by decide +kernel, rfl, by decide +kernel, by decide +kernel⟩
abbrev s_standing : Stmt := topS 29
theorem sc_standing : FnScope ["net", "road"] ["net", "road"] (defScope s_standing) := ⟨rfl, rfl, rfl, by decide +kernel, rfl, by decide +kernel, by decide +kernel⟩
abbrev s_count_pieces : Stmt := topS 30
theorem sc_count_pieces : FnScope ["net", "road"] ["net"] (defScope s_count_pieces) := ⟨rfl, rfl, rfl, by decide +kernel, rfl, by decide +kernel, by decide +kernel⟩
abbrev s_pieces : Stmt := topS 32
theorem sc_pieces : FnScope ["net", "road", "state", "rest", "one"] ["net", "road", "state"] (defScope s_pieces) := ⟨rfl, rfl, rfl, by decide +kernel, rfl, by decide +kernel, by decide +kernel⟩
abbrev s_leave : Stmt := topS 33
theorem sc_leave : FnScope ["net", "road", "state", "signs"] ["net", "road", "state"] (defScope s_leave) := ⟨rfl, rfl, rfl, by decide +kernel, rfl, by decide +kernel, by decide +kernel⟩
abbrev s_go_over : Stmt := topS 34
theorem sc_go_over : FnScope ["net", "state"] ["net", "state"] (defScope s_go_over) := ⟨rfl, rfl, rfl, by decide +kernel, rfl, by decide +kernel, by decide +kernel⟩
abbrev s_check_way : Stmt := topS 35
theorem sc_check_way : FnScope ["net", "way"] ["net", "way"] (defScope s_check_way) := ⟨rfl, rfl, rfl, by decide +kernel, rfl, by decide +kernel, by decide +kernel⟩
abbrev s_find_limits : Stmt := topS 36
theorem sc_find_limits : FnScope ["net", "way", "state", "found", "place", "road"] ["net", "way"] (defScope s_find_limits) := ⟨rfl, rfl, rfl, by decide +kernel, rfl, by decide +kernel, by decide +kernel⟩
abbrev s_limits : Stmt := topS 37
theorem sc_limits : FnScope ["net", "way"] ["net", "way"] (defScope s_limits) := ⟨rfl, rfl, rfl, by decide +kernel, rfl, by decide +kernel, by decide +kernel⟩
abbrev s_state_after : Stmt := topS 38
theorem sc_state_after : FnScope ["net", "way"] ["net", "way"] (defScope s_state_after) := ⟨rfl, rfl, rfl, by decide +kernel, rfl, by decide +kernel, by decide +kernel⟩
abbrev s_flat : Stmt := topS 39
theorem sc_flat : FnScope ["net", "way", "row", "limit"] ["net", "way"] (defScope s_flat) := ⟨rfl, rfl, rfl, by decide +kernel, rfl, by decide +kernel, by decide +kernel⟩
abbrev s_changes : Stmt := topS 40
theorem sc_changes : FnScope ["net", "way", "row", "one", "other"] ["net", "way"] (defScope s_changes) := ⟨rfl, rfl, rfl, by decide +kernel, rfl, by decide +kernel, by decide +kernel⟩
abbrev s_least_limit : Stmt := topS 41
theorem sc_least_limit : FnScope ["net", "way"] ["net", "way"] (defScope s_least_limit) := ⟨rfl, rfl, rfl, by decide +kernel, rfl, by decide +kernel, by decide +kernel⟩
abbrev s_set_signs : Stmt := topS 43
theorem sc_set_signs : FnScope ["net", "road", "signs", "roads", "one"] ["net", "road", "signs"] (defScope s_set_signs) := ⟨rfl, rfl, rfl, by decide +kernel, rfl, by decide +kernel, by decide +kernel⟩
abbrev s_drop : Stmt := topS 44
theorem sc_drop : FnScope ["net", "road", "index", "signs"] ["net", "road", "index"] (defScope s_drop) := ⟨rfl, rfl, rfl, by decide +kernel, rfl, by decide +kernel, by decide +kernel⟩
abbrev s_without_sign : Stmt := topS 45
theorem sc_without_sign : FnScope ["net", "road", "index"] ["net", "road", "index"] (defScope s_without_sign) := ⟨rfl, rfl, rfl, by decide +kernel, rfl, by decide +kernel, by decide +kernel⟩
abbrev s_with_sign : Stmt := topS 46
theorem sc_with_sign : FnScope ["net", "road", "index", "sign", "signs"] ["net", "road", "index", "sign"] (defScope s_with_sign) := ⟨rfl, rfl, rfl, by decide +kernel, rfl, by decide +kernel, by decide +kernel⟩
abbrev s_pairs_of : Stmt := topS 47
theorem sc_pairs_of : FnScope ["one", "other", "level", "found", "later", "road", "left", "right", "here", "there", "next_road"] ["one", "other"] (defScope s_pairs_of) := ⟨rfl, rfl, rfl, by decide +kernel, rfl, by decide +kernel, by decide +kernel⟩
abbrev s_does_nothing : Stmt := topS 48
theorem sc_does_nothing : FnScope ["net", "road", "index", "other", "number", "left", "right", "row"] ["net", "road", "index"] (defScope s_does_nothing) := ⟨rfl, rfl, rfl, by decide +kernel, rfl, by decide +kernel, by decide +kernel⟩
abbrev s_is_idle : Stmt := topS 49
theorem sc_is_idle : FnScope ["net", "road", "index"] ["net", "road", "index"] (defScope s_is_idle) := ⟨rfl, rfl, rfl, by decide +kernel, rfl, by decide +kernel, by decide +kernel⟩
abbrev s_find_idle : Stmt := topS 50
theorem sc_find_idle : FnScope ["net", "found", "road", "one", "index"] ["net"] (defScope s_find_idle) := ⟨rfl, rfl, rfl, by decide +kernel, rfl, by decide +kernel, by decide +kernel⟩
abbrev s_idle_signs : Stmt := topS 51
theorem sc_idle_signs : FnScope ["net"] ["net"] (defScope s_idle_signs) := ⟨rfl, rfl, rfl, by decide +kernel, rfl, by decide +kernel, by decide +kernel⟩
abbrev s_shape : Stmt := topS 53
theorem sc_shape : FnScope ["net", "start", "end", "town", "signs"] ["net"] (defScope s_shape) := ⟨rfl, rfl, rfl, by decide +kernel, rfl, by decide +kernel, by decide +kernel⟩
abbrev s_check_two : Stmt := topS 54
theorem sc_check_two : FnScope ["one", "other"] ["one", "other"] (defScope s_check_two) := ⟨rfl, rfl, rfl, by decide +kernel, rfl, by decide +kernel, by decide +kernel⟩
abbrev s_same_shape : Stmt := topS 55
theorem sc_same_shape : FnScope ["one", "other"] ["one", "other"] (defScope s_same_shape) := ⟨rfl, rfl, rfl, by decide +kernel, rfl, by decide +kernel, by decide +kernel⟩
abbrev s_find_parting : Stmt := topS 56
theorem sc_find_parting : FnScope ["one", "other", "level", "known", "later", "way", "left", "right", "road", "here", "there", "next_road"] ["one", "other"] (defScope s_find_parting) := ⟨rfl, rfl, rfl, by decide +kernel, rfl, by decide +kernel, by decide +kernel⟩
abbrev s_same_limits : Stmt := topS 57
theorem sc_same_limits : FnScope ["one", "other"] ["one", "other"] (defScope s_same_limits) := ⟨rfl, rfl, rfl, by decide +kernel, rfl, by decide +kernel, by decide +kernel⟩
abbrev s_parting_way : Stmt := topS 58
theorem sc_parting_way : FnScope ["one", "other"] ["one", "other"] (defScope s_parting_way) := ⟨rfl, rfl, rfl, by decide +kernel, rfl, by decide +kernel, by decide +kernel⟩
abbrev s_most_idle : Stmt := topS 59
theorem sc_most_idle : FnScope ["net", "found"] ["net"] (defScope s_most_idle) := ⟨rfl, rfl, rfl, by decide +kernel, rfl, by decide +kernel, by decide +kernel⟩
abbrev s_find_places : Stmt := topS 61
theorem sc_find_places : FnScope ["net", "level", "found", "later", "road", "state", "behind", "other"] ["net"] (defScope s_find_places) := ⟨rfl, rfl, rfl, by decide +kernel, rfl, by decide +kernel, by decide +kernel⟩
abbrev s_find_states : Stmt := topS 62
theorem sc_find_states : FnScope ["net", "road", "other", "state"] ["net", "road"] (defScope s_find_states) := ⟨rfl, rfl, rfl, by decide +kernel, rfl, by decide +kernel, by decide +kernel⟩
abbrev s_states_at : Stmt := topS 63
theorem sc_states_at : FnScope ["net", "road"] ["net", "road"] (defScope s_states_at) := ⟨rfl, rfl, rfl, by decide +kernel, rfl, by decide +kernel, by decide +kernel⟩
abbrev s_find_possible : Stmt := topS 64
theorem sc_find_possible : FnScope ["net", "road", "piece", "state"] ["net", "road", "piece"] (defScope s_find_possible) := ⟨rfl, rfl, rfl, by decide +kernel, rfl, by decide +kernel, by decide +kernel⟩
abbrev s_possible : Stmt := topS 65
theorem sc_possible : FnScope ["net", "road", "piece"] ["net", "road", "piece"] (defScope s_possible) := ⟨rfl, rfl, rfl, by decide +kernel, rfl, by decide +kernel, by decide +kernel⟩
abbrev s_find_unclear : Stmt := topS 66
theorem sc_find_unclear : FnScope ["net", "road"] ["net"] (defScope s_find_unclear) := ⟨rfl, rfl, rfl, by decide +kernel, rfl, by decide +kernel, by decide +kernel⟩
abbrev s_unclear : Stmt := topS 67
theorem sc_unclear : FnScope ["net"] ["net"] (defScope s_unclear) := ⟨rfl, rfl, rfl, by decide +kernel, rfl, by decide +kernel, by decide +kernel⟩
abbrev s_is_clear : Stmt := topS 68
theorem sc_is_clear : FnScope ["net"] ["net"] (defScope s_is_clear) := ⟨rfl, rfl, rfl, by decide +kernel, rfl, by decide +kernel, by decide +kernel⟩
abbrev s_find_shortest : Stmt := topS 70
theorem sc_find_shortest : FnScope ["net", "road", "limit", "level", "known", "later", "way", "state", "behind", "one", "other"] ["net", "road", "limit"] (defScope s_find_shortest) := ⟨rfl, rfl, rfl, by decide +kernel, rfl, by decide +kernel, by decide +kernel⟩
abbrev s_shortest_with : Stmt := topS 71
theorem sc_shortest_with : FnScope ["net", "road", "limit"] ["net", "road", "limit"] (defScope s_shortest_with) := ⟨rfl, rfl, rfl, by decide +kernel, rfl, by decide +kernel, by decide +kernel⟩
abbrev s_witnesses : Stmt := topS 72
theorem sc_witnesses : FnScope ["net", "road", "found"] ["net", "road"] (defScope s_witnesses) := ⟨rfl, rfl, rfl, by decide +kernel, rfl, by decide +kernel, by decide +kernel⟩
abbrev s_farthest : Stmt := topS 73
theorem sc_farthest : FnScope ["net", "road", "level", "many", "later", "one"] ["net", "road"] (defScope s_farthest) := ⟨rfl, rfl, rfl, by decide +kernel, rfl, by decide +kernel, by decide +kernel⟩
abbrev s_l_class : Stmt := topS 75
theorem sc_l_class : FnScope ["error", "kinds", "names"] ["error"] (defScope s_l_class) := ⟨rfl, rfl, rfl, by decide +kernel, rfl, by decide +kernel, by decide +kernel⟩
abbrev s_l_result : Stmt := topS 76
theorem sc_l_result : FnScope ["call", "error"] ["call"] (defScope s_l_result) := ⟨rfl, rfl, rfl, by decide +kernel, rfl, by decide +kernel, by decide +kernel⟩
abbrev s_l_all : Stmt := topS 77
theorem sc_l_all : FnScope ["calls", "name", "call"] ["calls", "name"] (defScope s_l_all) := ⟨rfl, rfl, rfl, by decide +kernel, rfl, by decide +kernel, by decide +kernel⟩
abbrev s_l_pick : Stmt := topS 78
theorem sc_l_pick : FnScope ["script", "k", "many", "cell", "rest", "again", "drawn"] ["script", "k", "many"] (defScope s_l_pick) := ⟨rfl, rfl, rfl, by decide +kernel, rfl, by decide +kernel, by decide +kernel⟩
abbrev s_l_map : Stmt := topS 79
theorem sc_l_map : FnScope ["script", "at", "most", "fast", "found", "k", "spot", "signs", "ends", "n"] ["script", "at", "most"] (defScope s_l_map) := ⟨rfl, rfl, rfl, by decide +kernel, rfl, by decide +kernel, by decide +kernel⟩
abbrev s_l_nets : Stmt := topS 80
theorem sc_l_nets : FnScope ["some", "no", "calls"] ["some", "no"] (defScope s_l_nets) := ⟨rfl, rfl, rfl, by decide +kernel, rfl, by decide +kernel, by decide +kernel⟩
abbrev s_l_numbered : Stmt := topS 81
theorem sc_l_numbered : FnScope ["some", "no", "calls"] ["some", "no"] (defScope s_l_numbered) := ⟨rfl, rfl, rfl, by decide +kernel, rfl, by decide +kernel, by decide +kernel⟩
abbrev s_l_placed : Stmt := topS 82
theorem sc_l_placed : FnScope ["some", "many", "places", "signs", "full"] ["some"] (defScope s_l_placed) := ⟨rfl, rfl, rfl, by decide +kernel, rfl, by decide +kernel, by decide +kernel⟩
abbrev s_law : Stmt := topS 83
theorem sc_law : FnScope ["script", "some", "at", "one", "listed", "no", "number", "bad", "calls", "parts", "other", "shapes"] ["script"] (defScope s_law) := ⟨rfl, rfl, rfl, by decide +kernel, rfl, by decide +kernel, by decide +kernel⟩

abbrev knownX : List Str := ["InvalidIndex", "InvalidLimit", "InvalidNet", "InvalidPiece", "InvalidRoad", "InvalidSign", "InvalidWay", "OtherShape", "TooMany"]
noncomputable section

set_option maxHeartbeats 0 in
structure Fx (K : PySem.W.Frag) (mg : Str → Option Value) where
  f_is_int : Addr
  fd_is_int : FuncData
  F_is_int : Fun K "is_int" "is_int" s_is_int f_is_int fd_is_int
  b_is_int : Binds K fd_is_int ["value", "least", "most"] []
  g_is_int : mg "is_int" = some (.ref f_is_int)
  f_are_signs : Addr
  fd_are_signs : FuncData
  F_are_signs : Fun K "are_signs" "are_signs" s_are_signs f_are_signs fd_are_signs
  b_are_signs : Binds K fd_are_signs ["value"] []
  g_are_signs : mg "are_signs" = some (.ref f_are_signs)
  f_is_road : Addr
  fd_is_road : FuncData
  F_is_road : Fun K "is_road" "is_road" s_is_road f_is_road fd_is_road
  b_is_road : Binds K fd_is_road ["value"] []
  g_is_road : mg "is_road" = some (.ref f_is_road)
  f_is_net : Addr
  fd_is_net : FuncData
  F_is_net : Fun K "is_net" "is_net" s_is_net f_is_net fd_is_net
  b_is_net : Binds K fd_is_net ["candidate"] []
  g_is_net : mg "is_net" = some (.ref f_is_net)
  f_check_net : Addr
  fd_check_net : FuncData
  F_check_net : Fun K "check_net" "check_net" s_check_net f_check_net fd_check_net
  b_check_net : Binds K fd_check_net ["value"] []
  g_check_net : mg "check_net" = some (.ref f_check_net)
  f_check_road : Addr
  fd_check_road : FuncData
  F_check_road : Fun K "check_road" "check_road" s_check_road f_check_road fd_check_road
  b_check_road : Binds K fd_check_road ["net", "value"] []
  g_check_road : mg "check_road" = some (.ref f_check_road)
  f_has_way : Addr
  fd_has_way : FuncData
  F_has_way : Fun K "has_way" "has_way" s_has_way f_has_way fd_has_way
  b_has_way : Binds K fd_has_way ["net", "candidate"] []
  g_has_way : mg "has_way" = some (.ref f_has_way)
  f_is_way : Addr
  fd_is_way : FuncData
  F_is_way : Fun K "is_way" "is_way" s_is_way f_is_way fd_is_way
  b_is_way : Binds K fd_is_way ["net", "candidate"] []
  g_is_way : mg "is_way" = some (.ref f_is_way)
  f_find_followers : Addr
  fd_find_followers : FuncData
  F_find_followers : Fun K "find_followers" "find_followers" s_find_followers f_find_followers fd_find_followers
  b_find_followers : Binds K fd_find_followers ["net", "road"] []
  g_find_followers : mg "find_followers" = some (.ref f_find_followers)
  f_followers : Addr
  fd_followers : FuncData
  F_followers : Fun K "followers" "followers" s_followers f_followers fd_followers
  b_followers : Binds K fd_followers ["net", "road"] []
  g_followers : mg "followers" = some (.ref f_followers)
  f_find_standing : Addr
  fd_find_standing : FuncData
  F_find_standing : Fun K "find_standing" "find_standing" s_find_standing f_find_standing fd_find_standing
  b_find_standing : Binds K fd_find_standing ["net", "road"] []
  g_find_standing : mg "find_standing" = some (.ref f_find_standing)
  f_standing : Addr
  fd_standing : FuncData
  F_standing : Fun K "standing" "standing" s_standing f_standing fd_standing
  b_standing : Binds K fd_standing ["net", "road"] []
  g_standing : mg "standing" = some (.ref f_standing)
  f_count_pieces : Addr
  fd_count_pieces : FuncData
  F_count_pieces : Fun K "count_pieces" "count_pieces" s_count_pieces f_count_pieces fd_count_pieces
  b_count_pieces : Binds K fd_count_pieces ["net"] []
  g_count_pieces : mg "count_pieces" = some (.ref f_count_pieces)
  f_pieces : Addr
  fd_pieces : FuncData
  F_pieces : Fun K "pieces" "pieces" s_pieces f_pieces fd_pieces
  b_pieces : Binds K fd_pieces ["net", "road", "state"] []
  g_pieces : mg "pieces" = some (.ref f_pieces)
  f_leave : Addr
  fd_leave : FuncData
  F_leave : Fun K "leave" "leave" s_leave f_leave fd_leave
  b_leave : Binds K fd_leave ["net", "road", "state"] []
  g_leave : mg "leave" = some (.ref f_leave)
  f_go_over : Addr
  fd_go_over : FuncData
  F_go_over : Fun K "go_over" "go_over" s_go_over f_go_over fd_go_over
  b_go_over : Binds K fd_go_over ["net", "state"] []
  g_go_over : mg "go_over" = some (.ref f_go_over)
  f_check_way : Addr
  fd_check_way : FuncData
  F_check_way : Fun K "check_way" "check_way" s_check_way f_check_way fd_check_way
  b_check_way : Binds K fd_check_way ["net", "way"] []
  g_check_way : mg "check_way" = some (.ref f_check_way)
  f_find_limits : Addr
  fd_find_limits : FuncData
  F_find_limits : Fun K "find_limits" "find_limits" s_find_limits f_find_limits fd_find_limits
  b_find_limits : Binds K fd_find_limits ["net", "way"] []
  g_find_limits : mg "find_limits" = some (.ref f_find_limits)
  f_limits : Addr
  fd_limits : FuncData
  F_limits : Fun K "limits" "limits" s_limits f_limits fd_limits
  b_limits : Binds K fd_limits ["net", "way"] []
  g_limits : mg "limits" = some (.ref f_limits)
  f_state_after : Addr
  fd_state_after : FuncData
  F_state_after : Fun K "state_after" "state_after" s_state_after f_state_after fd_state_after
  b_state_after : Binds K fd_state_after ["net", "way"] []
  g_state_after : mg "state_after" = some (.ref f_state_after)
  f_flat : Addr
  fd_flat : FuncData
  F_flat : Fun K "flat" "flat" s_flat f_flat fd_flat
  b_flat : Binds K fd_flat ["net", "way"] []
  g_flat : mg "flat" = some (.ref f_flat)
  f_changes : Addr
  fd_changes : FuncData
  F_changes : Fun K "changes" "changes" s_changes f_changes fd_changes
  b_changes : Binds K fd_changes ["net", "way"] []
  g_changes : mg "changes" = some (.ref f_changes)
  f_least_limit : Addr
  fd_least_limit : FuncData
  F_least_limit : Fun K "least_limit" "least_limit" s_least_limit f_least_limit fd_least_limit
  b_least_limit : Binds K fd_least_limit ["net", "way"] []
  g_least_limit : mg "least_limit" = some (.ref f_least_limit)
  f_set_signs : Addr
  fd_set_signs : FuncData
  F_set_signs : Fun K "set_signs" "set_signs" s_set_signs f_set_signs fd_set_signs
  b_set_signs : Binds K fd_set_signs ["net", "road", "signs"] []
  g_set_signs : mg "set_signs" = some (.ref f_set_signs)
  f_drop : Addr
  fd_drop : FuncData
  F_drop : Fun K "drop" "drop" s_drop f_drop fd_drop
  b_drop : Binds K fd_drop ["net", "road", "index"] []
  g_drop : mg "drop" = some (.ref f_drop)
  f_without_sign : Addr
  fd_without_sign : FuncData
  F_without_sign : Fun K "without_sign" "without_sign" s_without_sign f_without_sign fd_without_sign
  b_without_sign : Binds K fd_without_sign ["net", "road", "index"] []
  g_without_sign : mg "without_sign" = some (.ref f_without_sign)
  f_with_sign : Addr
  fd_with_sign : FuncData
  F_with_sign : Fun K "with_sign" "with_sign" s_with_sign f_with_sign fd_with_sign
  b_with_sign : Binds K fd_with_sign ["net", "road", "index", "sign"] []
  g_with_sign : mg "with_sign" = some (.ref f_with_sign)
  f_pairs_of : Addr
  fd_pairs_of : FuncData
  F_pairs_of : Fun K "pairs_of" "pairs_of" s_pairs_of f_pairs_of fd_pairs_of
  b_pairs_of : Binds K fd_pairs_of ["one", "other"] []
  g_pairs_of : mg "pairs_of" = some (.ref f_pairs_of)
  f_does_nothing : Addr
  fd_does_nothing : FuncData
  F_does_nothing : Fun K "does_nothing" "does_nothing" s_does_nothing f_does_nothing fd_does_nothing
  b_does_nothing : Binds K fd_does_nothing ["net", "road", "index"] []
  g_does_nothing : mg "does_nothing" = some (.ref f_does_nothing)
  f_is_idle : Addr
  fd_is_idle : FuncData
  F_is_idle : Fun K "is_idle" "is_idle" s_is_idle f_is_idle fd_is_idle
  b_is_idle : Binds K fd_is_idle ["net", "road", "index"] []
  g_is_idle : mg "is_idle" = some (.ref f_is_idle)
  f_find_idle : Addr
  fd_find_idle : FuncData
  F_find_idle : Fun K "find_idle" "find_idle" s_find_idle f_find_idle fd_find_idle
  b_find_idle : Binds K fd_find_idle ["net"] []
  g_find_idle : mg "find_idle" = some (.ref f_find_idle)
  f_idle_signs : Addr
  fd_idle_signs : FuncData
  F_idle_signs : Fun K "idle_signs" "idle_signs" s_idle_signs f_idle_signs fd_idle_signs
  b_idle_signs : Binds K fd_idle_signs ["net"] []
  g_idle_signs : mg "idle_signs" = some (.ref f_idle_signs)
  f_shape : Addr
  fd_shape : FuncData
  F_shape : Fun K "shape" "shape" s_shape f_shape fd_shape
  b_shape : Binds K fd_shape ["net"] []
  g_shape : mg "shape" = some (.ref f_shape)
  f_check_two : Addr
  fd_check_two : FuncData
  F_check_two : Fun K "check_two" "check_two" s_check_two f_check_two fd_check_two
  b_check_two : Binds K fd_check_two ["one", "other"] []
  g_check_two : mg "check_two" = some (.ref f_check_two)
  f_same_shape : Addr
  fd_same_shape : FuncData
  F_same_shape : Fun K "same_shape" "same_shape" s_same_shape f_same_shape fd_same_shape
  b_same_shape : Binds K fd_same_shape ["one", "other"] []
  g_same_shape : mg "same_shape" = some (.ref f_same_shape)
  f_find_parting : Addr
  fd_find_parting : FuncData
  F_find_parting : Fun K "find_parting" "find_parting" s_find_parting f_find_parting fd_find_parting
  b_find_parting : Binds K fd_find_parting ["one", "other"] []
  g_find_parting : mg "find_parting" = some (.ref f_find_parting)
  f_same_limits : Addr
  fd_same_limits : FuncData
  F_same_limits : Fun K "same_limits" "same_limits" s_same_limits f_same_limits fd_same_limits
  b_same_limits : Binds K fd_same_limits ["one", "other"] []
  g_same_limits : mg "same_limits" = some (.ref f_same_limits)
  f_parting_way : Addr
  fd_parting_way : FuncData
  F_parting_way : Fun K "parting_way" "parting_way" s_parting_way f_parting_way fd_parting_way
  b_parting_way : Binds K fd_parting_way ["one", "other"] []
  g_parting_way : mg "parting_way" = some (.ref f_parting_way)
  f_most_idle : Addr
  fd_most_idle : FuncData
  F_most_idle : Fun K "most_idle" "most_idle" s_most_idle f_most_idle fd_most_idle
  b_most_idle : Binds K fd_most_idle ["net"] []
  g_most_idle : mg "most_idle" = some (.ref f_most_idle)
  f_find_places : Addr
  fd_find_places : FuncData
  F_find_places : Fun K "find_places" "find_places" s_find_places f_find_places fd_find_places
  b_find_places : Binds K fd_find_places ["net"] []
  g_find_places : mg "find_places" = some (.ref f_find_places)
  f_find_states : Addr
  fd_find_states : FuncData
  F_find_states : Fun K "find_states" "find_states" s_find_states f_find_states fd_find_states
  b_find_states : Binds K fd_find_states ["net", "road"] []
  g_find_states : mg "find_states" = some (.ref f_find_states)
  f_states_at : Addr
  fd_states_at : FuncData
  F_states_at : Fun K "states_at" "states_at" s_states_at f_states_at fd_states_at
  b_states_at : Binds K fd_states_at ["net", "road"] []
  g_states_at : mg "states_at" = some (.ref f_states_at)
  f_find_possible : Addr
  fd_find_possible : FuncData
  F_find_possible : Fun K "find_possible" "find_possible" s_find_possible f_find_possible fd_find_possible
  b_find_possible : Binds K fd_find_possible ["net", "road", "piece"] []
  g_find_possible : mg "find_possible" = some (.ref f_find_possible)
  f_possible : Addr
  fd_possible : FuncData
  F_possible : Fun K "possible" "possible" s_possible f_possible fd_possible
  b_possible : Binds K fd_possible ["net", "road", "piece"] []
  g_possible : mg "possible" = some (.ref f_possible)
  f_find_unclear : Addr
  fd_find_unclear : FuncData
  F_find_unclear : Fun K "find_unclear" "find_unclear" s_find_unclear f_find_unclear fd_find_unclear
  b_find_unclear : Binds K fd_find_unclear ["net"] []
  g_find_unclear : mg "find_unclear" = some (.ref f_find_unclear)
  f_unclear : Addr
  fd_unclear : FuncData
  F_unclear : Fun K "unclear" "unclear" s_unclear f_unclear fd_unclear
  b_unclear : Binds K fd_unclear ["net"] []
  g_unclear : mg "unclear" = some (.ref f_unclear)
  f_is_clear : Addr
  fd_is_clear : FuncData
  F_is_clear : Fun K "is_clear" "is_clear" s_is_clear f_is_clear fd_is_clear
  b_is_clear : Binds K fd_is_clear ["net"] []
  g_is_clear : mg "is_clear" = some (.ref f_is_clear)
  f_find_shortest : Addr
  fd_find_shortest : FuncData
  F_find_shortest : Fun K "find_shortest" "find_shortest" s_find_shortest f_find_shortest fd_find_shortest
  b_find_shortest : Binds K fd_find_shortest ["net", "road", "limit"] []
  g_find_shortest : mg "find_shortest" = some (.ref f_find_shortest)
  f_shortest_with : Addr
  fd_shortest_with : FuncData
  F_shortest_with : Fun K "shortest_with" "shortest_with" s_shortest_with f_shortest_with fd_shortest_with
  b_shortest_with : Binds K fd_shortest_with ["net", "road", "limit"] []
  g_shortest_with : mg "shortest_with" = some (.ref f_shortest_with)
  f_witnesses : Addr
  fd_witnesses : FuncData
  F_witnesses : Fun K "witnesses" "witnesses" s_witnesses f_witnesses fd_witnesses
  b_witnesses : Binds K fd_witnesses ["net", "road"] []
  g_witnesses : mg "witnesses" = some (.ref f_witnesses)
  f_farthest : Addr
  fd_farthest : FuncData
  F_farthest : Fun K "farthest" "farthest" s_farthest f_farthest fd_farthest
  b_farthest : Binds K fd_farthest ["net", "road"] []
  g_farthest : mg "farthest" = some (.ref f_farthest)
  f_l_class : Addr
  fd_l_class : FuncData
  F_l_class : Fun K "_law_class" "_law_class" s_l_class f_l_class fd_l_class
  b_l_class : Binds K fd_l_class ["error"] []
  g_l_class : mg "_law_class" = some (.ref f_l_class)
  f_l_result : Addr
  fd_l_result : FuncData
  F_l_result : Fun K "_law_result" "_law_result" s_l_result f_l_result fd_l_result
  b_l_result : Binds K fd_l_result ["call"] []
  g_l_result : mg "_law_result" = some (.ref f_l_result)
  f_l_all : Addr
  fd_l_all : FuncData
  F_l_all : Fun K "_law_all" "_law_all" s_l_all f_l_all fd_l_all
  b_l_all : Binds K fd_l_all ["calls", "name"] []
  g_l_all : mg "_law_all" = some (.ref f_l_all)
  f_l_pick : Addr
  fd_l_pick : FuncData
  F_l_pick : Fun K "_law_pick" "_law_pick" s_l_pick f_l_pick fd_l_pick
  b_l_pick : Binds K fd_l_pick ["script", "k", "many"] []
  g_l_pick : mg "_law_pick" = some (.ref f_l_pick)
  f_l_map : Addr
  fd_l_map : FuncData
  F_l_map : Fun K "_law_map" "_law_map" s_l_map f_l_map fd_l_map
  b_l_map : Binds K fd_l_map ["script", "at", "most"] []
  g_l_map : mg "_law_map" = some (.ref f_l_map)
  f_l_nets : Addr
  fd_l_nets : FuncData
  F_l_nets : Fun K "_law_nets" "_law_nets" s_l_nets f_l_nets fd_l_nets
  b_l_nets : Binds K fd_l_nets ["some", "no"] []
  g_l_nets : mg "_law_nets" = some (.ref f_l_nets)
  f_l_numbered : Addr
  fd_l_numbered : FuncData
  F_l_numbered : Fun K "_law_numbered" "_law_numbered" s_l_numbered f_l_numbered fd_l_numbered
  b_l_numbered : Binds K fd_l_numbered ["some", "no"] []
  g_l_numbered : mg "_law_numbered" = some (.ref f_l_numbered)
  f_l_placed : Addr
  fd_l_placed : FuncData
  F_l_placed : Fun K "_law_placed" "_law_placed" s_l_placed f_l_placed fd_l_placed
  b_l_placed : Binds K fd_l_placed ["some"] []
  g_l_placed : mg "_law_placed" = some (.ref f_l_placed)
  f_law : Addr
  fd_law : FuncData
  F_law : Fun K "law" "law" s_law f_law fd_law
  b_law : Binds K fd_law ["script"] []
  g_law : mg "law" = some (.ref f_law)
  ca_l_nets : Addr
  ta_l_nets : Addr
  cq_l_nets : fd_l_nets.code = .ref ca_l_nets
  ca_l_numbered : Addr
  ta_l_numbered : Addr
  cq_l_numbered : fd_l_numbered.code = .ref ca_l_numbered
  ca_l_placed : Addr
  ta_l_placed : Addr
  cq_l_placed : fd_l_placed.code = .ref ca_l_placed
  ca_law : Addr
  ta_law : Addr
  cq_law : fd_law.code = .ref ca_law
  tn_l_nets_l_numbered : ta_l_nets ≠ ta_l_numbered
  tn_l_nets_l_placed : ta_l_nets ≠ ta_l_placed
  tn_l_nets_law : ta_l_nets ≠ ta_law
  tn_l_numbered_l_placed : ta_l_numbered ≠ ta_l_placed
  tn_l_numbered_law : ta_l_numbered ≠ ta_law
  tn_l_placed_law : ta_l_placed ≠ ta_law
  m_ValueError : mg "ValueError" = none
  m_all : mg "all" = none
  m_bool : mg "bool" = none
  m_enumerate : mg "enumerate" = none
  m_int : mg "int" = none
  m_isinstance : mg "isinstance" = none
  m_len : mg "len" = none
  m_max : mg "max" = none
  m_min : mg "min" = none
  m_range : mg "range" = none
  m_set : mg "set" = none
  m_sorted : mg "sorted" = none
  m_tuple : mg "tuple" = none
  m_zip : mg "zip" = none
  c_MAX_JUNCTION : ∃ u, mg "MAX_JUNCTION" = some (.int 5 u)
  c_MAX_LIMIT : ∃ u, mg "MAX_LIMIT" = some (.int 13 u)
  c_MAX_ROADS : ∃ u, mg "MAX_ROADS" = some (.int 8 u)
  c_MAX_SIGNS : ∃ u, mg "MAX_SIGNS" = some (.int 3 u)
  c_MAX_WAY : ∃ u, mg "MAX_WAY" = some (.int 20 u)
  c_MIN_FAST : ∃ u, mg "MIN_FAST" = some (.int 5 u)
  C_InvalidIndex : Addr
  gc_InvalidIndex : mg "InvalidIndex" = some (.ref C_InvalidIndex)
  x_InvalidIndex : PySem.W.excIn K C_InvalidIndex [.type "ValueError", .type "Exception", .type "BaseException", .type "object"] "ValueError.__new__" = true
  k_InvalidIndex : PySem.W.keepIn K (.ref C_InvalidIndex) = true
  sb_InvalidIndex : PySem.W.subIn K (.ref C_InvalidIndex) (.type "BaseException") = some true
  ty_InvalidIndex : PySem.W.typeIn K (.ref C_InvalidIndex) = some (.type "type")
  C_InvalidLimit : Addr
  gc_InvalidLimit : mg "InvalidLimit" = some (.ref C_InvalidLimit)
  x_InvalidLimit : PySem.W.excIn K C_InvalidLimit [.type "ValueError", .type "Exception", .type "BaseException", .type "object"] "ValueError.__new__" = true
  k_InvalidLimit : PySem.W.keepIn K (.ref C_InvalidLimit) = true
  sb_InvalidLimit : PySem.W.subIn K (.ref C_InvalidLimit) (.type "BaseException") = some true
  ty_InvalidLimit : PySem.W.typeIn K (.ref C_InvalidLimit) = some (.type "type")
  C_InvalidNet : Addr
  gc_InvalidNet : mg "InvalidNet" = some (.ref C_InvalidNet)
  x_InvalidNet : PySem.W.excIn K C_InvalidNet [.type "ValueError", .type "Exception", .type "BaseException", .type "object"] "ValueError.__new__" = true
  k_InvalidNet : PySem.W.keepIn K (.ref C_InvalidNet) = true
  sb_InvalidNet : PySem.W.subIn K (.ref C_InvalidNet) (.type "BaseException") = some true
  ty_InvalidNet : PySem.W.typeIn K (.ref C_InvalidNet) = some (.type "type")
  C_InvalidPiece : Addr
  gc_InvalidPiece : mg "InvalidPiece" = some (.ref C_InvalidPiece)
  x_InvalidPiece : PySem.W.excIn K C_InvalidPiece [.type "ValueError", .type "Exception", .type "BaseException", .type "object"] "ValueError.__new__" = true
  k_InvalidPiece : PySem.W.keepIn K (.ref C_InvalidPiece) = true
  sb_InvalidPiece : PySem.W.subIn K (.ref C_InvalidPiece) (.type "BaseException") = some true
  ty_InvalidPiece : PySem.W.typeIn K (.ref C_InvalidPiece) = some (.type "type")
  C_InvalidRoad : Addr
  gc_InvalidRoad : mg "InvalidRoad" = some (.ref C_InvalidRoad)
  x_InvalidRoad : PySem.W.excIn K C_InvalidRoad [.type "ValueError", .type "Exception", .type "BaseException", .type "object"] "ValueError.__new__" = true
  k_InvalidRoad : PySem.W.keepIn K (.ref C_InvalidRoad) = true
  sb_InvalidRoad : PySem.W.subIn K (.ref C_InvalidRoad) (.type "BaseException") = some true
  ty_InvalidRoad : PySem.W.typeIn K (.ref C_InvalidRoad) = some (.type "type")
  C_InvalidSign : Addr
  gc_InvalidSign : mg "InvalidSign" = some (.ref C_InvalidSign)
  x_InvalidSign : PySem.W.excIn K C_InvalidSign [.type "ValueError", .type "Exception", .type "BaseException", .type "object"] "ValueError.__new__" = true
  k_InvalidSign : PySem.W.keepIn K (.ref C_InvalidSign) = true
  sb_InvalidSign : PySem.W.subIn K (.ref C_InvalidSign) (.type "BaseException") = some true
  ty_InvalidSign : PySem.W.typeIn K (.ref C_InvalidSign) = some (.type "type")
  C_InvalidWay : Addr
  gc_InvalidWay : mg "InvalidWay" = some (.ref C_InvalidWay)
  x_InvalidWay : PySem.W.excIn K C_InvalidWay [.type "ValueError", .type "Exception", .type "BaseException", .type "object"] "ValueError.__new__" = true
  k_InvalidWay : PySem.W.keepIn K (.ref C_InvalidWay) = true
  sb_InvalidWay : PySem.W.subIn K (.ref C_InvalidWay) (.type "BaseException") = some true
  ty_InvalidWay : PySem.W.typeIn K (.ref C_InvalidWay) = some (.type "type")
  C_OtherShape : Addr
  gc_OtherShape : mg "OtherShape" = some (.ref C_OtherShape)
  x_OtherShape : PySem.W.excIn K C_OtherShape [.type "ValueError", .type "Exception", .type "BaseException", .type "object"] "ValueError.__new__" = true
  k_OtherShape : PySem.W.keepIn K (.ref C_OtherShape) = true
  sb_OtherShape : PySem.W.subIn K (.ref C_OtherShape) (.type "BaseException") = some true
  ty_OtherShape : PySem.W.typeIn K (.ref C_OtherShape) = some (.type "type")
  C_TooMany : Addr
  gc_TooMany : mg "TooMany" = some (.ref C_TooMany)
  x_TooMany : PySem.W.excIn K C_TooMany [.type "ValueError", .type "Exception", .type "BaseException", .type "object"] "ValueError.__new__" = true
  k_TooMany : PySem.W.keepIn K (.ref C_TooMany) = true
  sb_TooMany : PySem.W.subIn K (.ref C_TooMany) (.type "BaseException") = some true
  ty_TooMany : PySem.W.typeIn K (.ref C_TooMany) = some (.type "type")
  C_LimitError : Addr
  gc_LimitError : mg "LimitError" = some (.ref C_LimitError)
  ex_LimitError : ∀ c C, c ∈ knownX → mg c = some (.ref C) → PySem.W.exmOne K (.ref C) (.ref C_LimitError) = some true
  kv : ∀ c C, c ∈ knownX → mg c = some (.ref C) → PySem.W.kitOne K (.ref C) (.type "ValueError") = some true
  ec : ∀ c C, c ∈ knownX → mg c = some (.ref C) → ExcC K C
  kt_InvalidIndex : ∀ c C, c ∈ knownX → mg c = some (.ref C) → PySem.W.kitOne K (.ref C) (.ref C_InvalidIndex) = some (decide (c = ("InvalidIndex" : Str)))
  kt_InvalidLimit : ∀ c C, c ∈ knownX → mg c = some (.ref C) → PySem.W.kitOne K (.ref C) (.ref C_InvalidLimit) = some (decide (c = ("InvalidLimit" : Str)))
  kt_InvalidNet : ∀ c C, c ∈ knownX → mg c = some (.ref C) → PySem.W.kitOne K (.ref C) (.ref C_InvalidNet) = some (decide (c = ("InvalidNet" : Str)))
  kt_InvalidPiece : ∀ c C, c ∈ knownX → mg c = some (.ref C) → PySem.W.kitOne K (.ref C) (.ref C_InvalidPiece) = some (decide (c = ("InvalidPiece" : Str)))
  kt_InvalidRoad : ∀ c C, c ∈ knownX → mg c = some (.ref C) → PySem.W.kitOne K (.ref C) (.ref C_InvalidRoad) = some (decide (c = ("InvalidRoad" : Str)))
  kt_InvalidSign : ∀ c C, c ∈ knownX → mg c = some (.ref C) → PySem.W.kitOne K (.ref C) (.ref C_InvalidSign) = some (decide (c = ("InvalidSign" : Str)))
  kt_InvalidWay : ∀ c C, c ∈ knownX → mg c = some (.ref C) → PySem.W.kitOne K (.ref C) (.ref C_InvalidWay) = some (decide (c = ("InvalidWay" : Str)))
  kt_OtherShape : ∀ c C, c ∈ knownX → mg c = some (.ref C) → PySem.W.kitOne K (.ref C) (.ref C_OtherShape) = some (decide (c = ("OtherShape" : Str)))
  kt_TooMany : ∀ c C, c ∈ knownX → mg c = some (.ref C) → PySem.W.kitOne K (.ref C) (.ref C_TooMany) = some (decide (c = ("TooMany" : Str)))

def lq (x : Str) : Str := (envOfC x default 0 0 .none).qual ++ "<lambda>"
section
variable {K : PySem.W.Frag} {mg : Str → Option Value} {base : Heap}
def TT (T : Fx K mg) : List (Addr × Str) := [(T.ta_l_nets, lq "_law_nets"), (T.ta_l_numbered, lq "_law_numbered"), (T.ta_l_placed, lq "_law_placed"), (T.ta_law, lq "law")]
structure Bx (T : Fx K mg) (base : Heap) : Prop where
  tb_l_nets : LamX.TabB base mg T.ca_l_nets T.ta_l_nets
  tb_l_numbered : LamX.TabB base mg T.ca_l_numbered T.ta_l_numbered
  tb_l_placed : LamX.TabB base mg T.ca_l_placed T.ta_l_placed
  tb_law : LamX.TabB base mg T.ca_law T.ta_law
theorem hm_l_nets (T : Fx K mg) : (T.ta_l_nets, lq "_law_nets") ∈ TT T := by simp [TT]
theorem hu_l_nets (T : Fx K mg) : ∀ p ∈ TT T, p.1 = T.ta_l_nets → p.2 = lq "_law_nets" := by
  intro p hp e
  simp only [TT, List.mem_cons, List.not_mem_nil, or_false] at hp
  rcases hp with rfl | rfl | rfl | rfl
  · rfl
  · exact absurd e.symm T.tn_l_nets_l_numbered
  · exact absurd e.symm T.tn_l_nets_l_placed
  · exact absurd e.symm T.tn_l_nets_law
theorem hm_l_numbered (T : Fx K mg) : (T.ta_l_numbered, lq "_law_numbered") ∈ TT T := by simp [TT]
theorem hu_l_numbered (T : Fx K mg) : ∀ p ∈ TT T, p.1 = T.ta_l_numbered → p.2 = lq "_law_numbered" := by
  intro p hp e
  simp only [TT, List.mem_cons, List.not_mem_nil, or_false] at hp
  rcases hp with rfl | rfl | rfl | rfl
  · exact absurd e T.tn_l_nets_l_numbered
  · rfl
  · exact absurd e.symm T.tn_l_numbered_l_placed
  · exact absurd e.symm T.tn_l_numbered_law
theorem hm_l_placed (T : Fx K mg) : (T.ta_l_placed, lq "_law_placed") ∈ TT T := by simp [TT]
theorem hu_l_placed (T : Fx K mg) : ∀ p ∈ TT T, p.1 = T.ta_l_placed → p.2 = lq "_law_placed" := by
  intro p hp e
  simp only [TT, List.mem_cons, List.not_mem_nil, or_false] at hp
  rcases hp with rfl | rfl | rfl | rfl
  · exact absurd e T.tn_l_nets_l_placed
  · exact absurd e T.tn_l_numbered_l_placed
  · rfl
  · exact absurd e.symm T.tn_l_placed_law
theorem hm_law (T : Fx K mg) : (T.ta_law, lq "law") ∈ TT T := by simp [TT]
theorem hu_law (T : Fx K mg) : ∀ p ∈ TT T, p.1 = T.ta_law → p.2 = lq "law" := by
  intro p hp e
  simp only [TT, List.mem_cons, List.not_mem_nil, or_false] at hp
  rcases hp with rfl | rfl | rfl | rfl
  · exact absurd e T.tn_l_nets_law
  · exact absurd e T.tn_l_numbered_law
  · exact absurd e T.tn_l_placed_law
  · rfl
end
def g_is_int : Ev → RO := (gRet (fAndV (fUn (isiD "int") (fVar 0)) (fAndV (fNotV (fUn (isiD "bool") (fVar 0))) (fChain opLe opLe (fVar 1) (fVar 0) (fVar 2)))))
abbrev d_is_int : List R → Rs R := denB 3 g_is_int

def are_signs_c1 : Ev → Rs R := fLc [1] (fSeq (fVar 0)) (tName 1) fYes (fCall d_is_int (aCons (fVar 1) (aCons (fC (.int 0)) (aCons (fC (.int 13)) aNil))))
def g_are_signs : Ev → RO := (gSeq (gIf (fOr (fNot (fTest (fUn (isiD "tuple") (fVar 0)))) (fTest (fOp opGt (fBi biLen (fCons (fVar 0) fNil)) (fC (.int 3))))) (gRet (fC (.bool false))) gNext)
  (gRet (fBi biAll (fCons are_signs_c1 fNil))))
abbrev d_are_signs : List R → Rs R := denB 2 g_are_signs

def g_is_road : Ev → RO := (gSeq (gIf (fOr (fNot (fTest (fUn (isiD "tuple") (fVar 0)))) (fOr (fTest (fOp opNe (fBi biLen (fCons (fVar 0) fNil)) (fC (.int 4)))) (fNot (fTest (fCall d_are_signs (aCons (fOp opIx (fVar 0) (fC (.int 3))) aNil)))))) (gRet (fC (.bool false))) gNext)
  (gRet (fAndV (fCall d_is_int (aCons (fOp opIx (fVar 0) (fC (.int 0))) (aCons (fC (.int 0)) (aCons (fC (.int 5)) aNil)))) (fAndV (fCall d_is_int (aCons (fOp opIx (fVar 0) (fC (.int 1))) (aCons (fC (.int 0)) (aCons (fC (.int 5)) aNil)))) (fCall d_is_int (aCons (fOp opIx (fVar 0) (fC (.int 2))) (aCons (fC (.int 0)) (aCons (fC (.int 1)) aNil))))))))
abbrev d_is_road : List R → Rs R := denB 1 g_is_road

def is_net_c1 : Ev → Rs R := fLc [5] (fSeq (fVar 4)) (tName 5) fYes (fCall d_is_road (aCons (fVar 5) aNil))
def g_is_net : Ev → RO := (gSeq (gIf (fOr (fNot (fTest (fUn (isiD "tuple") (fVar 0)))) (fOr (fTest (fOp opNe (fBi biLen (fCons (fVar 0) fNil)) (fC (.int 4)))) (fNot (fTest (fCall d_is_int (aCons (fOp opIx (fVar 0) (fC (.int 0))) (aCons (fC (.int 5)) (aCons (fC (.int 13)) aNil)))))))) (gRet (fC (.bool false))) gNext)
  (gSeq (gAsgT (tTupl (tsCons (tName 1) (tsCons (tName 2) (tsCons (tName 3) (tsCons (tName 4) tsNil))))) (fVar 0))
  (gSeq (gIf (fOr (fNot (fTest (fCall d_is_int (aCons (fVar 2) (aCons (fC (.int 1)) (aCons (fVar 1) aNil)))))) (fNot (fTest (fCall d_is_int (aCons (fVar 3) (aCons (fC (.int 0)) (aCons (fC (.int 1)) aNil))))))) (gRet (fC (.bool false))) gNext)
  (gRet (fAndV (fUn (isiD "tuple") (fVar 4)) (fAndV (fChain opLe opLe (fC (.int 1)) (fBi biLen (fCons (fVar 4) fNil)) (fC (.int 8))) (fBi biAll (fCons is_net_c1 fNil))))))))
abbrev d_is_net : List R → Rs R := denB 6 g_is_net

def g_check_net : Ev → RO := (gIf (fNot (fTest (fCall d_is_net (aCons (fVar 0) aNil)))) (fun ρ => .exc "InvalidNet" ρ) gNext)
abbrev d_check_net : List R → Rs R := denB 1 g_check_net

def g_check_road : Ev → RO := (gSeq (gDrop (fCall d_check_net (aCons (fVar 0) aNil)))
  (gIf (fNot (fTest (fCall d_is_int (aCons (fVar 1) (aCons (fC (.int 0)) (aCons (fOp opSub (fBi biLen (fCons (fOp opIx (fVar 0) (fC (.int 3))) fNil)) (fC (.int 1))) aNil)))))) (fun ρ => .exc "InvalidRoad" ρ) gNext))
abbrev d_check_road : List R → Rs R := denB 2 g_check_road

def has_way_c1 : Ev → Rs R := fLc [3] (fSeq (fVar 1)) (tName 3) fYes (fCall d_is_int (aCons (fVar 3) (aCons (fC (.int 0)) (aCons (fOp opSub (fBi biLen (fCons (fVar 2) fNil)) (fC (.int 1))) aNil))))
def has_way_c2 : Ev → Rs R := fLc [4, 5] (fZip (fVar 1) (fSl (fVar 1) (fPart (fC (.int 1))) fNo)) (tTupl (tsCons (tName 4) (tsCons (tName 5) tsNil))) fYes (fOp opEq (fOp opIx (fOp opIx (fVar 2) (fVar 4)) (fC (.int 1))) (fOp opIx (fOp opIx (fVar 2) (fVar 5)) (fC (.int 0))))
def g_has_way : Ev → RO := (gSeq (gAsgF 2 (fOp opIx (fVar 0) (fC (.int 3))))
  (gSeq (gIf (fOr (fNot (fTest (fUn (isiD "tuple") (fVar 1)))) (fNot (fTest (fChain opLe opLe (fC (.int 1)) (fBi biLen (fCons (fVar 1) fNil)) (fC (.int 20)))))) (gRet (fC (.bool false))) gNext)
  (gSeq (gIf (fNot (fTest (fBi biAll (fCons has_way_c1 fNil)))) (gRet (fC (.bool false))) gNext)
  (gRet (fBi biAll (fCons has_way_c2 fNil))))))
abbrev d_has_way : List R → Rs R := denB 6 g_has_way

def g_is_way : Ev → RO := (gSeq (gDrop (fCall d_check_net (aCons (fVar 0) aNil)))
  (gRet (fCall d_has_way (aCons (fVar 0) (aCons (fVar 1) aNil)))))
abbrev d_is_way : List R → Rs R := denB 2 g_is_way

def find_followers_c1 : Ev → Rs R := fLc [2, 3] (fEnum (fOp opIx (fVar 0) (fC (.int 3)))) (tTupl (tsCons (tName 2) (tsCons (tName 3) tsNil))) (fTest (fOp opEq (fOp opIx (fVar 3) (fC (.int 0))) (fOp opIx (fOp opIx (fOp opIx (fVar 0) (fC (.int 3))) (fVar 1)) (fC (.int 1))))) (fVar 2)
def g_find_followers : Ev → RO := (gRet find_followers_c1)
abbrev d_find_followers : List R → Rs R := denB 4 g_find_followers

def g_followers : Ev → RO := (gSeq (gDrop (fCall d_check_road (aCons (fVar 0) (aCons (fVar 1) aNil))))
  (gRet (fCall d_find_followers (aCons (fVar 0) (aCons (fVar 1) aNil)))))
abbrev d_followers : List R → Rs R := denB 2 g_followers

def g_find_standing : Ev → RO := (gRet (fIf (fTest (fOp opEq (fOp opIx (fOp opIx (fOp opIx (fVar 0) (fC (.int 3))) (fVar 1)) (fC (.int 2))) (fC (.int 1)))) (fOp opIx (fVar 0) (fC (.int 1))) (fOp opIx (fVar 0) (fC (.int 0)))))
abbrev d_find_standing : List R → Rs R := denB 2 g_find_standing

def g_standing : Ev → RO := (gSeq (gDrop (fCall d_check_road (aCons (fVar 0) (aCons (fVar 1) aNil))))
  (gRet (fCall d_find_standing (aCons (fVar 0) (aCons (fVar 1) aNil)))))
abbrev d_standing : List R → Rs R := denB 2 g_standing

def count_pieces_c1 : Ev → Rs R := fLc [1] (fSeq (fOp opIx (fVar 0) (fC (.int 3)))) (tName 1) fYes (fOp opAdd (fBi biLen (fCons (fOp opIx (fVar 1) (fC (.int 3))) fNil)) (fC (.int 1)))
def g_count_pieces : Ev → RO := (gSeq (gDrop (fCall d_check_net (aCons (fVar 0) aNil)))
  (gRet count_pieces_c1))
abbrev d_count_pieces : List R → Rs R := denB 2 g_count_pieces

def pieces_c1 : Ev → Rs R := fLc [4] (fSeq (fOp opAdd (fTup (fCons (fVar 2) fNil)) (fOp opIx (fOp opIx (fOp opIx (fVar 0) (fC (.int 3))) (fVar 1)) (fC (.int 3))))) (tName 4) fYes (fIf (fTest (fOp opGt (fVar 4) (fC (.int 0)))) (fVar 4) (fVar 3))
def g_pieces : Ev → RO := (gSeq (gAsgF 3 (fCall d_find_standing (aCons (fVar 0) (aCons (fVar 1) aNil))))
  (gRet pieces_c1))
abbrev d_pieces : List R → Rs R := denB 5 g_pieces

def g_leave : Ev → RO := (gSeq (gAsgF 3 (fOp opIx (fOp opIx (fOp opIx (fVar 0) (fC (.int 3))) (fVar 1)) (fC (.int 3))))
  (gRet (fIf (fTest (fOp opNe (fVar 3) (fTup fNil))) (fOp opIx (fVar 3) (fUn opNeg (fC (.int 1)))) (fVar 2))))
abbrev d_leave : List R → Rs R := denB 4 g_leave

def g_go_over : Ev → RO := (gRet (fIf (fTest (fOp opEq (fOp opIx (fVar 0) (fC (.int 2))) (fC (.int 1)))) (fVar 1) (fC (.int 0))))
abbrev d_go_over : List R → Rs R := denB 2 g_go_over

def g_check_way : Ev → RO := (gSeq (gDrop (fCall d_check_net (aCons (fVar 0) aNil)))
  (gIf (fNot (fTest (fCall d_has_way (aCons (fVar 0) (aCons (fVar 1) aNil))))) (fun ρ => .exc "InvalidWay" ρ) gNext))
abbrev d_check_way : List R → Rs R := denB 2 g_check_way

def find_limits_b1 : Ev → RO := (gSeq (gAsgF 2 (fIf (fTest (fOp opGt (fVar 4) (fC (.int 0)))) (fCall d_go_over (aCons (fVar 0) (aCons (fVar 2) aNil))) (fC (.int 0))))
  (gSeq (gApp 3 (fCall d_pieces (aCons (fVar 0) (aCons (fVar 5) (aCons (fVar 2) aNil)))))
  (gAsgF 2 (fCall d_leave (aCons (fVar 0) (aCons (fVar 5) (aCons (fVar 2) aNil)))))))
def g_find_limits : Ev → RO := (gSeq (gPar 2 3 false true (fC (.int 0)) (fLst fNil))
  (gSeq (gFor (fEnum (fVar 1)) (tTupl (tsCons (tName 4) (tsCons (tName 5) tsNil))) find_limits_b1)
  (fun ρ => (gRet (fTup (fCons (fVar 3) (fCons (fVar 2) fNil)))) (frzAt 3 ρ))))
abbrev d_find_limits : List R → Rs R := denB 6 g_find_limits

def g_limits : Ev → RO := (gSeq (gDrop (fCall d_check_way (aCons (fVar 0) (aCons (fVar 1) aNil))))
  (gRet (fOp opIx (fCall d_find_limits (aCons (fVar 0) (aCons (fVar 1) aNil))) (fC (.int 0)))))
abbrev d_limits : List R → Rs R := denB 2 g_limits

def g_state_after : Ev → RO := (gSeq (gDrop (fCall d_check_way (aCons (fVar 0) (aCons (fVar 1) aNil))))
  (gRet (fOp opIx (fCall d_find_limits (aCons (fVar 0) (aCons (fVar 1) aNil))) (fC (.int 1)))))
abbrev d_state_after : List R → Rs R := denB 2 g_state_after

def flat_c1 : Ev → Rs R := fLc2 [2, 3] [3] (fSeq (fOp opIx (fCall d_find_limits (aCons (fVar 0) (aCons (fVar 1) aNil))) (fC (.int 0)))) (tName 2) fYes (fSeq (fVar 2)) (tName 3) fYes (fVar 3)
def g_flat : Ev → RO := (gRet flat_c1)
abbrev d_flat : List R → Rs R := denB 4 g_flat

def changes_c1 : Ev → Rs R := fLc [3, 4] (fZip (fVar 2) (fSl (fVar 2) (fPart (fC (.int 1))) fNo)) (tTupl (tsCons (tName 3) (tsCons (tName 4) tsNil))) (fTest (fOp opNe (fVar 3) (fVar 4))) (fC (.int 1))
def g_changes : Ev → RO := (gSeq (gDrop (fCall d_check_way (aCons (fVar 0) (aCons (fVar 1) aNil))))
  (gSeq (gAsgF 2 (fCall d_flat (aCons (fVar 0) (aCons (fVar 1) aNil))))
  (gRet (fBi biLen (fCons changes_c1 fNil)))))
abbrev d_changes : List R → Rs R := denB 5 g_changes

def g_least_limit : Ev → RO := (gSeq (gDrop (fCall d_check_way (aCons (fVar 0) (aCons (fVar 1) aNil))))
  (gRet (fBi biMin (fCons (fCall d_flat (aCons (fVar 0) (aCons (fVar 1) aNil))) fNil))))
abbrev d_least_limit : List R → Rs R := denB 2 g_least_limit

def g_set_signs : Ev → RO := (gSeq (gAsgF 3 (fOp opIx (fVar 0) (fC (.int 3))))
  (gSeq (gAsgF 4 (fOp opAdd (fSl (fOp opIx (fVar 3) (fVar 1)) fNo (fPart (fC (.int 3)))) (fTup (fCons (fVar 2) fNil))))
  (gRet (fOp opAdd (fSl (fVar 0) fNo (fPart (fC (.int 3)))) (fTup (fCons (fOp opAdd (fOp opAdd (fSl (fVar 3) fNo (fPart (fVar 1))) (fTup (fCons (fVar 4) fNil))) (fSl (fVar 3) (fPart (fOp opAdd (fVar 1) (fC (.int 1)))) fNo)) fNil))))))
abbrev d_set_signs : List R → Rs R := denB 5 g_set_signs

def g_drop : Ev → RO := (gSeq (gAsgF 3 (fOp opIx (fOp opIx (fOp opIx (fVar 0) (fC (.int 3))) (fVar 1)) (fC (.int 3))))
  (gRet (fCall d_set_signs (aCons (fVar 0) (aCons (fVar 1) (aCons (fOp opAdd (fSl (fVar 3) fNo (fPart (fVar 2))) (fSl (fVar 3) (fPart (fOp opAdd (fVar 2) (fC (.int 1)))) fNo)) aNil))))))
abbrev d_drop : List R → Rs R := denB 4 g_drop

def g_without_sign : Ev → RO := (gSeq (gDrop (fCall d_check_road (aCons (fVar 0) (aCons (fVar 1) aNil))))
  (gSeq (gIf (fNot (fTest (fCall d_is_int (aCons (fVar 2) (aCons (fC (.int 0)) (aCons (fOp opSub (fBi biLen (fCons (fOp opIx (fOp opIx (fOp opIx (fVar 0) (fC (.int 3))) (fVar 1)) (fC (.int 3))) fNil)) (fC (.int 1))) aNil)))))) (fun ρ => .exc "InvalidIndex" ρ) gNext)
  (gRet (fCall d_drop (aCons (fVar 0) (aCons (fVar 1) (aCons (fVar 2) aNil)))))))
abbrev d_without_sign : List R → Rs R := denB 3 g_without_sign

def g_with_sign : Ev → RO := (gSeq (gDrop (fCall d_check_road (aCons (fVar 0) (aCons (fVar 1) aNil))))
  (gSeq (gAsgF 4 (fOp opIx (fOp opIx (fOp opIx (fVar 0) (fC (.int 3))) (fVar 1)) (fC (.int 3))))
  (gSeq (gIf (fNot (fTest (fCall d_is_int (aCons (fVar 2) (aCons (fC (.int 0)) (aCons (fBi biLen (fCons (fVar 4) fNil)) aNil)))))) (fun ρ => .exc "InvalidIndex" ρ) gNext)
  (gSeq (gIf (fNot (fTest (fCall d_is_int (aCons (fVar 3) (aCons (fC (.int 0)) (aCons (fC (.int 13)) aNil)))))) (fun ρ => .exc "InvalidSign" ρ) gNext)
  (gSeq (gIf (fTest (fOp opGe (fBi biLen (fCons (fVar 4) fNil)) (fC (.int 3)))) (fun ρ => .exc "TooMany" ρ) gNext)
  (gRet (fCall d_set_signs (aCons (fVar 0) (aCons (fVar 1) (aCons (fOp opAdd (fOp opAdd (fSl (fVar 4) fNo (fPart (fVar 2))) (fTup (fCons (fVar 3) fNil))) (fSl (fVar 4) (fPart (fVar 2)) fNo)) aNil))))))))))
abbrev d_with_sign : List R → Rs R := denB 5 g_with_sign

def pairs_of_c1 : Ev → Rs R := fLc [5] (fRg1 (fBi biLen (fCons (fOp opIx (fVar 0) (fC (.int 3))) fNil))) (tName 5) fYes (fTup (fCons (fVar 5) (fCons (fC (.int 0)) (fCons (fC (.int 0)) fNil))))
def pairs_of_c2 : Ev → Rs R := fLc [10] (fSeq (fCall d_find_followers (aCons (fVar 0) (aCons (fVar 5) aNil)))) (tName 10) fYes (fTup (fCons (fVar 10) (fCons (fVar 8) (fCons (fVar 9) fNil))))
def pairs_of_b1 : Ev → RO := (gIf (fTest (fDNinT 3 (fTup (fCons (fVar 5) (fCons (fVar 6) (fCons (fVar 7) fNil)))))) (gSeq (gDputT 3 (fTup (fCons (fVar 5) (fCons (fVar 6) (fCons (fVar 7) fNil)))) (fC (.bool true)))
  (gSeq (gAsgT (tTupl (tsCons (tName 8) (tsCons (tName 9) tsNil))) (fTup (fCons (fCall d_go_over (aCons (fVar 0) (aCons (fCall d_leave (aCons (fVar 0) (aCons (fVar 5) (aCons (fVar 6) aNil)))) aNil))) (fCons (fCall d_go_over (aCons (fVar 1) (aCons (fCall d_leave (aCons (fVar 1) (aCons (fVar 5) (aCons (fVar 7) aNil)))) aNil))) fNil))))
  (gExt 4 pairs_of_c2))) gNext)
def pairs_of_b2 : Ev → RO := (gSeq (gAsg 4 (fLst fNil))
  (gSeq (gFor (fSeq (fVar 2)) (tTupl (tsCons (tName 5) (tsCons (tName 6) (tsCons (tName 7) tsNil)))) pairs_of_b1)
  (fun ρ => (gAsgF 2 (fVar 4)) (frzAt 4 ρ))))
def pairs_of_t1 : Ev → Rs Bool := (fTest (fOp opNe (fVar 2) (fLst fNil)))
def g_pairs_of : Ev → RO := (gSeq (gPar 2 3 false true pairs_of_c1 fDnewT)
  (gSeq (gWhile pairs_of_t1 pairs_of_b2)
  (gRet (fSortedDT 3))))
abbrev d_pairs_of : List R → Rs R := denB 11 g_pairs_of

def does_nothing_b1 : Ev → RO := (gSeq (gAsgF 7 (fCall d_pieces (aCons (fVar 0) (aCons (fVar 4) (aCons (fVar 5) aNil)))))
  (gSeq (gIf (fAnd (fTest (fOp opEq (fVar 4) (fVar 1))) (fTest (fOp opNe (fOp opIx (fVar 7) (fVar 2)) (fOp opIx (fVar 7) (fOp opAdd (fVar 2) (fC (.int 1))))))) (gRet (fC (.bool false))) gNext)
  (gSeq (gIf (fTest (fOp opEq (fVar 4) (fVar 1))) (gAsgF 7 (fOp opAdd (fSl (fVar 7) fNo (fPart (fVar 2))) (fSl (fVar 7) (fPart (fOp opAdd (fVar 2) (fC (.int 1)))) fNo))) gNext)
  (gIf (fTest (fOp opNe (fVar 7) (fCall d_pieces (aCons (fVar 3) (aCons (fVar 4) (aCons (fVar 6) aNil)))))) (gRet (fC (.bool false))) gNext))))
def g_does_nothing : Ev → RO := (gSeq (gAsgF 3 (fCall d_drop (aCons (fVar 0) (aCons (fVar 1) (aCons (fVar 2) aNil)))))
  (gSeq (gFor (fSeq (fCall d_pairs_of (aCons (fVar 0) (aCons (fVar 3) aNil)))) (tTupl (tsCons (tName 4) (tsCons (tName 5) (tsCons (tName 6) tsNil)))) does_nothing_b1)
  (gRet (fC (.bool true)))))
abbrev d_does_nothing : List R → Rs R := denB 8 g_does_nothing

def g_is_idle : Ev → RO := (gSeq (gDrop (fCall d_check_road (aCons (fVar 0) (aCons (fVar 1) aNil))))
  (gSeq (gIf (fNot (fTest (fCall d_is_int (aCons (fVar 2) (aCons (fC (.int 0)) (aCons (fOp opSub (fBi biLen (fCons (fOp opIx (fOp opIx (fOp opIx (fVar 0) (fC (.int 3))) (fVar 1)) (fC (.int 3))) fNil)) (fC (.int 1))) aNil)))))) (fun ρ => .exc "InvalidIndex" ρ) gNext)
  (gRet (fCall d_does_nothing (aCons (fVar 0) (aCons (fVar 1) (aCons (fVar 2) aNil)))))))
abbrev d_is_idle : List R → Rs R := denB 3 g_is_idle

def find_idle_c1 : Ev → Rs R := fLc [4] (fRg1 (fBi biLen (fCons (fOp opIx (fVar 3) (fC (.int 3))) fNil))) (tName 4) (fTest (fCall d_does_nothing (aCons (fVar 0) (aCons (fVar 2) (aCons (fVar 4) aNil))))) (fTup (fCons (fVar 2) (fCons (fVar 4) fNil)))
def find_idle_b1 : Ev → RO := (gExt 1 find_idle_c1)
def g_find_idle : Ev → RO := (gSeq (gAsg 1 (fLst fNil))
  (gSeq (gFor (fEnum (fOp opIx (fVar 0) (fC (.int 3)))) (tTupl (tsCons (tName 2) (tsCons (tName 3) tsNil))) find_idle_b1)
  (gRetV 1)))
abbrev d_find_idle : List R → Rs R := denB 5 g_find_idle

def g_idle_signs : Ev → RO := (gSeq (gDrop (fCall d_check_net (aCons (fVar 0) aNil)))
  (gRet (fCall d_find_idle (aCons (fVar 0) aNil))))
abbrev d_idle_signs : List R → Rs R := denB 1 g_idle_signs

def shape_c1 : Ev → Rs R := fLc [1, 2, 3, 4] (fSeq (fOp opIx (fVar 0) (fC (.int 3)))) (tTupl (tsCons (tName 1) (tsCons (tName 2) (tsCons (tName 3) (tsCons (tName 4) tsNil))))) fYes (fTup (fCons (fVar 1) (fCons (fVar 2) (fCons (fBi biLen (fCons (fVar 4) fNil)) fNil))))
def g_shape : Ev → RO := (gRet shape_c1)
abbrev d_shape : List R → Rs R := denB 5 g_shape

def g_check_two : Ev → RO := (gSeq (gDrop (fCall d_check_net (aCons (fVar 0) aNil)))
  (gDrop (fCall d_check_net (aCons (fVar 1) aNil))))
abbrev d_check_two : List R → Rs R := denB 2 g_check_two

def g_same_shape : Ev → RO := (gSeq (gDrop (fCall d_check_two (aCons (fVar 0) (aCons (fVar 1) aNil))))
  (gRet (fOp opEq (fCall d_shape (aCons (fVar 0) aNil)) (fCall d_shape (aCons (fVar 1) aNil)))))
abbrev d_same_shape : List R → Rs R := denB 2 g_same_shape

def find_parting_c1 : Ev → Rs R := fLc [8] (fRg1 (fBi biLen (fCons (fOp opIx (fVar 0) (fC (.int 3))) fNil))) (tName 8) fYes (fTup (fCons (fTup (fCons (fVar 8) fNil)) (fCons (fC (.int 0)) (fCons (fC (.int 0)) fNil))))
def find_parting_c2 : Ev → Rs R := fLc [11] (fSeq (fCall d_find_followers (aCons (fVar 0) (aCons (fVar 8) aNil)))) (tName 11) fYes (fTup (fCons (fOp opAdd (fVar 5) (fTup (fCons (fVar 11) fNil))) (fCons (fVar 9) (fCons (fVar 10) fNil))))
def find_parting_b1 : Ev → RO := (gSeq (gAsgF 8 (fOp opIx (fVar 5) (fUn opNeg (fC (.int 1)))))
  (gSeq (gIf (fTest (fOp opNe (fCall d_pieces (aCons (fVar 0) (aCons (fVar 8) (aCons (fVar 6) aNil)))) (fCall d_pieces (aCons (fVar 1) (aCons (fVar 8) (aCons (fVar 7) aNil)))))) (gRetV 5) gNext)
  (gIf (fTest (fDNinT 3 (fTup (fCons (fVar 8) (fCons (fVar 6) (fCons (fVar 7) fNil)))))) (gSeq (gDputT 3 (fTup (fCons (fVar 8) (fCons (fVar 6) (fCons (fVar 7) fNil)))) (fC (.bool true)))
  (gSeq (gAsgT (tTupl (tsCons (tName 9) (tsCons (tName 10) tsNil))) (fTup (fCons (fCall d_go_over (aCons (fVar 0) (aCons (fCall d_leave (aCons (fVar 0) (aCons (fVar 8) (aCons (fVar 6) aNil)))) aNil))) (fCons (fCall d_go_over (aCons (fVar 1) (aCons (fCall d_leave (aCons (fVar 1) (aCons (fVar 8) (aCons (fVar 7) aNil)))) aNil))) fNil))))
  (gExt 4 find_parting_c2))) gNext)))
def find_parting_b2 : Ev → RO := (gSeq (gAsg 4 (fLst fNil))
  (gSeq (gFor (fSeq (fVar 2)) (tTupl (tsCons (tName 5) (tsCons (tName 6) (tsCons (tName 7) tsNil)))) find_parting_b1)
  (fun ρ => (gAsgF 2 (fVar 4)) (frzAt 4 ρ))))
def find_parting_t1 : Ev → Rs Bool := (fTest (fOp opNe (fVar 2) (fLst fNil)))
def g_find_parting : Ev → RO := (gSeq (gDrop (fCall d_check_two (aCons (fVar 0) (aCons (fVar 1) aNil))))
  (gSeq (gIf (fTest (fOp opNe (fCall d_shape (aCons (fVar 0) aNil)) (fCall d_shape (aCons (fVar 1) aNil)))) (fun ρ => .exc "OtherShape" ρ) gNext)
  (gSeq (gPar 2 3 false true find_parting_c1 fDnewT)
  (gSeq (gWhile find_parting_t1 find_parting_b2)
  (gRet (fC .none))))))
abbrev d_find_parting : List R → Rs R := denB 12 g_find_parting

def g_same_limits : Ev → RO := (gRet (fOp opIs (fCall d_find_parting (aCons (fVar 0) (aCons (fVar 1) aNil))) (fC .none)))
abbrev d_same_limits : List R → Rs R := denB 2 g_same_limits

def g_parting_way : Ev → RO := (gRet (fCall d_find_parting (aCons (fVar 0) (aCons (fVar 1) aNil))))
abbrev d_parting_way : List R → Rs R := denB 2 g_parting_way

def most_idle_b1 : Ev → RO := (gSeq (gAsgF 0 (fCall d_drop (aCons (fVar 0) (aCons (fOp opIx (fOp opIx (fVar 1) (fC (.int 0))) (fC (.int 0))) (aCons (fOp opIx (fOp opIx (fVar 1) (fC (.int 0))) (fC (.int 1))) aNil)))))
  (gAsgF 1 (fCall d_find_idle (aCons (fVar 0) aNil))))
def most_idle_t1 : Ev → Rs Bool := (fTest (fOp opNe (fVar 1) (fLst fNil)))
def g_most_idle : Ev → RO := (gSeq (gDrop (fCall d_check_net (aCons (fVar 0) aNil)))
  (gSeq (gAsgF 1 (fCall d_find_idle (aCons (fVar 0) aNil)))
  (gSeq (gWhile most_idle_t1 most_idle_b1)
  (gRetV 0))))
abbrev d_most_idle : List R → Rs R := denB 2 g_most_idle

def find_places_c1 : Ev → Rs R := fLc [4] (fRg1 (fBi biLen (fCons (fOp opIx (fVar 0) (fC (.int 3))) fNil))) (tName 4) fYes (fTup (fCons (fVar 4) (fCons (fC (.int 0)) fNil)))
def find_places_c2 : Ev → Rs R := fLc [7] (fSeq (fCall d_find_followers (aCons (fVar 0) (aCons (fVar 4) aNil)))) (tName 7) fYes (fTup (fCons (fVar 7) (fCons (fVar 6) fNil)))
def find_places_b1 : Ev → RO := (gIf (fTest (fDNinT 2 (fTup (fCons (fVar 4) (fCons (fVar 5) fNil))))) (gSeq (gDputT 2 (fTup (fCons (fVar 4) (fCons (fVar 5) fNil))) (fC (.bool true)))
  (gSeq (gAsgF 6 (fCall d_go_over (aCons (fVar 0) (aCons (fCall d_leave (aCons (fVar 0) (aCons (fVar 4) (aCons (fVar 5) aNil)))) aNil))))
  (gExt 3 find_places_c2))) gNext)
def find_places_b2 : Ev → RO := (gSeq (gAsg 3 (fLst fNil))
  (gSeq (gFor (fSeq (fVar 1)) (tTupl (tsCons (tName 4) (tsCons (tName 5) tsNil))) find_places_b1)
  (fun ρ => (gAsgF 1 (fVar 3)) (frzAt 3 ρ))))
def find_places_t1 : Ev → Rs Bool := (fTest (fOp opNe (fVar 1) (fLst fNil)))
def g_find_places : Ev → RO := (gSeq (gAsgF 1 find_places_c1)
  (gSeq (gAsg 2 fDnewT)
  (gSeq (gWhile find_places_t1 find_places_b2)
  (gRet (fSortedDT 2)))))
abbrev d_find_places : List R → Rs R := denB 8 g_find_places

def find_states_c1 : Ev → Rs R := fLc [2, 3] (fSeq (fCall d_find_places (aCons (fVar 0) aNil))) (tTupl (tsCons (tName 2) (tsCons (tName 3) tsNil))) (fTest (fOp opEq (fVar 2) (fVar 1))) (fVar 3)
def g_find_states : Ev → RO := (gRet find_states_c1)
abbrev d_find_states : List R → Rs R := denB 4 g_find_states

def g_states_at : Ev → RO := (gSeq (gDrop (fCall d_check_road (aCons (fVar 0) (aCons (fVar 1) aNil))))
  (gRet (fCall d_find_states (aCons (fVar 0) (aCons (fVar 1) aNil)))))
abbrev d_states_at : List R → Rs R := denB 2 g_states_at

def find_possible_c1 : Ev → Rs R := fLc [3] (fSeq (fCall d_find_states (aCons (fVar 0) (aCons (fVar 1) aNil)))) (tName 3) fYes (fOp opIx (fCall d_pieces (aCons (fVar 0) (aCons (fVar 1) (aCons (fVar 3) aNil)))) (fVar 2))
def g_find_possible : Ev → RO := (gRet (fUn setSortedD find_possible_c1))
abbrev d_find_possible : List R → Rs R := denB 4 g_find_possible

def g_possible : Ev → RO := (gSeq (gDrop (fCall d_check_road (aCons (fVar 0) (aCons (fVar 1) aNil))))
  (gSeq (gIf (fNot (fTest (fCall d_is_int (aCons (fVar 2) (aCons (fC (.int 0)) (aCons (fBi biLen (fCons (fOp opIx (fOp opIx (fOp opIx (fVar 0) (fC (.int 3))) (fVar 1)) (fC (.int 3))) fNil)) aNil)))))) (fun ρ => .exc "InvalidPiece" ρ) gNext)
  (gRet (fCall d_find_possible (aCons (fVar 0) (aCons (fVar 1) (aCons (fVar 2) aNil)))))))
abbrev d_possible : List R → Rs R := denB 3 g_possible

def find_unclear_c1 : Ev → Rs R := fLc [1] (fRg1 (fBi biLen (fCons (fOp opIx (fVar 0) (fC (.int 3))) fNil))) (tName 1) (fTest (fOp opGt (fBi biLen (fCons (fCall d_find_possible (aCons (fVar 0) (aCons (fVar 1) (aCons (fC (.int 0)) aNil)))) fNil)) (fC (.int 1)))) (fVar 1)
def g_find_unclear : Ev → RO := (gRet find_unclear_c1)
abbrev d_find_unclear : List R → Rs R := denB 2 g_find_unclear

def g_unclear : Ev → RO := (gSeq (gDrop (fCall d_check_net (aCons (fVar 0) aNil)))
  (gRet (fCall d_find_unclear (aCons (fVar 0) aNil))))
abbrev d_unclear : List R → Rs R := denB 1 g_unclear

def g_is_clear : Ev → RO := (gSeq (gDrop (fCall d_check_net (aCons (fVar 0) aNil)))
  (gRet (fOp opEq (fCall d_find_unclear (aCons (fVar 0) aNil)) (fLst fNil))))
abbrev d_is_clear : List R → Rs R := denB 1 g_is_clear

def find_shortest_c1 : Ev → Rs R := fLc [9] (fRg1 (fBi biLen (fCons (fOp opIx (fVar 0) (fC (.int 3))) fNil))) (tName 9) fYes (fTup (fCons (fTup (fCons (fVar 9) fNil)) (fCons (fC (.int 0)) fNil)))
def find_shortest_c2 : Ev → Rs R := fLc [10] (fSeq (fCall d_find_followers (aCons (fVar 0) (aCons (fOp opIx (fVar 6) (fUn opNeg (fC (.int 1)))) aNil)))) (tName 10) fYes (fTup (fCons (fOp opAdd (fVar 6) (fTup (fCons (fVar 10) fNil))) (fCons (fVar 8) fNil)))
def find_shortest_b1 : Ev → RO := (gSeq (gIf (fAnd (fTest (fOp opEq (fOp opIx (fVar 6) (fUn opNeg (fC (.int 1)))) (fVar 1))) (fTest (fOp opEq (fOp opIx (fCall d_pieces (aCons (fVar 0) (aCons (fVar 1) (aCons (fVar 7) aNil)))) (fC (.int 0))) (fVar 2)))) (gRetV 6) gNext)
  (gIf (fTest (fDNinT 4 (fTup (fCons (fOp opIx (fVar 6) (fUn opNeg (fC (.int 1)))) (fCons (fVar 7) fNil))))) (gSeq (gDputT 4 (fTup (fCons (fOp opIx (fVar 6) (fUn opNeg (fC (.int 1)))) (fCons (fVar 7) fNil))) (fC (.bool true)))
  (gSeq (gAsgF 8 (fCall d_go_over (aCons (fVar 0) (aCons (fCall d_leave (aCons (fVar 0) (aCons (fOp opIx (fVar 6) (fUn opNeg (fC (.int 1)))) (aCons (fVar 7) aNil)))) aNil))))
  (gExt 5 find_shortest_c2))) gNext))
def find_shortest_b2 : Ev → RO := (gSeq (gAsg 5 (fLst fNil))
  (gSeq (gFor (fSeq (fVar 3)) (tTupl (tsCons (tName 6) (tsCons (tName 7) tsNil))) find_shortest_b1)
  (fun ρ => (gAsgF 3 (fVar 5)) (frzAt 5 ρ))))
def find_shortest_t1 : Ev → Rs Bool := (fTest (fOp opNe (fVar 3) (fLst fNil)))
def g_find_shortest : Ev → RO := (gSeq (gPar 3 4 false true find_shortest_c1 fDnewT)
  (gSeq (gWhile find_shortest_t1 find_shortest_b2)
  (gRet (fC .none))))
abbrev d_find_shortest : List R → Rs R := denB 11 g_find_shortest

def g_shortest_with : Ev → RO := (gSeq (gDrop (fCall d_check_road (aCons (fVar 0) (aCons (fVar 1) aNil))))
  (gSeq (gIf (fNot (fTest (fCall d_is_int (aCons (fVar 2) (aCons (fC (.int 1)) (aCons (fC (.int 13)) aNil)))))) (fun ρ => .exc "InvalidLimit" ρ) gNext)
  (gRet (fCall d_find_shortest (aCons (fVar 0) (aCons (fVar 1) (aCons (fVar 2) aNil)))))))
abbrev d_shortest_with : List R → Rs R := denB 3 g_shortest_with

def g_witnesses : Ev → RO := (gSeq (gDrop (fCall d_check_road (aCons (fVar 0) (aCons (fVar 1) aNil))))
  (gSeq (gAsgF 2 (fCall d_find_possible (aCons (fVar 0) (aCons (fVar 1) (aCons (fC (.int 0)) aNil)))))
  (gSeq (gIf (fTest (fOp opEq (fBi biLen (fCons (fVar 2) fNil)) (fC (.int 1)))) (gRet (fC .none)) gNext)
  (gRet (fTup (fCons (fCall d_find_shortest (aCons (fVar 0) (aCons (fVar 1) (aCons (fOp opIx (fVar 2) (fC (.int 0))) aNil)))) (fCons (fCall d_find_shortest (aCons (fVar 0) (aCons (fVar 1) (aCons (fOp opIx (fVar 2) (fUn opNeg (fC (.int 1)))) aNil)))) fNil)))))))
abbrev d_witnesses : List R → Rs R := denB 3 g_witnesses

def farthest_b1 : Ev → RO := (gIf (fOr (fTest (fOp opEq (fVar 3) (fC (.int 0)))) (fTest (fOp opEq (fOp opIx (fOp opIx (fOp opIx (fVar 0) (fC (.int 3))) (fVar 5)) (fC (.int 3))) (fTup fNil)))) (gExt 4 (fCall d_find_followers (aCons (fVar 0) (aCons (fVar 5) aNil)))) gNext)
def farthest_b2 : Ev → RO := (gSeq (gAsg 4 (fLst fNil))
  (gSeq (gFor (fSeq (fVar 2)) (tName 5) farthest_b1)
  (gSeq (fun ρ => (gAsgF 2 (fUn setSortedD (fVar 4))) (frzAt 4 ρ))
  (gAsgF 3 (fOp opAdd (fVar 3) (fIf (fTest (fOp opNe (fVar 2) (fLst fNil))) (fC (.int 1)) (fC (.int 0))))))))
def farthest_t1 : Ev → Rs Bool := (fAnd (fTest (fOp opNe (fVar 2) (fLst fNil))) (fTest (fOp opLe (fVar 3) (fBi biLen (fCons (fOp opIx (fVar 0) (fC (.int 3))) fNil)))))
def g_farthest : Ev → RO := (gSeq (gDrop (fCall d_check_road (aCons (fVar 0) (aCons (fVar 1) aNil))))
  (gSeq (gIf (fOr (fTest (fOp opEq (fOp opIx (fVar 0) (fC (.int 2))) (fC (.int 0)))) (fTest (fOp opEq (fCall d_leave (aCons (fVar 0) (aCons (fVar 1) (aCons (fC (.int 0)) aNil)))) (fC (.int 0))))) (gRet (fC (.int 0))) gNext)
  (gSeq (gPar 2 3 false false (fLst (fCons (fVar 1) fNil)) (fC (.int 0)))
  (gSeq (gWhile farthest_t1 farthest_b2)
  (gRet (fIf (fTest (fOp opEq (fVar 2) (fLst fNil))) (fVar 3) (fC .none)))))))
abbrev d_farthest : List R → Rs R := denB 6 g_farthest

def g_l_class (c : Str) (a : Addr) : Ev → RO := (gSeq (gAsg 1 (fLst (fCons (fIsE a 0 (decide (c = ("InvalidNet" : Str)))) (fCons (fIsE a 0 (decide (c = ("InvalidRoad" : Str)))) fNil))))
  (gSeq (gExt 1 (fLst (fCons (fIsE a 0 (decide (c = ("InvalidWay" : Str)))) (fCons (fIsE a 0 (decide (c = ("InvalidPiece" : Str)))) fNil))))
  (gSeq (gExt 1 (fLst (fCons (fIsE a 0 (decide (c = ("InvalidLimit" : Str)))) (fCons (fIsE a 0 (decide (c = ("InvalidIndex" : Str)))) fNil))))
  (gSeq (gExt 1 (fLst (fCons (fIsE a 0 (decide (c = ("InvalidSign" : Str)))) (fCons (fIsE a 0 (decide (c = ("TooMany" : Str)))) fNil))))
  (gSeq (gExt 1 (fLst (fCons (fIsE a 0 (decide (c = ("OtherShape" : Str)))) fNil)))
  (gSeq (gIf (fOr (fTest (fOp opNe (fCntO 1) (fC (.int 1)))) (fNot (fTest (fIsE a 0 true)))) (gRet (fC (.str "wrong"))) gNext)
  (gSeq (gAsg 2 (fLst (fCons (fC (.str "InvalidNet")) (fCons (fC (.str "InvalidRoad")) (fCons (fC (.str "InvalidWay")) (fCons (fC (.str "InvalidPiece")) (fCons (fC (.str "InvalidLimit")) fNil)))))))
  (gSeq (gExt 2 (fLst (fCons (fC (.str "InvalidIndex")) (fCons (fC (.str "InvalidSign")) (fCons (fC (.str "TooMany")) (fCons (fC (.str "OtherShape")) fNil))))))
  (gRet (fOix 2 (fIdxO 1)))))))))))
theorem hcl_InvalidIndex (a : Addr) : g_l_class "InvalidIndex" a [some (.raw (.ref a)), none, none] = .ret (.val (.str "InvalidIndex")) := by
  have h0 : decide (("InvalidIndex" : Str) = ("InvalidNet" : Str)) = false := by decide
  have h1 : decide (("InvalidIndex" : Str) = ("InvalidRoad" : Str)) = false := by decide
  have h2 : decide (("InvalidIndex" : Str) = ("InvalidWay" : Str)) = false := by decide
  have h3 : decide (("InvalidIndex" : Str) = ("InvalidPiece" : Str)) = false := by decide
  have h4 : decide (("InvalidIndex" : Str) = ("InvalidLimit" : Str)) = false := by decide
  have h5 : decide (("InvalidIndex" : Str) = ("InvalidIndex" : Str)) = true := by decide
  have h6 : decide (("InvalidIndex" : Str) = ("InvalidSign" : Str)) = false := by decide
  have h7 : decide (("InvalidIndex" : Str) = ("TooMany" : Str)) = false := by decide
  have h8 : decide (("InvalidIndex" : Str) = ("OtherShape" : Str)) = false := by decide
  unfold g_l_class
  rw [h0, h1, h2, h3, h4, h5, h6, h7, h8]
  simp [gSeq, gIf, gRet, asBs, DN.lim, opIx, onR, List.findIdx?, List.findIdx?.go, atI, ixN]
theorem hcl_InvalidLimit (a : Addr) : g_l_class "InvalidLimit" a [some (.raw (.ref a)), none, none] = .ret (.val (.str "InvalidLimit")) := by
  have h0 : decide (("InvalidLimit" : Str) = ("InvalidNet" : Str)) = false := by decide
  have h1 : decide (("InvalidLimit" : Str) = ("InvalidRoad" : Str)) = false := by decide
  have h2 : decide (("InvalidLimit" : Str) = ("InvalidWay" : Str)) = false := by decide
  have h3 : decide (("InvalidLimit" : Str) = ("InvalidPiece" : Str)) = false := by decide
  have h4 : decide (("InvalidLimit" : Str) = ("InvalidLimit" : Str)) = true := by decide
  have h5 : decide (("InvalidLimit" : Str) = ("InvalidIndex" : Str)) = false := by decide
  have h6 : decide (("InvalidLimit" : Str) = ("InvalidSign" : Str)) = false := by decide
  have h7 : decide (("InvalidLimit" : Str) = ("TooMany" : Str)) = false := by decide
  have h8 : decide (("InvalidLimit" : Str) = ("OtherShape" : Str)) = false := by decide
  unfold g_l_class
  rw [h0, h1, h2, h3, h4, h5, h6, h7, h8]
  simp [gSeq, gIf, gRet, asBs, DN.lim, opIx, onR, List.findIdx?, List.findIdx?.go, atI, ixN]
theorem hcl_InvalidNet (a : Addr) : g_l_class "InvalidNet" a [some (.raw (.ref a)), none, none] = .ret (.val (.str "InvalidNet")) := by
  have h0 : decide (("InvalidNet" : Str) = ("InvalidNet" : Str)) = true := by decide
  have h1 : decide (("InvalidNet" : Str) = ("InvalidRoad" : Str)) = false := by decide
  have h2 : decide (("InvalidNet" : Str) = ("InvalidWay" : Str)) = false := by decide
  have h3 : decide (("InvalidNet" : Str) = ("InvalidPiece" : Str)) = false := by decide
  have h4 : decide (("InvalidNet" : Str) = ("InvalidLimit" : Str)) = false := by decide
  have h5 : decide (("InvalidNet" : Str) = ("InvalidIndex" : Str)) = false := by decide
  have h6 : decide (("InvalidNet" : Str) = ("InvalidSign" : Str)) = false := by decide
  have h7 : decide (("InvalidNet" : Str) = ("TooMany" : Str)) = false := by decide
  have h8 : decide (("InvalidNet" : Str) = ("OtherShape" : Str)) = false := by decide
  unfold g_l_class
  rw [h0, h1, h2, h3, h4, h5, h6, h7, h8]
  simp [gSeq, gIf, gRet, asBs, DN.lim, opIx, onR, List.findIdx?, List.findIdx?.go, atI, ixN]
theorem hcl_InvalidPiece (a : Addr) : g_l_class "InvalidPiece" a [some (.raw (.ref a)), none, none] = .ret (.val (.str "InvalidPiece")) := by
  have h0 : decide (("InvalidPiece" : Str) = ("InvalidNet" : Str)) = false := by decide
  have h1 : decide (("InvalidPiece" : Str) = ("InvalidRoad" : Str)) = false := by decide
  have h2 : decide (("InvalidPiece" : Str) = ("InvalidWay" : Str)) = false := by decide
  have h3 : decide (("InvalidPiece" : Str) = ("InvalidPiece" : Str)) = true := by decide
  have h4 : decide (("InvalidPiece" : Str) = ("InvalidLimit" : Str)) = false := by decide
  have h5 : decide (("InvalidPiece" : Str) = ("InvalidIndex" : Str)) = false := by decide
  have h6 : decide (("InvalidPiece" : Str) = ("InvalidSign" : Str)) = false := by decide
  have h7 : decide (("InvalidPiece" : Str) = ("TooMany" : Str)) = false := by decide
  have h8 : decide (("InvalidPiece" : Str) = ("OtherShape" : Str)) = false := by decide
  unfold g_l_class
  rw [h0, h1, h2, h3, h4, h5, h6, h7, h8]
  simp [gSeq, gIf, gRet, asBs, DN.lim, opIx, onR, List.findIdx?, List.findIdx?.go, atI, ixN]
theorem hcl_InvalidRoad (a : Addr) : g_l_class "InvalidRoad" a [some (.raw (.ref a)), none, none] = .ret (.val (.str "InvalidRoad")) := by
  have h0 : decide (("InvalidRoad" : Str) = ("InvalidNet" : Str)) = false := by decide
  have h1 : decide (("InvalidRoad" : Str) = ("InvalidRoad" : Str)) = true := by decide
  have h2 : decide (("InvalidRoad" : Str) = ("InvalidWay" : Str)) = false := by decide
  have h3 : decide (("InvalidRoad" : Str) = ("InvalidPiece" : Str)) = false := by decide
  have h4 : decide (("InvalidRoad" : Str) = ("InvalidLimit" : Str)) = false := by decide
  have h5 : decide (("InvalidRoad" : Str) = ("InvalidIndex" : Str)) = false := by decide
  have h6 : decide (("InvalidRoad" : Str) = ("InvalidSign" : Str)) = false := by decide
  have h7 : decide (("InvalidRoad" : Str) = ("TooMany" : Str)) = false := by decide
  have h8 : decide (("InvalidRoad" : Str) = ("OtherShape" : Str)) = false := by decide
  unfold g_l_class
  rw [h0, h1, h2, h3, h4, h5, h6, h7, h8]
  simp [gSeq, gIf, gRet, asBs, DN.lim, opIx, onR, List.findIdx?, List.findIdx?.go, atI, ixN]
theorem hcl_InvalidSign (a : Addr) : g_l_class "InvalidSign" a [some (.raw (.ref a)), none, none] = .ret (.val (.str "InvalidSign")) := by
  have h0 : decide (("InvalidSign" : Str) = ("InvalidNet" : Str)) = false := by decide
  have h1 : decide (("InvalidSign" : Str) = ("InvalidRoad" : Str)) = false := by decide
  have h2 : decide (("InvalidSign" : Str) = ("InvalidWay" : Str)) = false := by decide
  have h3 : decide (("InvalidSign" : Str) = ("InvalidPiece" : Str)) = false := by decide
  have h4 : decide (("InvalidSign" : Str) = ("InvalidLimit" : Str)) = false := by decide
  have h5 : decide (("InvalidSign" : Str) = ("InvalidIndex" : Str)) = false := by decide
  have h6 : decide (("InvalidSign" : Str) = ("InvalidSign" : Str)) = true := by decide
  have h7 : decide (("InvalidSign" : Str) = ("TooMany" : Str)) = false := by decide
  have h8 : decide (("InvalidSign" : Str) = ("OtherShape" : Str)) = false := by decide
  unfold g_l_class
  rw [h0, h1, h2, h3, h4, h5, h6, h7, h8]
  simp [gSeq, gIf, gRet, asBs, DN.lim, opIx, onR, List.findIdx?, List.findIdx?.go, atI, ixN]
theorem hcl_InvalidWay (a : Addr) : g_l_class "InvalidWay" a [some (.raw (.ref a)), none, none] = .ret (.val (.str "InvalidWay")) := by
  have h0 : decide (("InvalidWay" : Str) = ("InvalidNet" : Str)) = false := by decide
  have h1 : decide (("InvalidWay" : Str) = ("InvalidRoad" : Str)) = false := by decide
  have h2 : decide (("InvalidWay" : Str) = ("InvalidWay" : Str)) = true := by decide
  have h3 : decide (("InvalidWay" : Str) = ("InvalidPiece" : Str)) = false := by decide
  have h4 : decide (("InvalidWay" : Str) = ("InvalidLimit" : Str)) = false := by decide
  have h5 : decide (("InvalidWay" : Str) = ("InvalidIndex" : Str)) = false := by decide
  have h6 : decide (("InvalidWay" : Str) = ("InvalidSign" : Str)) = false := by decide
  have h7 : decide (("InvalidWay" : Str) = ("TooMany" : Str)) = false := by decide
  have h8 : decide (("InvalidWay" : Str) = ("OtherShape" : Str)) = false := by decide
  unfold g_l_class
  rw [h0, h1, h2, h3, h4, h5, h6, h7, h8]
  simp [gSeq, gIf, gRet, asBs, DN.lim, opIx, onR, List.findIdx?, List.findIdx?.go, atI, ixN]
theorem hcl_OtherShape (a : Addr) : g_l_class "OtherShape" a [some (.raw (.ref a)), none, none] = .ret (.val (.str "OtherShape")) := by
  have h0 : decide (("OtherShape" : Str) = ("InvalidNet" : Str)) = false := by decide
  have h1 : decide (("OtherShape" : Str) = ("InvalidRoad" : Str)) = false := by decide
  have h2 : decide (("OtherShape" : Str) = ("InvalidWay" : Str)) = false := by decide
  have h3 : decide (("OtherShape" : Str) = ("InvalidPiece" : Str)) = false := by decide
  have h4 : decide (("OtherShape" : Str) = ("InvalidLimit" : Str)) = false := by decide
  have h5 : decide (("OtherShape" : Str) = ("InvalidIndex" : Str)) = false := by decide
  have h6 : decide (("OtherShape" : Str) = ("InvalidSign" : Str)) = false := by decide
  have h7 : decide (("OtherShape" : Str) = ("TooMany" : Str)) = false := by decide
  have h8 : decide (("OtherShape" : Str) = ("OtherShape" : Str)) = true := by decide
  unfold g_l_class
  rw [h0, h1, h2, h3, h4, h5, h6, h7, h8]
  simp [gSeq, gIf, gRet, asBs, DN.lim, opIx, onR, List.findIdx?, List.findIdx?.go, atI, ixN]
theorem hcl_TooMany (a : Addr) : g_l_class "TooMany" a [some (.raw (.ref a)), none, none] = .ret (.val (.str "TooMany")) := by
  have h0 : decide (("TooMany" : Str) = ("InvalidNet" : Str)) = false := by decide
  have h1 : decide (("TooMany" : Str) = ("InvalidRoad" : Str)) = false := by decide
  have h2 : decide (("TooMany" : Str) = ("InvalidWay" : Str)) = false := by decide
  have h3 : decide (("TooMany" : Str) = ("InvalidPiece" : Str)) = false := by decide
  have h4 : decide (("TooMany" : Str) = ("InvalidLimit" : Str)) = false := by decide
  have h5 : decide (("TooMany" : Str) = ("InvalidIndex" : Str)) = false := by decide
  have h6 : decide (("TooMany" : Str) = ("InvalidSign" : Str)) = false := by decide
  have h7 : decide (("TooMany" : Str) = ("TooMany" : Str)) = true := by decide
  have h8 : decide (("TooMany" : Str) = ("OtherShape" : Str)) = false := by decide
  unfold g_l_class
  rw [h0, h1, h2, h3, h4, h5, h6, h7, h8]
  simp [gSeq, gIf, gRet, asBs, DN.lim, opIx, onR, List.findIdx?, List.findIdx?.go, atI, ixN]
theorem hcl : ∀ c ∈ knownX, ∀ a, g_l_class c a [some (.raw (.ref a)), none, none] = .ret (.val (.str c)) := by
  intro c hc a
  simp only [knownX, List.mem_cons, List.not_mem_nil, or_false] at hc
  rcases hc with rfl | rfl | rfl | rfl | rfl | rfl | rfl | rfl | rfl
  · exact hcl_InvalidIndex a
  · exact hcl_InvalidLimit a
  · exact hcl_InvalidNet a
  · exact hcl_InvalidPiece a
  · exact hcl_InvalidRoad a
  · exact hcl_InvalidSign a
  · exact hcl_InvalidWay a
  · exact hcl_OtherShape a
  · exact hcl_TooMany a
theorem shp : ∀ c ∈ knownX, SeqAt.shaped (.tuple [.str "error", .str c]) = true := by
  intro c hc
  simp only [knownX, List.mem_cons, List.not_mem_nil, or_false] at hc
  rcases hc with rfl | rfl | rfl | rfl | rfl | rfl | rfl | rfl | rfl <;> decide +kernel



def l_pick_b1 : Ev → RO := (gPar 4 5 false false (fOp opDiv (fVar 4) (fC (.int 840))) (fOp opSub (fVar 5) (fC (.int 1))))
def l_pick_t1 : Ev → Rs Bool := (fAnd (fTest (fOp opGt (fVar 4) (fC (.int 0)))) (fTest (fOp opGt (fVar 5) (fC (.int 0)))))
def g_l_pick : Ev → RO := (gSeq (gAsgF 3 (fIf (fSne 0) (fSix 0 (fOp opMod (fVar 1) (fSlen 0))) (fC (.int 0))))
  (gSeq (gPar 4 5 false false (fOp opDiv (fVar 3) (fOp opPow (fC (.int 10)) (fC (.int 18)))) (fOp opDiv (fVar 1) (fBi biMax2 (fCons (fSlen 0) (fCons (fC (.int 1)) fNil)))))
  (gSeq (gWhile l_pick_t1 l_pick_b1)
  (gSeq (gIf (fTest (fOp opGt (fVar 4) (fC (.int 0)))) (gRet (fOp opMod (fOp opMod (fVar 4) (fC (.int 840))) (fVar 2))) gNext)
  (gSeq (gAsgF 6 (fOp opMod (fOp opMulI (fOp opAdd (fOp opMulI (fVar 3) (fC (.int 31))) (fOp opMulI (fC (.int 6151)) (fOp opAdd (fVar 1) (fC (.int 1))))) (fC (.int 40692))) (fC (.int 2147483399))))
  (gRet (fOp opMod (fOp opMod (fOp opAdd (fOp opMulI (fVar 6) (fVar 6)) (fOp opDiv (fVar 6) (fC (.int 31)))) (fC (.int 2147483629))) (fVar 2))))))))
abbrev d_l_pick : List R → Rs R := denB 7 g_l_pick

def l_map_c1 : Ev → Rs R := fLc [9] (fRg1 (fCall d_l_pick (aCons (fVar 0) (aCons (fOp opAdd (fVar 6) (fC (.int 3))) (aCons (fC (.int 4)) aNil))))) (tName 9) fYes (fOp opIx (fTup (fCons (fC (.int 0)) (fCons (fVar 3) (fCons (fC (.int 7)) (fCons (fC (.int 3)) (fCons (fC (.int 0)) (fCons (fC (.int 9)) fNil))))))) (fCall d_l_pick (aCons (fVar 0) (aCons (fOp opAdd (fVar 6) (fVar 9)) (aCons (fC (.int 6)) aNil)))))
def l_map_b1 : Ev → RO := (gSeq (gAsgF 6 (fOp opAdd (fOp opAdd (fVar 1) (fC (.int 5))) (fOp opMulI (fC (.int 8)) (fVar 5))))
  (gSeq (gAsgF 7 l_map_c1)
  (gSeq (gAsgF 8 (fTup (fCons (fCall d_l_pick (aCons (fVar 0) (aCons (fOp opAdd (fVar 6) (fC (.int 4))) (aCons (fC (.int 3)) aNil)))) (fCons (fCall d_l_pick (aCons (fVar 0) (aCons (fOp opAdd (fVar 6) (fC (.int 5))) (aCons (fC (.int 3)) aNil)))) fNil))))
  (gApp 4 (fOp opAdd (fVar 8) (fTup (fCons (fCall d_l_pick (aCons (fVar 0) (aCons (fOp opAdd (fVar 6) (fC (.int 6))) (aCons (fC (.int 2)) aNil)))) (fCons (fBi biTuple (fCons (fVar 7) fNil)) fNil))))))))
def g_l_map : Ev → RO := (gSeq (gAsgF 3 (fOp opAdd (fC (.int 5)) (fCall d_l_pick (aCons (fVar 0) (aCons (fVar 1) (aCons (fC (.int 9)) aNil))))))
  (gSeq (gAsg 4 (fLst fNil))
  (gSeq (gFor (fRg1 (fOp opAdd (fC (.int 1)) (fCall d_l_pick (aCons (fVar 0) (aCons (fOp opAdd (fVar 1) (fC (.int 1))) (aCons (fVar 2) aNil)))))) (tName 5) l_map_b1)
  (fun ρ => (gRet (fTup (fCons (fVar 3) (fCons (fOp opAdd (fC (.int 1)) (fCall d_l_pick (aCons (fVar 0) (aCons (fOp opAdd (fVar 1) (fC (.int 2))) (aCons (fVar 3) aNil))))) (fCons (fIf (fTest (fOp opGt (fCall d_l_pick (aCons (fVar 0) (aCons (fOp opAdd (fVar 1) (fC (.int 3))) (aCons (fC (.int 4)) aNil)))) (fC (.int 0)))) (fC (.int 1)) (fC (.int 0))) (fCons (fBi biTuple (fCons (fVar 4) fNil)) fNil)))))) (frzAt 4 ρ)))))
abbrev d_l_map : List R → Rs R := denB 10 g_l_map

def e_l_nets_la1 : Ev → Rs R := (fCall d_is_way (aCons (fVar 0) (aCons (fC .none) aNil)))
def e_l_nets_la2 : Ev → Rs R := (fCall d_followers (aCons (fVar 0) (aCons (fUn opNeg (fC (.int 1))) aNil)))
def e_l_nets_la3 : Ev → Rs R := (fCall d_standing (aCons (fVar 0) (aCons (fUn opNeg (fC (.int 1))) aNil)))
def e_l_nets_la4 : Ev → Rs R := (fCall d_count_pieces (aCons (fVar 0) aNil))
def e_l_nets_la5 : Ev → Rs R := (fCall d_limits (aCons (fVar 0) (aCons (fC .none) aNil)))
def e_l_nets_la6 : Ev → Rs R := (fCall d_state_after (aCons (fVar 0) (aCons (fC .none) aNil)))
def e_l_nets_la7 : Ev → Rs R := (fCall d_changes (aCons (fVar 0) (aCons (fC .none) aNil)))
def e_l_nets_la8 : Ev → Rs R := (fCall d_least_limit (aCons (fVar 0) (aCons (fC .none) aNil)))
def e_l_nets_la9 : Ev → Rs R := (fCall d_states_at (aCons (fVar 0) (aCons (fUn opNeg (fC (.int 1))) aNil)))
def e_l_nets_la10 : Ev → Rs R := (fCall d_possible (aCons (fVar 0) (aCons (fUn opNeg (fC (.int 1))) (aCons (fUn opNeg (fC (.int 1))) aNil))))
def e_l_nets_la11 : Ev → Rs R := (fCall d_unclear (aCons (fVar 0) aNil))
def e_l_nets_la12 : Ev → Rs R := (fCall d_is_clear (aCons (fVar 0) aNil))
def e_l_nets_la13 : Ev → Rs R := (fCall d_shortest_with (aCons (fVar 0) (aCons (fUn opNeg (fC (.int 1))) (aCons (fC (.int 0)) aNil))))
def e_l_nets_la14 : Ev → Rs R := (fCall d_witnesses (aCons (fVar 0) (aCons (fUn opNeg (fC (.int 1))) aNil)))
def e_l_nets_la15 : Ev → Rs R := (fCall d_farthest (aCons (fVar 0) (aCons (fUn opNeg (fC (.int 1))) aNil)))
def e_l_nets_la16 : Ev → Rs R := (fCall d_without_sign (aCons (fVar 0) (aCons (fUn opNeg (fC (.int 1))) (aCons (fUn opNeg (fC (.int 1))) aNil))))
def e_l_nets_la17 : Ev → Rs R := (fCall d_with_sign (aCons (fVar 0) (aCons (fUn opNeg (fC (.int 1))) (aCons (fUn opNeg (fC (.int 1))) (aCons (fUn opNeg (fC (.int 1))) aNil)))))
def e_l_nets_la18 : Ev → Rs R := (fCall d_is_idle (aCons (fVar 0) (aCons (fUn opNeg (fC (.int 1))) (aCons (fUn opNeg (fC (.int 1))) aNil))))
def e_l_nets_la19 : Ev → Rs R := (fCall d_idle_signs (aCons (fVar 0) aNil))
def e_l_nets_la20 : Ev → Rs R := (fCall d_same_shape (aCons (fVar 0) (aCons (fC .none) aNil)))
def e_l_nets_la21 : Ev → Rs R := (fCall d_same_shape (aCons (fVar 0) (aCons (fVar 1) aNil)))
def e_l_nets_la22 : Ev → Rs R := (fCall d_same_limits (aCons (fVar 0) (aCons (fC .none) aNil)))
def e_l_nets_la23 : Ev → Rs R := (fCall d_parting_way (aCons (fVar 0) (aCons (fVar 1) aNil)))
def e_l_nets_la24 : Ev → Rs R := (fCall d_most_idle (aCons (fVar 0) aNil))
def g_l_nets : Ev → LE → RM := (gSeqM (gNewL 2 (atJ [1] e_l_nets_la1))
  (gSeqM (gAppL 2 (atJ [1] e_l_nets_la2))
  (gSeqM (gAppL 2 (atJ [1] e_l_nets_la3))
  (gSeqM (gAppL 2 (atJ [1] e_l_nets_la4))
  (gSeqM (gAppL 2 (atJ [1] e_l_nets_la5))
  (gSeqM (gAppL 2 (atJ [1] e_l_nets_la6))
  (gSeqM (gAppL 2 (atJ [1] e_l_nets_la7))
  (gSeqM (gAppL 2 (atJ [1] e_l_nets_la8))
  (gSeqM (gAppL 2 (atJ [1] e_l_nets_la9))
  (gSeqM (gAppL 2 (atJ [1] e_l_nets_la10))
  (gSeqM (gAppL 2 (atJ [1] e_l_nets_la11))
  (gSeqM (gAppL 2 (atJ [1] e_l_nets_la12))
  (gSeqM (gAppL 2 (atJ [1] e_l_nets_la13))
  (gSeqM (gAppL 2 (atJ [1] e_l_nets_la14))
  (gSeqM (gAppL 2 (atJ [1] e_l_nets_la15))
  (gSeqM (gAppL 2 (atJ [1] e_l_nets_la16))
  (gSeqM (gAppL 2 (atJ [1] e_l_nets_la17))
  (gSeqM (gAppL 2 (atJ [1] e_l_nets_la18))
  (gSeqM (gAppL 2 (atJ [1] e_l_nets_la19))
  (gSeqM (gAppL 2 (atJ [1] e_l_nets_la20))
  (gSeqM (gAppL 2 (atJ [0, 1] e_l_nets_la21))
  (gSeqM (gAppL 2 (atJ [1] e_l_nets_la22))
  (gSeqM (gAppL 2 (atJ [0, 1] e_l_nets_la23))
  (gSeqM (gAppL 2 (atJ [1] e_l_nets_la24))
  gNextM))))))))))))))))))))))))
abbrev ok1_l_nets : Str → List R → Prop := fun c rs => (g_l_nets (startE 3 rs) []).gives 2 c

def e_l_numbered_la1 : Ev → Rs R := (fCall d_followers (aCons (fVar 0) (aCons (fVar 1) aNil)))
def e_l_numbered_la2 : Ev → Rs R := (fCall d_standing (aCons (fVar 0) (aCons (fVar 1) aNil)))
def e_l_numbered_la3 : Ev → Rs R := (fCall d_states_at (aCons (fVar 0) (aCons (fVar 1) aNil)))
def e_l_numbered_la4 : Ev → Rs R := (fCall d_possible (aCons (fVar 0) (aCons (fVar 1) (aCons (fUn opNeg (fC (.int 1))) aNil))))
def e_l_numbered_la5 : Ev → Rs R := (fCall d_shortest_with (aCons (fVar 0) (aCons (fVar 1) (aCons (fC (.int 0)) aNil))))
def e_l_numbered_la6 : Ev → Rs R := (fCall d_witnesses (aCons (fVar 0) (aCons (fVar 1) aNil)))
def e_l_numbered_la7 : Ev → Rs R := (fCall d_farthest (aCons (fVar 0) (aCons (fVar 1) aNil)))
def e_l_numbered_la8 : Ev → Rs R := (fCall d_without_sign (aCons (fVar 0) (aCons (fVar 1) (aCons (fUn opNeg (fC (.int 1))) aNil))))
def e_l_numbered_la9 : Ev → Rs R := (fCall d_with_sign (aCons (fVar 0) (aCons (fVar 1) (aCons (fUn opNeg (fC (.int 1))) (aCons (fUn opNeg (fC (.int 1))) aNil)))))
def e_l_numbered_la10 : Ev → Rs R := (fCall d_is_idle (aCons (fVar 0) (aCons (fVar 1) (aCons (fUn opNeg (fC (.int 1))) aNil))))
def g_l_numbered : Ev → LE → RM := (gSeqM (gNewL 2 (atJ [0, 1] e_l_numbered_la1))
  (gSeqM (gAppL 2 (atJ [0, 1] e_l_numbered_la2))
  (gSeqM (gAppL 2 (atJ [0, 1] e_l_numbered_la3))
  (gSeqM (gAppL 2 (atJ [0, 1] e_l_numbered_la4))
  (gSeqM (gAppL 2 (atJ [0, 1] e_l_numbered_la5))
  (gSeqM (gAppL 2 (atJ [0, 1] e_l_numbered_la6))
  (gSeqM (gAppL 2 (atJ [0, 1] e_l_numbered_la7))
  (gSeqM (gAppL 2 (atJ [0, 1] e_l_numbered_la8))
  (gSeqM (gAppL 2 (atJ [0, 1] e_l_numbered_la9))
  (gSeqM (gAppL 2 (atJ [0, 1] e_l_numbered_la10))
  gNextM))))))))))
abbrev ok1_l_numbered : Str → List R → Prop := fun c rs => (g_l_numbered (startE 3 rs) []).gives 2 c

def e_l_placed_la1 : Ev → Rs R := (fCall d_without_sign (aCons (fVar 0) (aCons (fC (.int 0)) (aCons (fVar 1) aNil))))
def e_l_placed_la2 : Ev → Rs R := (fCall d_without_sign (aCons (fVar 0) (aCons (fC (.int 0)) (aCons (fUn opNeg (fC (.int 1))) aNil))))
def e_l_placed_la3 : Ev → Rs R := (fCall d_is_idle (aCons (fVar 0) (aCons (fC (.int 0)) (aCons (fVar 1) aNil))))
def e_l_placed_la4 : Ev → Rs R := (fCall d_with_sign (aCons (fVar 0) (aCons (fC (.int 0)) (aCons (fOp opAdd (fVar 1) (fC (.int 1))) (aCons (fUn opNeg (fC (.int 1))) aNil)))))
def e_l_placed_la5 : Ev → Rs R := (fCall d_with_sign (aCons (fVar 0) (aCons (fC (.int 0)) (aCons (fUn opNeg (fC (.int 1))) (aCons (fUn opNeg (fC (.int 1))) aNil)))))
def e_l_placed_la6 : Ev → Rs R := (fCall d_with_sign (aCons (fVar 0) (aCons (fC (.int 0)) (aCons (fC (.bool true)) (aCons (fUn opNeg (fC (.int 1))) aNil)))))
def e_l_placed_la7 : Ev → Rs R := (fCall d_with_sign (aCons (fVar 0) (aCons (fC (.int 0)) (aCons (fC (.int 0)) (aCons (fC (.int 14)) aNil)))))
def e_l_placed_la8 : Ev → Rs R := (fCall d_with_sign (aCons (fVar 0) (aCons (fC (.int 0)) (aCons (fC (.int 0)) (aCons (fUn opNeg (fC (.int 1))) aNil)))))
def e_l_placed_la9 : Ev → Rs R := (fCall d_with_sign (aCons (fVar 0) (aCons (fC (.int 0)) (aCons (fC (.int 0)) (aCons (fC .none) aNil)))))
def e_l_placed_la10 : Ev → Rs R := (fCall d_without_sign (aCons (fVar 0) (aCons (fC (.int 0)) (aCons (fC (.int 0)) aNil))))
def e_l_placed_la11 : Ev → Rs R := (fCall d_with_sign (aCons (fVar 0) (aCons (fC (.int 0)) (aCons (fC (.int 1)) (aCons (fC (.int 5)) aNil)))))
def g_l_placed : Ev → LE → RM := (gSeqM (gEs (gAsgF 1 (fBi biLen (fCons (fOp opIx (fOp opIx (fOp opIx (fVar 0) (fC (.int 3))) (fC (.int 0))) (fC (.int 3))) fNil))))
  (gSeqM (gNewL 2 (atJ [0, 1] e_l_placed_la1))
  (gSeqM (gAppL 2 (atJ [0] e_l_placed_la2))
  (gSeqM (gAppL 2 (atJ [0, 1] e_l_placed_la3))
  (gSeqM (gAppL 2 (atJ [0, 1] e_l_placed_la4))
  (gSeqM (gAppL 2 (atJ [0] e_l_placed_la5))
  (gSeqM (gAppL 2 (atJ [0] e_l_placed_la6))
  (gSeqM (gNewL 3 (atJ [0] e_l_placed_la7))
  (gSeqM (gAppL 3 (atJ [0] e_l_placed_la8))
  (gSeqM (gAppL 3 (atJ [0] e_l_placed_la9))
  (gSeqM (gEs (gAsgF 4 (fTup (fCons (fC (.int 9)) (fCons (fC (.int 5)) (fCons (fC (.int 1)) (fCons (fTup (fCons (fTup (fCons (fC (.int 0)) (fCons (fC (.int 0)) (fCons (fC (.int 0)) (fCons (fTup (fCons (fC (.int 1)) (fCons (fC (.int 2)) (fCons (fC (.int 3)) fNil)))) fNil))))) fNil)) fNil)))))))
  (gSeqM (gIfM (cEt (fTest (fOp opEq (fVar 1) (fC (.int 0))))) (gAppL 2 (atJ [0] e_l_placed_la10)) gNextM)
  (gSeqM (gIfM (cNN (qAllV 2 "InvalidIndex") (qAllV 3 "InvalidSign")) (gEs (gRet (fC (.bool false)))) gNextM)
  (gRetM (qErr (atJ [4] e_l_placed_la11) "TooMany")))))))))))))))
abbrev ok1_l_placed : List R → Prop := fun rs => (g_l_placed (startE 5 rs) []).fin

def e_law_la1 : Ev → Rs R := (fCall d_limits (aCons (fVar 0) (aCons (fVar 1) aNil)))
def e_law_la2 : Ev → Rs R := (fCall d_state_after (aCons (fVar 0) (aCons (fVar 1) aNil)))
def e_law_la3 : Ev → Rs R := (fCall d_changes (aCons (fVar 0) (aCons (fVar 1) aNil)))
def e_law_la4 : Ev → Rs R := (fCall d_least_limit (aCons (fVar 0) (aCons (fVar 1) aNil)))
def e_law_la5 : Ev → Rs R := (fCall d_shortest_with (aCons (fVar 0) (aCons (fC (.int 0)) (aCons (fVar 1) aNil))))
def e_law_la6 : Ev → Rs R := (fCall d_possible (aCons (fVar 0) (aCons (fC (.int 0)) (aCons (fOp opAdd (fBi biLen (fCons (fOp opIx (fOp opIx (fOp opIx (fVar 0) (fC (.int 3))) (fC (.int 0))) (fC (.int 3))) fNil)) (fC (.int 1))) aNil))))
def e_law_la7 : Ev → Rs R := (fCall d_possible (aCons (fVar 0) (aCons (fC (.int 0)) (aCons (fUn opNeg (fC (.int 1))) aNil))))
def e_law_la8 : Ev → Rs R := (fCall d_possible (aCons (fVar 0) (aCons (fC (.int 0)) (aCons (fC (.bool true)) aNil))))
def e_law_la9 : Ev → Rs R := (fCall d_same_limits (aCons (fVar 0) (aCons (fVar 1) aNil)))
def e_law_la10 : Ev → Rs R := (fCall d_parting_way (aCons (fVar 0) (aCons (fVar 1) aNil)))
def law_b1 : Ev → LE → RM := (gSeqM (gNewL 8 (atJ [1, 7] e_law_la1))
  (gSeqM (gAppL 8 (atJ [1, 7] e_law_la2))
  (gSeqM (gAppL 8 (atJ [1, 7] e_law_la3))
  (gSeqM (gAppL 8 (atJ [1, 7] e_law_la4))
  (gIfM (cN1 (qAllV 8 "InvalidWay")) (gEs (gRet (fC (.bool false)))) gNextM)))))
def law_b2 : Ev → LE → RM := (gIfM (cN1 (qErr (atJ [1, 7] e_law_la5) "InvalidLimit")) (gEs (gRet (fC (.bool false)))) gNextM)
def g_law : Ev → LE → RM := (gSeqM (gEs (gAsgT (tTupl (tsCons (tName 1) (tsCons (tName 2) tsNil))) (fTup (fCons (fCall d_l_map (aCons (fVar 0) (aCons (fC (.int 0)) (aCons (fC (.int 5)) aNil)))) (fCons (fCall d_l_pick (aCons (fVar 0) (aCons (fC (.int 60)) (aCons (fC (.int 8)) aNil)))) fNil)))))
  (gSeqM (gEs (gAsgF 3 (fTup (fCons (fC (.int 0)) (fCons (fC (.int 0)) (fCons (fC (.int 0)) (fCons (fTup fNil) fNil)))))))
  (gSeqM (gEs (gAsgF 4 (fLst (fCons (fC (.int 5)) (fCons (fC (.int 1)) (fCons (fC (.int 0)) (fCons (fTup (fCons (fVar 3) fNil)) fNil)))))))
  (gSeqM (gEs (gAsgF 5 (fOp opIx (fTup (fCons (fC .none) (fCons (fC (.int 5)) (fCons (fTup (fCons (fC (.int 4)) (fCons (fC (.int 1)) (fCons (fC (.int 0)) (fCons (fTup (fCons (fVar 3) fNil)) fNil))))) (fCons (fTup (fCons (fC (.int 5)) (fCons (fC (.int 6)) (fCons (fC (.int 0)) (fCons (fTup (fCons (fVar 3) fNil)) fNil))))) (fCons (fTup (fCons (fC (.int 5)) (fCons (fC (.int 1)) (fCons (fC (.int 2)) (fCons (fTup (fCons (fVar 3) fNil)) fNil))))) (fCons (fTup (fCons (fC (.int 5)) (fCons (fC (.int 1)) (fCons (fC (.int 0)) (fCons (fTup fNil) fNil))))) (fCons (fVar 4) (fCons (fTup (fCons (fC (.int 5)) (fCons (fC (.int 1)) (fCons (fC (.int 0)) fNil)))) fNil))))))))) (fVar 2))))
  (gSeqM (gEs (gAsgF 6 (fOp opIx (fTup (fCons (fC .none) (fCons (fUn opNeg (fC (.int 1))) (fCons (fBi biLen (fCons (fOp opIx (fVar 1) (fC (.int 3))) fNil)) (fCons (fC (.bool true)) (fCons (fC (.str "0")) (fCons (fTup (fCons (fC (.int 0)) fNil)) (fCons (fLst (fCons (fC (.int 0)) fNil)) (fCons (fC (.int 99)) fNil))))))))) (fVar 2))))
  (gSeqM (gIfM (cNN (qMk (aCons (fVar 1) (aCons (fVar 5) aNil)) ok1_l_nets "InvalidNet") (qMk (aCons (fVar 1) (aCons (fVar 6) aNil)) ok1_l_numbered "InvalidRoad")) (gEs (gRet (fC (.bool false)))) gNextM)
  (gSeqM (gForM (fSeq (fTup (fCons (fC .none) (fCons (fTup fNil) (fCons (fLst (fCons (fC (.int 0)) fNil)) (fCons (fTup (fCons (fC (.int 99)) fNil)) (fCons (fTup (fCons (fC (.bool true)) fNil)) (fCons (fC (.int 5)) (fCons (fOp opRepT (fTup (fCons (fC (.int 0)) fNil)) (fC (.int 21))) fNil))))))))) (tName 7) law_b1)
  (gSeqM (gForM (fSeq (fTup (fCons (fC .none) (fCons (fC (.int 0)) (fCons (fC (.int 14)) (fCons (fC (.bool true)) (fCons (fC (.str "7")) fNil))))))) (tName 7) law_b2)
  (gSeqM (gNewL 9 (atJ [1] e_law_la6))
  (gSeqM (gAppL 9 (atJ [1] e_law_la7))
  (gSeqM (gAppL 9 (atJ [1] e_law_la8))
  (gSeqM (gEs (gAsgF 10 (fTup (fCons (fC (.int 9)) (fCons (fC (.int 5)) (fCons (fC (.int 1)) (fCons (fTup (fCons (fTup (fCons (fC (.int 3)) (fCons (fC (.int 4)) (fCons (fC (.int 0)) (fCons (fTup fNil) fNil))))) fNil)) fNil)))))))
  (gSeqM (gNewL 11 (atJ [1, 10] e_law_la9))
  (gSeqM (gAppL 11 (atJ [10, 1] e_law_la10))
  (gSeqM (gIfM (cNN (qAllV 9 "InvalidPiece") (qAllV 11 "OtherShape")) (gEs (gRet (fC (.bool false)))) gNextM)
  (gRetM (qAnd (qCall (aCons (fVar 1) aNil) ok1_l_placed) (fOp opIs (fCall d_same_shape (aCons (fVar 1) (aCons (fVar 10) aNil))) (fC (.bool false))))))))))))))))))))
abbrev ok1_law : List R → Prop := fun rs => (g_law (startE 12 rs) []).fin

section
variable {P : Program} {w : World} {K : PySem.W.Frag} {mg : Str → Option Value} {base : Heap}

theorem ok_is_int (T : Fx K mg) : FnOk P w K mg base (L2.CX P w) 1 T.f_is_int T.fd_is_int ["value", "least", "most"] (spD K mg 3 d_is_int) :=
  fn_den (N := ["value", "least", "most"]) (k := 0) T.F_is_int sc_is_int rfl fun cdv A outer s H E hr tk po => ⟨_, (eb_one (es_ret (ee_and (ek_isi K (ee_var 0) T.m_isinstance T.m_int (by decide +kernel)) (ee_and (ee_not (ek_isi K (ee_var 0) T.m_isinstance T.m_bool (by decide +kernel))) (ee_one (ee_chain op_le op_le od_le od_le (ee_var 1) (ee_var 0) (ee_var 2)))))))⟩

theorem ok_are_signs (T : Fx K mg) : FnOk P w K mg base (L2.CX P w) 2 T.f_are_signs T.fd_are_signs ["value"] (spD K mg 1 d_are_signs) :=
  fn_den (N := ["value", "sign"]) (k := 1) T.F_are_signs sc_are_signs rfl fun cdv A outer s H E hr tk po => ⟨_, (eb_cons (es_if (EW.et (ew_or (et_not (et_val (ek_isi K (ee_var 0) T.m_isinstance T.m_tuple (by decide +kernel)))) (ew_or1 (et_cmp op_gt od_gt (ek_len K T.m_len (ed_cons (ee_var 0) ed_nil)) (ee_globI (by rfl) T.c_MAX_SIGNS.choose_spec) (nomark _))))) (eb_one (es_ret ee_bl)) eb_nil)
      (eb_one (es_ret (ek_all K T.m_all (ed_cons (ee_lc (own := [("sign", 1)]) sc_are_signs.nd (ik_seq K (ee_var 0)) (blkOk_by (N := ["value", "sign"]) (sc := defScope s_are_signs) (by decide +kernel)) (fun _ _ _ _ _ => (eg_name 1 sc_are_signs.nd)) (fun _ _ _ _ _ => ets_nil) (fun _ _ _ _ _ => (ek_call K (ok_is_int T) (hr.mono (by decide)) T.g_is_int T.F_is_int.kp T.b_is_int takes0 (ea_cons (ee_var 1) (ea_cons ee_int (ea_cons (ee_globI (by rfl) T.c_MAX_LIMIT.choose_spec) ea_nil)))))) ed_nil)))))⟩

theorem ok_is_road (T : Fx K mg) : FnOk P w K mg base (L2.CX P w) 3 T.f_is_road T.fd_is_road ["value"] (spD K mg 1 d_is_road) :=
  fn_den (N := ["value"]) (k := 2) T.F_is_road sc_is_road rfl fun cdv A outer s H E hr tk po => ⟨_, (eb_cons (es_if (EW.et (ew_or (et_not (et_val (ek_isi K (ee_var 0) T.m_isinstance T.m_tuple (by decide +kernel)))) (ew_or (tk_ne K hr.units (ek_len K T.m_len (ed_cons (ee_var 0) ed_nil)) ee_int) (ew_or1 (et_not (et_val (ek_call K (ok_are_signs T) (hr.mono (by decide)) T.g_are_signs T.F_are_signs.kp T.b_are_signs tk (ea_cons (ek_ix K (ee_var 0) ee_int) ea_nil)))))))) (eb_one (es_ret ee_bl)) eb_nil)
      (eb_one (es_ret (ee_and (ek_call K (ok_is_int T) (hr.mono (by decide)) T.g_is_int T.F_is_int.kp T.b_is_int tk (ea_cons (ek_ix K (ee_var 0) ee_int) (ea_cons ee_int (ea_cons (ee_globI (by rfl) T.c_MAX_JUNCTION.choose_spec) ea_nil)))) (ee_and (ek_call K (ok_is_int T) (hr.mono (by decide)) T.g_is_int T.F_is_int.kp T.b_is_int tk (ea_cons (ek_ix K (ee_var 0) ee_int) (ea_cons ee_int (ea_cons (ee_globI (by rfl) T.c_MAX_JUNCTION.choose_spec) ea_nil)))) (ee_one (ek_call K (ok_is_int T) (hr.mono (by decide)) T.g_is_int T.F_is_int.kp T.b_is_int tk (ea_cons (ek_ix K (ee_var 0) ee_int) (ea_cons ee_int (ea_cons ee_int ea_nil))))))))))⟩

theorem ok_is_net (T : Fx K mg) : FnOk P w K mg base (L2.CX P w) 4 T.f_is_net T.fd_is_net ["candidate"] (spD K mg 1 d_is_net) :=
  fn_den (N := ["candidate", "fast", "slow", "keeps", "roads", "road"]) (k := 3) T.F_is_net sc_is_net rfl fun cdv A outer s H E hr tk po => ⟨_, (eb_cons (es_if (EW.et (ew_or (et_not (et_val (ek_isi K (ee_var 0) T.m_isinstance T.m_tuple (by decide +kernel)))) (ew_or (tk_ne K hr.units (ek_len K T.m_len (ed_cons (ee_var 0) ed_nil)) ee_int) (ew_or1 (et_not (et_val (ek_call K (ok_is_int T) (hr.mono (by decide)) T.g_is_int T.F_is_int.kp T.b_is_int tk (ea_cons (ek_ix K (ee_var 0) ee_int) (ea_cons (ee_globI (by rfl) T.c_MIN_FAST.choose_spec) (ea_cons (ee_globI (by rfl) T.c_MAX_LIMIT.choose_spec) ea_nil)))))))))) (eb_one (es_ret ee_bl)) eb_nil)
      (eb_cons (es_asgT (ee_var 0) (gk_tup K (egs_cons (eg_name 1 sc_is_net.nd) (egs_cons (eg_name 2 sc_is_net.nd) (egs_cons (eg_name 3 sc_is_net.nd) (egs_cons (eg_name 4 sc_is_net.nd) egs_nil))))))
      (eb_cons (es_if (EW.et (ew_or (et_not (et_val (ek_call K (ok_is_int T) (hr.mono (by decide)) T.g_is_int T.F_is_int.kp T.b_is_int tk (ea_cons (ee_var 2) (ea_cons ee_int (ea_cons (ee_var 1) ea_nil)))))) (ew_or1 (et_not (et_val (ek_call K (ok_is_int T) (hr.mono (by decide)) T.g_is_int T.F_is_int.kp T.b_is_int tk (ea_cons (ee_var 3) (ea_cons ee_int (ea_cons ee_int ea_nil))))))))) (eb_one (es_ret ee_bl)) eb_nil)
      (eb_one (es_ret (ee_and (ek_isi K (ee_var 4) T.m_isinstance T.m_tuple (by decide +kernel)) (ee_and (ee_chain op_le op_le od_le od_le ee_int (ek_len K T.m_len (ed_cons (ee_var 4) ed_nil)) (ee_globI (by rfl) T.c_MAX_ROADS.choose_spec)) (ee_one (ek_all K T.m_all (ed_cons (ee_lc (own := [("road", 5)]) sc_is_net.nd (ik_seq K (ee_var 4)) (blkOk_by (N := ["candidate", "fast", "slow", "keeps", "roads", "road"]) (sc := defScope s_is_net) (by decide +kernel)) (fun _ _ _ _ _ => (eg_name 5 sc_is_net.nd)) (fun _ _ _ _ _ => ets_nil) (fun _ _ _ _ _ => (ek_call K (ok_is_road T) (hr.mono (by decide)) T.g_is_road T.F_is_road.kp T.b_is_road takes0 (ea_cons (ee_var 5) ea_nil)))) ed_nil))))))))))⟩

theorem ok_check_net (T : Fx K mg) : FnOk P w K mg base (L2.CX P w) 5 T.f_check_net T.fd_check_net ["value"] (spD K mg 1 d_check_net) :=
  fn_den (N := ["value"]) (k := 4) T.F_check_net sc_check_net rfl fun cdv A outer s H E hr tk po => ⟨_, (eb_one (es_if (et_not (et_val (ek_call K (ok_is_net T) (hr.mono (by decide)) T.g_is_net T.F_is_net.kp T.b_is_net tk (ea_cons (ee_var 0) ea_nil)))) (eb_one (es_raise tk PySem.F.excBase_ValueError T.x_InvalidNet T.gc_InvalidNet T.k_InvalidNet (raises_own T.sb_InvalidNet T.ty_InvalidNet))) eb_nil))⟩

theorem ok_check_road (T : Fx K mg) : FnOk P w K mg base (L2.CX P w) 6 T.f_check_road T.fd_check_road ["net", "value"] (spD K mg 2 d_check_road) :=
  fn_den (N := ["net", "value"]) (k := 5) T.F_check_road sc_check_road rfl fun cdv A outer s H E hr tk po => ⟨_, (eb_cons (es_expr (ek_call K (ok_check_net T) (hr.mono (by decide)) T.g_check_net T.F_check_net.kp T.b_check_net tk (ea_cons (ee_var 0) ea_nil)))
      (eb_one (es_if (et_not (et_val (ek_call K (ok_is_int T) (hr.mono (by decide)) T.g_is_int T.F_is_int.kp T.b_is_int tk (ea_cons (ee_var 1) (ea_cons ee_int (ea_cons (ee_op op_sub od_sub (ek_len K T.m_len (ed_cons (ek_ix K (ee_var 0) ee_int) ed_nil)) ee_int) ea_nil)))))) (eb_one (es_raise tk PySem.F.excBase_ValueError T.x_InvalidRoad T.gc_InvalidRoad T.k_InvalidRoad (raises_own T.sb_InvalidRoad T.ty_InvalidRoad))) eb_nil)))⟩

theorem ok_has_way (T : Fx K mg) : FnOk P w K mg base (L2.CX P w) 2 T.f_has_way T.fd_has_way ["net", "candidate"] (spD K mg 2 d_has_way) :=
  fn_den (N := ["net", "candidate", "roads", "number", "one", "other"]) (k := 1) T.F_has_way sc_has_way rfl fun cdv A outer s H E hr tk po => ⟨_, (eb_cons (es_asgF 2 sc_has_way.nd (ek_ix K (ee_var 0) ee_int))
      (eb_cons (es_if (EW.et (ew_or (et_not (et_val (ek_isi K (ee_var 1) T.m_isinstance T.m_tuple (by decide +kernel)))) (ew_or1 (et_not (et_chain op_le op_le od_le od_le ee_int (ek_len K T.m_len (ed_cons (ee_var 1) ed_nil)) (ee_globI (by rfl) T.c_MAX_WAY.choose_spec)))))) (eb_one (es_ret ee_bl)) eb_nil)
      (eb_cons (es_if (et_not (et_val (ek_all K T.m_all (ed_cons (ee_lc (own := [("number", 3)]) sc_has_way.nd (ik_seq K (ee_var 1)) (blkOk_by (N := ["net", "candidate", "roads", "number", "one", "other"]) (sc := defScope s_has_way) (by decide +kernel)) (fun _ _ _ _ _ => (eg_name 3 sc_has_way.nd)) (fun _ _ _ _ _ => ets_nil) (fun _ _ _ _ _ => (ek_call K (ok_is_int T) (hr.mono (by decide)) T.g_is_int T.F_is_int.kp T.b_is_int takes0 (ea_cons (ee_var 3) (ea_cons ee_int (ea_cons (ee_op op_sub od_sub (ek_len K T.m_len (ed_cons (ee_var 2) ed_nil)) ee_int) ea_nil)))))) ed_nil)))) (eb_one (es_ret ee_bl)) eb_nil)
      (eb_one (es_ret (ek_all K T.m_all (ed_cons (ee_lc (own := [("one", 4), ("other", 5)]) sc_has_way.nd (ik_zip K (ee_var 1) (ek_sl K (ee_var 1) (eo_some ee_int) eo_none) T.m_zip) (blkOk_by (N := ["net", "candidate", "roads", "number", "one", "other"]) (sc := defScope s_has_way) (by decide +kernel)) (fun _ _ _ _ _ => (gk_tup K (egs_cons (eg_name 4 sc_has_way.nd) (egs_cons (eg_name 5 sc_has_way.nd) egs_nil)))) (fun _ _ _ _ _ => ets_nil) (fun _ _ _ _ _ => (ek_eq K hr.units (ek_ix K (ek_ix K (ee_var 2) (ee_var 4)) ee_int) (ek_ix K (ek_ix K (ee_var 2) (ee_var 5)) ee_int)))) ed_nil)))))))⟩

theorem ok_is_way (T : Fx K mg) : FnOk P w K mg base (L2.CX P w) 6 T.f_is_way T.fd_is_way ["net", "candidate"] (spD K mg 2 d_is_way) :=
  fn_den (N := ["net", "candidate"]) (k := 5) T.F_is_way sc_is_way rfl fun cdv A outer s H E hr tk po => ⟨_, (eb_cons (es_expr (ek_call K (ok_check_net T) (hr.mono (by decide)) T.g_check_net T.F_check_net.kp T.b_check_net tk (ea_cons (ee_var 0) ea_nil)))
      (eb_one (es_ret (ek_call K (ok_has_way T) (hr.mono (by decide)) T.g_has_way T.F_has_way.kp T.b_has_way tk (ea_cons (ee_var 0) (ea_cons (ee_var 1) ea_nil))))))⟩

theorem ok_find_followers (T : Fx K mg) : FnOk P w K mg base (L2.CX P w) 1 T.f_find_followers T.fd_find_followers ["net", "road"] (spD K mg 2 d_find_followers) :=
  fn_den (N := ["net", "road", "number", "other"]) (k := 0) T.F_find_followers sc_find_followers rfl fun cdv A outer s H E hr tk po => ⟨_, (eb_one (es_ret (ee_lc (own := [("number", 2), ("other", 3)]) sc_find_followers.nd (ik_enum K (ek_ix K (ee_var 0) ee_int) T.m_enumerate) (blkOk_by (N := ["net", "road", "number", "other"]) (sc := defScope s_find_followers) (by decide +kernel)) (fun _ _ _ _ _ => (gk_tup K (egs_cons (eg_name 2 sc_find_followers.nd) (egs_cons (eg_name 3 sc_find_followers.nd) egs_nil)))) (fun _ _ _ _ _ => (ets_one (tk_eq K hr.units (ek_ix K (ee_var 3) ee_int) (ek_ix K (ek_ix K (ek_ix K (ee_var 0) ee_int) (ee_var 1)) ee_int)))) (fun _ _ _ _ _ => (ee_var 2)))))⟩

theorem ok_followers (T : Fx K mg) : FnOk P w K mg base (L2.CX P w) 7 T.f_followers T.fd_followers ["net", "road"] (spD K mg 2 d_followers) :=
  fn_den (N := ["net", "road"]) (k := 6) T.F_followers sc_followers rfl fun cdv A outer s H E hr tk po => ⟨_, (eb_cons (es_expr (ek_call K (ok_check_road T) (hr.mono (by decide)) T.g_check_road T.F_check_road.kp T.b_check_road tk (ea_cons (ee_var 0) (ea_cons (ee_var 1) ea_nil))))
      (eb_one (es_ret (ek_call K (ok_find_followers T) (hr.mono (by decide)) T.g_find_followers T.F_find_followers.kp T.b_find_followers tk (ea_cons (ee_var 0) (ea_cons (ee_var 1) ea_nil))))))⟩

theorem ok_find_standing (T : Fx K mg) : FnOk P w K mg base (L2.CX P w) 1 T.f_find_standing T.fd_find_standing ["net", "road"] (spD K mg 2 d_find_standing) :=
  fn_den (N := ["net", "road"]) (k := 0) T.F_find_standing sc_find_standing rfl fun cdv A outer s H E hr tk po => ⟨_, (eb_one (es_ret (ee_if (tk_eq K hr.units (ek_ix K (ek_ix K (ek_ix K (ee_var 0) ee_int) (ee_var 1)) ee_int) ee_int) (ek_ix K (ee_var 0) ee_int) (ek_ix K (ee_var 0) ee_int))))⟩

theorem ok_standing (T : Fx K mg) : FnOk P w K mg base (L2.CX P w) 7 T.f_standing T.fd_standing ["net", "road"] (spD K mg 2 d_standing) :=
  fn_den (N := ["net", "road"]) (k := 6) T.F_standing sc_standing rfl fun cdv A outer s H E hr tk po => ⟨_, (eb_cons (es_expr (ek_call K (ok_check_road T) (hr.mono (by decide)) T.g_check_road T.F_check_road.kp T.b_check_road tk (ea_cons (ee_var 0) (ea_cons (ee_var 1) ea_nil))))
      (eb_one (es_ret (ek_call K (ok_find_standing T) (hr.mono (by decide)) T.g_find_standing T.F_find_standing.kp T.b_find_standing tk (ea_cons (ee_var 0) (ea_cons (ee_var 1) ea_nil))))))⟩

theorem ok_count_pieces (T : Fx K mg) : FnOk P w K mg base (L2.CX P w) 6 T.f_count_pieces T.fd_count_pieces ["net"] (spD K mg 1 d_count_pieces) :=
  fn_den (N := ["net", "road"]) (k := 5) T.F_count_pieces sc_count_pieces rfl fun cdv A outer s H E hr tk po => ⟨_, (eb_cons (es_expr (ek_call K (ok_check_net T) (hr.mono (by decide)) T.g_check_net T.F_check_net.kp T.b_check_net tk (ea_cons (ee_var 0) ea_nil)))
      (eb_one (es_ret (ee_lc (own := [("road", 1)]) sc_count_pieces.nd (ik_seq K (ek_ix K (ee_var 0) ee_int)) (blkOk_by (N := ["net", "road"]) (sc := defScope s_count_pieces) (by decide +kernel)) (fun _ _ _ _ _ => (eg_name 1 sc_count_pieces.nd)) (fun _ _ _ _ _ => ets_nil) (fun _ _ _ _ _ => (ek_add K (ek_len K T.m_len (ed_cons (ek_ix K (ee_var 1) ee_int) ed_nil)) ee_int))))))⟩

theorem ok_pieces (T : Fx K mg) : FnOk P w K mg base (L2.CX P w) 2 T.f_pieces T.fd_pieces ["net", "road", "state"] (spD K mg 3 d_pieces) :=
  fn_den (N := ["net", "road", "state", "rest", "one"]) (k := 1) T.F_pieces sc_pieces rfl fun cdv A outer s H E hr tk po => ⟨_, (eb_cons (es_asgF 3 sc_pieces.nd (ek_call K (ok_find_standing T) (hr.mono (by decide)) T.g_find_standing T.F_find_standing.kp T.b_find_standing tk (ea_cons (ee_var 0) (ea_cons (ee_var 1) ea_nil))))
      (eb_one (es_ret (ee_lc (own := [("one", 4)]) sc_pieces.nd (ik_seq K (ek_add K (ee_tup (ed_cons (ee_var 2) ed_nil)) (ek_ix K (ek_ix K (ek_ix K (ee_var 0) ee_int) (ee_var 1)) ee_int))) (blkOk_by (N := ["net", "road", "state", "rest", "one"]) (sc := defScope s_pieces) (by decide +kernel)) (fun _ _ _ _ _ => (eg_name 4 sc_pieces.nd)) (fun _ _ _ _ _ => ets_nil) (fun _ _ _ _ _ => (ee_if (et_cmp op_gt od_gt (ee_var 4) ee_int (nomark _)) (ee_var 4) (ee_var 3)))))))⟩

theorem ok_leave (T : Fx K mg) : FnOk P w K mg base (L2.CX P w) 1 T.f_leave T.fd_leave ["net", "road", "state"] (spD K mg 3 d_leave) :=
  fn_den (N := ["net", "road", "state", "signs"]) (k := 0) T.F_leave sc_leave rfl fun cdv A outer s H E hr tk po => ⟨_, (eb_cons (es_asgF 3 sc_leave.nd (ek_ix K (ek_ix K (ek_ix K (ee_var 0) ee_int) (ee_var 1)) ee_int))
      (eb_one (es_ret (ee_if (tk_ne K hr.units (ee_var 3) (ee_tup ed_nil)) (ek_ix K (ee_var 3) (ee_un un_neg ud_neg ee_int)) (ee_var 2)))))⟩

theorem ok_go_over (T : Fx K mg) : FnOk P w K mg base (L2.CX P w) 1 T.f_go_over T.fd_go_over ["net", "state"] (spD K mg 2 d_go_over) :=
  fn_den (N := ["net", "state"]) (k := 0) T.F_go_over sc_go_over rfl fun cdv A outer s H E hr tk po => ⟨_, (eb_one (es_ret (ee_if (tk_eq K hr.units (ek_ix K (ee_var 0) ee_int) ee_int) (ee_var 1) ee_int)))⟩

theorem ok_check_way (T : Fx K mg) : FnOk P w K mg base (L2.CX P w) 6 T.f_check_way T.fd_check_way ["net", "way"] (spD K mg 2 d_check_way) :=
  fn_den (N := ["net", "way"]) (k := 5) T.F_check_way sc_check_way rfl fun cdv A outer s H E hr tk po => ⟨_, (eb_cons (es_expr (ek_call K (ok_check_net T) (hr.mono (by decide)) T.g_check_net T.F_check_net.kp T.b_check_net tk (ea_cons (ee_var 0) ea_nil)))
      (eb_one (es_if (et_not (et_val (ek_call K (ok_has_way T) (hr.mono (by decide)) T.g_has_way T.F_has_way.kp T.b_has_way tk (ea_cons (ee_var 0) (ea_cons (ee_var 1) ea_nil))))) (eb_one (es_raise tk PySem.F.excBase_ValueError T.x_InvalidWay T.gc_InvalidWay T.k_InvalidWay (raises_own T.sb_InvalidWay T.ty_InvalidWay))) eb_nil)))⟩

theorem ok_find_limits (T : Fx K mg) : FnOk P w K mg base (L2.CX P w) 3 T.f_find_limits T.fd_find_limits ["net", "way"] (spD K mg 2 d_find_limits) :=
  fn_den (N := ["net", "way", "state", "found", "place", "road"]) (k := 2) T.F_find_limits sc_find_limits rfl fun cdv A outer s H E hr tk po => ⟨_, (eb_cons (es_par 2 3 false true sc_find_limits.nd ee_int (ee_lst ed_nil))
      (eb_cons (es_for po (ik_enum K (ee_var 1) T.m_enumerate) (gk_tup K (egs_cons (eg_name 4 sc_find_limits.nd) (egs_cons (eg_name 5 sc_find_limits.nd) egs_nil))) (eb_cons (es_asgF 2 sc_find_limits.nd (ee_if (et_cmp op_gt od_gt (ee_var 4) ee_int (nomark _)) (ek_call K (ok_go_over T) (hr.mono (by decide)) T.g_go_over T.F_go_over.kp T.b_go_over tk (ea_cons (ee_var 0) (ea_cons (ee_var 2) ea_nil))) ee_int))
      (eb_cons (es_app 3 (ek_call K (ok_pieces T) (hr.mono (by decide)) T.g_pieces T.F_pieces.kp T.b_pieces tk (ea_cons (ee_var 0) (ea_cons (ee_var 5) (ea_cons (ee_var 2) ea_nil)))))
      (eb_one (es_asgF 2 sc_find_limits.nd (ek_call K (ok_leave T) (hr.mono (by decide)) T.g_leave T.F_leave.kp T.b_leave tk (ea_cons (ee_var 0) (ea_cons (ee_var 5) (ea_cons (ee_var 2) ea_nil)))))))))
      (eb_one (es_frz 3 (es_ret (ee_tup (ed_cons (ee_var 3) (ed_cons (ee_var 2) ed_nil))))))))⟩

theorem ok_limits (T : Fx K mg) : FnOk P w K mg base (L2.CX P w) 7 T.f_limits T.fd_limits ["net", "way"] (spD K mg 2 d_limits) :=
  fn_den (N := ["net", "way"]) (k := 6) T.F_limits sc_limits rfl fun cdv A outer s H E hr tk po => ⟨_, (eb_cons (es_expr (ek_call K (ok_check_way T) (hr.mono (by decide)) T.g_check_way T.F_check_way.kp T.b_check_way tk (ea_cons (ee_var 0) (ea_cons (ee_var 1) ea_nil))))
      (eb_one (es_ret (ek_ix K (ek_call K (ok_find_limits T) (hr.mono (by decide)) T.g_find_limits T.F_find_limits.kp T.b_find_limits tk (ea_cons (ee_var 0) (ea_cons (ee_var 1) ea_nil))) ee_int))))⟩

theorem ok_state_after (T : Fx K mg) : FnOk P w K mg base (L2.CX P w) 7 T.f_state_after T.fd_state_after ["net", "way"] (spD K mg 2 d_state_after) :=
  fn_den (N := ["net", "way"]) (k := 6) T.F_state_after sc_state_after rfl fun cdv A outer s H E hr tk po => ⟨_, (eb_cons (es_expr (ek_call K (ok_check_way T) (hr.mono (by decide)) T.g_check_way T.F_check_way.kp T.b_check_way tk (ea_cons (ee_var 0) (ea_cons (ee_var 1) ea_nil))))
      (eb_one (es_ret (ek_ix K (ek_call K (ok_find_limits T) (hr.mono (by decide)) T.g_find_limits T.F_find_limits.kp T.b_find_limits tk (ea_cons (ee_var 0) (ea_cons (ee_var 1) ea_nil))) ee_int))))⟩

theorem ok_flat (T : Fx K mg) : FnOk P w K mg base (L2.CX P w) 4 T.f_flat T.fd_flat ["net", "way"] (spD K mg 2 d_flat) :=
  fn_den (N := ["net", "way", "row", "limit"]) (k := 3) T.F_flat sc_flat rfl fun cdv A outer s H E hr tk po => ⟨_, (eb_one (es_ret (ee_lc2 (own := [("row", 2), ("limit", 3)]) sc_flat.nd (ik_seq K (ek_ix K (ek_call K (ok_find_limits T) (hr.mono (by decide)) T.g_find_limits T.F_find_limits.kp T.b_find_limits tk (ea_cons (ee_var 0) (ea_cons (ee_var 1) ea_nil))) ee_int)) (blkOk_by (N := ["net", "way", "row", "limit"]) (sc := defScope s_flat) (by decide +kernel)) (fun _ _ _ _ _ => (eg_name 2 sc_flat.nd)) (fun _ _ _ _ _ => ets_nil) (fun _ _ _ _ _ => (ik_seq K (ee_var 2))) (fun _ _ _ _ _ => (eg_name 3 sc_flat.nd)) (fun _ _ _ _ _ => ets_nil) (fun _ _ _ _ _ => (ee_var 3)))))⟩

theorem ok_changes (T : Fx K mg) : FnOk P w K mg base (L2.CX P w) 7 T.f_changes T.fd_changes ["net", "way"] (spD K mg 2 d_changes) :=
  fn_den (N := ["net", "way", "row", "one", "other"]) (k := 6) T.F_changes sc_changes rfl fun cdv A outer s H E hr tk po => ⟨_, (eb_cons (es_expr (ek_call K (ok_check_way T) (hr.mono (by decide)) T.g_check_way T.F_check_way.kp T.b_check_way tk (ea_cons (ee_var 0) (ea_cons (ee_var 1) ea_nil))))
      (eb_cons (es_asgF 2 sc_changes.nd (ek_call K (ok_flat T) (hr.mono (by decide)) T.g_flat T.F_flat.kp T.b_flat tk (ea_cons (ee_var 0) (ea_cons (ee_var 1) ea_nil))))
      (eb_one (es_ret (ek_len K T.m_len (ed_cons (ee_lc (own := [("one", 3), ("other", 4)]) sc_changes.nd (ik_zip K (ee_var 2) (ek_sl K (ee_var 2) (eo_some ee_int) eo_none) T.m_zip) (blkOk_by (N := ["net", "way", "row", "one", "other"]) (sc := defScope s_changes) (by decide +kernel)) (fun _ _ _ _ _ => (gk_tup K (egs_cons (eg_name 3 sc_changes.nd) (egs_cons (eg_name 4 sc_changes.nd) egs_nil)))) (fun _ _ _ _ _ => (ets_one (tk_ne K hr.units (ee_var 3) (ee_var 4)))) (fun _ _ _ _ _ => ee_int)) ed_nil))))))⟩

theorem ok_least_limit (T : Fx K mg) : FnOk P w K mg base (L2.CX P w) 7 T.f_least_limit T.fd_least_limit ["net", "way"] (spD K mg 2 d_least_limit) :=
  fn_den (N := ["net", "way"]) (k := 6) T.F_least_limit sc_least_limit rfl fun cdv A outer s H E hr tk po => ⟨_, (eb_cons (es_expr (ek_call K (ok_check_way T) (hr.mono (by decide)) T.g_check_way T.F_check_way.kp T.b_check_way tk (ea_cons (ee_var 0) (ea_cons (ee_var 1) ea_nil))))
      (eb_one (es_ret (ek_min K T.m_min (ed_cons (ek_call K (ok_flat T) (hr.mono (by decide)) T.g_flat T.F_flat.kp T.b_flat tk (ea_cons (ee_var 0) (ea_cons (ee_var 1) ea_nil))) ed_nil)))))⟩

theorem ok_set_signs (T : Fx K mg) : FnOk P w K mg base (L2.CX P w) 1 T.f_set_signs T.fd_set_signs ["net", "road", "signs"] (spD K mg 3 d_set_signs) :=
  fn_den (N := ["net", "road", "signs", "roads", "one"]) (k := 0) T.F_set_signs sc_set_signs rfl fun cdv A outer s H E hr tk po => ⟨_, (eb_cons (es_asgF 3 sc_set_signs.nd (ek_ix K (ee_var 0) ee_int))
      (eb_cons (es_asgF 4 sc_set_signs.nd (ek_add K (ek_sl K (ek_ix K (ee_var 3) (ee_var 1)) eo_none (eo_some ee_int)) (ee_tup (ed_cons (ee_var 2) ed_nil))))
      (eb_one (es_ret (ek_add K (ek_sl K (ee_var 0) eo_none (eo_some ee_int)) (ee_tup (ed_cons (ek_add K (ek_add K (ek_sl K (ee_var 3) eo_none (eo_some (ee_var 1))) (ee_tup (ed_cons (ee_var 4) ed_nil))) (ek_sl K (ee_var 3) (eo_some (ek_add K (ee_var 1) ee_int)) eo_none)) ed_nil)))))))⟩

theorem ok_drop (T : Fx K mg) : FnOk P w K mg base (L2.CX P w) 2 T.f_drop T.fd_drop ["net", "road", "index"] (spD K mg 3 d_drop) :=
  fn_den (N := ["net", "road", "index", "signs"]) (k := 1) T.F_drop sc_drop rfl fun cdv A outer s H E hr tk po => ⟨_, (eb_cons (es_asgF 3 sc_drop.nd (ek_ix K (ek_ix K (ek_ix K (ee_var 0) ee_int) (ee_var 1)) ee_int))
      (eb_one (es_ret (ek_call K (ok_set_signs T) (hr.mono (by decide)) T.g_set_signs T.F_set_signs.kp T.b_set_signs tk (ea_cons (ee_var 0) (ea_cons (ee_var 1) (ea_cons (ek_add K (ek_sl K (ee_var 3) eo_none (eo_some (ee_var 2))) (ek_sl K (ee_var 3) (eo_some (ek_add K (ee_var 2) ee_int)) eo_none)) ea_nil)))))))⟩

theorem ok_without_sign (T : Fx K mg) : FnOk P w K mg base (L2.CX P w) 7 T.f_without_sign T.fd_without_sign ["net", "road", "index"] (spD K mg 3 d_without_sign) :=
  fn_den (N := ["net", "road", "index"]) (k := 6) T.F_without_sign sc_without_sign rfl fun cdv A outer s H E hr tk po => ⟨_, (eb_cons (es_expr (ek_call K (ok_check_road T) (hr.mono (by decide)) T.g_check_road T.F_check_road.kp T.b_check_road tk (ea_cons (ee_var 0) (ea_cons (ee_var 1) ea_nil))))
      (eb_cons (es_if (et_not (et_val (ek_call K (ok_is_int T) (hr.mono (by decide)) T.g_is_int T.F_is_int.kp T.b_is_int tk (ea_cons (ee_var 2) (ea_cons ee_int (ea_cons (ee_op op_sub od_sub (ek_len K T.m_len (ed_cons (ek_ix K (ek_ix K (ek_ix K (ee_var 0) ee_int) (ee_var 1)) ee_int) ed_nil)) ee_int) ea_nil)))))) (eb_one (es_raise tk PySem.F.excBase_ValueError T.x_InvalidIndex T.gc_InvalidIndex T.k_InvalidIndex (raises_own T.sb_InvalidIndex T.ty_InvalidIndex))) eb_nil)
      (eb_one (es_ret (ek_call K (ok_drop T) (hr.mono (by decide)) T.g_drop T.F_drop.kp T.b_drop tk (ea_cons (ee_var 0) (ea_cons (ee_var 1) (ea_cons (ee_var 2) ea_nil))))))))⟩

theorem ok_with_sign (T : Fx K mg) : FnOk P w K mg base (L2.CX P w) 7 T.f_with_sign T.fd_with_sign ["net", "road", "index", "sign"] (spD K mg 4 d_with_sign) :=
  fn_den (N := ["net", "road", "index", "sign", "signs"]) (k := 6) T.F_with_sign sc_with_sign rfl fun cdv A outer s H E hr tk po => ⟨_, (eb_cons (es_expr (ek_call K (ok_check_road T) (hr.mono (by decide)) T.g_check_road T.F_check_road.kp T.b_check_road tk (ea_cons (ee_var 0) (ea_cons (ee_var 1) ea_nil))))
      (eb_cons (es_asgF 4 sc_with_sign.nd (ek_ix K (ek_ix K (ek_ix K (ee_var 0) ee_int) (ee_var 1)) ee_int))
      (eb_cons (es_if (et_not (et_val (ek_call K (ok_is_int T) (hr.mono (by decide)) T.g_is_int T.F_is_int.kp T.b_is_int tk (ea_cons (ee_var 2) (ea_cons ee_int (ea_cons (ek_len K T.m_len (ed_cons (ee_var 4) ed_nil)) ea_nil)))))) (eb_one (es_raise tk PySem.F.excBase_ValueError T.x_InvalidIndex T.gc_InvalidIndex T.k_InvalidIndex (raises_own T.sb_InvalidIndex T.ty_InvalidIndex))) eb_nil)
      (eb_cons (es_if (et_not (et_val (ek_call K (ok_is_int T) (hr.mono (by decide)) T.g_is_int T.F_is_int.kp T.b_is_int tk (ea_cons (ee_var 3) (ea_cons ee_int (ea_cons (ee_globI (by rfl) T.c_MAX_LIMIT.choose_spec) ea_nil)))))) (eb_one (es_raise tk PySem.F.excBase_ValueError T.x_InvalidSign T.gc_InvalidSign T.k_InvalidSign (raises_own T.sb_InvalidSign T.ty_InvalidSign))) eb_nil)
      (eb_cons (es_if (et_cmp op_ge od_ge (ek_len K T.m_len (ed_cons (ee_var 4) ed_nil)) (ee_globI (by rfl) T.c_MAX_SIGNS.choose_spec) (nomark _)) (eb_one (es_raise tk PySem.F.excBase_ValueError T.x_TooMany T.gc_TooMany T.k_TooMany (raises_own T.sb_TooMany T.ty_TooMany))) eb_nil)
      (eb_one (es_ret (ek_call K (ok_set_signs T) (hr.mono (by decide)) T.g_set_signs T.F_set_signs.kp T.b_set_signs tk (ea_cons (ee_var 0) (ea_cons (ee_var 1) (ea_cons (ek_add K (ek_add K (ek_sl K (ee_var 4) eo_none (eo_some (ee_var 2))) (ee_tup (ed_cons (ee_var 3) ed_nil))) (ek_sl K (ee_var 4) (eo_some (ee_var 2)) eo_none)) ea_nil)))))))))))⟩

theorem ok_pairs_of (T : Fx K mg) : FnOk P w K mg base (L2.CX P w) 2 T.f_pairs_of T.fd_pairs_of ["one", "other"] (spD K mg 2 d_pairs_of) :=
  fn_den (N := ["one", "other", "level", "found", "later", "road", "left", "right", "here", "there", "next_road"]) (k := 1) T.F_pairs_of sc_pairs_of rfl fun cdv A outer s H E hr tk po => ⟨_, (eb_cons (es_par 2 3 false true sc_pairs_of.nd (ee_lc (own := [("road", 5)]) sc_pairs_of.nd (ei_range1 (ek_len K T.m_len (ed_cons (ek_ix K (ee_var 0) ee_int) ed_nil)) T.m_range) (blkOk_by (N := ["one", "other", "level", "found", "later", "road", "left", "right", "here", "there", "next_road"]) (sc := defScope s_pairs_of) (by decide +kernel)) (fun _ _ _ _ _ => (eg_name 5 sc_pairs_of.nd)) (fun _ _ _ _ _ => ets_nil) (fun _ _ _ _ _ => (ee_tup (ed_cons (ee_var 5) (ed_cons ee_int (ed_cons ee_int ed_nil)))))) ee_dnewT)
      (eb_cons (es_while po (tk_ne K hr.units (ee_var 2) (ee_lst ed_nil)) (eb_cons (es_asg 4 sc_pairs_of.nd (ee_lst ed_nil))
      (eb_cons (es_for po (ik_seq K (ee_var 2)) (gk_tup K (egs_cons (eg_name 5 sc_pairs_of.nd) (egs_cons (eg_name 6 sc_pairs_of.nd) (egs_cons (eg_name 7 sc_pairs_of.nd) egs_nil)))) (eb_one (es_if (et_dNinT 3 (hu_of hr) (ee_tup (ed_cons (ee_var 5) (ed_cons (ee_var 6) (ed_cons (ee_var 7) ed_nil))))) (eb_cons (es_dputT 3 (hu_of hr) (ee_tup (ed_cons (ee_var 5) (ed_cons (ee_var 6) (ed_cons (ee_var 7) ed_nil)))) (he := ee_bl))
      (eb_cons (es_asgT (ee_tup (ed_cons (ek_call K (ok_go_over T) (hr.mono (by decide)) T.g_go_over T.F_go_over.kp T.b_go_over tk (ea_cons (ee_var 0) (ea_cons (ek_call K (ok_leave T) (hr.mono (by decide)) T.g_leave T.F_leave.kp T.b_leave tk (ea_cons (ee_var 0) (ea_cons (ee_var 5) (ea_cons (ee_var 6) ea_nil)))) ea_nil))) (ed_cons (ek_call K (ok_go_over T) (hr.mono (by decide)) T.g_go_over T.F_go_over.kp T.b_go_over tk (ea_cons (ee_var 1) (ea_cons (ek_call K (ok_leave T) (hr.mono (by decide)) T.g_leave T.F_leave.kp T.b_leave tk (ea_cons (ee_var 1) (ea_cons (ee_var 5) (ea_cons (ee_var 7) ea_nil)))) ea_nil))) ed_nil))) (gk_tup K (egs_cons (eg_name 8 sc_pairs_of.nd) (egs_cons (eg_name 9 sc_pairs_of.nd) egs_nil))))
      (eb_one (es_ext 4 (ee_lc (own := [("next_road", 10)]) sc_pairs_of.nd (ik_seq K (ek_call K (ok_find_followers T) (hr.mono (by decide)) T.g_find_followers T.F_find_followers.kp T.b_find_followers tk (ea_cons (ee_var 0) (ea_cons (ee_var 5) ea_nil)))) (blkOk_by (N := ["one", "other", "level", "found", "later", "road", "left", "right", "here", "there", "next_road"]) (sc := defScope s_pairs_of) (by decide +kernel)) (fun _ _ _ _ _ => (eg_name 10 sc_pairs_of.nd)) (fun _ _ _ _ _ => ets_nil) (fun _ _ _ _ _ => (ee_tup (ed_cons (ee_var 10) (ed_cons (ee_var 8) (ed_cons (ee_var 9) ed_nil)))))))))) eb_nil)))
      (eb_one (es_frz 4 (es_asgF 2 sc_pairs_of.nd (ee_var 4)))))))
      (eb_one (es_ret (ee_sortedDT 3 hr.units T.m_sorted)))))⟩

theorem ok_does_nothing (T : Fx K mg) : FnOk P w K mg base (L2.CX P w) 3 T.f_does_nothing T.fd_does_nothing ["net", "road", "index"] (spD K mg 3 d_does_nothing) :=
  fn_den (N := ["net", "road", "index", "other", "number", "left", "right", "row"]) (k := 2) T.F_does_nothing sc_does_nothing rfl fun cdv A outer s H E hr tk po => ⟨_, (eb_cons (es_asgF 3 sc_does_nothing.nd (ek_call K (ok_drop T) (hr.mono (by decide)) T.g_drop T.F_drop.kp T.b_drop tk (ea_cons (ee_var 0) (ea_cons (ee_var 1) (ea_cons (ee_var 2) ea_nil)))))
      (eb_cons (es_for po (ik_seq K (ek_call K (ok_pairs_of T) (hr.mono (by decide)) T.g_pairs_of T.F_pairs_of.kp T.b_pairs_of tk (ea_cons (ee_var 0) (ea_cons (ee_var 3) ea_nil)))) (gk_tup K (egs_cons (eg_name 4 sc_does_nothing.nd) (egs_cons (eg_name 5 sc_does_nothing.nd) (egs_cons (eg_name 6 sc_does_nothing.nd) egs_nil)))) (eb_cons (es_asgF 7 sc_does_nothing.nd (ek_call K (ok_pieces T) (hr.mono (by decide)) T.g_pieces T.F_pieces.kp T.b_pieces tk (ea_cons (ee_var 0) (ea_cons (ee_var 4) (ea_cons (ee_var 5) ea_nil)))))
      (eb_cons (es_if (EW.et (ew_and (tk_eq K hr.units (ee_var 4) (ee_var 1)) (ew_and1 (tk_ne K hr.units (ek_ix K (ee_var 7) (ee_var 2)) (ek_ix K (ee_var 7) (ek_add K (ee_var 2) ee_int)))))) (eb_one (es_ret ee_bl)) eb_nil)
      (eb_cons (es_if (tk_eq K hr.units (ee_var 4) (ee_var 1)) (eb_one (es_asgF 7 sc_does_nothing.nd (ek_add K (ek_sl K (ee_var 7) eo_none (eo_some (ee_var 2))) (ek_sl K (ee_var 7) (eo_some (ek_add K (ee_var 2) ee_int)) eo_none)))) eb_nil)
      (eb_one (es_if (tk_ne K hr.units (ee_var 7) (ek_call K (ok_pieces T) (hr.mono (by decide)) T.g_pieces T.F_pieces.kp T.b_pieces tk (ea_cons (ee_var 3) (ea_cons (ee_var 4) (ea_cons (ee_var 6) ea_nil))))) (eb_one (es_ret ee_bl)) eb_nil))))))
      (eb_one (es_ret ee_bl))))⟩

theorem ok_is_idle (T : Fx K mg) : FnOk P w K mg base (L2.CX P w) 7 T.f_is_idle T.fd_is_idle ["net", "road", "index"] (spD K mg 3 d_is_idle) :=
  fn_den (N := ["net", "road", "index"]) (k := 6) T.F_is_idle sc_is_idle rfl fun cdv A outer s H E hr tk po => ⟨_, (eb_cons (es_expr (ek_call K (ok_check_road T) (hr.mono (by decide)) T.g_check_road T.F_check_road.kp T.b_check_road tk (ea_cons (ee_var 0) (ea_cons (ee_var 1) ea_nil))))
      (eb_cons (es_if (et_not (et_val (ek_call K (ok_is_int T) (hr.mono (by decide)) T.g_is_int T.F_is_int.kp T.b_is_int tk (ea_cons (ee_var 2) (ea_cons ee_int (ea_cons (ee_op op_sub od_sub (ek_len K T.m_len (ed_cons (ek_ix K (ek_ix K (ek_ix K (ee_var 0) ee_int) (ee_var 1)) ee_int) ed_nil)) ee_int) ea_nil)))))) (eb_one (es_raise tk PySem.F.excBase_ValueError T.x_InvalidIndex T.gc_InvalidIndex T.k_InvalidIndex (raises_own T.sb_InvalidIndex T.ty_InvalidIndex))) eb_nil)
      (eb_one (es_ret (ek_call K (ok_does_nothing T) (hr.mono (by decide)) T.g_does_nothing T.F_does_nothing.kp T.b_does_nothing tk (ea_cons (ee_var 0) (ea_cons (ee_var 1) (ea_cons (ee_var 2) ea_nil))))))))⟩

theorem ok_find_idle (T : Fx K mg) : FnOk P w K mg base (L2.CX P w) 4 T.f_find_idle T.fd_find_idle ["net"] (spD K mg 1 d_find_idle) :=
  fn_den (N := ["net", "found", "road", "one", "index"]) (k := 3) T.F_find_idle sc_find_idle rfl fun cdv A outer s H E hr tk po => ⟨_, (eb_cons (es_asg 1 sc_find_idle.nd (ee_lst ed_nil))
      (eb_cons (es_for po (ik_enum K (ek_ix K (ee_var 0) ee_int) T.m_enumerate) (gk_tup K (egs_cons (eg_name 2 sc_find_idle.nd) (egs_cons (eg_name 3 sc_find_idle.nd) egs_nil))) (eb_one (es_ext 1 (ee_lc (own := [("index", 4)]) sc_find_idle.nd (ei_range1 (ek_len K T.m_len (ed_cons (ek_ix K (ee_var 3) ee_int) ed_nil)) T.m_range) (blkOk_by (N := ["net", "found", "road", "one", "index"]) (sc := defScope s_find_idle) (by decide +kernel)) (fun _ _ _ _ _ => (eg_name 4 sc_find_idle.nd)) (fun _ _ _ _ _ => (ets_one (et_val (ek_call K (ok_does_nothing T) (hr.mono (by decide)) T.g_does_nothing T.F_does_nothing.kp T.b_does_nothing takes0 (ea_cons (ee_var 0) (ea_cons (ee_var 2) (ea_cons (ee_var 4) ea_nil))))))) (fun _ _ _ _ _ => (ee_tup (ed_cons (ee_var 2) (ed_cons (ee_var 4) ed_nil))))))))
      (eb_one (es_retV 1))))⟩

theorem ok_idle_signs (T : Fx K mg) : FnOk P w K mg base (L2.CX P w) 6 T.f_idle_signs T.fd_idle_signs ["net"] (spD K mg 1 d_idle_signs) :=
  fn_den (N := ["net"]) (k := 5) T.F_idle_signs sc_idle_signs rfl fun cdv A outer s H E hr tk po => ⟨_, (eb_cons (es_expr (ek_call K (ok_check_net T) (hr.mono (by decide)) T.g_check_net T.F_check_net.kp T.b_check_net tk (ea_cons (ee_var 0) ea_nil)))
      (eb_one (es_ret (ek_call K (ok_find_idle T) (hr.mono (by decide)) T.g_find_idle T.F_find_idle.kp T.b_find_idle tk (ea_cons (ee_var 0) ea_nil)))))⟩

theorem ok_shape (T : Fx K mg) : FnOk P w K mg base (L2.CX P w) 1 T.f_shape T.fd_shape ["net"] (spD K mg 1 d_shape) :=
  fn_den (N := ["net", "start", "end", "town", "signs"]) (k := 0) T.F_shape sc_shape rfl fun cdv A outer s H E hr tk po => ⟨_, (eb_one (es_ret (ee_lc (own := [("start", 1), ("end", 2), ("town", 3), ("signs", 4)]) sc_shape.nd (ik_seq K (ek_ix K (ee_var 0) ee_int)) (blkOk_by (N := ["net", "start", "end", "town", "signs"]) (sc := defScope s_shape) (by decide +kernel)) (fun _ _ _ _ _ => (gk_tup K (egs_cons (eg_name 1 sc_shape.nd) (egs_cons (eg_name 2 sc_shape.nd) (egs_cons (eg_name 3 sc_shape.nd) (egs_cons (eg_name 4 sc_shape.nd) egs_nil)))))) (fun _ _ _ _ _ => ets_nil) (fun _ _ _ _ _ => (ee_tup (ed_cons (ee_var 1) (ed_cons (ee_var 2) (ed_cons (ek_len K T.m_len (ed_cons (ee_var 4) ed_nil)) ed_nil))))))))⟩

theorem ok_check_two (T : Fx K mg) : FnOk P w K mg base (L2.CX P w) 6 T.f_check_two T.fd_check_two ["one", "other"] (spD K mg 2 d_check_two) :=
  fn_den (N := ["one", "other"]) (k := 5) T.F_check_two sc_check_two rfl fun cdv A outer s H E hr tk po => ⟨_, (eb_cons (es_expr (ek_call K (ok_check_net T) (hr.mono (by decide)) T.g_check_net T.F_check_net.kp T.b_check_net tk (ea_cons (ee_var 0) ea_nil)))
      (eb_one (es_expr (ek_call K (ok_check_net T) (hr.mono (by decide)) T.g_check_net T.F_check_net.kp T.b_check_net tk (ea_cons (ee_var 1) ea_nil)))))⟩

theorem ok_same_shape (T : Fx K mg) : FnOk P w K mg base (L2.CX P w) 7 T.f_same_shape T.fd_same_shape ["one", "other"] (spD K mg 2 d_same_shape) :=
  fn_den (N := ["one", "other"]) (k := 6) T.F_same_shape sc_same_shape rfl fun cdv A outer s H E hr tk po => ⟨_, (eb_cons (es_expr (ek_call K (ok_check_two T) (hr.mono (by decide)) T.g_check_two T.F_check_two.kp T.b_check_two tk (ea_cons (ee_var 0) (ea_cons (ee_var 1) ea_nil))))
      (eb_one (es_ret (ek_eq K hr.units (ek_call K (ok_shape T) (hr.mono (by decide)) T.g_shape T.F_shape.kp T.b_shape tk (ea_cons (ee_var 0) ea_nil)) (ek_call K (ok_shape T) (hr.mono (by decide)) T.g_shape T.F_shape.kp T.b_shape tk (ea_cons (ee_var 1) ea_nil))))))⟩

theorem ok_find_parting (T : Fx K mg) : FnOk P w K mg base (L2.CX P w) 7 T.f_find_parting T.fd_find_parting ["one", "other"] (spD K mg 2 d_find_parting) :=
  fn_den (N := ["one", "other", "level", "known", "later", "way", "left", "right", "road", "here", "there", "next_road"]) (k := 6) T.F_find_parting sc_find_parting rfl fun cdv A outer s H E hr tk po => ⟨_, (eb_cons (es_expr (ek_call K (ok_check_two T) (hr.mono (by decide)) T.g_check_two T.F_check_two.kp T.b_check_two tk (ea_cons (ee_var 0) (ea_cons (ee_var 1) ea_nil))))
      (eb_cons (es_if (tk_ne K hr.units (ek_call K (ok_shape T) (hr.mono (by decide)) T.g_shape T.F_shape.kp T.b_shape tk (ea_cons (ee_var 0) ea_nil)) (ek_call K (ok_shape T) (hr.mono (by decide)) T.g_shape T.F_shape.kp T.b_shape tk (ea_cons (ee_var 1) ea_nil))) (eb_one (es_raise tk PySem.F.excBase_ValueError T.x_OtherShape T.gc_OtherShape T.k_OtherShape (raises_own T.sb_OtherShape T.ty_OtherShape))) eb_nil)
      (eb_cons (es_par 2 3 false true sc_find_parting.nd (ee_lc (own := [("road", 8)]) sc_find_parting.nd (ei_range1 (ek_len K T.m_len (ed_cons (ek_ix K (ee_var 0) ee_int) ed_nil)) T.m_range) (blkOk_by (N := ["one", "other", "level", "known", "later", "way", "left", "right", "road", "here", "there", "next_road"]) (sc := defScope s_find_parting) (by decide +kernel)) (fun _ _ _ _ _ => (eg_name 8 sc_find_parting.nd)) (fun _ _ _ _ _ => ets_nil) (fun _ _ _ _ _ => (ee_tup (ed_cons (ee_tup (ed_cons (ee_var 8) ed_nil)) (ed_cons ee_int (ed_cons ee_int ed_nil)))))) ee_dnewT)
      (eb_cons (es_while po (tk_ne K hr.units (ee_var 2) (ee_lst ed_nil)) (eb_cons (es_asg 4 sc_find_parting.nd (ee_lst ed_nil))
      (eb_cons (es_for po (ik_seq K (ee_var 2)) (gk_tup K (egs_cons (eg_name 5 sc_find_parting.nd) (egs_cons (eg_name 6 sc_find_parting.nd) (egs_cons (eg_name 7 sc_find_parting.nd) egs_nil)))) (eb_cons (es_asgF 8 sc_find_parting.nd (ek_ix K (ee_var 5) (ee_un un_neg ud_neg ee_int)))
      (eb_cons (es_if (tk_ne K hr.units (ek_call K (ok_pieces T) (hr.mono (by decide)) T.g_pieces T.F_pieces.kp T.b_pieces tk (ea_cons (ee_var 0) (ea_cons (ee_var 8) (ea_cons (ee_var 6) ea_nil)))) (ek_call K (ok_pieces T) (hr.mono (by decide)) T.g_pieces T.F_pieces.kp T.b_pieces tk (ea_cons (ee_var 1) (ea_cons (ee_var 8) (ea_cons (ee_var 7) ea_nil))))) (eb_one (es_retV 5)) eb_nil)
      (eb_one (es_if (et_dNinT 3 (hu_of hr) (ee_tup (ed_cons (ee_var 8) (ed_cons (ee_var 6) (ed_cons (ee_var 7) ed_nil))))) (eb_cons (es_dputT 3 (hu_of hr) (ee_tup (ed_cons (ee_var 8) (ed_cons (ee_var 6) (ed_cons (ee_var 7) ed_nil)))) (he := ee_bl))
      (eb_cons (es_asgT (ee_tup (ed_cons (ek_call K (ok_go_over T) (hr.mono (by decide)) T.g_go_over T.F_go_over.kp T.b_go_over tk (ea_cons (ee_var 0) (ea_cons (ek_call K (ok_leave T) (hr.mono (by decide)) T.g_leave T.F_leave.kp T.b_leave tk (ea_cons (ee_var 0) (ea_cons (ee_var 8) (ea_cons (ee_var 6) ea_nil)))) ea_nil))) (ed_cons (ek_call K (ok_go_over T) (hr.mono (by decide)) T.g_go_over T.F_go_over.kp T.b_go_over tk (ea_cons (ee_var 1) (ea_cons (ek_call K (ok_leave T) (hr.mono (by decide)) T.g_leave T.F_leave.kp T.b_leave tk (ea_cons (ee_var 1) (ea_cons (ee_var 8) (ea_cons (ee_var 7) ea_nil)))) ea_nil))) ed_nil))) (gk_tup K (egs_cons (eg_name 9 sc_find_parting.nd) (egs_cons (eg_name 10 sc_find_parting.nd) egs_nil))))
      (eb_one (es_ext 4 (ee_lc (own := [("next_road", 11)]) sc_find_parting.nd (ik_seq K (ek_call K (ok_find_followers T) (hr.mono (by decide)) T.g_find_followers T.F_find_followers.kp T.b_find_followers tk (ea_cons (ee_var 0) (ea_cons (ee_var 8) ea_nil)))) (blkOk_by (N := ["one", "other", "level", "known", "later", "way", "left", "right", "road", "here", "there", "next_road"]) (sc := defScope s_find_parting) (by decide +kernel)) (fun _ _ _ _ _ => (eg_name 11 sc_find_parting.nd)) (fun _ _ _ _ _ => ets_nil) (fun _ _ _ _ _ => (ee_tup (ed_cons (ek_add K (ee_var 5) (ee_tup (ed_cons (ee_var 11) ed_nil))) (ed_cons (ee_var 9) (ed_cons (ee_var 10) ed_nil)))))))))) eb_nil)))))
      (eb_one (es_frz 4 (es_asgF 2 sc_find_parting.nd (ee_var 4)))))))
      (eb_one (es_ret ee_non))))))⟩

theorem ok_same_limits (T : Fx K mg) : FnOk P w K mg base (L2.CX P w) 8 T.f_same_limits T.fd_same_limits ["one", "other"] (spD K mg 2 d_same_limits) :=
  fn_den (N := ["one", "other"]) (k := 7) T.F_same_limits sc_same_limits rfl fun cdv A outer s H E hr tk po => ⟨_, (eb_one (es_ret (ee_cmp op_isA od_is (ek_call K (ok_find_parting T) (hr.mono (by decide)) T.g_find_parting T.F_find_parting.kp T.b_find_parting tk (ea_cons (ee_var 0) (ea_cons (ee_var 1) ea_nil))) ee_non (nomark _))))⟩

theorem ok_parting_way (T : Fx K mg) : FnOk P w K mg base (L2.CX P w) 8 T.f_parting_way T.fd_parting_way ["one", "other"] (spD K mg 2 d_parting_way) :=
  fn_den (N := ["one", "other"]) (k := 7) T.F_parting_way sc_parting_way rfl fun cdv A outer s H E hr tk po => ⟨_, (eb_one (es_ret (ek_call K (ok_find_parting T) (hr.mono (by decide)) T.g_find_parting T.F_find_parting.kp T.b_find_parting tk (ea_cons (ee_var 0) (ea_cons (ee_var 1) ea_nil)))))⟩

theorem ok_most_idle (T : Fx K mg) : FnOk P w K mg base (L2.CX P w) 6 T.f_most_idle T.fd_most_idle ["net"] (spD K mg 1 d_most_idle) :=
  fn_den (N := ["net", "found"]) (k := 5) T.F_most_idle sc_most_idle rfl fun cdv A outer s H E hr tk po => ⟨_, (eb_cons (es_expr (ek_call K (ok_check_net T) (hr.mono (by decide)) T.g_check_net T.F_check_net.kp T.b_check_net tk (ea_cons (ee_var 0) ea_nil)))
      (eb_cons (es_asgF 1 sc_most_idle.nd (ek_call K (ok_find_idle T) (hr.mono (by decide)) T.g_find_idle T.F_find_idle.kp T.b_find_idle tk (ea_cons (ee_var 0) ea_nil)))
      (eb_cons (es_while po (tk_ne K hr.units (ee_var 1) (ee_lst ed_nil)) (eb_cons (es_asgF 0 sc_most_idle.nd (ek_call K (ok_drop T) (hr.mono (by decide)) T.g_drop T.F_drop.kp T.b_drop tk (ea_cons (ee_var 0) (ea_cons (ek_ix K (ek_ix K (ee_var 1) ee_int) ee_int) (ea_cons (ek_ix K (ek_ix K (ee_var 1) ee_int) ee_int) ea_nil)))))
      (eb_one (es_asgF 1 sc_most_idle.nd (ek_call K (ok_find_idle T) (hr.mono (by decide)) T.g_find_idle T.F_find_idle.kp T.b_find_idle tk (ea_cons (ee_var 0) ea_nil))))))
      (eb_one (es_retV 0)))))⟩

theorem ok_find_places (T : Fx K mg) : FnOk P w K mg base (L2.CX P w) 2 T.f_find_places T.fd_find_places ["net"] (spD K mg 1 d_find_places) :=
  fn_den (N := ["net", "level", "found", "later", "road", "state", "behind", "other"]) (k := 1) T.F_find_places sc_find_places rfl fun cdv A outer s H E hr tk po => ⟨_, (eb_cons (es_setLcF 1 (own := [("road", 4)]) sc_find_places.nd (ei_range1 (ek_len K T.m_len (ed_cons (ek_ix K (ee_var 0) ee_int) ed_nil)) T.m_range) (blkOk_by (N := ["net", "level", "found", "later", "road", "state", "behind", "other"]) (sc := defScope s_find_places) (by decide +kernel)) (fun _ _ _ _ _ => (eg_name 4 sc_find_places.nd)) (fun _ _ _ _ _ => ets_nil) (fun _ _ _ _ _ => (ee_tup (ed_cons (ee_var 4) (ed_cons ee_int ed_nil)))))
      (eb_cons (es_asg 2 sc_find_places.nd ee_dnewT)
      (eb_cons (es_while po (tk_ne K hr.units (ee_var 1) (ee_lst ed_nil)) (eb_cons (es_asg 3 sc_find_places.nd (ee_lst ed_nil))
      (eb_cons (es_for po (ik_seq K (ee_var 1)) (gk_tup K (egs_cons (eg_name 4 sc_find_places.nd) (egs_cons (eg_name 5 sc_find_places.nd) egs_nil))) (eb_one (es_if (et_dNinT 2 (hu_of hr) (ee_tup (ed_cons (ee_var 4) (ed_cons (ee_var 5) ed_nil)))) (eb_cons (es_dputT 2 (hu_of hr) (ee_tup (ed_cons (ee_var 4) (ed_cons (ee_var 5) ed_nil))) (he := ee_bl))
      (eb_cons (es_asgF 6 sc_find_places.nd (ek_call K (ok_go_over T) (hr.mono (by decide)) T.g_go_over T.F_go_over.kp T.b_go_over tk (ea_cons (ee_var 0) (ea_cons (ek_call K (ok_leave T) (hr.mono (by decide)) T.g_leave T.F_leave.kp T.b_leave tk (ea_cons (ee_var 0) (ea_cons (ee_var 4) (ea_cons (ee_var 5) ea_nil)))) ea_nil))))
      (eb_one (es_ext 3 (ee_lc (own := [("other", 7)]) sc_find_places.nd (ik_seq K (ek_call K (ok_find_followers T) (hr.mono (by decide)) T.g_find_followers T.F_find_followers.kp T.b_find_followers tk (ea_cons (ee_var 0) (ea_cons (ee_var 4) ea_nil)))) (blkOk_by (N := ["net", "level", "found", "later", "road", "state", "behind", "other"]) (sc := defScope s_find_places) (by decide +kernel)) (fun _ _ _ _ _ => (eg_name 7 sc_find_places.nd)) (fun _ _ _ _ _ => ets_nil) (fun _ _ _ _ _ => (ee_tup (ed_cons (ee_var 7) (ed_cons (ee_var 6) ed_nil))))))))) eb_nil)))
      (eb_one (es_frz 3 (es_asgF 1 sc_find_places.nd (ee_var 3)))))))
      (eb_one (es_ret (ee_sortedDT 2 hr.units T.m_sorted))))))⟩

theorem ok_find_states (T : Fx K mg) : FnOk P w K mg base (L2.CX P w) 3 T.f_find_states T.fd_find_states ["net", "road"] (spD K mg 2 d_find_states) :=
  fn_den (N := ["net", "road", "other", "state"]) (k := 2) T.F_find_states sc_find_states rfl fun cdv A outer s H E hr tk po => ⟨_, (eb_one (es_ret (ee_lc (own := [("other", 2), ("state", 3)]) sc_find_states.nd (ik_seq K (ek_call K (ok_find_places T) (hr.mono (by decide)) T.g_find_places T.F_find_places.kp T.b_find_places tk (ea_cons (ee_var 0) ea_nil))) (blkOk_by (N := ["net", "road", "other", "state"]) (sc := defScope s_find_states) (by decide +kernel)) (fun _ _ _ _ _ => (gk_tup K (egs_cons (eg_name 2 sc_find_states.nd) (egs_cons (eg_name 3 sc_find_states.nd) egs_nil)))) (fun _ _ _ _ _ => (ets_one (tk_eq K hr.units (ee_var 2) (ee_var 1)))) (fun _ _ _ _ _ => (ee_var 3)))))⟩

theorem ok_states_at (T : Fx K mg) : FnOk P w K mg base (L2.CX P w) 7 T.f_states_at T.fd_states_at ["net", "road"] (spD K mg 2 d_states_at) :=
  fn_den (N := ["net", "road"]) (k := 6) T.F_states_at sc_states_at rfl fun cdv A outer s H E hr tk po => ⟨_, (eb_cons (es_expr (ek_call K (ok_check_road T) (hr.mono (by decide)) T.g_check_road T.F_check_road.kp T.b_check_road tk (ea_cons (ee_var 0) (ea_cons (ee_var 1) ea_nil))))
      (eb_one (es_ret (ek_call K (ok_find_states T) (hr.mono (by decide)) T.g_find_states T.F_find_states.kp T.b_find_states tk (ea_cons (ee_var 0) (ea_cons (ee_var 1) ea_nil))))))⟩

theorem ok_find_possible (T : Fx K mg) : FnOk P w K mg base (L2.CX P w) 4 T.f_find_possible T.fd_find_possible ["net", "road", "piece"] (spD K mg 3 d_find_possible) :=
  fn_den (N := ["net", "road", "piece", "state"]) (k := 3) T.F_find_possible sc_find_possible rfl fun cdv A outer s H E hr tk po => ⟨_, (eb_one (es_ret (ek_setSorted K w T.m_sorted T.m_set (ee_lc (own := [("state", 3)]) sc_find_possible.nd (ik_seq K (ek_call K (ok_find_states T) (hr.mono (by decide)) T.g_find_states T.F_find_states.kp T.b_find_states tk (ea_cons (ee_var 0) (ea_cons (ee_var 1) ea_nil)))) (blkOk_by (N := ["net", "road", "piece", "state"]) (sc := defScope s_find_possible) (by decide +kernel)) (fun _ _ _ _ _ => (eg_name 3 sc_find_possible.nd)) (fun _ _ _ _ _ => ets_nil) (fun _ _ _ _ _ => (ek_ix K (ek_call K (ok_pieces T) (hr.mono (by decide)) T.g_pieces T.F_pieces.kp T.b_pieces takes0 (ea_cons (ee_var 0) (ea_cons (ee_var 1) (ea_cons (ee_var 3) ea_nil)))) (ee_var 2)))))))⟩

theorem ok_possible (T : Fx K mg) : FnOk P w K mg base (L2.CX P w) 7 T.f_possible T.fd_possible ["net", "road", "piece"] (spD K mg 3 d_possible) :=
  fn_den (N := ["net", "road", "piece"]) (k := 6) T.F_possible sc_possible rfl fun cdv A outer s H E hr tk po => ⟨_, (eb_cons (es_expr (ek_call K (ok_check_road T) (hr.mono (by decide)) T.g_check_road T.F_check_road.kp T.b_check_road tk (ea_cons (ee_var 0) (ea_cons (ee_var 1) ea_nil))))
      (eb_cons (es_if (et_not (et_val (ek_call K (ok_is_int T) (hr.mono (by decide)) T.g_is_int T.F_is_int.kp T.b_is_int tk (ea_cons (ee_var 2) (ea_cons ee_int (ea_cons (ek_len K T.m_len (ed_cons (ek_ix K (ek_ix K (ek_ix K (ee_var 0) ee_int) (ee_var 1)) ee_int) ed_nil)) ea_nil)))))) (eb_one (es_raise tk PySem.F.excBase_ValueError T.x_InvalidPiece T.gc_InvalidPiece T.k_InvalidPiece (raises_own T.sb_InvalidPiece T.ty_InvalidPiece))) eb_nil)
      (eb_one (es_ret (ek_call K (ok_find_possible T) (hr.mono (by decide)) T.g_find_possible T.F_find_possible.kp T.b_find_possible tk (ea_cons (ee_var 0) (ea_cons (ee_var 1) (ea_cons (ee_var 2) ea_nil))))))))⟩

theorem ok_find_unclear (T : Fx K mg) : FnOk P w K mg base (L2.CX P w) 5 T.f_find_unclear T.fd_find_unclear ["net"] (spD K mg 1 d_find_unclear) :=
  fn_den (N := ["net", "road"]) (k := 4) T.F_find_unclear sc_find_unclear rfl fun cdv A outer s H E hr tk po => ⟨_, (eb_one (es_ret (ee_lc (own := [("road", 1)]) sc_find_unclear.nd (ei_range1 (ek_len K T.m_len (ed_cons (ek_ix K (ee_var 0) ee_int) ed_nil)) T.m_range) (blkOk_by (N := ["net", "road"]) (sc := defScope s_find_unclear) (by decide +kernel)) (fun _ _ _ _ _ => (eg_name 1 sc_find_unclear.nd)) (fun _ _ _ _ _ => (ets_one (et_cmp op_gt od_gt (ek_len K T.m_len (ed_cons (ek_call K (ok_find_possible T) (hr.mono (by decide)) T.g_find_possible T.F_find_possible.kp T.b_find_possible takes0 (ea_cons (ee_var 0) (ea_cons (ee_var 1) (ea_cons ee_int ea_nil)))) ed_nil)) ee_int (nomark _)))) (fun _ _ _ _ _ => (ee_var 1)))))⟩

theorem ok_unclear (T : Fx K mg) : FnOk P w K mg base (L2.CX P w) 6 T.f_unclear T.fd_unclear ["net"] (spD K mg 1 d_unclear) :=
  fn_den (N := ["net"]) (k := 5) T.F_unclear sc_unclear rfl fun cdv A outer s H E hr tk po => ⟨_, (eb_cons (es_expr (ek_call K (ok_check_net T) (hr.mono (by decide)) T.g_check_net T.F_check_net.kp T.b_check_net tk (ea_cons (ee_var 0) ea_nil)))
      (eb_one (es_ret (ek_call K (ok_find_unclear T) (hr.mono (by decide)) T.g_find_unclear T.F_find_unclear.kp T.b_find_unclear tk (ea_cons (ee_var 0) ea_nil)))))⟩

theorem ok_is_clear (T : Fx K mg) : FnOk P w K mg base (L2.CX P w) 6 T.f_is_clear T.fd_is_clear ["net"] (spD K mg 1 d_is_clear) :=
  fn_den (N := ["net"]) (k := 5) T.F_is_clear sc_is_clear rfl fun cdv A outer s H E hr tk po => ⟨_, (eb_cons (es_expr (ek_call K (ok_check_net T) (hr.mono (by decide)) T.g_check_net T.F_check_net.kp T.b_check_net tk (ea_cons (ee_var 0) ea_nil)))
      (eb_one (es_ret (ek_eq K hr.units (ek_call K (ok_find_unclear T) (hr.mono (by decide)) T.g_find_unclear T.F_find_unclear.kp T.b_find_unclear tk (ea_cons (ee_var 0) ea_nil)) (ee_lst ed_nil)))))⟩

theorem ok_find_shortest (T : Fx K mg) : FnOk P w K mg base (L2.CX P w) 3 T.f_find_shortest T.fd_find_shortest ["net", "road", "limit"] (spD K mg 3 d_find_shortest) :=
  fn_den (N := ["net", "road", "limit", "level", "known", "later", "way", "state", "behind", "one", "other"]) (k := 2) T.F_find_shortest sc_find_shortest rfl fun cdv A outer s H E hr tk po => ⟨_, (eb_cons (es_par 3 4 false true sc_find_shortest.nd (ee_lc (own := [("one", 9)]) sc_find_shortest.nd (ei_range1 (ek_len K T.m_len (ed_cons (ek_ix K (ee_var 0) ee_int) ed_nil)) T.m_range) (blkOk_by (N := ["net", "road", "limit", "level", "known", "later", "way", "state", "behind", "one", "other"]) (sc := defScope s_find_shortest) (by decide +kernel)) (fun _ _ _ _ _ => (eg_name 9 sc_find_shortest.nd)) (fun _ _ _ _ _ => ets_nil) (fun _ _ _ _ _ => (ee_tup (ed_cons (ee_tup (ed_cons (ee_var 9) ed_nil)) (ed_cons ee_int ed_nil))))) ee_dnewT)
      (eb_cons (es_while po (tk_ne K hr.units (ee_var 3) (ee_lst ed_nil)) (eb_cons (es_asg 5 sc_find_shortest.nd (ee_lst ed_nil))
      (eb_cons (es_for po (ik_seq K (ee_var 3)) (gk_tup K (egs_cons (eg_name 6 sc_find_shortest.nd) (egs_cons (eg_name 7 sc_find_shortest.nd) egs_nil))) (eb_cons (es_if (EW.et (ew_and (tk_eq K hr.units (ek_ix K (ee_var 6) (ee_un un_neg ud_neg ee_int)) (ee_var 1)) (ew_and1 (tk_eq K hr.units (ek_ix K (ek_call K (ok_pieces T) (hr.mono (by decide)) T.g_pieces T.F_pieces.kp T.b_pieces tk (ea_cons (ee_var 0) (ea_cons (ee_var 1) (ea_cons (ee_var 7) ea_nil)))) ee_int) (ee_var 2))))) (eb_one (es_retV 6)) eb_nil)
      (eb_one (es_if (et_dNinT 4 (hu_of hr) (ee_tup (ed_cons (ek_ix K (ee_var 6) (ee_un un_neg ud_neg ee_int)) (ed_cons (ee_var 7) ed_nil)))) (eb_cons (es_dputT 4 (hu_of hr) (ee_tup (ed_cons (ek_ix K (ee_var 6) (ee_un un_neg ud_neg ee_int)) (ed_cons (ee_var 7) ed_nil))) (he := ee_bl))
      (eb_cons (es_asgF 8 sc_find_shortest.nd (ek_call K (ok_go_over T) (hr.mono (by decide)) T.g_go_over T.F_go_over.kp T.b_go_over tk (ea_cons (ee_var 0) (ea_cons (ek_call K (ok_leave T) (hr.mono (by decide)) T.g_leave T.F_leave.kp T.b_leave tk (ea_cons (ee_var 0) (ea_cons (ek_ix K (ee_var 6) (ee_un un_neg ud_neg ee_int)) (ea_cons (ee_var 7) ea_nil)))) ea_nil))))
      (eb_one (es_ext 5 (ee_lc (own := [("other", 10)]) sc_find_shortest.nd (ik_seq K (ek_call K (ok_find_followers T) (hr.mono (by decide)) T.g_find_followers T.F_find_followers.kp T.b_find_followers tk (ea_cons (ee_var 0) (ea_cons (ek_ix K (ee_var 6) (ee_un un_neg ud_neg ee_int)) ea_nil)))) (blkOk_by (N := ["net", "road", "limit", "level", "known", "later", "way", "state", "behind", "one", "other"]) (sc := defScope s_find_shortest) (by decide +kernel)) (fun _ _ _ _ _ => (eg_name 10 sc_find_shortest.nd)) (fun _ _ _ _ _ => ets_nil) (fun _ _ _ _ _ => (ee_tup (ed_cons (ek_add K (ee_var 6) (ee_tup (ed_cons (ee_var 10) ed_nil))) (ed_cons (ee_var 8) ed_nil))))))))) eb_nil))))
      (eb_one (es_frz 5 (es_asgF 3 sc_find_shortest.nd (ee_var 5)))))))
      (eb_one (es_ret ee_non))))⟩

theorem ok_shortest_with (T : Fx K mg) : FnOk P w K mg base (L2.CX P w) 7 T.f_shortest_with T.fd_shortest_with ["net", "road", "limit"] (spD K mg 3 d_shortest_with) :=
  fn_den (N := ["net", "road", "limit"]) (k := 6) T.F_shortest_with sc_shortest_with rfl fun cdv A outer s H E hr tk po => ⟨_, (eb_cons (es_expr (ek_call K (ok_check_road T) (hr.mono (by decide)) T.g_check_road T.F_check_road.kp T.b_check_road tk (ea_cons (ee_var 0) (ea_cons (ee_var 1) ea_nil))))
      (eb_cons (es_if (et_not (et_val (ek_call K (ok_is_int T) (hr.mono (by decide)) T.g_is_int T.F_is_int.kp T.b_is_int tk (ea_cons (ee_var 2) (ea_cons ee_int (ea_cons (ee_globI (by rfl) T.c_MAX_LIMIT.choose_spec) ea_nil)))))) (eb_one (es_raise tk PySem.F.excBase_ValueError T.x_InvalidLimit T.gc_InvalidLimit T.k_InvalidLimit (raises_own T.sb_InvalidLimit T.ty_InvalidLimit))) eb_nil)
      (eb_one (es_ret (ek_call K (ok_find_shortest T) (hr.mono (by decide)) T.g_find_shortest T.F_find_shortest.kp T.b_find_shortest tk (ea_cons (ee_var 0) (ea_cons (ee_var 1) (ea_cons (ee_var 2) ea_nil))))))))⟩

theorem ok_witnesses (T : Fx K mg) : FnOk P w K mg base (L2.CX P w) 7 T.f_witnesses T.fd_witnesses ["net", "road"] (spD K mg 2 d_witnesses) :=
  fn_den (N := ["net", "road", "found"]) (k := 6) T.F_witnesses sc_witnesses rfl fun cdv A outer s H E hr tk po => ⟨_, (eb_cons (es_expr (ek_call K (ok_check_road T) (hr.mono (by decide)) T.g_check_road T.F_check_road.kp T.b_check_road tk (ea_cons (ee_var 0) (ea_cons (ee_var 1) ea_nil))))
      (eb_cons (es_asgF 2 sc_witnesses.nd (ek_call K (ok_find_possible T) (hr.mono (by decide)) T.g_find_possible T.F_find_possible.kp T.b_find_possible tk (ea_cons (ee_var 0) (ea_cons (ee_var 1) (ea_cons ee_int ea_nil)))))
      (eb_cons (es_if (tk_eq K hr.units (ek_len K T.m_len (ed_cons (ee_var 2) ed_nil)) ee_int) (eb_one (es_ret ee_non)) eb_nil)
      (eb_one (es_ret (ee_tup (ed_cons (ek_call K (ok_find_shortest T) (hr.mono (by decide)) T.g_find_shortest T.F_find_shortest.kp T.b_find_shortest tk (ea_cons (ee_var 0) (ea_cons (ee_var 1) (ea_cons (ek_ix K (ee_var 2) ee_int) ea_nil)))) (ed_cons (ek_call K (ok_find_shortest T) (hr.mono (by decide)) T.g_find_shortest T.F_find_shortest.kp T.b_find_shortest tk (ea_cons (ee_var 0) (ea_cons (ee_var 1) (ea_cons (ek_ix K (ee_var 2) (ee_un un_neg ud_neg ee_int)) ea_nil)))) ed_nil))))))))⟩

theorem ok_farthest (T : Fx K mg) : FnOk P w K mg base (L2.CX P w) 7 T.f_farthest T.fd_farthest ["net", "road"] (spD K mg 2 d_farthest) :=
  fn_den (N := ["net", "road", "level", "many", "later", "one"]) (k := 6) T.F_farthest sc_farthest rfl fun cdv A outer s H E hr tk po => ⟨_, (eb_cons (es_expr (ek_call K (ok_check_road T) (hr.mono (by decide)) T.g_check_road T.F_check_road.kp T.b_check_road tk (ea_cons (ee_var 0) (ea_cons (ee_var 1) ea_nil))))
      (eb_cons (es_if (EW.et (ew_or (tk_eq K hr.units (ek_ix K (ee_var 0) ee_int) ee_int) (ew_or1 (tk_eq K hr.units (ek_call K (ok_leave T) (hr.mono (by decide)) T.g_leave T.F_leave.kp T.b_leave tk (ea_cons (ee_var 0) (ea_cons (ee_var 1) (ea_cons ee_int ea_nil)))) ee_int)))) (eb_one (es_ret ee_int)) eb_nil)
      (eb_cons (es_par 2 3 false false sc_farthest.nd (ee_lst (ed_cons (ee_var 1) ed_nil)) ee_int)
      (eb_cons (es_while po (EW.et (ew_and (tk_ne K hr.units (ee_var 2) (ee_lst ed_nil)) (ew_and1 (et_cmp op_le od_le (ee_var 3) (ek_len K T.m_len (ed_cons (ek_ix K (ee_var 0) ee_int) ed_nil)) (nomark _))))) (eb_cons (es_asg 4 sc_farthest.nd (ee_lst ed_nil))
      (eb_cons (es_for po (ik_seq K (ee_var 2)) (eg_name 5 sc_farthest.nd) (eb_one (es_if (EW.et (ew_or (tk_eq K hr.units (ee_var 3) ee_int) (ew_or1 (tk_eq K hr.units (ek_ix K (ek_ix K (ek_ix K (ee_var 0) ee_int) (ee_var 5)) ee_int) (ee_tup ed_nil))))) (eb_one (es_ext 4 (ek_call K (ok_find_followers T) (hr.mono (by decide)) T.g_find_followers T.F_find_followers.kp T.b_find_followers tk (ea_cons (ee_var 0) (ea_cons (ee_var 5) ea_nil))))) eb_nil)))
      (eb_cons (es_frz 4 (es_asgF 2 sc_farthest.nd (ek_setSorted K w T.m_sorted T.m_set (ee_var 4))))
      (eb_one (es_asgF 3 sc_farthest.nd (ek_add K (ee_var 3) (ee_if (tk_ne K hr.units (ee_var 2) (ee_lst ed_nil)) ee_int ee_int))))))))
      (eb_one (es_ret (ee_if (tk_eq K hr.units (ee_var 2) (ee_lst ed_nil)) (ee_var 3) ee_non)))))))⟩

theorem ok_l_class (T : Fx K mg) : FnPin P w K mg base 1 T.f_l_class T.fd_l_class ["error"] (spCls mg knownX) :=
  fn_cls (k := 0) T.F_l_class sc_l_class rfl hcl fun cdv A outer s H E p c C hr hc hm hz hf hpn => ⟨_, (eb_cons (es_asg 1 sc_l_class.nd (ee_lst (ed_cons (ek_isP K (a := p.1) (oe := p.2) 0 (T.ec c C hc hm) hpn hz hf T.m_isinstance T.gc_InvalidNet (T.kt_InvalidNet c C hc hm)) (ed_cons (ek_isP K (a := p.1) (oe := p.2) 0 (T.ec c C hc hm) hpn hz hf T.m_isinstance T.gc_InvalidRoad (T.kt_InvalidRoad c C hc hm)) ed_nil))))
      (eb_cons (es_ext 1 (ee_lst (ed_cons (ek_isP K (a := p.1) (oe := p.2) 0 (T.ec c C hc hm) hpn hz hf T.m_isinstance T.gc_InvalidWay (T.kt_InvalidWay c C hc hm)) (ed_cons (ek_isP K (a := p.1) (oe := p.2) 0 (T.ec c C hc hm) hpn hz hf T.m_isinstance T.gc_InvalidPiece (T.kt_InvalidPiece c C hc hm)) ed_nil))))
      (eb_cons (es_ext 1 (ee_lst (ed_cons (ek_isP K (a := p.1) (oe := p.2) 0 (T.ec c C hc hm) hpn hz hf T.m_isinstance T.gc_InvalidLimit (T.kt_InvalidLimit c C hc hm)) (ed_cons (ek_isP K (a := p.1) (oe := p.2) 0 (T.ec c C hc hm) hpn hz hf T.m_isinstance T.gc_InvalidIndex (T.kt_InvalidIndex c C hc hm)) ed_nil))))
      (eb_cons (es_ext 1 (ee_lst (ed_cons (ek_isP K (a := p.1) (oe := p.2) 0 (T.ec c C hc hm) hpn hz hf T.m_isinstance T.gc_InvalidSign (T.kt_InvalidSign c C hc hm)) (ed_cons (ek_isP K (a := p.1) (oe := p.2) 0 (T.ec c C hc hm) hpn hz hf T.m_isinstance T.gc_TooMany (T.kt_TooMany c C hc hm)) ed_nil))))
      (eb_cons (es_ext 1 (ee_lst (ed_cons (ek_isP K (a := p.1) (oe := p.2) 0 (T.ec c C hc hm) hpn hz hf T.m_isinstance T.gc_OtherShape (T.kt_OtherShape c C hc hm)) ed_nil)))
      (eb_cons (es_if (EW.et (ew_or (tk_ne K (huH hr) (ek_cntO K 1) ee_int) (ew_or1 (et_not (et_val (ek_isPT K (a := p.1) (oe := p.2) 0 (T.ec c C hc hm) hpn hz hf T.m_isinstance T.m_ValueError (by decide +kernel) (T.kv c C hc hm))))))) (eb_one (es_ret ee_str)) eb_nil)
      (eb_cons (es_asg 2 sc_l_class.nd (ee_lst (ed_cons ee_str (ed_cons ee_str (ed_cons ee_str (ed_cons ee_str (ed_cons ee_str ed_nil)))))))
      (eb_cons (es_ext 2 (ee_lst (ed_cons ee_str (ed_cons ee_str (ed_cons ee_str (ed_cons ee_str ed_nil))))))
      (eb_one (es_ret (ek_oix K 2 (ek_idxO K 1))))))))))))⟩

theorem ok_l_result (T : Fx K mg) (TA : List Addr) : FnOk P w K mg base (L2.CX P w) 10 T.f_l_result T.fd_l_result ["call"] (spRes P w K mg base TA 9 knownX) :=
  fn_res T.F_l_result sc_l_result rfl rfl (.inl rfl) rfl rfl rfl T.gc_LimitError T.ex_LimitError (ok_l_class T) T.g_l_class T.F_l_class.kp T.b_l_class (by decide) (by decide) (by decide) (by decide) (by decide) (by decide) (by decide) (by decide)

theorem ok_l_all (T : Fx K mg) (TA : List Addr) : FnOk P w K mg base (L2.CX P w) 11 T.f_l_all T.fd_l_all ["calls", "name"] (spAll P w K mg base TA 9 knownX) :=
  T.F_l_all.okX sc_l_all (fun vs H Q E h => by obtain ⟨L, c, xs, rfl, _⟩ := h; rfl) fun cdv A outer s H vs Q E hr h => ⟨_, pss_one (ps_ret (pe_callB (cr_all rfl) rfl T.m_all (by decide +kernel) (pa_cons (pe_lc (own := [("call", 2)]) rfl sc_l_all.nd (pi_list (pe_var (i := 0) rfl (.inl rfl))) (blkOk_by (N := ["calls", "name", "call"]) (sc := defScope s_l_all) (by decide +kernel)) (fun _ _ _ _ _ => pg_name sc_l_all.nd (i := 2) rfl (.inl rfl) (.inr rfl)) (fun _ _ _ _ _ => pts_nil)
    (fun _ _ _ _ _ => pe_cmpR (op_eqD hr.units) (pe_callS (ok_l_result T TA) (hr.mono (by decide)) rfl T.g_l_result T.F_l_result.kp T.b_l_result (fun σ => passAt (W := fun _ _ _ _ => False) takes0 σ) (pa_cons (pe_var (i := 2) rfl (.inl rfl)) pa_nil)) (pe_tup (pa_cons pe_str (pa_cons (pe_var (i := 1) rfl (by first | exact Or.inl rfl | exact Or.inr (Or.inl rfl) | exact Or.inr (Or.inr rfl))) pa_nil))) (nomark _))) pa_nil))), all_sound rfl h⟩

theorem ok_l_pick (T : Fx K mg) : FnOk P w K mg base (L2.CX P w) 1 T.f_l_pick T.fd_l_pick ["script", "k", "many"] (spD K mg 3 d_l_pick) :=
  fn_den (N := ["script", "k", "many", "cell", "rest", "again", "drawn"]) (k := 0) T.F_l_pick sc_l_pick rfl fun cdv A outer s H E hr tk po => ⟨_, (eb_cons (es_asgF 3 sc_l_pick.nd (ee_if (tk_sne K 0 hr.units) (ek_six K 0 (ee_op op_mod od_mod (ee_var 1) (ek_slen K 0 T.m_len))) ee_int))
      (eb_cons (es_par 4 5 false false sc_l_pick.nd (ee_op op_fdivW od_div (ee_var 3) (ee_op op_pow od_pow ee_int ee_int)) (ee_op op_fdivW od_div (ee_var 1) (ee_callB (call_max2 rfl) bd_max2 T.m_max (by decide +kernel) (ed_cons (ek_slen K 0 T.m_len) (ed_cons ee_int ed_nil)))))
      (eb_cons (es_while po (EW.et (ew_and (et_cmp op_gt od_gt (ee_var 4) ee_int (nomark _)) (ew_and1 (et_cmp op_gt od_gt (ee_var 5) ee_int (nomark _))))) (eb_one (es_par 4 5 false false sc_l_pick.nd (ee_op op_fdivW od_div (ee_var 4) ee_int) (ee_op op_sub od_sub (ee_var 5) ee_int))))
      (eb_cons (es_if (et_cmp op_gt od_gt (ee_var 4) ee_int (nomark _)) (eb_one (es_ret (ee_op op_mod od_mod (ee_op op_mod od_mod (ee_var 4) ee_int) (ee_var 2)))) eb_nil)
      (eb_cons (es_asgF 6 sc_l_pick.nd (ee_op op_mod od_mod (ee_op op_mul od_mul (ek_add K (ee_op op_mul od_mul (ee_var 3) ee_int) (ee_op op_mul od_mul ee_int (ek_add K (ee_var 1) ee_int))) ee_int) ee_int))
      (eb_one (es_ret (ee_op op_mod od_mod (ee_op op_mod od_mod (ek_add K (ee_op op_mul od_mul (ee_var 6) (ee_var 6)) (ee_op op_fdivW od_div (ee_var 6) ee_int)) ee_int) (ee_var 2)))))))))⟩

theorem ok_l_map (T : Fx K mg) : FnOk P w K mg base (L2.CX P w) 2 T.f_l_map T.fd_l_map ["script", "at", "most"] (spD K mg 3 d_l_map) :=
  fn_den (N := ["script", "at", "most", "fast", "found", "k", "spot", "signs", "ends", "n"]) (k := 1) T.F_l_map sc_l_map rfl fun cdv A outer s H E hr tk po => ⟨_, (eb_cons (es_asgF 3 sc_l_map.nd (ek_add K ee_int (ek_call K (ok_l_pick T) (hr.mono (by decide)) T.g_l_pick T.F_l_pick.kp T.b_l_pick tk (ea_cons (ee_var 0) (ea_cons (ee_var 1) (ea_cons ee_int ea_nil))))))
      (eb_cons (es_asg 4 sc_l_map.nd (ee_lst ed_nil))
      (eb_cons (es_for po (ei_range1 (ek_add K ee_int (ek_call K (ok_l_pick T) (hr.mono (by decide)) T.g_l_pick T.F_l_pick.kp T.b_l_pick tk (ea_cons (ee_var 0) (ea_cons (ek_add K (ee_var 1) ee_int) (ea_cons (ee_var 2) ea_nil))))) T.m_range) (eg_name 5 sc_l_map.nd) (eb_cons (es_asgF 6 sc_l_map.nd (ek_add K (ek_add K (ee_var 1) ee_int) (ee_op op_mul od_mul ee_int (ee_var 5))))
      (eb_cons (es_setLcF 7 (own := [("n", 9)]) sc_l_map.nd (ei_range1 (ek_call K (ok_l_pick T) (hr.mono (by decide)) T.g_l_pick T.F_l_pick.kp T.b_l_pick tk (ea_cons (ee_var 0) (ea_cons (ek_add K (ee_var 6) ee_int) (ea_cons ee_int ea_nil)))) T.m_range) (blkOk_by (N := ["script", "at", "most", "fast", "found", "k", "spot", "signs", "ends", "n"]) (sc := defScope s_l_map) (by decide +kernel)) (fun _ _ _ _ _ => (eg_name 9 sc_l_map.nd)) (fun _ _ _ _ _ => ets_nil) (fun _ _ _ _ _ => (ek_ix K (ee_tup (ed_cons ee_int (ed_cons (ee_var 3) (ed_cons ee_int (ed_cons ee_int (ed_cons ee_int (ed_cons ee_int ed_nil))))))) (ek_call K (ok_l_pick T) (hr.mono (by decide)) T.g_l_pick T.F_l_pick.kp T.b_l_pick takes0 (ea_cons (ee_var 0) (ea_cons (ek_add K (ee_var 6) (ee_var 9)) (ea_cons ee_int ea_nil)))))))
      (eb_cons (es_asgF 8 sc_l_map.nd (ee_tup (ed_cons (ek_call K (ok_l_pick T) (hr.mono (by decide)) T.g_l_pick T.F_l_pick.kp T.b_l_pick tk (ea_cons (ee_var 0) (ea_cons (ek_add K (ee_var 6) ee_int) (ea_cons ee_int ea_nil)))) (ed_cons (ek_call K (ok_l_pick T) (hr.mono (by decide)) T.g_l_pick T.F_l_pick.kp T.b_l_pick tk (ea_cons (ee_var 0) (ea_cons (ek_add K (ee_var 6) ee_int) (ea_cons ee_int ea_nil)))) ed_nil))))
      (eb_one (es_app 4 (ek_add K (ee_var 8) (ee_tup (ed_cons (ek_call K (ok_l_pick T) (hr.mono (by decide)) T.g_l_pick T.F_l_pick.kp T.b_l_pick tk (ea_cons (ee_var 0) (ea_cons (ek_add K (ee_var 6) ee_int) (ea_cons ee_int ea_nil)))) (ed_cons (ek_tuple K T.m_tuple (ed_cons (ee_var 7) ed_nil)) ed_nil))))))))))
      (eb_one (es_frz 4 (es_ret (ee_tup (ed_cons (ee_var 3) (ed_cons (ek_add K ee_int (ek_call K (ok_l_pick T) (hr.mono (by decide)) T.g_l_pick T.F_l_pick.kp T.b_l_pick tk (ea_cons (ee_var 0) (ea_cons (ek_add K (ee_var 1) ee_int) (ea_cons (ee_var 3) ea_nil))))) (ed_cons (ee_if (et_cmp op_gt od_gt (ek_call K (ok_l_pick T) (hr.mono (by decide)) T.g_l_pick T.F_l_pick.kp T.b_l_pick tk (ea_cons (ee_var 0) (ea_cons (ek_add K (ee_var 1) ee_int) (ea_cons ee_int ea_nil)))) ee_int (nomark _)) ee_int ee_int) (ed_cons (ek_tuple K T.m_tuple (ed_cons (ee_var 4) ed_nil)) ed_nil)))))))))))⟩

abbrev x_l_nets_la1 : Expr := lamOf ((defBody s_l_nets).getD 0 (.Pass ⟨0, 0, 0, 0⟩))
theorem la_l_nets_la1 (T : Fx K mg) (B : Bx T base) {A : Around} {outer : List Env} {s : Shared} {H : Hp} {E : XK} : LamD (cxOf (L2.CX P w) P w K mg base ["some", "no", "calls"] "_law_nets" (defScope s_l_nets) T.f_l_nets (.ref T.ca_l_nets) A outer s H E) (TT T) 8 T.ca_l_nets T.ta_l_nets (lamA x_l_nets_la1) (lamB x_l_nets_la1) (lamS x_l_nets_la1) [1] e_l_nets_la1 :=
  ⟨B.tb_l_nets, rfl, hm_l_nets T, hu_l_nets T, NdefX.ndef_free (sc := defScope s_l_nets) (nsc := lamS x_l_nets_la1) (fr := ["no"]) (by decide +kernel), rfl, ["no"], rfl, fun c' => ⟨NdefX.nscope_by (sc := lamS x_l_nets_la1) (by decide +kernel), fun _ _ _ _ _ => rfl, fun f A outer s H E hr tk po => ⟨_, (ek_call K (ok_is_way T) (hr.mono (by decide)) T.g_is_way T.F_is_way.kp T.b_is_way tk (ea_cons (ee_var 0) (ea_cons ee_non ea_nil)))⟩⟩⟩

abbrev x_l_nets_la2 : Expr := lamOf ((defBody s_l_nets).getD 1 (.Pass ⟨0, 0, 0, 0⟩))
theorem la_l_nets_la2 (T : Fx K mg) (B : Bx T base) {A : Around} {outer : List Env} {s : Shared} {H : Hp} {E : XK} : LamD (cxOf (L2.CX P w) P w K mg base ["some", "no", "calls"] "_law_nets" (defScope s_l_nets) T.f_l_nets (.ref T.ca_l_nets) A outer s H E) (TT T) 8 T.ca_l_nets T.ta_l_nets (lamA x_l_nets_la2) (lamB x_l_nets_la2) (lamS x_l_nets_la2) [1] e_l_nets_la2 :=
  ⟨B.tb_l_nets, rfl, hm_l_nets T, hu_l_nets T, NdefX.ndef_free (sc := defScope s_l_nets) (nsc := lamS x_l_nets_la2) (fr := ["no"]) (by decide +kernel), rfl, ["no"], rfl, fun c' => ⟨NdefX.nscope_by (sc := lamS x_l_nets_la2) (by decide +kernel), fun _ _ _ _ _ => rfl, fun f A outer s H E hr tk po => ⟨_, (ek_call K (ok_followers T) (hr.mono (by decide)) T.g_followers T.F_followers.kp T.b_followers tk (ea_cons (ee_var 0) (ea_cons (ee_un un_neg ud_neg ee_int) ea_nil)))⟩⟩⟩

abbrev x_l_nets_la3 : Expr := lamOf ((defBody s_l_nets).getD 2 (.Pass ⟨0, 0, 0, 0⟩))
theorem la_l_nets_la3 (T : Fx K mg) (B : Bx T base) {A : Around} {outer : List Env} {s : Shared} {H : Hp} {E : XK} : LamD (cxOf (L2.CX P w) P w K mg base ["some", "no", "calls"] "_law_nets" (defScope s_l_nets) T.f_l_nets (.ref T.ca_l_nets) A outer s H E) (TT T) 8 T.ca_l_nets T.ta_l_nets (lamA x_l_nets_la3) (lamB x_l_nets_la3) (lamS x_l_nets_la3) [1] e_l_nets_la3 :=
  ⟨B.tb_l_nets, rfl, hm_l_nets T, hu_l_nets T, NdefX.ndef_free (sc := defScope s_l_nets) (nsc := lamS x_l_nets_la3) (fr := ["no"]) (by decide +kernel), rfl, ["no"], rfl, fun c' => ⟨NdefX.nscope_by (sc := lamS x_l_nets_la3) (by decide +kernel), fun _ _ _ _ _ => rfl, fun f A outer s H E hr tk po => ⟨_, (ek_call K (ok_standing T) (hr.mono (by decide)) T.g_standing T.F_standing.kp T.b_standing tk (ea_cons (ee_var 0) (ea_cons (ee_un un_neg ud_neg ee_int) ea_nil)))⟩⟩⟩

abbrev x_l_nets_la4 : Expr := lamOf ((defBody s_l_nets).getD 3 (.Pass ⟨0, 0, 0, 0⟩))
theorem la_l_nets_la4 (T : Fx K mg) (B : Bx T base) {A : Around} {outer : List Env} {s : Shared} {H : Hp} {E : XK} : LamD (cxOf (L2.CX P w) P w K mg base ["some", "no", "calls"] "_law_nets" (defScope s_l_nets) T.f_l_nets (.ref T.ca_l_nets) A outer s H E) (TT T) 8 T.ca_l_nets T.ta_l_nets (lamA x_l_nets_la4) (lamB x_l_nets_la4) (lamS x_l_nets_la4) [1] e_l_nets_la4 :=
  ⟨B.tb_l_nets, rfl, hm_l_nets T, hu_l_nets T, NdefX.ndef_free (sc := defScope s_l_nets) (nsc := lamS x_l_nets_la4) (fr := ["no"]) (by decide +kernel), rfl, ["no"], rfl, fun c' => ⟨NdefX.nscope_by (sc := lamS x_l_nets_la4) (by decide +kernel), fun _ _ _ _ _ => rfl, fun f A outer s H E hr tk po => ⟨_, (ek_call K (ok_count_pieces T) (hr.mono (by decide)) T.g_count_pieces T.F_count_pieces.kp T.b_count_pieces tk (ea_cons (ee_var 0) ea_nil))⟩⟩⟩

abbrev x_l_nets_la5 : Expr := lamOf ((defBody s_l_nets).getD 4 (.Pass ⟨0, 0, 0, 0⟩))
theorem la_l_nets_la5 (T : Fx K mg) (B : Bx T base) {A : Around} {outer : List Env} {s : Shared} {H : Hp} {E : XK} : LamD (cxOf (L2.CX P w) P w K mg base ["some", "no", "calls"] "_law_nets" (defScope s_l_nets) T.f_l_nets (.ref T.ca_l_nets) A outer s H E) (TT T) 8 T.ca_l_nets T.ta_l_nets (lamA x_l_nets_la5) (lamB x_l_nets_la5) (lamS x_l_nets_la5) [1] e_l_nets_la5 :=
  ⟨B.tb_l_nets, rfl, hm_l_nets T, hu_l_nets T, NdefX.ndef_free (sc := defScope s_l_nets) (nsc := lamS x_l_nets_la5) (fr := ["no"]) (by decide +kernel), rfl, ["no"], rfl, fun c' => ⟨NdefX.nscope_by (sc := lamS x_l_nets_la5) (by decide +kernel), fun _ _ _ _ _ => rfl, fun f A outer s H E hr tk po => ⟨_, (ek_call K (ok_limits T) (hr.mono (by decide)) T.g_limits T.F_limits.kp T.b_limits tk (ea_cons (ee_var 0) (ea_cons ee_non ea_nil)))⟩⟩⟩

abbrev x_l_nets_la6 : Expr := lamOf ((defBody s_l_nets).getD 5 (.Pass ⟨0, 0, 0, 0⟩))
theorem la_l_nets_la6 (T : Fx K mg) (B : Bx T base) {A : Around} {outer : List Env} {s : Shared} {H : Hp} {E : XK} : LamD (cxOf (L2.CX P w) P w K mg base ["some", "no", "calls"] "_law_nets" (defScope s_l_nets) T.f_l_nets (.ref T.ca_l_nets) A outer s H E) (TT T) 8 T.ca_l_nets T.ta_l_nets (lamA x_l_nets_la6) (lamB x_l_nets_la6) (lamS x_l_nets_la6) [1] e_l_nets_la6 :=
  ⟨B.tb_l_nets, rfl, hm_l_nets T, hu_l_nets T, NdefX.ndef_free (sc := defScope s_l_nets) (nsc := lamS x_l_nets_la6) (fr := ["no"]) (by decide +kernel), rfl, ["no"], rfl, fun c' => ⟨NdefX.nscope_by (sc := lamS x_l_nets_la6) (by decide +kernel), fun _ _ _ _ _ => rfl, fun f A outer s H E hr tk po => ⟨_, (ek_call K (ok_state_after T) (hr.mono (by decide)) T.g_state_after T.F_state_after.kp T.b_state_after tk (ea_cons (ee_var 0) (ea_cons ee_non ea_nil)))⟩⟩⟩

abbrev x_l_nets_la7 : Expr := lamOf ((defBody s_l_nets).getD 6 (.Pass ⟨0, 0, 0, 0⟩))
theorem la_l_nets_la7 (T : Fx K mg) (B : Bx T base) {A : Around} {outer : List Env} {s : Shared} {H : Hp} {E : XK} : LamD (cxOf (L2.CX P w) P w K mg base ["some", "no", "calls"] "_law_nets" (defScope s_l_nets) T.f_l_nets (.ref T.ca_l_nets) A outer s H E) (TT T) 8 T.ca_l_nets T.ta_l_nets (lamA x_l_nets_la7) (lamB x_l_nets_la7) (lamS x_l_nets_la7) [1] e_l_nets_la7 :=
  ⟨B.tb_l_nets, rfl, hm_l_nets T, hu_l_nets T, NdefX.ndef_free (sc := defScope s_l_nets) (nsc := lamS x_l_nets_la7) (fr := ["no"]) (by decide +kernel), rfl, ["no"], rfl, fun c' => ⟨NdefX.nscope_by (sc := lamS x_l_nets_la7) (by decide +kernel), fun _ _ _ _ _ => rfl, fun f A outer s H E hr tk po => ⟨_, (ek_call K (ok_changes T) (hr.mono (by decide)) T.g_changes T.F_changes.kp T.b_changes tk (ea_cons (ee_var 0) (ea_cons ee_non ea_nil)))⟩⟩⟩

abbrev x_l_nets_la8 : Expr := lamOf ((defBody s_l_nets).getD 7 (.Pass ⟨0, 0, 0, 0⟩))
theorem la_l_nets_la8 (T : Fx K mg) (B : Bx T base) {A : Around} {outer : List Env} {s : Shared} {H : Hp} {E : XK} : LamD (cxOf (L2.CX P w) P w K mg base ["some", "no", "calls"] "_law_nets" (defScope s_l_nets) T.f_l_nets (.ref T.ca_l_nets) A outer s H E) (TT T) 8 T.ca_l_nets T.ta_l_nets (lamA x_l_nets_la8) (lamB x_l_nets_la8) (lamS x_l_nets_la8) [1] e_l_nets_la8 :=
  ⟨B.tb_l_nets, rfl, hm_l_nets T, hu_l_nets T, NdefX.ndef_free (sc := defScope s_l_nets) (nsc := lamS x_l_nets_la8) (fr := ["no"]) (by decide +kernel), rfl, ["no"], rfl, fun c' => ⟨NdefX.nscope_by (sc := lamS x_l_nets_la8) (by decide +kernel), fun _ _ _ _ _ => rfl, fun f A outer s H E hr tk po => ⟨_, (ek_call K (ok_least_limit T) (hr.mono (by decide)) T.g_least_limit T.F_least_limit.kp T.b_least_limit tk (ea_cons (ee_var 0) (ea_cons ee_non ea_nil)))⟩⟩⟩

abbrev x_l_nets_la9 : Expr := lamOf ((defBody s_l_nets).getD 8 (.Pass ⟨0, 0, 0, 0⟩))
theorem la_l_nets_la9 (T : Fx K mg) (B : Bx T base) {A : Around} {outer : List Env} {s : Shared} {H : Hp} {E : XK} : LamD (cxOf (L2.CX P w) P w K mg base ["some", "no", "calls"] "_law_nets" (defScope s_l_nets) T.f_l_nets (.ref T.ca_l_nets) A outer s H E) (TT T) 8 T.ca_l_nets T.ta_l_nets (lamA x_l_nets_la9) (lamB x_l_nets_la9) (lamS x_l_nets_la9) [1] e_l_nets_la9 :=
  ⟨B.tb_l_nets, rfl, hm_l_nets T, hu_l_nets T, NdefX.ndef_free (sc := defScope s_l_nets) (nsc := lamS x_l_nets_la9) (fr := ["no"]) (by decide +kernel), rfl, ["no"], rfl, fun c' => ⟨NdefX.nscope_by (sc := lamS x_l_nets_la9) (by decide +kernel), fun _ _ _ _ _ => rfl, fun f A outer s H E hr tk po => ⟨_, (ek_call K (ok_states_at T) (hr.mono (by decide)) T.g_states_at T.F_states_at.kp T.b_states_at tk (ea_cons (ee_var 0) (ea_cons (ee_un un_neg ud_neg ee_int) ea_nil)))⟩⟩⟩

abbrev x_l_nets_la10 : Expr := lamOf ((defBody s_l_nets).getD 9 (.Pass ⟨0, 0, 0, 0⟩))
theorem la_l_nets_la10 (T : Fx K mg) (B : Bx T base) {A : Around} {outer : List Env} {s : Shared} {H : Hp} {E : XK} : LamD (cxOf (L2.CX P w) P w K mg base ["some", "no", "calls"] "_law_nets" (defScope s_l_nets) T.f_l_nets (.ref T.ca_l_nets) A outer s H E) (TT T) 8 T.ca_l_nets T.ta_l_nets (lamA x_l_nets_la10) (lamB x_l_nets_la10) (lamS x_l_nets_la10) [1] e_l_nets_la10 :=
  ⟨B.tb_l_nets, rfl, hm_l_nets T, hu_l_nets T, NdefX.ndef_free (sc := defScope s_l_nets) (nsc := lamS x_l_nets_la10) (fr := ["no"]) (by decide +kernel), rfl, ["no"], rfl, fun c' => ⟨NdefX.nscope_by (sc := lamS x_l_nets_la10) (by decide +kernel), fun _ _ _ _ _ => rfl, fun f A outer s H E hr tk po => ⟨_, (ek_call K (ok_possible T) (hr.mono (by decide)) T.g_possible T.F_possible.kp T.b_possible tk (ea_cons (ee_var 0) (ea_cons (ee_un un_neg ud_neg ee_int) (ea_cons (ee_un un_neg ud_neg ee_int) ea_nil))))⟩⟩⟩

abbrev x_l_nets_la11 : Expr := lamOf ((defBody s_l_nets).getD 10 (.Pass ⟨0, 0, 0, 0⟩))
theorem la_l_nets_la11 (T : Fx K mg) (B : Bx T base) {A : Around} {outer : List Env} {s : Shared} {H : Hp} {E : XK} : LamD (cxOf (L2.CX P w) P w K mg base ["some", "no", "calls"] "_law_nets" (defScope s_l_nets) T.f_l_nets (.ref T.ca_l_nets) A outer s H E) (TT T) 8 T.ca_l_nets T.ta_l_nets (lamA x_l_nets_la11) (lamB x_l_nets_la11) (lamS x_l_nets_la11) [1] e_l_nets_la11 :=
  ⟨B.tb_l_nets, rfl, hm_l_nets T, hu_l_nets T, NdefX.ndef_free (sc := defScope s_l_nets) (nsc := lamS x_l_nets_la11) (fr := ["no"]) (by decide +kernel), rfl, ["no"], rfl, fun c' => ⟨NdefX.nscope_by (sc := lamS x_l_nets_la11) (by decide +kernel), fun _ _ _ _ _ => rfl, fun f A outer s H E hr tk po => ⟨_, (ek_call K (ok_unclear T) (hr.mono (by decide)) T.g_unclear T.F_unclear.kp T.b_unclear tk (ea_cons (ee_var 0) ea_nil))⟩⟩⟩

abbrev x_l_nets_la12 : Expr := lamOf ((defBody s_l_nets).getD 11 (.Pass ⟨0, 0, 0, 0⟩))
theorem la_l_nets_la12 (T : Fx K mg) (B : Bx T base) {A : Around} {outer : List Env} {s : Shared} {H : Hp} {E : XK} : LamD (cxOf (L2.CX P w) P w K mg base ["some", "no", "calls"] "_law_nets" (defScope s_l_nets) T.f_l_nets (.ref T.ca_l_nets) A outer s H E) (TT T) 8 T.ca_l_nets T.ta_l_nets (lamA x_l_nets_la12) (lamB x_l_nets_la12) (lamS x_l_nets_la12) [1] e_l_nets_la12 :=
  ⟨B.tb_l_nets, rfl, hm_l_nets T, hu_l_nets T, NdefX.ndef_free (sc := defScope s_l_nets) (nsc := lamS x_l_nets_la12) (fr := ["no"]) (by decide +kernel), rfl, ["no"], rfl, fun c' => ⟨NdefX.nscope_by (sc := lamS x_l_nets_la12) (by decide +kernel), fun _ _ _ _ _ => rfl, fun f A outer s H E hr tk po => ⟨_, (ek_call K (ok_is_clear T) (hr.mono (by decide)) T.g_is_clear T.F_is_clear.kp T.b_is_clear tk (ea_cons (ee_var 0) ea_nil))⟩⟩⟩

abbrev x_l_nets_la13 : Expr := lamOf ((defBody s_l_nets).getD 12 (.Pass ⟨0, 0, 0, 0⟩))
theorem la_l_nets_la13 (T : Fx K mg) (B : Bx T base) {A : Around} {outer : List Env} {s : Shared} {H : Hp} {E : XK} : LamD (cxOf (L2.CX P w) P w K mg base ["some", "no", "calls"] "_law_nets" (defScope s_l_nets) T.f_l_nets (.ref T.ca_l_nets) A outer s H E) (TT T) 8 T.ca_l_nets T.ta_l_nets (lamA x_l_nets_la13) (lamB x_l_nets_la13) (lamS x_l_nets_la13) [1] e_l_nets_la13 :=
  ⟨B.tb_l_nets, rfl, hm_l_nets T, hu_l_nets T, NdefX.ndef_free (sc := defScope s_l_nets) (nsc := lamS x_l_nets_la13) (fr := ["no"]) (by decide +kernel), rfl, ["no"], rfl, fun c' => ⟨NdefX.nscope_by (sc := lamS x_l_nets_la13) (by decide +kernel), fun _ _ _ _ _ => rfl, fun f A outer s H E hr tk po => ⟨_, (ek_call K (ok_shortest_with T) (hr.mono (by decide)) T.g_shortest_with T.F_shortest_with.kp T.b_shortest_with tk (ea_cons (ee_var 0) (ea_cons (ee_un un_neg ud_neg ee_int) (ea_cons ee_int ea_nil))))⟩⟩⟩

abbrev x_l_nets_la14 : Expr := lamOf ((defBody s_l_nets).getD 13 (.Pass ⟨0, 0, 0, 0⟩))
theorem la_l_nets_la14 (T : Fx K mg) (B : Bx T base) {A : Around} {outer : List Env} {s : Shared} {H : Hp} {E : XK} : LamD (cxOf (L2.CX P w) P w K mg base ["some", "no", "calls"] "_law_nets" (defScope s_l_nets) T.f_l_nets (.ref T.ca_l_nets) A outer s H E) (TT T) 8 T.ca_l_nets T.ta_l_nets (lamA x_l_nets_la14) (lamB x_l_nets_la14) (lamS x_l_nets_la14) [1] e_l_nets_la14 :=
  ⟨B.tb_l_nets, rfl, hm_l_nets T, hu_l_nets T, NdefX.ndef_free (sc := defScope s_l_nets) (nsc := lamS x_l_nets_la14) (fr := ["no"]) (by decide +kernel), rfl, ["no"], rfl, fun c' => ⟨NdefX.nscope_by (sc := lamS x_l_nets_la14) (by decide +kernel), fun _ _ _ _ _ => rfl, fun f A outer s H E hr tk po => ⟨_, (ek_call K (ok_witnesses T) (hr.mono (by decide)) T.g_witnesses T.F_witnesses.kp T.b_witnesses tk (ea_cons (ee_var 0) (ea_cons (ee_un un_neg ud_neg ee_int) ea_nil)))⟩⟩⟩

abbrev x_l_nets_la15 : Expr := lamOf ((defBody s_l_nets).getD 14 (.Pass ⟨0, 0, 0, 0⟩))
theorem la_l_nets_la15 (T : Fx K mg) (B : Bx T base) {A : Around} {outer : List Env} {s : Shared} {H : Hp} {E : XK} : LamD (cxOf (L2.CX P w) P w K mg base ["some", "no", "calls"] "_law_nets" (defScope s_l_nets) T.f_l_nets (.ref T.ca_l_nets) A outer s H E) (TT T) 8 T.ca_l_nets T.ta_l_nets (lamA x_l_nets_la15) (lamB x_l_nets_la15) (lamS x_l_nets_la15) [1] e_l_nets_la15 :=
  ⟨B.tb_l_nets, rfl, hm_l_nets T, hu_l_nets T, NdefX.ndef_free (sc := defScope s_l_nets) (nsc := lamS x_l_nets_la15) (fr := ["no"]) (by decide +kernel), rfl, ["no"], rfl, fun c' => ⟨NdefX.nscope_by (sc := lamS x_l_nets_la15) (by decide +kernel), fun _ _ _ _ _ => rfl, fun f A outer s H E hr tk po => ⟨_, (ek_call K (ok_farthest T) (hr.mono (by decide)) T.g_farthest T.F_farthest.kp T.b_farthest tk (ea_cons (ee_var 0) (ea_cons (ee_un un_neg ud_neg ee_int) ea_nil)))⟩⟩⟩

abbrev x_l_nets_la16 : Expr := lamOf ((defBody s_l_nets).getD 15 (.Pass ⟨0, 0, 0, 0⟩))
theorem la_l_nets_la16 (T : Fx K mg) (B : Bx T base) {A : Around} {outer : List Env} {s : Shared} {H : Hp} {E : XK} : LamD (cxOf (L2.CX P w) P w K mg base ["some", "no", "calls"] "_law_nets" (defScope s_l_nets) T.f_l_nets (.ref T.ca_l_nets) A outer s H E) (TT T) 8 T.ca_l_nets T.ta_l_nets (lamA x_l_nets_la16) (lamB x_l_nets_la16) (lamS x_l_nets_la16) [1] e_l_nets_la16 :=
  ⟨B.tb_l_nets, rfl, hm_l_nets T, hu_l_nets T, NdefX.ndef_free (sc := defScope s_l_nets) (nsc := lamS x_l_nets_la16) (fr := ["no"]) (by decide +kernel), rfl, ["no"], rfl, fun c' => ⟨NdefX.nscope_by (sc := lamS x_l_nets_la16) (by decide +kernel), fun _ _ _ _ _ => rfl, fun f A outer s H E hr tk po => ⟨_, (ek_call K (ok_without_sign T) (hr.mono (by decide)) T.g_without_sign T.F_without_sign.kp T.b_without_sign tk (ea_cons (ee_var 0) (ea_cons (ee_un un_neg ud_neg ee_int) (ea_cons (ee_un un_neg ud_neg ee_int) ea_nil))))⟩⟩⟩

abbrev x_l_nets_la17 : Expr := lamOf ((defBody s_l_nets).getD 16 (.Pass ⟨0, 0, 0, 0⟩))
theorem la_l_nets_la17 (T : Fx K mg) (B : Bx T base) {A : Around} {outer : List Env} {s : Shared} {H : Hp} {E : XK} : LamD (cxOf (L2.CX P w) P w K mg base ["some", "no", "calls"] "_law_nets" (defScope s_l_nets) T.f_l_nets (.ref T.ca_l_nets) A outer s H E) (TT T) 8 T.ca_l_nets T.ta_l_nets (lamA x_l_nets_la17) (lamB x_l_nets_la17) (lamS x_l_nets_la17) [1] e_l_nets_la17 :=
  ⟨B.tb_l_nets, rfl, hm_l_nets T, hu_l_nets T, NdefX.ndef_free (sc := defScope s_l_nets) (nsc := lamS x_l_nets_la17) (fr := ["no"]) (by decide +kernel), rfl, ["no"], rfl, fun c' => ⟨NdefX.nscope_by (sc := lamS x_l_nets_la17) (by decide +kernel), fun _ _ _ _ _ => rfl, fun f A outer s H E hr tk po => ⟨_, (ek_call K (ok_with_sign T) (hr.mono (by decide)) T.g_with_sign T.F_with_sign.kp T.b_with_sign tk (ea_cons (ee_var 0) (ea_cons (ee_un un_neg ud_neg ee_int) (ea_cons (ee_un un_neg ud_neg ee_int) (ea_cons (ee_un un_neg ud_neg ee_int) ea_nil)))))⟩⟩⟩

abbrev x_l_nets_la18 : Expr := lamOf ((defBody s_l_nets).getD 17 (.Pass ⟨0, 0, 0, 0⟩))
theorem la_l_nets_la18 (T : Fx K mg) (B : Bx T base) {A : Around} {outer : List Env} {s : Shared} {H : Hp} {E : XK} : LamD (cxOf (L2.CX P w) P w K mg base ["some", "no", "calls"] "_law_nets" (defScope s_l_nets) T.f_l_nets (.ref T.ca_l_nets) A outer s H E) (TT T) 8 T.ca_l_nets T.ta_l_nets (lamA x_l_nets_la18) (lamB x_l_nets_la18) (lamS x_l_nets_la18) [1] e_l_nets_la18 :=
  ⟨B.tb_l_nets, rfl, hm_l_nets T, hu_l_nets T, NdefX.ndef_free (sc := defScope s_l_nets) (nsc := lamS x_l_nets_la18) (fr := ["no"]) (by decide +kernel), rfl, ["no"], rfl, fun c' => ⟨NdefX.nscope_by (sc := lamS x_l_nets_la18) (by decide +kernel), fun _ _ _ _ _ => rfl, fun f A outer s H E hr tk po => ⟨_, (ek_call K (ok_is_idle T) (hr.mono (by decide)) T.g_is_idle T.F_is_idle.kp T.b_is_idle tk (ea_cons (ee_var 0) (ea_cons (ee_un un_neg ud_neg ee_int) (ea_cons (ee_un un_neg ud_neg ee_int) ea_nil))))⟩⟩⟩

abbrev x_l_nets_la19 : Expr := lamOf ((defBody s_l_nets).getD 18 (.Pass ⟨0, 0, 0, 0⟩))
theorem la_l_nets_la19 (T : Fx K mg) (B : Bx T base) {A : Around} {outer : List Env} {s : Shared} {H : Hp} {E : XK} : LamD (cxOf (L2.CX P w) P w K mg base ["some", "no", "calls"] "_law_nets" (defScope s_l_nets) T.f_l_nets (.ref T.ca_l_nets) A outer s H E) (TT T) 8 T.ca_l_nets T.ta_l_nets (lamA x_l_nets_la19) (lamB x_l_nets_la19) (lamS x_l_nets_la19) [1] e_l_nets_la19 :=
  ⟨B.tb_l_nets, rfl, hm_l_nets T, hu_l_nets T, NdefX.ndef_free (sc := defScope s_l_nets) (nsc := lamS x_l_nets_la19) (fr := ["no"]) (by decide +kernel), rfl, ["no"], rfl, fun c' => ⟨NdefX.nscope_by (sc := lamS x_l_nets_la19) (by decide +kernel), fun _ _ _ _ _ => rfl, fun f A outer s H E hr tk po => ⟨_, (ek_call K (ok_idle_signs T) (hr.mono (by decide)) T.g_idle_signs T.F_idle_signs.kp T.b_idle_signs tk (ea_cons (ee_var 0) ea_nil))⟩⟩⟩

abbrev x_l_nets_la20 : Expr := lamOf ((defBody s_l_nets).getD 19 (.Pass ⟨0, 0, 0, 0⟩))
theorem la_l_nets_la20 (T : Fx K mg) (B : Bx T base) {A : Around} {outer : List Env} {s : Shared} {H : Hp} {E : XK} : LamD (cxOf (L2.CX P w) P w K mg base ["some", "no", "calls"] "_law_nets" (defScope s_l_nets) T.f_l_nets (.ref T.ca_l_nets) A outer s H E) (TT T) 8 T.ca_l_nets T.ta_l_nets (lamA x_l_nets_la20) (lamB x_l_nets_la20) (lamS x_l_nets_la20) [1] e_l_nets_la20 :=
  ⟨B.tb_l_nets, rfl, hm_l_nets T, hu_l_nets T, NdefX.ndef_free (sc := defScope s_l_nets) (nsc := lamS x_l_nets_la20) (fr := ["no"]) (by decide +kernel), rfl, ["no"], rfl, fun c' => ⟨NdefX.nscope_by (sc := lamS x_l_nets_la20) (by decide +kernel), fun _ _ _ _ _ => rfl, fun f A outer s H E hr tk po => ⟨_, (ek_call K (ok_same_shape T) (hr.mono (by decide)) T.g_same_shape T.F_same_shape.kp T.b_same_shape tk (ea_cons (ee_var 0) (ea_cons ee_non ea_nil)))⟩⟩⟩

abbrev x_l_nets_la21 : Expr := lamOf ((defBody s_l_nets).getD 20 (.Pass ⟨0, 0, 0, 0⟩))
theorem la_l_nets_la21 (T : Fx K mg) (B : Bx T base) {A : Around} {outer : List Env} {s : Shared} {H : Hp} {E : XK} : LamD (cxOf (L2.CX P w) P w K mg base ["some", "no", "calls"] "_law_nets" (defScope s_l_nets) T.f_l_nets (.ref T.ca_l_nets) A outer s H E) (TT T) 8 T.ca_l_nets T.ta_l_nets (lamA x_l_nets_la21) (lamB x_l_nets_la21) (lamS x_l_nets_la21) [0, 1] e_l_nets_la21 :=
  ⟨B.tb_l_nets, rfl, hm_l_nets T, hu_l_nets T, NdefX.ndef_free (sc := defScope s_l_nets) (nsc := lamS x_l_nets_la21) (fr := ["some", "no"]) (by decide +kernel), rfl, ["some", "no"], rfl, fun c' => ⟨NdefX.nscope_by (sc := lamS x_l_nets_la21) (by decide +kernel), fun _ _ _ _ _ => rfl, fun f A outer s H E hr tk po => ⟨_, (ek_call K (ok_same_shape T) (hr.mono (by decide)) T.g_same_shape T.F_same_shape.kp T.b_same_shape tk (ea_cons (ee_var 0) (ea_cons (ee_var 1) ea_nil)))⟩⟩⟩

abbrev x_l_nets_la22 : Expr := lamOf ((defBody s_l_nets).getD 21 (.Pass ⟨0, 0, 0, 0⟩))
theorem la_l_nets_la22 (T : Fx K mg) (B : Bx T base) {A : Around} {outer : List Env} {s : Shared} {H : Hp} {E : XK} : LamD (cxOf (L2.CX P w) P w K mg base ["some", "no", "calls"] "_law_nets" (defScope s_l_nets) T.f_l_nets (.ref T.ca_l_nets) A outer s H E) (TT T) 8 T.ca_l_nets T.ta_l_nets (lamA x_l_nets_la22) (lamB x_l_nets_la22) (lamS x_l_nets_la22) [1] e_l_nets_la22 :=
  ⟨B.tb_l_nets, rfl, hm_l_nets T, hu_l_nets T, NdefX.ndef_free (sc := defScope s_l_nets) (nsc := lamS x_l_nets_la22) (fr := ["no"]) (by decide +kernel), rfl, ["no"], rfl, fun c' => ⟨NdefX.nscope_by (sc := lamS x_l_nets_la22) (by decide +kernel), fun _ _ _ _ _ => rfl, fun f A outer s H E hr tk po => ⟨_, (ek_call K (ok_same_limits T) (hr.mono (by decide)) T.g_same_limits T.F_same_limits.kp T.b_same_limits tk (ea_cons (ee_var 0) (ea_cons ee_non ea_nil)))⟩⟩⟩

abbrev x_l_nets_la23 : Expr := lamOf ((defBody s_l_nets).getD 22 (.Pass ⟨0, 0, 0, 0⟩))
theorem la_l_nets_la23 (T : Fx K mg) (B : Bx T base) {A : Around} {outer : List Env} {s : Shared} {H : Hp} {E : XK} : LamD (cxOf (L2.CX P w) P w K mg base ["some", "no", "calls"] "_law_nets" (defScope s_l_nets) T.f_l_nets (.ref T.ca_l_nets) A outer s H E) (TT T) 8 T.ca_l_nets T.ta_l_nets (lamA x_l_nets_la23) (lamB x_l_nets_la23) (lamS x_l_nets_la23) [0, 1] e_l_nets_la23 :=
  ⟨B.tb_l_nets, rfl, hm_l_nets T, hu_l_nets T, NdefX.ndef_free (sc := defScope s_l_nets) (nsc := lamS x_l_nets_la23) (fr := ["some", "no"]) (by decide +kernel), rfl, ["some", "no"], rfl, fun c' => ⟨NdefX.nscope_by (sc := lamS x_l_nets_la23) (by decide +kernel), fun _ _ _ _ _ => rfl, fun f A outer s H E hr tk po => ⟨_, (ek_call K (ok_parting_way T) (hr.mono (by decide)) T.g_parting_way T.F_parting_way.kp T.b_parting_way tk (ea_cons (ee_var 0) (ea_cons (ee_var 1) ea_nil)))⟩⟩⟩

abbrev x_l_nets_la24 : Expr := lamOf ((defBody s_l_nets).getD 23 (.Pass ⟨0, 0, 0, 0⟩))
theorem la_l_nets_la24 (T : Fx K mg) (B : Bx T base) {A : Around} {outer : List Env} {s : Shared} {H : Hp} {E : XK} : LamD (cxOf (L2.CX P w) P w K mg base ["some", "no", "calls"] "_law_nets" (defScope s_l_nets) T.f_l_nets (.ref T.ca_l_nets) A outer s H E) (TT T) 8 T.ca_l_nets T.ta_l_nets (lamA x_l_nets_la24) (lamB x_l_nets_la24) (lamS x_l_nets_la24) [1] e_l_nets_la24 :=
  ⟨B.tb_l_nets, rfl, hm_l_nets T, hu_l_nets T, NdefX.ndef_free (sc := defScope s_l_nets) (nsc := lamS x_l_nets_la24) (fr := ["no"]) (by decide +kernel), rfl, ["no"], rfl, fun c' => ⟨NdefX.nscope_by (sc := lamS x_l_nets_la24) (by decide +kernel), fun _ _ _ _ _ => rfl, fun f A outer s H E hr tk po => ⟨_, (ek_call K (ok_most_idle T) (hr.mono (by decide)) T.g_most_idle T.F_most_idle.kp T.b_most_idle tk (ea_cons (ee_var 0) ea_nil))⟩⟩⟩
theorem ok_l_nets (T : Fx K mg) (B : Bx T base) : FnOk P w K mg base (L2.CX P w) 9 T.f_l_nets T.fd_l_nets ["some", "no"] (spMk P w K mg base (TT T) 9 2 ok1_l_nets) :=
  fn_mk (N := ["some", "no", "calls"]) (k := 8) (kk := 8) (j := 2) T.F_l_nets sc_l_nets rfl T.cq_l_nets fun A outer s H E hr => ⟨_, (mbr_cons (ms_new 2 sc_l_nets.nd (la_l_nets_la1 T B))
      (mbr_cons (ms_app 2 (la_l_nets_la2 T B))
      (mbr_cons (ms_app 2 (la_l_nets_la3 T B))
      (mbr_cons (ms_app 2 (la_l_nets_la4 T B))
      (mbr_cons (ms_app 2 (la_l_nets_la5 T B))
      (mbr_cons (ms_app 2 (la_l_nets_la6 T B))
      (mbr_cons (ms_app 2 (la_l_nets_la7 T B))
      (mbr_cons (ms_app 2 (la_l_nets_la8 T B))
      (mbr_cons (ms_app 2 (la_l_nets_la9 T B))
      (mbr_cons (ms_app 2 (la_l_nets_la10 T B))
      (mbr_cons (ms_app 2 (la_l_nets_la11 T B))
      (mbr_cons (ms_app 2 (la_l_nets_la12 T B))
      (mbr_cons (ms_app 2 (la_l_nets_la13 T B))
      (mbr_cons (ms_app 2 (la_l_nets_la14 T B))
      (mbr_cons (ms_app 2 (la_l_nets_la15 T B))
      (mbr_cons (ms_app 2 (la_l_nets_la16 T B))
      (mbr_cons (ms_app 2 (la_l_nets_la17 T B))
      (mbr_cons (ms_app 2 (la_l_nets_la18 T B))
      (mbr_cons (ms_app 2 (la_l_nets_la19 T B))
      (mbr_cons (ms_app 2 (la_l_nets_la20 T B))
      (mbr_cons (ms_app 2 (la_l_nets_la21 T B))
      (mbr_cons (ms_app 2 (la_l_nets_la22 T B))
      (mbr_cons (ms_app 2 (la_l_nets_la23 T B))
      (mbr_cons (ms_app 2 (la_l_nets_la24 T B))
      mbr_ret))))))))))))))))))))))))⟩

abbrev x_l_numbered_la1 : Expr := lamOf ((defBody s_l_numbered).getD 0 (.Pass ⟨0, 0, 0, 0⟩))
theorem la_l_numbered_la1 (T : Fx K mg) (B : Bx T base) {A : Around} {outer : List Env} {s : Shared} {H : Hp} {E : XK} : LamD (cxOf (L2.CX P w) P w K mg base ["some", "no", "calls"] "_law_numbered" (defScope s_l_numbered) T.f_l_numbered (.ref T.ca_l_numbered) A outer s H E) (TT T) 8 T.ca_l_numbered T.ta_l_numbered (lamA x_l_numbered_la1) (lamB x_l_numbered_la1) (lamS x_l_numbered_la1) [0, 1] e_l_numbered_la1 :=
  ⟨B.tb_l_numbered, rfl, hm_l_numbered T, hu_l_numbered T, NdefX.ndef_free (sc := defScope s_l_numbered) (nsc := lamS x_l_numbered_la1) (fr := ["some", "no"]) (by decide +kernel), rfl, ["some", "no"], rfl, fun c' => ⟨NdefX.nscope_by (sc := lamS x_l_numbered_la1) (by decide +kernel), fun _ _ _ _ _ => rfl, fun f A outer s H E hr tk po => ⟨_, (ek_call K (ok_followers T) (hr.mono (by decide)) T.g_followers T.F_followers.kp T.b_followers tk (ea_cons (ee_var 0) (ea_cons (ee_var 1) ea_nil)))⟩⟩⟩

abbrev x_l_numbered_la2 : Expr := lamOf ((defBody s_l_numbered).getD 1 (.Pass ⟨0, 0, 0, 0⟩))
theorem la_l_numbered_la2 (T : Fx K mg) (B : Bx T base) {A : Around} {outer : List Env} {s : Shared} {H : Hp} {E : XK} : LamD (cxOf (L2.CX P w) P w K mg base ["some", "no", "calls"] "_law_numbered" (defScope s_l_numbered) T.f_l_numbered (.ref T.ca_l_numbered) A outer s H E) (TT T) 8 T.ca_l_numbered T.ta_l_numbered (lamA x_l_numbered_la2) (lamB x_l_numbered_la2) (lamS x_l_numbered_la2) [0, 1] e_l_numbered_la2 :=
  ⟨B.tb_l_numbered, rfl, hm_l_numbered T, hu_l_numbered T, NdefX.ndef_free (sc := defScope s_l_numbered) (nsc := lamS x_l_numbered_la2) (fr := ["some", "no"]) (by decide +kernel), rfl, ["some", "no"], rfl, fun c' => ⟨NdefX.nscope_by (sc := lamS x_l_numbered_la2) (by decide +kernel), fun _ _ _ _ _ => rfl, fun f A outer s H E hr tk po => ⟨_, (ek_call K (ok_standing T) (hr.mono (by decide)) T.g_standing T.F_standing.kp T.b_standing tk (ea_cons (ee_var 0) (ea_cons (ee_var 1) ea_nil)))⟩⟩⟩

abbrev x_l_numbered_la3 : Expr := lamOf ((defBody s_l_numbered).getD 2 (.Pass ⟨0, 0, 0, 0⟩))
theorem la_l_numbered_la3 (T : Fx K mg) (B : Bx T base) {A : Around} {outer : List Env} {s : Shared} {H : Hp} {E : XK} : LamD (cxOf (L2.CX P w) P w K mg base ["some", "no", "calls"] "_law_numbered" (defScope s_l_numbered) T.f_l_numbered (.ref T.ca_l_numbered) A outer s H E) (TT T) 8 T.ca_l_numbered T.ta_l_numbered (lamA x_l_numbered_la3) (lamB x_l_numbered_la3) (lamS x_l_numbered_la3) [0, 1] e_l_numbered_la3 :=
  ⟨B.tb_l_numbered, rfl, hm_l_numbered T, hu_l_numbered T, NdefX.ndef_free (sc := defScope s_l_numbered) (nsc := lamS x_l_numbered_la3) (fr := ["some", "no"]) (by decide +kernel), rfl, ["some", "no"], rfl, fun c' => ⟨NdefX.nscope_by (sc := lamS x_l_numbered_la3) (by decide +kernel), fun _ _ _ _ _ => rfl, fun f A outer s H E hr tk po => ⟨_, (ek_call K (ok_states_at T) (hr.mono (by decide)) T.g_states_at T.F_states_at.kp T.b_states_at tk (ea_cons (ee_var 0) (ea_cons (ee_var 1) ea_nil)))⟩⟩⟩

abbrev x_l_numbered_la4 : Expr := lamOf ((defBody s_l_numbered).getD 3 (.Pass ⟨0, 0, 0, 0⟩))
theorem la_l_numbered_la4 (T : Fx K mg) (B : Bx T base) {A : Around} {outer : List Env} {s : Shared} {H : Hp} {E : XK} : LamD (cxOf (L2.CX P w) P w K mg base ["some", "no", "calls"] "_law_numbered" (defScope s_l_numbered) T.f_l_numbered (.ref T.ca_l_numbered) A outer s H E) (TT T) 8 T.ca_l_numbered T.ta_l_numbered (lamA x_l_numbered_la4) (lamB x_l_numbered_la4) (lamS x_l_numbered_la4) [0, 1] e_l_numbered_la4 :=
  ⟨B.tb_l_numbered, rfl, hm_l_numbered T, hu_l_numbered T, NdefX.ndef_free (sc := defScope s_l_numbered) (nsc := lamS x_l_numbered_la4) (fr := ["some", "no"]) (by decide +kernel), rfl, ["some", "no"], rfl, fun c' => ⟨NdefX.nscope_by (sc := lamS x_l_numbered_la4) (by decide +kernel), fun _ _ _ _ _ => rfl, fun f A outer s H E hr tk po => ⟨_, (ek_call K (ok_possible T) (hr.mono (by decide)) T.g_possible T.F_possible.kp T.b_possible tk (ea_cons (ee_var 0) (ea_cons (ee_var 1) (ea_cons (ee_un un_neg ud_neg ee_int) ea_nil))))⟩⟩⟩

abbrev x_l_numbered_la5 : Expr := lamOf ((defBody s_l_numbered).getD 4 (.Pass ⟨0, 0, 0, 0⟩))
theorem la_l_numbered_la5 (T : Fx K mg) (B : Bx T base) {A : Around} {outer : List Env} {s : Shared} {H : Hp} {E : XK} : LamD (cxOf (L2.CX P w) P w K mg base ["some", "no", "calls"] "_law_numbered" (defScope s_l_numbered) T.f_l_numbered (.ref T.ca_l_numbered) A outer s H E) (TT T) 8 T.ca_l_numbered T.ta_l_numbered (lamA x_l_numbered_la5) (lamB x_l_numbered_la5) (lamS x_l_numbered_la5) [0, 1] e_l_numbered_la5 :=
  ⟨B.tb_l_numbered, rfl, hm_l_numbered T, hu_l_numbered T, NdefX.ndef_free (sc := defScope s_l_numbered) (nsc := lamS x_l_numbered_la5) (fr := ["some", "no"]) (by decide +kernel), rfl, ["some", "no"], rfl, fun c' => ⟨NdefX.nscope_by (sc := lamS x_l_numbered_la5) (by decide +kernel), fun _ _ _ _ _ => rfl, fun f A outer s H E hr tk po => ⟨_, (ek_call K (ok_shortest_with T) (hr.mono (by decide)) T.g_shortest_with T.F_shortest_with.kp T.b_shortest_with tk (ea_cons (ee_var 0) (ea_cons (ee_var 1) (ea_cons ee_int ea_nil))))⟩⟩⟩

abbrev x_l_numbered_la6 : Expr := lamOf ((defBody s_l_numbered).getD 5 (.Pass ⟨0, 0, 0, 0⟩))
theorem la_l_numbered_la6 (T : Fx K mg) (B : Bx T base) {A : Around} {outer : List Env} {s : Shared} {H : Hp} {E : XK} : LamD (cxOf (L2.CX P w) P w K mg base ["some", "no", "calls"] "_law_numbered" (defScope s_l_numbered) T.f_l_numbered (.ref T.ca_l_numbered) A outer s H E) (TT T) 8 T.ca_l_numbered T.ta_l_numbered (lamA x_l_numbered_la6) (lamB x_l_numbered_la6) (lamS x_l_numbered_la6) [0, 1] e_l_numbered_la6 :=
  ⟨B.tb_l_numbered, rfl, hm_l_numbered T, hu_l_numbered T, NdefX.ndef_free (sc := defScope s_l_numbered) (nsc := lamS x_l_numbered_la6) (fr := ["some", "no"]) (by decide +kernel), rfl, ["some", "no"], rfl, fun c' => ⟨NdefX.nscope_by (sc := lamS x_l_numbered_la6) (by decide +kernel), fun _ _ _ _ _ => rfl, fun f A outer s H E hr tk po => ⟨_, (ek_call K (ok_witnesses T) (hr.mono (by decide)) T.g_witnesses T.F_witnesses.kp T.b_witnesses tk (ea_cons (ee_var 0) (ea_cons (ee_var 1) ea_nil)))⟩⟩⟩

abbrev x_l_numbered_la7 : Expr := lamOf ((defBody s_l_numbered).getD 6 (.Pass ⟨0, 0, 0, 0⟩))
theorem la_l_numbered_la7 (T : Fx K mg) (B : Bx T base) {A : Around} {outer : List Env} {s : Shared} {H : Hp} {E : XK} : LamD (cxOf (L2.CX P w) P w K mg base ["some", "no", "calls"] "_law_numbered" (defScope s_l_numbered) T.f_l_numbered (.ref T.ca_l_numbered) A outer s H E) (TT T) 8 T.ca_l_numbered T.ta_l_numbered (lamA x_l_numbered_la7) (lamB x_l_numbered_la7) (lamS x_l_numbered_la7) [0, 1] e_l_numbered_la7 :=
  ⟨B.tb_l_numbered, rfl, hm_l_numbered T, hu_l_numbered T, NdefX.ndef_free (sc := defScope s_l_numbered) (nsc := lamS x_l_numbered_la7) (fr := ["some", "no"]) (by decide +kernel), rfl, ["some", "no"], rfl, fun c' => ⟨NdefX.nscope_by (sc := lamS x_l_numbered_la7) (by decide +kernel), fun _ _ _ _ _ => rfl, fun f A outer s H E hr tk po => ⟨_, (ek_call K (ok_farthest T) (hr.mono (by decide)) T.g_farthest T.F_farthest.kp T.b_farthest tk (ea_cons (ee_var 0) (ea_cons (ee_var 1) ea_nil)))⟩⟩⟩

abbrev x_l_numbered_la8 : Expr := lamOf ((defBody s_l_numbered).getD 7 (.Pass ⟨0, 0, 0, 0⟩))
theorem la_l_numbered_la8 (T : Fx K mg) (B : Bx T base) {A : Around} {outer : List Env} {s : Shared} {H : Hp} {E : XK} : LamD (cxOf (L2.CX P w) P w K mg base ["some", "no", "calls"] "_law_numbered" (defScope s_l_numbered) T.f_l_numbered (.ref T.ca_l_numbered) A outer s H E) (TT T) 8 T.ca_l_numbered T.ta_l_numbered (lamA x_l_numbered_la8) (lamB x_l_numbered_la8) (lamS x_l_numbered_la8) [0, 1] e_l_numbered_la8 :=
  ⟨B.tb_l_numbered, rfl, hm_l_numbered T, hu_l_numbered T, NdefX.ndef_free (sc := defScope s_l_numbered) (nsc := lamS x_l_numbered_la8) (fr := ["some", "no"]) (by decide +kernel), rfl, ["some", "no"], rfl, fun c' => ⟨NdefX.nscope_by (sc := lamS x_l_numbered_la8) (by decide +kernel), fun _ _ _ _ _ => rfl, fun f A outer s H E hr tk po => ⟨_, (ek_call K (ok_without_sign T) (hr.mono (by decide)) T.g_without_sign T.F_without_sign.kp T.b_without_sign tk (ea_cons (ee_var 0) (ea_cons (ee_var 1) (ea_cons (ee_un un_neg ud_neg ee_int) ea_nil))))⟩⟩⟩

abbrev x_l_numbered_la9 : Expr := lamOf ((defBody s_l_numbered).getD 8 (.Pass ⟨0, 0, 0, 0⟩))
theorem la_l_numbered_la9 (T : Fx K mg) (B : Bx T base) {A : Around} {outer : List Env} {s : Shared} {H : Hp} {E : XK} : LamD (cxOf (L2.CX P w) P w K mg base ["some", "no", "calls"] "_law_numbered" (defScope s_l_numbered) T.f_l_numbered (.ref T.ca_l_numbered) A outer s H E) (TT T) 8 T.ca_l_numbered T.ta_l_numbered (lamA x_l_numbered_la9) (lamB x_l_numbered_la9) (lamS x_l_numbered_la9) [0, 1] e_l_numbered_la9 :=
  ⟨B.tb_l_numbered, rfl, hm_l_numbered T, hu_l_numbered T, NdefX.ndef_free (sc := defScope s_l_numbered) (nsc := lamS x_l_numbered_la9) (fr := ["some", "no"]) (by decide +kernel), rfl, ["some", "no"], rfl, fun c' => ⟨NdefX.nscope_by (sc := lamS x_l_numbered_la9) (by decide +kernel), fun _ _ _ _ _ => rfl, fun f A outer s H E hr tk po => ⟨_, (ek_call K (ok_with_sign T) (hr.mono (by decide)) T.g_with_sign T.F_with_sign.kp T.b_with_sign tk (ea_cons (ee_var 0) (ea_cons (ee_var 1) (ea_cons (ee_un un_neg ud_neg ee_int) (ea_cons (ee_un un_neg ud_neg ee_int) ea_nil)))))⟩⟩⟩

abbrev x_l_numbered_la10 : Expr := lamOf ((defBody s_l_numbered).getD 9 (.Pass ⟨0, 0, 0, 0⟩))
theorem la_l_numbered_la10 (T : Fx K mg) (B : Bx T base) {A : Around} {outer : List Env} {s : Shared} {H : Hp} {E : XK} : LamD (cxOf (L2.CX P w) P w K mg base ["some", "no", "calls"] "_law_numbered" (defScope s_l_numbered) T.f_l_numbered (.ref T.ca_l_numbered) A outer s H E) (TT T) 8 T.ca_l_numbered T.ta_l_numbered (lamA x_l_numbered_la10) (lamB x_l_numbered_la10) (lamS x_l_numbered_la10) [0, 1] e_l_numbered_la10 :=
  ⟨B.tb_l_numbered, rfl, hm_l_numbered T, hu_l_numbered T, NdefX.ndef_free (sc := defScope s_l_numbered) (nsc := lamS x_l_numbered_la10) (fr := ["some", "no"]) (by decide +kernel), rfl, ["some", "no"], rfl, fun c' => ⟨NdefX.nscope_by (sc := lamS x_l_numbered_la10) (by decide +kernel), fun _ _ _ _ _ => rfl, fun f A outer s H E hr tk po => ⟨_, (ek_call K (ok_is_idle T) (hr.mono (by decide)) T.g_is_idle T.F_is_idle.kp T.b_is_idle tk (ea_cons (ee_var 0) (ea_cons (ee_var 1) (ea_cons (ee_un un_neg ud_neg ee_int) ea_nil))))⟩⟩⟩
theorem ok_l_numbered (T : Fx K mg) (B : Bx T base) : FnOk P w K mg base (L2.CX P w) 8 T.f_l_numbered T.fd_l_numbered ["some", "no"] (spMk P w K mg base (TT T) 9 2 ok1_l_numbered) :=
  fn_mk (N := ["some", "no", "calls"]) (k := 7) (kk := 8) (j := 2) T.F_l_numbered sc_l_numbered rfl T.cq_l_numbered fun A outer s H E hr => ⟨_, (mbr_cons (ms_new 2 sc_l_numbered.nd (la_l_numbered_la1 T B))
      (mbr_cons (ms_app 2 (la_l_numbered_la2 T B))
      (mbr_cons (ms_app 2 (la_l_numbered_la3 T B))
      (mbr_cons (ms_app 2 (la_l_numbered_la4 T B))
      (mbr_cons (ms_app 2 (la_l_numbered_la5 T B))
      (mbr_cons (ms_app 2 (la_l_numbered_la6 T B))
      (mbr_cons (ms_app 2 (la_l_numbered_la7 T B))
      (mbr_cons (ms_app 2 (la_l_numbered_la8 T B))
      (mbr_cons (ms_app 2 (la_l_numbered_la9 T B))
      (mbr_cons (ms_app 2 (la_l_numbered_la10 T B))
      mbr_ret))))))))))⟩

abbrev x_l_placed_la1 : Expr := lamOf ((defBody s_l_placed).getD 1 (.Pass ⟨0, 0, 0, 0⟩))
theorem la_l_placed_la1 (T : Fx K mg) (B : Bx T base) {A : Around} {outer : List Env} {s : Shared} {H : Hp} {E : XK} : LamD (cxOf (L2.CX P w) P w K mg base ["some", "many", "places", "signs", "full"] "_law_placed" (defScope s_l_placed) T.f_l_placed (.ref T.ca_l_placed) A outer s H E) (TT T) 8 T.ca_l_placed T.ta_l_placed (lamA x_l_placed_la1) (lamB x_l_placed_la1) (lamS x_l_placed_la1) [0, 1] e_l_placed_la1 :=
  ⟨B.tb_l_placed, rfl, hm_l_placed T, hu_l_placed T, NdefX.ndef_free (sc := defScope s_l_placed) (nsc := lamS x_l_placed_la1) (fr := ["some", "many"]) (by decide +kernel), rfl, ["some", "many"], rfl, fun c' => ⟨NdefX.nscope_by (sc := lamS x_l_placed_la1) (by decide +kernel), fun _ _ _ _ _ => rfl, fun f A outer s H E hr tk po => ⟨_, (ek_call K (ok_without_sign T) (hr.mono (by decide)) T.g_without_sign T.F_without_sign.kp T.b_without_sign tk (ea_cons (ee_var 0) (ea_cons ee_int (ea_cons (ee_var 1) ea_nil))))⟩⟩⟩

abbrev x_l_placed_la2 : Expr := lamOf ((defBody s_l_placed).getD 2 (.Pass ⟨0, 0, 0, 0⟩))
theorem la_l_placed_la2 (T : Fx K mg) (B : Bx T base) {A : Around} {outer : List Env} {s : Shared} {H : Hp} {E : XK} : LamD (cxOf (L2.CX P w) P w K mg base ["some", "many", "places", "signs", "full"] "_law_placed" (defScope s_l_placed) T.f_l_placed (.ref T.ca_l_placed) A outer s H E) (TT T) 8 T.ca_l_placed T.ta_l_placed (lamA x_l_placed_la2) (lamB x_l_placed_la2) (lamS x_l_placed_la2) [0] e_l_placed_la2 :=
  ⟨B.tb_l_placed, rfl, hm_l_placed T, hu_l_placed T, NdefX.ndef_free (sc := defScope s_l_placed) (nsc := lamS x_l_placed_la2) (fr := ["some"]) (by decide +kernel), rfl, ["some"], rfl, fun c' => ⟨NdefX.nscope_by (sc := lamS x_l_placed_la2) (by decide +kernel), fun _ _ _ _ _ => rfl, fun f A outer s H E hr tk po => ⟨_, (ek_call K (ok_without_sign T) (hr.mono (by decide)) T.g_without_sign T.F_without_sign.kp T.b_without_sign tk (ea_cons (ee_var 0) (ea_cons ee_int (ea_cons (ee_un un_neg ud_neg ee_int) ea_nil))))⟩⟩⟩

abbrev x_l_placed_la3 : Expr := lamOf ((defBody s_l_placed).getD 3 (.Pass ⟨0, 0, 0, 0⟩))
theorem la_l_placed_la3 (T : Fx K mg) (B : Bx T base) {A : Around} {outer : List Env} {s : Shared} {H : Hp} {E : XK} : LamD (cxOf (L2.CX P w) P w K mg base ["some", "many", "places", "signs", "full"] "_law_placed" (defScope s_l_placed) T.f_l_placed (.ref T.ca_l_placed) A outer s H E) (TT T) 8 T.ca_l_placed T.ta_l_placed (lamA x_l_placed_la3) (lamB x_l_placed_la3) (lamS x_l_placed_la3) [0, 1] e_l_placed_la3 :=
  ⟨B.tb_l_placed, rfl, hm_l_placed T, hu_l_placed T, NdefX.ndef_free (sc := defScope s_l_placed) (nsc := lamS x_l_placed_la3) (fr := ["some", "many"]) (by decide +kernel), rfl, ["some", "many"], rfl, fun c' => ⟨NdefX.nscope_by (sc := lamS x_l_placed_la3) (by decide +kernel), fun _ _ _ _ _ => rfl, fun f A outer s H E hr tk po => ⟨_, (ek_call K (ok_is_idle T) (hr.mono (by decide)) T.g_is_idle T.F_is_idle.kp T.b_is_idle tk (ea_cons (ee_var 0) (ea_cons ee_int (ea_cons (ee_var 1) ea_nil))))⟩⟩⟩

abbrev x_l_placed_la4 : Expr := lamOf ((defBody s_l_placed).getD 4 (.Pass ⟨0, 0, 0, 0⟩))
theorem la_l_placed_la4 (T : Fx K mg) (B : Bx T base) {A : Around} {outer : List Env} {s : Shared} {H : Hp} {E : XK} : LamD (cxOf (L2.CX P w) P w K mg base ["some", "many", "places", "signs", "full"] "_law_placed" (defScope s_l_placed) T.f_l_placed (.ref T.ca_l_placed) A outer s H E) (TT T) 8 T.ca_l_placed T.ta_l_placed (lamA x_l_placed_la4) (lamB x_l_placed_la4) (lamS x_l_placed_la4) [0, 1] e_l_placed_la4 :=
  ⟨B.tb_l_placed, rfl, hm_l_placed T, hu_l_placed T, NdefX.ndef_free (sc := defScope s_l_placed) (nsc := lamS x_l_placed_la4) (fr := ["some", "many"]) (by decide +kernel), rfl, ["some", "many"], rfl, fun c' => ⟨NdefX.nscope_by (sc := lamS x_l_placed_la4) (by decide +kernel), fun _ _ _ _ _ => rfl, fun f A outer s H E hr tk po => ⟨_, (ek_call K (ok_with_sign T) (hr.mono (by decide)) T.g_with_sign T.F_with_sign.kp T.b_with_sign tk (ea_cons (ee_var 0) (ea_cons ee_int (ea_cons (ek_add K (ee_var 1) ee_int) (ea_cons (ee_un un_neg ud_neg ee_int) ea_nil)))))⟩⟩⟩

abbrev x_l_placed_la5 : Expr := lamOf ((defBody s_l_placed).getD 5 (.Pass ⟨0, 0, 0, 0⟩))
theorem la_l_placed_la5 (T : Fx K mg) (B : Bx T base) {A : Around} {outer : List Env} {s : Shared} {H : Hp} {E : XK} : LamD (cxOf (L2.CX P w) P w K mg base ["some", "many", "places", "signs", "full"] "_law_placed" (defScope s_l_placed) T.f_l_placed (.ref T.ca_l_placed) A outer s H E) (TT T) 8 T.ca_l_placed T.ta_l_placed (lamA x_l_placed_la5) (lamB x_l_placed_la5) (lamS x_l_placed_la5) [0] e_l_placed_la5 :=
  ⟨B.tb_l_placed, rfl, hm_l_placed T, hu_l_placed T, NdefX.ndef_free (sc := defScope s_l_placed) (nsc := lamS x_l_placed_la5) (fr := ["some"]) (by decide +kernel), rfl, ["some"], rfl, fun c' => ⟨NdefX.nscope_by (sc := lamS x_l_placed_la5) (by decide +kernel), fun _ _ _ _ _ => rfl, fun f A outer s H E hr tk po => ⟨_, (ek_call K (ok_with_sign T) (hr.mono (by decide)) T.g_with_sign T.F_with_sign.kp T.b_with_sign tk (ea_cons (ee_var 0) (ea_cons ee_int (ea_cons (ee_un un_neg ud_neg ee_int) (ea_cons (ee_un un_neg ud_neg ee_int) ea_nil)))))⟩⟩⟩

abbrev x_l_placed_la6 : Expr := lamOf ((defBody s_l_placed).getD 6 (.Pass ⟨0, 0, 0, 0⟩))
theorem la_l_placed_la6 (T : Fx K mg) (B : Bx T base) {A : Around} {outer : List Env} {s : Shared} {H : Hp} {E : XK} : LamD (cxOf (L2.CX P w) P w K mg base ["some", "many", "places", "signs", "full"] "_law_placed" (defScope s_l_placed) T.f_l_placed (.ref T.ca_l_placed) A outer s H E) (TT T) 8 T.ca_l_placed T.ta_l_placed (lamA x_l_placed_la6) (lamB x_l_placed_la6) (lamS x_l_placed_la6) [0] e_l_placed_la6 :=
  ⟨B.tb_l_placed, rfl, hm_l_placed T, hu_l_placed T, NdefX.ndef_free (sc := defScope s_l_placed) (nsc := lamS x_l_placed_la6) (fr := ["some"]) (by decide +kernel), rfl, ["some"], rfl, fun c' => ⟨NdefX.nscope_by (sc := lamS x_l_placed_la6) (by decide +kernel), fun _ _ _ _ _ => rfl, fun f A outer s H E hr tk po => ⟨_, (ek_call K (ok_with_sign T) (hr.mono (by decide)) T.g_with_sign T.F_with_sign.kp T.b_with_sign tk (ea_cons (ee_var 0) (ea_cons ee_int (ea_cons ee_bl (ea_cons (ee_un un_neg ud_neg ee_int) ea_nil)))))⟩⟩⟩

abbrev x_l_placed_la7 : Expr := lamOf ((defBody s_l_placed).getD 7 (.Pass ⟨0, 0, 0, 0⟩))
theorem la_l_placed_la7 (T : Fx K mg) (B : Bx T base) {A : Around} {outer : List Env} {s : Shared} {H : Hp} {E : XK} : LamD (cxOf (L2.CX P w) P w K mg base ["some", "many", "places", "signs", "full"] "_law_placed" (defScope s_l_placed) T.f_l_placed (.ref T.ca_l_placed) A outer s H E) (TT T) 8 T.ca_l_placed T.ta_l_placed (lamA x_l_placed_la7) (lamB x_l_placed_la7) (lamS x_l_placed_la7) [0] e_l_placed_la7 :=
  ⟨B.tb_l_placed, rfl, hm_l_placed T, hu_l_placed T, NdefX.ndef_free (sc := defScope s_l_placed) (nsc := lamS x_l_placed_la7) (fr := ["some"]) (by decide +kernel), rfl, ["some"], rfl, fun c' => ⟨NdefX.nscope_by (sc := lamS x_l_placed_la7) (by decide +kernel), fun _ _ _ _ _ => rfl, fun f A outer s H E hr tk po => ⟨_, (ek_call K (ok_with_sign T) (hr.mono (by decide)) T.g_with_sign T.F_with_sign.kp T.b_with_sign tk (ea_cons (ee_var 0) (ea_cons ee_int (ea_cons ee_int (ea_cons ee_int ea_nil)))))⟩⟩⟩

abbrev x_l_placed_la8 : Expr := lamOf ((defBody s_l_placed).getD 8 (.Pass ⟨0, 0, 0, 0⟩))
theorem la_l_placed_la8 (T : Fx K mg) (B : Bx T base) {A : Around} {outer : List Env} {s : Shared} {H : Hp} {E : XK} : LamD (cxOf (L2.CX P w) P w K mg base ["some", "many", "places", "signs", "full"] "_law_placed" (defScope s_l_placed) T.f_l_placed (.ref T.ca_l_placed) A outer s H E) (TT T) 8 T.ca_l_placed T.ta_l_placed (lamA x_l_placed_la8) (lamB x_l_placed_la8) (lamS x_l_placed_la8) [0] e_l_placed_la8 :=
  ⟨B.tb_l_placed, rfl, hm_l_placed T, hu_l_placed T, NdefX.ndef_free (sc := defScope s_l_placed) (nsc := lamS x_l_placed_la8) (fr := ["some"]) (by decide +kernel), rfl, ["some"], rfl, fun c' => ⟨NdefX.nscope_by (sc := lamS x_l_placed_la8) (by decide +kernel), fun _ _ _ _ _ => rfl, fun f A outer s H E hr tk po => ⟨_, (ek_call K (ok_with_sign T) (hr.mono (by decide)) T.g_with_sign T.F_with_sign.kp T.b_with_sign tk (ea_cons (ee_var 0) (ea_cons ee_int (ea_cons ee_int (ea_cons (ee_un un_neg ud_neg ee_int) ea_nil)))))⟩⟩⟩

abbrev x_l_placed_la9 : Expr := lamOf ((defBody s_l_placed).getD 9 (.Pass ⟨0, 0, 0, 0⟩))
theorem la_l_placed_la9 (T : Fx K mg) (B : Bx T base) {A : Around} {outer : List Env} {s : Shared} {H : Hp} {E : XK} : LamD (cxOf (L2.CX P w) P w K mg base ["some", "many", "places", "signs", "full"] "_law_placed" (defScope s_l_placed) T.f_l_placed (.ref T.ca_l_placed) A outer s H E) (TT T) 8 T.ca_l_placed T.ta_l_placed (lamA x_l_placed_la9) (lamB x_l_placed_la9) (lamS x_l_placed_la9) [0] e_l_placed_la9 :=
  ⟨B.tb_l_placed, rfl, hm_l_placed T, hu_l_placed T, NdefX.ndef_free (sc := defScope s_l_placed) (nsc := lamS x_l_placed_la9) (fr := ["some"]) (by decide +kernel), rfl, ["some"], rfl, fun c' => ⟨NdefX.nscope_by (sc := lamS x_l_placed_la9) (by decide +kernel), fun _ _ _ _ _ => rfl, fun f A outer s H E hr tk po => ⟨_, (ek_call K (ok_with_sign T) (hr.mono (by decide)) T.g_with_sign T.F_with_sign.kp T.b_with_sign tk (ea_cons (ee_var 0) (ea_cons ee_int (ea_cons ee_int (ea_cons ee_non ea_nil)))))⟩⟩⟩

abbrev x_l_placed_la10 : Expr := lamOf ((ifBody ((defBody s_l_placed).getD 11 (.Pass ⟨0, 0, 0, 0⟩))).getD 0 (.Pass ⟨0, 0, 0, 0⟩))
theorem la_l_placed_la10 (T : Fx K mg) (B : Bx T base) {A : Around} {outer : List Env} {s : Shared} {H : Hp} {E : XK} : LamD (cxOf (L2.CX P w) P w K mg base ["some", "many", "places", "signs", "full"] "_law_placed" (defScope s_l_placed) T.f_l_placed (.ref T.ca_l_placed) A outer s H E) (TT T) 8 T.ca_l_placed T.ta_l_placed (lamA x_l_placed_la10) (lamB x_l_placed_la10) (lamS x_l_placed_la10) [0] e_l_placed_la10 :=
  ⟨B.tb_l_placed, rfl, hm_l_placed T, hu_l_placed T, NdefX.ndef_free (sc := defScope s_l_placed) (nsc := lamS x_l_placed_la10) (fr := ["some"]) (by decide +kernel), rfl, ["some"], rfl, fun c' => ⟨NdefX.nscope_by (sc := lamS x_l_placed_la10) (by decide +kernel), fun _ _ _ _ _ => rfl, fun f A outer s H E hr tk po => ⟨_, (ek_call K (ok_without_sign T) (hr.mono (by decide)) T.g_without_sign T.F_without_sign.kp T.b_without_sign tk (ea_cons (ee_var 0) (ea_cons ee_int (ea_cons ee_int ea_nil))))⟩⟩⟩

abbrev x_l_placed_la11 : Expr := lamOf ((defBody s_l_placed).getD 13 (.Pass ⟨0, 0, 0, 0⟩))
theorem la_l_placed_la11 (T : Fx K mg) (B : Bx T base) {A : Around} {outer : List Env} {s : Shared} {H : Hp} {E : XK} : LamD (cxOf (L2.CX P w) P w K mg base ["some", "many", "places", "signs", "full"] "_law_placed" (defScope s_l_placed) T.f_l_placed (.ref T.ca_l_placed) A outer s H E) (TT T) 8 T.ca_l_placed T.ta_l_placed (lamA x_l_placed_la11) (lamB x_l_placed_la11) (lamS x_l_placed_la11) [4] e_l_placed_la11 :=
  ⟨B.tb_l_placed, rfl, hm_l_placed T, hu_l_placed T, NdefX.ndef_free (sc := defScope s_l_placed) (nsc := lamS x_l_placed_la11) (fr := ["full"]) (by decide +kernel), rfl, ["full"], rfl, fun c' => ⟨NdefX.nscope_by (sc := lamS x_l_placed_la11) (by decide +kernel), fun _ _ _ _ _ => rfl, fun f A outer s H E hr tk po => ⟨_, (ek_call K (ok_with_sign T) (hr.mono (by decide)) T.g_with_sign T.F_with_sign.kp T.b_with_sign tk (ea_cons (ee_var 0) (ea_cons ee_int (ea_cons ee_int (ea_cons ee_int ea_nil)))))⟩⟩⟩
theorem ok_l_placed (T : Fx K mg) (B : Bx T base) : FnOk P w K mg base (L2.CX P w) 12 T.f_l_placed T.fd_l_placed ["some"] (spT1 K (TT T) 1 ok1_l_placed) :=
  fn_true (N := ["some", "many", "places", "signs", "full"]) (k := 11) (kk := 8) T.F_l_placed sc_l_placed rfl T.cq_l_placed fun A outer s H E hr tk po => ⟨_, (mb_cons (ms_es (W := fun cls d _ H => E cls d H) (es_asgF 1 sc_l_placed.nd (ek_len K T.m_len (ed_cons (ek_ix K (ek_ix K (ek_ix K (ee_var 0) ee_int) ee_int) ee_int) ed_nil))))
      (mb_cons (ms_new 2 sc_l_placed.nd (la_l_placed_la1 T B))
      (mb_cons (ms_app 2 (la_l_placed_la2 T B))
      (mb_cons (ms_app 2 (la_l_placed_la3 T B))
      (mb_cons (ms_app 2 (la_l_placed_la4 T B))
      (mb_cons (ms_app 2 (la_l_placed_la5 T B))
      (mb_cons (ms_app 2 (la_l_placed_la6 T B))
      (mb_cons (ms_new 3 sc_l_placed.nd (la_l_placed_la7 T B))
      (mb_cons (ms_app 3 (la_l_placed_la8 T B))
      (mb_cons (ms_app 3 (la_l_placed_la9 T B))
      (mb_cons (ms_es (W := fun cls d _ H => E cls d H) (es_asgF 4 sc_l_placed.nd (ee_tup (ed_cons ee_int (ed_cons ee_int (ed_cons ee_int (ed_cons (ee_tup (ed_cons (ee_tup (ed_cons ee_int (ed_cons ee_int (ed_cons ee_int (ed_cons (ee_tup (ed_cons ee_int (ed_cons ee_int (ed_cons ee_int ed_nil)))) ed_nil))))) ed_nil)) ed_nil)))))))
      (mb_cons (ms_if (mt_et (W := fun cls d _ H => E cls d H) (tk_eq K hr.units (ee_var 1) ee_int)) (mb_one (ms_app 2 (la_l_placed_la10 T B))) mb_nil)
      (mb_cons (ms_if (mt_nn (mv_all 2 (ok_l_all T _) (hr.mono (by decide)) T.g_l_all T.F_l_all.kp T.b_l_all (fun _ => rfl) (by decide) (shp _ (by decide))) (mv_all 3 (ok_l_all T _) (hr.mono (by decide)) T.g_l_all T.F_l_all.kp T.b_l_all (fun _ => rfl) (by decide) (shp _ (by decide)))) (mb_one (ms_es (W := fun cls d _ H => E cls d H) (es_ret ee_bl))) mb_nil)
      (mb_one (ms_ret (mv_allL (ok_l_all T _) (hr.mono (by decide)) T.g_l_all T.F_l_all.kp T.b_l_all (fun _ => rfl) (by decide) (shp _ (by decide)) (la_l_placed_la11 T B)))))))))))))))))⟩

abbrev x_law_la1 : Expr := lamOf ((forBody ((defBody s_law).getD 6 (.Pass ⟨0, 0, 0, 0⟩))).getD 0 (.Pass ⟨0, 0, 0, 0⟩))
theorem la_law_la1 (T : Fx K mg) (B : Bx T base) {A : Around} {outer : List Env} {s : Shared} {H : Hp} {E : XK} : LamD (cxOf (L2.CX P w) P w K mg base ["script", "some", "at", "one", "listed", "no", "number", "bad", "calls", "parts", "other", "shapes"] "law" (defScope s_law) T.f_law (.ref T.ca_law) A outer s H E) (TT T) 8 T.ca_law T.ta_law (lamA x_law_la1) (lamB x_law_la1) (lamS x_law_la1) [1, 7] e_law_la1 :=
  ⟨B.tb_law, rfl, hm_law T, hu_law T, NdefX.ndef_free (sc := defScope s_law) (nsc := lamS x_law_la1) (fr := ["some", "bad"]) (by decide +kernel), rfl, ["some", "bad"], rfl, fun c' => ⟨NdefX.nscope_by (sc := lamS x_law_la1) (by decide +kernel), fun _ _ _ _ _ => rfl, fun f A outer s H E hr tk po => ⟨_, (ek_call K (ok_limits T) (hr.mono (by decide)) T.g_limits T.F_limits.kp T.b_limits tk (ea_cons (ee_var 0) (ea_cons (ee_var 1) ea_nil)))⟩⟩⟩

abbrev x_law_la2 : Expr := lamOf ((forBody ((defBody s_law).getD 6 (.Pass ⟨0, 0, 0, 0⟩))).getD 1 (.Pass ⟨0, 0, 0, 0⟩))
theorem la_law_la2 (T : Fx K mg) (B : Bx T base) {A : Around} {outer : List Env} {s : Shared} {H : Hp} {E : XK} : LamD (cxOf (L2.CX P w) P w K mg base ["script", "some", "at", "one", "listed", "no", "number", "bad", "calls", "parts", "other", "shapes"] "law" (defScope s_law) T.f_law (.ref T.ca_law) A outer s H E) (TT T) 8 T.ca_law T.ta_law (lamA x_law_la2) (lamB x_law_la2) (lamS x_law_la2) [1, 7] e_law_la2 :=
  ⟨B.tb_law, rfl, hm_law T, hu_law T, NdefX.ndef_free (sc := defScope s_law) (nsc := lamS x_law_la2) (fr := ["some", "bad"]) (by decide +kernel), rfl, ["some", "bad"], rfl, fun c' => ⟨NdefX.nscope_by (sc := lamS x_law_la2) (by decide +kernel), fun _ _ _ _ _ => rfl, fun f A outer s H E hr tk po => ⟨_, (ek_call K (ok_state_after T) (hr.mono (by decide)) T.g_state_after T.F_state_after.kp T.b_state_after tk (ea_cons (ee_var 0) (ea_cons (ee_var 1) ea_nil)))⟩⟩⟩

abbrev x_law_la3 : Expr := lamOf ((forBody ((defBody s_law).getD 6 (.Pass ⟨0, 0, 0, 0⟩))).getD 2 (.Pass ⟨0, 0, 0, 0⟩))
theorem la_law_la3 (T : Fx K mg) (B : Bx T base) {A : Around} {outer : List Env} {s : Shared} {H : Hp} {E : XK} : LamD (cxOf (L2.CX P w) P w K mg base ["script", "some", "at", "one", "listed", "no", "number", "bad", "calls", "parts", "other", "shapes"] "law" (defScope s_law) T.f_law (.ref T.ca_law) A outer s H E) (TT T) 8 T.ca_law T.ta_law (lamA x_law_la3) (lamB x_law_la3) (lamS x_law_la3) [1, 7] e_law_la3 :=
  ⟨B.tb_law, rfl, hm_law T, hu_law T, NdefX.ndef_free (sc := defScope s_law) (nsc := lamS x_law_la3) (fr := ["some", "bad"]) (by decide +kernel), rfl, ["some", "bad"], rfl, fun c' => ⟨NdefX.nscope_by (sc := lamS x_law_la3) (by decide +kernel), fun _ _ _ _ _ => rfl, fun f A outer s H E hr tk po => ⟨_, (ek_call K (ok_changes T) (hr.mono (by decide)) T.g_changes T.F_changes.kp T.b_changes tk (ea_cons (ee_var 0) (ea_cons (ee_var 1) ea_nil)))⟩⟩⟩

abbrev x_law_la4 : Expr := lamOf ((forBody ((defBody s_law).getD 6 (.Pass ⟨0, 0, 0, 0⟩))).getD 3 (.Pass ⟨0, 0, 0, 0⟩))
theorem la_law_la4 (T : Fx K mg) (B : Bx T base) {A : Around} {outer : List Env} {s : Shared} {H : Hp} {E : XK} : LamD (cxOf (L2.CX P w) P w K mg base ["script", "some", "at", "one", "listed", "no", "number", "bad", "calls", "parts", "other", "shapes"] "law" (defScope s_law) T.f_law (.ref T.ca_law) A outer s H E) (TT T) 8 T.ca_law T.ta_law (lamA x_law_la4) (lamB x_law_la4) (lamS x_law_la4) [1, 7] e_law_la4 :=
  ⟨B.tb_law, rfl, hm_law T, hu_law T, NdefX.ndef_free (sc := defScope s_law) (nsc := lamS x_law_la4) (fr := ["some", "bad"]) (by decide +kernel), rfl, ["some", "bad"], rfl, fun c' => ⟨NdefX.nscope_by (sc := lamS x_law_la4) (by decide +kernel), fun _ _ _ _ _ => rfl, fun f A outer s H E hr tk po => ⟨_, (ek_call K (ok_least_limit T) (hr.mono (by decide)) T.g_least_limit T.F_least_limit.kp T.b_least_limit tk (ea_cons (ee_var 0) (ea_cons (ee_var 1) ea_nil)))⟩⟩⟩

abbrev x_law_la5 : Expr := lamOf ((forBody ((defBody s_law).getD 7 (.Pass ⟨0, 0, 0, 0⟩))).getD 0 (.Pass ⟨0, 0, 0, 0⟩))
theorem la_law_la5 (T : Fx K mg) (B : Bx T base) {A : Around} {outer : List Env} {s : Shared} {H : Hp} {E : XK} : LamD (cxOf (L2.CX P w) P w K mg base ["script", "some", "at", "one", "listed", "no", "number", "bad", "calls", "parts", "other", "shapes"] "law" (defScope s_law) T.f_law (.ref T.ca_law) A outer s H E) (TT T) 8 T.ca_law T.ta_law (lamA x_law_la5) (lamB x_law_la5) (lamS x_law_la5) [1, 7] e_law_la5 :=
  ⟨B.tb_law, rfl, hm_law T, hu_law T, NdefX.ndef_free (sc := defScope s_law) (nsc := lamS x_law_la5) (fr := ["some", "bad"]) (by decide +kernel), rfl, ["some", "bad"], rfl, fun c' => ⟨NdefX.nscope_by (sc := lamS x_law_la5) (by decide +kernel), fun _ _ _ _ _ => rfl, fun f A outer s H E hr tk po => ⟨_, (ek_call K (ok_shortest_with T) (hr.mono (by decide)) T.g_shortest_with T.F_shortest_with.kp T.b_shortest_with tk (ea_cons (ee_var 0) (ea_cons ee_int (ea_cons (ee_var 1) ea_nil))))⟩⟩⟩

abbrev x_law_la6 : Expr := lamOf ((defBody s_law).getD 8 (.Pass ⟨0, 0, 0, 0⟩))
theorem la_law_la6 (T : Fx K mg) (B : Bx T base) {A : Around} {outer : List Env} {s : Shared} {H : Hp} {E : XK} : LamD (cxOf (L2.CX P w) P w K mg base ["script", "some", "at", "one", "listed", "no", "number", "bad", "calls", "parts", "other", "shapes"] "law" (defScope s_law) T.f_law (.ref T.ca_law) A outer s H E) (TT T) 8 T.ca_law T.ta_law (lamA x_law_la6) (lamB x_law_la6) (lamS x_law_la6) [1] e_law_la6 :=
  ⟨B.tb_law, rfl, hm_law T, hu_law T, NdefX.ndef_free (sc := defScope s_law) (nsc := lamS x_law_la6) (fr := ["some"]) (by decide +kernel), rfl, ["some"], rfl, fun c' => ⟨NdefX.nscope_by (sc := lamS x_law_la6) (by decide +kernel), fun _ _ _ _ _ => rfl, fun f A outer s H E hr tk po => ⟨_, (ek_call K (ok_possible T) (hr.mono (by decide)) T.g_possible T.F_possible.kp T.b_possible tk (ea_cons (ee_var 0) (ea_cons ee_int (ea_cons (ek_add K (ek_len K T.m_len (ed_cons (ek_ix K (ek_ix K (ek_ix K (ee_var 0) ee_int) ee_int) ee_int) ed_nil)) ee_int) ea_nil))))⟩⟩⟩

abbrev x_law_la7 : Expr := lamOf ((defBody s_law).getD 9 (.Pass ⟨0, 0, 0, 0⟩))
theorem la_law_la7 (T : Fx K mg) (B : Bx T base) {A : Around} {outer : List Env} {s : Shared} {H : Hp} {E : XK} : LamD (cxOf (L2.CX P w) P w K mg base ["script", "some", "at", "one", "listed", "no", "number", "bad", "calls", "parts", "other", "shapes"] "law" (defScope s_law) T.f_law (.ref T.ca_law) A outer s H E) (TT T) 8 T.ca_law T.ta_law (lamA x_law_la7) (lamB x_law_la7) (lamS x_law_la7) [1] e_law_la7 :=
  ⟨B.tb_law, rfl, hm_law T, hu_law T, NdefX.ndef_free (sc := defScope s_law) (nsc := lamS x_law_la7) (fr := ["some"]) (by decide +kernel), rfl, ["some"], rfl, fun c' => ⟨NdefX.nscope_by (sc := lamS x_law_la7) (by decide +kernel), fun _ _ _ _ _ => rfl, fun f A outer s H E hr tk po => ⟨_, (ek_call K (ok_possible T) (hr.mono (by decide)) T.g_possible T.F_possible.kp T.b_possible tk (ea_cons (ee_var 0) (ea_cons ee_int (ea_cons (ee_un un_neg ud_neg ee_int) ea_nil))))⟩⟩⟩

abbrev x_law_la8 : Expr := lamOf ((defBody s_law).getD 10 (.Pass ⟨0, 0, 0, 0⟩))
theorem la_law_la8 (T : Fx K mg) (B : Bx T base) {A : Around} {outer : List Env} {s : Shared} {H : Hp} {E : XK} : LamD (cxOf (L2.CX P w) P w K mg base ["script", "some", "at", "one", "listed", "no", "number", "bad", "calls", "parts", "other", "shapes"] "law" (defScope s_law) T.f_law (.ref T.ca_law) A outer s H E) (TT T) 8 T.ca_law T.ta_law (lamA x_law_la8) (lamB x_law_la8) (lamS x_law_la8) [1] e_law_la8 :=
  ⟨B.tb_law, rfl, hm_law T, hu_law T, NdefX.ndef_free (sc := defScope s_law) (nsc := lamS x_law_la8) (fr := ["some"]) (by decide +kernel), rfl, ["some"], rfl, fun c' => ⟨NdefX.nscope_by (sc := lamS x_law_la8) (by decide +kernel), fun _ _ _ _ _ => rfl, fun f A outer s H E hr tk po => ⟨_, (ek_call K (ok_possible T) (hr.mono (by decide)) T.g_possible T.F_possible.kp T.b_possible tk (ea_cons (ee_var 0) (ea_cons ee_int (ea_cons ee_bl ea_nil))))⟩⟩⟩

abbrev x_law_la9 : Expr := lamOf ((defBody s_law).getD 12 (.Pass ⟨0, 0, 0, 0⟩))
theorem la_law_la9 (T : Fx K mg) (B : Bx T base) {A : Around} {outer : List Env} {s : Shared} {H : Hp} {E : XK} : LamD (cxOf (L2.CX P w) P w K mg base ["script", "some", "at", "one", "listed", "no", "number", "bad", "calls", "parts", "other", "shapes"] "law" (defScope s_law) T.f_law (.ref T.ca_law) A outer s H E) (TT T) 8 T.ca_law T.ta_law (lamA x_law_la9) (lamB x_law_la9) (lamS x_law_la9) [1, 10] e_law_la9 :=
  ⟨B.tb_law, rfl, hm_law T, hu_law T, NdefX.ndef_free (sc := defScope s_law) (nsc := lamS x_law_la9) (fr := ["some", "other"]) (by decide +kernel), rfl, ["some", "other"], rfl, fun c' => ⟨NdefX.nscope_by (sc := lamS x_law_la9) (by decide +kernel), fun _ _ _ _ _ => rfl, fun f A outer s H E hr tk po => ⟨_, (ek_call K (ok_same_limits T) (hr.mono (by decide)) T.g_same_limits T.F_same_limits.kp T.b_same_limits tk (ea_cons (ee_var 0) (ea_cons (ee_var 1) ea_nil)))⟩⟩⟩

abbrev x_law_la10 : Expr := lamOf ((defBody s_law).getD 13 (.Pass ⟨0, 0, 0, 0⟩))
theorem la_law_la10 (T : Fx K mg) (B : Bx T base) {A : Around} {outer : List Env} {s : Shared} {H : Hp} {E : XK} : LamD (cxOf (L2.CX P w) P w K mg base ["script", "some", "at", "one", "listed", "no", "number", "bad", "calls", "parts", "other", "shapes"] "law" (defScope s_law) T.f_law (.ref T.ca_law) A outer s H E) (TT T) 8 T.ca_law T.ta_law (lamA x_law_la10) (lamB x_law_la10) (lamS x_law_la10) [10, 1] e_law_la10 :=
  ⟨B.tb_law, rfl, hm_law T, hu_law T, NdefX.ndef_free (sc := defScope s_law) (nsc := lamS x_law_la10) (fr := ["other", "some"]) (by decide +kernel), rfl, ["other", "some"], rfl, fun c' => ⟨NdefX.nscope_by (sc := lamS x_law_la10) (by decide +kernel), fun _ _ _ _ _ => rfl, fun f A outer s H E hr tk po => ⟨_, (ek_call K (ok_parting_way T) (hr.mono (by decide)) T.g_parting_way T.F_parting_way.kp T.b_parting_way tk (ea_cons (ee_var 0) (ea_cons (ee_var 1) ea_nil)))⟩⟩⟩
theorem ok_law (T : Fx K mg) (B : Bx T base) : FnOk P w K mg base (L2.CX P w) 13 T.f_law T.fd_law ["script"] (spT1 K (TT T) 1 ok1_law) :=
  fn_true (N := ["script", "some", "at", "one", "listed", "no", "number", "bad", "calls", "parts", "other", "shapes"]) (k := 12) (kk := 8) T.F_law sc_law rfl T.cq_law fun A outer s H E hr tk po => ⟨_, (mb_cons (ms_es (W := fun cls d _ H => E cls d H) (es_asgT (ee_tup (ed_cons (ek_call K (ok_l_map T) (hr.mono (by decide)) T.g_l_map T.F_l_map.kp T.b_l_map tk (ea_cons (ee_var 0) (ea_cons ee_int (ea_cons ee_int ea_nil)))) (ed_cons (ek_call K (ok_l_pick T) (hr.mono (by decide)) T.g_l_pick T.F_l_pick.kp T.b_l_pick tk (ea_cons (ee_var 0) (ea_cons ee_int (ea_cons ee_int ea_nil)))) ed_nil))) (gk_tup K (egs_cons (eg_name 1 sc_law.nd) (egs_cons (eg_name 2 sc_law.nd) egs_nil)))))
      (mb_cons (ms_es (W := fun cls d _ H => E cls d H) (es_asgF 3 sc_law.nd (ee_tup (ed_cons ee_int (ed_cons ee_int (ed_cons ee_int (ed_cons (ee_tup ed_nil) ed_nil)))))))
      (mb_cons (ms_es (W := fun cls d _ H => E cls d H) (es_asgF 4 sc_law.nd (ee_lst (ed_cons ee_int (ed_cons ee_int (ed_cons ee_int (ed_cons (ee_tup (ed_cons (ee_var 3) ed_nil)) ed_nil)))))))
      (mb_cons (ms_es (W := fun cls d _ H => E cls d H) (es_asgF 5 sc_law.nd (ek_ix K (ee_tup (ed_cons ee_non (ed_cons ee_int (ed_cons (ee_tup (ed_cons ee_int (ed_cons ee_int (ed_cons ee_int (ed_cons (ee_tup (ed_cons (ee_var 3) ed_nil)) ed_nil))))) (ed_cons (ee_tup (ed_cons ee_int (ed_cons ee_int (ed_cons ee_int (ed_cons (ee_tup (ed_cons (ee_var 3) ed_nil)) ed_nil))))) (ed_cons (ee_tup (ed_cons ee_int (ed_cons ee_int (ed_cons ee_int (ed_cons (ee_tup (ed_cons (ee_var 3) ed_nil)) ed_nil))))) (ed_cons (ee_tup (ed_cons ee_int (ed_cons ee_int (ed_cons ee_int (ed_cons (ee_tup ed_nil) ed_nil))))) (ed_cons (ee_var 4) (ed_cons (ee_tup (ed_cons ee_int (ed_cons ee_int (ed_cons ee_int ed_nil)))) ed_nil))))))))) (ee_var 2))))
      (mb_cons (ms_es (W := fun cls d _ H => E cls d H) (es_asgF 6 sc_law.nd (ek_ix K (ee_tup (ed_cons ee_non (ed_cons (ee_un un_neg ud_neg ee_int) (ed_cons (ek_len K T.m_len (ed_cons (ek_ix K (ee_var 1) ee_int) ed_nil)) (ed_cons ee_bl (ed_cons ee_str (ed_cons (ee_tup (ed_cons ee_int ed_nil)) (ed_cons (ee_lst (ed_cons ee_int ed_nil)) (ed_cons ee_int ed_nil))))))))) (ee_var 2))))
      (mb_cons (ms_if (mt_nn (mv_mk (ok_l_all T _) (hr.mono (by decide)) T.g_l_all T.F_l_all.kp T.b_l_all (ok_l_nets T B) (hr.mono (by decide)) T.g_l_nets T.F_l_nets.kp T.b_l_nets tk (by decide) (shp _ (by decide)) (ea_cons (ee_var 1) (ea_cons (ee_var 5) ea_nil))) (mv_mk (ok_l_all T _) (hr.mono (by decide)) T.g_l_all T.F_l_all.kp T.b_l_all (ok_l_numbered T B) (hr.mono (by decide)) T.g_l_numbered T.F_l_numbered.kp T.b_l_numbered tk (by decide) (shp _ (by decide)) (ea_cons (ee_var 1) (ea_cons (ee_var 6) ea_nil)))) (mb_one (ms_es (W := fun cls d _ H => E cls d H) (es_ret ee_bl))) mb_nil)
      (mb_cons (ms_for (W := fun cls d _ H => E cls d H) po (ik_seq K (ee_tup (ed_cons ee_non (ed_cons (ee_tup ed_nil) (ed_cons (ee_lst (ed_cons ee_int ed_nil)) (ed_cons (ee_tup (ed_cons ee_int ed_nil)) (ed_cons (ee_tup (ed_cons ee_bl ed_nil)) (ed_cons ee_int (ed_cons (ek_repT K (ee_tup (ed_cons ee_int ed_nil)) ee_int) ed_nil))))))))) (eg_name 7 sc_law.nd) (mb_cons (ms_new 8 sc_law.nd (la_law_la1 T B))
      (mb_cons (ms_app 8 (la_law_la2 T B))
      (mb_cons (ms_app 8 (la_law_la3 T B))
      (mb_cons (ms_app 8 (la_law_la4 T B))
      (mb_one (ms_if (mt_n1 (mv_all 8 (ok_l_all T _) (hr.mono (by decide)) T.g_l_all T.F_l_all.kp T.b_l_all (fun _ => rfl) (by decide) (shp _ (by decide)))) (mb_one (ms_es (W := fun cls d _ H => E cls d H) (es_ret ee_bl))) mb_nil)))))))
      (mb_cons (ms_for (W := fun cls d _ H => E cls d H) po (ik_seq K (ee_tup (ed_cons ee_non (ed_cons ee_int (ed_cons ee_int (ed_cons ee_bl (ed_cons ee_str ed_nil))))))) (eg_name 7 sc_law.nd) (mb_one (ms_if (mt_n1 (mv_allL (ok_l_all T _) (hr.mono (by decide)) T.g_l_all T.F_l_all.kp T.b_l_all (fun _ => rfl) (by decide) (shp _ (by decide)) (la_law_la5 T B))) (mb_one (ms_es (W := fun cls d _ H => E cls d H) (es_ret ee_bl))) mb_nil)))
      (mb_cons (ms_new 9 sc_law.nd (la_law_la6 T B))
      (mb_cons (ms_app 9 (la_law_la7 T B))
      (mb_cons (ms_app 9 (la_law_la8 T B))
      (mb_cons (ms_es (W := fun cls d _ H => E cls d H) (es_asgF 10 sc_law.nd (ee_tup (ed_cons ee_int (ed_cons ee_int (ed_cons ee_int (ed_cons (ee_tup (ed_cons (ee_tup (ed_cons ee_int (ed_cons ee_int (ed_cons ee_int (ed_cons (ee_tup ed_nil) ed_nil))))) ed_nil)) ed_nil)))))))
      (mb_cons (ms_new 11 sc_law.nd (la_law_la9 T B))
      (mb_cons (ms_app 11 (la_law_la10 T B))
      (mb_cons (ms_if (mt_nn (mv_all 9 (ok_l_all T _) (hr.mono (by decide)) T.g_l_all T.F_l_all.kp T.b_l_all (fun _ => rfl) (by decide) (shp _ (by decide))) (mv_all 11 (ok_l_all T _) (hr.mono (by decide)) T.g_l_all T.F_l_all.kp T.b_l_all (fun _ => rfl) (by decide) (shp _ (by decide)))) (mb_one (ms_es (W := fun cls d _ H => E cls d H) (es_ret ee_bl))) mb_nil)
      (mb_one (ms_ret (mv_and (W := fun cls d _ H => E cls d H) (mv_call (ok_l_placed T B) (hr.mono (by decide)) T.g_l_placed T.F_l_placed.kp T.b_l_placed tk (ea_cons (ee_var 1) ea_nil)) (ee_cmp op_isA od_is (ek_call K (ok_same_shape T) (hr.mono (by decide)) T.g_same_shape T.F_same_shape.kp T.b_same_shape tk (ea_cons (ee_var 1) (ea_cons (ee_var 10) ea_nil))) ee_bl (nomark _))))))))))))))))))))⟩

end
end
end LW
namespace LW
open PySem PySem.Spec PyProof.Rows L2 DN

/-! ### nets -/
structure Road where
  s : Int
  e : Int
  t : Int
  g : List Int
structure Net where
  fast : Int
  slow : Int
  keeps : Int
  roads : List Road
def tI (xs : List Int) : PyData := .tuple (xs.map .int)
def Road.d (r : Road) : PyData := .tuple [.int r.s, .int r.e, .int r.t, tI r.g]
def Net.d (n : Net) : PyData := .tuple [.int n.fast, .int n.slow, .int n.keeps, .tuple (n.roads.map Road.d)]
@[simp] theorem nx0 (n : Net) : opIx n.d (.int 0) = .ok (.val (.int n.fast)) := rfl
@[simp] theorem nx1 (n : Net) : opIx n.d (.int 1) = .ok (.val (.int n.slow)) := rfl
@[simp] theorem nx2 (n : Net) : opIx n.d (.int 2) = .ok (.val (.int n.keeps)) := rfl
@[simp] theorem nx3 (n : Net) : opIx n.d (.int 3) = .ok (.val (.tuple (n.roads.map Road.d))) := rfl
@[simp] theorem rx0 (n : Road) : opIx n.d (.int 0) = .ok (.val (.int n.s)) := rfl
@[simp] theorem rx1 (n : Road) : opIx n.d (.int 1) = .ok (.val (.int n.e)) := rfl
@[simp] theorem rx2 (n : Road) : opIx n.d (.int 2) = .ok (.val (.int n.t)) := rfl
@[simp] theorem rx3 (n : Road) : opIx n.d (.int 3) = .ok (.val (tI n.g)) := rfl
@[simp] theorem n_tupl (n : Net) (ts : List PyData → Ev → Rs Ev) (ρ : Ev) : tTupl ts n.d ρ = ts [.int n.fast, .int n.slow, .int n.keeps, .tuple (n.roads.map Road.d)] ρ := rfl
@[simp] theorem r_tupl (n : Road) (ts : List PyData → Ev → Rs Ev) (ρ : Ev) : tTupl ts n.d ρ = ts [.int n.s, .int n.e, .int n.t, tI n.g] ρ := rfl
@[simp] theorem tI_len (xs : List Int) : biLen [tI xs] = .ok (.val (.int xs.length)) := by simp [tI]
@[simp] theorem tI_seq (xs : List Int) : seqD (tI xs) = .ok (xs.map .int) := rfl
structure Road.Ok (r : Road) : Prop where
  s0 : 0 ≤ r.s
  s5 : r.s ≤ 5
  e0 : 0 ≤ r.e
  e5 : r.e ≤ 5
  t : r.t = 0 ∨ r.t = 1
  gl : r.g.length ≤ 3
  g : ∀ x ∈ r.g, 0 ≤ x ∧ x ≤ 13
structure Net.Ok (n : Net) : Prop where
  f5 : 5 ≤ n.fast
  f13 : n.fast ≤ 13
  s1 : 1 ≤ n.slow
  sf : n.slow ≤ n.fast
  k : n.keeps = 0 ∨ n.keeps = 1
  r1 : 1 ≤ n.roads.length
  r8 : n.roads.length ≤ 8
  r : ∀ r ∈ n.roads, r.Ok

/-! ### the judging functions, at any data -/
def isIntB (d : PyData) (a b : Int) : Bool := match d with
  | .int i => decide (a ≤ i) && decide (i ≤ b)
  | _ => false
@[simp] theorem is_int_den (d : PyData) (a b : Int) : d_is_int [.val d, .val (.int a), .val (.int b)] = .ok (.val (.bool (isIntB d a b))) := by
  unfold d_is_int denB g_is_int
  cases d <;> simp [startE, isI, isB, isIntB]
  rename_i i
  by_cases h : a ≤ i <;> simp [h]
def areSignsB (d : PyData) : Bool := match d with
  | .tuple ds => decide (ds.length ≤ 3) && ds.all fun x => isIntB x 0 13
  | _ => false
theorem asBs_of (ds : List PyData) (f : PyData → Bool) : asBs (ds.map fun x => PyData.bool (f x)) = some (ds.map f) := by
  rw [show (ds.map fun x => PyData.bool (f x)) = (ds.map f).map PyData.bool by simp]
  exact asBs_map _
theorem lim_of {n : Nat} (h : n ≤ 1000) : n ≤ lim := Nat.le_trans h (by decide)
/-- a comprehension of truth values over the items of a tuple -/
theorem all_lc {i : Nat} {fe : Ev → Rs R} {ρ : Ev} {ds : List PyData} (f : PyData → Bool) (h : ∀ x ∈ ds, fe ((wipeE ρ [i]).set i (some (.val x))) = .ok (.val (.bool (f x)))) :
    lcGo (tName i) fYes fe (wipeE ρ [i]) ds = .ok (ds.map fun x => .bool (f x)) := by
  have := lcGo_map (ft := tName i) (fe := fe) (ρ := wipeE ρ [i]) id (fun x => (wipeE ρ [i]).set i (some (.val x))) (fun x => .bool (f x)) ds (fun _ _ => rfl) (fun x hx => by rw [h x hx]; rfl)
  simpa using this
@[simp] theorem are_signs_den (d : PyData) : d_are_signs [.val d] = .ok (.val (.bool (areSignsB d))) := by
  unfold d_are_signs denB g_are_signs
  cases d <;> simp [startE, isT, areSignsB]
  rename_i ds
  by_cases h : 3 < (ds.length : Int)
  · have h3 : ¬ ds.length ≤ 3 := by omega
    simp [h, h3]
  · have h3 : ds.length ≤ 3 := by omega
    have e : are_signs_c1 [some (.val (.tuple ds)), none] = .ok (.own (ds.map fun x => .bool (isIntB x 0 13))) :=
      fLc_of (ds := ds) (by simp) (lim_of (by omega)) (all_lc _ fun x hx => by simp)
    simp [h, h3, e, asBs_of]
def isRoadB (d : PyData) : Bool := match d with
  | .tuple [a, b, c, s] => areSignsB s && isIntB a 0 5 && isIntB b 0 5 && isIntB c 0 1
  | _ => false
theorem four {ds : List PyData} (h : ds.length = 4) : ∃ a b c d, ds = [a, b, c, d] := by
  match ds, h with
  | [a, b, c, d], _ => exact ⟨a, b, c, d, rfl⟩
@[simp] theorem is_road_den (d : PyData) : d_is_road [.val d] = .ok (.val (.bool (isRoadB d))) := by
  unfold d_is_road denB g_is_road
  cases d <;> simp [startE, isT, isRoadB]
  rename_i ds
  by_cases h : (ds.length : Int) = 4
  · obtain ⟨a, b, c, e, rfl⟩ := four (ds := ds) (by omega)
    simp
    cases h1 : areSignsB e <;> cases h2 : isIntB a 0 5 <;> cases h3 : isIntB b 0 5 <;> cases h4 : isIntB c 0 1 <;> simp [h1, h2, h3, h4]
  · simp [h]
    split
    · rename_i heq
      cases heq
      simp at h
    · rfl
theorem isIntB_true {d : PyData} {a b : Int} (h : isIntB d a b = true) : ∃ i, d = .int i ∧ a ≤ i ∧ i ≤ b := by
  cases d <;> simp [isIntB] at h
  exact ⟨_, rfl, h⟩
def intOf : PyData → Int
  | .int i => i
  | _ => 0
def roadsB : PyData → Bool
  | .tuple ds => decide (1 ≤ ds.length) && decide (ds.length ≤ 8) && ds.all isRoadB
  | _ => false
def isNetB (d : PyData) : Bool := match d with
  | .tuple [f, s, k, r] => isIntB f 5 13 && isIntB s 1 (intOf f) && isIntB k 0 1 && roadsB r
  | _ => false
@[simp] theorem is_net_den (d : PyData) : d_is_net [.val d] = .ok (.val (.bool (isNetB d))) := by
  unfold d_is_net denB g_is_net
  cases d <;> simp [startE, isT, isNetB]
  rename_i ds
  by_cases h : (ds.length : Int) = 4
  · obtain ⟨a, b, c, e, rfl⟩ := four (ds := ds) (by omega)
    simp
    cases h1 : isIntB a 5 13 with
    | false => simp
    | true =>
      obtain ⟨i, rfl, _, _⟩ := isIntB_true h1
      simp [intOf]
      cases h2 : isIntB b 1 i with
      | false => simp
      | true =>
        cases h3 : isIntB c 0 1 with
        | false => simp
        | true =>
          simp
          cases e with
          | tuple rs =>
            simp [isT, roadsB]
            by_cases h4 : 1 ≤ (rs.length : Int)
            · have h4' : 1 ≤ rs.length := by omega
              by_cases h5 : (rs.length : Int) ≤ 8
              · have h5' : rs.length ≤ 8 := by omega
                have e : is_net_c1 [some (.val (.tuple [.int i, b, c, .tuple rs])), some (.val (.int i)), some (.val b), some (.val c), some (.val (.tuple rs)), none] = .ok (.own (rs.map fun x => .bool (isRoadB x))) :=
                  fLc_of (ds := rs) (by simp) (lim_of (by omega)) (all_lc _ fun x hx => by simp)
                simp [h4, h5, h4', h5', e, asBs_of]
              · have h5' : ¬ rs.length ≤ 8 := by omega
                simp [h4, h5, h4', h5']
            · have h4' : ¬ 1 ≤ rs.length := by omega
              simp [h4, h4']
          | none => simp [isT, roadsB]
          | bool _ => simp [isT, roadsB]
          | int _ => simp [isT, roadsB]
          | str _ => simp [isT, roadsB]
          | list _ => simp [isT, roadsB]
          | dict _ => simp [isT, roadsB]
  · simp [h]
    split
    · rename_i heq
      cases heq
      simp at h
    · rfl
@[simp] theorem check_net_den (d : PyData) : d_check_net [.val d] = if isNetB d = true then .ok (.val .none) else .err "InvalidNet" := by
  unfold d_check_net denB g_check_net
  simp [startE]
  cases h : isNetB d <;> simp
@[simp] theorem isIntB_int (i a b : Int) : isIntB (.int i) a b = (decide (a ≤ i) && decide (i ≤ b)) := rfl
theorem Road.Ok.b {r : Road} (h : r.Ok) : isRoadB r.d = true := by
  unfold Road.d isRoadB areSignsB tI
  have h1 := h.t
  have h2 := h.g
  simp [h.s0, h.s5, h.e0, h.e5, h.gl]
  refine ⟨fun x hx => ?_, by omega, by omega⟩
  exact h2 x hx
@[simp] theorem Net.Ok.b {n : Net} (h : n.Ok) : isNetB n.d = true := by
  unfold Net.d isNetB roadsB
  have h1 := h.k
  simp [intOf, h.f5, h.f13, h.s1, h.sf, h.r1, h.r8]
  exact ⟨⟨by omega, by omega⟩, fun r hr => (h.r r hr).b⟩
end LW
namespace LW
open PySem PySem.Spec PyProof.Rows L2 DN

def Net.rd (n : Net) (k : Nat) : Road := n.roads.getD k ⟨0, 0, 0, []⟩
theorem rd_get {n : Net} {k : Nat} (hk : k < n.roads.length) : (n.roads.map Road.d)[k]? = some (n.rd k).d := by
  simp [Net.rd, hk]
theorem rd_mem {n : Net} {k : Nat} (hk : k < n.roads.length) : n.rd k ∈ n.roads := by
  simp [Net.rd, hk]
theorem Net.Ok.rd {n : Net} (h : n.Ok) {k : Nat} (hk : k < n.roads.length) : (n.rd k).Ok := h.r _ (rd_mem hk)
theorem roads_range (n : Net) : n.roads = (List.range n.roads.length).map n.rd := by
  apply List.ext_getElem?
  intro i
  by_cases h : i < n.roads.length
  · simp [Net.rd, h]
  · simp [h]
def nI (ks : List Nat) : List PyData := ks.map fun k => .int (k : Nat)
/-- the roads that can follow -/
def Net.aft (n : Net) (k : Nat) : List Nat := (List.range n.roads.length).filter fun i => decide ((n.rd i).s = (n.rd k).e)
theorem aft_lt {n : Net} {k i : Nat} (h : i ∈ n.aft k) : i < n.roads.length := by
  have := (List.mem_filter.mp h).1
  simpa using this
theorem aft_len (n : Net) (k : Nat) : (n.aft k).length ≤ n.roads.length := by
  have := List.length_filter_le (fun i => decide ((n.rd i).s = (n.rd k).e)) (List.range n.roads.length)
  simpa [Net.aft] using this
def Net.st (n : Net) (k : Nat) : Int := if (n.rd k).t = 1 then n.slow else n.fast
theorem enumD_map {α : Type} (f : α → PyData) (xs : List α) (dflt : α) : enumD (xs.map f) = (List.range xs.length).map fun i => PyData.tuple [.int (i : Nat), f (xs.getD i dflt)] := by
  unfold enumD
  apply List.ext_getElem?
  intro i
  by_cases h : i < xs.length
  · simp [h]
  · simp [h]
@[simp] theorem check_road_den {n : Net} (h : n.Ok) (v : PyData) : d_check_road [.val n.d, .val v] = if isIntB v 0 (n.roads.length - 1) = true then .ok (.val .none) else .err "InvalidRoad" := by
  unfold d_check_road denB g_check_road
  simp [startE, h.b]
  cases isIntB v 0 (n.roads.length - 1) <;> simp
theorem road_in {n : Net} {k : Nat} (hk : k < n.roads.length) : isIntB (.int (k : Nat)) 0 (n.roads.length - 1) = true := by
  simp
  omega
@[simp] theorem find_followers_den {n : Net} {k : Nat} (hk : k < n.roads.length) (h8 : n.roads.length ≤ 1000) : d_find_followers [.val n.d, .val (.int (k : Nat))] = .ok (.own (nI (n.aft k))) := by
  unfold d_find_followers denB g_find_followers
  have e : find_followers_c1 [some (.val n.d), some (.val (.int (k : Nat))), none, none] = .ok (.own (nI (n.aft k))) := by
    refine fLc_of (ds := enumD (n.roads.map Road.d)) (by simp) (lim_of (by simp [enumD]; omega)) ?_
    rw [enumD_map Road.d n.roads ⟨0, 0, 0, []⟩]
    refine lcGo_typed (fun i => PyData.tuple [.int (i : Nat), (n.rd i).d]) (fun i => [some (.val n.d), some (.val (.int k)), some (.val (.int (i : Nat))), some (.val (n.rd i).d)]) (fun i => decide ((n.rd i).s = (n.rd k).e)) (fun i => .int (i : Nat)) (List.range n.roads.length)
      (fun i hi => by simp) (fun i hi => ?_) (fun i hi _ => by simp)
    simp [rd_get hk]
  simp [startE, e]
@[simp] theorem followers_den {n : Net} (h : n.Ok) {k : Nat} (hk : k < n.roads.length) : d_followers [.val n.d, .val (.int (k : Nat))] = .ok (.own (nI (n.aft k))) := by
  unfold d_followers denB g_followers
  have := h.r8
  simp only [startE]
  simp [check_road_den h, road_in hk, find_followers_den hk (by omega)]
@[simp] theorem find_standing_den {n : Net} {k : Nat} (hk : k < n.roads.length) : d_find_standing [.val n.d, .val (.int (k : Nat))] = .ok (.val (.int (n.st k))) := by
  unfold d_find_standing denB g_find_standing
  simp [startE, rd_get hk, Net.st]
  by_cases h : (n.rd k).t = 1 <;> simp [h]
@[simp] theorem standing_den {n : Net} (h : n.Ok) {k : Nat} (hk : k < n.roads.length) : d_standing [.val n.d, .val (.int (k : Nat))] = .ok (.val (.int (n.st k))) := by
  unfold d_standing denB g_standing
  simp only [startE]
  simp [check_road_den h, road_in hk, find_standing_den hk]
@[simp] theorem count_pieces_den {n : Net} (h : n.Ok) : d_count_pieces [.val n.d] = .ok (.own (n.roads.map fun r => .int ((r.g.length : Int) + 1))) := by
  unfold d_count_pieces denB g_count_pieces
  have := h.r8
  have e : count_pieces_c1 [some (.val n.d), none] = .ok (.own (n.roads.map fun r => .int ((r.g.length : Int) + 1))) :=
    fLc_of (ds := n.roads.map Road.d) (by simp) (lim_of (by simp; omega))
      (lcGo_map Road.d (fun r => [some (.val n.d), some (.val r.d)]) (fun r => .int ((r.g.length : Int) + 1)) n.roads (fun r _ => by simp) (fun r _ => by simp))
  simp [startE, h.b, e]
/-! ### ways -/
def linkB (n : Net) : List Int → Bool
  | a :: b :: r => decide ((n.rd a.toNat).e = (n.rd b.toNat).s) && linkB n (b :: r)
  | _ => true
def hasWayB (n : Net) : PyData → Bool
  | .tuple ds => decide (1 ≤ ds.length) && decide (ds.length ≤ 20) && ds.all (fun x => isIntB x 0 (n.roads.length - 1)) && linkB n (ds.map intOf)
  | _ => false
theorem allInts {a b : Int} : ∀ {ds : List PyData}, (ds.all fun x => isIntB x a b) = true → ∃ ks : List Int, ds = ks.map .int ∧ ∀ k ∈ ks, a ≤ k ∧ k ≤ b
  | [], _ => ⟨[], rfl, by simp⟩
  | d :: ds, h => by
    rw [List.all_cons, Bool.and_eq_true_iff] at h
    obtain ⟨i, rfl, h1, h2⟩ := isIntB_true h.1
    obtain ⟨ks, rfl, hk⟩ := allInts h.2
    exact ⟨i :: ks, rfl, fun k hk' => by
      rcases List.mem_cons.mp hk' with rfl | h'
      · exact ⟨h1, h2⟩
      · exact hk k h'⟩
theorem linkB_zip (n : Net) : ∀ ks : List Int, linkB n ks = (ks.zip (ks.drop 1)).all fun p => decide ((n.rd p.1.toNat).e = (n.rd p.2.toNat).s)
  | [] => rfl
  | [_] => rfl
  | a :: b :: r => by
    have ih := linkB_zip n (b :: r)
    show (decide _ && linkB n (b :: r)) = _
    rw [ih]
    rfl
theorem zipD_ints (xs ys : List Int) : zipD (xs.map .int) (ys.map .int) = (xs.zip ys).map fun p => PyData.tuple [.int p.1, .int p.2] := by
  unfold zipD
  rw [List.zip_map, List.map_map]
  rfl
@[simp] theorem has_way_den {n : Net} (h : n.Ok) (d : PyData) : d_has_way [.val n.d, .val d] = .ok (.val (.bool (hasWayB n d))) := by
  unfold d_has_way denB g_has_way
  have h8 := h.r8
  simp [startE]
  cases d with
  | tuple ds =>
    simp [isT, hasWayB]
    by_cases h1 : 1 ≤ (ds.length : Int)
    · have h1' : 1 ≤ ds.length := by omega
      by_cases h2 : (ds.length : Int) ≤ 20
      · have h2' : ds.length ≤ 20 := by omega
        have e : has_way_c1 [some (.val n.d), some (.val (.tuple ds)), some (.val (.tuple (n.roads.map Road.d))), none, none, none] = .ok (.own (ds.map fun x => .bool (isIntB x 0 (n.roads.length - 1)))) :=
          fLc_of (ds := ds) (by simp) (lim_of (by omega)) (all_lc _ fun x hx => by simp)
        simp [h1, h2, h1', h2', e, asBs_of]
        cases hall : (ds.all fun x => isIntB x 0 (n.roads.length - 1)) with
        | false =>
          have hex : ∃ x, x ∈ ds ∧ isIntB x 0 (n.roads.length - 1) = false := by simpa using hall
          rw [if_pos hex]
          rfl
        | true =>
          have hne : ¬ ∃ x, x ∈ ds ∧ isIntB x 0 (n.roads.length - 1) = false := by
            simp at hall
            simpa using hall
          rw [if_neg hne]
          obtain ⟨ks, rfl, hk⟩ := allInts hall
          have hdrop : DN.cut (ks.map PyData.int) (some 1) none = (ks.drop 1).map .int := by
            rw [show (some 1 : Option Int) = some ((1 : Nat) : Int) from rfl, cut_from, List.map_drop]
          refine (fun (e2 : has_way_c2 [some (.val n.d), some (.val (.tuple (ks.map .int))), some (.val (.tuple (n.roads.map Road.d))), none, none, none] = .ok (.own ((ks.zip (ks.drop 1)).map fun p => .bool (decide ((n.rd p.1.toNat).e = (n.rd p.2.toNat).s))))) => ?_) ?_
          · simp [e2]
            rw [show ((ks.zip ks.tail).map fun p => PyData.bool (decide ((n.rd p.1.toNat).e = (n.rd p.2.toNat).s))) = ((ks.zip ks.tail).map fun p => decide ((n.rd p.1.toNat).e = (n.rd p.2.toNat).s)).map .bool by simp, asBs_map]
            have e : (ks.map (intOf ∘ PyData.int)) = ks := by
              rw [show (intOf ∘ PyData.int) = id from rfl, List.map_id]
            simp [e, linkB_zip]
          · refine fLc_of (ds := (ks.zip (ks.drop 1)).map fun p => PyData.tuple [.int p.1, .int p.2]) (by simp [hdrop]; rw [← List.map_tail]; exact zipD_ints ks ks.tail) (lim_of (by simp at h2' ⊢; omega)) ?_
            refine lcGo_map (fun (p : Int × Int) => PyData.tuple [.int p.1, .int p.2]) (fun p => [some (.val n.d), some (.val (.tuple (ks.map .int))), some (.val (.tuple (n.roads.map Road.d))), none, some (.val (.int p.1)), some (.val (.int p.2))]) (fun p => .bool (decide ((n.rd p.1.toNat).e = (n.rd p.2.toNat).s))) _
              (fun p hp => by simp) (fun p hp => ?_)
            have b1 := hk p.1 (List.of_mem_zip hp).1
            have b2 := hk p.2 (List.mem_of_mem_drop (List.of_mem_zip hp).2)
            have l1 : p.1.toNat < n.roads.length := by omega
            have l2 : p.2.toNat < n.roads.length := by omega
            simp [atI_pos _ b1.1, atI_pos _ b2.1, rd_get l1, rd_get l2]
      · have h2' : ¬ ds.length ≤ 20 := by omega
        simp [h1, h2, h1', h2']
    · have h1' : ¬ 1 ≤ ds.length := by omega
      simp [h1, h1']
  | none => simp [isT, hasWayB]
  | bool _ => simp [isT, hasWayB]
  | int _ => simp [isT, hasWayB]
  | str _ => simp [isT, hasWayB]
  | list _ => simp [isT, hasWayB]
  | dict _ => simp [isT, hasWayB]
@[simp] theorem is_way_den {n : Net} (h : n.Ok) (d : PyData) : d_is_way [.val n.d, .val d] = .ok (.val (.bool (hasWayB n d))) := by
  unfold d_is_way denB g_is_way
  simp [startE, h.b, has_way_den h]
end LW
namespace LW
open PySem PySem.Spec PyProof.Rows L2 DN

/-! ### drawing -/
theorem mul31 (i : Int) : CMul i 31 := .inr (by decide)
theorem mulc (i : Int) : CMul i 40692 := .inr (by decide)
theorem mul6 (i : Int) : CMul 6151 i := .inl (by decide)
theorem divc : CDivW 0 840 := by decide
theorem div840 (i : Int) : CDivW i 840 := by unfold CDivW; decide
theorem div31 (i : Int) : CDivW i 31 := by unfold CDivW; decide
theorem divbig (i : Int) : CDivW i 1000000000000000000 := by unfold CDivW; decide
theorem pow18 : CPow 10 18 := by unfold CPow; decide
theorem divlen (i : Int) (n : Nat) (h : n ≤ 1000) (h0 : 0 < n) : CDivW i (n : Int) := by
  unfold CDivW
  refine ⟨by omega, ?_⟩
  have : (n : Int).natAbs = n := by simp
  rw [this]
  have : n.log2 ≤ n := Nat.log2_le_self n
  omega
theorem pick_den (ns : List Int) (hl : ns.length ≤ 63) (k many : Int) (hk : 0 ≤ k) (hk2 : k < 100000) (hm : 0 < many) : ∃ m, d_l_pick [.scr ns, .val (.int k), .val (.int many)] = .ok (.val (.int m)) ∧ 0 ≤ m ∧ m < many := by
  have tail : ∀ (cell rest again : Int) (o : Option R), rest ≤ 0 ∨ 0 < rest → ∃ m, retOf ((gSeq (gIf (fTest (fOp opGt (fVar 4) (fC (.int 0)))) (gRet (fOp opMod (fOp opMod (fVar 4) (fC (.int 840))) (fVar 2))) gNext)
  (gSeq (gAsgF 6 (fOp opMod (fOp opMulI (fOp opAdd (fOp opMulI (fVar 3) (fC (.int 31))) (fOp opMulI (fC (.int 6151)) (fOp opAdd (fVar 1) (fC (.int 1))))) (fC (.int 40692))) (fC (.int 2147483399))))
  (gRet (fOp opMod (fOp opMod (fOp opAdd (fOp opMulI (fVar 6) (fVar 6)) (fOp opDiv (fVar 6) (fC (.int 31)))) (fC (.int 2147483629))) (fVar 2))))) [some (.scr ns), some (.val (.int k)), some (.val (.int many)), some (.val (.int cell)), some (.val (.int rest)), some (.val (.int again)), o]) = .ok (.val (.int m)) ∧ 0 ≤ m ∧ m < many := by
    intro cell rest again o hr
    have hmod : 0 < many := hm
    rcases hr with hr | hr
    · have h0 : ¬ 0 < rest := by omega
      have hb := Int.emod_nonneg ((cell * 31 + 6151 * (k + 1)) * 40692) (b := 2147483399) (by decide)
      have hb2 := Int.emod_lt_of_pos ((cell * 31 + 6151 * (k + 1)) * 40692) (b := 2147483399) (by decide)
      have hc : CMul ((cell * 31 + 6151 * (k + 1)) * 40692 % 2147483399) ((cell * 31 + 6151 * (k + 1)) * 40692 % 2147483399) := .inl ⟨by omega, by omega⟩
      refine ⟨_, by simp [h0, oIc, mul31, mulc, mul6, hc, div31, hmod]; rfl, Int.emod_nonneg _ (by omega), Int.emod_lt_of_pos _ hm⟩
    · refine ⟨_, by simp [hr, oIc, hmod]; rfl, Int.emod_nonneg _ (by omega), Int.emod_lt_of_pos _ hm⟩
  have loop : ∀ (cell rest again : Int), again < 100000 → ∃ rest' again', gWhile l_pick_t1 l_pick_b1
      [some (.scr ns), some (.val (.int k)), some (.val (.int many)), some (.val (.int cell)), some (.val (.int rest)), some (.val (.int again)), none] =
      .nx [some (.scr ns), some (.val (.int k)), some (.val (.int many)), some (.val (.int cell)), some (.val (.int rest')), some (.val (.int again')), none] := by
    intro cell rest again ha
    obtain ⟨ρ', e, ⟨r', a', rfl⟩, _⟩ := gWhile_rel (fc := l_pick_t1) (gb := l_pick_b1)
      (fun ρ => ∃ r a : Int, ρ = [some (.scr ns), some (.val (.int k)), some (.val (.int many)), some (.val (.int cell)), some (.val (.int r)), some (.val (.int a)), none])
      (natAt 5) (ρ := [some (.scr ns), some (.val (.int k)), some (.val (.int many)), some (.val (.int cell)), some (.val (.int rest)), some (.val (.int again)), none])
      ⟨rest, again, rfl⟩ (by simp [natAt]; omega) (fun ρ hI => by
        obtain ⟨r, a, rfl⟩ := hI
        by_cases h1 : 0 < r
        · by_cases h2 : 0 < a
          · exact ⟨true, by simp [l_pick_t1, h1, h2], fun _ => ⟨[some (.scr ns), some (.val (.int k)), some (.val (.int many)), some (.val (.int cell)), some (.val (.int (r / 840))), some (.val (.int (a - 1))), none], by simp [l_pick_b1, oIc, div840], ⟨_, _, rfl⟩, by simp [natAt]; omega⟩⟩
          · exact ⟨false, by simp [l_pick_t1, h1, h2], fun z => by cases z⟩
        · exact ⟨false, by simp [l_pick_t1, h1], fun z => by cases z⟩)
    exact ⟨r', a', e⟩
  have fin : ∀ (cell rest again : Int), again < 100000 → ∃ m, retOf ((gWhile l_pick_t1 l_pick_b1
      [some (.scr ns), some (.val (.int k)), some (.val (.int many)), some (.val (.int cell)), some (.val (.int rest)), some (.val (.int again)), none]).seq (gSeq (gIf (fTest (fOp opGt (fVar 4) (fC (.int 0)))) (gRet (fOp opMod (fOp opMod (fVar 4) (fC (.int 840))) (fVar 2))) gNext)
  (gSeq (gAsgF 6 (fOp opMod (fOp opMulI (fOp opAdd (fOp opMulI (fVar 3) (fC (.int 31))) (fOp opMulI (fC (.int 6151)) (fOp opAdd (fVar 1) (fC (.int 1))))) (fC (.int 40692))) (fC (.int 2147483399))))
  (gRet (fOp opMod (fOp opMod (fOp opAdd (fOp opMulI (fVar 6) (fVar 6)) (fOp opDiv (fVar 6) (fC (.int 31)))) (fC (.int 2147483629))) (fVar 2)))))) = .ok (.val (.int m)) ∧ 0 ≤ m ∧ m < many := by
    intro cell rest again ha
    obtain ⟨r', a', e⟩ := loop cell rest again ha
    rw [e, seq_nx]
    exact tail cell r' a' none (by omega)
  unfold d_l_pick denB g_l_pick
  cases ns with
  | nil =>
    obtain ⟨m, e, h1, h2⟩ := fin 0 0 k hk2
    refine ⟨m, ?_, h1, h2⟩
    have hd : CDivW k 1 := by unfold CDivW; decide
    simp only [gSeq, startE] at e ⊢
    simp [oIc, pow18, divbig, hd]
    simpa using e
  | cons c cs =>
    have hlenN : 0 < (c :: cs).length := by simp
    have hlen : 0 < ((c :: cs).length : Int) := by omega
    have hk3 := Int.emod_nonneg k (b := ((c :: cs).length : Int)) (by omega)
    have hk4 := Int.emod_lt_of_pos k hlen
    obtain ⟨x, hx⟩ : ∃ x, (c :: cs)[(k % ((c :: cs).length : Int)).toNat]? = some x := by
      rw [List.getElem?_eq_getElem (by omega)]
      exact ⟨_, rfl⟩
    have hq : k / ((c :: cs).length : Int) < 100000 := Int.lt_of_le_of_lt (Int.ediv_le_self _ hk) hk2
    obtain ⟨m, e, h1, h2⟩ := fin x (x / 1000000000000000000) (k / ((c :: cs).length : Int)) hq
    refine ⟨m, ?_, h1, h2⟩
    have hd : CDivW k ((c :: cs).length : Int) := divlen k _ (by omega) (by simp)
    have hgt : ¬ ((c :: cs).length : Int) < 1 := by omega
    have hne : (c :: cs).isEmpty = false := rfl
    have hat : atI (c :: cs) (k % ((c :: cs).length : Int)) = some x := by rw [atI_pos _ hk3]; exact hx
    generalize (c :: cs) = ns at *
    simp only [gSeq, startE] at e ⊢
    simp [oIc, pow18, divbig, hd, hat, hgt, hlenN, hne]
    simpa using e
def pickV (ns : List Int) (k many : Int) : Int := match d_l_pick [.scr ns, .val (.int k), .val (.int many)] with
  | .ok (.val (.int m)) => m
  | _ => 0
theorem pick_eq (ns : List Int) (hl : ns.length ≤ 63) (k many : Int) (hk : 0 ≤ k) (hk2 : k < 100000) (hm : 0 < many) :
    d_l_pick [.scr ns, .val (.int k), .val (.int many)] = .ok (.val (.int (pickV ns k many))) ∧ 0 ≤ pickV ns k many ∧ pickV ns k many < many := by
  obtain ⟨m, e, h1, h2⟩ := pick_den ns hl k many hk hk2 hm
  have : pickV ns k many = m := by unfold pickV; rw [e]
  rw [this]
  exact ⟨e, h1, h2⟩
/-! ### a drawn net -/
def sgn (fast j : Int) : Int := [0, fast, 7, 3, 0, 9].getD j.toNat 0
def mapRoad (ns : List Int) (fast spot : Int) : Road :=
  ⟨pickV ns (spot + 4) 3, pickV ns (spot + 5) 3, pickV ns (spot + 6) 2, (List.range (pickV ns (spot + 3) 4).toNat).map fun i => sgn fast (pickV ns (spot + (i : Nat)) 6)⟩
def mapNet (ns : List Int) (at_ most : Int) : Net :=
  ⟨5 + pickV ns at_ 9, 1 + pickV ns (at_ + 2) (5 + pickV ns at_ 9), if 0 < pickV ns (at_ + 3) 4 then 1 else 0,
    (List.range (1 + pickV ns (at_ + 1) most).toNat).map fun k => mapRoad ns (5 + pickV ns at_ 9) (at_ + 5 + 8 * (k : Nat))⟩
theorem sgn_at {fast j : Int} (h0 : 0 ≤ j) (h6 : j < 6) : atI [PyData.int 0, .int fast, .int 7, .int 3, .int 0, .int 9] j = some (.int (sgn fast j)) := by
  rw [atI_pos _ h0]
  have : j.toNat < 6 := by omega
  unfold sgn
  generalize j.toNat = m at this
  match m, this with
  | 0, _ => rfl
  | 1, _ => rfl
  | 2, _ => rfl
  | 3, _ => rfl
  | 4, _ => rfl
  | 5, _ => rfl
theorem sgn_ok {fast j : Int} (hf : 0 ≤ fast) (hf2 : fast ≤ 13) : 0 ≤ sgn fast j ∧ sgn fast j ≤ 13 := by
  unfold sgn
  generalize j.toNat = m
  match m with
  | 0 => simp
  | 1 => simp; omega
  | 2 => simp
  | 3 => simp
  | 4 => simp
  | 5 => simp
  | m + 6 => simp
theorem mapRoad_ok (ns : List Int) (hl : ns.length ≤ 63) {fast spot : Int} (hf : 0 ≤ fast) (hf2 : fast ≤ 13) (h0 : 0 ≤ spot) (h1 : spot < 90000) : (mapRoad ns fast spot).Ok ∧ (mapRoad ns fast spot).s < 3 ∧ (mapRoad ns fast spot).e < 3 := by
  have p4 := pick_eq ns hl (spot + 4) 3 (by omega) (by omega) (by decide)
  have p5 := pick_eq ns hl (spot + 5) 3 (by omega) (by omega) (by decide)
  have p6 := pick_eq ns hl (spot + 6) 2 (by omega) (by omega) (by decide)
  have p3 := pick_eq ns hl (spot + 3) 4 (by omega) (by omega) (by decide)
  refine ⟨⟨p4.2.1, ?_, p5.2.1, ?_, ?_, ?_, ?_⟩, p4.2.2, p5.2.2⟩
  · show pickV ns (spot + 4) 3 ≤ 5; omega
  · show pickV ns (spot + 5) 3 ≤ 5; omega
  · show pickV ns (spot + 6) 2 = 0 ∨ pickV ns (spot + 6) 2 = 1; omega
  · simp [mapRoad]; omega
  · intro x hx
    simp [mapRoad] at hx
    obtain ⟨i, _, rfl⟩ := hx
    exact sgn_ok hf hf2
theorem mapNet_ok (ns : List Int) (hl : ns.length ≤ 63) {at_ most : Int} (h0 : 0 ≤ at_) (h1 : at_ < 80000) (hm : 1 ≤ most) (hm8 : most ≤ 8) : (mapNet ns at_ most).Ok ∧ ((mapNet ns at_ most).roads.length : Int) ≤ most ∧ ∀ r ∈ (mapNet ns at_ most).roads, r.s < 3 ∧ r.e < 3 := by
  have p0 := pick_eq ns hl at_ 9 h0 (by omega) (by decide)
  have p1 := pick_eq ns hl (at_ + 1) most (by omega) (by omega) (by omega)
  have p2 := pick_eq ns hl (at_ + 2) (5 + pickV ns at_ 9) (by omega) (by omega) (by omega)
  have hr : ∀ r ∈ (mapNet ns at_ most).roads, r.Ok ∧ r.s < 3 ∧ r.e < 3 := fun r hr => by
    simp [mapNet] at hr
    obtain ⟨k, hk, rfl⟩ := hr
    exact mapRoad_ok ns hl (by omega) (by omega) (by omega) (by omega)
  refine ⟨⟨?_, ?_, ?_, ?_, ?_, ?_, ?_, fun r h => (hr r h).1⟩, ?_, fun r h => (hr r h).2⟩
  · show 5 ≤ 5 + pickV ns at_ 9; omega
  · show 5 + pickV ns at_ 9 ≤ 13; omega
  · show 1 ≤ 1 + pickV ns (at_ + 2) (5 + pickV ns at_ 9); omega
  · show 1 + pickV ns (at_ + 2) (5 + pickV ns at_ 9) ≤ 5 + pickV ns at_ 9; omega
  · show (if 0 < pickV ns (at_ + 3) 4 then (1 : Int) else 0) = 0 ∨ (if 0 < pickV ns (at_ + 3) 4 then (1 : Int) else 0) = 1
    split <;> simp
  · simp [mapNet]; omega
  · simp [mapNet]; omega
  · simp [mapNet]; omega
theorem rngD_nat {m : Int} (h : 0 ≤ m) : rngD 0 m.toNat = (List.range m.toNat).map fun i => PyData.int (i : Nat) := rngD_eq _
theorem map_c1_den (ns : List Int) (hl : ns.length ≤ 63) {fast spot : Int} (h0 : 0 ≤ spot) (h1 : spot < 90000) (a1 a2 o4 o5 o7 o8 o9 : Option R) :
    l_map_c1 [some (.scr ns), a1, a2, some (.val (.int fast)), o4, o5, some (.val (.int spot)), o7, o8, o9] = .ok (.own ((mapRoad ns fast spot).g.map .int)) := by
  have p3 := pick_eq ns hl (spot + 3) 4 (by omega) (by omega) (by decide)
  refine fLc_of (ds := (List.range (pickV ns (spot + 3) 4).toNat).map fun i => PyData.int (i : Nat)) ?_ (lim_of (by simp; omega)) ?_
  · simp [p3.1, rngD_eq]
    omega
  · rw [show (mapRoad ns fast spot).g.map PyData.int = (List.range (pickV ns (spot + 3) 4).toNat).map (fun i => PyData.int (sgn fast (pickV ns (spot + (i : Nat)) 6))) by simp [mapRoad]]
    refine lcGo_map (fun i : Nat => PyData.int (i : Nat)) (fun i => [some (.scr ns), a1, a2, some (.val (.int fast)), o4, o5, some (.val (.int spot)), o7, o8, some (.val (.int (i : Nat)))]) _ _ (fun i _ => by simp) (fun i hi => ?_)
    have hi' : i < (pickV ns (spot + 3) 4).toNat := by simpa using hi
    have p6 := pick_eq ns hl (spot + (i : Nat)) 6 (by omega) (by omega) (by decide)
    simp [p6.1, sgn_at p6.2.1 p6.2.2]
theorem map_den (ns : List Int) (hl : ns.length ≤ 63) {at_ most : Int} (h0 : 0 ≤ at_) (h1 : at_ < 80000) (hm : 1 ≤ most) (hm8 : most ≤ 8) : d_l_map [.scr ns, .val (.int at_), .val (.int most)] = .ok (.val (mapNet ns at_ most).d) := by
  have p0 := pick_eq ns hl at_ 9 h0 (by omega) (by decide)
  have p1 := pick_eq ns hl (at_ + 1) most (by omega) (by omega) (by omega)
  have p2 := pick_eq ns hl (at_ + 2) (5 + pickV ns at_ 9) (by omega) (by omega) (by omega)
  have p3 := pick_eq ns hl (at_ + 3) 4 (by omega) (by omega) (by omega)
  unfold d_l_map denB g_l_map
  simp only [gSeq, startE]
  simp [p0.1]
  obtain ⟨ρ', e, o5, o6, o7, o8, rfl⟩ := gFor_env (fi := (fRg1 (fOp opAdd (fC (.int 1)) (fCall d_l_pick (aCons (fVar 0) (aCons (fOp opAdd (fVar 1) (fC (.int 1))) (aCons (fVar 2) aNil)))))))
    (ft := tName 5) (gb := l_map_b1) (ds := (List.range (1 + pickV ns (at_ + 1) most).toNat).map fun i => PyData.int (i : Nat))
    (fun i ρ => ∃ o5 o6 o7 o8, ρ = [some (.scr ns), some (.val (.int at_)), some (.val (.int most)), some (.val (.int (5 + pickV ns at_ 9))), some (.own ((List.range i).map fun k => (mapRoad ns (5 + pickV ns at_ 9) (at_ + 5 + 8 * (k : Nat))).d)), o5, o6, o7, o8, none])
    (ρ := [some (.scr ns), some (.val (.int at_)), some (.val (.int most)), some (.val (.int (5 + pickV ns at_ 9))), some (.own []), none, none, none, none, none])
    (by simp [p1.1, rngD_eq]; omega) ⟨none, none, none, none, by simp⟩
    (fun i d ρ hd hI => by
      obtain ⟨o5, o6, o7, o8, rfl⟩ := hI
      obtain ⟨hi, rfl⟩ := range_get hd
      have hm8' : CMul 8 (i : Nat) := .inl (by constructor <;> omega)
      refine ⟨_, _, rfl, ?_, some (.val (.int (i : Nat))), some (.val (.int (at_ + 5 + 8 * (i : Nat)))), some (.val (.list ((mapRoad ns (5 + pickV ns at_ 9) (at_ + 5 + 8 * (i : Nat))).g.map .int))), some (.val (.tuple [.int (mapRoad ns (5 + pickV ns at_ 9) (at_ + 5 + 8 * (i : Nat))).s, .int (mapRoad ns (5 + pickV ns at_ 9) (at_ + 5 + 8 * (i : Nat))).e])), rfl⟩
      have q4 := pick_eq ns hl (at_ + 5 + 8 * (i : Nat) + 4) 3 (by omega) (by omega) (by omega)
      have q5 := pick_eq ns hl (at_ + 5 + 8 * (i : Nat) + 5) 3 (by omega) (by omega) (by omega)
      have q6 := pick_eq ns hl (at_ + 5 + 8 * (i : Nat) + 6) 2 (by omega) (by omega) (by omega)
      have hcap : (List.range i).length < lim := by
        have : (1000 : Nat) ≤ lim := by decide
        simp; omega
      have hl2 : (2 : Nat) + 2 ≤ lim := by decide
      unfold l_map_b1
      simp [oIc, hm8', map_c1_den ns hl (spot := at_ + 5 + 8 * (i : Nat)) (by omega) (by omega), q4.1, q5.1, q6.1]
      simp [List.range_succ, Road.d, tI, mapRoad, lim] at hcap ⊢
      omega)
  rw [e]
  simp [p2.1, p3.1, mapNet, Net.d]
  split <;> simp
end LW
namespace LW
open PySem PySem.Spec PyProof.Rows L2 DN

/-! ### ways, by length -/
def Net.ext (n : Net) (r : List Nat) : List (List Nat) := (n.aft (r.getLastD 0)).map fun k => r ++ [k]
def Net.lev (n : Net) : Nat → List (List Nat)
  | 0 => (List.range n.roads.length).map fun k => [k]
  | t + 1 => (n.lev t).flatMap n.ext
def Net.routes (n : Net) (m : Nat) : List (List Nat) := (List.range m).flatMap n.lev
def wD (r : List Nat) : PyData := .tuple (nI r)
structure Net.Way (n : Net) (r : List Nat) : Prop where
  ne : r ≠ []
  lt : ∀ k ∈ r, k < n.roads.length
  link : ∀ (i a b : Nat), r[i]? = some a → r[i + 1]? = some b → (n.rd a).e = (n.rd b).s
theorem last_lt {n : Net} {r : List Nat} (h : n.Way r) : r.getLastD 0 < n.roads.length := by
  apply h.lt
  rw [List.getLastD_eq_getLast?, List.getLast?_eq_some_getLast h.ne]
  exact List.getLast_mem h.ne
theorem ext_way {n : Net} {r r' : List Nat} (h : n.Way r) (hr : r' ∈ n.ext r) : n.Way r' := by
  unfold Net.ext at hr
  obtain ⟨k, hk, rfl⟩ := List.mem_map.mp hr
  have hk2 := List.mem_filter.mp hk
  have hk3 : (n.rd k).s = (n.rd (r.getLastD 0)).e := by simpa using hk2.2
  refine ⟨by simp, fun x hx => ?_, fun i a b ha hb => ?_⟩
  · rcases List.mem_append.mp hx with hx | hx
    · exact h.lt x hx
    · simp at hx
      subst hx
      exact aft_lt hk
  · by_cases h1 : i + 1 < r.length
    · rw [List.getElem?_append_left (by omega)] at ha hb
      exact h.link i a b ha hb
    · by_cases h2 : i + 1 = r.length
      · rw [List.getElem?_append_right (by omega)] at hb
        rw [List.getElem?_append_left (by omega)] at ha
        simp [h2] at hb
        subst hb
        have : r.getLastD 0 = a := by
          rw [List.getLastD_eq_getLast?, List.getLast?_eq_getElem?, show r.length - 1 = i by omega, ha]
          rfl
        rw [hk3, this]
      · rw [List.getElem?_append_right (by omega)] at hb
        have : ([k] : List Nat).length ≤ i + 1 - r.length := by simp; omega
        rw [List.getElem?_eq_none this] at hb
        cases hb
theorem lev_way {n : Net} : ∀ {t : Nat} {r : List Nat}, r ∈ n.lev t → n.Way r ∧ r.length = t + 1
  | 0, r, h => by
    obtain ⟨k, hk, rfl⟩ := List.mem_map.mp h
    have hk' : k < n.roads.length := by simpa using hk
    refine ⟨⟨by simp, fun x hx => by simp at hx; omega, fun i a b ha hb => ?_⟩, rfl⟩
    simp at hb
  | t + 1, r, h => by
    obtain ⟨r0, h0, h1⟩ := List.mem_flatMap.mp h
    have ih := lev_way h0
    refine ⟨ext_way ih.1 h1, ?_⟩
    obtain ⟨k, _, rfl⟩ := List.mem_map.mp h1
    simp [ih.2]
theorem flat_len {α β : Type} {f : α → List β} {c : Nat} : ∀ {xs : List α}, (∀ x ∈ xs, (f x).length ≤ c) → (xs.flatMap f).length ≤ xs.length * c
  | [], _ => by simp
  | x :: xs, h => by
    have ih := flat_len (xs := xs) fun y hy => h y (List.mem_cons_of_mem _ hy)
    have := h x List.mem_cons_self
    simp only [List.flatMap_cons, List.length_append, List.length_cons, Nat.succ_mul]
    omega
theorem ext_len (n : Net) (r : List Nat) : (n.ext r).length ≤ n.roads.length := by
  unfold Net.ext
  rw [List.length_map]
  exact aft_len n _
theorem lev_len (n : Net) : ∀ t : Nat, (n.lev t).length ≤ n.roads.length ^ (t + 1)
  | 0 => by simp [Net.lev]
  | t + 1 => by
    have := flat_len (f := n.ext) (xs := n.lev t) (fun r _ => ext_len n r)
    have ih := lev_len n t
    unfold Net.lev
    refine Nat.le_trans this ?_
    rw [Nat.pow_succ]
    exact Nat.mul_le_mul_right _ ih
theorem lev_len8 {n : Net} (h : n.roads.length ≤ 8) {t : Nat} (ht : t ≤ 5) : (n.lev t).length ≤ 262144 := by
  refine Nat.le_trans (lev_len n t) (Nat.le_trans (Nat.pow_le_pow_left h _) ?_)
  exact Nat.le_trans (Nat.pow_le_pow_right (by decide) (show t + 1 ≤ 6 by omega)) (by decide)
theorem routes_succ (n : Net) (m : Nat) : n.routes (m + 1) = n.routes m ++ n.lev m := by
  unfold Net.routes
  rw [List.range_succ]
  simp
theorem routes_len8 {n : Net} (h : n.roads.length ≤ 8) : ∀ {m : Nat}, m ≤ 6 → (n.routes m).length ≤ (8 ^ (m + 1) - 1) / 7
  | 0, _ => by simp [Net.routes]
  | m + 1, hm => by
    have ih := routes_len8 h (m := m) (by omega)
    have hl : (n.lev m).length ≤ 8 ^ (m + 1) := Nat.le_trans (lev_len n m) (Nat.pow_le_pow_left h _)
    rw [routes_succ, List.length_append]
    have e : 8 ^ (m + 1 + 1) = 8 ^ (m + 1) * 8 := Nat.pow_succ ..
    generalize 8 ^ (m + 1) = p at *
    omega
theorem routes_lim {n : Net} (h : n.roads.length ≤ 8) {m : Nat} (hm : m ≤ 6) : (n.routes m).length ≤ 299593 := by
  refine Nat.le_trans (routes_len8 h hm) ?_
  have : 8 ^ (m + 1) ≤ 8 ^ 7 := Nat.pow_le_pow_right (by decide) (by omega)
  have : (8 : Nat) ^ 7 = 2097152 := by decide
  omega
theorem nI_last {r : List Nat} (h : r ≠ []) : (nI r).getLast? = some (.int ((r.getLastD 0 : Nat) : Int)) := by
  unfold nI
  rw [List.getLast?_map, List.getLastD_eq_getLast?, List.getLast?_eq_some_getLast h]
  rfl
theorem dOks_nI (n : Nat) (ks : List Nat) : dOks n (nI ks) = true := dOks_map fun k _ => dOk_int n _
theorem eq_nI (ks : List Nat) : eqD (.list (nI ks)) (.list (nI ks)) = .ok true := eqD_same (n := 1) (dOk_list (dOks_nI 0 ks)) (by decide)
theorem eq_ints {α : Type} (f : α → Int) (xs : List α) : eqD (.list (xs.map fun x => .int (f x))) (.list (xs.map fun x => .int (f x))) = .ok true := eqD_same (n := 1) (dOk_list (dOks_map fun x _ => dOk_int 0 _)) (by decide)
theorem in_nI (k : Nat) (ks : List Nat) : inD (.int (k : Nat)) (.list (nI ks)) = .ok (decide (k ∈ ks)) := by
  have e : nI ks = (ks.map fun k => ((k : Nat) : Int)).map PyData.int := by simp [nI]
  rw [e, inD_ints]
  congr 1
  by_cases h : k ∈ ks
  · simp [h]
    exact ⟨k, h, rfl⟩
  · simp [h]
    intro x hx e
    have : x = k := by omega
    exact h (this ▸ hx)
theorem link_way {n : Net} : ∀ {r : List Nat}, (∀ (i a b : Nat), r[i]? = some a → r[i + 1]? = some b → (n.rd a).e = (n.rd b).s) → linkB n (r.map fun k => ((k : Nat) : Int)) = true
  | [], _ => rfl
  | [_], _ => rfl
  | a :: b :: r, h => by
    have h0 := h 0 a b rfl rfl
    have ih := link_way (n := n) (r := b :: r) (fun i x y hx hy => h (i + 1) x y (by simpa using hx) (by simpa using hy))
    show (decide _ && linkB n ((b :: r).map _)) = true
    rw [ih]
    simp [h0]
theorem nI_intOf (r : List Nat) : (nI r).map intOf = r.map fun k => ((k : Nat) : Int) := by simp [nI, intOf]
theorem hasWay_way {n : Net} {r : List Nat} (h : n.Way r) (hl : r.length ≤ 20) : hasWayB n (wD r) = true := by
  unfold wD hasWayB
  dsimp only
  rw [nI_intOf, link_way h.link]
  have h1 : 0 < r.length := List.length_pos_iff.mpr h.ne
  have : (nI r).length = r.length := by simp [nI]
  rw [this]
  have h2 : ((nI r).all fun x => isIntB x 0 (n.roads.length - 1)) = true := by
    rw [List.all_eq_true]
    intro x hx
    obtain ⟨k, hk, rfl⟩ := List.mem_map.mp hx
    have := h.lt k hk
    simp
    omega
  rw [h2]
  simp
  omega
theorem hasWay_two {n : Net} {a b : Nat} (ha : a < n.roads.length) (hb : b < n.roads.length) : hasWayB n (.tuple [.int (a : Nat), .int (b : Nat)]) = decide (b ∈ n.aft a) := by
  simp [hasWayB, linkB, intOf, Net.aft, hb]
  have h1 : (a : Int) ≤ n.roads.length - 1 := by omega
  have h2 : (b : Int) ≤ n.roads.length - 1 := by omega
  simp [h1, h2]
  by_cases h : (n.rd a).e = (n.rd b).s
  · simp [h]
  · have : ¬ (n.rd b).s = (n.rd a).e := fun z => h z.symm
    simp [h, this]

end LW
namespace LW
open PySem PySem.Spec PyProof.Rows L2 DN

/-! ### limits along ways -/
/-- the i-th road of a way -/
def wk (r : List Nat) (i : Nat) : Nat := r.getD i 0
def iL (xs : List Int) : PyData := .list (xs.map .int)
def lmt (rest one : Int) : Int := if one > 0 then one else rest
def Net.pcs (n : Net) (k : Nat) (s : Int) : List Int := (s :: (n.rd k).g).map (lmt (n.st k))
def Net.lv (n : Net) (k : Nat) (s : Int) : Int := (n.rd k).g.getLastD s
def Net.ov (n : Net) (s : Int) : Int := if n.keeps = 1 then s else 0
/-- the state onto the i-th road of a way; at its end -/
def Net.sB (n : Net) (r : List Nat) : Nat → Int
  | 0 => 0
  | i + 1 => n.ov (n.lv (wk r i) (n.sB r i))
def Net.sA (n : Net) (r : List Nat) : Nat → Int
  | 0 => 0
  | i + 1 => n.lv (wk r i) (n.sB r i)
theorem sB_succ (n : Net) (r : List Nat) {i : Nat} : n.sB r (i + 1) = n.ov (n.sA r (i + 1)) := rfl
def Net.rows (n : Net) (r : List Nat) : List (List Int) := (List.range r.length).map fun i => n.pcs (wk r i) (n.sB r i)
def Net.fin (n : Net) (r : List Nat) : Int := n.sA r r.length
theorem pcs_len (n : Net) (k : Nat) (s : Int) : (n.pcs k s).length = (n.rd k).g.length + 1 := by simp [Net.pcs]
theorem nI_get {r : List Nat} {i : Nat} (h : i < r.length) : (nI r)[i]? = some (.int ((wk r i : Nat) : Int)) := by
  simp [nI, h, wk]
theorem getD_mem {r : List Nat} {i : Nat} (h : i < r.length) : wk r i ∈ r := by
  simp [h, wk]
theorem enum_nI (r : List Nat) : enumD (nI r) = (List.range r.length).map fun i => PyData.tuple [.int (i : Nat), .int ((wk r i : Nat) : Int)] := enumD_map (fun k : Nat => PyData.int (k : Nat)) r 0
theorem r_ix {n : Net} {k : Nat} (hk : k < n.roads.length) : opIx (.tuple (n.roads.map Road.d)) (.int (k : Nat)) = .ok (.val (n.rd k).d) := by
  simp [rd_get hk]
theorem pieces_den {n : Net} (h : n.Ok) {k : Nat} (hk : k < n.roads.length) (s : Int) : d_pieces [.val n.d, .val (.int (k : Nat)), .val (.int s)] = .ok (.own ((n.pcs k s).map .int)) := by
  have h3 := (h.rd hk).gl
  have c1 : pieces_c1 [some (.val n.d), some (.val (.int (k : Nat))), some (.val (.int s)), some (.val (.int (n.st k))), none] = .ok (.own ((n.pcs k s).map .int)) := by
    refine fLc_of (ds := (s :: (n.rd k).g).map .int) ?_ (lim_of (by simp; omega)) ?_
    · have : (1 : Nat) + ((n.rd k).g.map PyData.int).length ≤ lim := lim_of (by simp; omega)
      simp [rd_get hk, tI]
      rw [if_pos (by simpa using this)]
      rfl
    · rw [show (n.pcs k s).map PyData.int = (s :: (n.rd k).g).map (fun x => PyData.int (lmt (n.st k) x)) by simp [Net.pcs]]
      refine lcGo_map (fun x : Int => PyData.int x) (fun x => [some (.val n.d), some (.val (.int (k : Nat))), some (.val (.int s)), some (.val (.int (n.st k))), some (.val (.int x))]) _ _ (fun x _ => by simp) (fun x _ => ?_)
      by_cases hx : 0 < x <;> simp [hx, lmt]
  unfold d_pieces denB g_pieces
  simp only [gSeq, startE]
  simp [find_standing_den hk, c1]
theorem leave_den {n : Net} (h : n.Ok) {k : Nat} (hk : k < n.roads.length) (s : Int) : d_leave [.val n.d, .val (.int (k : Nat)), .val (.int s)] = .ok (.val (.int (n.lv k s))) := by
  have h3 := (h.rd hk).gl
  unfold d_leave denB g_leave
  simp only [gSeq, startE]
  simp [rd_get hk, Net.lv]
  have e : eqD (tI (n.rd k).g) (.tuple []) = .ok (decide ((n.rd k).g = [])) := by
    rw [eqD_of (n := 1) (m := 1) (by unfold tI; exact dOk_tuple (dOks_map fun x _ => dOk_int 0 x)) (by simp [dOk, dOks]) (by decide) (by decide)]
    unfold tI
    cases (n.rd k).g <;> simp [PyData.eqv, PyData.eqvAll]
  rw [e]
  by_cases hg : (n.rd k).g = []
  · simp [hg]
  · obtain ⟨x, hx⟩ : ∃ x, (n.rd k).g.getLast? = some x := ⟨_, List.getLast?_eq_some_getLast hg⟩
    simp [hg, tI, atI_m1, hx]
theorem go_over_den (n : Net) (s : Int) : d_go_over [.val n.d, .val (.int s)] = .ok (.val (.int (n.ov s))) := by
  unfold d_go_over denB g_go_over
  simp only [startE]
  by_cases h : n.keeps = 1 <;> simp [h, Net.ov]
theorem check_way_den {n : Net} (h : n.Ok) (d : PyData) : d_check_way [.val n.d, .val d] = if hasWayB n d = true then .ok (.val .none) else .err "InvalidWay" := by
  unfold d_check_way denB g_check_way
  simp only [gSeq, startE]
  simp [h.b, has_way_den h]
  cases hasWayB n d <;> simp
theorem check_way_ok {n : Net} (h : n.Ok) {r : List Nat} (hr : n.Way r) (hl : r.length ≤ 20) : d_check_way [.val n.d, .val (wD r)] = .ok (.val .none) := by
  rw [check_way_den h, hasWay_way hr hl]
  rfl
theorem find_limits_den {n : Net} (h : n.Ok) {r : List Nat} (hr : n.Way r) (hl : r.length ≤ 1000) : d_find_limits [.val n.d, .val (wD r)] = .ok (.val (.tuple [.list ((n.rows r).map iL), .int (n.fin r)])) := by
  unfold d_find_limits denB g_find_limits
  simp only [gSeq, startE]
  simp
  obtain ⟨ρ', e, o4, o5, rfl⟩ := gFor_env (fi := fEnum (fVar 1)) (ft := tTupl (tsCons (tName 4) (tsCons (tName 5) tsNil))) (gb := find_limits_b1) (ds := (List.range r.length).map fun i => PyData.tuple [.int (i : Nat), .int ((wk r i : Nat) : Int)])
    (fun i ρ => ∃ o4 o5, ρ = [some (.val n.d), some (.val (wD r)), some (.val (.int (n.sA r i))), some (.own ((List.range i).map fun j => iL (n.pcs (wk r j) (n.sB r j)))), o4, o5])
    (ρ := [some (.val n.d), some (.val (wD r)), some (.val (.int 0)), some (.own []), none, none])
    (by simp [wD, enum_nI]) ⟨none, none, by simp [Net.sA]⟩ (fun i d ρ hd hI => by
      obtain ⟨o4, o5, rfl⟩ := hI
      obtain ⟨hi, rfl⟩ := range_get hd
      refine ⟨_, _, rfl, ?_, some (.val (.int (i : Nat))), some (.val (.int ((wk r i : Nat) : Int))), rfl⟩
      have hk : (wk r i) < n.roads.length := hr.lt _ (getD_mem hi)
      have hst : (if 0 < i then d_go_over [.val n.d, .val (.int (n.sA r i))] else .ok (.val (.int 0))) = .ok (.val (.int (n.sB r i))) := by
        cases i with
        | zero => simp [Net.sB]
        | succ i => simp [go_over_den, sB_succ]
      have hcap : ((List.range i).map fun j => iL (n.pcs (wk r j) (n.sB r j))).length < lim := Nat.lt_of_lt_of_le (show _ < 1001 by simp; omega) (by decide)
      unfold find_limits_b1
      simp at hcap
      simp [hst, pieces_den h hk, leave_den h hk, hcap]
      exact ⟨rfl, by simp [List.range_succ, iL]⟩)
  rw [e]
  simp [Net.rows, Net.fin]
theorem limits_den {n : Net} (h : n.Ok) {r : List Nat} (hr : n.Way r) (hl : r.length ≤ 20) : d_limits [.val n.d, .val (wD r)] = .ok (.val (.list ((n.rows r).map iL))) := by
  unfold d_limits denB g_limits
  simp only [gSeq, startE]
  simp [check_way_ok h hr hl, find_limits_den h hr (by omega)]
theorem state_after_den {n : Net} (h : n.Ok) {r : List Nat} (hr : n.Way r) (hl : r.length ≤ 20) : d_state_after [.val n.d, .val (wD r)] = .ok (.val (.int (n.fin r))) := by
  unfold d_state_after denB g_state_after
  simp only [gSeq, startE]
  simp [check_way_ok h hr hl, find_limits_den h hr (by omega)]
def Net.flt (n : Net) (r : List Nat) : List Int := (n.rows r).flatten
theorem rows_mem_len {n : Net} (h : n.Ok) {r : List Nat} (hr : n.Way r) {x : List Int} (hx : x ∈ n.rows r) : 1 ≤ x.length ∧ x.length ≤ 4 := by
  obtain ⟨i, hi, rfl⟩ := List.mem_map.mp hx
  have hi' : i < r.length := by simpa using hi
  have := (h.rd (hr.lt _ (getD_mem hi'))).gl
  rw [pcs_len]
  omega
theorem flt_len {n : Net} (h : n.Ok) {r : List Nat} (hr : n.Way r) : (n.flt r).length ≤ r.length * 4 := by
  have := flat_len (f := id) (xs := n.rows r) (c := 4) (fun x hx => (rows_mem_len h hr hx).2)
  unfold Net.flt
  rw [List.flatMap_id] at this
  have e : (n.rows r).length = r.length := by simp [Net.rows]
  omega
theorem flt_pos {n : Net} (h : n.Ok) {r : List Nat} (hr : n.Way r) : n.flt r ≠ [] := by
  intro e
  unfold Net.flt at e
  rw [List.flatten_eq_nil_iff] at e
  have hp : 0 < r.length := List.length_pos_iff.mpr hr.ne
  have hm : n.pcs (wk r 0) (n.sB r 0) ∈ n.rows r := List.mem_map.mpr ⟨0, by simpa using hp, rfl⟩
  have := (rows_mem_len h hr hm).1
  rw [e _ hm] at this
  simp at this
theorem flat_den {n : Net} (h : n.Ok) {r : List Nat} (hr : n.Way r) (hl : r.length ≤ 20) : d_flat [.val n.d, .val (wD r)] = .ok (.own ((n.flt r).map .int)) := by
  have hlen := flt_len h hr
  have c1 : flat_c1 [some (.val n.d), some (.val (wD r)), none, none] = .ok (.own ((n.flt r).map .int)) := by
    refine fLc2_of (ds := (n.rows r).map iL) (by simp [find_limits_den h hr (by omega)]) (lim_of (by simp; omega)) ?_
    rw [show (n.flt r).map PyData.int = (n.rows r).flatMap (fun x => x.map PyData.int) by simp [Net.flt, List.flatMap, List.map_flatten]]
    refine lc2Go_map iL (fun x => [some (.val n.d), some (.val (wD r)), some (.val (iL x)), none]) (fun x => x.map PyData.int) _ _ (fun x _ => by simp) (fun x _ => by simp [iL]) (fun x _ => ?_)
    exact lcGo_map (fun y : Int => PyData.int y) (fun y => [some (.val n.d), some (.val (wD r)), some (.val (iL x)), some (.val (.int y))]) _ _ (fun y _ => by simp) (fun y _ => by simp)
  unfold d_flat denB g_flat
  simp only [startE]
  simp [c1]
def chg (row : List Int) : Nat := ((row.zip row.tail).filter fun p => decide (p.1 ≠ p.2)).length
theorem changes_den {n : Net} (h : n.Ok) {r : List Nat} (hr : n.Way r) (hl : r.length ≤ 20) : d_changes [.val n.d, .val (wD r)] = .ok (.val (.int (chg (n.flt r)))) := by
  have hlen := flt_len h hr
  have c1 : changes_c1 [some (.val n.d), some (.val (wD r)), some (.val (iL (n.flt r))), none, none] = .ok (.own (((n.flt r).zip (n.flt r).tail).filter (fun p => decide (p.1 ≠ p.2)) |>.map fun _ => .int 1)) := by
    refine fLc_of (ds := ((n.flt r).zip (n.flt r).tail).map fun p => PyData.tuple [.int p.1, .int p.2]) ?_ (lim_of (by simp; omega)) ?_
    · have : DN.cut ((n.flt r).map PyData.int) (some 1) none = (n.flt r).tail.map .int := by
        rw [show (some 1 : Option Int) = some ((1 : Nat) : Int) from rfl, cut_from, List.map_tail, List.drop_one]
      simp [iL, this]
      rw [← List.map_tail]
      exact zipD_ints _ _
    · refine lcGo_typed (fun (p : Int × Int) => PyData.tuple [.int p.1, .int p.2]) (fun p => [some (.val n.d), some (.val (wD r)), some (.val (iL (n.flt r))), some (.val (.int p.1)), some (.val (.int p.2))]) (fun p => decide (p.1 ≠ p.2)) (fun _ => .int 1) _ (fun p _ => by simp) (fun p _ => ?_) (fun p _ _ => by simp)
      simp
  unfold d_changes denB g_changes
  simp only [gSeq, startE]
  simp [check_way_ok h hr hl, flat_den h hr hl]
  rw [show PyData.list ((n.flt r).map PyData.int) = iL (n.flt r) from rfl, c1]
  simp [chg]
theorem least_limit_den {n : Net} (h : n.Ok) {r : List Nat} (hr : n.Way r) (hl : r.length ≤ 20) : d_least_limit [.val n.d, .val (wD r)] = .ok (.val (.int (minOf (n.flt r)))) := by
  unfold d_least_limit denB g_least_limit
  simp only [gSeq, startE]
  simp [check_way_ok h hr hl, flat_den h hr hl, flt_pos h hr]
end LW
/-! LibS: equal data, shapes (parts of Lib12, for k26). -/
namespace LW
open PySem PySem.Spec PyProof.Rows L2 DN
/-! ### == of data without truth values -/
mutual
def pur : PyData → Bool
  | .none => true
  | .int _ => true
  | .list xs => purs xs
  | .tuple xs => purs xs
  | _ => false
def purs : List PyData → Bool
  | [] => true
  | x :: xs => pur x && purs xs
end
mutual
theorem eqv_pur : ∀ d e : PyData, pur d = true → pur e = true → (PyData.eqv d e = true ↔ d = e)
  | .none, e, _, h => by cases e <;> simp [PyData.eqv, pur] at *
  | .int i, e, _, h => by cases e <;> simp [PyData.eqv, pur] at *
  | .bool _, _, h, _ => by simp [pur] at h
  | .str _, _, h, _ => by simp [pur] at h
  | .dict _, _, h, _ => by simp [pur] at h
  | .list xs, e, h, g => by
    cases e with
    | list ys =>
      have := eqv_purs xs ys (by simpa [pur] using h) (by simpa [pur] using g)
      simpa [PyData.eqv] using this
    | _ => simp [PyData.eqv, pur] at *
  | .tuple xs, e, h, g => by
    cases e with
    | tuple ys =>
      have := eqv_purs xs ys (by simpa [pur] using h) (by simpa [pur] using g)
      simpa [PyData.eqv] using this
    | _ => simp [PyData.eqv, pur] at *
theorem eqv_purs : ∀ ds es : List PyData, purs ds = true → purs es = true → (PyData.eqvAll ds es = true ↔ ds = es)
  | [], [], _, _ => by simp [PyData.eqvAll]
  | [], _ :: _, _, _ => by simp [PyData.eqvAll]
  | _ :: _, [], _, _ => by simp [PyData.eqvAll]
  | d :: ds, e :: es, h, g => by
    have h' := Bool.and_eq_true_iff.mp (show (pur d && purs ds) = true by simpa [purs] using h)
    have g' := Bool.and_eq_true_iff.mp (show (pur e && purs es) = true by simpa [purs] using g)
    have a := eqv_pur d e h'.1 g'.1
    have b := eqv_purs ds es h'.2 g'.2
    simp [PyData.eqvAll, a, b]
end
theorem purs_map {α : Type} {f : α → PyData} {xs : List α} (h : ∀ x ∈ xs, pur (f x) = true) : purs (xs.map f) = true := by
  induction xs with
  | nil => rfl
  | cons x xs ih =>
    show (pur (f x) && purs (xs.map f)) = true
    rw [h x List.mem_cons_self, ih fun y hy => h y (List.mem_cons_of_mem _ hy)]
    rfl
theorem eqD_pur {n m : Nat} {d e : PyData} {b : Bool} (hd : dOk n d = true) (he : dOk m e = true) (hn : n ≤ 64) (hm : m ≤ 64) (pd : pur d = true) (pe : pur e = true) (hb : b = true ↔ d = e) : eqD d e = .ok b := by
  rw [eqD_of hd he hn hm]
  congr 1
  rw [Bool.eq_iff_iff, eqv_pur d e pd pe, hb]
theorem map_inj {α β : Type} {f : α → β} (hf : ∀ x y, f x = f y → x = y) : ∀ {xs ys : List α}, xs.map f = ys.map f → xs = ys
  | [], [], _ => rfl
  | [], _ :: _, h => by cases h
  | _ :: _, [], h => by cases h
  | x :: xs, y :: ys, h => by
    rw [List.map_cons, List.map_cons] at h
    injection h with h1 h2
    rw [hf x y h1, map_inj hf h2]
/-! ### shapes -/
def Net.shp (n : Net) : List (Int × Int × Int) := n.roads.map fun r => (r.s, r.e, ((r.g.length : Nat) : Int))
def shD (t : Int × Int × Int) : PyData := .tuple [.int t.1, .int t.2.1, .int t.2.2]
theorem shp_len (n : Net) : n.shp.length = n.roads.length := by simp [Net.shp]
theorem eqD_shp (n m : Net) : eqD (.list (n.shp.map shD)) (.list (m.shp.map shD)) = .ok (decide (n.shp = m.shp)) := by
  have h1 : ∀ n : Net, dOk 2 (.list (n.shp.map shD)) = true := fun n => dOk_list (dOks_map fun x _ => dOk_tuple (by simp [dOks]))
  have h2 : ∀ n : Net, pur (.list (n.shp.map shD)) = true := fun n => purs_map fun _ _ => rfl
  refine eqD_pur (h1 n) (h1 m) (by decide) (by decide) (h2 n) (h2 m) ?_
  rw [decide_eq_true_iff]
  refine ⟨fun e => by rw [e], fun e => ?_⟩
  injection e with e
  refine map_inj (fun x y z => ?_) e
  unfold shD at z
  injection z with z
  injection z with z1 z
  injection z with z2 z
  injection z with z3 z
  injection z1 with z1
  injection z2 with z2
  injection z3 with z3
  exact Prod.ext z1 (Prod.ext z2 z3)
theorem shape_den {n : Net} (h : n.Ok) : d_shape [.val n.d] = .ok (.own (n.shp.map shD)) := by
  have h8 := h.r8
  have c1 : shape_c1 [some (.val n.d), none, none, none, none] = .ok (.own (n.shp.map shD)) := by
    refine fLc_of (ds := n.roads.map Road.d) (by simp) (lim_of (by simp; omega)) ?_
    unfold Net.shp
    rw [List.map_map]
    exact lcGo_map Road.d (fun r => [some (.val n.d), some (.val (.int r.s)), some (.val (.int r.e)), some (.val (.int r.t)), some (.val (tI r.g))]) _ _ (fun r _ => by simp) (fun r _ => by simp [shD])
  unfold d_shape denB g_shape
  simp only [startE]
  simp [c1]
theorem check_two_den (d e : PyData) : d_check_two [.val d, .val e] = if isNetB d = true then (if isNetB e = true then .ok (.val .none) else .err "InvalidNet") else .err "InvalidNet" := by
  unfold d_check_two denB g_check_two
  simp only [gSeq, startE]
  cases h1 : isNetB d <;> cases h2 : isNetB e <;> simp [h1, h2]
theorem same_shape_den {n m : Net} (hn : n.Ok) (hm : m.Ok) : d_same_shape [.val n.d, .val m.d] = .ok (.val (.bool (decide (n.shp = m.shp)))) := by
  unfold d_same_shape denB g_same_shape
  simp only [gSeq, startE]
  simp [check_two_den, hn.b, hm.b, shape_den hn, shape_den hm, eqD_shp]
end LW
/-! Lk26: errors; what a maker's denotation gives. -/
namespace LW
open PySem PySem.Spec PyProof.Rows L2 DN

/-! ### ends of a maker -/
def wpM (r : Prop) (Q : Ev → LE → Prop) : RM → Prop
  | .nx ρ le => Q ρ le
  | .ret b => r ∧ b = true
  | .bad => False
  | .any f => ∀ a, wpM r Q (f a)
  | .vac => True
theorem wp_seq {r : Prop} {Q : Ev → LE → Prop} {m : RM} {k : Ev → LE → RM} (h : wpM r (fun ρ le => wpM r Q (k ρ le)) m) : wpM r Q (m.seq k) := by
  induction m with
  | nx ρ le => exact h
  | ret b => exact h
  | bad => exact h
  | any f ih => exact fun a => ih a (h a)
  | vac => trivial
theorem wp_mono {r : Prop} {Q Q' : Ev → LE → Prop} {m : RM} (h : wpM r Q m) (hq : ∀ ρ le, Q ρ le → Q' ρ le) : wpM r Q' m := by
  induction m with
  | nx ρ le => exact hq _ _ h
  | ret b => exact h
  | bad => exact h
  | any f ih => exact fun a => ih a (h a)
  | vac => trivial
theorem fin_wp {m : RM} (h : wpM True (fun _ _ => False) m) : m.fin := by
  induction m with
  | nx ρ le => exact h
  | ret b => exact h.2
  | bad => exact h
  | any f ih => exact fun a => ih a (h a)
  | vac => trivial
theorem gives_wp {j : Nat} {c : Str} {m : RM} (h : wpM False (fun ρ le => ∃ L gs, ρ[j]? = some (some (.raw (.ref L))) ∧ le.lookup L = some gs ∧ AllErr ρ c gs) m) : m.gives j c := by
  induction m with
  | nx ρ le => exact h
  | ret b => exact h.1
  | bad => exact h
  | any f ih => exact fun a => ih a (h a)
  | vac => trivial
/-! ### steps -/
section
variable {r : Prop} {Q : Ev → LE → Prop} {h : Ev → LE → RM} {ρ ρ' : Ev} {le : LE}
theorem st_es {g : Ev → RO} (e : g ρ = .nx ρ') (k : wpM r Q (h ρ' le)) : wpM r Q (gSeqM (gEs g) h ρ le) := by
  show wpM r Q ((liftR le (g ρ)).seq h)
  rw [e]
  exact k
theorem st_nn {qa qb : Ev → LE → Prop} {g g' : Ev → LE → RM} (ha : qa ρ le) (hb : qb ρ le) (k : wpM r Q (gSeqM g' h ρ le)) : wpM r Q (gSeqM (gIfM (cNN qa qb) g g') h ρ le) := by
  have e : gIfM (cNN qa qb) g g' ρ le = g' ρ le := by
    unfold gIfM cNN
    rw [if_pos ⟨ha, hb⟩]
  show wpM r Q ((gIfM (cNN qa qb) g g' ρ le).seq h)
  rw [e]
  exact k
theorem st_n1 {qa : Ev → LE → Prop} {g g' : Ev → LE → RM} (ha : qa ρ le) (k : wpM r Q (g' ρ le)) : wpM r Q (gIfM (cN1 qa) g g' ρ le) := by
  have e : gIfM (cN1 qa) g g' ρ le = g' ρ le := by
    unfold gIfM cN1
    rw [if_pos ha]
  rw [e]
  exact k
theorem st_ret {q : Ev → LE → Prop} (hr : r) (hq : q ρ le) : wpM r Q (gRetM q ρ le) := by
  unfold gRetM
  rw [if_pos hq]
  exact ⟨hr, rfl⟩
/-- x.append(..) one after the other -/
def gApps (j : Nat) : List Γ → (Ev → LE → RM) → Ev → LE → RM
  | [], h => h
  | γ :: γs, h => gSeqM (gAppL j γ) (gApps j γs h)
theorem st_apps {j : Nat} {L : Addr} (hj : ρ[j]? = some (some (.raw (.ref L)))) : ∀ {γs gs : List Γ} {le : LE}, le.lookup L = some gs → gs.length + γs.length ≤ 100 →
    (∀ le', le'.lookup L = some (gs ++ γs) → (∀ L', L' ≠ L → le'.lookup L' = le.lookup L') → wpM r Q (h ρ le')) → wpM r Q (gApps j γs h ρ le)
  | [], gs, le, h1, _, k => k le (by simpa using h1) fun _ _ => rfl
  | γ :: γs, gs, le, h1, h2, k => by
    have e : gAppL j γ ρ le = .nx ρ ((L, gs ++ [γ]) :: le) := by
      unfold gAppL
      rw [hj]
      simp only
      rw [h1]
      simp only
      rw [if_pos (by simp at h2; omega)]
    show wpM r Q ((gAppL j γ ρ le).seq (gApps j γs h))
    rw [e]
    show wpM r Q (gApps j γs h ρ ((L, gs ++ [γ]) :: le))
    refine st_apps hj (gs := gs ++ [γ]) (by rw [List.lookup_cons]; simp) (by simp at h2 ⊢; omega) fun le' h3 h4 => k le' (by simpa using h3) fun L' n => ?_
    rw [h4 L' n, List.lookup_cons]
    have : (L' == L) = false := by simpa using n
    rw [this]
/-- x = [..], then x.append(..) -/
theorem st_new {j : Nat} {γ : Γ} {γs : List Γ} (hl : j < ρ.length) (h2 : γs.length < 100) (k : ∀ L le', le.lookup L = none → le'.lookup L = some (γ :: γs) → (∀ L', L' ≠ L → le'.lookup L' = le.lookup L') → wpM r Q (h (ρ.set j (some (.raw (.ref L)))) le')) :
    wpM r Q (gSeqM (gNewL j γ) (gApps j γs h) ρ le) := by
  intro L
  cases hL : le.lookup L with
  | some gs =>
    show wpM r Q (RM.seq (if (le.lookup L).isSome = true then RM.vac else _) _)
    rw [hL]
    exact trivial
  | none =>
    show wpM r Q (RM.seq (if (le.lookup L).isSome = true then RM.vac else RM.nx (ρ.set j (some (.raw (.ref L)))) ((L, [γ]) :: le)) _)
    rw [hL]
    show wpM r Q (gApps j γs h (ρ.set j (some (.raw (.ref L)))) ((L, [γ]) :: le))
    refine st_apps (by rw [List.getElem?_set_self hl]) (gs := [γ]) (by rw [List.lookup_cons]; simp) (by simp; omega) fun le' h3 h4 => k L le' hL (by simpa using h3) fun L' n => ?_
    rw [h4 L' n, List.lookup_cons]
    have : (L' == L) = false := by simpa using n
    rw [this]
theorem st_for {fi : Ev → Rs (List PyData)} {ft : PyData → Ev → Rs Ev} {gb : Ev → LE → RM} {ds : List PyData} {I : Ev → Prop} (hf : fi ρ = .ok ds) (h0 : I ρ) (hb : ∀ d ∈ ds, ∀ ρ le, I ρ → ∃ ρ1, ft d ρ = .ok ρ1 ∧ wpM r (fun ρ' _ => I ρ') (gb ρ1 le)) (k : ∀ ρ le, I ρ → wpM r Q (h ρ le)) :
    wpM r Q (gSeqM (gForM fi ft gb) h ρ le) := by
  refine wp_seq ?_
  unfold gForM
  rw [hf]
  have : ∀ (ds : List PyData), (∀ d ∈ ds, ∀ ρ le, I ρ → ∃ ρ1, ft d ρ = .ok ρ1 ∧ wpM r (fun ρ' _ => I ρ') (gb ρ1 le)) → ∀ ρ le, I ρ → wpM r (fun ρ' _ => I ρ') (loopM ft gb ds ρ le) := by
    intro ds
    induction ds with
    | nil => exact fun _ ρ le h0 => h0
    | cons d ds ih =>
      intro hb ρ le h0
      obtain ⟨ρ1, e, w⟩ := hb d List.mem_cons_self ρ le h0
      unfold loopM
      rw [e]
      exact wp_seq (wp_mono w fun ρ' le' h' => ih (fun d hd => hb d (List.mem_cons_of_mem _ hd)) ρ' le' h')
  exact wp_mono (this ds hb ρ le h0) k
end
/-! ### what is no net -/
section
variable {d : PyData} (hd : isNetB d = false)
include hd
theorem bn_net : d_check_net [.val d] = .err "InvalidNet" := by rw [check_net_den, hd]; rfl
theorem bn_road (e : PyData) : d_check_road [.val d, .val e] = .err "InvalidNet" := by
  unfold d_check_road denB g_check_road
  simp [startE, hd]
theorem bn_two (e : PyData) : d_check_two [.val d, .val e] = .err "InvalidNet" := by rw [check_two_den, hd]; rfl
theorem bn_way (e : PyData) : d_check_way [.val d, .val e] = .err "InvalidNet" := by
  unfold d_check_way denB g_check_way
  simp [startE, hd]
theorem bn_is_way (e : PyData) : d_is_way [.val d, .val e] = .err "InvalidNet" := by unfold d_is_way denB g_is_way; simp [startE, hd]
theorem bn_followers (e : PyData) : d_followers [.val d, .val e] = .err "InvalidNet" := by unfold d_followers denB g_followers; simp [startE, bn_road hd]
theorem bn_standing (e : PyData) : d_standing [.val d, .val e] = .err "InvalidNet" := by unfold d_standing denB g_standing; simp [startE, bn_road hd]
theorem bn_count_pieces : d_count_pieces [.val d] = .err "InvalidNet" := by unfold d_count_pieces denB g_count_pieces; simp [startE, hd]
theorem bn_limits (e : PyData) : d_limits [.val d, .val e] = .err "InvalidNet" := by unfold d_limits denB g_limits; simp [startE, bn_way hd]
theorem bn_state_after (e : PyData) : d_state_after [.val d, .val e] = .err "InvalidNet" := by unfold d_state_after denB g_state_after; simp [startE, bn_way hd]
theorem bn_changes (e : PyData) : d_changes [.val d, .val e] = .err "InvalidNet" := by unfold d_changes denB g_changes; simp [startE, bn_way hd]
theorem bn_least_limit (e : PyData) : d_least_limit [.val d, .val e] = .err "InvalidNet" := by unfold d_least_limit denB g_least_limit; simp [startE, bn_way hd]
theorem bn_states_at (e : PyData) : d_states_at [.val d, .val e] = .err "InvalidNet" := by unfold d_states_at denB g_states_at; simp [startE, bn_road hd]
theorem bn_possible (e e2 : PyData) : d_possible [.val d, .val e, .val e2] = .err "InvalidNet" := by unfold d_possible denB g_possible; simp [startE, bn_road hd]
theorem bn_unclear : d_unclear [.val d] = .err "InvalidNet" := by unfold d_unclear denB g_unclear; simp [startE, hd]
theorem bn_is_clear : d_is_clear [.val d] = .err "InvalidNet" := by unfold d_is_clear denB g_is_clear; simp [startE, hd]
theorem bn_shortest_with (e e2 : PyData) : d_shortest_with [.val d, .val e, .val e2] = .err "InvalidNet" := by unfold d_shortest_with denB g_shortest_with; simp [startE, bn_road hd]
theorem bn_witnesses (e : PyData) : d_witnesses [.val d, .val e] = .err "InvalidNet" := by unfold d_witnesses denB g_witnesses; simp [startE, bn_road hd]
theorem bn_farthest (e : PyData) : d_farthest [.val d, .val e] = .err "InvalidNet" := by unfold d_farthest denB g_farthest; simp [startE, bn_road hd]
theorem bn_without_sign (e e2 : PyData) : d_without_sign [.val d, .val e, .val e2] = .err "InvalidNet" := by unfold d_without_sign denB g_without_sign; simp [startE, bn_road hd]
theorem bn_with_sign (e e2 e3 : PyData) : d_with_sign [.val d, .val e, .val e2, .val e3] = .err "InvalidNet" := by unfold d_with_sign denB g_with_sign; simp [startE, bn_road hd]
theorem bn_is_idle (e e2 : PyData) : d_is_idle [.val d, .val e, .val e2] = .err "InvalidNet" := by unfold d_is_idle denB g_is_idle; simp [startE, bn_road hd]
theorem bn_idle_signs : d_idle_signs [.val d] = .err "InvalidNet" := by unfold d_idle_signs denB g_idle_signs; simp [startE, hd]
theorem bn_same_shape (e : PyData) : d_same_shape [.val d, .val e] = .err "InvalidNet" := by unfold d_same_shape denB g_same_shape; simp [startE, bn_two hd]
theorem bn_find_parting (e : PyData) : d_find_parting [.val d, .val e] = .err "InvalidNet" := by unfold d_find_parting denB g_find_parting; simp [startE, bn_two hd]
theorem bn_same_limits (e : PyData) : d_same_limits [.val d, .val e] = .err "InvalidNet" := by unfold d_same_limits denB g_same_limits; simp [startE, bn_find_parting hd]
theorem bn_most_idle : d_most_idle [.val d] = .err "InvalidNet" := by unfold d_most_idle denB g_most_idle; simp [startE, hd]
theorem bn_two2 {n : Net} (h : n.Ok) : d_check_two [.val n.d, .val d] = .err "InvalidNet" := by rw [check_two_den, h.b, hd]; rfl
theorem bn_same_shape2 {n : Net} (h : n.Ok) : d_same_shape [.val n.d, .val d] = .err "InvalidNet" := by unfold d_same_shape denB g_same_shape; simp [startE, bn_two2 hd h]
theorem bn_parting_way2 {n : Net} (h : n.Ok) : d_parting_way [.val n.d, .val d] = .err "InvalidNet" := by
  have : d_find_parting [.val n.d, .val d] = .err "InvalidNet" := by unfold d_find_parting denB g_find_parting; simp [startE, bn_two2 hd h]
  unfold d_parting_way denB g_parting_way; simp [startE, this]
end
/-! ### what is no road -/
section
variable {n : Net} (h : n.Ok) {v : PyData} (hv : isIntB v 0 (n.roads.length - 1) = false)
include h hv
theorem br_road : d_check_road [.val n.d, .val v] = .err "InvalidRoad" := by rw [check_road_den h, hv]; rfl
theorem br_followers : d_followers [.val n.d, .val v] = .err "InvalidRoad" := by unfold d_followers denB g_followers; simp [startE, br_road h hv, -check_road_den]
theorem br_standing : d_standing [.val n.d, .val v] = .err "InvalidRoad" := by unfold d_standing denB g_standing; simp [startE, br_road h hv, -check_road_den]
theorem br_states_at : d_states_at [.val n.d, .val v] = .err "InvalidRoad" := by unfold d_states_at denB g_states_at; simp [startE, br_road h hv, -check_road_den]
theorem br_possible (e : PyData) : d_possible [.val n.d, .val v, .val e] = .err "InvalidRoad" := by unfold d_possible denB g_possible; simp [startE, br_road h hv, -check_road_den]
theorem br_shortest_with (e : PyData) : d_shortest_with [.val n.d, .val v, .val e] = .err "InvalidRoad" := by unfold d_shortest_with denB g_shortest_with; simp [startE, br_road h hv, -check_road_den]
theorem br_witnesses : d_witnesses [.val n.d, .val v] = .err "InvalidRoad" := by unfold d_witnesses denB g_witnesses; simp [startE, br_road h hv, -check_road_den]
theorem br_farthest : d_farthest [.val n.d, .val v] = .err "InvalidRoad" := by unfold d_farthest denB g_farthest; simp [startE, br_road h hv, -check_road_den]
theorem br_without_sign (e : PyData) : d_without_sign [.val n.d, .val v, .val e] = .err "InvalidRoad" := by unfold d_without_sign denB g_without_sign; simp [startE, br_road h hv, -check_road_den]
theorem br_with_sign (e e2 : PyData) : d_with_sign [.val n.d, .val v, .val e, .val e2] = .err "InvalidRoad" := by unfold d_with_sign denB g_with_sign; simp [startE, br_road h hv, -check_road_den]
theorem br_is_idle (e : PyData) : d_is_idle [.val n.d, .val v, .val e] = .err "InvalidRoad" := by unfold d_is_idle denB g_is_idle; simp [startE, br_road h hv, -check_road_den]
end
end LW
/-! Lk26b: the makers that hand their lambdas back. -/
namespace LW
open PySem PySem.Spec PyProof.Rows L2 DN

theorem nets_ok {n : Net} (h : n.Ok) {d : PyData} (hd : isNetB d = false) : ok1_l_nets "InvalidNet" [.val n.d, .val d] := by
  refine gives_wp ?_
  show wpM False _ (gSeqM (gNewL 2 (atJ [1] e_l_nets_la1)) (gApps 2 [atJ [1] e_l_nets_la2, atJ [1] e_l_nets_la3, atJ [1] e_l_nets_la4, atJ [1] e_l_nets_la5, atJ [1] e_l_nets_la6, atJ [1] e_l_nets_la7, atJ [1] e_l_nets_la8, atJ [1] e_l_nets_la9, atJ [1] e_l_nets_la10, atJ [1] e_l_nets_la11, atJ [1] e_l_nets_la12, atJ [1] e_l_nets_la13, atJ [1] e_l_nets_la14, atJ [1] e_l_nets_la15, atJ [1] e_l_nets_la16, atJ [1] e_l_nets_la17, atJ [1] e_l_nets_la18, atJ [1] e_l_nets_la19, atJ [1] e_l_nets_la20, atJ [0, 1] e_l_nets_la21, atJ [1] e_l_nets_la22, atJ [0, 1] e_l_nets_la23, atJ [1] e_l_nets_la24] gNextM) [some (.val n.d), some (.val d), none] [])
  refine st_new (by simp) (by simp) fun L le' _ hL _ => ?_
  refine ⟨L, _, by simp, hL, ?_⟩
  unfold AllErr
  simp only [List.forall_mem_cons, List.set_cons_succ, List.set_cons_zero]
  simp [atJ, okJ, R.isOwn, e_l_nets_la1, e_l_nets_la2, e_l_nets_la3, e_l_nets_la4, e_l_nets_la5, e_l_nets_la6, e_l_nets_la7, e_l_nets_la8, e_l_nets_la9, e_l_nets_la10, e_l_nets_la11, e_l_nets_la12, e_l_nets_la13, e_l_nets_la14, e_l_nets_la15, e_l_nets_la16, e_l_nets_la17, e_l_nets_la18, e_l_nets_la19, e_l_nets_la20, e_l_nets_la21, e_l_nets_la22, e_l_nets_la23, e_l_nets_la24, opNeg, bn_is_way hd, bn_followers hd, bn_standing hd, bn_count_pieces hd, bn_limits hd, bn_state_after hd, bn_changes hd, bn_least_limit hd, bn_states_at hd, bn_possible hd, bn_unclear hd, bn_is_clear hd, bn_shortest_with hd, bn_witnesses hd, bn_farthest hd, bn_without_sign hd, bn_with_sign hd, bn_is_idle hd, bn_idle_signs hd, bn_same_shape hd, bn_same_limits hd, bn_most_idle hd, bn_same_shape2 hd h, bn_parting_way2 hd h]

theorem numbered_ok {n : Net} (h : n.Ok) {v : PyData} (hv : isIntB v 0 (n.roads.length - 1) = false) : ok1_l_numbered "InvalidRoad" [.val n.d, .val v] := by
  refine gives_wp ?_
  show wpM False _ (gSeqM (gNewL 2 (atJ [0, 1] e_l_numbered_la1)) (gApps 2 [atJ [0, 1] e_l_numbered_la2, atJ [0, 1] e_l_numbered_la3, atJ [0, 1] e_l_numbered_la4, atJ [0, 1] e_l_numbered_la5, atJ [0, 1] e_l_numbered_la6, atJ [0, 1] e_l_numbered_la7, atJ [0, 1] e_l_numbered_la8, atJ [0, 1] e_l_numbered_la9, atJ [0, 1] e_l_numbered_la10] gNextM) [some (.val n.d), some (.val v), none] [])
  refine st_new (by simp) (by simp) fun L le' _ hL _ => ?_
  refine ⟨L, _, by simp, hL, ?_⟩
  unfold AllErr
  simp only [List.forall_mem_cons, List.set_cons_succ, List.set_cons_zero]
  simp [atJ, okJ, R.isOwn, e_l_numbered_la1, e_l_numbered_la2, e_l_numbered_la3, e_l_numbered_la4, e_l_numbered_la5, e_l_numbered_la6, e_l_numbered_la7, e_l_numbered_la8, e_l_numbered_la9, e_l_numbered_la10, opNeg, br_followers h hv, br_standing h hv, br_states_at h hv, br_possible h hv, br_shortest_with h hv, br_witnesses h hv, br_farthest h hv, br_without_sign h hv, br_with_sign h hv, br_is_idle h hv]

end LW
/-! Lk26c: bad ways, limits, pieces, places, signs, shapes. -/
namespace LW
open PySem PySem.Spec PyProof.Rows L2 DN
section
variable {n : Net} (h : n.Ok) {d : PyData}
include h
theorem bw_limits (hd : hasWayB n d = false) : d_limits [.val n.d, .val d] = .err "InvalidWay" := by unfold d_limits denB g_limits; simp [startE, check_way_den h, hd]
theorem bw_state_after (hd : hasWayB n d = false) : d_state_after [.val n.d, .val d] = .err "InvalidWay" := by unfold d_state_after denB g_state_after; simp [startE, check_way_den h, hd]
theorem bw_changes (hd : hasWayB n d = false) : d_changes [.val n.d, .val d] = .err "InvalidWay" := by unfold d_changes denB g_changes; simp [startE, check_way_den h, hd]
theorem bw_least_limit (hd : hasWayB n d = false) : d_least_limit [.val n.d, .val d] = .err "InvalidWay" := by unfold d_least_limit denB g_least_limit; simp [startE, check_way_den h, hd]
theorem hk0 : 0 < n.roads.length := h.r1
theorem in0 : isIntB (.int 0) 0 (n.roads.length - 1) = true := by
  have := road_in (n := n) (k := 0) (hk0 h)
  simpa using this
theorem road0 : d_check_road [.val n.d, .val (.int 0)] = .ok (.val .none) := by rw [check_road_den h, in0 h]; rfl
theorem get0 : (n.roads.map Road.d)[0]? = some (n.rd 0).d := rd_get (hk0 h)
theorem bl_shortest (hd : isIntB d 1 13 = false) : d_shortest_with [.val n.d, .val (.int 0), .val d] = .err "InvalidLimit" := by
  unfold d_shortest_with denB g_shortest_with
  simp [startE, road0 h, hd, -check_road_den]
theorem ix0 : opIx (.tuple (n.roads.map Road.d)) (.int 0) = .ok (.val (n.rd 0).d) := by
  have := r_ix (n := n) (k := 0) (hk0 h)
  simpa using this
theorem bp_possible (hd : isIntB d 0 ((n.rd 0).g.length : Nat) = false) : d_possible [.val n.d, .val (.int 0), .val d] = .err "InvalidPiece" := by
  unfold d_possible denB g_possible
  simp [startE, road0 h, hd, ix0 h, get0 h, -check_road_den]
theorem bi_without (hd : isIntB d 0 (((n.rd 0).g.length : Nat) - 1) = false) : d_without_sign [.val n.d, .val (.int 0), .val d] = .err "InvalidIndex" := by
  unfold d_without_sign denB g_without_sign
  simp [startE, road0 h, hd, ix0 h, get0 h, -check_road_den]
theorem bi_idle (hd : isIntB d 0 (((n.rd 0).g.length : Nat) - 1) = false) : d_is_idle [.val n.d, .val (.int 0), .val d] = .err "InvalidIndex" := by
  unfold d_is_idle denB g_is_idle
  simp [startE, road0 h, hd, ix0 h, get0 h, -check_road_den]
theorem bi_with (hd : isIntB d 0 ((n.rd 0).g.length : Nat) = false) (e : PyData) : d_with_sign [.val n.d, .val (.int 0), .val d, .val e] = .err "InvalidIndex" := by
  unfold d_with_sign denB g_with_sign
  simp [startE, road0 h, hd, ix0 h, get0 h, -check_road_den]
theorem bs_with (hd : isIntB d 0 13 = false) : d_with_sign [.val n.d, .val (.int 0), .val (.int 0), .val d] = .err "InvalidSign" := by
  unfold d_with_sign denB g_with_sign
  have : isIntB (.int 0) 0 ((n.rd 0).g.length : Nat) = true := by simp
  simp [startE, road0 h, hd, ix0 h, get0 h, -check_road_den]
theorem os_find {m : Net} (hm : m.Ok) (hs : n.shp ≠ m.shp) : d_find_parting [.val n.d, .val m.d] = .err "OtherShape" := by
  unfold d_find_parting denB g_find_parting
  simp [startE, check_two_den, h.b, hm.b, shape_den h, shape_den hm, eqD_shp, hs]
theorem os_same {m : Net} (hm : m.Ok) (hs : n.shp ≠ m.shp) : d_same_limits [.val n.d, .val m.d] = .err "OtherShape" := by
  unfold d_same_limits denB g_same_limits
  simp [startE, os_find h hm hs]
theorem os_way {m : Net} (hm : m.Ok) (hs : n.shp ≠ m.shp) : d_parting_way [.val n.d, .val m.d] = .err "OtherShape" := by
  unfold d_parting_way denB g_parting_way
  simp [startE, os_find h hm hs]
end
/-! ### the nets that are written down -/
def fullN : Net := ⟨9, 5, 1, [⟨0, 0, 0, [1, 2, 3]⟩]⟩
def otherN : Net := ⟨9, 5, 1, [⟨3, 4, 0, []⟩]⟩
theorem fullN_ok : fullN.Ok := ⟨by decide, by decide, by decide, by decide, .inr rfl, by decide, by decide, fun r hr => by
  simp [fullN] at hr
  subst hr
  constructor <;> simp⟩
theorem otherN_ok : otherN.Ok := ⟨by decide, by decide, by decide, by decide, .inr rfl, by decide, by decide, fun r hr => by
  simp [otherN] at hr
  subst hr
  constructor <;> simp⟩
theorem full_d : fullN.d = .tuple [.int 9, .int 5, .int 1, .tuple [.tuple [.int 0, .int 0, .int 0, .tuple [.int 1, .int 2, .int 3]]]] := rfl
theorem other_d : otherN.d = .tuple [.int 9, .int 5, .int 1, .tuple [.tuple [.int 3, .int 4, .int 0, .tuple []]]] := rfl
theorem tm_with : d_with_sign [.val fullN.d, .val (.int 0), .val (.int 1), .val (.int 5)] = .err "TooMany" := by
  unfold d_with_sign denB g_with_sign
  have g0 := get0 fullN_ok
  have i0 := ix0 fullN_ok
  have e : (fullN.rd 0).g.length = 3 := rfl
  simp [startE, road0 fullN_ok, i0, g0, e, -check_road_den]
end LW
/-! Lk26d: places, and the law. -/
namespace LW
open PySem PySem.Spec PyProof.Rows L2 DN
theorem st_next {r : Prop} {Q : Ev → LE → Prop} {h : Ev → LE → RM} {ρ : Ev} {le : LE} (k : wpM r Q (h ρ le)) : wpM r Q (gSeqM gNextM h ρ le) := k
theorem st_ifT {r : Prop} {Q : Ev → LE → Prop} {h g g' : Ev → LE → RM} {ρ : Ev} {le : LE} {c : Ev → Rs Bool} (e : c ρ = .ok true) (k : wpM r Q (gSeqM g h ρ le)) : wpM r Q (gSeqM (gIfM (cEt c) g g') h ρ le) := by
  have e : gIfM (cEt c) g g' ρ le = g ρ le := by
    unfold gIfM cEt
    rw [e]
  show wpM r Q ((gIfM (cEt c) g g' ρ le).seq h)
  rw [e]
  exact k
theorem st_ifF {r : Prop} {Q : Ev → LE → Prop} {h g g' : Ev → LE → RM} {ρ : Ev} {le : LE} {c : Ev → Rs Bool} (e : c ρ = .ok false) (k : wpM r Q (gSeqM g' h ρ le)) : wpM r Q (gSeqM (gIfM (cEt c) g g') h ρ le) := by
  have e : gIfM (cEt c) g g' ρ le = g' ρ le := by
    unfold gIfM cEt
    rw [e]
  show wpM r Q ((gIfM (cEt c) g g' ρ le).seq h)
  rw [e]
  exact k

section
variable {n : Net} (h : n.Ok)
include h
theorem plc1 (L1 L2 : Addr) : AllErr [some (.val n.d), some (.val (.int ((n.rd 0).g.length : Nat))), some (.raw (.ref L1)), some (.raw (.ref L2)), some (.val fullN.d)] "InvalidIndex" [atJ [0, 1] e_l_placed_la1, atJ [0] e_l_placed_la2, atJ [0, 1] e_l_placed_la3, atJ [0, 1] e_l_placed_la4, atJ [0] e_l_placed_la5, atJ [0] e_l_placed_la6] := by
  have w1 := bi_without h (d := .int ((n.rd 0).g.length : Nat)) (by simp; omega)
  have w2 := bi_without h (d := .int (-1)) (by simp)
  have w3 := bi_idle h (d := .int ((n.rd 0).g.length : Nat)) (by simp; omega)
  have w4 := bi_with h (d := .int ((n.rd 0).g.length + 1 : Nat)) (by simp; omega)
  have w5 := bi_with h (d := .int (-1)) (by simp)
  have w6 := bi_with h (d := .bool true) rfl
  push_cast at w4
  unfold AllErr
  simp only [List.forall_mem_cons]
  simp [atJ, okJ, R.isOwn, e_l_placed_la1, e_l_placed_la2, e_l_placed_la3, e_l_placed_la4, e_l_placed_la5, e_l_placed_la6, opNeg, w1, w2, w3, w4, w5, w6]
theorem plc2 (L1 L2 : Addr) (hz : (n.rd 0).g.length = 0) : atJ [0] e_l_placed_la10 [some (.val n.d), some (.val (.int ((n.rd 0).g.length : Nat))), some (.raw (.ref L1)), some (.raw (.ref L2)), some (.val fullN.d)] = .err "InvalidIndex" := by
  have w1 := bi_without h (d := .int 0) (by simp [hz])
  simp [atJ, okJ, R.isOwn, e_l_placed_la10, w1]
theorem sgs (L1 L2 : Addr) : AllErr [some (.val n.d), some (.val (.int ((n.rd 0).g.length : Nat))), some (.raw (.ref L1)), some (.raw (.ref L2)), some (.val fullN.d)] "InvalidSign" [atJ [0] e_l_placed_la7, atJ [0] e_l_placed_la8, atJ [0] e_l_placed_la9] := by
  have w1 := bs_with h (d := .int 14) (by simp)
  have w2 := bs_with h (d := .int (-1)) (by simp)
  have w3 := bs_with h (d := .none) rfl
  unfold AllErr
  simp only [List.forall_mem_cons]
  simp [atJ, okJ, R.isOwn, e_l_placed_la7, e_l_placed_la8, e_l_placed_la9, opNeg, w1, w2, w3]
theorem ful (L1 L2 : Addr) : atJ [4] e_l_placed_la11 [some (.val n.d), some (.val (.int ((n.rd 0).g.length : Nat))), some (.raw (.ref L1)), some (.raw (.ref L2)), some (.val fullN.d)] = .err "TooMany" := by
  simp [atJ, okJ, R.isOwn, e_l_placed_la11, tm_with]
theorem placed_ok : ok1_l_placed [.val n.d] := by
  refine fin_wp ?_
  unfold g_l_placed
  show wpM True _ (gSeqM _ _ [some (.val n.d), none, none, none, none] [])
  refine st_es (ρ' := [some (.val n.d), some (.val (.int ((n.rd 0).g.length : Nat))), none, none, none]) (by simp [ix0 h, get0 h]) ?_
  refine st_new (γs := [atJ [0] e_l_placed_la2, atJ [0, 1] e_l_placed_la3, atJ [0, 1] e_l_placed_la4, atJ [0] e_l_placed_la5, atJ [0] e_l_placed_la6]) (by simp) (by simp) fun L1 le1 _ h1 k1 => ?_
  refine st_new (γs := [atJ [0] e_l_placed_la8, atJ [0] e_l_placed_la9]) (by simp) (by simp) fun L2 le2 n2 h2 k2 => ?_
  have ne : L1 ≠ L2 := fun z => by rw [← z, h1] at n2; cases n2
  have h3 : le2.lookup L1 = _ := (k2 L1 ne).trans h1
  refine st_es (ρ' := [some (.val n.d), some (.val (.int ((n.rd 0).g.length : Nat))), some (.raw (.ref L1)), some (.raw (.ref L2)), some (.val fullN.d)]) ?_ ?_
  · simp [full_d]
  by_cases hz : (n.rd 0).g.length = 0
  · refine st_ifT (by simp [hz]) ?_
    refine st_apps (γs := [atJ [0] e_l_placed_la10]) (by simp) h3 (by simp) fun le3 h4 k3 => ?_
    refine st_nn ⟨L1, _, by simp, h4, ?_⟩ ⟨L2, _, by simp, (k3 L2 ne.symm).trans h2, sgs h L1 L2⟩ ?_
    · intro γ hγ
      rcases List.mem_append.mp hγ with z | z
      · exact plc1 h L1 L2 γ z
      · rw [List.mem_singleton.mp z]; exact plc2 h L1 L2 hz
    · exact st_next (st_ret trivial (ful h L1 L2))
  · refine st_ifF (by simp [hz]) ?_
    refine st_next ?_
    refine st_nn ⟨L1, _, by simp, h3, plc1 h L1 L2⟩ ⟨L2, _, by simp, h2, sgs h L1 L2⟩ ?_
    exact st_next (st_ret trivial (ful h L1 L2))
end

/-! ### the law -/
def waysD : List PyData := [.none, .tuple [], .list [.int 0], .tuple [.int 99], .tuple [.bool true], .int 5, .tuple (List.replicate 21 (.int 0))]
def limsD : List PyData := [.none, .int 0, .int 14, .bool true, .str "7"]
def oneD : PyData := .tuple [.int 0, .int 0, .int 0, .tuple []]
noncomputable def rest_g : Ev → LE → RM := (gSeqM (gIfM (cNN (qMk (aCons (fVar 1) (aCons (fVar 5) aNil)) ok1_l_nets "InvalidNet") (qMk (aCons (fVar 1) (aCons (fVar 6) aNil)) ok1_l_numbered "InvalidRoad")) (gEs (gRet (fC (.bool false)))) gNextM)
  (gSeqM (gForM (fSeq (fTup (fCons (fC .none) (fCons (fTup fNil) (fCons (fLst (fCons (fC (.int 0)) fNil)) (fCons (fTup (fCons (fC (.int 99)) fNil)) (fCons (fTup (fCons (fC (.bool true)) fNil)) (fCons (fC (.int 5)) (fCons (fOp opRepT (fTup (fCons (fC (.int 0)) fNil)) (fC (.int 21))) fNil))))))))) (tName 7) law_b1)
  (gSeqM (gForM (fSeq (fTup (fCons (fC .none) (fCons (fC (.int 0)) (fCons (fC (.int 14)) (fCons (fC (.bool true)) (fCons (fC (.str "7")) fNil))))))) (tName 7) law_b2)
  (gSeqM (gNewL 9 (atJ [1] e_law_la6))
  (gSeqM (gAppL 9 (atJ [1] e_law_la7))
  (gSeqM (gAppL 9 (atJ [1] e_law_la8))
  (gSeqM (gEs (gAsgF 10 (fTup (fCons (fC (.int 9)) (fCons (fC (.int 5)) (fCons (fC (.int 1)) (fCons (fTup (fCons (fTup (fCons (fC (.int 3)) (fCons (fC (.int 4)) (fCons (fC (.int 0)) (fCons (fTup fNil) fNil))))) fNil)) fNil)))))))
  (gSeqM (gNewL 11 (atJ [1, 10] e_law_la9))
  (gSeqM (gAppL 11 (atJ [10, 1] e_law_la10))
  (gSeqM (gIfM (cNN (qAllV 9 "InvalidPiece") (qAllV 11 "OtherShape")) (gEs (gRet (fC (.bool false)))) gNextM)
  (gRetM (qAnd (qCall (aCons (fVar 1) aNil) ok1_l_placed) (fOp opIs (fCall d_same_shape (aCons (fVar 1) (aCons (fVar 10) aNil))) (fC (.bool false)))))))))))))))
section
variable {n : Net} (h : n.Ok)
include h
theorem ways_bad {d : PyData} (hd : d ∈ waysD) : hasWayB n d = false := by
  have h8 := h.r8
  simp only [waysD, List.mem_cons, List.not_mem_nil, or_false] at hd
  rcases hd with rfl | rfl | rfl | rfl | rfl | rfl | rfl
  · rfl
  · rfl
  · rfl
  · simp [hasWayB]; omega
  · simp [hasWayB, isIntB]
  · rfl
  · simp [hasWayB]
theorem law_b1_ok {d : PyData} (hd : hasWayB n d = false) {ns : List Int} {a : Int} {one lis no num : PyData} (o8 : Option R) (le : LE) : wpM True (fun ρ _ => ∃ o7 o8, ρ = [some (.scr ns), some (.val n.d), some (.val (.int a)), some (.val one), some (.val lis), some (.val no), some (.val num), o7, o8, none, none, none]) (law_b1 [some (.scr ns), some (.val n.d), some (.val (.int a)), some (.val one), some (.val lis), some (.val no), some (.val num), some (.val d), o8, none, none, none] le) := by
  unfold law_b1
  refine st_new (γs := [atJ [1, 7] e_law_la2, atJ [1, 7] e_law_la3, atJ [1, 7] e_law_la4]) (by simp) (by simp) fun L le1 _ h1 _ => ?_
  refine st_n1 ⟨L, _, by simp, h1, ?_⟩ ⟨_, _, rfl⟩
  unfold AllErr
  simp only [List.forall_mem_cons]
  simp [atJ, okJ, R.isOwn, e_law_la1, e_law_la2, e_law_la3, e_law_la4, bw_limits h hd, bw_state_after h hd, bw_changes h hd, bw_least_limit h hd]
theorem law_b2_ok {d : PyData} (hd : isIntB d 1 13 = false) {ns : List Int} {a : Int} {one lis no num : PyData} (o8 : Option R) (le : LE) : wpM True (fun ρ _ => ∃ o7 o8, ρ = [some (.scr ns), some (.val n.d), some (.val (.int a)), some (.val one), some (.val lis), some (.val no), some (.val num), o7, o8, none, none, none]) (law_b2 [some (.scr ns), some (.val n.d), some (.val (.int a)), some (.val one), some (.val lis), some (.val no), some (.val num), some (.val d), o8, none, none, none] le) := by
  unfold law_b2
  refine st_n1 ?_ ⟨_, _, rfl⟩
  unfold qErr
  simp [atJ, okJ, R.isOwn, e_law_la5, bl_shortest h hd]
theorem rest_ok (hs : n.shp ≠ otherN.shp) {ns : List Int} {a : Int} {one lis no num : PyData} (hno : isNetB no = false) (hnum : isIntB num 0 (n.roads.length - 1) = false) : wpM True (fun _ _ => False) (rest_g [some (.scr ns), some (.val n.d), some (.val (.int a)), some (.val one), some (.val lis), some (.val no), some (.val num), none, none, none, none, none] []) := by
  unfold rest_g
  refine st_nn ⟨[.val n.d, .val no], by simp, nets_ok h hno⟩ ⟨[.val n.d, .val num], by simp, numbered_ok h hnum⟩ (st_next ?_)
  refine st_for (ds := waysD) (I := fun ρ => ∃ o7 o8, ρ = [some (.scr ns), some (.val n.d), some (.val (.int a)), some (.val one), some (.val lis), some (.val no), some (.val num), o7, o8, none, none, none]) ?_ ⟨_, _, rfl⟩ (fun d hd ρ le hρ => ?_) fun ρ le hρ => ?_
  · simp [waysD]
  · obtain ⟨o7, o8, rfl⟩ := hρ
    exact ⟨_, rfl, law_b1_ok h (ways_bad h hd) o8 le⟩
  obtain ⟨o7, o8, rfl⟩ := hρ
  refine st_for (ds := limsD) (I := fun ρ => ∃ o7 o8, ρ = [some (.scr ns), some (.val n.d), some (.val (.int a)), some (.val one), some (.val lis), some (.val no), some (.val num), o7, o8, none, none, none]) ?_ ⟨_, _, rfl⟩ (fun d hd ρ le hρ => ?_) fun ρ le hρ => ?_
  · simp [limsD]
  · obtain ⟨o7, o8, rfl⟩ := hρ
    refine ⟨_, rfl, law_b2_ok h ?_ o8 le⟩
    simp only [limsD, List.mem_cons, List.not_mem_nil, or_false] at hd
    rcases hd with rfl | rfl | rfl | rfl | rfl <;> rfl
  obtain ⟨o7, o8, rfl⟩ := hρ
  refine st_new (γs := [atJ [1] e_law_la7, atJ [1] e_law_la8]) (by simp) (by simp) fun L1 le1 _ h1 k1 => ?_
  refine st_es (ρ' := [some (.scr ns), some (.val n.d), some (.val (.int a)), some (.val one), some (.val lis), some (.val no), some (.val num), o7, o8, some (.raw (.ref L1)), some (.val otherN.d), none]) ?_ ?_
  · simp [other_d]
  refine st_new (γs := [atJ [10, 1] e_law_la10]) (by simp) (by simp) fun L2 le2 n2 h2 k2 => ?_
  have ne : L1 ≠ L2 := fun z => by rw [← z, h1] at n2; cases n2
  have h3 : le2.lookup L1 = _ := (k2 L1 ne).trans h1
  refine st_nn ⟨L1, _, by simp, h3, ?_⟩ ⟨L2, _, by simp, h2, ?_⟩ (st_next ?_)
  · have w1 := bp_possible h (d := .int ((n.rd 0).g.length + 1 : Nat)) (by simp; omega)
    have w2 := bp_possible h (d := .int (-1)) (by simp)
    have w3 := bp_possible h (d := .bool true) rfl
    push_cast at w1
    unfold AllErr
    simp only [List.forall_mem_cons]
    simp [atJ, okJ, R.isOwn, e_law_la6, e_law_la7, e_law_la8, opNeg, w1, w2, w3, ix0 h, get0 h]
  · unfold AllErr
    simp only [List.forall_mem_cons]
    simp [atJ, okJ, R.isOwn, e_law_la9, e_law_la10, os_same h otherN_ok hs, os_way otherN_ok h (Ne.symm hs)]
  · refine st_ret trivial ⟨⟨[.val n.d], by simp, placed_ok h⟩, ?_⟩
    simp [same_shape_den h otherN_ok, hs]
end
theorem law_fin (ns : List Int) (hl : ns.length ≤ 63) : ok1_law [.scr ns] := by
  obtain ⟨hn, h5, h3⟩ := mapNet_ok ns hl (at_ := 0) (most := 5) (by decide) (by decide) (by decide) (by decide)
  have hm := map_den ns hl (at_ := 0) (most := 5) (by decide) (by decide) (by decide) (by decide)
  obtain ⟨pe, p0, p8⟩ := pick_eq ns hl 60 8 (by decide) (by decide) (by decide)
  generalize mapNet ns 0 5 = n at hn h5 h3 hm
  generalize pickV ns 60 8 = a at pe p0 p8
  have hs : n.shp ≠ otherN.shp := fun z => by
    have hk := hn.r1
    cases hr : n.roads with
    | nil => rw [hr] at hk; simp at hk
    | cons r rs =>
      have := (h3 r (by rw [hr]; exact List.mem_cons_self)).1
      rw [Net.shp, hr] at z
      simp [Net.shp, otherN] at z
      omega
  have h8 := hn.r8
  have h1 := hn.r1
  refine fin_wp ?_
  unfold g_law
  show wpM True _ (gSeqM _ _ [some (.scr ns), none, none, none, none, none, none, none, none, none, none, none] [])
  refine st_es (ρ' := [some (.scr ns), some (.val n.d), some (.val (.int a)), none, none, none, none, none, none, none, none, none]) ?_ ?_
  · simp [hm, pe]
  refine st_es (ρ' := [some (.scr ns), some (.val n.d), some (.val (.int a)), some (.val oneD), none, none, none, none, none, none, none, none]) ?_ ?_
  · simp [oneD]
  refine st_es (ρ' := [some (.scr ns), some (.val n.d), some (.val (.int a)), some (.val oneD), some (.val (.list [.int 5, .int 1, .int 0, .tuple [oneD]])), none, none, none, none, none, none, none]) ?_ ?_
  · simp
  obtain ⟨k, hk, rfl⟩ : ∃ k : Nat, k < 8 ∧ a = k := ⟨a.toNat, by omega, by omega⟩
  have key : ∃ no num : PyData, isNetB no = false ∧ isIntB num 0 (n.roads.length - 1) = false ∧
      opIx (.tuple [.none, .int 5, .tuple [.int 4, .int 1, .int 0, .tuple [oneD]], .tuple [.int 5, .int 6, .int 0, .tuple [oneD]], .tuple [.int 5, .int 1, .int 2, .tuple [oneD]], .tuple [.int 5, .int 1, .int 0, .tuple []], .list [.int 5, .int 1, .int 0, .tuple [oneD]], .tuple [.int 5, .int 1, .int 0]]) (.int (k : Nat)) = .ok (.val no) ∧
      opIx (.tuple [.none, .int (-1), .int (n.roads.length : Nat), .bool true, .str "0", .tuple [.int 0], .list [.int 0], .int 99]) (.int (k : Nat)) = .ok (.val num) := by
    match k, hk with
    | 0, _ => exact ⟨_, _, rfl, rfl, rfl, rfl⟩
    | 1, _ => exact ⟨_, _, rfl, by simp, rfl, rfl⟩
    | 2, _ => exact ⟨_, _, rfl, by simp; omega, rfl, rfl⟩
    | 3, _ => exact ⟨_, _, rfl, rfl, rfl, rfl⟩
    | 4, _ => exact ⟨_, _, rfl, rfl, rfl, rfl⟩
    | 5, _ => exact ⟨_, _, rfl, rfl, rfl, rfl⟩
    | 6, _ => exact ⟨_, _, rfl, rfl, rfl, rfl⟩
    | 7, _ => exact ⟨_, _, rfl, by simp; omega, rfl, rfl⟩
  obtain ⟨no, num, hno, hnum, e1, e2⟩ := key
  refine st_es (ρ' := [some (.scr ns), some (.val n.d), some (.val (.int (k : Nat))), some (.val oneD), some (.val (.list [.int 5, .int 1, .int 0, .tuple [oneD]])), some (.val no), none, none, none, none, none, none]) ?_ ?_
  · simp [e1, -opIx_t]
  refine st_es (ρ' := [some (.scr ns), some (.val n.d), some (.val (.int (k : Nat))), some (.val oneD), some (.val (.list [.int 5, .int 1, .int 0, .tuple [oneD]])), some (.val no), some (.val num), none, none, none, none, none]) ?_ ?_
  · have e3 : opIx n.d (.int 3) = .ok (.val (.tuple (n.roads.map Road.d))) := rfl
    simp [e2, e3, opNeg, -opIx_t]
  exact rest_ok hn hs hno hnum

end LW
namespace LW
open PySem PySem.Spec PyProof.Rows L2 DN
theorem kit_val {K : PySem.W.Frag} {C : Addr} (h : PySem.W.subIn K (.ref C) (.type "ValueError") = some true) : PySem.W.kitOne K (.ref C) (.type "ValueError") = some true := by
  have e1 : ¬ ((Value.ref C == Value.type "ValueError") = true) := fun z => nomatch (beq_iff_eq.mp z)
  unfold PySem.W.kitOne
  rw [if_neg e1]
  show (if PySem.W.kitMeta "ValueError" = true then PySem.W.subIn K (.ref C) (.type "ValueError") else none) = some true
  rw [if_pos (by decide +kernel)]
  exact h
theorem tabIn_of {K : PySem.W.Frag} {x : Str} {f c P : Addr} {oc e : Value} {od dd : Option Addr} {fd : FuncData} {vs : Array Value} {sl so : Array (Option Value)} (a : PySem.W.nsIn K mainGlobals x = some (some (.ref f))) (l : K.lookup f = some ⟨oc, od, .func fd, sl⟩) (hc : fd.code = .ref c)
    (lc : K.lookup c = some ⟨e, dd, .fields vs, so⟩) (hv : vs[11]? = some (.ref P)) : PySem.W.tabIn K x = some (c, P) := by
  unfold PySem.W.tabIn
  rw [a]
  simp only [l, hc, lc, hv]
theorem km_nk {K : Params → PySem.W.Frag} {as : List Addr} {e : ∀ P, as = (K P).map (·.1)} {ts : List Addr} {w : World} {h : Heap} {P : Addr} (Y : (PySem.W.kmHook K as e ts).says w h) (hP : as.contains P = false) : (K w.params).lookup P = none := by
  have hn : P ∉ (K w.params).map (·.1) := by
    rw [← e w.params]
    intro z
    rw [List.contains_iff_mem.mpr z] at hP
    cases hP
  generalize K w.params = l at hn
  induction l with
  | nil => rfl
  | cons a r ih =>
    obtain ⟨a, b⟩ := a
    simp only [List.map_cons, List.mem_cons, not_or] at hn
    show List.lookup P ((a, b) :: r) = none
    rw [List.lookup_cons]
    have : (P == a) = false := by simpa using hn.1
    rw [this]
    exact ih hn.2

theorem kit_self {K : PySem.W.Frag} {C : Addr} : PySem.W.kitOne K (.ref C) (.ref C) = some true := by
  unfold PySem.W.kitOne
  simp
theorem kit_ref {K : PySem.W.Frag} {C D : Addr} {b : Bool} (hne : D ≠ C) (hd : PySem.W.hasDictIn K C = true) (ht : PySem.W.typeIn K (.ref C) = some (.type "type")) (h4 : PySem.W.subIn K (.ref D) (.ref C) = some b) : PySem.W.kitOne K (.ref D) (.ref C) = some b := by
  obtain ⟨cd, hc, _⟩ := PySem.W.any_some hd
  have e2 : ((PySem.W.clsIn K C).isSome && PySem.W.typeIn K (.ref C) == some (.type "type")) = true := by rw [hc, ht] <;> rfl
  have e1 : ¬ ((Value.ref D == Value.ref C) = true) := fun z => hne (Value.ref.inj (beq_iff_eq.mp z))
  unfold PySem.W.kitOne
  rw [if_neg e1]
  show (if ((PySem.W.clsIn K C).isSome && PySem.W.typeIn K (.ref C) == some (.type "type")) = true then PySem.W.subIn K (.ref D) (.ref C) else none) = some b
  rw [if_pos e2]
  exact h4

set_option maxHeartbeats 0 in
theorem all_mk {w : World} {K : PySem.W.Frag} {h : Heap} {mg : Str → Option Value} {fa : Addr} (X : K.In h) (G : h.Ns mainGlobals mg) (hfa : mg "law" = some (.ref fa)) {RR : Str → Prop}
    (tabs : ∀ (y : Str) (c P : Addr), RR y → PySem.W.tabIn K y = some (c, P) → PySem.W.CodeHd h c P ∧ h.get? P = some { cls := .none, data := .fields #[] })
    {f_is_int : Addr} {od_is_int an_is_int : Option Addr} {sl_is_int : Array (Option Value)} {oc_is_int kV_is_int dc_is_int pm_is_int cd_is_int ct_is_int : Value}
    {f_are_signs : Addr} {od_are_signs an_are_signs : Option Addr} {sl_are_signs : Array (Option Value)} {oc_are_signs kV_are_signs dc_are_signs pm_are_signs cd_are_signs ct_are_signs : Value}
    {f_is_road : Addr} {od_is_road an_is_road : Option Addr} {sl_is_road : Array (Option Value)} {oc_is_road kV_is_road dc_is_road pm_is_road cd_is_road ct_is_road : Value}
    {f_is_net : Addr} {od_is_net an_is_net : Option Addr} {sl_is_net : Array (Option Value)} {oc_is_net kV_is_net dc_is_net pm_is_net cd_is_net ct_is_net : Value}
    {f_check_net : Addr} {od_check_net an_check_net : Option Addr} {sl_check_net : Array (Option Value)} {oc_check_net kV_check_net dc_check_net pm_check_net cd_check_net ct_check_net : Value}
    {f_check_road : Addr} {od_check_road an_check_road : Option Addr} {sl_check_road : Array (Option Value)} {oc_check_road kV_check_road dc_check_road pm_check_road cd_check_road ct_check_road : Value}
    {f_has_way : Addr} {od_has_way an_has_way : Option Addr} {sl_has_way : Array (Option Value)} {oc_has_way kV_has_way dc_has_way pm_has_way cd_has_way ct_has_way : Value}
    {f_is_way : Addr} {od_is_way an_is_way : Option Addr} {sl_is_way : Array (Option Value)} {oc_is_way kV_is_way dc_is_way pm_is_way cd_is_way ct_is_way : Value}
    {f_find_followers : Addr} {od_find_followers an_find_followers : Option Addr} {sl_find_followers : Array (Option Value)} {oc_find_followers kV_find_followers dc_find_followers pm_find_followers cd_find_followers ct_find_followers : Value}
    {f_followers : Addr} {od_followers an_followers : Option Addr} {sl_followers : Array (Option Value)} {oc_followers kV_followers dc_followers pm_followers cd_followers ct_followers : Value}
    {f_find_standing : Addr} {od_find_standing an_find_standing : Option Addr} {sl_find_standing : Array (Option Value)} {oc_find_standing kV_find_standing dc_find_standing pm_find_standing cd_find_standing ct_find_standing : Value}
    {f_standing : Addr} {od_standing an_standing : Option Addr} {sl_standing : Array (Option Value)} {oc_standing kV_standing dc_standing pm_standing cd_standing ct_standing : Value}
    {f_count_pieces : Addr} {od_count_pieces an_count_pieces : Option Addr} {sl_count_pieces : Array (Option Value)} {oc_count_pieces kV_count_pieces dc_count_pieces pm_count_pieces cd_count_pieces ct_count_pieces : Value}
    {f_pieces : Addr} {od_pieces an_pieces : Option Addr} {sl_pieces : Array (Option Value)} {oc_pieces kV_pieces dc_pieces pm_pieces cd_pieces ct_pieces : Value}
    {f_leave : Addr} {od_leave an_leave : Option Addr} {sl_leave : Array (Option Value)} {oc_leave kV_leave dc_leave pm_leave cd_leave ct_leave : Value}
    {f_go_over : Addr} {od_go_over an_go_over : Option Addr} {sl_go_over : Array (Option Value)} {oc_go_over kV_go_over dc_go_over pm_go_over cd_go_over ct_go_over : Value}
    {f_check_way : Addr} {od_check_way an_check_way : Option Addr} {sl_check_way : Array (Option Value)} {oc_check_way kV_check_way dc_check_way pm_check_way cd_check_way ct_check_way : Value}
    {f_find_limits : Addr} {od_find_limits an_find_limits : Option Addr} {sl_find_limits : Array (Option Value)} {oc_find_limits kV_find_limits dc_find_limits pm_find_limits cd_find_limits ct_find_limits : Value}
    {f_limits : Addr} {od_limits an_limits : Option Addr} {sl_limits : Array (Option Value)} {oc_limits kV_limits dc_limits pm_limits cd_limits ct_limits : Value}
    {f_state_after : Addr} {od_state_after an_state_after : Option Addr} {sl_state_after : Array (Option Value)} {oc_state_after kV_state_after dc_state_after pm_state_after cd_state_after ct_state_after : Value}
    {f_flat : Addr} {od_flat an_flat : Option Addr} {sl_flat : Array (Option Value)} {oc_flat kV_flat dc_flat pm_flat cd_flat ct_flat : Value}
    {f_changes : Addr} {od_changes an_changes : Option Addr} {sl_changes : Array (Option Value)} {oc_changes kV_changes dc_changes pm_changes cd_changes ct_changes : Value}
    {f_least_limit : Addr} {od_least_limit an_least_limit : Option Addr} {sl_least_limit : Array (Option Value)} {oc_least_limit kV_least_limit dc_least_limit pm_least_limit cd_least_limit ct_least_limit : Value}
    {f_set_signs : Addr} {od_set_signs an_set_signs : Option Addr} {sl_set_signs : Array (Option Value)} {oc_set_signs kV_set_signs dc_set_signs pm_set_signs cd_set_signs ct_set_signs : Value}
    {f_drop : Addr} {od_drop an_drop : Option Addr} {sl_drop : Array (Option Value)} {oc_drop kV_drop dc_drop pm_drop cd_drop ct_drop : Value}
    {f_without_sign : Addr} {od_without_sign an_without_sign : Option Addr} {sl_without_sign : Array (Option Value)} {oc_without_sign kV_without_sign dc_without_sign pm_without_sign cd_without_sign ct_without_sign : Value}
    {f_with_sign : Addr} {od_with_sign an_with_sign : Option Addr} {sl_with_sign : Array (Option Value)} {oc_with_sign kV_with_sign dc_with_sign pm_with_sign cd_with_sign ct_with_sign : Value}
    {f_pairs_of : Addr} {od_pairs_of an_pairs_of : Option Addr} {sl_pairs_of : Array (Option Value)} {oc_pairs_of kV_pairs_of dc_pairs_of pm_pairs_of cd_pairs_of ct_pairs_of : Value}
    {f_does_nothing : Addr} {od_does_nothing an_does_nothing : Option Addr} {sl_does_nothing : Array (Option Value)} {oc_does_nothing kV_does_nothing dc_does_nothing pm_does_nothing cd_does_nothing ct_does_nothing : Value}
    {f_is_idle : Addr} {od_is_idle an_is_idle : Option Addr} {sl_is_idle : Array (Option Value)} {oc_is_idle kV_is_idle dc_is_idle pm_is_idle cd_is_idle ct_is_idle : Value}
    {f_find_idle : Addr} {od_find_idle an_find_idle : Option Addr} {sl_find_idle : Array (Option Value)} {oc_find_idle kV_find_idle dc_find_idle pm_find_idle cd_find_idle ct_find_idle : Value}
    {f_idle_signs : Addr} {od_idle_signs an_idle_signs : Option Addr} {sl_idle_signs : Array (Option Value)} {oc_idle_signs kV_idle_signs dc_idle_signs pm_idle_signs cd_idle_signs ct_idle_signs : Value}
    {f_shape : Addr} {od_shape an_shape : Option Addr} {sl_shape : Array (Option Value)} {oc_shape kV_shape dc_shape pm_shape cd_shape ct_shape : Value}
    {f_check_two : Addr} {od_check_two an_check_two : Option Addr} {sl_check_two : Array (Option Value)} {oc_check_two kV_check_two dc_check_two pm_check_two cd_check_two ct_check_two : Value}
    {f_same_shape : Addr} {od_same_shape an_same_shape : Option Addr} {sl_same_shape : Array (Option Value)} {oc_same_shape kV_same_shape dc_same_shape pm_same_shape cd_same_shape ct_same_shape : Value}
    {f_find_parting : Addr} {od_find_parting an_find_parting : Option Addr} {sl_find_parting : Array (Option Value)} {oc_find_parting kV_find_parting dc_find_parting pm_find_parting cd_find_parting ct_find_parting : Value}
    {f_same_limits : Addr} {od_same_limits an_same_limits : Option Addr} {sl_same_limits : Array (Option Value)} {oc_same_limits kV_same_limits dc_same_limits pm_same_limits cd_same_limits ct_same_limits : Value}
    {f_parting_way : Addr} {od_parting_way an_parting_way : Option Addr} {sl_parting_way : Array (Option Value)} {oc_parting_way kV_parting_way dc_parting_way pm_parting_way cd_parting_way ct_parting_way : Value}
    {f_most_idle : Addr} {od_most_idle an_most_idle : Option Addr} {sl_most_idle : Array (Option Value)} {oc_most_idle kV_most_idle dc_most_idle pm_most_idle cd_most_idle ct_most_idle : Value}
    {f_find_places : Addr} {od_find_places an_find_places : Option Addr} {sl_find_places : Array (Option Value)} {oc_find_places kV_find_places dc_find_places pm_find_places cd_find_places ct_find_places : Value}
    {f_find_states : Addr} {od_find_states an_find_states : Option Addr} {sl_find_states : Array (Option Value)} {oc_find_states kV_find_states dc_find_states pm_find_states cd_find_states ct_find_states : Value}
    {f_states_at : Addr} {od_states_at an_states_at : Option Addr} {sl_states_at : Array (Option Value)} {oc_states_at kV_states_at dc_states_at pm_states_at cd_states_at ct_states_at : Value}
    {f_find_possible : Addr} {od_find_possible an_find_possible : Option Addr} {sl_find_possible : Array (Option Value)} {oc_find_possible kV_find_possible dc_find_possible pm_find_possible cd_find_possible ct_find_possible : Value}
    {f_possible : Addr} {od_possible an_possible : Option Addr} {sl_possible : Array (Option Value)} {oc_possible kV_possible dc_possible pm_possible cd_possible ct_possible : Value}
    {f_find_unclear : Addr} {od_find_unclear an_find_unclear : Option Addr} {sl_find_unclear : Array (Option Value)} {oc_find_unclear kV_find_unclear dc_find_unclear pm_find_unclear cd_find_unclear ct_find_unclear : Value}
    {f_unclear : Addr} {od_unclear an_unclear : Option Addr} {sl_unclear : Array (Option Value)} {oc_unclear kV_unclear dc_unclear pm_unclear cd_unclear ct_unclear : Value}
    {f_is_clear : Addr} {od_is_clear an_is_clear : Option Addr} {sl_is_clear : Array (Option Value)} {oc_is_clear kV_is_clear dc_is_clear pm_is_clear cd_is_clear ct_is_clear : Value}
    {f_find_shortest : Addr} {od_find_shortest an_find_shortest : Option Addr} {sl_find_shortest : Array (Option Value)} {oc_find_shortest kV_find_shortest dc_find_shortest pm_find_shortest cd_find_shortest ct_find_shortest : Value}
    {f_shortest_with : Addr} {od_shortest_with an_shortest_with : Option Addr} {sl_shortest_with : Array (Option Value)} {oc_shortest_with kV_shortest_with dc_shortest_with pm_shortest_with cd_shortest_with ct_shortest_with : Value}
    {f_witnesses : Addr} {od_witnesses an_witnesses : Option Addr} {sl_witnesses : Array (Option Value)} {oc_witnesses kV_witnesses dc_witnesses pm_witnesses cd_witnesses ct_witnesses : Value}
    {f_farthest : Addr} {od_farthest an_farthest : Option Addr} {sl_farthest : Array (Option Value)} {oc_farthest kV_farthest dc_farthest pm_farthest cd_farthest ct_farthest : Value}
    {f_l_class : Addr} {od_l_class an_l_class : Option Addr} {sl_l_class : Array (Option Value)} {oc_l_class kV_l_class dc_l_class pm_l_class cd_l_class ct_l_class : Value}
    {f_l_result : Addr} {od_l_result an_l_result : Option Addr} {sl_l_result : Array (Option Value)} {oc_l_result kV_l_result dc_l_result pm_l_result cd_l_result ct_l_result : Value}
    {f_l_all : Addr} {od_l_all an_l_all : Option Addr} {sl_l_all : Array (Option Value)} {oc_l_all kV_l_all dc_l_all pm_l_all cd_l_all ct_l_all : Value}
    {f_l_pick : Addr} {od_l_pick an_l_pick : Option Addr} {sl_l_pick : Array (Option Value)} {oc_l_pick kV_l_pick dc_l_pick pm_l_pick cd_l_pick ct_l_pick : Value}
    {f_l_map : Addr} {od_l_map an_l_map : Option Addr} {sl_l_map : Array (Option Value)} {oc_l_map kV_l_map dc_l_map pm_l_map cd_l_map ct_l_map : Value}
    {f_l_nets : Addr} {od_l_nets an_l_nets : Option Addr} {sl_l_nets : Array (Option Value)} {oc_l_nets kV_l_nets dc_l_nets pm_l_nets ct_l_nets : Value} {ca_l_nets ta_l_nets : Addr}
    {eo_l_nets : Value} {do_l_nets : Option Addr} {vs_l_nets : Array Value} {so_l_nets : Array (Option Value)}
    {f_l_numbered : Addr} {od_l_numbered an_l_numbered : Option Addr} {sl_l_numbered : Array (Option Value)} {oc_l_numbered kV_l_numbered dc_l_numbered pm_l_numbered ct_l_numbered : Value} {ca_l_numbered ta_l_numbered : Addr}
    {eo_l_numbered : Value} {do_l_numbered : Option Addr} {vs_l_numbered : Array Value} {so_l_numbered : Array (Option Value)}
    {f_l_placed : Addr} {od_l_placed an_l_placed : Option Addr} {sl_l_placed : Array (Option Value)} {oc_l_placed kV_l_placed dc_l_placed pm_l_placed ct_l_placed : Value} {ca_l_placed ta_l_placed : Addr}
    {eo_l_placed : Value} {do_l_placed : Option Addr} {vs_l_placed : Array Value} {so_l_placed : Array (Option Value)}
    {f_law : Addr} {od_law an_law : Option Addr} {sl_law : Array (Option Value)} {oc_law kV_law dc_law pm_law ct_law : Value} {ca_law ta_law : Addr}
    {eo_law : Value} {do_law : Option Addr} {vs_law : Array Value} {so_law : Array (Option Value)}
    {u_MAX_JUNCTION : Tok}
    {u_MAX_LIMIT : Tok}
    {u_MAX_ROADS : Tok}
    {u_MAX_SIGNS : Tok}
    {u_MAX_WAY : Tok}
    {u_MIN_FAST : Tok}
    {C_InvalidIndex : Addr}
    {C_InvalidLimit : Addr}
    {C_InvalidNet : Addr}
    {C_InvalidPiece : Addr}
    {C_InvalidRoad : Addr}
    {C_InvalidSign : Addr}
    {C_InvalidWay : Addr}
    {C_OtherShape : Addr}
    {C_TooMany : Addr}
    {C_LimitError : Addr}
    (a_is_int : PySem.W.nsIn K mainGlobals "is_int" = some (some (.ref f_is_int))) (l_is_int : K.lookup f_is_int = some ⟨oc_is_int, od_is_int, .func (PySem.W.fnOf "is_int" "is_int" (defArgs s_is_int) (defBody s_is_int) (defScope s_is_int) .none kV_is_int dc_is_int pm_is_int an_is_int cd_is_int ct_is_int), sl_is_int⟩) (c_is_int : PySem.W.codeIn K cd_is_int "is_int" = true) (k_is_int : PySem.W.keepIn K (.ref f_is_int) = true)
    (a_are_signs : PySem.W.nsIn K mainGlobals "are_signs" = some (some (.ref f_are_signs))) (l_are_signs : K.lookup f_are_signs = some ⟨oc_are_signs, od_are_signs, .func (PySem.W.fnOf "are_signs" "are_signs" (defArgs s_are_signs) (defBody s_are_signs) (defScope s_are_signs) .none kV_are_signs dc_are_signs pm_are_signs an_are_signs cd_are_signs ct_are_signs), sl_are_signs⟩) (c_are_signs : PySem.W.codeIn K cd_are_signs "are_signs" = true) (k_are_signs : PySem.W.keepIn K (.ref f_are_signs) = true)
    (a_is_road : PySem.W.nsIn K mainGlobals "is_road" = some (some (.ref f_is_road))) (l_is_road : K.lookup f_is_road = some ⟨oc_is_road, od_is_road, .func (PySem.W.fnOf "is_road" "is_road" (defArgs s_is_road) (defBody s_is_road) (defScope s_is_road) .none kV_is_road dc_is_road pm_is_road an_is_road cd_is_road ct_is_road), sl_is_road⟩) (c_is_road : PySem.W.codeIn K cd_is_road "is_road" = true) (k_is_road : PySem.W.keepIn K (.ref f_is_road) = true)
    (a_is_net : PySem.W.nsIn K mainGlobals "is_net" = some (some (.ref f_is_net))) (l_is_net : K.lookup f_is_net = some ⟨oc_is_net, od_is_net, .func (PySem.W.fnOf "is_net" "is_net" (defArgs s_is_net) (defBody s_is_net) (defScope s_is_net) .none kV_is_net dc_is_net pm_is_net an_is_net cd_is_net ct_is_net), sl_is_net⟩) (c_is_net : PySem.W.codeIn K cd_is_net "is_net" = true) (k_is_net : PySem.W.keepIn K (.ref f_is_net) = true)
    (a_check_net : PySem.W.nsIn K mainGlobals "check_net" = some (some (.ref f_check_net))) (l_check_net : K.lookup f_check_net = some ⟨oc_check_net, od_check_net, .func (PySem.W.fnOf "check_net" "check_net" (defArgs s_check_net) (defBody s_check_net) (defScope s_check_net) .none kV_check_net dc_check_net pm_check_net an_check_net cd_check_net ct_check_net), sl_check_net⟩) (c_check_net : PySem.W.codeIn K cd_check_net "check_net" = true) (k_check_net : PySem.W.keepIn K (.ref f_check_net) = true)
    (a_check_road : PySem.W.nsIn K mainGlobals "check_road" = some (some (.ref f_check_road))) (l_check_road : K.lookup f_check_road = some ⟨oc_check_road, od_check_road, .func (PySem.W.fnOf "check_road" "check_road" (defArgs s_check_road) (defBody s_check_road) (defScope s_check_road) .none kV_check_road dc_check_road pm_check_road an_check_road cd_check_road ct_check_road), sl_check_road⟩) (c_check_road : PySem.W.codeIn K cd_check_road "check_road" = true) (k_check_road : PySem.W.keepIn K (.ref f_check_road) = true)
    (a_has_way : PySem.W.nsIn K mainGlobals "has_way" = some (some (.ref f_has_way))) (l_has_way : K.lookup f_has_way = some ⟨oc_has_way, od_has_way, .func (PySem.W.fnOf "has_way" "has_way" (defArgs s_has_way) (defBody s_has_way) (defScope s_has_way) .none kV_has_way dc_has_way pm_has_way an_has_way cd_has_way ct_has_way), sl_has_way⟩) (c_has_way : PySem.W.codeIn K cd_has_way "has_way" = true) (k_has_way : PySem.W.keepIn K (.ref f_has_way) = true)
    (a_is_way : PySem.W.nsIn K mainGlobals "is_way" = some (some (.ref f_is_way))) (l_is_way : K.lookup f_is_way = some ⟨oc_is_way, od_is_way, .func (PySem.W.fnOf "is_way" "is_way" (defArgs s_is_way) (defBody s_is_way) (defScope s_is_way) .none kV_is_way dc_is_way pm_is_way an_is_way cd_is_way ct_is_way), sl_is_way⟩) (c_is_way : PySem.W.codeIn K cd_is_way "is_way" = true) (k_is_way : PySem.W.keepIn K (.ref f_is_way) = true)
    (a_find_followers : PySem.W.nsIn K mainGlobals "find_followers" = some (some (.ref f_find_followers))) (l_find_followers : K.lookup f_find_followers = some ⟨oc_find_followers, od_find_followers, .func (PySem.W.fnOf "find_followers" "find_followers" (defArgs s_find_followers) (defBody s_find_followers) (defScope s_find_followers) .none kV_find_followers dc_find_followers pm_find_followers an_find_followers cd_find_followers ct_find_followers), sl_find_followers⟩) (c_find_followers : PySem.W.codeIn K cd_find_followers "find_followers" = true) (k_find_followers : PySem.W.keepIn K (.ref f_find_followers) = true)
    (a_followers : PySem.W.nsIn K mainGlobals "followers" = some (some (.ref f_followers))) (l_followers : K.lookup f_followers = some ⟨oc_followers, od_followers, .func (PySem.W.fnOf "followers" "followers" (defArgs s_followers) (defBody s_followers) (defScope s_followers) .none kV_followers dc_followers pm_followers an_followers cd_followers ct_followers), sl_followers⟩) (c_followers : PySem.W.codeIn K cd_followers "followers" = true) (k_followers : PySem.W.keepIn K (.ref f_followers) = true)
    (a_find_standing : PySem.W.nsIn K mainGlobals "find_standing" = some (some (.ref f_find_standing))) (l_find_standing : K.lookup f_find_standing = some ⟨oc_find_standing, od_find_standing, .func (PySem.W.fnOf "find_standing" "find_standing" (defArgs s_find_standing) (defBody s_find_standing) (defScope s_find_standing) .none kV_find_standing dc_find_standing pm_find_standing an_find_standing cd_find_standing ct_find_standing), sl_find_standing⟩) (c_find_standing : PySem.W.codeIn K cd_find_standing "find_standing" = true) (k_find_standing : PySem.W.keepIn K (.ref f_find_standing) = true)
    (a_standing : PySem.W.nsIn K mainGlobals "standing" = some (some (.ref f_standing))) (l_standing : K.lookup f_standing = some ⟨oc_standing, od_standing, .func (PySem.W.fnOf "standing" "standing" (defArgs s_standing) (defBody s_standing) (defScope s_standing) .none kV_standing dc_standing pm_standing an_standing cd_standing ct_standing), sl_standing⟩) (c_standing : PySem.W.codeIn K cd_standing "standing" = true) (k_standing : PySem.W.keepIn K (.ref f_standing) = true)
    (a_count_pieces : PySem.W.nsIn K mainGlobals "count_pieces" = some (some (.ref f_count_pieces))) (l_count_pieces : K.lookup f_count_pieces = some ⟨oc_count_pieces, od_count_pieces, .func (PySem.W.fnOf "count_pieces" "count_pieces" (defArgs s_count_pieces) (defBody s_count_pieces) (defScope s_count_pieces) .none kV_count_pieces dc_count_pieces pm_count_pieces an_count_pieces cd_count_pieces ct_count_pieces), sl_count_pieces⟩) (c_count_pieces : PySem.W.codeIn K cd_count_pieces "count_pieces" = true) (k_count_pieces : PySem.W.keepIn K (.ref f_count_pieces) = true)
    (a_pieces : PySem.W.nsIn K mainGlobals "pieces" = some (some (.ref f_pieces))) (l_pieces : K.lookup f_pieces = some ⟨oc_pieces, od_pieces, .func (PySem.W.fnOf "pieces" "pieces" (defArgs s_pieces) (defBody s_pieces) (defScope s_pieces) .none kV_pieces dc_pieces pm_pieces an_pieces cd_pieces ct_pieces), sl_pieces⟩) (c_pieces : PySem.W.codeIn K cd_pieces "pieces" = true) (k_pieces : PySem.W.keepIn K (.ref f_pieces) = true)
    (a_leave : PySem.W.nsIn K mainGlobals "leave" = some (some (.ref f_leave))) (l_leave : K.lookup f_leave = some ⟨oc_leave, od_leave, .func (PySem.W.fnOf "leave" "leave" (defArgs s_leave) (defBody s_leave) (defScope s_leave) .none kV_leave dc_leave pm_leave an_leave cd_leave ct_leave), sl_leave⟩) (c_leave : PySem.W.codeIn K cd_leave "leave" = true) (k_leave : PySem.W.keepIn K (.ref f_leave) = true)
    (a_go_over : PySem.W.nsIn K mainGlobals "go_over" = some (some (.ref f_go_over))) (l_go_over : K.lookup f_go_over = some ⟨oc_go_over, od_go_over, .func (PySem.W.fnOf "go_over" "go_over" (defArgs s_go_over) (defBody s_go_over) (defScope s_go_over) .none kV_go_over dc_go_over pm_go_over an_go_over cd_go_over ct_go_over), sl_go_over⟩) (c_go_over : PySem.W.codeIn K cd_go_over "go_over" = true) (k_go_over : PySem.W.keepIn K (.ref f_go_over) = true)
    (a_check_way : PySem.W.nsIn K mainGlobals "check_way" = some (some (.ref f_check_way))) (l_check_way : K.lookup f_check_way = some ⟨oc_check_way, od_check_way, .func (PySem.W.fnOf "check_way" "check_way" (defArgs s_check_way) (defBody s_check_way) (defScope s_check_way) .none kV_check_way dc_check_way pm_check_way an_check_way cd_check_way ct_check_way), sl_check_way⟩) (c_check_way : PySem.W.codeIn K cd_check_way "check_way" = true) (k_check_way : PySem.W.keepIn K (.ref f_check_way) = true)
    (a_find_limits : PySem.W.nsIn K mainGlobals "find_limits" = some (some (.ref f_find_limits))) (l_find_limits : K.lookup f_find_limits = some ⟨oc_find_limits, od_find_limits, .func (PySem.W.fnOf "find_limits" "find_limits" (defArgs s_find_limits) (defBody s_find_limits) (defScope s_find_limits) .none kV_find_limits dc_find_limits pm_find_limits an_find_limits cd_find_limits ct_find_limits), sl_find_limits⟩) (c_find_limits : PySem.W.codeIn K cd_find_limits "find_limits" = true) (k_find_limits : PySem.W.keepIn K (.ref f_find_limits) = true)
    (a_limits : PySem.W.nsIn K mainGlobals "limits" = some (some (.ref f_limits))) (l_limits : K.lookup f_limits = some ⟨oc_limits, od_limits, .func (PySem.W.fnOf "limits" "limits" (defArgs s_limits) (defBody s_limits) (defScope s_limits) .none kV_limits dc_limits pm_limits an_limits cd_limits ct_limits), sl_limits⟩) (c_limits : PySem.W.codeIn K cd_limits "limits" = true) (k_limits : PySem.W.keepIn K (.ref f_limits) = true)
    (a_state_after : PySem.W.nsIn K mainGlobals "state_after" = some (some (.ref f_state_after))) (l_state_after : K.lookup f_state_after = some ⟨oc_state_after, od_state_after, .func (PySem.W.fnOf "state_after" "state_after" (defArgs s_state_after) (defBody s_state_after) (defScope s_state_after) .none kV_state_after dc_state_after pm_state_after an_state_after cd_state_after ct_state_after), sl_state_after⟩) (c_state_after : PySem.W.codeIn K cd_state_after "state_after" = true) (k_state_after : PySem.W.keepIn K (.ref f_state_after) = true)
    (a_flat : PySem.W.nsIn K mainGlobals "flat" = some (some (.ref f_flat))) (l_flat : K.lookup f_flat = some ⟨oc_flat, od_flat, .func (PySem.W.fnOf "flat" "flat" (defArgs s_flat) (defBody s_flat) (defScope s_flat) .none kV_flat dc_flat pm_flat an_flat cd_flat ct_flat), sl_flat⟩) (c_flat : PySem.W.codeIn K cd_flat "flat" = true) (k_flat : PySem.W.keepIn K (.ref f_flat) = true)
    (a_changes : PySem.W.nsIn K mainGlobals "changes" = some (some (.ref f_changes))) (l_changes : K.lookup f_changes = some ⟨oc_changes, od_changes, .func (PySem.W.fnOf "changes" "changes" (defArgs s_changes) (defBody s_changes) (defScope s_changes) .none kV_changes dc_changes pm_changes an_changes cd_changes ct_changes), sl_changes⟩) (c_changes : PySem.W.codeIn K cd_changes "changes" = true) (k_changes : PySem.W.keepIn K (.ref f_changes) = true)
    (a_least_limit : PySem.W.nsIn K mainGlobals "least_limit" = some (some (.ref f_least_limit))) (l_least_limit : K.lookup f_least_limit = some ⟨oc_least_limit, od_least_limit, .func (PySem.W.fnOf "least_limit" "least_limit" (defArgs s_least_limit) (defBody s_least_limit) (defScope s_least_limit) .none kV_least_limit dc_least_limit pm_least_limit an_least_limit cd_least_limit ct_least_limit), sl_least_limit⟩) (c_least_limit : PySem.W.codeIn K cd_least_limit "least_limit" = true) (k_least_limit : PySem.W.keepIn K (.ref f_least_limit) = true)
    (a_set_signs : PySem.W.nsIn K mainGlobals "set_signs" = some (some (.ref f_set_signs))) (l_set_signs : K.lookup f_set_signs = some ⟨oc_set_signs, od_set_signs, .func (PySem.W.fnOf "set_signs" "set_signs" (defArgs s_set_signs) (defBody s_set_signs) (defScope s_set_signs) .none kV_set_signs dc_set_signs pm_set_signs an_set_signs cd_set_signs ct_set_signs), sl_set_signs⟩) (c_set_signs : PySem.W.codeIn K cd_set_signs "set_signs" = true) (k_set_signs : PySem.W.keepIn K (.ref f_set_signs) = true)
    (a_drop : PySem.W.nsIn K mainGlobals "drop" = some (some (.ref f_drop))) (l_drop : K.lookup f_drop = some ⟨oc_drop, od_drop, .func (PySem.W.fnOf "drop" "drop" (defArgs s_drop) (defBody s_drop) (defScope s_drop) .none kV_drop dc_drop pm_drop an_drop cd_drop ct_drop), sl_drop⟩) (c_drop : PySem.W.codeIn K cd_drop "drop" = true) (k_drop : PySem.W.keepIn K (.ref f_drop) = true)
    (a_without_sign : PySem.W.nsIn K mainGlobals "without_sign" = some (some (.ref f_without_sign))) (l_without_sign : K.lookup f_without_sign = some ⟨oc_without_sign, od_without_sign, .func (PySem.W.fnOf "without_sign" "without_sign" (defArgs s_without_sign) (defBody s_without_sign) (defScope s_without_sign) .none kV_without_sign dc_without_sign pm_without_sign an_without_sign cd_without_sign ct_without_sign), sl_without_sign⟩) (c_without_sign : PySem.W.codeIn K cd_without_sign "without_sign" = true) (k_without_sign : PySem.W.keepIn K (.ref f_without_sign) = true)
    (a_with_sign : PySem.W.nsIn K mainGlobals "with_sign" = some (some (.ref f_with_sign))) (l_with_sign : K.lookup f_with_sign = some ⟨oc_with_sign, od_with_sign, .func (PySem.W.fnOf "with_sign" "with_sign" (defArgs s_with_sign) (defBody s_with_sign) (defScope s_with_sign) .none kV_with_sign dc_with_sign pm_with_sign an_with_sign cd_with_sign ct_with_sign), sl_with_sign⟩) (c_with_sign : PySem.W.codeIn K cd_with_sign "with_sign" = true) (k_with_sign : PySem.W.keepIn K (.ref f_with_sign) = true)
    (a_pairs_of : PySem.W.nsIn K mainGlobals "pairs_of" = some (some (.ref f_pairs_of))) (l_pairs_of : K.lookup f_pairs_of = some ⟨oc_pairs_of, od_pairs_of, .func (PySem.W.fnOf "pairs_of" "pairs_of" (defArgs s_pairs_of) (defBody s_pairs_of) (defScope s_pairs_of) .none kV_pairs_of dc_pairs_of pm_pairs_of an_pairs_of cd_pairs_of ct_pairs_of), sl_pairs_of⟩) (c_pairs_of : PySem.W.codeIn K cd_pairs_of "pairs_of" = true) (k_pairs_of : PySem.W.keepIn K (.ref f_pairs_of) = true)
    (a_does_nothing : PySem.W.nsIn K mainGlobals "does_nothing" = some (some (.ref f_does_nothing))) (l_does_nothing : K.lookup f_does_nothing = some ⟨oc_does_nothing, od_does_nothing, .func (PySem.W.fnOf "does_nothing" "does_nothing" (defArgs s_does_nothing) (defBody s_does_nothing) (defScope s_does_nothing) .none kV_does_nothing dc_does_nothing pm_does_nothing an_does_nothing cd_does_nothing ct_does_nothing), sl_does_nothing⟩) (c_does_nothing : PySem.W.codeIn K cd_does_nothing "does_nothing" = true) (k_does_nothing : PySem.W.keepIn K (.ref f_does_nothing) = true)
    (a_is_idle : PySem.W.nsIn K mainGlobals "is_idle" = some (some (.ref f_is_idle))) (l_is_idle : K.lookup f_is_idle = some ⟨oc_is_idle, od_is_idle, .func (PySem.W.fnOf "is_idle" "is_idle" (defArgs s_is_idle) (defBody s_is_idle) (defScope s_is_idle) .none kV_is_idle dc_is_idle pm_is_idle an_is_idle cd_is_idle ct_is_idle), sl_is_idle⟩) (c_is_idle : PySem.W.codeIn K cd_is_idle "is_idle" = true) (k_is_idle : PySem.W.keepIn K (.ref f_is_idle) = true)
    (a_find_idle : PySem.W.nsIn K mainGlobals "find_idle" = some (some (.ref f_find_idle))) (l_find_idle : K.lookup f_find_idle = some ⟨oc_find_idle, od_find_idle, .func (PySem.W.fnOf "find_idle" "find_idle" (defArgs s_find_idle) (defBody s_find_idle) (defScope s_find_idle) .none kV_find_idle dc_find_idle pm_find_idle an_find_idle cd_find_idle ct_find_idle), sl_find_idle⟩) (c_find_idle : PySem.W.codeIn K cd_find_idle "find_idle" = true) (k_find_idle : PySem.W.keepIn K (.ref f_find_idle) = true)
    (a_idle_signs : PySem.W.nsIn K mainGlobals "idle_signs" = some (some (.ref f_idle_signs))) (l_idle_signs : K.lookup f_idle_signs = some ⟨oc_idle_signs, od_idle_signs, .func (PySem.W.fnOf "idle_signs" "idle_signs" (defArgs s_idle_signs) (defBody s_idle_signs) (defScope s_idle_signs) .none kV_idle_signs dc_idle_signs pm_idle_signs an_idle_signs cd_idle_signs ct_idle_signs), sl_idle_signs⟩) (c_idle_signs : PySem.W.codeIn K cd_idle_signs "idle_signs" = true) (k_idle_signs : PySem.W.keepIn K (.ref f_idle_signs) = true)
    (a_shape : PySem.W.nsIn K mainGlobals "shape" = some (some (.ref f_shape))) (l_shape : K.lookup f_shape = some ⟨oc_shape, od_shape, .func (PySem.W.fnOf "shape" "shape" (defArgs s_shape) (defBody s_shape) (defScope s_shape) .none kV_shape dc_shape pm_shape an_shape cd_shape ct_shape), sl_shape⟩) (c_shape : PySem.W.codeIn K cd_shape "shape" = true) (k_shape : PySem.W.keepIn K (.ref f_shape) = true)
    (a_check_two : PySem.W.nsIn K mainGlobals "check_two" = some (some (.ref f_check_two))) (l_check_two : K.lookup f_check_two = some ⟨oc_check_two, od_check_two, .func (PySem.W.fnOf "check_two" "check_two" (defArgs s_check_two) (defBody s_check_two) (defScope s_check_two) .none kV_check_two dc_check_two pm_check_two an_check_two cd_check_two ct_check_two), sl_check_two⟩) (c_check_two : PySem.W.codeIn K cd_check_two "check_two" = true) (k_check_two : PySem.W.keepIn K (.ref f_check_two) = true)
    (a_same_shape : PySem.W.nsIn K mainGlobals "same_shape" = some (some (.ref f_same_shape))) (l_same_shape : K.lookup f_same_shape = some ⟨oc_same_shape, od_same_shape, .func (PySem.W.fnOf "same_shape" "same_shape" (defArgs s_same_shape) (defBody s_same_shape) (defScope s_same_shape) .none kV_same_shape dc_same_shape pm_same_shape an_same_shape cd_same_shape ct_same_shape), sl_same_shape⟩) (c_same_shape : PySem.W.codeIn K cd_same_shape "same_shape" = true) (k_same_shape : PySem.W.keepIn K (.ref f_same_shape) = true)
    (a_find_parting : PySem.W.nsIn K mainGlobals "find_parting" = some (some (.ref f_find_parting))) (l_find_parting : K.lookup f_find_parting = some ⟨oc_find_parting, od_find_parting, .func (PySem.W.fnOf "find_parting" "find_parting" (defArgs s_find_parting) (defBody s_find_parting) (defScope s_find_parting) .none kV_find_parting dc_find_parting pm_find_parting an_find_parting cd_find_parting ct_find_parting), sl_find_parting⟩) (c_find_parting : PySem.W.codeIn K cd_find_parting "find_parting" = true) (k_find_parting : PySem.W.keepIn K (.ref f_find_parting) = true)
    (a_same_limits : PySem.W.nsIn K mainGlobals "same_limits" = some (some (.ref f_same_limits))) (l_same_limits : K.lookup f_same_limits = some ⟨oc_same_limits, od_same_limits, .func (PySem.W.fnOf "same_limits" "same_limits" (defArgs s_same_limits) (defBody s_same_limits) (defScope s_same_limits) .none kV_same_limits dc_same_limits pm_same_limits an_same_limits cd_same_limits ct_same_limits), sl_same_limits⟩) (c_same_limits : PySem.W.codeIn K cd_same_limits "same_limits" = true) (k_same_limits : PySem.W.keepIn K (.ref f_same_limits) = true)
    (a_parting_way : PySem.W.nsIn K mainGlobals "parting_way" = some (some (.ref f_parting_way))) (l_parting_way : K.lookup f_parting_way = some ⟨oc_parting_way, od_parting_way, .func (PySem.W.fnOf "parting_way" "parting_way" (defArgs s_parting_way) (defBody s_parting_way) (defScope s_parting_way) .none kV_parting_way dc_parting_way pm_parting_way an_parting_way cd_parting_way ct_parting_way), sl_parting_way⟩) (c_parting_way : PySem.W.codeIn K cd_parting_way "parting_way" = true) (k_parting_way : PySem.W.keepIn K (.ref f_parting_way) = true)
    (a_most_idle : PySem.W.nsIn K mainGlobals "most_idle" = some (some (.ref f_most_idle))) (l_most_idle : K.lookup f_most_idle = some ⟨oc_most_idle, od_most_idle, .func (PySem.W.fnOf "most_idle" "most_idle" (defArgs s_most_idle) (defBody s_most_idle) (defScope s_most_idle) .none kV_most_idle dc_most_idle pm_most_idle an_most_idle cd_most_idle ct_most_idle), sl_most_idle⟩) (c_most_idle : PySem.W.codeIn K cd_most_idle "most_idle" = true) (k_most_idle : PySem.W.keepIn K (.ref f_most_idle) = true)
    (a_find_places : PySem.W.nsIn K mainGlobals "find_places" = some (some (.ref f_find_places))) (l_find_places : K.lookup f_find_places = some ⟨oc_find_places, od_find_places, .func (PySem.W.fnOf "find_places" "find_places" (defArgs s_find_places) (defBody s_find_places) (defScope s_find_places) .none kV_find_places dc_find_places pm_find_places an_find_places cd_find_places ct_find_places), sl_find_places⟩) (c_find_places : PySem.W.codeIn K cd_find_places "find_places" = true) (k_find_places : PySem.W.keepIn K (.ref f_find_places) = true)
    (a_find_states : PySem.W.nsIn K mainGlobals "find_states" = some (some (.ref f_find_states))) (l_find_states : K.lookup f_find_states = some ⟨oc_find_states, od_find_states, .func (PySem.W.fnOf "find_states" "find_states" (defArgs s_find_states) (defBody s_find_states) (defScope s_find_states) .none kV_find_states dc_find_states pm_find_states an_find_states cd_find_states ct_find_states), sl_find_states⟩) (c_find_states : PySem.W.codeIn K cd_find_states "find_states" = true) (k_find_states : PySem.W.keepIn K (.ref f_find_states) = true)
    (a_states_at : PySem.W.nsIn K mainGlobals "states_at" = some (some (.ref f_states_at))) (l_states_at : K.lookup f_states_at = some ⟨oc_states_at, od_states_at, .func (PySem.W.fnOf "states_at" "states_at" (defArgs s_states_at) (defBody s_states_at) (defScope s_states_at) .none kV_states_at dc_states_at pm_states_at an_states_at cd_states_at ct_states_at), sl_states_at⟩) (c_states_at : PySem.W.codeIn K cd_states_at "states_at" = true) (k_states_at : PySem.W.keepIn K (.ref f_states_at) = true)
    (a_find_possible : PySem.W.nsIn K mainGlobals "find_possible" = some (some (.ref f_find_possible))) (l_find_possible : K.lookup f_find_possible = some ⟨oc_find_possible, od_find_possible, .func (PySem.W.fnOf "find_possible" "find_possible" (defArgs s_find_possible) (defBody s_find_possible) (defScope s_find_possible) .none kV_find_possible dc_find_possible pm_find_possible an_find_possible cd_find_possible ct_find_possible), sl_find_possible⟩) (c_find_possible : PySem.W.codeIn K cd_find_possible "find_possible" = true) (k_find_possible : PySem.W.keepIn K (.ref f_find_possible) = true)
    (a_possible : PySem.W.nsIn K mainGlobals "possible" = some (some (.ref f_possible))) (l_possible : K.lookup f_possible = some ⟨oc_possible, od_possible, .func (PySem.W.fnOf "possible" "possible" (defArgs s_possible) (defBody s_possible) (defScope s_possible) .none kV_possible dc_possible pm_possible an_possible cd_possible ct_possible), sl_possible⟩) (c_possible : PySem.W.codeIn K cd_possible "possible" = true) (k_possible : PySem.W.keepIn K (.ref f_possible) = true)
    (a_find_unclear : PySem.W.nsIn K mainGlobals "find_unclear" = some (some (.ref f_find_unclear))) (l_find_unclear : K.lookup f_find_unclear = some ⟨oc_find_unclear, od_find_unclear, .func (PySem.W.fnOf "find_unclear" "find_unclear" (defArgs s_find_unclear) (defBody s_find_unclear) (defScope s_find_unclear) .none kV_find_unclear dc_find_unclear pm_find_unclear an_find_unclear cd_find_unclear ct_find_unclear), sl_find_unclear⟩) (c_find_unclear : PySem.W.codeIn K cd_find_unclear "find_unclear" = true) (k_find_unclear : PySem.W.keepIn K (.ref f_find_unclear) = true)
    (a_unclear : PySem.W.nsIn K mainGlobals "unclear" = some (some (.ref f_unclear))) (l_unclear : K.lookup f_unclear = some ⟨oc_unclear, od_unclear, .func (PySem.W.fnOf "unclear" "unclear" (defArgs s_unclear) (defBody s_unclear) (defScope s_unclear) .none kV_unclear dc_unclear pm_unclear an_unclear cd_unclear ct_unclear), sl_unclear⟩) (c_unclear : PySem.W.codeIn K cd_unclear "unclear" = true) (k_unclear : PySem.W.keepIn K (.ref f_unclear) = true)
    (a_is_clear : PySem.W.nsIn K mainGlobals "is_clear" = some (some (.ref f_is_clear))) (l_is_clear : K.lookup f_is_clear = some ⟨oc_is_clear, od_is_clear, .func (PySem.W.fnOf "is_clear" "is_clear" (defArgs s_is_clear) (defBody s_is_clear) (defScope s_is_clear) .none kV_is_clear dc_is_clear pm_is_clear an_is_clear cd_is_clear ct_is_clear), sl_is_clear⟩) (c_is_clear : PySem.W.codeIn K cd_is_clear "is_clear" = true) (k_is_clear : PySem.W.keepIn K (.ref f_is_clear) = true)
    (a_find_shortest : PySem.W.nsIn K mainGlobals "find_shortest" = some (some (.ref f_find_shortest))) (l_find_shortest : K.lookup f_find_shortest = some ⟨oc_find_shortest, od_find_shortest, .func (PySem.W.fnOf "find_shortest" "find_shortest" (defArgs s_find_shortest) (defBody s_find_shortest) (defScope s_find_shortest) .none kV_find_shortest dc_find_shortest pm_find_shortest an_find_shortest cd_find_shortest ct_find_shortest), sl_find_shortest⟩) (c_find_shortest : PySem.W.codeIn K cd_find_shortest "find_shortest" = true) (k_find_shortest : PySem.W.keepIn K (.ref f_find_shortest) = true)
    (a_shortest_with : PySem.W.nsIn K mainGlobals "shortest_with" = some (some (.ref f_shortest_with))) (l_shortest_with : K.lookup f_shortest_with = some ⟨oc_shortest_with, od_shortest_with, .func (PySem.W.fnOf "shortest_with" "shortest_with" (defArgs s_shortest_with) (defBody s_shortest_with) (defScope s_shortest_with) .none kV_shortest_with dc_shortest_with pm_shortest_with an_shortest_with cd_shortest_with ct_shortest_with), sl_shortest_with⟩) (c_shortest_with : PySem.W.codeIn K cd_shortest_with "shortest_with" = true) (k_shortest_with : PySem.W.keepIn K (.ref f_shortest_with) = true)
    (a_witnesses : PySem.W.nsIn K mainGlobals "witnesses" = some (some (.ref f_witnesses))) (l_witnesses : K.lookup f_witnesses = some ⟨oc_witnesses, od_witnesses, .func (PySem.W.fnOf "witnesses" "witnesses" (defArgs s_witnesses) (defBody s_witnesses) (defScope s_witnesses) .none kV_witnesses dc_witnesses pm_witnesses an_witnesses cd_witnesses ct_witnesses), sl_witnesses⟩) (c_witnesses : PySem.W.codeIn K cd_witnesses "witnesses" = true) (k_witnesses : PySem.W.keepIn K (.ref f_witnesses) = true)
    (a_farthest : PySem.W.nsIn K mainGlobals "farthest" = some (some (.ref f_farthest))) (l_farthest : K.lookup f_farthest = some ⟨oc_farthest, od_farthest, .func (PySem.W.fnOf "farthest" "farthest" (defArgs s_farthest) (defBody s_farthest) (defScope s_farthest) .none kV_farthest dc_farthest pm_farthest an_farthest cd_farthest ct_farthest), sl_farthest⟩) (c_farthest : PySem.W.codeIn K cd_farthest "farthest" = true) (k_farthest : PySem.W.keepIn K (.ref f_farthest) = true)
    (a_l_class : PySem.W.nsIn K mainGlobals "_law_class" = some (some (.ref f_l_class))) (l_l_class : K.lookup f_l_class = some ⟨oc_l_class, od_l_class, .func (PySem.W.fnOf "_law_class" "_law_class" (defArgs s_l_class) (defBody s_l_class) (defScope s_l_class) .none kV_l_class dc_l_class pm_l_class an_l_class cd_l_class ct_l_class), sl_l_class⟩) (c_l_class : PySem.W.codeIn K cd_l_class "_law_class" = true) (k_l_class : PySem.W.keepIn K (.ref f_l_class) = true)
    (a_l_result : PySem.W.nsIn K mainGlobals "_law_result" = some (some (.ref f_l_result))) (l_l_result : K.lookup f_l_result = some ⟨oc_l_result, od_l_result, .func (PySem.W.fnOf "_law_result" "_law_result" (defArgs s_l_result) (defBody s_l_result) (defScope s_l_result) .none kV_l_result dc_l_result pm_l_result an_l_result cd_l_result ct_l_result), sl_l_result⟩) (c_l_result : PySem.W.codeIn K cd_l_result "_law_result" = true) (k_l_result : PySem.W.keepIn K (.ref f_l_result) = true)
    (a_l_all : PySem.W.nsIn K mainGlobals "_law_all" = some (some (.ref f_l_all))) (l_l_all : K.lookup f_l_all = some ⟨oc_l_all, od_l_all, .func (PySem.W.fnOf "_law_all" "_law_all" (defArgs s_l_all) (defBody s_l_all) (defScope s_l_all) .none kV_l_all dc_l_all pm_l_all an_l_all cd_l_all ct_l_all), sl_l_all⟩) (c_l_all : PySem.W.codeIn K cd_l_all "_law_all" = true) (k_l_all : PySem.W.keepIn K (.ref f_l_all) = true)
    (a_l_pick : PySem.W.nsIn K mainGlobals "_law_pick" = some (some (.ref f_l_pick))) (l_l_pick : K.lookup f_l_pick = some ⟨oc_l_pick, od_l_pick, .func (PySem.W.fnOf "_law_pick" "_law_pick" (defArgs s_l_pick) (defBody s_l_pick) (defScope s_l_pick) .none kV_l_pick dc_l_pick pm_l_pick an_l_pick cd_l_pick ct_l_pick), sl_l_pick⟩) (c_l_pick : PySem.W.codeIn K cd_l_pick "_law_pick" = true) (k_l_pick : PySem.W.keepIn K (.ref f_l_pick) = true)
    (a_l_map : PySem.W.nsIn K mainGlobals "_law_map" = some (some (.ref f_l_map))) (l_l_map : K.lookup f_l_map = some ⟨oc_l_map, od_l_map, .func (PySem.W.fnOf "_law_map" "_law_map" (defArgs s_l_map) (defBody s_l_map) (defScope s_l_map) .none kV_l_map dc_l_map pm_l_map an_l_map cd_l_map ct_l_map), sl_l_map⟩) (c_l_map : PySem.W.codeIn K cd_l_map "_law_map" = true) (k_l_map : PySem.W.keepIn K (.ref f_l_map) = true)
    (a_l_nets : PySem.W.nsIn K mainGlobals "_law_nets" = some (some (.ref f_l_nets))) (l_l_nets : K.lookup f_l_nets = some ⟨oc_l_nets, od_l_nets, .func (PySem.W.fnOf "_law_nets" "_law_nets" (defArgs s_l_nets) (defBody s_l_nets) (defScope s_l_nets) .none kV_l_nets dc_l_nets pm_l_nets an_l_nets (.ref ca_l_nets) ct_l_nets), sl_l_nets⟩) (c_l_nets : PySem.W.codeIn K (.ref ca_l_nets) "_law_nets" = true) (k_l_nets : PySem.W.keepIn K (.ref f_l_nets) = true)
    (rc_l_nets : RR "_law_nets") (lc_l_nets : K.lookup ca_l_nets = some ⟨eo_l_nets, do_l_nets, .fields vs_l_nets, so_l_nets⟩) (v11_l_nets : vs_l_nets[11]? = some (.ref ta_l_nets)) (nk_l_nets : K.lookup ta_l_nets = none)
    (a_l_numbered : PySem.W.nsIn K mainGlobals "_law_numbered" = some (some (.ref f_l_numbered))) (l_l_numbered : K.lookup f_l_numbered = some ⟨oc_l_numbered, od_l_numbered, .func (PySem.W.fnOf "_law_numbered" "_law_numbered" (defArgs s_l_numbered) (defBody s_l_numbered) (defScope s_l_numbered) .none kV_l_numbered dc_l_numbered pm_l_numbered an_l_numbered (.ref ca_l_numbered) ct_l_numbered), sl_l_numbered⟩) (c_l_numbered : PySem.W.codeIn K (.ref ca_l_numbered) "_law_numbered" = true) (k_l_numbered : PySem.W.keepIn K (.ref f_l_numbered) = true)
    (rc_l_numbered : RR "_law_numbered") (lc_l_numbered : K.lookup ca_l_numbered = some ⟨eo_l_numbered, do_l_numbered, .fields vs_l_numbered, so_l_numbered⟩) (v11_l_numbered : vs_l_numbered[11]? = some (.ref ta_l_numbered)) (nk_l_numbered : K.lookup ta_l_numbered = none)
    (a_l_placed : PySem.W.nsIn K mainGlobals "_law_placed" = some (some (.ref f_l_placed))) (l_l_placed : K.lookup f_l_placed = some ⟨oc_l_placed, od_l_placed, .func (PySem.W.fnOf "_law_placed" "_law_placed" (defArgs s_l_placed) (defBody s_l_placed) (defScope s_l_placed) .none kV_l_placed dc_l_placed pm_l_placed an_l_placed (.ref ca_l_placed) ct_l_placed), sl_l_placed⟩) (c_l_placed : PySem.W.codeIn K (.ref ca_l_placed) "_law_placed" = true) (k_l_placed : PySem.W.keepIn K (.ref f_l_placed) = true)
    (rc_l_placed : RR "_law_placed") (lc_l_placed : K.lookup ca_l_placed = some ⟨eo_l_placed, do_l_placed, .fields vs_l_placed, so_l_placed⟩) (v11_l_placed : vs_l_placed[11]? = some (.ref ta_l_placed)) (nk_l_placed : K.lookup ta_l_placed = none)
    (a_law : PySem.W.nsIn K mainGlobals "law" = some (some (.ref f_law))) (l_law : K.lookup f_law = some ⟨oc_law, od_law, .func (PySem.W.fnOf "law" "law" (defArgs s_law) (defBody s_law) (defScope s_law) .none kV_law dc_law pm_law an_law (.ref ca_law) ct_law), sl_law⟩) (c_law : PySem.W.codeIn K (.ref ca_law) "law" = true) (k_law : PySem.W.keepIn K (.ref f_law) = true)
    (rc_law : RR "law") (lc_law : K.lookup ca_law = some ⟨eo_law, do_law, .fields vs_law, so_law⟩) (v11_law : vs_law[11]? = some (.ref ta_law)) (nk_law : K.lookup ta_law = none)
    (tn_l_nets_l_numbered : ta_l_nets ≠ ta_l_numbered)
    (tn_l_nets_l_placed : ta_l_nets ≠ ta_l_placed)
    (tn_l_nets_law : ta_l_nets ≠ ta_law)
    (tn_l_numbered_l_placed : ta_l_numbered ≠ ta_l_placed)
    (tn_l_numbered_law : ta_l_numbered ≠ ta_law)
    (tn_l_placed_law : ta_l_placed ≠ ta_law)
    (z_ValueError : PySem.W.nsIn K mainGlobals "ValueError" = some none)
    (z_all : PySem.W.nsIn K mainGlobals "all" = some none)
    (z_bool : PySem.W.nsIn K mainGlobals "bool" = some none)
    (z_enumerate : PySem.W.nsIn K mainGlobals "enumerate" = some none)
    (z_int : PySem.W.nsIn K mainGlobals "int" = some none)
    (z_isinstance : PySem.W.nsIn K mainGlobals "isinstance" = some none)
    (z_len : PySem.W.nsIn K mainGlobals "len" = some none)
    (z_max : PySem.W.nsIn K mainGlobals "max" = some none)
    (z_min : PySem.W.nsIn K mainGlobals "min" = some none)
    (z_range : PySem.W.nsIn K mainGlobals "range" = some none)
    (z_set : PySem.W.nsIn K mainGlobals "set" = some none)
    (z_sorted : PySem.W.nsIn K mainGlobals "sorted" = some none)
    (z_tuple : PySem.W.nsIn K mainGlobals "tuple" = some none)
    (z_zip : PySem.W.nsIn K mainGlobals "zip" = some none)
    (q_MAX_JUNCTION : PySem.W.nsIn K mainGlobals "MAX_JUNCTION" = some (some (.int 5 u_MAX_JUNCTION)))
    (q_MAX_LIMIT : PySem.W.nsIn K mainGlobals "MAX_LIMIT" = some (some (.int 13 u_MAX_LIMIT)))
    (q_MAX_ROADS : PySem.W.nsIn K mainGlobals "MAX_ROADS" = some (some (.int 8 u_MAX_ROADS)))
    (q_MAX_SIGNS : PySem.W.nsIn K mainGlobals "MAX_SIGNS" = some (some (.int 3 u_MAX_SIGNS)))
    (q_MAX_WAY : PySem.W.nsIn K mainGlobals "MAX_WAY" = some (some (.int 20 u_MAX_WAY)))
    (q_MIN_FAST : PySem.W.nsIn K mainGlobals "MIN_FAST" = some (some (.int 5 u_MIN_FAST)))
    (g_InvalidIndex : PySem.W.nsIn K mainGlobals "InvalidIndex" = some (some (.ref C_InvalidIndex))) (x_InvalidIndex : PySem.W.excIn K C_InvalidIndex [.type "ValueError", .type "Exception", .type "BaseException", .type "object"] "ValueError.__new__" = true) (kc_InvalidIndex : PySem.W.keepIn K (.ref C_InvalidIndex) = true) (sb_InvalidIndex : PySem.W.subIn K (.ref C_InvalidIndex) (.type "BaseException") = some true) (ty_InvalidIndex : PySem.W.typeIn K (.ref C_InvalidIndex) = some (.type "type"))
    (g_InvalidLimit : PySem.W.nsIn K mainGlobals "InvalidLimit" = some (some (.ref C_InvalidLimit))) (x_InvalidLimit : PySem.W.excIn K C_InvalidLimit [.type "ValueError", .type "Exception", .type "BaseException", .type "object"] "ValueError.__new__" = true) (kc_InvalidLimit : PySem.W.keepIn K (.ref C_InvalidLimit) = true) (sb_InvalidLimit : PySem.W.subIn K (.ref C_InvalidLimit) (.type "BaseException") = some true) (ty_InvalidLimit : PySem.W.typeIn K (.ref C_InvalidLimit) = some (.type "type"))
    (g_InvalidNet : PySem.W.nsIn K mainGlobals "InvalidNet" = some (some (.ref C_InvalidNet))) (x_InvalidNet : PySem.W.excIn K C_InvalidNet [.type "ValueError", .type "Exception", .type "BaseException", .type "object"] "ValueError.__new__" = true) (kc_InvalidNet : PySem.W.keepIn K (.ref C_InvalidNet) = true) (sb_InvalidNet : PySem.W.subIn K (.ref C_InvalidNet) (.type "BaseException") = some true) (ty_InvalidNet : PySem.W.typeIn K (.ref C_InvalidNet) = some (.type "type"))
    (g_InvalidPiece : PySem.W.nsIn K mainGlobals "InvalidPiece" = some (some (.ref C_InvalidPiece))) (x_InvalidPiece : PySem.W.excIn K C_InvalidPiece [.type "ValueError", .type "Exception", .type "BaseException", .type "object"] "ValueError.__new__" = true) (kc_InvalidPiece : PySem.W.keepIn K (.ref C_InvalidPiece) = true) (sb_InvalidPiece : PySem.W.subIn K (.ref C_InvalidPiece) (.type "BaseException") = some true) (ty_InvalidPiece : PySem.W.typeIn K (.ref C_InvalidPiece) = some (.type "type"))
    (g_InvalidRoad : PySem.W.nsIn K mainGlobals "InvalidRoad" = some (some (.ref C_InvalidRoad))) (x_InvalidRoad : PySem.W.excIn K C_InvalidRoad [.type "ValueError", .type "Exception", .type "BaseException", .type "object"] "ValueError.__new__" = true) (kc_InvalidRoad : PySem.W.keepIn K (.ref C_InvalidRoad) = true) (sb_InvalidRoad : PySem.W.subIn K (.ref C_InvalidRoad) (.type "BaseException") = some true) (ty_InvalidRoad : PySem.W.typeIn K (.ref C_InvalidRoad) = some (.type "type"))
    (g_InvalidSign : PySem.W.nsIn K mainGlobals "InvalidSign" = some (some (.ref C_InvalidSign))) (x_InvalidSign : PySem.W.excIn K C_InvalidSign [.type "ValueError", .type "Exception", .type "BaseException", .type "object"] "ValueError.__new__" = true) (kc_InvalidSign : PySem.W.keepIn K (.ref C_InvalidSign) = true) (sb_InvalidSign : PySem.W.subIn K (.ref C_InvalidSign) (.type "BaseException") = some true) (ty_InvalidSign : PySem.W.typeIn K (.ref C_InvalidSign) = some (.type "type"))
    (g_InvalidWay : PySem.W.nsIn K mainGlobals "InvalidWay" = some (some (.ref C_InvalidWay))) (x_InvalidWay : PySem.W.excIn K C_InvalidWay [.type "ValueError", .type "Exception", .type "BaseException", .type "object"] "ValueError.__new__" = true) (kc_InvalidWay : PySem.W.keepIn K (.ref C_InvalidWay) = true) (sb_InvalidWay : PySem.W.subIn K (.ref C_InvalidWay) (.type "BaseException") = some true) (ty_InvalidWay : PySem.W.typeIn K (.ref C_InvalidWay) = some (.type "type"))
    (g_OtherShape : PySem.W.nsIn K mainGlobals "OtherShape" = some (some (.ref C_OtherShape))) (x_OtherShape : PySem.W.excIn K C_OtherShape [.type "ValueError", .type "Exception", .type "BaseException", .type "object"] "ValueError.__new__" = true) (kc_OtherShape : PySem.W.keepIn K (.ref C_OtherShape) = true) (sb_OtherShape : PySem.W.subIn K (.ref C_OtherShape) (.type "BaseException") = some true) (ty_OtherShape : PySem.W.typeIn K (.ref C_OtherShape) = some (.type "type"))
    (g_TooMany : PySem.W.nsIn K mainGlobals "TooMany" = some (some (.ref C_TooMany))) (x_TooMany : PySem.W.excIn K C_TooMany [.type "ValueError", .type "Exception", .type "BaseException", .type "object"] "ValueError.__new__" = true) (kc_TooMany : PySem.W.keepIn K (.ref C_TooMany) = true) (sb_TooMany : PySem.W.subIn K (.ref C_TooMany) (.type "BaseException") = some true) (ty_TooMany : PySem.W.typeIn K (.ref C_TooMany) = some (.type "type"))
    (g_LimitError : PySem.W.nsIn K mainGlobals "LimitError" = some (some (.ref C_LimitError)))
    (hd_InvalidIndex : PySem.W.hasDictIn K C_InvalidIndex = true)
    (su_InvalidIndex_InvalidLimit : PySem.W.subIn K (.ref C_InvalidLimit) (.ref C_InvalidIndex) = some false)
    (ne_InvalidIndex_InvalidLimit : C_InvalidLimit ≠ C_InvalidIndex)
    (su_InvalidIndex_InvalidNet : PySem.W.subIn K (.ref C_InvalidNet) (.ref C_InvalidIndex) = some false)
    (ne_InvalidIndex_InvalidNet : C_InvalidNet ≠ C_InvalidIndex)
    (su_InvalidIndex_InvalidPiece : PySem.W.subIn K (.ref C_InvalidPiece) (.ref C_InvalidIndex) = some false)
    (ne_InvalidIndex_InvalidPiece : C_InvalidPiece ≠ C_InvalidIndex)
    (su_InvalidIndex_InvalidRoad : PySem.W.subIn K (.ref C_InvalidRoad) (.ref C_InvalidIndex) = some false)
    (ne_InvalidIndex_InvalidRoad : C_InvalidRoad ≠ C_InvalidIndex)
    (su_InvalidIndex_InvalidSign : PySem.W.subIn K (.ref C_InvalidSign) (.ref C_InvalidIndex) = some false)
    (ne_InvalidIndex_InvalidSign : C_InvalidSign ≠ C_InvalidIndex)
    (su_InvalidIndex_InvalidWay : PySem.W.subIn K (.ref C_InvalidWay) (.ref C_InvalidIndex) = some false)
    (ne_InvalidIndex_InvalidWay : C_InvalidWay ≠ C_InvalidIndex)
    (su_InvalidIndex_OtherShape : PySem.W.subIn K (.ref C_OtherShape) (.ref C_InvalidIndex) = some false)
    (ne_InvalidIndex_OtherShape : C_OtherShape ≠ C_InvalidIndex)
    (su_InvalidIndex_TooMany : PySem.W.subIn K (.ref C_TooMany) (.ref C_InvalidIndex) = some false)
    (ne_InvalidIndex_TooMany : C_TooMany ≠ C_InvalidIndex)
    (hd_InvalidLimit : PySem.W.hasDictIn K C_InvalidLimit = true)
    (su_InvalidLimit_InvalidIndex : PySem.W.subIn K (.ref C_InvalidIndex) (.ref C_InvalidLimit) = some false)
    (ne_InvalidLimit_InvalidIndex : C_InvalidIndex ≠ C_InvalidLimit)
    (su_InvalidLimit_InvalidNet : PySem.W.subIn K (.ref C_InvalidNet) (.ref C_InvalidLimit) = some false)
    (ne_InvalidLimit_InvalidNet : C_InvalidNet ≠ C_InvalidLimit)
    (su_InvalidLimit_InvalidPiece : PySem.W.subIn K (.ref C_InvalidPiece) (.ref C_InvalidLimit) = some false)
    (ne_InvalidLimit_InvalidPiece : C_InvalidPiece ≠ C_InvalidLimit)
    (su_InvalidLimit_InvalidRoad : PySem.W.subIn K (.ref C_InvalidRoad) (.ref C_InvalidLimit) = some false)
    (ne_InvalidLimit_InvalidRoad : C_InvalidRoad ≠ C_InvalidLimit)
    (su_InvalidLimit_InvalidSign : PySem.W.subIn K (.ref C_InvalidSign) (.ref C_InvalidLimit) = some false)
    (ne_InvalidLimit_InvalidSign : C_InvalidSign ≠ C_InvalidLimit)
    (su_InvalidLimit_InvalidWay : PySem.W.subIn K (.ref C_InvalidWay) (.ref C_InvalidLimit) = some false)
    (ne_InvalidLimit_InvalidWay : C_InvalidWay ≠ C_InvalidLimit)
    (su_InvalidLimit_OtherShape : PySem.W.subIn K (.ref C_OtherShape) (.ref C_InvalidLimit) = some false)
    (ne_InvalidLimit_OtherShape : C_OtherShape ≠ C_InvalidLimit)
    (su_InvalidLimit_TooMany : PySem.W.subIn K (.ref C_TooMany) (.ref C_InvalidLimit) = some false)
    (ne_InvalidLimit_TooMany : C_TooMany ≠ C_InvalidLimit)
    (hd_InvalidNet : PySem.W.hasDictIn K C_InvalidNet = true)
    (su_InvalidNet_InvalidIndex : PySem.W.subIn K (.ref C_InvalidIndex) (.ref C_InvalidNet) = some false)
    (ne_InvalidNet_InvalidIndex : C_InvalidIndex ≠ C_InvalidNet)
    (su_InvalidNet_InvalidLimit : PySem.W.subIn K (.ref C_InvalidLimit) (.ref C_InvalidNet) = some false)
    (ne_InvalidNet_InvalidLimit : C_InvalidLimit ≠ C_InvalidNet)
    (su_InvalidNet_InvalidPiece : PySem.W.subIn K (.ref C_InvalidPiece) (.ref C_InvalidNet) = some false)
    (ne_InvalidNet_InvalidPiece : C_InvalidPiece ≠ C_InvalidNet)
    (su_InvalidNet_InvalidRoad : PySem.W.subIn K (.ref C_InvalidRoad) (.ref C_InvalidNet) = some false)
    (ne_InvalidNet_InvalidRoad : C_InvalidRoad ≠ C_InvalidNet)
    (su_InvalidNet_InvalidSign : PySem.W.subIn K (.ref C_InvalidSign) (.ref C_InvalidNet) = some false)
    (ne_InvalidNet_InvalidSign : C_InvalidSign ≠ C_InvalidNet)
    (su_InvalidNet_InvalidWay : PySem.W.subIn K (.ref C_InvalidWay) (.ref C_InvalidNet) = some false)
    (ne_InvalidNet_InvalidWay : C_InvalidWay ≠ C_InvalidNet)
    (su_InvalidNet_OtherShape : PySem.W.subIn K (.ref C_OtherShape) (.ref C_InvalidNet) = some false)
    (ne_InvalidNet_OtherShape : C_OtherShape ≠ C_InvalidNet)
    (su_InvalidNet_TooMany : PySem.W.subIn K (.ref C_TooMany) (.ref C_InvalidNet) = some false)
    (ne_InvalidNet_TooMany : C_TooMany ≠ C_InvalidNet)
    (hd_InvalidPiece : PySem.W.hasDictIn K C_InvalidPiece = true)
    (su_InvalidPiece_InvalidIndex : PySem.W.subIn K (.ref C_InvalidIndex) (.ref C_InvalidPiece) = some false)
    (ne_InvalidPiece_InvalidIndex : C_InvalidIndex ≠ C_InvalidPiece)
    (su_InvalidPiece_InvalidLimit : PySem.W.subIn K (.ref C_InvalidLimit) (.ref C_InvalidPiece) = some false)
    (ne_InvalidPiece_InvalidLimit : C_InvalidLimit ≠ C_InvalidPiece)
    (su_InvalidPiece_InvalidNet : PySem.W.subIn K (.ref C_InvalidNet) (.ref C_InvalidPiece) = some false)
    (ne_InvalidPiece_InvalidNet : C_InvalidNet ≠ C_InvalidPiece)
    (su_InvalidPiece_InvalidRoad : PySem.W.subIn K (.ref C_InvalidRoad) (.ref C_InvalidPiece) = some false)
    (ne_InvalidPiece_InvalidRoad : C_InvalidRoad ≠ C_InvalidPiece)
    (su_InvalidPiece_InvalidSign : PySem.W.subIn K (.ref C_InvalidSign) (.ref C_InvalidPiece) = some false)
    (ne_InvalidPiece_InvalidSign : C_InvalidSign ≠ C_InvalidPiece)
    (su_InvalidPiece_InvalidWay : PySem.W.subIn K (.ref C_InvalidWay) (.ref C_InvalidPiece) = some false)
    (ne_InvalidPiece_InvalidWay : C_InvalidWay ≠ C_InvalidPiece)
    (su_InvalidPiece_OtherShape : PySem.W.subIn K (.ref C_OtherShape) (.ref C_InvalidPiece) = some false)
    (ne_InvalidPiece_OtherShape : C_OtherShape ≠ C_InvalidPiece)
    (su_InvalidPiece_TooMany : PySem.W.subIn K (.ref C_TooMany) (.ref C_InvalidPiece) = some false)
    (ne_InvalidPiece_TooMany : C_TooMany ≠ C_InvalidPiece)
    (hd_InvalidRoad : PySem.W.hasDictIn K C_InvalidRoad = true)
    (su_InvalidRoad_InvalidIndex : PySem.W.subIn K (.ref C_InvalidIndex) (.ref C_InvalidRoad) = some false)
    (ne_InvalidRoad_InvalidIndex : C_InvalidIndex ≠ C_InvalidRoad)
    (su_InvalidRoad_InvalidLimit : PySem.W.subIn K (.ref C_InvalidLimit) (.ref C_InvalidRoad) = some false)
    (ne_InvalidRoad_InvalidLimit : C_InvalidLimit ≠ C_InvalidRoad)
    (su_InvalidRoad_InvalidNet : PySem.W.subIn K (.ref C_InvalidNet) (.ref C_InvalidRoad) = some false)
    (ne_InvalidRoad_InvalidNet : C_InvalidNet ≠ C_InvalidRoad)
    (su_InvalidRoad_InvalidPiece : PySem.W.subIn K (.ref C_InvalidPiece) (.ref C_InvalidRoad) = some false)
    (ne_InvalidRoad_InvalidPiece : C_InvalidPiece ≠ C_InvalidRoad)
    (su_InvalidRoad_InvalidSign : PySem.W.subIn K (.ref C_InvalidSign) (.ref C_InvalidRoad) = some false)
    (ne_InvalidRoad_InvalidSign : C_InvalidSign ≠ C_InvalidRoad)
    (su_InvalidRoad_InvalidWay : PySem.W.subIn K (.ref C_InvalidWay) (.ref C_InvalidRoad) = some false)
    (ne_InvalidRoad_InvalidWay : C_InvalidWay ≠ C_InvalidRoad)
    (su_InvalidRoad_OtherShape : PySem.W.subIn K (.ref C_OtherShape) (.ref C_InvalidRoad) = some false)
    (ne_InvalidRoad_OtherShape : C_OtherShape ≠ C_InvalidRoad)
    (su_InvalidRoad_TooMany : PySem.W.subIn K (.ref C_TooMany) (.ref C_InvalidRoad) = some false)
    (ne_InvalidRoad_TooMany : C_TooMany ≠ C_InvalidRoad)
    (hd_InvalidSign : PySem.W.hasDictIn K C_InvalidSign = true)
    (su_InvalidSign_InvalidIndex : PySem.W.subIn K (.ref C_InvalidIndex) (.ref C_InvalidSign) = some false)
    (ne_InvalidSign_InvalidIndex : C_InvalidIndex ≠ C_InvalidSign)
    (su_InvalidSign_InvalidLimit : PySem.W.subIn K (.ref C_InvalidLimit) (.ref C_InvalidSign) = some false)
    (ne_InvalidSign_InvalidLimit : C_InvalidLimit ≠ C_InvalidSign)
    (su_InvalidSign_InvalidNet : PySem.W.subIn K (.ref C_InvalidNet) (.ref C_InvalidSign) = some false)
    (ne_InvalidSign_InvalidNet : C_InvalidNet ≠ C_InvalidSign)
    (su_InvalidSign_InvalidPiece : PySem.W.subIn K (.ref C_InvalidPiece) (.ref C_InvalidSign) = some false)
    (ne_InvalidSign_InvalidPiece : C_InvalidPiece ≠ C_InvalidSign)
    (su_InvalidSign_InvalidRoad : PySem.W.subIn K (.ref C_InvalidRoad) (.ref C_InvalidSign) = some false)
    (ne_InvalidSign_InvalidRoad : C_InvalidRoad ≠ C_InvalidSign)
    (su_InvalidSign_InvalidWay : PySem.W.subIn K (.ref C_InvalidWay) (.ref C_InvalidSign) = some false)
    (ne_InvalidSign_InvalidWay : C_InvalidWay ≠ C_InvalidSign)
    (su_InvalidSign_OtherShape : PySem.W.subIn K (.ref C_OtherShape) (.ref C_InvalidSign) = some false)
    (ne_InvalidSign_OtherShape : C_OtherShape ≠ C_InvalidSign)
    (su_InvalidSign_TooMany : PySem.W.subIn K (.ref C_TooMany) (.ref C_InvalidSign) = some false)
    (ne_InvalidSign_TooMany : C_TooMany ≠ C_InvalidSign)
    (hd_InvalidWay : PySem.W.hasDictIn K C_InvalidWay = true)
    (su_InvalidWay_InvalidIndex : PySem.W.subIn K (.ref C_InvalidIndex) (.ref C_InvalidWay) = some false)
    (ne_InvalidWay_InvalidIndex : C_InvalidIndex ≠ C_InvalidWay)
    (su_InvalidWay_InvalidLimit : PySem.W.subIn K (.ref C_InvalidLimit) (.ref C_InvalidWay) = some false)
    (ne_InvalidWay_InvalidLimit : C_InvalidLimit ≠ C_InvalidWay)
    (su_InvalidWay_InvalidNet : PySem.W.subIn K (.ref C_InvalidNet) (.ref C_InvalidWay) = some false)
    (ne_InvalidWay_InvalidNet : C_InvalidNet ≠ C_InvalidWay)
    (su_InvalidWay_InvalidPiece : PySem.W.subIn K (.ref C_InvalidPiece) (.ref C_InvalidWay) = some false)
    (ne_InvalidWay_InvalidPiece : C_InvalidPiece ≠ C_InvalidWay)
    (su_InvalidWay_InvalidRoad : PySem.W.subIn K (.ref C_InvalidRoad) (.ref C_InvalidWay) = some false)
    (ne_InvalidWay_InvalidRoad : C_InvalidRoad ≠ C_InvalidWay)
    (su_InvalidWay_InvalidSign : PySem.W.subIn K (.ref C_InvalidSign) (.ref C_InvalidWay) = some false)
    (ne_InvalidWay_InvalidSign : C_InvalidSign ≠ C_InvalidWay)
    (su_InvalidWay_OtherShape : PySem.W.subIn K (.ref C_OtherShape) (.ref C_InvalidWay) = some false)
    (ne_InvalidWay_OtherShape : C_OtherShape ≠ C_InvalidWay)
    (su_InvalidWay_TooMany : PySem.W.subIn K (.ref C_TooMany) (.ref C_InvalidWay) = some false)
    (ne_InvalidWay_TooMany : C_TooMany ≠ C_InvalidWay)
    (hd_LimitError : PySem.W.hasDictIn K C_LimitError = true)
    (sb_LimitError : PySem.W.subIn K (.ref C_LimitError) (.type "BaseException") = some true) (ty_LimitError : PySem.W.typeIn K (.ref C_LimitError) = some (.type "type"))
    (su_LimitError_InvalidIndex : PySem.W.subIn K (.ref C_InvalidIndex) (.ref C_LimitError) = some true)
    (su_LimitError_InvalidLimit : PySem.W.subIn K (.ref C_InvalidLimit) (.ref C_LimitError) = some true)
    (su_LimitError_InvalidNet : PySem.W.subIn K (.ref C_InvalidNet) (.ref C_LimitError) = some true)
    (su_LimitError_InvalidPiece : PySem.W.subIn K (.ref C_InvalidPiece) (.ref C_LimitError) = some true)
    (su_LimitError_InvalidRoad : PySem.W.subIn K (.ref C_InvalidRoad) (.ref C_LimitError) = some true)
    (su_LimitError_InvalidSign : PySem.W.subIn K (.ref C_InvalidSign) (.ref C_LimitError) = some true)
    (su_LimitError_InvalidWay : PySem.W.subIn K (.ref C_InvalidWay) (.ref C_LimitError) = some true)
    (su_LimitError_OtherShape : PySem.W.subIn K (.ref C_OtherShape) (.ref C_LimitError) = some true)
    (su_LimitError_TooMany : PySem.W.subIn K (.ref C_TooMany) (.ref C_LimitError) = some true)
    (hd_OtherShape : PySem.W.hasDictIn K C_OtherShape = true)
    (su_OtherShape_InvalidIndex : PySem.W.subIn K (.ref C_InvalidIndex) (.ref C_OtherShape) = some false)
    (ne_OtherShape_InvalidIndex : C_InvalidIndex ≠ C_OtherShape)
    (su_OtherShape_InvalidLimit : PySem.W.subIn K (.ref C_InvalidLimit) (.ref C_OtherShape) = some false)
    (ne_OtherShape_InvalidLimit : C_InvalidLimit ≠ C_OtherShape)
    (su_OtherShape_InvalidNet : PySem.W.subIn K (.ref C_InvalidNet) (.ref C_OtherShape) = some false)
    (ne_OtherShape_InvalidNet : C_InvalidNet ≠ C_OtherShape)
    (su_OtherShape_InvalidPiece : PySem.W.subIn K (.ref C_InvalidPiece) (.ref C_OtherShape) = some false)
    (ne_OtherShape_InvalidPiece : C_InvalidPiece ≠ C_OtherShape)
    (su_OtherShape_InvalidRoad : PySem.W.subIn K (.ref C_InvalidRoad) (.ref C_OtherShape) = some false)
    (ne_OtherShape_InvalidRoad : C_InvalidRoad ≠ C_OtherShape)
    (su_OtherShape_InvalidSign : PySem.W.subIn K (.ref C_InvalidSign) (.ref C_OtherShape) = some false)
    (ne_OtherShape_InvalidSign : C_InvalidSign ≠ C_OtherShape)
    (su_OtherShape_InvalidWay : PySem.W.subIn K (.ref C_InvalidWay) (.ref C_OtherShape) = some false)
    (ne_OtherShape_InvalidWay : C_InvalidWay ≠ C_OtherShape)
    (su_OtherShape_TooMany : PySem.W.subIn K (.ref C_TooMany) (.ref C_OtherShape) = some false)
    (ne_OtherShape_TooMany : C_TooMany ≠ C_OtherShape)
    (hd_TooMany : PySem.W.hasDictIn K C_TooMany = true)
    (su_TooMany_InvalidIndex : PySem.W.subIn K (.ref C_InvalidIndex) (.ref C_TooMany) = some false)
    (ne_TooMany_InvalidIndex : C_InvalidIndex ≠ C_TooMany)
    (su_TooMany_InvalidLimit : PySem.W.subIn K (.ref C_InvalidLimit) (.ref C_TooMany) = some false)
    (ne_TooMany_InvalidLimit : C_InvalidLimit ≠ C_TooMany)
    (su_TooMany_InvalidNet : PySem.W.subIn K (.ref C_InvalidNet) (.ref C_TooMany) = some false)
    (ne_TooMany_InvalidNet : C_InvalidNet ≠ C_TooMany)
    (su_TooMany_InvalidPiece : PySem.W.subIn K (.ref C_InvalidPiece) (.ref C_TooMany) = some false)
    (ne_TooMany_InvalidPiece : C_InvalidPiece ≠ C_TooMany)
    (su_TooMany_InvalidRoad : PySem.W.subIn K (.ref C_InvalidRoad) (.ref C_TooMany) = some false)
    (ne_TooMany_InvalidRoad : C_InvalidRoad ≠ C_TooMany)
    (su_TooMany_InvalidSign : PySem.W.subIn K (.ref C_InvalidSign) (.ref C_TooMany) = some false)
    (ne_TooMany_InvalidSign : C_InvalidSign ≠ C_TooMany)
    (su_TooMany_InvalidWay : PySem.W.subIn K (.ref C_InvalidWay) (.ref C_TooMany) = some false)
    (ne_TooMany_InvalidWay : C_InvalidWay ≠ C_TooMany)
    (su_TooMany_OtherShape : PySem.W.subIn K (.ref C_OtherShape) (.ref C_TooMany) = some false)
    (ne_TooMany_OtherShape : C_OtherShape ≠ C_TooMany)
    (ec_InvalidIndex : ExcC K C_InvalidIndex)
    (ec_InvalidLimit : ExcC K C_InvalidLimit)
    (ec_InvalidNet : ExcC K C_InvalidNet)
    (ec_InvalidPiece : ExcC K C_InvalidPiece)
    (ec_InvalidRoad : ExcC K C_InvalidRoad)
    (ec_InvalidSign : ExcC K C_InvalidSign)
    (ec_InvalidWay : ExcC K C_InvalidWay)
    (ec_OtherShape : ExcC K C_OtherShape)
    (ec_TooMany : ExcC K C_TooMany)
    (kv_InvalidIndex : PySem.W.subIn K (.ref C_InvalidIndex) (.type "ValueError") = some true)
    (kv_InvalidLimit : PySem.W.subIn K (.ref C_InvalidLimit) (.type "ValueError") = some true)
    (kv_InvalidNet : PySem.W.subIn K (.ref C_InvalidNet) (.type "ValueError") = some true)
    (kv_InvalidPiece : PySem.W.subIn K (.ref C_InvalidPiece) (.type "ValueError") = some true)
    (kv_InvalidRoad : PySem.W.subIn K (.ref C_InvalidRoad) (.type "ValueError") = some true)
    (kv_InvalidSign : PySem.W.subIn K (.ref C_InvalidSign) (.type "ValueError") = some true)
    (kv_InvalidWay : PySem.W.subIn K (.ref C_InvalidWay) (.type "ValueError") = some true)
    (kv_OtherShape : PySem.W.subIn K (.ref C_OtherShape) (.type "ValueError") = some true)
    (kv_TooMany : PySem.W.subIn K (.ref C_TooMany) (.type "ValueError") = some true) :
    LamX.LawAtS PySem.Challenge.rw_limitsigns_k26_errors w K (L2.CX PySem.Challenge.rw_limitsigns_k26_errors.prog w) 13 63 "script" mg fa h := by
  have e := hfa.symm.trans (PySem.W.mg_of X G a_law)
  cases e
  let T : Fx K mg := {
    f_is_int := f_is_int
    fd_is_int := (PySem.W.fnOf "is_int" "is_int" (defArgs s_is_int) (defBody s_is_int) (defScope s_is_int) .none kV_is_int dc_is_int pm_is_int an_is_int cd_is_int ct_is_int)
    F_is_int := fun_mk (st := s_is_int) l_is_int c_is_int k_is_int
    b_is_int := (fun_mk (st := s_is_int) l_is_int c_is_int k_is_int).binds (ps := ["value", "least", "most"]) fun _ _ _ _ _ _ us hl => match us, hl with | [_, _, _], _ => rfl
    g_is_int := PySem.W.mg_of X G a_is_int
    f_are_signs := f_are_signs
    fd_are_signs := (PySem.W.fnOf "are_signs" "are_signs" (defArgs s_are_signs) (defBody s_are_signs) (defScope s_are_signs) .none kV_are_signs dc_are_signs pm_are_signs an_are_signs cd_are_signs ct_are_signs)
    F_are_signs := fun_mk (st := s_are_signs) l_are_signs c_are_signs k_are_signs
    b_are_signs := (fun_mk (st := s_are_signs) l_are_signs c_are_signs k_are_signs).binds (ps := ["value"]) fun _ _ _ _ _ _ us hl => match us, hl with | [_], _ => rfl
    g_are_signs := PySem.W.mg_of X G a_are_signs
    f_is_road := f_is_road
    fd_is_road := (PySem.W.fnOf "is_road" "is_road" (defArgs s_is_road) (defBody s_is_road) (defScope s_is_road) .none kV_is_road dc_is_road pm_is_road an_is_road cd_is_road ct_is_road)
    F_is_road := fun_mk (st := s_is_road) l_is_road c_is_road k_is_road
    b_is_road := (fun_mk (st := s_is_road) l_is_road c_is_road k_is_road).binds (ps := ["value"]) fun _ _ _ _ _ _ us hl => match us, hl with | [_], _ => rfl
    g_is_road := PySem.W.mg_of X G a_is_road
    f_is_net := f_is_net
    fd_is_net := (PySem.W.fnOf "is_net" "is_net" (defArgs s_is_net) (defBody s_is_net) (defScope s_is_net) .none kV_is_net dc_is_net pm_is_net an_is_net cd_is_net ct_is_net)
    F_is_net := fun_mk (st := s_is_net) l_is_net c_is_net k_is_net
    b_is_net := (fun_mk (st := s_is_net) l_is_net c_is_net k_is_net).binds (ps := ["candidate"]) fun _ _ _ _ _ _ us hl => match us, hl with | [_], _ => rfl
    g_is_net := PySem.W.mg_of X G a_is_net
    f_check_net := f_check_net
    fd_check_net := (PySem.W.fnOf "check_net" "check_net" (defArgs s_check_net) (defBody s_check_net) (defScope s_check_net) .none kV_check_net dc_check_net pm_check_net an_check_net cd_check_net ct_check_net)
    F_check_net := fun_mk (st := s_check_net) l_check_net c_check_net k_check_net
    b_check_net := (fun_mk (st := s_check_net) l_check_net c_check_net k_check_net).binds (ps := ["value"]) fun _ _ _ _ _ _ us hl => match us, hl with | [_], _ => rfl
    g_check_net := PySem.W.mg_of X G a_check_net
    f_check_road := f_check_road
    fd_check_road := (PySem.W.fnOf "check_road" "check_road" (defArgs s_check_road) (defBody s_check_road) (defScope s_check_road) .none kV_check_road dc_check_road pm_check_road an_check_road cd_check_road ct_check_road)
    F_check_road := fun_mk (st := s_check_road) l_check_road c_check_road k_check_road
    b_check_road := (fun_mk (st := s_check_road) l_check_road c_check_road k_check_road).binds (ps := ["net", "value"]) fun _ _ _ _ _ _ us hl => match us, hl with | [_, _], _ => rfl
    g_check_road := PySem.W.mg_of X G a_check_road
    f_has_way := f_has_way
    fd_has_way := (PySem.W.fnOf "has_way" "has_way" (defArgs s_has_way) (defBody s_has_way) (defScope s_has_way) .none kV_has_way dc_has_way pm_has_way an_has_way cd_has_way ct_has_way)
    F_has_way := fun_mk (st := s_has_way) l_has_way c_has_way k_has_way
    b_has_way := (fun_mk (st := s_has_way) l_has_way c_has_way k_has_way).binds (ps := ["net", "candidate"]) fun _ _ _ _ _ _ us hl => match us, hl with | [_, _], _ => rfl
    g_has_way := PySem.W.mg_of X G a_has_way
    f_is_way := f_is_way
    fd_is_way := (PySem.W.fnOf "is_way" "is_way" (defArgs s_is_way) (defBody s_is_way) (defScope s_is_way) .none kV_is_way dc_is_way pm_is_way an_is_way cd_is_way ct_is_way)
    F_is_way := fun_mk (st := s_is_way) l_is_way c_is_way k_is_way
    b_is_way := (fun_mk (st := s_is_way) l_is_way c_is_way k_is_way).binds (ps := ["net", "candidate"]) fun _ _ _ _ _ _ us hl => match us, hl with | [_, _], _ => rfl
    g_is_way := PySem.W.mg_of X G a_is_way
    f_find_followers := f_find_followers
    fd_find_followers := (PySem.W.fnOf "find_followers" "find_followers" (defArgs s_find_followers) (defBody s_find_followers) (defScope s_find_followers) .none kV_find_followers dc_find_followers pm_find_followers an_find_followers cd_find_followers ct_find_followers)
    F_find_followers := fun_mk (st := s_find_followers) l_find_followers c_find_followers k_find_followers
    b_find_followers := (fun_mk (st := s_find_followers) l_find_followers c_find_followers k_find_followers).binds (ps := ["net", "road"]) fun _ _ _ _ _ _ us hl => match us, hl with | [_, _], _ => rfl
    g_find_followers := PySem.W.mg_of X G a_find_followers
    f_followers := f_followers
    fd_followers := (PySem.W.fnOf "followers" "followers" (defArgs s_followers) (defBody s_followers) (defScope s_followers) .none kV_followers dc_followers pm_followers an_followers cd_followers ct_followers)
    F_followers := fun_mk (st := s_followers) l_followers c_followers k_followers
    b_followers := (fun_mk (st := s_followers) l_followers c_followers k_followers).binds (ps := ["net", "road"]) fun _ _ _ _ _ _ us hl => match us, hl with | [_, _], _ => rfl
    g_followers := PySem.W.mg_of X G a_followers
    f_find_standing := f_find_standing
    fd_find_standing := (PySem.W.fnOf "find_standing" "find_standing" (defArgs s_find_standing) (defBody s_find_standing) (defScope s_find_standing) .none kV_find_standing dc_find_standing pm_find_standing an_find_standing cd_find_standing ct_find_standing)
    F_find_standing := fun_mk (st := s_find_standing) l_find_standing c_find_standing k_find_standing
    b_find_standing := (fun_mk (st := s_find_standing) l_find_standing c_find_standing k_find_standing).binds (ps := ["net", "road"]) fun _ _ _ _ _ _ us hl => match us, hl with | [_, _], _ => rfl
    g_find_standing := PySem.W.mg_of X G a_find_standing
    f_standing := f_standing
    fd_standing := (PySem.W.fnOf "standing" "standing" (defArgs s_standing) (defBody s_standing) (defScope s_standing) .none kV_standing dc_standing pm_standing an_standing cd_standing ct_standing)
    F_standing := fun_mk (st := s_standing) l_standing c_standing k_standing
    b_standing := (fun_mk (st := s_standing) l_standing c_standing k_standing).binds (ps := ["net", "road"]) fun _ _ _ _ _ _ us hl => match us, hl with | [_, _], _ => rfl
    g_standing := PySem.W.mg_of X G a_standing
    f_count_pieces := f_count_pieces
    fd_count_pieces := (PySem.W.fnOf "count_pieces" "count_pieces" (defArgs s_count_pieces) (defBody s_count_pieces) (defScope s_count_pieces) .none kV_count_pieces dc_count_pieces pm_count_pieces an_count_pieces cd_count_pieces ct_count_pieces)
    F_count_pieces := fun_mk (st := s_count_pieces) l_count_pieces c_count_pieces k_count_pieces
    b_count_pieces := (fun_mk (st := s_count_pieces) l_count_pieces c_count_pieces k_count_pieces).binds (ps := ["net"]) fun _ _ _ _ _ _ us hl => match us, hl with | [_], _ => rfl
    g_count_pieces := PySem.W.mg_of X G a_count_pieces
    f_pieces := f_pieces
    fd_pieces := (PySem.W.fnOf "pieces" "pieces" (defArgs s_pieces) (defBody s_pieces) (defScope s_pieces) .none kV_pieces dc_pieces pm_pieces an_pieces cd_pieces ct_pieces)
    F_pieces := fun_mk (st := s_pieces) l_pieces c_pieces k_pieces
    b_pieces := (fun_mk (st := s_pieces) l_pieces c_pieces k_pieces).binds (ps := ["net", "road", "state"]) fun _ _ _ _ _ _ us hl => match us, hl with | [_, _, _], _ => rfl
    g_pieces := PySem.W.mg_of X G a_pieces
    f_leave := f_leave
    fd_leave := (PySem.W.fnOf "leave" "leave" (defArgs s_leave) (defBody s_leave) (defScope s_leave) .none kV_leave dc_leave pm_leave an_leave cd_leave ct_leave)
    F_leave := fun_mk (st := s_leave) l_leave c_leave k_leave
    b_leave := (fun_mk (st := s_leave) l_leave c_leave k_leave).binds (ps := ["net", "road", "state"]) fun _ _ _ _ _ _ us hl => match us, hl with | [_, _, _], _ => rfl
    g_leave := PySem.W.mg_of X G a_leave
    f_go_over := f_go_over
    fd_go_over := (PySem.W.fnOf "go_over" "go_over" (defArgs s_go_over) (defBody s_go_over) (defScope s_go_over) .none kV_go_over dc_go_over pm_go_over an_go_over cd_go_over ct_go_over)
    F_go_over := fun_mk (st := s_go_over) l_go_over c_go_over k_go_over
    b_go_over := (fun_mk (st := s_go_over) l_go_over c_go_over k_go_over).binds (ps := ["net", "state"]) fun _ _ _ _ _ _ us hl => match us, hl with | [_, _], _ => rfl
    g_go_over := PySem.W.mg_of X G a_go_over
    f_check_way := f_check_way
    fd_check_way := (PySem.W.fnOf "check_way" "check_way" (defArgs s_check_way) (defBody s_check_way) (defScope s_check_way) .none kV_check_way dc_check_way pm_check_way an_check_way cd_check_way ct_check_way)
    F_check_way := fun_mk (st := s_check_way) l_check_way c_check_way k_check_way
    b_check_way := (fun_mk (st := s_check_way) l_check_way c_check_way k_check_way).binds (ps := ["net", "way"]) fun _ _ _ _ _ _ us hl => match us, hl with | [_, _], _ => rfl
    g_check_way := PySem.W.mg_of X G a_check_way
    f_find_limits := f_find_limits
    fd_find_limits := (PySem.W.fnOf "find_limits" "find_limits" (defArgs s_find_limits) (defBody s_find_limits) (defScope s_find_limits) .none kV_find_limits dc_find_limits pm_find_limits an_find_limits cd_find_limits ct_find_limits)
    F_find_limits := fun_mk (st := s_find_limits) l_find_limits c_find_limits k_find_limits
    b_find_limits := (fun_mk (st := s_find_limits) l_find_limits c_find_limits k_find_limits).binds (ps := ["net", "way"]) fun _ _ _ _ _ _ us hl => match us, hl with | [_, _], _ => rfl
    g_find_limits := PySem.W.mg_of X G a_find_limits
    f_limits := f_limits
    fd_limits := (PySem.W.fnOf "limits" "limits" (defArgs s_limits) (defBody s_limits) (defScope s_limits) .none kV_limits dc_limits pm_limits an_limits cd_limits ct_limits)
    F_limits := fun_mk (st := s_limits) l_limits c_limits k_limits
    b_limits := (fun_mk (st := s_limits) l_limits c_limits k_limits).binds (ps := ["net", "way"]) fun _ _ _ _ _ _ us hl => match us, hl with | [_, _], _ => rfl
    g_limits := PySem.W.mg_of X G a_limits
    f_state_after := f_state_after
    fd_state_after := (PySem.W.fnOf "state_after" "state_after" (defArgs s_state_after) (defBody s_state_after) (defScope s_state_after) .none kV_state_after dc_state_after pm_state_after an_state_after cd_state_after ct_state_after)
    F_state_after := fun_mk (st := s_state_after) l_state_after c_state_after k_state_after
    b_state_after := (fun_mk (st := s_state_after) l_state_after c_state_after k_state_after).binds (ps := ["net", "way"]) fun _ _ _ _ _ _ us hl => match us, hl with | [_, _], _ => rfl
    g_state_after := PySem.W.mg_of X G a_state_after
    f_flat := f_flat
    fd_flat := (PySem.W.fnOf "flat" "flat" (defArgs s_flat) (defBody s_flat) (defScope s_flat) .none kV_flat dc_flat pm_flat an_flat cd_flat ct_flat)
    F_flat := fun_mk (st := s_flat) l_flat c_flat k_flat
    b_flat := (fun_mk (st := s_flat) l_flat c_flat k_flat).binds (ps := ["net", "way"]) fun _ _ _ _ _ _ us hl => match us, hl with | [_, _], _ => rfl
    g_flat := PySem.W.mg_of X G a_flat
    f_changes := f_changes
    fd_changes := (PySem.W.fnOf "changes" "changes" (defArgs s_changes) (defBody s_changes) (defScope s_changes) .none kV_changes dc_changes pm_changes an_changes cd_changes ct_changes)
    F_changes := fun_mk (st := s_changes) l_changes c_changes k_changes
    b_changes := (fun_mk (st := s_changes) l_changes c_changes k_changes).binds (ps := ["net", "way"]) fun _ _ _ _ _ _ us hl => match us, hl with | [_, _], _ => rfl
    g_changes := PySem.W.mg_of X G a_changes
    f_least_limit := f_least_limit
    fd_least_limit := (PySem.W.fnOf "least_limit" "least_limit" (defArgs s_least_limit) (defBody s_least_limit) (defScope s_least_limit) .none kV_least_limit dc_least_limit pm_least_limit an_least_limit cd_least_limit ct_least_limit)
    F_least_limit := fun_mk (st := s_least_limit) l_least_limit c_least_limit k_least_limit
    b_least_limit := (fun_mk (st := s_least_limit) l_least_limit c_least_limit k_least_limit).binds (ps := ["net", "way"]) fun _ _ _ _ _ _ us hl => match us, hl with | [_, _], _ => rfl
    g_least_limit := PySem.W.mg_of X G a_least_limit
    f_set_signs := f_set_signs
    fd_set_signs := (PySem.W.fnOf "set_signs" "set_signs" (defArgs s_set_signs) (defBody s_set_signs) (defScope s_set_signs) .none kV_set_signs dc_set_signs pm_set_signs an_set_signs cd_set_signs ct_set_signs)
    F_set_signs := fun_mk (st := s_set_signs) l_set_signs c_set_signs k_set_signs
    b_set_signs := (fun_mk (st := s_set_signs) l_set_signs c_set_signs k_set_signs).binds (ps := ["net", "road", "signs"]) fun _ _ _ _ _ _ us hl => match us, hl with | [_, _, _], _ => rfl
    g_set_signs := PySem.W.mg_of X G a_set_signs
    f_drop := f_drop
    fd_drop := (PySem.W.fnOf "drop" "drop" (defArgs s_drop) (defBody s_drop) (defScope s_drop) .none kV_drop dc_drop pm_drop an_drop cd_drop ct_drop)
    F_drop := fun_mk (st := s_drop) l_drop c_drop k_drop
    b_drop := (fun_mk (st := s_drop) l_drop c_drop k_drop).binds (ps := ["net", "road", "index"]) fun _ _ _ _ _ _ us hl => match us, hl with | [_, _, _], _ => rfl
    g_drop := PySem.W.mg_of X G a_drop
    f_without_sign := f_without_sign
    fd_without_sign := (PySem.W.fnOf "without_sign" "without_sign" (defArgs s_without_sign) (defBody s_without_sign) (defScope s_without_sign) .none kV_without_sign dc_without_sign pm_without_sign an_without_sign cd_without_sign ct_without_sign)
    F_without_sign := fun_mk (st := s_without_sign) l_without_sign c_without_sign k_without_sign
    b_without_sign := (fun_mk (st := s_without_sign) l_without_sign c_without_sign k_without_sign).binds (ps := ["net", "road", "index"]) fun _ _ _ _ _ _ us hl => match us, hl with | [_, _, _], _ => rfl
    g_without_sign := PySem.W.mg_of X G a_without_sign
    f_with_sign := f_with_sign
    fd_with_sign := (PySem.W.fnOf "with_sign" "with_sign" (defArgs s_with_sign) (defBody s_with_sign) (defScope s_with_sign) .none kV_with_sign dc_with_sign pm_with_sign an_with_sign cd_with_sign ct_with_sign)
    F_with_sign := fun_mk (st := s_with_sign) l_with_sign c_with_sign k_with_sign
    b_with_sign := (fun_mk (st := s_with_sign) l_with_sign c_with_sign k_with_sign).binds (ps := ["net", "road", "index", "sign"]) fun _ _ _ _ _ _ us hl => match us, hl with | [_, _, _, _], _ => rfl
    g_with_sign := PySem.W.mg_of X G a_with_sign
    f_pairs_of := f_pairs_of
    fd_pairs_of := (PySem.W.fnOf "pairs_of" "pairs_of" (defArgs s_pairs_of) (defBody s_pairs_of) (defScope s_pairs_of) .none kV_pairs_of dc_pairs_of pm_pairs_of an_pairs_of cd_pairs_of ct_pairs_of)
    F_pairs_of := fun_mk (st := s_pairs_of) l_pairs_of c_pairs_of k_pairs_of
    b_pairs_of := (fun_mk (st := s_pairs_of) l_pairs_of c_pairs_of k_pairs_of).binds (ps := ["one", "other"]) fun _ _ _ _ _ _ us hl => match us, hl with | [_, _], _ => rfl
    g_pairs_of := PySem.W.mg_of X G a_pairs_of
    f_does_nothing := f_does_nothing
    fd_does_nothing := (PySem.W.fnOf "does_nothing" "does_nothing" (defArgs s_does_nothing) (defBody s_does_nothing) (defScope s_does_nothing) .none kV_does_nothing dc_does_nothing pm_does_nothing an_does_nothing cd_does_nothing ct_does_nothing)
    F_does_nothing := fun_mk (st := s_does_nothing) l_does_nothing c_does_nothing k_does_nothing
    b_does_nothing := (fun_mk (st := s_does_nothing) l_does_nothing c_does_nothing k_does_nothing).binds (ps := ["net", "road", "index"]) fun _ _ _ _ _ _ us hl => match us, hl with | [_, _, _], _ => rfl
    g_does_nothing := PySem.W.mg_of X G a_does_nothing
    f_is_idle := f_is_idle
    fd_is_idle := (PySem.W.fnOf "is_idle" "is_idle" (defArgs s_is_idle) (defBody s_is_idle) (defScope s_is_idle) .none kV_is_idle dc_is_idle pm_is_idle an_is_idle cd_is_idle ct_is_idle)
    F_is_idle := fun_mk (st := s_is_idle) l_is_idle c_is_idle k_is_idle
    b_is_idle := (fun_mk (st := s_is_idle) l_is_idle c_is_idle k_is_idle).binds (ps := ["net", "road", "index"]) fun _ _ _ _ _ _ us hl => match us, hl with | [_, _, _], _ => rfl
    g_is_idle := PySem.W.mg_of X G a_is_idle
    f_find_idle := f_find_idle
    fd_find_idle := (PySem.W.fnOf "find_idle" "find_idle" (defArgs s_find_idle) (defBody s_find_idle) (defScope s_find_idle) .none kV_find_idle dc_find_idle pm_find_idle an_find_idle cd_find_idle ct_find_idle)
    F_find_idle := fun_mk (st := s_find_idle) l_find_idle c_find_idle k_find_idle
    b_find_idle := (fun_mk (st := s_find_idle) l_find_idle c_find_idle k_find_idle).binds (ps := ["net"]) fun _ _ _ _ _ _ us hl => match us, hl with | [_], _ => rfl
    g_find_idle := PySem.W.mg_of X G a_find_idle
    f_idle_signs := f_idle_signs
    fd_idle_signs := (PySem.W.fnOf "idle_signs" "idle_signs" (defArgs s_idle_signs) (defBody s_idle_signs) (defScope s_idle_signs) .none kV_idle_signs dc_idle_signs pm_idle_signs an_idle_signs cd_idle_signs ct_idle_signs)
    F_idle_signs := fun_mk (st := s_idle_signs) l_idle_signs c_idle_signs k_idle_signs
    b_idle_signs := (fun_mk (st := s_idle_signs) l_idle_signs c_idle_signs k_idle_signs).binds (ps := ["net"]) fun _ _ _ _ _ _ us hl => match us, hl with | [_], _ => rfl
    g_idle_signs := PySem.W.mg_of X G a_idle_signs
    f_shape := f_shape
    fd_shape := (PySem.W.fnOf "shape" "shape" (defArgs s_shape) (defBody s_shape) (defScope s_shape) .none kV_shape dc_shape pm_shape an_shape cd_shape ct_shape)
    F_shape := fun_mk (st := s_shape) l_shape c_shape k_shape
    b_shape := (fun_mk (st := s_shape) l_shape c_shape k_shape).binds (ps := ["net"]) fun _ _ _ _ _ _ us hl => match us, hl with | [_], _ => rfl
    g_shape := PySem.W.mg_of X G a_shape
    f_check_two := f_check_two
    fd_check_two := (PySem.W.fnOf "check_two" "check_two" (defArgs s_check_two) (defBody s_check_two) (defScope s_check_two) .none kV_check_two dc_check_two pm_check_two an_check_two cd_check_two ct_check_two)
    F_check_two := fun_mk (st := s_check_two) l_check_two c_check_two k_check_two
    b_check_two := (fun_mk (st := s_check_two) l_check_two c_check_two k_check_two).binds (ps := ["one", "other"]) fun _ _ _ _ _ _ us hl => match us, hl with | [_, _], _ => rfl
    g_check_two := PySem.W.mg_of X G a_check_two
    f_same_shape := f_same_shape
    fd_same_shape := (PySem.W.fnOf "same_shape" "same_shape" (defArgs s_same_shape) (defBody s_same_shape) (defScope s_same_shape) .none kV_same_shape dc_same_shape pm_same_shape an_same_shape cd_same_shape ct_same_shape)
    F_same_shape := fun_mk (st := s_same_shape) l_same_shape c_same_shape k_same_shape
    b_same_shape := (fun_mk (st := s_same_shape) l_same_shape c_same_shape k_same_shape).binds (ps := ["one", "other"]) fun _ _ _ _ _ _ us hl => match us, hl with | [_, _], _ => rfl
    g_same_shape := PySem.W.mg_of X G a_same_shape
    f_find_parting := f_find_parting
    fd_find_parting := (PySem.W.fnOf "find_parting" "find_parting" (defArgs s_find_parting) (defBody s_find_parting) (defScope s_find_parting) .none kV_find_parting dc_find_parting pm_find_parting an_find_parting cd_find_parting ct_find_parting)
    F_find_parting := fun_mk (st := s_find_parting) l_find_parting c_find_parting k_find_parting
    b_find_parting := (fun_mk (st := s_find_parting) l_find_parting c_find_parting k_find_parting).binds (ps := ["one", "other"]) fun _ _ _ _ _ _ us hl => match us, hl with | [_, _], _ => rfl
    g_find_parting := PySem.W.mg_of X G a_find_parting
    f_same_limits := f_same_limits
    fd_same_limits := (PySem.W.fnOf "same_limits" "same_limits" (defArgs s_same_limits) (defBody s_same_limits) (defScope s_same_limits) .none kV_same_limits dc_same_limits pm_same_limits an_same_limits cd_same_limits ct_same_limits)
    F_same_limits := fun_mk (st := s_same_limits) l_same_limits c_same_limits k_same_limits
    b_same_limits := (fun_mk (st := s_same_limits) l_same_limits c_same_limits k_same_limits).binds (ps := ["one", "other"]) fun _ _ _ _ _ _ us hl => match us, hl with | [_, _], _ => rfl
    g_same_limits := PySem.W.mg_of X G a_same_limits
    f_parting_way := f_parting_way
    fd_parting_way := (PySem.W.fnOf "parting_way" "parting_way" (defArgs s_parting_way) (defBody s_parting_way) (defScope s_parting_way) .none kV_parting_way dc_parting_way pm_parting_way an_parting_way cd_parting_way ct_parting_way)
    F_parting_way := fun_mk (st := s_parting_way) l_parting_way c_parting_way k_parting_way
    b_parting_way := (fun_mk (st := s_parting_way) l_parting_way c_parting_way k_parting_way).binds (ps := ["one", "other"]) fun _ _ _ _ _ _ us hl => match us, hl with | [_, _], _ => rfl
    g_parting_way := PySem.W.mg_of X G a_parting_way
    f_most_idle := f_most_idle
    fd_most_idle := (PySem.W.fnOf "most_idle" "most_idle" (defArgs s_most_idle) (defBody s_most_idle) (defScope s_most_idle) .none kV_most_idle dc_most_idle pm_most_idle an_most_idle cd_most_idle ct_most_idle)
    F_most_idle := fun_mk (st := s_most_idle) l_most_idle c_most_idle k_most_idle
    b_most_idle := (fun_mk (st := s_most_idle) l_most_idle c_most_idle k_most_idle).binds (ps := ["net"]) fun _ _ _ _ _ _ us hl => match us, hl with | [_], _ => rfl
    g_most_idle := PySem.W.mg_of X G a_most_idle
    f_find_places := f_find_places
    fd_find_places := (PySem.W.fnOf "find_places" "find_places" (defArgs s_find_places) (defBody s_find_places) (defScope s_find_places) .none kV_find_places dc_find_places pm_find_places an_find_places cd_find_places ct_find_places)
    F_find_places := fun_mk (st := s_find_places) l_find_places c_find_places k_find_places
    b_find_places := (fun_mk (st := s_find_places) l_find_places c_find_places k_find_places).binds (ps := ["net"]) fun _ _ _ _ _ _ us hl => match us, hl with | [_], _ => rfl
    g_find_places := PySem.W.mg_of X G a_find_places
    f_find_states := f_find_states
    fd_find_states := (PySem.W.fnOf "find_states" "find_states" (defArgs s_find_states) (defBody s_find_states) (defScope s_find_states) .none kV_find_states dc_find_states pm_find_states an_find_states cd_find_states ct_find_states)
    F_find_states := fun_mk (st := s_find_states) l_find_states c_find_states k_find_states
    b_find_states := (fun_mk (st := s_find_states) l_find_states c_find_states k_find_states).binds (ps := ["net", "road"]) fun _ _ _ _ _ _ us hl => match us, hl with | [_, _], _ => rfl
    g_find_states := PySem.W.mg_of X G a_find_states
    f_states_at := f_states_at
    fd_states_at := (PySem.W.fnOf "states_at" "states_at" (defArgs s_states_at) (defBody s_states_at) (defScope s_states_at) .none kV_states_at dc_states_at pm_states_at an_states_at cd_states_at ct_states_at)
    F_states_at := fun_mk (st := s_states_at) l_states_at c_states_at k_states_at
    b_states_at := (fun_mk (st := s_states_at) l_states_at c_states_at k_states_at).binds (ps := ["net", "road"]) fun _ _ _ _ _ _ us hl => match us, hl with | [_, _], _ => rfl
    g_states_at := PySem.W.mg_of X G a_states_at
    f_find_possible := f_find_possible
    fd_find_possible := (PySem.W.fnOf "find_possible" "find_possible" (defArgs s_find_possible) (defBody s_find_possible) (defScope s_find_possible) .none kV_find_possible dc_find_possible pm_find_possible an_find_possible cd_find_possible ct_find_possible)
    F_find_possible := fun_mk (st := s_find_possible) l_find_possible c_find_possible k_find_possible
    b_find_possible := (fun_mk (st := s_find_possible) l_find_possible c_find_possible k_find_possible).binds (ps := ["net", "road", "piece"]) fun _ _ _ _ _ _ us hl => match us, hl with | [_, _, _], _ => rfl
    g_find_possible := PySem.W.mg_of X G a_find_possible
    f_possible := f_possible
    fd_possible := (PySem.W.fnOf "possible" "possible" (defArgs s_possible) (defBody s_possible) (defScope s_possible) .none kV_possible dc_possible pm_possible an_possible cd_possible ct_possible)
    F_possible := fun_mk (st := s_possible) l_possible c_possible k_possible
    b_possible := (fun_mk (st := s_possible) l_possible c_possible k_possible).binds (ps := ["net", "road", "piece"]) fun _ _ _ _ _ _ us hl => match us, hl with | [_, _, _], _ => rfl
    g_possible := PySem.W.mg_of X G a_possible
    f_find_unclear := f_find_unclear
    fd_find_unclear := (PySem.W.fnOf "find_unclear" "find_unclear" (defArgs s_find_unclear) (defBody s_find_unclear) (defScope s_find_unclear) .none kV_find_unclear dc_find_unclear pm_find_unclear an_find_unclear cd_find_unclear ct_find_unclear)
    F_find_unclear := fun_mk (st := s_find_unclear) l_find_unclear c_find_unclear k_find_unclear
    b_find_unclear := (fun_mk (st := s_find_unclear) l_find_unclear c_find_unclear k_find_unclear).binds (ps := ["net"]) fun _ _ _ _ _ _ us hl => match us, hl with | [_], _ => rfl
    g_find_unclear := PySem.W.mg_of X G a_find_unclear
    f_unclear := f_unclear
    fd_unclear := (PySem.W.fnOf "unclear" "unclear" (defArgs s_unclear) (defBody s_unclear) (defScope s_unclear) .none kV_unclear dc_unclear pm_unclear an_unclear cd_unclear ct_unclear)
    F_unclear := fun_mk (st := s_unclear) l_unclear c_unclear k_unclear
    b_unclear := (fun_mk (st := s_unclear) l_unclear c_unclear k_unclear).binds (ps := ["net"]) fun _ _ _ _ _ _ us hl => match us, hl with | [_], _ => rfl
    g_unclear := PySem.W.mg_of X G a_unclear
    f_is_clear := f_is_clear
    fd_is_clear := (PySem.W.fnOf "is_clear" "is_clear" (defArgs s_is_clear) (defBody s_is_clear) (defScope s_is_clear) .none kV_is_clear dc_is_clear pm_is_clear an_is_clear cd_is_clear ct_is_clear)
    F_is_clear := fun_mk (st := s_is_clear) l_is_clear c_is_clear k_is_clear
    b_is_clear := (fun_mk (st := s_is_clear) l_is_clear c_is_clear k_is_clear).binds (ps := ["net"]) fun _ _ _ _ _ _ us hl => match us, hl with | [_], _ => rfl
    g_is_clear := PySem.W.mg_of X G a_is_clear
    f_find_shortest := f_find_shortest
    fd_find_shortest := (PySem.W.fnOf "find_shortest" "find_shortest" (defArgs s_find_shortest) (defBody s_find_shortest) (defScope s_find_shortest) .none kV_find_shortest dc_find_shortest pm_find_shortest an_find_shortest cd_find_shortest ct_find_shortest)
    F_find_shortest := fun_mk (st := s_find_shortest) l_find_shortest c_find_shortest k_find_shortest
    b_find_shortest := (fun_mk (st := s_find_shortest) l_find_shortest c_find_shortest k_find_shortest).binds (ps := ["net", "road", "limit"]) fun _ _ _ _ _ _ us hl => match us, hl with | [_, _, _], _ => rfl
    g_find_shortest := PySem.W.mg_of X G a_find_shortest
    f_shortest_with := f_shortest_with
    fd_shortest_with := (PySem.W.fnOf "shortest_with" "shortest_with" (defArgs s_shortest_with) (defBody s_shortest_with) (defScope s_shortest_with) .none kV_shortest_with dc_shortest_with pm_shortest_with an_shortest_with cd_shortest_with ct_shortest_with)
    F_shortest_with := fun_mk (st := s_shortest_with) l_shortest_with c_shortest_with k_shortest_with
    b_shortest_with := (fun_mk (st := s_shortest_with) l_shortest_with c_shortest_with k_shortest_with).binds (ps := ["net", "road", "limit"]) fun _ _ _ _ _ _ us hl => match us, hl with | [_, _, _], _ => rfl
    g_shortest_with := PySem.W.mg_of X G a_shortest_with
    f_witnesses := f_witnesses
    fd_witnesses := (PySem.W.fnOf "witnesses" "witnesses" (defArgs s_witnesses) (defBody s_witnesses) (defScope s_witnesses) .none kV_witnesses dc_witnesses pm_witnesses an_witnesses cd_witnesses ct_witnesses)
    F_witnesses := fun_mk (st := s_witnesses) l_witnesses c_witnesses k_witnesses
    b_witnesses := (fun_mk (st := s_witnesses) l_witnesses c_witnesses k_witnesses).binds (ps := ["net", "road"]) fun _ _ _ _ _ _ us hl => match us, hl with | [_, _], _ => rfl
    g_witnesses := PySem.W.mg_of X G a_witnesses
    f_farthest := f_farthest
    fd_farthest := (PySem.W.fnOf "farthest" "farthest" (defArgs s_farthest) (defBody s_farthest) (defScope s_farthest) .none kV_farthest dc_farthest pm_farthest an_farthest cd_farthest ct_farthest)
    F_farthest := fun_mk (st := s_farthest) l_farthest c_farthest k_farthest
    b_farthest := (fun_mk (st := s_farthest) l_farthest c_farthest k_farthest).binds (ps := ["net", "road"]) fun _ _ _ _ _ _ us hl => match us, hl with | [_, _], _ => rfl
    g_farthest := PySem.W.mg_of X G a_farthest
    f_l_class := f_l_class
    fd_l_class := (PySem.W.fnOf "_law_class" "_law_class" (defArgs s_l_class) (defBody s_l_class) (defScope s_l_class) .none kV_l_class dc_l_class pm_l_class an_l_class cd_l_class ct_l_class)
    F_l_class := fun_mk (st := s_l_class) l_l_class c_l_class k_l_class
    b_l_class := (fun_mk (st := s_l_class) l_l_class c_l_class k_l_class).binds (ps := ["error"]) fun _ _ _ _ _ _ us hl => match us, hl with | [_], _ => rfl
    g_l_class := PySem.W.mg_of X G a_l_class
    f_l_result := f_l_result
    fd_l_result := (PySem.W.fnOf "_law_result" "_law_result" (defArgs s_l_result) (defBody s_l_result) (defScope s_l_result) .none kV_l_result dc_l_result pm_l_result an_l_result cd_l_result ct_l_result)
    F_l_result := fun_mk (st := s_l_result) l_l_result c_l_result k_l_result
    b_l_result := (fun_mk (st := s_l_result) l_l_result c_l_result k_l_result).binds (ps := ["call"]) fun _ _ _ _ _ _ us hl => match us, hl with | [_], _ => rfl
    g_l_result := PySem.W.mg_of X G a_l_result
    f_l_all := f_l_all
    fd_l_all := (PySem.W.fnOf "_law_all" "_law_all" (defArgs s_l_all) (defBody s_l_all) (defScope s_l_all) .none kV_l_all dc_l_all pm_l_all an_l_all cd_l_all ct_l_all)
    F_l_all := fun_mk (st := s_l_all) l_l_all c_l_all k_l_all
    b_l_all := (fun_mk (st := s_l_all) l_l_all c_l_all k_l_all).binds (ps := ["calls", "name"]) fun _ _ _ _ _ _ us hl => match us, hl with | [_, _], _ => rfl
    g_l_all := PySem.W.mg_of X G a_l_all
    f_l_pick := f_l_pick
    fd_l_pick := (PySem.W.fnOf "_law_pick" "_law_pick" (defArgs s_l_pick) (defBody s_l_pick) (defScope s_l_pick) .none kV_l_pick dc_l_pick pm_l_pick an_l_pick cd_l_pick ct_l_pick)
    F_l_pick := fun_mk (st := s_l_pick) l_l_pick c_l_pick k_l_pick
    b_l_pick := (fun_mk (st := s_l_pick) l_l_pick c_l_pick k_l_pick).binds (ps := ["script", "k", "many"]) fun _ _ _ _ _ _ us hl => match us, hl with | [_, _, _], _ => rfl
    g_l_pick := PySem.W.mg_of X G a_l_pick
    f_l_map := f_l_map
    fd_l_map := (PySem.W.fnOf "_law_map" "_law_map" (defArgs s_l_map) (defBody s_l_map) (defScope s_l_map) .none kV_l_map dc_l_map pm_l_map an_l_map cd_l_map ct_l_map)
    F_l_map := fun_mk (st := s_l_map) l_l_map c_l_map k_l_map
    b_l_map := (fun_mk (st := s_l_map) l_l_map c_l_map k_l_map).binds (ps := ["script", "at", "most"]) fun _ _ _ _ _ _ us hl => match us, hl with | [_, _, _], _ => rfl
    g_l_map := PySem.W.mg_of X G a_l_map
    f_l_nets := f_l_nets
    fd_l_nets := (PySem.W.fnOf "_law_nets" "_law_nets" (defArgs s_l_nets) (defBody s_l_nets) (defScope s_l_nets) .none kV_l_nets dc_l_nets pm_l_nets an_l_nets (.ref ca_l_nets) ct_l_nets)
    F_l_nets := fun_mk (st := s_l_nets) l_l_nets c_l_nets k_l_nets
    b_l_nets := (fun_mk (st := s_l_nets) l_l_nets c_l_nets k_l_nets).binds (ps := ["some", "no"]) fun _ _ _ _ _ _ us hl => match us, hl with | [_, _], _ => rfl
    g_l_nets := PySem.W.mg_of X G a_l_nets
    ca_l_nets := ca_l_nets
    ta_l_nets := ta_l_nets
    cq_l_nets := rfl
    f_l_numbered := f_l_numbered
    fd_l_numbered := (PySem.W.fnOf "_law_numbered" "_law_numbered" (defArgs s_l_numbered) (defBody s_l_numbered) (defScope s_l_numbered) .none kV_l_numbered dc_l_numbered pm_l_numbered an_l_numbered (.ref ca_l_numbered) ct_l_numbered)
    F_l_numbered := fun_mk (st := s_l_numbered) l_l_numbered c_l_numbered k_l_numbered
    b_l_numbered := (fun_mk (st := s_l_numbered) l_l_numbered c_l_numbered k_l_numbered).binds (ps := ["some", "no"]) fun _ _ _ _ _ _ us hl => match us, hl with | [_, _], _ => rfl
    g_l_numbered := PySem.W.mg_of X G a_l_numbered
    ca_l_numbered := ca_l_numbered
    ta_l_numbered := ta_l_numbered
    cq_l_numbered := rfl
    f_l_placed := f_l_placed
    fd_l_placed := (PySem.W.fnOf "_law_placed" "_law_placed" (defArgs s_l_placed) (defBody s_l_placed) (defScope s_l_placed) .none kV_l_placed dc_l_placed pm_l_placed an_l_placed (.ref ca_l_placed) ct_l_placed)
    F_l_placed := fun_mk (st := s_l_placed) l_l_placed c_l_placed k_l_placed
    b_l_placed := (fun_mk (st := s_l_placed) l_l_placed c_l_placed k_l_placed).binds (ps := ["some"]) fun _ _ _ _ _ _ us hl => match us, hl with | [_], _ => rfl
    g_l_placed := PySem.W.mg_of X G a_l_placed
    ca_l_placed := ca_l_placed
    ta_l_placed := ta_l_placed
    cq_l_placed := rfl
    f_law := fa
    fd_law := (PySem.W.fnOf "law" "law" (defArgs s_law) (defBody s_law) (defScope s_law) .none kV_law dc_law pm_law an_law (.ref ca_law) ct_law)
    F_law := fun_mk (st := s_law) l_law c_law k_law
    b_law := (fun_mk (st := s_law) l_law c_law k_law).binds (ps := ["script"]) fun _ _ _ _ _ _ us hl => match us, hl with | [_], _ => rfl
    g_law := PySem.W.mg_of X G a_law
    ca_law := ca_law
    ta_law := ta_law
    cq_law := rfl
    tn_l_nets_l_numbered := tn_l_nets_l_numbered
    tn_l_nets_l_placed := tn_l_nets_l_placed
    tn_l_nets_law := tn_l_nets_law
    tn_l_numbered_l_placed := tn_l_numbered_l_placed
    tn_l_numbered_law := tn_l_numbered_law
    tn_l_placed_law := tn_l_placed_law
    m_ValueError := PySem.W.mg_none_of X G z_ValueError
    m_all := PySem.W.mg_none_of X G z_all
    m_bool := PySem.W.mg_none_of X G z_bool
    m_enumerate := PySem.W.mg_none_of X G z_enumerate
    m_int := PySem.W.mg_none_of X G z_int
    m_isinstance := PySem.W.mg_none_of X G z_isinstance
    m_len := PySem.W.mg_none_of X G z_len
    m_max := PySem.W.mg_none_of X G z_max
    m_min := PySem.W.mg_none_of X G z_min
    m_range := PySem.W.mg_none_of X G z_range
    m_set := PySem.W.mg_none_of X G z_set
    m_sorted := PySem.W.mg_none_of X G z_sorted
    m_tuple := PySem.W.mg_none_of X G z_tuple
    m_zip := PySem.W.mg_none_of X G z_zip
    c_MAX_JUNCTION := ⟨_, PySem.W.mg_of X G q_MAX_JUNCTION⟩
    c_MAX_LIMIT := ⟨_, PySem.W.mg_of X G q_MAX_LIMIT⟩
    c_MAX_ROADS := ⟨_, PySem.W.mg_of X G q_MAX_ROADS⟩
    c_MAX_SIGNS := ⟨_, PySem.W.mg_of X G q_MAX_SIGNS⟩
    c_MAX_WAY := ⟨_, PySem.W.mg_of X G q_MAX_WAY⟩
    c_MIN_FAST := ⟨_, PySem.W.mg_of X G q_MIN_FAST⟩
    C_InvalidIndex := C_InvalidIndex
    gc_InvalidIndex := PySem.W.mg_of X G g_InvalidIndex
    x_InvalidIndex := x_InvalidIndex
    k_InvalidIndex := kc_InvalidIndex
    sb_InvalidIndex := sb_InvalidIndex
    ty_InvalidIndex := ty_InvalidIndex
    C_InvalidLimit := C_InvalidLimit
    gc_InvalidLimit := PySem.W.mg_of X G g_InvalidLimit
    x_InvalidLimit := x_InvalidLimit
    k_InvalidLimit := kc_InvalidLimit
    sb_InvalidLimit := sb_InvalidLimit
    ty_InvalidLimit := ty_InvalidLimit
    C_InvalidNet := C_InvalidNet
    gc_InvalidNet := PySem.W.mg_of X G g_InvalidNet
    x_InvalidNet := x_InvalidNet
    k_InvalidNet := kc_InvalidNet
    sb_InvalidNet := sb_InvalidNet
    ty_InvalidNet := ty_InvalidNet
    C_InvalidPiece := C_InvalidPiece
    gc_InvalidPiece := PySem.W.mg_of X G g_InvalidPiece
    x_InvalidPiece := x_InvalidPiece
    k_InvalidPiece := kc_InvalidPiece
    sb_InvalidPiece := sb_InvalidPiece
    ty_InvalidPiece := ty_InvalidPiece
    C_InvalidRoad := C_InvalidRoad
    gc_InvalidRoad := PySem.W.mg_of X G g_InvalidRoad
    x_InvalidRoad := x_InvalidRoad
    k_InvalidRoad := kc_InvalidRoad
    sb_InvalidRoad := sb_InvalidRoad
    ty_InvalidRoad := ty_InvalidRoad
    C_InvalidSign := C_InvalidSign
    gc_InvalidSign := PySem.W.mg_of X G g_InvalidSign
    x_InvalidSign := x_InvalidSign
    k_InvalidSign := kc_InvalidSign
    sb_InvalidSign := sb_InvalidSign
    ty_InvalidSign := ty_InvalidSign
    C_InvalidWay := C_InvalidWay
    gc_InvalidWay := PySem.W.mg_of X G g_InvalidWay
    x_InvalidWay := x_InvalidWay
    k_InvalidWay := kc_InvalidWay
    sb_InvalidWay := sb_InvalidWay
    ty_InvalidWay := ty_InvalidWay
    C_OtherShape := C_OtherShape
    gc_OtherShape := PySem.W.mg_of X G g_OtherShape
    x_OtherShape := x_OtherShape
    k_OtherShape := kc_OtherShape
    sb_OtherShape := sb_OtherShape
    ty_OtherShape := ty_OtherShape
    C_TooMany := C_TooMany
    gc_TooMany := PySem.W.mg_of X G g_TooMany
    x_TooMany := x_TooMany
    k_TooMany := kc_TooMany
    sb_TooMany := sb_TooMany
    ty_TooMany := ty_TooMany
    C_LimitError := C_LimitError
    gc_LimitError := PySem.W.mg_of X G g_LimitError
    ex_LimitError := fun c C hc hm => by
        simp only [knownX, List.mem_cons, List.not_mem_nil, or_false] at hc
        rcases hc with rfl | rfl | rfl | rfl | rfl | rfl | rfl | rfl | rfl
        · rw [PySem.W.mg_of X G g_InvalidIndex] at hm; cases hm; exact PySem.W.exm_ref sb_LimitError hd_LimitError ty_LimitError su_LimitError_InvalidIndex
        · rw [PySem.W.mg_of X G g_InvalidLimit] at hm; cases hm; exact PySem.W.exm_ref sb_LimitError hd_LimitError ty_LimitError su_LimitError_InvalidLimit
        · rw [PySem.W.mg_of X G g_InvalidNet] at hm; cases hm; exact PySem.W.exm_ref sb_LimitError hd_LimitError ty_LimitError su_LimitError_InvalidNet
        · rw [PySem.W.mg_of X G g_InvalidPiece] at hm; cases hm; exact PySem.W.exm_ref sb_LimitError hd_LimitError ty_LimitError su_LimitError_InvalidPiece
        · rw [PySem.W.mg_of X G g_InvalidRoad] at hm; cases hm; exact PySem.W.exm_ref sb_LimitError hd_LimitError ty_LimitError su_LimitError_InvalidRoad
        · rw [PySem.W.mg_of X G g_InvalidSign] at hm; cases hm; exact PySem.W.exm_ref sb_LimitError hd_LimitError ty_LimitError su_LimitError_InvalidSign
        · rw [PySem.W.mg_of X G g_InvalidWay] at hm; cases hm; exact PySem.W.exm_ref sb_LimitError hd_LimitError ty_LimitError su_LimitError_InvalidWay
        · rw [PySem.W.mg_of X G g_OtherShape] at hm; cases hm; exact PySem.W.exm_ref sb_LimitError hd_LimitError ty_LimitError su_LimitError_OtherShape
        · rw [PySem.W.mg_of X G g_TooMany] at hm; cases hm; exact PySem.W.exm_ref sb_LimitError hd_LimitError ty_LimitError su_LimitError_TooMany
    ec := fun c C hc hm => by
        simp only [knownX, List.mem_cons, List.not_mem_nil, or_false] at hc
        rcases hc with rfl | rfl | rfl | rfl | rfl | rfl | rfl | rfl | rfl
        · rw [PySem.W.mg_of X G g_InvalidIndex] at hm; cases hm; exact ec_InvalidIndex
        · rw [PySem.W.mg_of X G g_InvalidLimit] at hm; cases hm; exact ec_InvalidLimit
        · rw [PySem.W.mg_of X G g_InvalidNet] at hm; cases hm; exact ec_InvalidNet
        · rw [PySem.W.mg_of X G g_InvalidPiece] at hm; cases hm; exact ec_InvalidPiece
        · rw [PySem.W.mg_of X G g_InvalidRoad] at hm; cases hm; exact ec_InvalidRoad
        · rw [PySem.W.mg_of X G g_InvalidSign] at hm; cases hm; exact ec_InvalidSign
        · rw [PySem.W.mg_of X G g_InvalidWay] at hm; cases hm; exact ec_InvalidWay
        · rw [PySem.W.mg_of X G g_OtherShape] at hm; cases hm; exact ec_OtherShape
        · rw [PySem.W.mg_of X G g_TooMany] at hm; cases hm; exact ec_TooMany
    kv := fun c C hc hm => by
        simp only [knownX, List.mem_cons, List.not_mem_nil, or_false] at hc
        rcases hc with rfl | rfl | rfl | rfl | rfl | rfl | rfl | rfl | rfl
        · rw [PySem.W.mg_of X G g_InvalidIndex] at hm; cases hm; exact kit_val kv_InvalidIndex
        · rw [PySem.W.mg_of X G g_InvalidLimit] at hm; cases hm; exact kit_val kv_InvalidLimit
        · rw [PySem.W.mg_of X G g_InvalidNet] at hm; cases hm; exact kit_val kv_InvalidNet
        · rw [PySem.W.mg_of X G g_InvalidPiece] at hm; cases hm; exact kit_val kv_InvalidPiece
        · rw [PySem.W.mg_of X G g_InvalidRoad] at hm; cases hm; exact kit_val kv_InvalidRoad
        · rw [PySem.W.mg_of X G g_InvalidSign] at hm; cases hm; exact kit_val kv_InvalidSign
        · rw [PySem.W.mg_of X G g_InvalidWay] at hm; cases hm; exact kit_val kv_InvalidWay
        · rw [PySem.W.mg_of X G g_OtherShape] at hm; cases hm; exact kit_val kv_OtherShape
        · rw [PySem.W.mg_of X G g_TooMany] at hm; cases hm; exact kit_val kv_TooMany
    kt_InvalidIndex := fun c C hc hm => by
        simp only [knownX, List.mem_cons, List.not_mem_nil, or_false] at hc
        rcases hc with rfl | rfl | rfl | rfl | rfl | rfl | rfl | rfl | rfl
        · rw [PySem.W.mg_of X G g_InvalidIndex] at hm; cases hm; exact kit_self
        · rw [PySem.W.mg_of X G g_InvalidLimit] at hm; cases hm; exact kit_ref ne_InvalidIndex_InvalidLimit hd_InvalidIndex ty_InvalidIndex su_InvalidIndex_InvalidLimit
        · rw [PySem.W.mg_of X G g_InvalidNet] at hm; cases hm; exact kit_ref ne_InvalidIndex_InvalidNet hd_InvalidIndex ty_InvalidIndex su_InvalidIndex_InvalidNet
        · rw [PySem.W.mg_of X G g_InvalidPiece] at hm; cases hm; exact kit_ref ne_InvalidIndex_InvalidPiece hd_InvalidIndex ty_InvalidIndex su_InvalidIndex_InvalidPiece
        · rw [PySem.W.mg_of X G g_InvalidRoad] at hm; cases hm; exact kit_ref ne_InvalidIndex_InvalidRoad hd_InvalidIndex ty_InvalidIndex su_InvalidIndex_InvalidRoad
        · rw [PySem.W.mg_of X G g_InvalidSign] at hm; cases hm; exact kit_ref ne_InvalidIndex_InvalidSign hd_InvalidIndex ty_InvalidIndex su_InvalidIndex_InvalidSign
        · rw [PySem.W.mg_of X G g_InvalidWay] at hm; cases hm; exact kit_ref ne_InvalidIndex_InvalidWay hd_InvalidIndex ty_InvalidIndex su_InvalidIndex_InvalidWay
        · rw [PySem.W.mg_of X G g_OtherShape] at hm; cases hm; exact kit_ref ne_InvalidIndex_OtherShape hd_InvalidIndex ty_InvalidIndex su_InvalidIndex_OtherShape
        · rw [PySem.W.mg_of X G g_TooMany] at hm; cases hm; exact kit_ref ne_InvalidIndex_TooMany hd_InvalidIndex ty_InvalidIndex su_InvalidIndex_TooMany
    kt_InvalidLimit := fun c C hc hm => by
        simp only [knownX, List.mem_cons, List.not_mem_nil, or_false] at hc
        rcases hc with rfl | rfl | rfl | rfl | rfl | rfl | rfl | rfl | rfl
        · rw [PySem.W.mg_of X G g_InvalidIndex] at hm; cases hm; exact kit_ref ne_InvalidLimit_InvalidIndex hd_InvalidLimit ty_InvalidLimit su_InvalidLimit_InvalidIndex
        · rw [PySem.W.mg_of X G g_InvalidLimit] at hm; cases hm; exact kit_self
        · rw [PySem.W.mg_of X G g_InvalidNet] at hm; cases hm; exact kit_ref ne_InvalidLimit_InvalidNet hd_InvalidLimit ty_InvalidLimit su_InvalidLimit_InvalidNet
        · rw [PySem.W.mg_of X G g_InvalidPiece] at hm; cases hm; exact kit_ref ne_InvalidLimit_InvalidPiece hd_InvalidLimit ty_InvalidLimit su_InvalidLimit_InvalidPiece
        · rw [PySem.W.mg_of X G g_InvalidRoad] at hm; cases hm; exact kit_ref ne_InvalidLimit_InvalidRoad hd_InvalidLimit ty_InvalidLimit su_InvalidLimit_InvalidRoad
        · rw [PySem.W.mg_of X G g_InvalidSign] at hm; cases hm; exact kit_ref ne_InvalidLimit_InvalidSign hd_InvalidLimit ty_InvalidLimit su_InvalidLimit_InvalidSign
        · rw [PySem.W.mg_of X G g_InvalidWay] at hm; cases hm; exact kit_ref ne_InvalidLimit_InvalidWay hd_InvalidLimit ty_InvalidLimit su_InvalidLimit_InvalidWay
        · rw [PySem.W.mg_of X G g_OtherShape] at hm; cases hm; exact kit_ref ne_InvalidLimit_OtherShape hd_InvalidLimit ty_InvalidLimit su_InvalidLimit_OtherShape
        · rw [PySem.W.mg_of X G g_TooMany] at hm; cases hm; exact kit_ref ne_InvalidLimit_TooMany hd_InvalidLimit ty_InvalidLimit su_InvalidLimit_TooMany
    kt_InvalidNet := fun c C hc hm => by
        simp only [knownX, List.mem_cons, List.not_mem_nil, or_false] at hc
        rcases hc with rfl | rfl | rfl | rfl | rfl | rfl | rfl | rfl | rfl
        · rw [PySem.W.mg_of X G g_InvalidIndex] at hm; cases hm; exact kit_ref ne_InvalidNet_InvalidIndex hd_InvalidNet ty_InvalidNet su_InvalidNet_InvalidIndex
        · rw [PySem.W.mg_of X G g_InvalidLimit] at hm; cases hm; exact kit_ref ne_InvalidNet_InvalidLimit hd_InvalidNet ty_InvalidNet su_InvalidNet_InvalidLimit
        · rw [PySem.W.mg_of X G g_InvalidNet] at hm; cases hm; exact kit_self
        · rw [PySem.W.mg_of X G g_InvalidPiece] at hm; cases hm; exact kit_ref ne_InvalidNet_InvalidPiece hd_InvalidNet ty_InvalidNet su_InvalidNet_InvalidPiece
        · rw [PySem.W.mg_of X G g_InvalidRoad] at hm; cases hm; exact kit_ref ne_InvalidNet_InvalidRoad hd_InvalidNet ty_InvalidNet su_InvalidNet_InvalidRoad
        · rw [PySem.W.mg_of X G g_InvalidSign] at hm; cases hm; exact kit_ref ne_InvalidNet_InvalidSign hd_InvalidNet ty_InvalidNet su_InvalidNet_InvalidSign
        · rw [PySem.W.mg_of X G g_InvalidWay] at hm; cases hm; exact kit_ref ne_InvalidNet_InvalidWay hd_InvalidNet ty_InvalidNet su_InvalidNet_InvalidWay
        · rw [PySem.W.mg_of X G g_OtherShape] at hm; cases hm; exact kit_ref ne_InvalidNet_OtherShape hd_InvalidNet ty_InvalidNet su_InvalidNet_OtherShape
        · rw [PySem.W.mg_of X G g_TooMany] at hm; cases hm; exact kit_ref ne_InvalidNet_TooMany hd_InvalidNet ty_InvalidNet su_InvalidNet_TooMany
    kt_InvalidPiece := fun c C hc hm => by
        simp only [knownX, List.mem_cons, List.not_mem_nil, or_false] at hc
        rcases hc with rfl | rfl | rfl | rfl | rfl | rfl | rfl | rfl | rfl
        · rw [PySem.W.mg_of X G g_InvalidIndex] at hm; cases hm; exact kit_ref ne_InvalidPiece_InvalidIndex hd_InvalidPiece ty_InvalidPiece su_InvalidPiece_InvalidIndex
        · rw [PySem.W.mg_of X G g_InvalidLimit] at hm; cases hm; exact kit_ref ne_InvalidPiece_InvalidLimit hd_InvalidPiece ty_InvalidPiece su_InvalidPiece_InvalidLimit
        · rw [PySem.W.mg_of X G g_InvalidNet] at hm; cases hm; exact kit_ref ne_InvalidPiece_InvalidNet hd_InvalidPiece ty_InvalidPiece su_InvalidPiece_InvalidNet
        · rw [PySem.W.mg_of X G g_InvalidPiece] at hm; cases hm; exact kit_self
        · rw [PySem.W.mg_of X G g_InvalidRoad] at hm; cases hm; exact kit_ref ne_InvalidPiece_InvalidRoad hd_InvalidPiece ty_InvalidPiece su_InvalidPiece_InvalidRoad
        · rw [PySem.W.mg_of X G g_InvalidSign] at hm; cases hm; exact kit_ref ne_InvalidPiece_InvalidSign hd_InvalidPiece ty_InvalidPiece su_InvalidPiece_InvalidSign
        · rw [PySem.W.mg_of X G g_InvalidWay] at hm; cases hm; exact kit_ref ne_InvalidPiece_InvalidWay hd_InvalidPiece ty_InvalidPiece su_InvalidPiece_InvalidWay
        · rw [PySem.W.mg_of X G g_OtherShape] at hm; cases hm; exact kit_ref ne_InvalidPiece_OtherShape hd_InvalidPiece ty_InvalidPiece su_InvalidPiece_OtherShape
        · rw [PySem.W.mg_of X G g_TooMany] at hm; cases hm; exact kit_ref ne_InvalidPiece_TooMany hd_InvalidPiece ty_InvalidPiece su_InvalidPiece_TooMany
    kt_InvalidRoad := fun c C hc hm => by
        simp only [knownX, List.mem_cons, List.not_mem_nil, or_false] at hc
        rcases hc with rfl | rfl | rfl | rfl | rfl | rfl | rfl | rfl | rfl
        · rw [PySem.W.mg_of X G g_InvalidIndex] at hm; cases hm; exact kit_ref ne_InvalidRoad_InvalidIndex hd_InvalidRoad ty_InvalidRoad su_InvalidRoad_InvalidIndex
        · rw [PySem.W.mg_of X G g_InvalidLimit] at hm; cases hm; exact kit_ref ne_InvalidRoad_InvalidLimit hd_InvalidRoad ty_InvalidRoad su_InvalidRoad_InvalidLimit
        · rw [PySem.W.mg_of X G g_InvalidNet] at hm; cases hm; exact kit_ref ne_InvalidRoad_InvalidNet hd_InvalidRoad ty_InvalidRoad su_InvalidRoad_InvalidNet
        · rw [PySem.W.mg_of X G g_InvalidPiece] at hm; cases hm; exact kit_ref ne_InvalidRoad_InvalidPiece hd_InvalidRoad ty_InvalidRoad su_InvalidRoad_InvalidPiece
        · rw [PySem.W.mg_of X G g_InvalidRoad] at hm; cases hm; exact kit_self
        · rw [PySem.W.mg_of X G g_InvalidSign] at hm; cases hm; exact kit_ref ne_InvalidRoad_InvalidSign hd_InvalidRoad ty_InvalidRoad su_InvalidRoad_InvalidSign
        · rw [PySem.W.mg_of X G g_InvalidWay] at hm; cases hm; exact kit_ref ne_InvalidRoad_InvalidWay hd_InvalidRoad ty_InvalidRoad su_InvalidRoad_InvalidWay
        · rw [PySem.W.mg_of X G g_OtherShape] at hm; cases hm; exact kit_ref ne_InvalidRoad_OtherShape hd_InvalidRoad ty_InvalidRoad su_InvalidRoad_OtherShape
        · rw [PySem.W.mg_of X G g_TooMany] at hm; cases hm; exact kit_ref ne_InvalidRoad_TooMany hd_InvalidRoad ty_InvalidRoad su_InvalidRoad_TooMany
    kt_InvalidSign := fun c C hc hm => by
        simp only [knownX, List.mem_cons, List.not_mem_nil, or_false] at hc
        rcases hc with rfl | rfl | rfl | rfl | rfl | rfl | rfl | rfl | rfl
        · rw [PySem.W.mg_of X G g_InvalidIndex] at hm; cases hm; exact kit_ref ne_InvalidSign_InvalidIndex hd_InvalidSign ty_InvalidSign su_InvalidSign_InvalidIndex
        · rw [PySem.W.mg_of X G g_InvalidLimit] at hm; cases hm; exact kit_ref ne_InvalidSign_InvalidLimit hd_InvalidSign ty_InvalidSign su_InvalidSign_InvalidLimit
        · rw [PySem.W.mg_of X G g_InvalidNet] at hm; cases hm; exact kit_ref ne_InvalidSign_InvalidNet hd_InvalidSign ty_InvalidSign su_InvalidSign_InvalidNet
        · rw [PySem.W.mg_of X G g_InvalidPiece] at hm; cases hm; exact kit_ref ne_InvalidSign_InvalidPiece hd_InvalidSign ty_InvalidSign su_InvalidSign_InvalidPiece
        · rw [PySem.W.mg_of X G g_InvalidRoad] at hm; cases hm; exact kit_ref ne_InvalidSign_InvalidRoad hd_InvalidSign ty_InvalidSign su_InvalidSign_InvalidRoad
        · rw [PySem.W.mg_of X G g_InvalidSign] at hm; cases hm; exact kit_self
        · rw [PySem.W.mg_of X G g_InvalidWay] at hm; cases hm; exact kit_ref ne_InvalidSign_InvalidWay hd_InvalidSign ty_InvalidSign su_InvalidSign_InvalidWay
        · rw [PySem.W.mg_of X G g_OtherShape] at hm; cases hm; exact kit_ref ne_InvalidSign_OtherShape hd_InvalidSign ty_InvalidSign su_InvalidSign_OtherShape
        · rw [PySem.W.mg_of X G g_TooMany] at hm; cases hm; exact kit_ref ne_InvalidSign_TooMany hd_InvalidSign ty_InvalidSign su_InvalidSign_TooMany
    kt_InvalidWay := fun c C hc hm => by
        simp only [knownX, List.mem_cons, List.not_mem_nil, or_false] at hc
        rcases hc with rfl | rfl | rfl | rfl | rfl | rfl | rfl | rfl | rfl
        · rw [PySem.W.mg_of X G g_InvalidIndex] at hm; cases hm; exact kit_ref ne_InvalidWay_InvalidIndex hd_InvalidWay ty_InvalidWay su_InvalidWay_InvalidIndex
        · rw [PySem.W.mg_of X G g_InvalidLimit] at hm; cases hm; exact kit_ref ne_InvalidWay_InvalidLimit hd_InvalidWay ty_InvalidWay su_InvalidWay_InvalidLimit
        · rw [PySem.W.mg_of X G g_InvalidNet] at hm; cases hm; exact kit_ref ne_InvalidWay_InvalidNet hd_InvalidWay ty_InvalidWay su_InvalidWay_InvalidNet
        · rw [PySem.W.mg_of X G g_InvalidPiece] at hm; cases hm; exact kit_ref ne_InvalidWay_InvalidPiece hd_InvalidWay ty_InvalidWay su_InvalidWay_InvalidPiece
        · rw [PySem.W.mg_of X G g_InvalidRoad] at hm; cases hm; exact kit_ref ne_InvalidWay_InvalidRoad hd_InvalidWay ty_InvalidWay su_InvalidWay_InvalidRoad
        · rw [PySem.W.mg_of X G g_InvalidSign] at hm; cases hm; exact kit_ref ne_InvalidWay_InvalidSign hd_InvalidWay ty_InvalidWay su_InvalidWay_InvalidSign
        · rw [PySem.W.mg_of X G g_InvalidWay] at hm; cases hm; exact kit_self
        · rw [PySem.W.mg_of X G g_OtherShape] at hm; cases hm; exact kit_ref ne_InvalidWay_OtherShape hd_InvalidWay ty_InvalidWay su_InvalidWay_OtherShape
        · rw [PySem.W.mg_of X G g_TooMany] at hm; cases hm; exact kit_ref ne_InvalidWay_TooMany hd_InvalidWay ty_InvalidWay su_InvalidWay_TooMany
    kt_OtherShape := fun c C hc hm => by
        simp only [knownX, List.mem_cons, List.not_mem_nil, or_false] at hc
        rcases hc with rfl | rfl | rfl | rfl | rfl | rfl | rfl | rfl | rfl
        · rw [PySem.W.mg_of X G g_InvalidIndex] at hm; cases hm; exact kit_ref ne_OtherShape_InvalidIndex hd_OtherShape ty_OtherShape su_OtherShape_InvalidIndex
        · rw [PySem.W.mg_of X G g_InvalidLimit] at hm; cases hm; exact kit_ref ne_OtherShape_InvalidLimit hd_OtherShape ty_OtherShape su_OtherShape_InvalidLimit
        · rw [PySem.W.mg_of X G g_InvalidNet] at hm; cases hm; exact kit_ref ne_OtherShape_InvalidNet hd_OtherShape ty_OtherShape su_OtherShape_InvalidNet
        · rw [PySem.W.mg_of X G g_InvalidPiece] at hm; cases hm; exact kit_ref ne_OtherShape_InvalidPiece hd_OtherShape ty_OtherShape su_OtherShape_InvalidPiece
        · rw [PySem.W.mg_of X G g_InvalidRoad] at hm; cases hm; exact kit_ref ne_OtherShape_InvalidRoad hd_OtherShape ty_OtherShape su_OtherShape_InvalidRoad
        · rw [PySem.W.mg_of X G g_InvalidSign] at hm; cases hm; exact kit_ref ne_OtherShape_InvalidSign hd_OtherShape ty_OtherShape su_OtherShape_InvalidSign
        · rw [PySem.W.mg_of X G g_InvalidWay] at hm; cases hm; exact kit_ref ne_OtherShape_InvalidWay hd_OtherShape ty_OtherShape su_OtherShape_InvalidWay
        · rw [PySem.W.mg_of X G g_OtherShape] at hm; cases hm; exact kit_self
        · rw [PySem.W.mg_of X G g_TooMany] at hm; cases hm; exact kit_ref ne_OtherShape_TooMany hd_OtherShape ty_OtherShape su_OtherShape_TooMany
    kt_TooMany := fun c C hc hm => by
        simp only [knownX, List.mem_cons, List.not_mem_nil, or_false] at hc
        rcases hc with rfl | rfl | rfl | rfl | rfl | rfl | rfl | rfl | rfl
        · rw [PySem.W.mg_of X G g_InvalidIndex] at hm; cases hm; exact kit_ref ne_TooMany_InvalidIndex hd_TooMany ty_TooMany su_TooMany_InvalidIndex
        · rw [PySem.W.mg_of X G g_InvalidLimit] at hm; cases hm; exact kit_ref ne_TooMany_InvalidLimit hd_TooMany ty_TooMany su_TooMany_InvalidLimit
        · rw [PySem.W.mg_of X G g_InvalidNet] at hm; cases hm; exact kit_ref ne_TooMany_InvalidNet hd_TooMany ty_TooMany su_TooMany_InvalidNet
        · rw [PySem.W.mg_of X G g_InvalidPiece] at hm; cases hm; exact kit_ref ne_TooMany_InvalidPiece hd_TooMany ty_TooMany su_TooMany_InvalidPiece
        · rw [PySem.W.mg_of X G g_InvalidRoad] at hm; cases hm; exact kit_ref ne_TooMany_InvalidRoad hd_TooMany ty_TooMany su_TooMany_InvalidRoad
        · rw [PySem.W.mg_of X G g_InvalidSign] at hm; cases hm; exact kit_ref ne_TooMany_InvalidSign hd_TooMany ty_TooMany su_TooMany_InvalidSign
        · rw [PySem.W.mg_of X G g_InvalidWay] at hm; cases hm; exact kit_ref ne_TooMany_InvalidWay hd_TooMany ty_TooMany su_TooMany_InvalidWay
        · rw [PySem.W.mg_of X G g_OtherShape] at hm; cases hm; exact kit_ref ne_TooMany_OtherShape hd_TooMany ty_TooMany su_TooMany_OtherShape
        · rw [PySem.W.mg_of X G g_TooMany] at hm; cases hm; exact kit_self }
  have hd_l_nets := tabs "_law_nets" ca_l_nets ta_l_nets rc_l_nets (tabIn_of a_l_nets l_l_nets rfl lc_l_nets v11_l_nets)
  have hd_l_numbered := tabs "_law_numbered" ca_l_numbered ta_l_numbered rc_l_numbered (tabIn_of a_l_numbered l_l_numbered rfl lc_l_numbered v11_l_numbered)
  have hd_l_placed := tabs "_law_placed" ca_l_placed ta_l_placed rc_l_placed (tabIn_of a_l_placed l_l_placed rfl lc_l_placed v11_l_placed)
  have hd_law := tabs "law" ca_law ta_law rc_law (tabIn_of a_law l_law rfl lc_law v11_law)
  refine ⟨(PySem.W.fnOf "law" "law" (defArgs s_law) (defBody s_law) (defScope s_law) .none kV_law dc_law pm_law an_law (.ref ca_law) ct_law), [(ca_l_nets, ta_l_nets), (ca_l_numbered, ta_l_numbered), (ca_l_placed, ta_l_placed), (ca_law, ta_law)], spT1 K (TT T) 1 ok1_law, ?_, ?_, ?_, fun s v => .of_eq rfl, ?_, ?_⟩
  · exact fun p hp => by
      simp only [List.mem_cons, List.not_mem_nil, or_false] at hp
      rcases hp with rfl | rfl | rfl | rfl
      · exact hd_l_nets.2
      · exact hd_l_numbered.2
      · exact hd_l_placed.2
      · exact hd_law.2
  · exact fun p hp => by
      simp only [List.mem_cons, List.not_mem_nil, or_false] at hp
      rcases hp with rfl | rfl | rfl | rfl
      · exact nk_l_nets
      · exact nk_l_numbered
      · exact nk_l_placed
      · exact nk_law
  · exact fun p hp => by
      simp only [List.mem_cons, List.not_mem_nil, or_false] at hp
      rcases hp with rfl | rfl | rfl | rfl
      · exact hd_l_nets.1
      · exact hd_l_numbered.1
      · exact hd_l_placed.1
      · exact hd_law.1
  · intro H a ns hl _ hH hS
    refine ⟨[.scr ns], margs_law (fun p hp => ?_) hS, law_fin ns hl, fun _ _ _ => rfl⟩
    simp only [TT, List.mem_cons, List.not_mem_nil, or_false] at hp
    rcases hp with rfl | rfl | rfl | rfl
    · exact hH (ca_l_nets, ta_l_nets) (by simp)
    · exact hH (ca_l_numbered, ta_l_numbered) (by simp)
    · exact hH (ca_l_placed, ta_l_placed) (by simp)
    · exact hH (ca_law, ta_law) (by simp)
  · intro base _ _ hB
    exact ok_law T ⟨hB (ca_l_nets, ta_l_nets) (by simp), hB (ca_l_numbered, ta_l_numbered) (by simp), hB (ca_l_placed, ta_l_placed) (by simp), hB (ca_law, ta_law) (by simp)⟩
end LW
open PySem PySem.W PyProof.Rows
set_option maxHeartbeats 0 in
theorem PySem.Challenge.cw_limitsigns_k26_errors_holds : PySem.Challenge.rw_limitsigns_k26_errors.Holds := by
  w_on; o_law; k_head; (case hw => w_witness2)
  k_fill
  refine DN.walk_tabs (l := PySem.Challenge.rw_limitsigns_k26_errors) (n := 63) (k := 13) (x := "script") (CX := fun w => L2.CX PySem.Challenge.rw_limitsigns_k26_errors.prog w) rfl (by decide) rfl ⟨rfl, by decide, by decide⟩ (fun w h Y => PySem.W.km_in_of Y) ?F (fun _ _ _ _ _ h => by obtain ⟨_, _, _, _, _, _, _, _, _, _, _, _, z⟩ := h; exact z)
  case F =>
    intro w mg fa h Y KX G hmg tabs
    refine' LW.all_mk KX G hmg (RR := fun y => ((recsOf _).any fun e => e.name == y) = true) tabs ?a_is_int ?l_is_int ?c_is_int ?k_is_int ?a_are_signs ?l_are_signs ?c_are_signs ?k_are_signs ?a_is_road ?l_is_road ?c_is_road ?k_is_road ?a_is_net ?l_is_net ?c_is_net ?k_is_net ?a_check_net ?l_check_net ?c_check_net ?k_check_net ?a_check_road ?l_check_road ?c_check_road ?k_check_road ?a_has_way ?l_has_way ?c_has_way ?k_has_way ?a_is_way ?l_is_way ?c_is_way ?k_is_way ?a_find_followers ?l_find_followers ?c_find_followers ?k_find_followers ?a_followers ?l_followers ?c_followers ?k_followers ?a_find_standing ?l_find_standing ?c_find_standing ?k_find_standing ?a_standing ?l_standing ?c_standing ?k_standing ?a_count_pieces ?l_count_pieces ?c_count_pieces ?k_count_pieces ?a_pieces ?l_pieces ?c_pieces ?k_pieces ?a_leave ?l_leave ?c_leave ?k_leave ?a_go_over ?l_go_over ?c_go_over ?k_go_over ?a_check_way ?l_check_way ?c_check_way ?k_check_way ?a_find_limits ?l_find_limits ?c_find_limits ?k_find_limits ?a_limits ?l_limits ?c_limits ?k_limits ?a_state_after ?l_state_after ?c_state_after ?k_state_after ?a_flat ?l_flat ?c_flat ?k_flat ?a_changes ?l_changes ?c_changes ?k_changes ?a_least_limit ?l_least_limit ?c_least_limit ?k_least_limit ?a_set_signs ?l_set_signs ?c_set_signs ?k_set_signs ?a_drop ?l_drop ?c_drop ?k_drop ?a_without_sign ?l_without_sign ?c_without_sign ?k_without_sign ?a_with_sign ?l_with_sign ?c_with_sign ?k_with_sign ?a_pairs_of ?l_pairs_of ?c_pairs_of ?k_pairs_of ?a_does_nothing ?l_does_nothing ?c_does_nothing ?k_does_nothing ?a_is_idle ?l_is_idle ?c_is_idle ?k_is_idle ?a_find_idle ?l_find_idle ?c_find_idle ?k_find_idle ?a_idle_signs ?l_idle_signs ?c_idle_signs ?k_idle_signs ?a_shape ?l_shape ?c_shape ?k_shape ?a_check_two ?l_check_two ?c_check_two ?k_check_two ?a_same_shape ?l_same_shape ?c_same_shape ?k_same_shape ?a_find_parting ?l_find_parting ?c_find_parting ?k_find_parting ?a_same_limits ?l_same_limits ?c_same_limits ?k_same_limits ?a_parting_way ?l_parting_way ?c_parting_way ?k_parting_way ?a_most_idle ?l_most_idle ?c_most_idle ?k_most_idle ?a_find_places ?l_find_places ?c_find_places ?k_find_places ?a_find_states ?l_find_states ?c_find_states ?k_find_states ?a_states_at ?l_states_at ?c_states_at ?k_states_at ?a_find_possible ?l_find_possible ?c_find_possible ?k_find_possible ?a_possible ?l_possible ?c_possible ?k_possible ?a_find_unclear ?l_find_unclear ?c_find_unclear ?k_find_unclear ?a_unclear ?l_unclear ?c_unclear ?k_unclear ?a_is_clear ?l_is_clear ?c_is_clear ?k_is_clear ?a_find_shortest ?l_find_shortest ?c_find_shortest ?k_find_shortest ?a_shortest_with ?l_shortest_with ?c_shortest_with ?k_shortest_with ?a_witnesses ?l_witnesses ?c_witnesses ?k_witnesses ?a_farthest ?l_farthest ?c_farthest ?k_farthest ?a_l_class ?l_l_class ?c_l_class ?k_l_class ?a_l_result ?l_l_result ?c_l_result ?k_l_result ?a_l_all ?l_l_all ?c_l_all ?k_l_all ?a_l_pick ?l_l_pick ?c_l_pick ?k_l_pick ?a_l_map ?l_l_map ?c_l_map ?k_l_map ?a_l_nets ?l_l_nets ?c_l_nets ?k_l_nets ?rc_l_nets ?lc_l_nets ?v11_l_nets ?nk_l_nets ?a_l_numbered ?l_l_numbered ?c_l_numbered ?k_l_numbered ?rc_l_numbered ?lc_l_numbered ?v11_l_numbered ?nk_l_numbered ?a_l_placed ?l_l_placed ?c_l_placed ?k_l_placed ?rc_l_placed ?lc_l_placed ?v11_l_placed ?nk_l_placed ?a_law ?l_law ?c_law ?k_law ?rc_law ?lc_law ?v11_law ?nk_law ?tn_l_nets_l_numbered ?tn_l_nets_l_placed ?tn_l_nets_law ?tn_l_numbered_l_placed ?tn_l_numbered_law ?tn_l_placed_law ?z_ValueError ?z_all ?z_bool ?z_enumerate ?z_int ?z_isinstance ?z_len ?z_max ?z_min ?z_range ?z_set ?z_sorted ?z_tuple ?z_zip ?q_MAX_JUNCTION ?q_MAX_LIMIT ?q_MAX_ROADS ?q_MAX_SIGNS ?q_MAX_WAY ?q_MIN_FAST ?g_InvalidIndex ?x_InvalidIndex ?kc_InvalidIndex ?sb_InvalidIndex ?ty_InvalidIndex ?g_InvalidLimit ?x_InvalidLimit ?kc_InvalidLimit ?sb_InvalidLimit ?ty_InvalidLimit ?g_InvalidNet ?x_InvalidNet ?kc_InvalidNet ?sb_InvalidNet ?ty_InvalidNet ?g_InvalidPiece ?x_InvalidPiece ?kc_InvalidPiece ?sb_InvalidPiece ?ty_InvalidPiece ?g_InvalidRoad ?x_InvalidRoad ?kc_InvalidRoad ?sb_InvalidRoad ?ty_InvalidRoad ?g_InvalidSign ?x_InvalidSign ?kc_InvalidSign ?sb_InvalidSign ?ty_InvalidSign ?g_InvalidWay ?x_InvalidWay ?kc_InvalidWay ?sb_InvalidWay ?ty_InvalidWay ?g_OtherShape ?x_OtherShape ?kc_OtherShape ?sb_OtherShape ?ty_OtherShape ?g_TooMany ?x_TooMany ?kc_TooMany ?sb_TooMany ?ty_TooMany ?g_LimitError ?hd_InvalidIndex ?su_InvalidIndex_InvalidLimit ?ne_InvalidIndex_InvalidLimit ?su_InvalidIndex_InvalidNet ?ne_InvalidIndex_InvalidNet ?su_InvalidIndex_InvalidPiece ?ne_InvalidIndex_InvalidPiece ?su_InvalidIndex_InvalidRoad ?ne_InvalidIndex_InvalidRoad ?su_InvalidIndex_InvalidSign ?ne_InvalidIndex_InvalidSign ?su_InvalidIndex_InvalidWay ?ne_InvalidIndex_InvalidWay ?su_InvalidIndex_OtherShape ?ne_InvalidIndex_OtherShape ?su_InvalidIndex_TooMany ?ne_InvalidIndex_TooMany ?hd_InvalidLimit ?su_InvalidLimit_InvalidIndex ?ne_InvalidLimit_InvalidIndex ?su_InvalidLimit_InvalidNet ?ne_InvalidLimit_InvalidNet ?su_InvalidLimit_InvalidPiece ?ne_InvalidLimit_InvalidPiece ?su_InvalidLimit_InvalidRoad ?ne_InvalidLimit_InvalidRoad ?su_InvalidLimit_InvalidSign ?ne_InvalidLimit_InvalidSign ?su_InvalidLimit_InvalidWay ?ne_InvalidLimit_InvalidWay ?su_InvalidLimit_OtherShape ?ne_InvalidLimit_OtherShape ?su_InvalidLimit_TooMany ?ne_InvalidLimit_TooMany ?hd_InvalidNet ?su_InvalidNet_InvalidIndex ?ne_InvalidNet_InvalidIndex ?su_InvalidNet_InvalidLimit ?ne_InvalidNet_InvalidLimit ?su_InvalidNet_InvalidPiece ?ne_InvalidNet_InvalidPiece ?su_InvalidNet_InvalidRoad ?ne_InvalidNet_InvalidRoad ?su_InvalidNet_InvalidSign ?ne_InvalidNet_InvalidSign ?su_InvalidNet_InvalidWay ?ne_InvalidNet_InvalidWay ?su_InvalidNet_OtherShape ?ne_InvalidNet_OtherShape ?su_InvalidNet_TooMany ?ne_InvalidNet_TooMany ?hd_InvalidPiece ?su_InvalidPiece_InvalidIndex ?ne_InvalidPiece_InvalidIndex ?su_InvalidPiece_InvalidLimit ?ne_InvalidPiece_InvalidLimit ?su_InvalidPiece_InvalidNet ?ne_InvalidPiece_InvalidNet ?su_InvalidPiece_InvalidRoad ?ne_InvalidPiece_InvalidRoad ?su_InvalidPiece_InvalidSign ?ne_InvalidPiece_InvalidSign ?su_InvalidPiece_InvalidWay ?ne_InvalidPiece_InvalidWay ?su_InvalidPiece_OtherShape ?ne_InvalidPiece_OtherShape ?su_InvalidPiece_TooMany ?ne_InvalidPiece_TooMany ?hd_InvalidRoad ?su_InvalidRoad_InvalidIndex ?ne_InvalidRoad_InvalidIndex ?su_InvalidRoad_InvalidLimit ?ne_InvalidRoad_InvalidLimit ?su_InvalidRoad_InvalidNet ?ne_InvalidRoad_InvalidNet ?su_InvalidRoad_InvalidPiece ?ne_InvalidRoad_InvalidPiece ?su_InvalidRoad_InvalidSign ?ne_InvalidRoad_InvalidSign ?su_InvalidRoad_InvalidWay ?ne_InvalidRoad_InvalidWay ?su_InvalidRoad_OtherShape ?ne_InvalidRoad_OtherShape ?su_InvalidRoad_TooMany ?ne_InvalidRoad_TooMany ?hd_InvalidSign ?su_InvalidSign_InvalidIndex ?ne_InvalidSign_InvalidIndex ?su_InvalidSign_InvalidLimit ?ne_InvalidSign_InvalidLimit ?su_InvalidSign_InvalidNet ?ne_InvalidSign_InvalidNet ?su_InvalidSign_InvalidPiece ?ne_InvalidSign_InvalidPiece ?su_InvalidSign_InvalidRoad ?ne_InvalidSign_InvalidRoad ?su_InvalidSign_InvalidWay ?ne_InvalidSign_InvalidWay ?su_InvalidSign_OtherShape ?ne_InvalidSign_OtherShape ?su_InvalidSign_TooMany ?ne_InvalidSign_TooMany ?hd_InvalidWay ?su_InvalidWay_InvalidIndex ?ne_InvalidWay_InvalidIndex ?su_InvalidWay_InvalidLimit ?ne_InvalidWay_InvalidLimit ?su_InvalidWay_InvalidNet ?ne_InvalidWay_InvalidNet ?su_InvalidWay_InvalidPiece ?ne_InvalidWay_InvalidPiece ?su_InvalidWay_InvalidRoad ?ne_InvalidWay_InvalidRoad ?su_InvalidWay_InvalidSign ?ne_InvalidWay_InvalidSign ?su_InvalidWay_OtherShape ?ne_InvalidWay_OtherShape ?su_InvalidWay_TooMany ?ne_InvalidWay_TooMany ?hd_LimitError ?sb_LimitError ?ty_LimitError ?su_LimitError_InvalidIndex ?su_LimitError_InvalidLimit ?su_LimitError_InvalidNet ?su_LimitError_InvalidPiece ?su_LimitError_InvalidRoad ?su_LimitError_InvalidSign ?su_LimitError_InvalidWay ?su_LimitError_OtherShape ?su_LimitError_TooMany ?hd_OtherShape ?su_OtherShape_InvalidIndex ?ne_OtherShape_InvalidIndex ?su_OtherShape_InvalidLimit ?ne_OtherShape_InvalidLimit ?su_OtherShape_InvalidNet ?ne_OtherShape_InvalidNet ?su_OtherShape_InvalidPiece ?ne_OtherShape_InvalidPiece ?su_OtherShape_InvalidRoad ?ne_OtherShape_InvalidRoad ?su_OtherShape_InvalidSign ?ne_OtherShape_InvalidSign ?su_OtherShape_InvalidWay ?ne_OtherShape_InvalidWay ?su_OtherShape_TooMany ?ne_OtherShape_TooMany ?hd_TooMany ?su_TooMany_InvalidIndex ?ne_TooMany_InvalidIndex ?su_TooMany_InvalidLimit ?ne_TooMany_InvalidLimit ?su_TooMany_InvalidNet ?ne_TooMany_InvalidNet ?su_TooMany_InvalidPiece ?ne_TooMany_InvalidPiece ?su_TooMany_InvalidRoad ?ne_TooMany_InvalidRoad ?su_TooMany_InvalidSign ?ne_TooMany_InvalidSign ?su_TooMany_InvalidWay ?ne_TooMany_InvalidWay ?su_TooMany_OtherShape ?ne_TooMany_OtherShape ?ec_InvalidIndex ?ec_InvalidLimit ?ec_InvalidNet ?ec_InvalidPiece ?ec_InvalidRoad ?ec_InvalidSign ?ec_InvalidWay ?ec_OtherShape ?ec_TooMany ?kv_InvalidIndex ?kv_InvalidLimit ?kv_InvalidNet ?kv_InvalidPiece ?kv_InvalidRoad ?kv_InvalidSign ?kv_InvalidWay ?kv_OtherShape ?kv_TooMany
    (case a_is_int => k_is); (case l_is_int => k_is); (case c_is_int => k_is); (case k_is_int => k_is); (case a_are_signs => k_is); (case l_are_signs => k_is); (case c_are_signs => k_is); (case k_are_signs => k_is); (case a_is_road => k_is); (case l_is_road => k_is); (case c_is_road => k_is); (case k_is_road => k_is); (case a_is_net => k_is); (case l_is_net => k_is); (case c_is_net => k_is); (case k_is_net => k_is); (case a_check_net => k_is); (case l_check_net => k_is); (case c_check_net => k_is); (case k_check_net => k_is); (case a_check_road => k_is); (case l_check_road => k_is); (case c_check_road => k_is); (case k_check_road => k_is); (case a_has_way => k_is); (case l_has_way => k_is); (case c_has_way => k_is); (case k_has_way => k_is); (case a_is_way => k_is); (case l_is_way => k_is); (case c_is_way => k_is); (case k_is_way => k_is); (case a_find_followers => k_is); (case l_find_followers => k_is); (case c_find_followers => k_is); (case k_find_followers => k_is); (case a_followers => k_is); (case l_followers => k_is); (case c_followers => k_is); (case k_followers => k_is); (case a_find_standing => k_is); (case l_find_standing => k_is); (case c_find_standing => k_is); (case k_find_standing => k_is); (case a_standing => k_is); (case l_standing => k_is); (case c_standing => k_is); (case k_standing => k_is); (case a_count_pieces => k_is); (case l_count_pieces => k_is); (case c_count_pieces => k_is); (case k_count_pieces => k_is); (case a_pieces => k_is); (case l_pieces => k_is); (case c_pieces => k_is); (case k_pieces => k_is); (case a_leave => k_is); (case l_leave => k_is); (case c_leave => k_is); (case k_leave => k_is); (case a_go_over => k_is); (case l_go_over => k_is); (case c_go_over => k_is); (case k_go_over => k_is); (case a_check_way => k_is); (case l_check_way => k_is); (case c_check_way => k_is); (case k_check_way => k_is); (case a_find_limits => k_is); (case l_find_limits => k_is); (case c_find_limits => k_is); (case k_find_limits => k_is); (case a_limits => k_is); (case l_limits => k_is); (case c_limits => k_is); (case k_limits => k_is); (case a_state_after => k_is); (case l_state_after => k_is); (case c_state_after => k_is); (case k_state_after => k_is); (case a_flat => k_is); (case l_flat => k_is); (case c_flat => k_is); (case k_flat => k_is); (case a_changes => k_is); (case l_changes => k_is); (case c_changes => k_is); (case k_changes => k_is); (case a_least_limit => k_is); (case l_least_limit => k_is); (case c_least_limit => k_is); (case k_least_limit => k_is); (case a_set_signs => k_is); (case l_set_signs => k_is); (case c_set_signs => k_is); (case k_set_signs => k_is); (case a_drop => k_is); (case l_drop => k_is); (case c_drop => k_is); (case k_drop => k_is); (case a_without_sign => k_is); (case l_without_sign => k_is); (case c_without_sign => k_is); (case k_without_sign => k_is); (case a_with_sign => k_is); (case l_with_sign => k_is); (case c_with_sign => k_is); (case k_with_sign => k_is); (case a_pairs_of => k_is); (case l_pairs_of => k_is); (case c_pairs_of => k_is); (case k_pairs_of => k_is); (case a_does_nothing => k_is); (case l_does_nothing => k_is); (case c_does_nothing => k_is); (case k_does_nothing => k_is); (case a_is_idle => k_is); (case l_is_idle => k_is); (case c_is_idle => k_is); (case k_is_idle => k_is); (case a_find_idle => k_is); (case l_find_idle => k_is); (case c_find_idle => k_is); (case k_find_idle => k_is); (case a_idle_signs => k_is); (case l_idle_signs => k_is); (case c_idle_signs => k_is); (case k_idle_signs => k_is); (case a_shape => k_is); (case l_shape => k_is); (case c_shape => k_is); (case k_shape => k_is); (case a_check_two => k_is); (case l_check_two => k_is); (case c_check_two => k_is); (case k_check_two => k_is); (case a_same_shape => k_is); (case l_same_shape => k_is); (case c_same_shape => k_is); (case k_same_shape => k_is); (case a_find_parting => k_is); (case l_find_parting => k_is); (case c_find_parting => k_is); (case k_find_parting => k_is); (case a_same_limits => k_is); (case l_same_limits => k_is); (case c_same_limits => k_is); (case k_same_limits => k_is); (case a_parting_way => k_is); (case l_parting_way => k_is); (case c_parting_way => k_is); (case k_parting_way => k_is); (case a_most_idle => k_is); (case l_most_idle => k_is); (case c_most_idle => k_is); (case k_most_idle => k_is); (case a_find_places => k_is); (case l_find_places => k_is); (case c_find_places => k_is); (case k_find_places => k_is); (case a_find_states => k_is); (case l_find_states => k_is); (case c_find_states => k_is); (case k_find_states => k_is); (case a_states_at => k_is); (case l_states_at => k_is); (case c_states_at => k_is); (case k_states_at => k_is); (case a_find_possible => k_is); (case l_find_possible => k_is); (case c_find_possible => k_is); (case k_find_possible => k_is); (case a_possible => k_is); (case l_possible => k_is); (case c_possible => k_is); (case k_possible => k_is); (case a_find_unclear => k_is); (case l_find_unclear => k_is); (case c_find_unclear => k_is); (case k_find_unclear => k_is); (case a_unclear => k_is); (case l_unclear => k_is); (case c_unclear => k_is); (case k_unclear => k_is); (case a_is_clear => k_is); (case l_is_clear => k_is); (case c_is_clear => k_is); (case k_is_clear => k_is); (case a_find_shortest => k_is); (case l_find_shortest => k_is); (case c_find_shortest => k_is); (case k_find_shortest => k_is); (case a_shortest_with => k_is); (case l_shortest_with => k_is); (case c_shortest_with => k_is); (case k_shortest_with => k_is); (case a_witnesses => k_is); (case l_witnesses => k_is); (case c_witnesses => k_is); (case k_witnesses => k_is); (case a_farthest => k_is); (case l_farthest => k_is); (case c_farthest => k_is); (case k_farthest => k_is); (case a_l_class => k_is); (case l_l_class => k_is); (case c_l_class => k_is); (case k_l_class => k_is); (case a_l_result => k_is); (case l_l_result => k_is); (case c_l_result => k_is); (case k_l_result => k_is); (case a_l_all => k_is); (case l_l_all => k_is); (case c_l_all => k_is); (case k_l_all => k_is); (case a_l_pick => k_is); (case l_l_pick => k_is); (case c_l_pick => k_is); (case k_l_pick => k_is); (case a_l_map => k_is); (case l_l_map => k_is); (case c_l_map => k_is); (case k_l_map => k_is); (case a_l_nets => k_is); (case l_l_nets => k_is); (case c_l_nets => k_is); (case k_l_nets => k_is); (case rc_l_nets => decide +kernel); (case lc_l_nets => k_is); (case v11_l_nets => rfl); (case nk_l_nets => exact LW.km_nk Y (by decide)); (case a_l_numbered => k_is); (case l_l_numbered => k_is); (case c_l_numbered => k_is); (case k_l_numbered => k_is); (case rc_l_numbered => decide +kernel); (case lc_l_numbered => k_is); (case v11_l_numbered => rfl); (case nk_l_numbered => exact LW.km_nk Y (by decide)); (case a_l_placed => k_is); (case l_l_placed => k_is); (case c_l_placed => k_is); (case k_l_placed => k_is); (case rc_l_placed => decide +kernel); (case lc_l_placed => k_is); (case v11_l_placed => rfl); (case nk_l_placed => exact LW.km_nk Y (by decide)); (case a_law => k_is); (case l_law => k_is); (case c_law => k_is); (case k_law => k_is); (case rc_law => decide +kernel); (case lc_law => k_is); (case v11_law => rfl); (case nk_law => exact LW.km_nk Y (by decide)); (case tn_l_nets_l_numbered => decide); (case tn_l_nets_l_placed => decide); (case tn_l_nets_law => decide); (case tn_l_numbered_l_placed => decide); (case tn_l_numbered_law => decide); (case tn_l_placed_law => decide); (case z_ValueError => k_is); (case z_all => k_is); (case z_bool => k_is); (case z_enumerate => k_is); (case z_int => k_is); (case z_isinstance => k_is); (case z_len => k_is); (case z_max => k_is); (case z_min => k_is); (case z_range => k_is); (case z_set => k_is); (case z_sorted => k_is); (case z_tuple => k_is); (case z_zip => k_is); (case q_MAX_JUNCTION => k_is); (case q_MAX_LIMIT => k_is); (case q_MAX_ROADS => k_is); (case q_MAX_SIGNS => k_is); (case q_MAX_WAY => k_is); (case q_MIN_FAST => k_is); (case g_InvalidIndex => k_is); (case x_InvalidIndex => k_exc); (case kc_InvalidIndex => k_is); (case sb_InvalidIndex => k_is); (case ty_InvalidIndex => k_is); (case g_InvalidLimit => k_is); (case x_InvalidLimit => k_exc); (case kc_InvalidLimit => k_is); (case sb_InvalidLimit => k_is); (case ty_InvalidLimit => k_is); (case g_InvalidNet => k_is); (case x_InvalidNet => k_exc); (case kc_InvalidNet => k_is); (case sb_InvalidNet => k_is); (case ty_InvalidNet => k_is); (case g_InvalidPiece => k_is); (case x_InvalidPiece => k_exc); (case kc_InvalidPiece => k_is); (case sb_InvalidPiece => k_is); (case ty_InvalidPiece => k_is); (case g_InvalidRoad => k_is); (case x_InvalidRoad => k_exc); (case kc_InvalidRoad => k_is); (case sb_InvalidRoad => k_is); (case ty_InvalidRoad => k_is); (case g_InvalidSign => k_is); (case x_InvalidSign => k_exc); (case kc_InvalidSign => k_is); (case sb_InvalidSign => k_is); (case ty_InvalidSign => k_is); (case g_InvalidWay => k_is); (case x_InvalidWay => k_exc); (case kc_InvalidWay => k_is); (case sb_InvalidWay => k_is); (case ty_InvalidWay => k_is); (case g_OtherShape => k_is); (case x_OtherShape => k_exc); (case kc_OtherShape => k_is); (case sb_OtherShape => k_is); (case ty_OtherShape => k_is); (case g_TooMany => k_is); (case x_TooMany => k_exc); (case kc_TooMany => k_is); (case sb_TooMany => k_is); (case ty_TooMany => k_is); (case g_LimitError => k_is); (case hd_InvalidIndex => k_is); (case su_InvalidIndex_InvalidLimit => k_is); (case ne_InvalidIndex_InvalidLimit => decide); (case su_InvalidIndex_InvalidNet => k_is); (case ne_InvalidIndex_InvalidNet => decide); (case su_InvalidIndex_InvalidPiece => k_is); (case ne_InvalidIndex_InvalidPiece => decide); (case su_InvalidIndex_InvalidRoad => k_is); (case ne_InvalidIndex_InvalidRoad => decide); (case su_InvalidIndex_InvalidSign => k_is); (case ne_InvalidIndex_InvalidSign => decide); (case su_InvalidIndex_InvalidWay => k_is); (case ne_InvalidIndex_InvalidWay => decide); (case su_InvalidIndex_OtherShape => k_is); (case ne_InvalidIndex_OtherShape => decide); (case su_InvalidIndex_TooMany => k_is); (case ne_InvalidIndex_TooMany => decide); (case hd_InvalidLimit => k_is); (case su_InvalidLimit_InvalidIndex => k_is); (case ne_InvalidLimit_InvalidIndex => decide); (case su_InvalidLimit_InvalidNet => k_is); (case ne_InvalidLimit_InvalidNet => decide); (case su_InvalidLimit_InvalidPiece => k_is); (case ne_InvalidLimit_InvalidPiece => decide); (case su_InvalidLimit_InvalidRoad => k_is); (case ne_InvalidLimit_InvalidRoad => decide); (case su_InvalidLimit_InvalidSign => k_is); (case ne_InvalidLimit_InvalidSign => decide); (case su_InvalidLimit_InvalidWay => k_is); (case ne_InvalidLimit_InvalidWay => decide); (case su_InvalidLimit_OtherShape => k_is); (case ne_InvalidLimit_OtherShape => decide); (case su_InvalidLimit_TooMany => k_is); (case ne_InvalidLimit_TooMany => decide); (case hd_InvalidNet => k_is); (case su_InvalidNet_InvalidIndex => k_is); (case ne_InvalidNet_InvalidIndex => decide); (case su_InvalidNet_InvalidLimit => k_is); (case ne_InvalidNet_InvalidLimit => decide); (case su_InvalidNet_InvalidPiece => k_is); (case ne_InvalidNet_InvalidPiece => decide); (case su_InvalidNet_InvalidRoad => k_is); (case ne_InvalidNet_InvalidRoad => decide); (case su_InvalidNet_InvalidSign => k_is); (case ne_InvalidNet_InvalidSign => decide); (case su_InvalidNet_InvalidWay => k_is); (case ne_InvalidNet_InvalidWay => decide); (case su_InvalidNet_OtherShape => k_is); (case ne_InvalidNet_OtherShape => decide); (case su_InvalidNet_TooMany => k_is); (case ne_InvalidNet_TooMany => decide); (case hd_InvalidPiece => k_is); (case su_InvalidPiece_InvalidIndex => k_is); (case ne_InvalidPiece_InvalidIndex => decide); (case su_InvalidPiece_InvalidLimit => k_is); (case ne_InvalidPiece_InvalidLimit => decide); (case su_InvalidPiece_InvalidNet => k_is); (case ne_InvalidPiece_InvalidNet => decide); (case su_InvalidPiece_InvalidRoad => k_is); (case ne_InvalidPiece_InvalidRoad => decide); (case su_InvalidPiece_InvalidSign => k_is); (case ne_InvalidPiece_InvalidSign => decide); (case su_InvalidPiece_InvalidWay => k_is); (case ne_InvalidPiece_InvalidWay => decide); (case su_InvalidPiece_OtherShape => k_is); (case ne_InvalidPiece_OtherShape => decide); (case su_InvalidPiece_TooMany => k_is); (case ne_InvalidPiece_TooMany => decide); (case hd_InvalidRoad => k_is); (case su_InvalidRoad_InvalidIndex => k_is); (case ne_InvalidRoad_InvalidIndex => decide); (case su_InvalidRoad_InvalidLimit => k_is); (case ne_InvalidRoad_InvalidLimit => decide); (case su_InvalidRoad_InvalidNet => k_is); (case ne_InvalidRoad_InvalidNet => decide); (case su_InvalidRoad_InvalidPiece => k_is); (case ne_InvalidRoad_InvalidPiece => decide); (case su_InvalidRoad_InvalidSign => k_is); (case ne_InvalidRoad_InvalidSign => decide); (case su_InvalidRoad_InvalidWay => k_is); (case ne_InvalidRoad_InvalidWay => decide); (case su_InvalidRoad_OtherShape => k_is); (case ne_InvalidRoad_OtherShape => decide); (case su_InvalidRoad_TooMany => k_is); (case ne_InvalidRoad_TooMany => decide); (case hd_InvalidSign => k_is); (case su_InvalidSign_InvalidIndex => k_is); (case ne_InvalidSign_InvalidIndex => decide); (case su_InvalidSign_InvalidLimit => k_is); (case ne_InvalidSign_InvalidLimit => decide); (case su_InvalidSign_InvalidNet => k_is); (case ne_InvalidSign_InvalidNet => decide); (case su_InvalidSign_InvalidPiece => k_is); (case ne_InvalidSign_InvalidPiece => decide); (case su_InvalidSign_InvalidRoad => k_is); (case ne_InvalidSign_InvalidRoad => decide); (case su_InvalidSign_InvalidWay => k_is); (case ne_InvalidSign_InvalidWay => decide); (case su_InvalidSign_OtherShape => k_is); (case ne_InvalidSign_OtherShape => decide); (case su_InvalidSign_TooMany => k_is); (case ne_InvalidSign_TooMany => decide); (case hd_InvalidWay => k_is); (case su_InvalidWay_InvalidIndex => k_is); (case ne_InvalidWay_InvalidIndex => decide); (case su_InvalidWay_InvalidLimit => k_is); (case ne_InvalidWay_InvalidLimit => decide); (case su_InvalidWay_InvalidNet => k_is); (case ne_InvalidWay_InvalidNet => decide); (case su_InvalidWay_InvalidPiece => k_is); (case ne_InvalidWay_InvalidPiece => decide); (case su_InvalidWay_InvalidRoad => k_is); (case ne_InvalidWay_InvalidRoad => decide); (case su_InvalidWay_InvalidSign => k_is); (case ne_InvalidWay_InvalidSign => decide); (case su_InvalidWay_OtherShape => k_is); (case ne_InvalidWay_OtherShape => decide); (case su_InvalidWay_TooMany => k_is); (case ne_InvalidWay_TooMany => decide); (case hd_LimitError => k_is); (case sb_LimitError => k_is); (case ty_LimitError => k_is); (case su_LimitError_InvalidIndex => k_is); (case su_LimitError_InvalidLimit => k_is); (case su_LimitError_InvalidNet => k_is); (case su_LimitError_InvalidPiece => k_is); (case su_LimitError_InvalidRoad => k_is); (case su_LimitError_InvalidSign => k_is); (case su_LimitError_InvalidWay => k_is); (case su_LimitError_OtherShape => k_is); (case su_LimitError_TooMany => k_is); (case hd_OtherShape => k_is); (case su_OtherShape_InvalidIndex => k_is); (case ne_OtherShape_InvalidIndex => decide); (case su_OtherShape_InvalidLimit => k_is); (case ne_OtherShape_InvalidLimit => decide); (case su_OtherShape_InvalidNet => k_is); (case ne_OtherShape_InvalidNet => decide); (case su_OtherShape_InvalidPiece => k_is); (case ne_OtherShape_InvalidPiece => decide); (case su_OtherShape_InvalidRoad => k_is); (case ne_OtherShape_InvalidRoad => decide); (case su_OtherShape_InvalidSign => k_is); (case ne_OtherShape_InvalidSign => decide); (case su_OtherShape_InvalidWay => k_is); (case ne_OtherShape_InvalidWay => decide); (case su_OtherShape_TooMany => k_is); (case ne_OtherShape_TooMany => decide); (case hd_TooMany => k_is); (case su_TooMany_InvalidIndex => k_is); (case ne_TooMany_InvalidIndex => decide); (case su_TooMany_InvalidLimit => k_is); (case ne_TooMany_InvalidLimit => decide); (case su_TooMany_InvalidNet => k_is); (case ne_TooMany_InvalidNet => decide); (case su_TooMany_InvalidPiece => k_is); (case ne_TooMany_InvalidPiece => decide); (case su_TooMany_InvalidRoad => k_is); (case ne_TooMany_InvalidRoad => decide); (case su_TooMany_InvalidSign => k_is); (case ne_TooMany_InvalidSign => decide); (case su_TooMany_InvalidWay => k_is); (case ne_TooMany_InvalidWay => decide); (case su_TooMany_OtherShape => k_is); (case ne_TooMany_OtherShape => decide); (case ec_InvalidIndex => constructor <;> k_is); (case ec_InvalidLimit => constructor <;> k_is); (case ec_InvalidNet => constructor <;> k_is); (case ec_InvalidPiece => constructor <;> k_is); (case ec_InvalidRoad => constructor <;> k_is); (case ec_InvalidSign => constructor <;> k_is); (case ec_InvalidWay => constructor <;> k_is); (case ec_OtherShape => constructor <;> k_is); (case ec_TooMany => constructor <;> k_is); (case kv_InvalidIndex => k_is); (case kv_InvalidLimit => k_is); (case kv_InvalidNet => k_is); (case kv_InvalidPiece => k_is); (case kv_InvalidRoad => k_is); (case kv_InvalidSign => k_is); (case kv_InvalidWay => k_is); (case kv_OtherShape => k_is); (case kv_TooMany => k_is)
